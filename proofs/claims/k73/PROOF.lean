import PyProof.Rows.All
import HandS.ForMost
import HandS.Deep
import HandS.Conv
import HandS.Rev
import HandS.RevRange
import HandS.Zip
import HandS.SortInts
import HandS.SortRule
import HandS.TupLe
import HandS.TupAny
import HandS.TupMul
import HandS.Wide
import HandS.WideBits
import HandS.Gcd
import HandS.IsInst
import HandS.Style
import HandS.Flow
import HandS.Strs
import KE.GoesMore
import KE.GoesEnum
import HandS.SortKw
import KE.DataMinMax
import PySem.Challenge.RW_groupsnear_k73_trees_apart
set_option Elab.async false
set_option linter.all false
set_option maxRecDepth 100000
set_option maxHeartbeats 4000000
set_option autoImplicit false
/-! The M-layer: pure mirrors of defs over data and a store of mutable cells, and their judgements over HandS. -/
namespace GM
open PySem L2

/-- data: no identity, never changed -/
inductive D where
  | non | bl (b : Bool) | int (i : Int) | str (x : Str) | tup (ds : List D) | lst (ds : List D) | scr (ds : List D)
/-- what a slot, an argument, a cell's item holds: data, the cell k of the store, or a value of its own -/
inductive W where
  | d (x : D) | ref (k : Nat) | op (v : V)
/-- a cell of the store: a list, a dict; dead: it is not changed any more -/
inductive Cell where
  | lst (ws : List W) | dct (kvs : List (D × W)) | dead
abbrev Sto := List Cell
abbrev Rho := List (Option W)

/-! ### how data lies in the heap; N: the addresses that may still change -/
section
variable (K : PySem.W.Frag) (N : Addr → Prop) (H : Hp)
def Kl (a : Addr) (xs : List V) : Prop := ∃ (o : Obj) (its : Array Value) (n : Nat), K.lookup a = some o ∧ o.cls = .type "list" ∧ o.dict = none ∧ o.data = .seq its n ∧ its.size ≤ sizeLine ∧ Vals xs its.toList
def LstAt (a : Addr) (xs : List V) : Prop := H a = some (.lst xs) ∧ ¬ N a
/-- a list that is locked throughout: the script -/
def FrzAt (a : Addr) (xs : List V) : Prop := (∃ o, H a = some (.frz o (.lst xs))) ∨ Kl K a xs
mutual
def RepD : D → V → Prop
  | .non, v => v = .non
  | .bl b, v => v = .bl b
  | .int i, v => v = .int i
  | .str x, v => v = .str x
  | .tup ds, v => ∃ a vs, v = .ref a ∧ SqT K H a vs ∧ RepDs ds vs
  | .lst ds, v => ∃ a vs, v = .ref a ∧ LstAt N H a vs ∧ RepDs ds vs
  | .scr ds, v => ∃ a vs, v = .ref a ∧ FrzAt K H a vs ∧ RepDs ds vs
def RepDs : List D → List V → Prop
  | [], vs => vs = []
  | d :: ds, vs => ∃ v r, vs = v :: r ∧ RepD d v ∧ RepDs ds r
end
end
section
variable {K : PySem.W.Frag} {N N' : Addr → Prop} {H H' : Hp}
theorem repDs_iff : ∀ {ds : List D} {vs : List V}, RepDs K N H ds vs ↔ Paired (RepD K N H) ds vs
  | [], vs => by
    constructor
    · intro h; rw [RepDs] at h; subst h; exact .nil
    · intro h; cases h; rw [RepDs]
  | d :: ds, vs => by
    constructor
    · intro h
      rw [RepDs] at h
      obtain ⟨v, r, rfl, h1, h2⟩ := h
      exact .cons h1 (repDs_iff.mp h2)
    · intro h
      cases h with
      | cons h1 h2 => rw [RepDs]; exact ⟨_, _, rfl, h1, repDs_iff.mpr h2⟩
theorem LstAt.sq {a : Addr} {xs : List V} (h : LstAt N H a xs) : SqL K H a xs := .inl (.inl h.1)
theorem FrzAt.sq {a : Addr} {xs : List V} (h : FrzAt K H a xs) : SqL K H a xs := by
  rcases h with h | h
  · exact .inl (.inr h)
  · exact .inr h
/-- the heap has gone on: all but M stands as it was; N is what data does not lean on, before, N' behind -/
structure Go (M N N' : Addr → Prop) (H H' : Hp) : Prop where
  ext : ∀ a o, H a = some o → ¬ M a → H' a = some o
  new : ∀ a, N' a → N a ∨ H a = none
  mu : ∀ a, M a → Mut (H a)
  sub : ∀ a, M a → N a
section
variable {M : Addr → Prop}
theorem Go.tup (g : Go M N N' H H') {a : Addr} {xs : List V} (h : SqT K H a xs) : SqT K H' a xs := by
  rcases h with (h | ⟨o, h⟩) | h
  · refine .inl (.inl (g.ext _ _ h fun n => ?_))
    have := g.mu a n
    rw [h] at this; exact this
  · refine .inl (.inr ⟨o, g.ext _ _ h fun n => ?_⟩)
    have := g.mu a n
    rw [h] at this; exact this
  · exact .inr h
theorem Go.lst (g : Go M N N' H H') {a : Addr} {xs : List V} (h : LstAt N H a xs) : LstAt N' H' a xs := by
  obtain ⟨h, n⟩ := h
  have nm : ¬ M a := fun z => n (g.sub a z)
  exact ⟨g.ext _ _ h nm, fun z => by rcases g.new a z with z | z; exact n z; rw [h] at z; cases z⟩
theorem Go.frz (g : Go M N N' H H') {a : Addr} {xs : List V} (h : FrzAt K H a xs) : FrzAt K H' a xs := by
  rcases h with ⟨o, h⟩ | h
  · refine .inl ⟨o, g.ext _ _ h fun n => ?_⟩
    have := g.mu a n
    rw [h] at this; exact this
  · exact .inr h
mutual
theorem RepD.mono (g : Go M N N' H H') : ∀ {d : D} {v : V}, RepD K N H d v → RepD K N' H' d v
  | .non, v, h => by rw [RepD] at h ⊢; exact h
  | .bl b, v, h => by rw [RepD] at h ⊢; exact h
  | .int i, v, h => by rw [RepD] at h ⊢; exact h
  | .str x, v, h => by rw [RepD] at h ⊢; exact h
  | .tup ds, v, h => by
    rw [RepD] at h ⊢
    obtain ⟨a, vs, e, h1, h2⟩ := h
    exact ⟨a, vs, e, g.tup h1, RepDs.mono g h2⟩
  | .lst ds, v, h => by
    rw [RepD] at h ⊢
    obtain ⟨a, vs, e, h1, h2⟩ := h
    exact ⟨a, vs, e, g.lst h1, RepDs.mono g h2⟩
  | .scr ds, v, h => by
    rw [RepD] at h ⊢
    obtain ⟨a, vs, e, h1, h2⟩ := h
    exact ⟨a, vs, e, g.frz h1, RepDs.mono g h2⟩
theorem RepDs.mono (g : Go M N N' H H') : ∀ {ds : List D} {vs : List V}, RepDs K N H ds vs → RepDs K N' H' ds vs
  | [], vs, h => by rw [RepDs] at h ⊢; exact h
  | d :: ds, vs, h => by
    rw [RepDs] at h ⊢
    obtain ⟨v, r, e, h1, h2⟩ := h
    exact ⟨v, r, e, RepD.mono g h1, RepDs.mono g h2⟩
end
end
end

/-! ### the store -/
/-- the addresses of the store's cells -/
def NA (μ : List Addr) (S : Sto) (a : Addr) : Prop := ∃ (k : Nat) (c : Cell), μ[k]? = some a ∧ S[k]? = some c ∧ c ≠ Cell.dead
/-- .. and lists that are being made by others -/
def NF (F : Addr → Prop) (μ : List Addr) (S : Sto) (a : Addr) : Prop := NA μ S a ∨ F a
def RepW (K : PySem.W.Frag) (μ : List Addr) (N : Addr → Prop) (H : Hp) : W → V → Prop
  | .d x, v => RepD K N H x v
  | .ref k, v => ∃ a, μ[k]? = some a ∧ v = .ref a
  | .op u, v => v = u
abbrev RepWs (K : PySem.W.Frag) (μ : List Addr) (N : Addr → Prop) (H : Hp) : List W → List V → Prop := Paired (RepW K μ N H)
/-- a key of a dict: an int, a text -/
def keyD : D → Option Key
  | .int i => some (.inl i)
  | .str x => some (.inr x)
  | _ => none
def CellOk (K : PySem.W.Frag) (μ : List Addr) (N : Addr → Prop) (H : Hp) (a : Addr) : Cell → Prop
  | .dead => True
  | .lst ws => ∃ vs, H a = some (.lst vs) ∧ RepWs K μ N H ws vs
  | .dct kvs => ∃ es : List (Key × V), H a = some (.dK es) ∧ Paired (fun (p : D × W) (q : Key × V) => keyD p.1 = some q.1 ∧ RepW K μ N H p.2 q.2) kvs es
structure RS (K : PySem.W.Frag) (F : Addr → Prop) (μ : List Addr) (S : Sto) (H : Hp) : Prop where
  len : μ.length = S.length
  inj : ∀ (j k : Nat) (a : Addr) (c c' : Cell), μ[j]? = some a → μ[k]? = some a → S[j]? = some c → S[k]? = some c' → c ≠ Cell.dead → c' ≠ Cell.dead → j = k
  at_ : ∀ (k : Nat) (a : Addr) (c : Cell), μ[k]? = some a → S[k]? = some c → CellOk K μ (NF F μ S) H a c
  fm : ∀ a, F a → Mut (H a)
  fd : ∀ a, F a → ¬ NA μ S a
structure RSt (K : PySem.W.Frag) (μ : List Addr) (N : Addr → Prop) (H : Hp) (σ : L2.St) (ρ : Rho) : Prop where
  len : σ.length = ρ.length
  at_ : ∀ (i : Nat) (w : W), ρ[i]? = some (some w) → ∃ v, σ[i]? = some (some v) ∧ RepW K μ N H w v
/-- the state has gone on -/
structure Gs (K : PySem.W.Frag) (F : Addr → Prop) (μ : List Addr) (S : Sto) (H : Hp) (μ' : List Addr) (S' : Sto) (H' : Hp) : Prop where
  pre : ∃ ν, μ' = μ ++ ν
  go : Go (NA μ S) (NF F μ S) (NF F μ' S') H H'
  na : ∀ a, NA μ' S' a → NA μ S a ∨ H a = none
  rs : RS K F μ' S' H'
section
variable {K : PySem.W.Frag} {F : Addr → Prop} {μ μ' μ2 : List Addr} {M N N' : Addr → Prop} {S S' S2 : Sto} {H H' H2 : Hp} {σ : L2.St} {ρ : Rho}
theorem RS.mut (r : RS K F μ S H) : ∀ a, NA μ S a → Mut (H a) := fun a ⟨k, c, h1, h2, h3⟩ => by
  have q := r.at_ k a c h1 h2
  cases c with
  | dead => exact absurd rfl h3
  | lst ws => obtain ⟨vs, e, _⟩ := q; rw [e]; trivial
  | dct kvs => obtain ⟨es, e, _⟩ := q; rw [e]; trivial
theorem mut_there {a : Addr} (h : Mut (H a)) : H a ≠ none := fun e => by rw [e] at h; exact h
theorem RS.there (r : RS K F μ S H) {a : Addr} (h : NF F μ S a) : H a ≠ none := by
  rcases h with h | h
  · exact mut_there (r.mut a h)
  · exact mut_there (r.fm a h)
theorem RepW.mono (g : Go M N N' H H') (p : ∃ ν, μ' = μ ++ ν) : ∀ {w : W} {v : V}, RepW K μ N H w v → RepW K μ' N' H' w v
  | .d x, v, h => RepD.mono g h
  | .ref k, v, h => by
    obtain ⟨a, h1, h2⟩ := h
    obtain ⟨ν, rfl⟩ := p
    refine ⟨a, ?_, h2⟩
    rw [List.getElem?_append_left (by rw [List.getElem?_eq_some_iff] at h1; exact h1.1)]; exact h1
  | .op u, v, h => h
theorem pairedMono {α β : Type} {F G : α → β → Prop} (f : ∀ a b, F a b → G a b) : ∀ {l : List α} {m : List β}, Paired F l m → Paired G l m
  | _, _, .nil => .nil
  | _, _, .cons r t => .cons (f _ _ r) (pairedMono f t)
theorem RepWs.mono (g : Go M N N' H H') (p : ∃ ν, μ' = μ ++ ν) {ws : List W} {vs : List V} (h : RepWs K μ N H ws vs) : RepWs K μ' N' H' ws vs :=
  pairedMono (fun _ _ q => RepW.mono g p q) h
theorem CellOk.mono (g : Go M N N' H H') (p : ∃ ν, μ' = μ ++ ν) {a : Addr} : ∀ {c : Cell}, CellOk K μ N H a c → (∀ o, H a = some o → H' a = some o) → CellOk K μ' N' H' a c
  | .dead, _, _ => trivial
  | .lst ws, h, e => by obtain ⟨vs, h1, h2⟩ := h; exact ⟨vs, e _ h1, RepWs.mono g p h2⟩
  | .dct kvs, h, e => by obtain ⟨es, h1, h2⟩ := h; exact ⟨es, e _ h1, pairedMono (fun _ _ ⟨q1, q2⟩ => ⟨q1, RepW.mono g p q2⟩) h2⟩
theorem RSt.mono (g : Go M N N' H H') (p : ∃ ν, μ' = μ ++ ν) (h : RSt K μ N H σ ρ) : RSt K μ' N' H' σ ρ :=
  ⟨h.len, fun i w e => by obtain ⟨v, e1, r⟩ := h.at_ i w e; exact ⟨v, e1, r.mono g p⟩⟩
theorem Gs.refl (r : RS K F μ S H) : Gs K F μ S H μ S H := ⟨⟨[], by simp⟩, ⟨fun _ _ h _ => h, fun _ h => .inl h, r.mut, fun _ h => .inl h⟩, fun _ h => .inl h, r⟩
theorem Gs.trans (a : Gs K F μ S H μ' S' H') (b : Gs K F μ' S' H' μ2 S2 H2) : Gs K F μ S H μ2 S2 H2 := by
  obtain ⟨⟨ν, rfl⟩, ga, na, ra⟩ := a
  obtain ⟨⟨ν', rfl⟩, gb, nb, rb⟩ := b
  have hn : ∀ c, H c = none ∨ (∃ o, H c = some o ∧ ¬ NA μ S c ∧ H' c = some o) ∨ NA μ S c := fun c => by
    cases q : H c with
    | none => exact .inl rfl
    | some o =>
      by_cases z : NA μ S c
      · exact .inr (.inr z)
      · exact .inr (.inl ⟨o, rfl, z, ga.ext c o q z⟩)
  have hna : ∀ c, NA (μ ++ ν ++ ν') S2 c → NA μ S c ∨ H c = none := fun c n => by
    rcases nb c n with n | n
    · exact na c n
    · rcases hn c with z | ⟨o, _, _, z⟩ | z
      · exact .inr z
      · rw [z] at n; cases n
      · exact .inl z
  refine ⟨⟨ν ++ ν', by rw [List.append_assoc]⟩, ⟨fun a o e n => ?_, fun a n => ?_, ga.mu, ga.sub⟩, hna, rb⟩
  · refine gb.ext a o (ga.ext a o e n) fun n' => ?_
    rcases na a n' with z | z
    · exact n z
    · rw [e] at z; cases z
  · rcases n with n | n
    · rcases hna a n with n | n
      · exact .inl (.inl n)
      · exact .inr n
    · exact .inl (.inr n)
/-- new objects that nothing tracks as changing: the store as it is -/
def Fr (H H' : Hp) : Prop := ∀ a o, H a = some o → H' a = some o
theorem Fr.refl : Fr H H := fun _ _ h => h
theorem Fr.trans (a : Fr H H') (b : Fr H' H2) : Fr H H2 := fun c o h => b c o (a c o h)
theorem Fr.upd {p : Addr} {o : HO} (h : H p = none) : Fr H (upd H p o) := fun b u e => by rw [upd_ne (ne_of_none e h)]; exact e
theorem Fr.mut (f : Fr H H') {a : Addr} (h : Mut (H a)) : Mut (H' a) := by
  cases q : H a with
  | none => rw [q] at h; exact h.elim
  | some o => rw [f a o q, ← q]; exact h
theorem Fr.gs (r : RS K F μ S H) (f : Fr H H') : Gs K F μ S H μ S H' := by
  have g : Go (NA μ S) (NF F μ S) (NF F μ S) H H' := ⟨fun a o e _ => f a o e, fun a h => .inl h, r.mut, fun _ h => .inl h⟩
  exact ⟨⟨[], by simp⟩, g, fun _ h => .inl h, r.len, r.inj, fun k a c h1 h2 => (r.at_ k a c h1 h2).mono g ⟨[], by simp⟩ fun o e => f a o e, fun a h => f.mut (r.fm a h), r.fd⟩
theorem na_append {p : Addr} {c : Cell} (hl : μ.length = S.length) {a : Addr} : NA (μ ++ [p]) (S ++ [c]) a ↔ NA μ S a ∨ (a = p ∧ c ≠ Cell.dead) := by
  constructor
  · rintro ⟨k, c', h1, h2, h3⟩
    by_cases hk : k < μ.length
    · rw [List.getElem?_append_left hk] at h1
      rw [List.getElem?_append_left (by omega)] at h2
      exact .inl ⟨k, c', h1, h2, h3⟩
    · have e : k = μ.length := by
        have := (List.getElem?_eq_some_iff.mp h1).1
        rw [List.length_append, List.length_singleton] at this
        omega
      subst e
      rw [List.getElem?_append_right (Nat.le_refl _), Nat.sub_self] at h1
      rw [List.getElem?_append_right (by omega), hl, Nat.sub_self] at h2
      simp at h1 h2
      subst h1 h2
      exact .inr ⟨rfl, h3⟩
  · rintro (⟨k, c', h1, h2, h3⟩ | ⟨rfl, h3⟩)
    · have l1 := (List.getElem?_eq_some_iff.mp h1).1
      refine ⟨k, c', ?_, ?_, h3⟩
      · rw [List.getElem?_append_left l1]; exact h1
      · rw [List.getElem?_append_left (by omega)]; exact h2
    · refine ⟨μ.length, c, ?_, ?_, h3⟩
      · rw [List.getElem?_append_right (Nat.le_refl _), Nat.sub_self]; rfl
      · rw [List.getElem?_append_right (by omega), hl, Nat.sub_self]; rfl
/-- a new cell -/
theorem Gs.cell {p : Addr} {o : HO} {c : Cell} (r : RS K F μ S H) (hp : H p = none) (hc : c ≠ Cell.dead)
    (ok : ∀ {N'}, Go (NA μ S) (NF F μ S) N' H (upd H p o) → CellOk K (μ ++ [p]) N' (upd H p o) p c) : Gs K F μ S H (μ ++ [p]) (S ++ [c]) (upd H p o) := by
  have hna : ∀ a, NA (μ ++ [p]) (S ++ [c]) a → NA μ S a ∨ H a = none := fun a h => by
    rcases (na_append r.len).mp h with h | ⟨rfl, _⟩
    · exact .inl h
    · exact .inr hp
  have g : Go (NA μ S) (NF F μ S) (NF F (μ ++ [p]) (S ++ [c])) H (upd H p o) := ⟨fun a u e _ => Fr.upd hp a u e, fun a h => by
    rcases h with h | h
    · rcases hna a h with h | h
      · exact .inl (.inl h)
      · exact .inr h
    · exact .inl (.inr h), r.mut, fun _ h => .inl h⟩
  have np : ∀ (k : Nat) c', μ[k]? = some p → S[k]? = some c' → c' = .dead := fun k c' h1 h2 => by
    cases c' with
    | dead => rfl
    | lst ws => exact absurd hp (r.there (.inl ⟨k, _, h1, h2, fun z => nomatch z⟩))
    | dct ws => exact absurd hp (r.there (.inl ⟨k, _, h1, h2, fun z => nomatch z⟩))
  have sp : ∀ (k : Nat) (a : Addr) (c' : Cell), (μ ++ [p])[k]? = some a → (S ++ [c])[k]? = some c' → (μ[k]? = some a ∧ S[k]? = some c') ∨ (k = μ.length ∧ a = p ∧ c' = c) := fun k a c' h1 h2 => by
    by_cases hk : k < μ.length
    · rw [List.getElem?_append_left hk] at h1
      rw [List.getElem?_append_left (by have := r.len; omega)] at h2
      exact .inl ⟨h1, h2⟩
    · have e : k = μ.length := by
        have := (List.getElem?_eq_some_iff.mp h1).1
        rw [List.length_append, List.length_singleton] at this
        omega
      subst e
      rw [List.getElem?_append_right (Nat.le_refl _), Nat.sub_self] at h1
      rw [List.getElem?_append_right (by have := r.len; omega), r.len, Nat.sub_self] at h2
      simp at h1 h2
      exact .inr ⟨rfl, h1.symm, h2.symm⟩
  refine ⟨⟨[p], rfl⟩, g, hna, by rw [List.length_append, List.length_append, r.len]; rfl, fun j k a c1 c2 h1 h2 h3 h4 n1 n2 => ?_, fun k a c' h1 h2 => ?_, fun a h => (Fr.upd hp).mut (r.fm a h), fun a h z => ?_⟩
  · rcases sp j a c1 h1 h3 with ⟨a1, a2⟩ | ⟨a1, a2, a3⟩ <;> rcases sp k a c2 h2 h4 with ⟨b1, b2⟩ | ⟨b1, b2, b3⟩
    · exact r.inj j k a c1 c2 a1 b1 a2 b2 n1 n2
    · subst b2; exact absurd (np j c1 a1 a2) n1
    · subst a2; exact absurd (np k c2 b1 b2) n2
    · rw [a1, b1]
  · rcases sp k a c' h1 h2 with ⟨a1, a2⟩ | ⟨_, rfl, rfl⟩
    · exact (r.at_ k a c' a1 a2).mono g ⟨[p], rfl⟩ fun o e => Fr.upd hp a o e
    · exact ok g
  · rcases hna a z with z | z
    · exact r.fd a h z
    · exact mut_there (r.fm a h) z
theorem na_set {k : Nat} {c c' : Cell} (h : S[k]? = some c) (n : c ≠ Cell.dead) (n' : c' ≠ Cell.dead) {a : Addr} : NA μ (S.set k c') a ↔ NA μ S a := by
  have hk := (List.getElem?_eq_some_iff.mp h).1
  constructor
  · rintro ⟨j, x, h1, h2, h3⟩
    by_cases e : k = j
    · subst e; exact ⟨k, c, h1, h, n⟩
    · rw [List.getElem?_set_ne e] at h2; exact ⟨j, x, h1, h2, h3⟩
  · rintro ⟨j, x, h1, h2, h3⟩
    by_cases e : k = j
    · subst e; exact ⟨k, c', h1, List.getElem?_set_self hk, n'⟩
    · exact ⟨j, x, h1, by rw [List.getElem?_set_ne e]; exact h2, h3⟩
/-- a cell is written -/
theorem Gs.write {k : Nat} {a : Addr} {c c' : Cell} {o : HO} (r : RS K F μ S H) (hk : μ[k]? = some a) (hc : S[k]? = some c) (n : c ≠ Cell.dead) (n' : c' ≠ Cell.dead)
    (ok : ∀ {N'}, Go (NA μ S) (NF F μ S) N' H (upd H a o) → CellOk K μ N' (upd H a o) a c') : Gs K F μ S H μ (S.set k c') (upd H a o) := by
  have hN : NA μ S a := ⟨k, c, hk, hc, n⟩
  have hna : ∀ b, NA μ (S.set k c') b → NA μ S b ∨ H b = none := fun b h => .inl ((na_set hc n n').mp h)
  have g : Go (NA μ S) (NF F μ S) (NF F μ (S.set k c')) H (upd H a o) := ⟨fun b u e nb => by rw [upd_ne (fun z => nb (by rw [z]; exact hN))]; exact e, fun b h => by
    rcases h with h | h
    · exact .inl (.inl ((na_set hc n n').mp h))
    · exact .inl (.inr h), r.mut, fun _ h => .inl h⟩
  have hl := (List.getElem?_eq_some_iff.mp hc).1
  have live : ∀ (j : Nat) (b : Addr) (x : Cell), μ[j]? = some b → (S.set k c')[j]? = some x → x ≠ .dead → ∃ y, S[j]? = some y ∧ y ≠ .dead := fun j b x h1 h2 h3 => by
    by_cases e : k = j
    · subst e; exact ⟨c, hc, n⟩
    · rw [List.getElem?_set_ne e] at h2; exact ⟨x, h2, h3⟩
  have fne : ∀ b, F b → b ≠ a := fun b h z => r.fd b h (by rw [z]; exact hN)
  refine ⟨⟨[], by simp⟩, g, hna, by rw [List.length_set]; exact r.len, fun i j b x y h1 h2 h3 h4 n1 n2 => ?_, fun j b x h1 h2 => ?_, fun b h => by rw [upd_ne (fne b h)]; exact r.fm b h, fun b h z => r.fd b h ((na_set hc n n').mp z)⟩
  · obtain ⟨x', h3', n1'⟩ := live i b x h1 h3 n1
    obtain ⟨y', h4', n2'⟩ := live j b y h2 h4 n2
    exact r.inj i j b x' y' h1 h2 h3' h4' n1' n2'
  · by_cases e : k = j
    · subst e
      rw [List.getElem?_set_self hl] at h2
      rw [hk] at h1
      cases h1; cases h2
      exact ok g
    · rw [List.getElem?_set_ne e] at h2
      cases x with
      | dead => trivial
      | lst ws =>
        refine (r.at_ j b _ h1 h2).mono g ⟨[], by simp⟩ fun u q => ?_
        rw [upd_ne fun z => ?_]; exact q
        subst z
        exact e (r.inj k j b c _ hk h1 hc h2 n (fun z => nomatch z))
      | dct ws =>
        refine (r.at_ j b _ h1 h2).mono g ⟨[], by simp⟩ fun u q => ?_
        rw [upd_ne fun z => ?_]; exact q
        subst z
        exact e (r.inj k j b c _ hk h1 hc h2 n (fun z => nomatch z))
/-! ### a list in the making at p -/
abbrev Fp (F : Addr → Prop) (p : Addr) : Addr → Prop := fun a => F a ∨ a = p
def less (H : Hp) (p : Addr) : Hp := fun b => if b = p then none else H b
theorem less_self {p : Addr} : less H p p = none := if_pos rfl
theorem less_ne {p b : Addr} (h : b ≠ p) : less H p b = H b := if_neg h
theorem upd_less {p : Addr} {o : HO} (h : H p = some o) : upd (less H p) p o = H := by
  funext b
  by_cases e : b = p
  · subst e; rw [upd_same, h]
  · rw [upd_ne e, less_ne e]
/-- it begins -/
theorem RS.open_ {p : Addr} {xs : List V} (r : RS K F μ S H) (hp : H p = none) : RS K (Fp F p) μ S (upd H p (.lst xs)) ∧ Go (NA μ S) (NF F μ S) (NF (Fp F p) μ S) H (upd H p (.lst xs)) := by
  have g : Go (NA μ S) (NF F μ S) (NF (Fp F p) μ S) H (upd H p (.lst xs)) := ⟨fun a o e _ => Fr.upd hp a o e, fun a h => by
    rcases h with h | h | h
    · exact .inl (.inl h)
    · exact .inl (.inr h)
    · rw [h]; exact .inr hp, r.mut, fun _ h => .inl h⟩
  refine ⟨⟨r.len, r.inj, fun k a c h1 h2 => (r.at_ k a c h1 h2).mono g ⟨[], by simp⟩ fun o e => Fr.upd hp a o e, fun a h => ?_, fun a h z => ?_⟩, g⟩
  · rcases h with h | h
    · exact (Fr.upd hp).mut (r.fm a h)
    · subst h; rw [upd_same]; trivial
  · rcases h with h | h
    · exact r.fd a h z
    · subst h; exact mut_there (r.mut _ z) hp
/-- it grows -/
theorem RS.grow {p : Addr} {xs : List V} (r : RS K (Fp F p) μ S H) : RS K (Fp F p) μ S (upd H p (.lst xs)) ∧ Go (fun a => a = p) (NF (Fp F p) μ S) (NF (Fp F p) μ S) H (upd H p (.lst xs)) := by
  have g : Go (fun a => a = p) (NF (Fp F p) μ S) (NF (Fp F p) μ S) H (upd H p (.lst xs)) := ⟨fun a o e n => by rw [upd_ne n]; exact e, fun a h => .inl h, fun a h => by subst h; exact r.fm _ (.inr rfl), fun a h => .inr (.inr h)⟩
  refine ⟨⟨r.len, r.inj, fun k a c h1 h2 => ?_, fun a h => ?_, r.fd⟩, g⟩
  · cases c with
    | dead => trivial
    | lst ws => exact (r.at_ k a _ h1 h2).mono g ⟨[], by simp⟩ fun o e => by rw [upd_ne (fun z => r.fd p (.inr rfl) (by rw [← z]; exact ⟨k, _, h1, h2, fun z => nomatch z⟩))]; exact e
    | dct ws => exact (r.at_ k a _ h1 h2).mono g ⟨[], by simp⟩ fun o e => by rw [upd_ne (fun z => r.fd p (.inr rfl) (by rw [← z]; exact ⟨k, _, h1, h2, fun z => nomatch z⟩))]; exact e
  · by_cases e : a = p
    · subst e; rw [upd_same]; trivial
    · rw [upd_ne e]; exact r.fm a h
/-- it is done: the heap without it -/
theorem RS.close {p : Addr} (r : RS K (Fp F p) μ S H) (hF : ¬ F p) : RS K F μ S (less H p) ∧ Go (fun a => a = p) (NF (Fp F p) μ S) (NF F μ S) H (less H p) := by
  have g : Go (fun a => a = p) (NF (Fp F p) μ S) (NF F μ S) H (less H p) := ⟨fun a o e n => by rw [less_ne n]; exact e, fun a h => .inl (by
    rcases h with h | h
    · exact .inl h
    · exact .inr (.inl h)), fun a h => by subst h; exact r.fm _ (.inr rfl), fun a h => .inr (.inr h)⟩
  refine ⟨⟨r.len, r.inj, fun k a c h1 h2 => ?_, fun a h => ?_, fun a h => r.fd a (.inl h)⟩, g⟩
  · cases c with
    | dead => trivial
    | lst ws => exact (r.at_ k a _ h1 h2).mono g ⟨[], by simp⟩ fun o e => by rw [less_ne (fun z => r.fd p (.inr rfl) (by rw [← z]; exact ⟨k, _, h1, h2, fun z => nomatch z⟩))]; exact e
    | dct ws => exact (r.at_ k a _ h1 h2).mono g ⟨[], by simp⟩ fun o e => by rw [less_ne (fun z => r.fd p (.inr rfl) (by rw [← z]; exact ⟨k, _, h1, h2, fun z => nomatch z⟩))]; exact e
  · rw [less_ne (fun z => hF (by rw [← z]; exact h))]; exact r.fm a (.inl h)
/-- the state has gone on, lists in the making beside it -/
structure Gx (K : PySem.W.Frag) (F : Addr → Prop) (μ : List Addr) (S : Sto) (H : Hp) (F' : Addr → Prop) (μ' : List Addr) (S' : Sto) (H' : Hp) : Prop where
  pre : ∃ ν, μ' = μ ++ ν
  go : Go (NA μ S) (NF F μ S) (NF F' μ' S') H H'
  na : ∀ a, NA μ' S' a → NA μ S a ∨ H a = none
  rs : RS K F' μ' S' H'
structure Gz (K : PySem.W.Frag) (F : Addr → Prop) (μ : List Addr) (S : Sto) (H : Hp) (F' : Addr → Prop) (μ' : List Addr) (S' : Sto) (H' : Hp) : Prop where
  pre : ∃ ν, μ' = μ ++ ν
  sub : ∀ a, F a → F' a
  go : Go (NF F μ S) (NF F μ S) (NF F' μ' S') H H'
  rs : RS K F' μ' S' H'
theorem Gs.gz (r : RS K F μ S H) (g : Gs K F μ S H μ' S' H') : Gz K F μ S H F μ' S' H' :=
  ⟨g.pre, fun _ h => h, ⟨fun a o e n => g.go.ext a o e fun z => n (.inl z), g.go.new, fun a h => by
    rcases h with h | h
    · exact r.mut a h
    · exact r.fm a h, fun _ h => h⟩, g.rs⟩
theorem Gz.trans {F1 F2 : Addr → Prop} (a : Gz K F μ S H F1 μ' S' H') (b : Gz K F1 μ' S' H' F2 μ2 S2 H2) : Gz K F μ S H F2 μ2 S2 H2 := by
  obtain ⟨⟨ν, rfl⟩, sa, ga, ra⟩ := a
  obtain ⟨⟨ν', rfl⟩, sb, gb, rb⟩ := b
  refine ⟨⟨ν ++ ν', by rw [List.append_assoc]⟩, fun a h => sb a (sa a h), ⟨fun a o e n => gb.ext a o (ga.ext a o e n) fun z => ?_, fun a n => ?_, ga.mu, fun _ h => h⟩, rb⟩
  · rcases ga.new a z with z | z
    · exact n z
    · rw [e] at z; cases z
  · rcases gb.new a n with n | n
    · exact ga.new a n
    · cases q : H a with
      | none => exact .inr rfl
      | some o =>
        by_cases z : NF F μ S a
        · exact .inl z
        · have := ga.ext a o q z
          rw [this] at n; cases n
theorem Gx.step {F' : Addr → Prop} (a : Gx K F μ S H F' μ' S' H') (b : Gs K F' μ' S' H' μ2 S2 H2) : Gx K F μ S H F' μ2 S2 H2 := by
  obtain ⟨⟨ν, rfl⟩, ga, na, ra⟩ := a
  obtain ⟨⟨ν', rfl⟩, gb, nb, rb⟩ := b
  have hna : ∀ c, NA (μ ++ ν ++ ν') S2 c → NA μ S c ∨ H c = none := fun c n => by
    rcases nb c n with n | n
    · exact na c n
    · cases q : H c with
      | none => exact .inr rfl
      | some o =>
        by_cases z : NA μ S c
        · exact .inl z
        · have := ga.ext c o q z
          rw [this] at n; cases n
  refine ⟨⟨ν ++ ν', by rw [List.append_assoc]⟩, ⟨fun a o e n => gb.ext a o (ga.ext a o e n) fun z => ?_, fun a n => ?_, ga.mu, ga.sub⟩, hna, rb⟩
  · rcases na a z with z | z
    · exact n z
    · rw [e] at z; cases z
  · rcases n with n | n
    · rcases hna a n with n | n
      · exact .inl (.inl n)
      · exact .inr n
    · exact ga.new a (.inr n)
theorem Gs.gx (g : Gs K F μ S H μ' S' H') : Gx K F μ S H F μ' S' H' := ⟨g.pre, g.go, g.na, g.rs⟩
theorem Gx.gs (g : Gx K F μ S H F μ' S' H') : Gs K F μ S H μ' S' H' := ⟨g.pre, g.go, g.na, g.rs⟩
theorem Gx.opened {p : Addr} {xs : List V} (r : RS K F μ S H) (hp : H p = none) : Gx K F μ S H (Fp F p) μ S (upd H p (.lst xs)) :=
  ⟨⟨[], by simp⟩, (r.open_ hp).2, fun _ h => .inl h, (r.open_ hp).1⟩
theorem Gz.opened {p : Addr} {xs : List V} (r : RS K F μ S H) (hp : H p = none) : Gz K F μ S H (Fp F p) μ S (upd H p (.lst xs)) :=
  ⟨⟨[], by simp⟩, fun _ h => .inl h, ⟨fun a o e _ => Fr.upd hp a o e, (r.open_ (xs := xs) hp).2.new, fun a h => by
    rcases h with h | h
    · exact r.mut a h
    · exact r.fm a h, fun _ h => h⟩, (r.open_ hp).1⟩
theorem Gz.grown {p : Addr} {xs : List V} (r : RS K (Fp F p) μ S H) : Gz K (Fp F p) μ S H (Fp F p) μ S (upd H p (.lst xs)) :=
  ⟨⟨[], by simp⟩, fun _ h => h, ⟨fun a o e n => (r.grow (xs := xs)).2.ext a o e fun z => n (.inr (.inr z)), fun _ h => .inl h, fun a h => by
    rcases h with h | h
    · exact r.mut a h
    · exact r.fm a h, fun _ h => h⟩, r.grow.1⟩
theorem Gx.grown {p : Addr} {xs : List V} (g : Gx K F μ S H (Fp F p) μ' S' H') (hp : H p = none) : Gx K F μ S H (Fp F p) μ' S' (upd H' p (.lst xs)) :=
  ⟨g.pre, ⟨fun a o e n => by rw [upd_ne (ne_of_none e hp)]; exact g.go.ext a o e n, g.go.new, g.go.mu, g.go.sub⟩, g.na, g.rs.grow.1⟩
theorem Gx.closed {p : Addr} (r : RS K F μ S H) (g : Gx K F μ S H (Fp F p) μ' S' H') (hp : H p = none) : Gs K F μ S H μ' S' (less H' p) := by
  have hF : ¬ F p := fun z => mut_there (r.fm p z) hp
  refine ⟨g.pre, ⟨fun a o e n => by rw [less_ne (ne_of_none e hp)]; exact g.go.ext a o e n, fun a h => g.go.new a (by
    rcases h with h | h
    · exact .inl h
    · exact .inr (.inl h)), g.go.mu, g.go.sub⟩, g.na, (g.rs.close hF).1⟩
end
end GM

set_option Elab.async false
set_option linter.all false
set_option maxRecDepth 100000
set_option maxHeartbeats 4000000
set_option autoImplicit false
namespace GM
open PySem L2
/-! ### mirrors -/
abbrev Em := Rho → Sto → Option (W × Sto)
abbrev Am := Rho → Sto → Option (List W × Sto)
abbrev Tm := Rho → Sto → Option (Bool × Sto)
def datas : List W → Option (List D)
  | [] => some []
  | .d x :: r => (datas r).bind fun ds => some (x :: ds)
  | _ :: _ => none
def mv (i : Nat) : Em := fun ρ S => match ρ[i]? with
  | some (some w) => some (w, S)
  | _ => none
def mk (x : D) : Em := fun _ S => some (.d x, S)
def mop (v : V) : Em := fun _ S => some (.op v, S)
def anil : Am := fun _ S => some ([], S)
def acons (a : Em) (r : Am) : Am := fun ρ S => (a ρ S).bind fun p => (r ρ p.2).bind fun q => some (p.1 :: q.1, q.2)
def prim (f : Sto → List W → Option W) (a : Am) : Em := fun ρ S => (a ρ S).bind fun p => (f p.2 p.1).bind fun w => some (w, p.2)
def primF (f : Sto → List W → Option (List W)) (a : Am) : Am := fun ρ S => (a ρ S).bind fun p => (f p.2 p.1).bind fun w => some (w, p.2)
def thw (m : Am) : Em := fun ρ S => (m ρ S).bind fun p => some (.ref p.2.length, p.2 ++ [.lst p.1])
def frz (m : Am) : Em := fun ρ S => (m ρ S).bind fun p => (datas p.1).bind fun ds => some (.d (.lst ds), p.2)
def mif (c : Tm) (a b : Em) : Em := fun ρ S => (c ρ S).bind fun q => if q.1 = true then a ρ q.2 else b ρ q.2
def wbl : W → Option Bool
  | .d (.bl b) => some b
  | _ => none
def tst (m : Em) : Tm := fun ρ S => (m ρ S).bind fun p => (wbl p.1).bind fun b => some (b, p.2)
def tand (a b : Tm) : Tm := fun ρ S => (a ρ S).bind fun q => if q.1 = true then b ρ q.2 else some (false, q.2)
def tor (a b : Tm) : Tm := fun ρ S => (a ρ S).bind fun q => if q.1 = true then some (true, q.2) else b ρ q.2
def tnot (a : Tm) : Tm := fun ρ S => (a ρ S).bind fun q => some (!q.1, q.2)
def mand (a b : Em) : Em := fun ρ S => (a ρ S).bind fun p => (wbl p.1).bind fun c => if c = true then b ρ p.2 else some (.d (.bl false), p.2)
def mor (a b : Em) : Em := fun ρ S => (a ρ S).bind fun p => (wbl p.1).bind fun c => if c = true then some (.d (.bl true), p.2) else b ρ p.2
def mnot (a : Em) : Em := fun ρ S => (a ρ S).bind fun p => (wbl p.1).bind fun c => some (.d (.bl (!c)), p.2)

/-! ### readings -/
section
variable (K : PySem.W.Frag)
def LE (m : Em) : TE := fun σ H Q => ∃ (F : Addr → Prop) (μ : List Addr) (ρ : Rho) (S : Sto) (w : W) (S' : Sto), RS K F μ S H ∧ RSt K μ (NF F μ S) H σ ρ ∧ m ρ S = some (w, S') ∧
  ∀ μ' v H', Gs K F μ S H μ' S' H' → RepW K μ' (NF F μ' S') H' w v → Q v H'
/-- a new list -/
def LF (m : Am) : TE := fun σ H Q => ∃ (F : Addr → Prop) (μ : List Addr) (ρ : Rho) (S : Sto) (ws : List W) (S' : Sto), RS K F μ S H ∧ RSt K μ (NF F μ S) H σ ρ ∧ m ρ S = some (ws, S') ∧
  ∀ μ' H' p vs, Gs K F μ S H μ' S' H' → H' p = none → RepWs K μ' (NF F μ' S') H' ws vs → Q (.ref p) (upd H' p (.lst vs))
def LT (m : Tm) : TT := fun σ H Q => ∃ (F : Addr → Prop) (μ : List Addr) (ρ : Rho) (S : Sto) (b : Bool) (S' : Sto), RS K F μ S H ∧ RSt K μ (NF F μ S) H σ ρ ∧ m ρ S = some (b, S') ∧
  ∀ μ' H', Gs K F μ S H μ' S' H' → Q b H'
def LA (m : Am) : TA := fun σ H Q => ∃ (F : Addr → Prop) (μ : List Addr) (ρ : Rho) (S : Sto) (ws : List W) (S' : Sto), RS K F μ S H ∧ RSt K μ (NF F μ S) H σ ρ ∧ m ρ S = some (ws, S') ∧
  ∀ μ' vs H', Gs K F μ S H μ' S' H' → RepWs K μ' (NF F μ' S') H' ws vs → Q vs H'
end
abbrev ME (X : Cx) (e : Expr) (m : Em) : Prop := PE X e (LE X.K m)
abbrev MF (X : Cx) (e : Expr) (m : Am) : Prop := PE X e (LF X.K m)
abbrev MT (X : Cx) (e : Expr) (m : Tm) : Prop := PT X e (LT X.K m)
abbrev MW (X : Cx) (e : Expr) (m : Tm) : Prop := PW X e (LT X.K m)
abbrev MA (X : Cx) (es : List Expr) (m : Am) : Prop := PA X es (LA X.K m)
theorem PE.cons {X : Cx} {e : Expr} {t t' : TE} (h : PE X e t) (f : ∀ σ H Q, t' σ H Q → t σ H Q) : PE X e t' := ⟨fun pins s σ H Q I q => h.run pins s σ H Q I (f _ _ _ q)⟩
theorem PT.cons {X : Cx} {e : Expr} {t t' : TT} (h : PT X e t) (f : ∀ σ H Q, t' σ H Q → t σ H Q) : PT X e t' := ⟨fun pins s σ H Q I q => h.run pins s σ H Q I (f _ _ _ q)⟩
theorem PW.cons {X : Cx} {e : Expr} {t t' : TT} (h : PW X e t) (f : ∀ σ H Q, t' σ H Q → t σ H Q) : PW X e t' := ⟨fun wh pins s σ H Q I q => h.run wh pins s σ H Q I (f _ _ _ q)⟩
theorem PA.cons {X : Cx} {e : List Expr} {t t' : TA} (h : PA X e t) (f : ∀ σ H Q, t' σ H Q → t σ H Q) : PA X e t' := ⟨fun pos pins s σ H Q I q => h.run pos pins s σ H Q I (f _ _ _ q)⟩

/-! ### what a primitive must keep -/
def POk (K : PySem.W.Frag) (r : List V → Hp → VK → Prop) (f : Sto → List W → Option W) : Prop :=
  ∀ (F : Addr → Prop) (μ : List Addr) (S : Sto) (H : Hp) (ws : List W) (vs : List V) (w : W) (Q : VK), RS K F μ S H → f S ws = some w → RepWs K μ (NF F μ S) H ws vs →
    (∀ v H', Fr H H' → RepW K μ (NF F μ S) H' w v → Q v H') → r vs H Q
def POkF (K : PySem.W.Frag) (r : List V → Hp → VK → Prop) (f : Sto → List W → Option (List W)) : Prop :=
  ∀ (F : Addr → Prop) (μ : List Addr) (S : Sto) (H : Hp) (ws : List W) (vs : List V) (ws' : List W) (Q : VK), RS K F μ S H → f S ws = some ws' → RepWs K μ (NF F μ S) H ws vs →
    (∀ p vs', H p = none → RepWs K μ (NF F μ S) H ws' vs' → Q (.ref p) (upd H p (.lst vs'))) → r vs H Q
def r1 (r : V → Hp → VK → Prop) : List V → Hp → VK → Prop := fun vs H Q => ∃ x, vs = [x] ∧ r x H Q
def r2 (r : R2) : List V → Hp → VK → Prop := fun vs H Q => ∃ x y, vs = [x, y] ∧ r x y H Q

section
variable {X : Cx} {a b c e : Expr} {es : List Expr} {ma mb me : Em} {ms : Am} {pos p : Pos} {x : Str}
theorem bind_some {α β : Type} {o : Option α} {f : α → Option β} {r : β} (h : o.bind f = some r) : ∃ a, o = some a ∧ f a = some r := by
  cases o with
  | none => cases h
  | some a => exact ⟨a, rfl, h⟩
theorem me_var {i : Nat} (hN : X.N[i]? = some x) (hv : Vis X.env.scope x) (hd : (x == ("__debug__" : Str)) = false := by decide) (hcd : (x == ("__classdict__" : Str)) = false := by decide) : ME X (.Name x pos) (mv i) :=
  PE.cons (pe_var hN hv hd hcd) fun σ H Q ⟨F, μ, ρ, S, w, S', rs, rst, h, k⟩ => by
    unfold mv at h
    split at h
    · rename_i w' e
      cases h
      obtain ⟨v, e1, r⟩ := rst.at_ i w e
      exact ⟨v, e1, k μ v H (Gs.refl rs) r⟩
    · cases h
theorem me_const {v : V} {d : D} (h : PE X e (tC v)) (r : ∀ K N H, RepD K N H d v) : ME X e (mk d) :=
  PE.cons h fun σ H Q ⟨F, μ, ρ, S, w, S', rs, rst, h, k⟩ => by
    cases h
    exact k μ v H (Gs.refl rs) (r _ _ _)
theorem me_int {i : Int} {j : Nat} : ME X (.Constant (.int i) j pos) (mk (.int i)) := me_const pe_int fun _ _ _ => by rw [RepD]
theorem me_bl {b : Bool} {j : Nat} : ME X (.Constant (.bool b) j pos) (mk (.bl b)) := me_const pe_bl fun _ _ _ => by rw [RepD]
theorem me_non {j : Nat} : ME X (.Constant .none j pos) (mk .non) := me_const pe_non fun _ _ _ => by rw [RepD]
theorem me_str {y : Str} {j : Nat} : ME X (.Constant (.str y) j pos) (mk (.str y)) := me_const pe_str fun _ _ _ => by rw [RepD]
theorem me_op {v : V} (h : PE X e (tC v)) : ME X e (mop v) :=
  PE.cons h fun σ H Q ⟨F, μ, ρ, S, w, S', rs, rst, h, k⟩ => by
    cases h
    exact k μ v H (Gs.refl rs) rfl

/-! ### arguments -/
theorem ma_nil : MA X [] anil := PA.cons pa_nil fun σ H Q ⟨F, μ, ρ, S, ws, S', rs, rst, h, k⟩ => by
  cases h
  exact k μ [] H (Gs.refl rs) .nil
theorem ma_cons (he : ME X e me) (hr : MA X es ms) (hs : starEach (e :: es) X.env = (false, eval e X.env) :: starEach es X.env := by rfl) : MA X (e :: es) (acons me ms) :=
  PA.cons (pa_cons he hr hs) fun σ H Q ⟨F, μ, ρ, S, ws, S', rs, rst, h, k⟩ => by
    obtain ⟨⟨w1, S1⟩, e1, h⟩ := bind_some h
    obtain ⟨⟨w2, S2⟩, e2, h⟩ := bind_some h
    cases h
    exact ⟨F, μ, ρ, S, w1, S1, rs, rst, e1, fun μ1 v1 H1 g1 q1 => ⟨F, μ1, ρ, S1, w2, S2, g1.rs, rst.mono g1.go g1.pre, e2, fun μ2 v2 H2 g2 q2 =>
      k μ2 _ H2 (g1.trans g2) (.cons (q1.mono g2.go g2.pre) q2)⟩⟩

/-! ### primitives -/
theorem prim_args {r : List V → Hp → VK → Prop} {f : Sto → List W → Option W} {σ : L2.St} {H : Hp} {Q : VK} (hf : POk X.K r f) (h : LE X.K (prim f ms) σ H Q) : LA X.K ms σ H fun vs H1 => r vs H1 Q := by
  obtain ⟨F, μ, ρ, S, w, S', rs, rst, h, k⟩ := h
  obtain ⟨⟨ws, S1⟩, e1, h⟩ := bind_some h
  obtain ⟨w', e2, h⟩ := bind_some h
  cases h
  exact ⟨F, μ, ρ, S, ws, S1, rs, rst, e1, fun μ1 vs H1 g1 q1 => hf F μ1 S1 H1 ws vs w Q g1.rs e2 q1 fun v H' f' q => k μ1 v H' (g1.trans (f'.gs g1.rs)) q⟩
theorem prim_argsF {r : List V → Hp → VK → Prop} {f : Sto → List W → Option (List W)} {σ : L2.St} {H : Hp} {Q : VK} (hf : POkF X.K r f) (h : LF X.K (primF f ms) σ H Q) : LA X.K ms σ H fun vs H1 => r vs H1 Q := by
  obtain ⟨F, μ, ρ, S, w, S', rs, rst, h, k⟩ := h
  obtain ⟨⟨ws, S1⟩, e1, h⟩ := bind_some h
  obtain ⟨w', e2, h⟩ := bind_some h
  cases h
  exact ⟨F, μ, ρ, S, ws, S1, rs, rst, e1, fun μ1 vs H1 g1 q1 => hf F μ1 S1 H1 ws vs w Q g1.rs e2 q1 fun p vs' hp q => k μ1 H1 p vs' g1 hp q⟩
theorem args2 {σ : L2.St} {H : Hp} {R : List V → Hp → Prop} (h : LA X.K (acons ma (acons mb anil)) σ H R) : LE X.K ma σ H fun x H1 => LE X.K mb σ H1 fun y H2 => R [x, y] H2 := by
  obtain ⟨F, μ, ρ, S, ws, S', rs, rst, h, k⟩ := h
  obtain ⟨⟨w1, S1⟩, e1, h⟩ := bind_some h
  obtain ⟨⟨ws2, S2⟩, h, h'⟩ := bind_some h
  obtain ⟨⟨w2, S3⟩, e2, h⟩ := bind_some h
  cases h
  cases h'
  exact ⟨F, μ, ρ, S, w1, S1, rs, rst, e1, fun μ1 v1 H1 g1 q1 => ⟨F, μ1, ρ, S1, w2, S3, g1.rs, rst.mono g1.go g1.pre, e2, fun μ2 v2 H2 g2 q2 =>
      k μ2 _ H2 (g1.trans g2) (.cons (q1.mono g2.go g2.pre) (.cons q2 .nil))⟩⟩
theorem args1 {σ : L2.St} {H : Hp} {R : List V → Hp → Prop} (h : LA X.K (acons ma anil) σ H R) : LE X.K ma σ H fun x H1 => R [x] H1 := by
  obtain ⟨F, μ, ρ, S, ws, S', rs, rst, h, k⟩ := h
  obtain ⟨⟨w1, S1⟩, e1, h⟩ := bind_some h
  cases h
  exact ⟨F, μ, ρ, S, w1, S1, rs, rst, e1, fun μ1 v1 H1 g1 q1 => k μ1 _ H1 g1 (.cons q1 .nil)⟩
theorem LE.imp {K : PySem.W.Frag} {m : Em} {σ : L2.St} {H : Hp} {Q Q' : VK} (h : LE K m σ H Q) (f : ∀ v H', Q v H' → Q' v H') : LE K m σ H Q' := by
  obtain ⟨F, μ, ρ, S, w, S', rs, rst, h, k⟩ := h
  exact ⟨F, μ, ρ, S, w, S', rs, rst, h, fun μ' v H' g q => f _ _ (k μ' v H' g q)⟩
theorem two_r {r : R2} {σ : L2.St} {H : Hp} {Q : VK} (h : LE X.K ma σ H fun x H1 => LE X.K mb σ H1 fun y H2 => r2 r [x, y] H2 Q) : tOp r (LE X.K ma) (LE X.K mb) σ H Q :=
  h.imp fun v H1 h => h.imp fun u H2 ⟨x, y, e, q⟩ => by cases e; exact q
theorem me_bin {op : Operator} {r : R2} {f : Sto → List W → Option W} (hf : POk X.K (r2 r) f) (ho : OpR X (binaryOp op) r) (ha : ME X a ma) (hb : ME X b mb) : ME X (.BinOp a op b pos) (prim f (acons ma (acons mb anil))) :=
  PE.cons (pe_op ho ha hb) fun σ H Q h => two_r (args2 (prim_args hf h))
theorem mf_bin {op : Operator} {r : R2} {f : Sto → List W → Option (List W)} (hf : POkF X.K (r2 r) f) (ho : OpR X (binaryOp op) r) (ha : ME X a ma) (hb : ME X b mb) : MF X (.BinOp a op b pos) (primF f (acons ma (acons mb anil))) :=
  PE.cons (pe_op ho ha hb) fun σ H Q h => two_r (args2 (prim_argsF hf h))
theorem me_cmp {op : CmpOp} {r : R2} {f : Sto → List W → Option W} (hf : POk X.K (r2 r) f) (ho : OpR X (compareOp op) r) (ha : ME X a ma) (hb : ME X b mb) (hm : behindInMarks op b = false) : ME X (.Compare a [op] [b] pos) (prim f (acons ma (acons mb anil))) :=
  PE.cons (pe_cmpR ho ha hb hm) fun σ H Q h => two_r (args2 (prim_args hf h))
theorem me_ix {r : R2} {f : Sto → List W → Option W} (hf : POk X.K (r2 r) f) (ho : IxR X r) (ha : ME X a ma) (hb : ME X b mb) (hs : PlainIx b) : ME X (.Subscript a b pos) (prim f (acons ma (acons mb anil))) :=
  PE.cons (pe_ix ho ha hb hs) fun σ H Q h => two_r (args2 (prim_args hf h))
theorem me_un {op : UnaryOp} {r : V → Hp → VK → Prop} {f : Sto → List W → Option W} (hf : POk X.K (r1 r) f) (ho : UnR X (unaryOp op) r) (ha : ME X a ma) : ME X (.UnaryOp op a pos) (prim f (acons ma anil)) :=
  PE.cons (pe_un ho ha) fun σ H Q h => (args1 (prim_args hf h)).imp fun v H1 ⟨x, e, q⟩ => by cases e; exact q
theorem me_callB {id : String} {r : List V → Hp → VK → Prop} {f : Sto → List W → Option W} (hf : POk X.K r f) (hc : CallR X (.builtin id) r) (hg : Gl X x) (hm : X.mg x = none) (hv : bootBuiltins x = some (.builtin id)) (ha : MA X (e :: es) ms) (hn : x ≠ "__name__" := by decide) (hdb : (x == ("__debug__" : Str)) = false := by decide)
    (he : starEach (e :: es) X.env = (false, eval e X.env) :: starEach es X.env := by rfl) (hpl : (backTo pos (starEach es X.env)).any (·.1) = false := by rfl) : ME X (.Call (.Name x p) (e :: es) [] pos) (prim f ms) :=
  PE.cons (pe_callB hc hg hm hv ha hn hdb he hpl) fun σ H Q h => prim_args hf h
theorem mf_callB {id : String} {r : List V → Hp → VK → Prop} {f : Sto → List W → Option (List W)} (hf : POkF X.K r f) (hc : CallR X (.builtin id) r) (hg : Gl X x) (hm : X.mg x = none) (hv : bootBuiltins x = some (.builtin id)) (ha : MA X (e :: es) ms) (hn : x ≠ "__name__" := by decide) (hdb : (x == ("__debug__" : Str)) = false := by decide)
    (he : starEach (e :: es) X.env = (false, eval e X.env) :: starEach es X.env := by rfl) (hpl : (backTo pos (starEach es X.env)).any (·.1) = false := by rfl) : MF X (.Call (.Name x p) (e :: es) [] pos) (primF f ms) :=
  PE.cons (pe_callB hc hg hm hv ha hn hdb he hpl) fun σ H Q h => prim_argsF hf h
theorem me_callTy {T : String} {r : List V → Hp → VK → Prop} {f : Sto → List W → Option W} (hf : POk X.K r f) (hc : CallR X (.type T) r) (hg : Gl X x) (hm : X.mg x = none) (hv : bootBuiltins x = some (.type T)) (ha : MA X (e :: es) ms) (hn : x ≠ "__name__" := by decide) (hdb : (x == ("__debug__" : Str)) = false := by decide)
    (he : starEach (e :: es) X.env = (false, eval e X.env) :: starEach es X.env := by rfl) (hpl : (backTo pos (starEach es X.env)).any (·.1) = false := by rfl) : ME X (.Call (.Name x p) (e :: es) [] pos) (prim f ms) :=
  PE.cons (pe_callTy hc hg hm hv ha hn hdb he hpl) fun σ H Q h => prim_args hf h
theorem mf_callTy {T : String} {r : List V → Hp → VK → Prop} {f : Sto → List W → Option (List W)} (hf : POkF X.K r f) (hc : CallR X (.type T) r) (hg : Gl X x) (hm : X.mg x = none) (hv : bootBuiltins x = some (.type T)) (ha : MA X (e :: es) ms) (hn : x ≠ "__name__" := by decide) (hdb : (x == ("__debug__" : Str)) = false := by decide)
    (he : starEach (e :: es) X.env = (false, eval e X.env) :: starEach es X.env := by rfl) (hpl : (backTo pos (starEach es X.env)).any (·.1) = false := by rfl) : MF X (.Call (.Name x p) (e :: es) [] pos) (primF f ms) :=
  PE.cons (pe_callTy hc hg hm hv ha hn hdb he hpl) fun σ H Q h => prim_argsF hf h

/-! ### thaw and freeze -/
theorem datas_rep {K : PySem.W.Frag} {μ : List Addr} {N : Addr → Prop} {H : Hp} : ∀ {ws : List W} {vs : List V} {ds : List D}, datas ws = some ds → RepWs K μ N H ws vs → RepDs K N H ds vs
  | [], _, _, h, .nil => by cases h; rw [RepDs]
  | .d x :: r, _, ds, h, .cons q t => by
    obtain ⟨ds', e, h⟩ := bind_some h
    cases h
    rw [RepDs]
    exact ⟨_, _, rfl, q, datas_rep e t⟩
  | .ref _ :: _, _, _, h, .cons _ _ => by cases h
  | .op _ :: _, _, _, h, .cons _ _ => by cases h
theorem me_thw {m : Am} (h : MF X e m) : ME X e (thw m) := PE.cons h fun σ H Q ⟨F, μ, ρ, S, w, S', rs, rst, h, k⟩ => by
  obtain ⟨⟨ws, S1⟩, e1, h⟩ := bind_some h
  cases h
  refine ⟨F, μ, ρ, S, ws, S1, rs, rst, e1, fun μ' H' p vs g hp q => ?_⟩
  have g2 := Gs.cell (p := p) (o := .lst vs) (c := .lst ws) g.rs hp (fun z => nomatch z) fun {N'} gg => ⟨vs, upd_same, q.mono gg ⟨[p], rfl⟩⟩
  refine k _ _ _ (g.trans g2) ⟨p, ?_, rfl⟩
  rw [← g.rs.len, List.getElem?_append_right (Nat.le_refl _), Nat.sub_self]
  rfl
theorem me_frz {m : Am} (h : MF X e m) : ME X e (frz m) := PE.cons h fun σ H Q ⟨F, μ, ρ, S, w, S', rs, rst, h, k⟩ => by
  obtain ⟨⟨ws, S1⟩, e1, h⟩ := bind_some h
  obtain ⟨ds, e2, h⟩ := bind_some h
  cases h
  refine ⟨F, μ, ρ, S, ws, S1, rs, rst, e1, fun μ' H' p vs g hp q => ?_⟩
  have f : Fr H' (upd H' p (.lst vs)) := Fr.upd hp
  have g2 := f.gs g.rs
  refine k μ' _ _ (g.trans g2) ?_
  show RepD _ _ _ _ _
  rw [RepD]
  exact ⟨p, vs, rfl, ⟨upd_same, fun z => g.rs.there z hp⟩, (datas_rep e2 q).mono g2.go⟩

/-! ### tests, and, or, not, if -/
theorem mt_val (h : ME X e me) (he : ∀ whole, isTrue e X.env whole = (do let v ← whole; standAt e.pos; holding [v] (truthy v)) := by intro _; rfl) : MT X e (tst me) :=
  PT.cons (pt_val h he) fun σ H Q ⟨F, μ, ρ, S, b, S', rs, rst, h, k⟩ => by
    obtain ⟨⟨w, S1⟩, e1, h⟩ := bind_some h
    obtain ⟨b', e2, h⟩ := bind_some h
    cases h
    refine ⟨F, μ, ρ, S, w, S1, rs, rst, e1, fun μ' v H' g q => ?_⟩
    cases w with
    | d x =>
      cases x <;> cases e2
      have q' : RepD _ _ _ _ _ := q
      rw [RepD] at q'
      exact ⟨b, q', k μ' H' g⟩
    | ref _ => cases e2
    | op _ => cases e2
theorem mt_cmp {op : CmpOp} {r : R2} {f : Sto → List W → Option W} (hf : POk X.K (r2 r) f) (ho : OpR X (compareOp op) r) (ha : ME X a ma) (hb : ME X b mb) (hm : behindInMarks op b = false) : MT X (.Compare a [op] [b] pos) (tst (prim f (acons ma (acons mb anil)))) :=
  PT.cons (pt_cmpR ho ha hb hm) fun σ H Q ⟨F, μ, ρ, S, b, S', rs, rst, h, k⟩ => by
    obtain ⟨⟨w, S1⟩, e1, h⟩ := bind_some h
    obtain ⟨b', e2, h⟩ := bind_some h
    cases h
    refine two_r (args2 (prim_args hf ⟨F, μ, ρ, S, w, S1, rs, rst, e1, fun μ' v H' g q => ?_⟩))
    cases w with
    | d x =>
      cases x <;> cases e2
      have q' : RepD _ _ _ _ _ := q
      rw [RepD] at q'
      exact ⟨b, q', k μ' H' g⟩
    | ref _ => cases e2
    | op _ => cases e2
theorem mt_not {tm : Tm} (h : MT X a tm) : MT X (.UnaryOp .Not a pos) (tnot tm) := PT.cons (pt_not h) fun σ H Q ⟨F, μ, ρ, S, b, S', rs, rst, h, k⟩ => by
  obtain ⟨⟨b', S1⟩, e1, h⟩ := bind_some h
  cases h
  exact ⟨F, μ, ρ, S, b', S1, rs, rst, e1, fun μ' H' g => k μ' H' g⟩
theorem mw_one_and {tm : Tm} (h : MT X a tm) : MW X (.BoolOp .And [a] pos) tm := pw_and1 h
theorem mw_one_or {tm : Tm} (h : MT X a tm) : MW X (.BoolOp .Or [a] pos) tm := pw_or1 h
theorem mw_and {ta tb : Tm} (h : MT X a ta) (h2 : MW X (.BoolOp .And (b :: es) pos) tb) : MW X (.BoolOp .And (a :: b :: es) pos) (tand ta tb) :=
  PW.cons (pw_and h h2) fun σ H Q ⟨F, μ, ρ, S, c, S', rs, rst, h, k⟩ => by
    obtain ⟨⟨c', S1⟩, e1, h⟩ := bind_some h
    refine ⟨F, μ, ρ, S, c', S1, rs, rst, e1, fun μ1 H1 g => ?_⟩
    cases c' with
    | true => exact ⟨F, μ1, ρ, S1, c, S', g.rs, rst.mono g.go g.pre, h, fun μ2 H2 g2 => k μ2 H2 (g.trans g2)⟩
    | false => cases h; exact k μ1 H1 g
theorem mw_or {ta tb : Tm} (h : MT X a ta) (h2 : MW X (.BoolOp .Or (b :: es) pos) tb) : MW X (.BoolOp .Or (a :: b :: es) pos) (tor ta tb) :=
  PW.cons (pw_or h h2) fun σ H Q ⟨F, μ, ρ, S, c, S', rs, rst, h, k⟩ => by
    obtain ⟨⟨c', S1⟩, e1, h⟩ := bind_some h
    refine ⟨F, μ, ρ, S, c', S1, rs, rst, e1, fun μ1 H1 g => ?_⟩
    cases c' with
    | false => exact ⟨F, μ1, ρ, S1, c, S', g.rs, rst.mono g.go g.pre, h, fun μ2 H2 g2 => k μ2 H2 (g.trans g2)⟩
    | true => cases h; exact k μ1 H1 g
theorem wbl_rep {K : PySem.W.Frag} {μ : List Addr} {N : Addr → Prop} {H : Hp} {w : W} {v : V} {b : Bool} (h : wbl w = some b) (q : RepW K μ N H w v) : v = .bl b := by
  cases w with
  | d x =>
    cases x <;> cases h
    have q' : RepD _ _ _ _ _ := q
    rw [RepD] at q'
    exact q'
  | ref _ => cases h
  | op _ => cases h
theorem me_one {op : BoolOp} (h : ME X a ma) : ME X (.BoolOp op [a] pos) ma := pe_one h
theorem me_and (h : ME X a ma) (h2 : ME X (.BoolOp .And (b :: es) pos) mb) : ME X (.BoolOp .And (a :: b :: es) pos) (mand ma mb) :=
  PE.cons (pe_and h h2) fun σ H Q ⟨F, μ, ρ, S, w, S', rs, rst, h, k⟩ => by
    obtain ⟨⟨w', S1⟩, e1, h⟩ := bind_some h
    obtain ⟨c, e2, h⟩ := bind_some h
    refine ⟨F, μ, ρ, S, w', S1, rs, rst, e1, fun μ1 v H1 g q => ⟨c, wbl_rep e2 q, ?_⟩⟩
    cases c with
    | true => exact ⟨F, μ1, ρ, S1, w, S', g.rs, rst.mono g.go g.pre, h, fun μ2 v2 H2 g2 q2 => k μ2 v2 H2 (g.trans g2) q2⟩
    | false => cases h; exact k μ1 _ H1 g (by show RepD _ _ _ _ _; rw [RepD])
theorem me_or (h : ME X a ma) (h2 : ME X (.BoolOp .Or (b :: es) pos) mb) : ME X (.BoolOp .Or (a :: b :: es) pos) (mor ma mb) :=
  PE.cons (pe_or h h2) fun σ H Q ⟨F, μ, ρ, S, w, S', rs, rst, h, k⟩ => by
    obtain ⟨⟨w', S1⟩, e1, h⟩ := bind_some h
    obtain ⟨c, e2, h⟩ := bind_some h
    refine ⟨F, μ, ρ, S, w', S1, rs, rst, e1, fun μ1 v H1 g q => ⟨c, wbl_rep e2 q, ?_⟩⟩
    cases c with
    | false => exact ⟨F, μ1, ρ, S1, w, S', g.rs, rst.mono g.go g.pre, h, fun μ2 v2 H2 g2 q2 => k μ2 v2 H2 (g.trans g2) q2⟩
    | true => cases h; exact k μ1 _ H1 g (by show RepD _ _ _ _ _; rw [RepD])
theorem me_not (h : ME X a ma) : ME X (.UnaryOp .Not a pos) (mnot ma) := PE.cons (pe_not h) fun σ H Q ⟨F, μ, ρ, S, w, S', rs, rst, h, k⟩ => by
  obtain ⟨⟨w', S1⟩, e1, h⟩ := bind_some h
  obtain ⟨c, e2, h⟩ := bind_some h
  cases h
  exact ⟨F, μ, ρ, S, w', S1, rs, rst, e1, fun μ1 v H1 g q => ⟨c, wbl_rep e2 q, k μ1 _ H1 g (by show RepD _ _ _ _ _; rw [RepD])⟩⟩
theorem me_if {tm : Tm} (hc : MT X c tm) (ha : ME X a ma) (hb : ME X b mb) : ME X (.IfExp c a b pos) (mif tm ma mb) :=
  PE.cons (pe_ifExp hc ha hb) fun σ H Q ⟨F, μ, ρ, S, w, S', rs, rst, h, k⟩ => by
    obtain ⟨⟨c', S1⟩, e1, h⟩ := bind_some h
    refine ⟨F, μ, ρ, S, c', S1, rs, rst, e1, fun μ1 H1 g => ?_⟩
    cases c' with
    | true => exact ⟨F, μ1, ρ, S1, w, S', g.rs, rst.mono g.go g.pre, h, fun μ2 v2 H2 g2 q2 => k μ2 v2 H2 (g.trans g2) q2⟩
    | false => exact ⟨F, μ1, ρ, S1, w, S', g.rs, rst.mono g.go g.pre, h, fun μ2 v2 H2 g2 q2 => k μ2 v2 H2 (g.trans g2) q2⟩
/-! ### displays -/
def fTup (_ : Sto) (ws : List W) : Option W := if ws.length ≤ 1000000 then (datas ws).bind fun ds => some (.d (.tup ds)) else none
def fLst (_ : Sto) (ws : List W) : Option (List W) := if ws.length ≤ 1000000 then some ws else none
theorem lim_line {n : Nat} (h : n ≤ 1000000) : n < sizeLine := Nat.lt_of_le_of_lt h (by decide)
theorem RepWs.length {K : PySem.W.Frag} {μ : List Addr} {N : Addr → Prop} {H : Hp} {ws : List W} {vs : List V} (h : RepWs K μ N H ws vs) : ws.length = vs.length := Paired.length h
theorem tup_ok {K : PySem.W.Frag} : POk K (fun xs H Q => xs.length ≤ sizeLine ∧ ∀ p, H p = none → Q (.ref p) (upd H p (.tup xs))) fTup := fun F μ S H ws vs w Q rs h q k => by
  unfold fTup at h
  split at h
  · rename_i hl
    obtain ⟨ds, e, h⟩ := bind_some h
    cases h
    refine ⟨by rw [← RepWs.length q]; exact Nat.le_of_lt (lim_line hl), fun p hp => k _ _ (Fr.upd hp) ?_⟩
    show RepD _ _ _ _ _
    rw [RepD]
    exact ⟨p, vs, rfl, .inl (.inl upd_same), (datas_rep e q).mono ((Fr.upd hp).gs rs).go⟩
  · cases h
theorem lst_ok {K : PySem.W.Frag} : POkF K (fun xs H Q => xs.length ≤ sizeLine ∧ ∀ p, H p = none → Q (.ref p) (upd H p (.lst xs))) fLst := fun F μ S H ws vs w Q rs h q k => by
  unfold fLst at h
  split at h
  · rename_i hl
    cases h
    exact ⟨by rw [← RepWs.length q]; exact Nat.le_of_lt (lim_line hl), fun p hp => k _ _ hp q⟩
  · cases h
theorem me_tup {k : Nat} (h : MA X es ms) : ME X (.Tuple es k pos) (prim fTup ms) := PE.cons (pe_tup h) fun σ H Q h => prim_args tup_ok h
theorem mf_lst (h : MA X es ms) : MF X (.List es pos) (primF fLst ms) := PE.cons (pe_lst h) fun σ H Q h => prim_argsF lst_ok h
end
end GM

set_option Elab.async false
set_option linter.all false
set_option maxRecDepth 100000
set_option maxHeartbeats 4000000
set_option autoImplicit false
namespace GM
open PySem L2
/-! ### what is walked -/
inductive Src where
  | its (ws : List W) | cell (k : Nat)
abbrev Im := Rho → Sto → Option (Src × Sto)
def lstOf (S : Sto) (k : Nat) : Option (List W) := match S[k]? with
  | some (.lst ws) => some ws
  | _ => none
theorem lstOf_some {S : Sto} {k : Nat} {ws : List W} (h : lstOf S k = some ws) : S[k]? = some (.lst ws) := by
  unfold lstOf at h
  split at h
  · rename_i e; cases h; exact e
  · cases h
def srcAt : Src → Sto → Nat → Option (Option W)
  | .its ws, _, i => some ws[i]?
  | .cell k, S, i => (lstOf S k).bind fun ws => some ws[i]?
def srcLen : Src → Sto → Nat
  | .its ws, _ => ws.length
  | .cell k, S => ((lstOf S k).getD []).length
/-- the items of a list or tuple -/
def seqW (S : Sto) : W → Option (List W)
  | .d (.tup ds) => some (ds.map W.d)
  | .d (.lst ds) => some (ds.map W.d)
  | .d (.scr ds) => some (ds.map W.d)
  | .ref k => lstOf S k
  | _ => none
def srcL (S : Sto) : W → Option Src
  | .d (.lst ds) => some (.its (ds.map W.d))
  | .ref k => (lstOf S k).bind fun _ => some (.cell k)
  | _ => none
def srcT (_ : Sto) : W → Option Src
  | .d (.tup ds) => some (.its (ds.map W.d))
  | _ => none
def ItOk (K : PySem.W.Frag) (F : Addr → Prop) (μ : List Addr) (S : Sto) (H : Hp) (J : It) (src : Src) : Prop :=
  ∀ F2 μ2 S2 H2, Gz K F μ S H F2 μ2 S2 H2 → ∀ (i : Nat) r, srcAt src S2 i = some r → match r with
    | none => J.stop i H2
    | some w => J.go i H2 ∧ ∀ x H3, J.yld i H2 x H3 → Fr H2 H3 ∧ RepW K μ2 (NF F2 μ2 S2) H3 w x
def LI (K : PySem.W.Frag) (m : Im) : TI := fun σ H R => ∃ (F : Addr → Prop) (μ : List Addr) (ρ : Rho) (S : Sto) (src : Src) (S' : Sto), RS K F μ S H ∧ RSt K μ (NF F μ S) H σ ρ ∧ m ρ S = some (src, S') ∧
  ∀ μ' J H', Gs K F μ S H μ' S' H' → ItOk K F μ' S' H' J src → R J H'
abbrev MI (X : Cx) (tg iter : Expr) (m : Im) : Prop := PI X tg iter (LI X.K m)
theorem PI.cons {X : Cx} {tg iter : Expr} {t t' : TI} (h : PI X tg iter t) (f : ∀ σ H R, t' σ H R → t σ H R) : PI X tg iter t' := ⟨fun pins s σ H R I q => h.run pins s σ H R I (f _ _ _ q)⟩
def isrc (f : Sto → W → Option Src) (m : Em) : Im := fun ρ S => (m ρ S).bind fun p => (f p.2 p.1).bind fun s => some (s, p.2)

/-! ### lists and tuples in the heap -/
theorem rep_map {K : PySem.W.Frag} {μ : List Addr} {N : Addr → Prop} {H : Hp} : ∀ {ds : List D} {vs : List V}, RepDs K N H ds vs → RepWs K μ N H (ds.map W.d) vs
  | [], vs, h => by rw [RepDs] at h; subst h; exact .nil
  | d :: ds, vs, h => by
    rw [RepDs] at h
    obtain ⟨v, r, rfl, h1, h2⟩ := h
    exact .cons h1 (rep_map h2)
theorem RepWs.get {K : PySem.W.Frag} {μ : List Addr} {N : Addr → Prop} {H : Hp} : ∀ {ws : List W} {vs : List V} {i : Nat} {w : W}, RepWs K μ N H ws vs → ws[i]? = some w → ∃ v, vs[i]? = some v ∧ RepW K μ N H w v
  | _, _, _, _, .nil, e => by simp at e
  | _, _, 0, _, .cons r _, e => by simp at e; subst e; exact ⟨_, rfl, r⟩
  | _, _, i + 1, x, .cons _ t, e => by
    obtain ⟨u, h1, h2⟩ := RepWs.get (i := i) t (by simpa using e)
    exact ⟨u, by simpa using h1, h2⟩
theorem RepWs.append {K : PySem.W.Frag} {μ : List Addr} {N : Addr → Prop} {H : Hp} : ∀ {ws us : List W} {vs zs : List V}, RepWs K μ N H ws vs → RepWs K μ N H us zs → RepWs K μ N H (ws ++ us) (vs ++ zs)
  | _, _, _, _, .nil, q => q
  | _, _, _, _, .cons r t, q => .cons r (RepWs.append t q)
theorem seq_rep {K : PySem.W.Frag} {F : Addr → Prop} {μ : List Addr} {S : Sto} {H : Hp} {w : W} {v : V} {ws : List W} (rs : RS K F μ S H) (h : seqW S w = some ws) (q : RepW K μ (NF F μ S) H w v) :
    ∃ a vs, v = .ref a ∧ (SqL K H a vs ∨ SqT K H a vs) ∧ RepWs K μ (NF F μ S) H ws vs := by
  cases w with
  | d x =>
    cases x with
    | tup ds =>
      cases h
      have q' : RepD _ _ _ _ _ := q
      rw [RepD] at q'
      obtain ⟨a, vs, e, h1, h2⟩ := q'
      exact ⟨a, vs, e, .inr h1, rep_map h2⟩
    | lst ds =>
      cases h
      have q' : RepD _ _ _ _ _ := q
      rw [RepD] at q'
      obtain ⟨a, vs, e, h1, h2⟩ := q'
      exact ⟨a, vs, e, .inl h1.sq, rep_map h2⟩
    | scr ds =>
      cases h
      have q' : RepD _ _ _ _ _ := q
      rw [RepD] at q'
      obtain ⟨a, vs, e, h1, h2⟩ := q'
      exact ⟨a, vs, e, .inl h1.sq, rep_map h2⟩
    | _ => cases h
  | ref k =>
    obtain ⟨a, h1, e⟩ := q
    have hc := lstOf_some h
    obtain ⟨vs, h2, h3⟩ := rs.at_ k a _ h1 hc
    exact ⟨a, vs, e, .inl (.inl (.inl h2)), h3⟩
  | op _ => cases h
theorem its_ok {K : PySem.W.Frag} {F : Addr → Prop} {μ : List Addr} {S : Sto} {H : Hp} {a : Addr} {vs : List V} {ws : List W} (h1 : LstAt (NF F μ S) H a vs) (h2 : RepWs K μ (NF F μ S) H ws vs) : ItOk K F μ S H (Itl K a) (.its ws) := fun F2 μ2 S2 H2 gz i r hr => by
  obtain ⟨p, _, g, rs⟩ := gz
  cases hr
  have l2 : SqL K H2 a vs := (g.lst h1).sq
  have r2 : RepWs K μ2 (NF F2 μ2 S2) H2 ws vs := h2.mono g p
  cases e : ws[i]? with
  | none => exact ⟨vs, l2, by rw [← r2.length]; exact List.getElem?_eq_none_iff.mp e⟩
  | some w =>
    obtain ⟨v, e1, e2⟩ := r2.get e
    refine ⟨⟨vs, v, l2, e1⟩, fun x H3 ⟨y1, y2⟩ => ?_⟩
    subst y1
    have := y2 vs l2
    rw [e1] at this; cases this
    exact ⟨Fr.refl, e2⟩
theorem itt_ok {K : PySem.W.Frag} {F : Addr → Prop} {μ : List Addr} {S : Sto} {H : Hp} {a : Addr} {vs : List V} {ws : List W} (h1 : SqT K H a vs) (h2 : RepWs K μ (NF F μ S) H ws vs) : ItOk K F μ S H (Itt K a) (.its ws) := fun F2 μ2 S2 H2 gz i r hr => by
  obtain ⟨p, _, g, rs⟩ := gz
  cases hr
  have l2 := g.tup h1
  have r2 : RepWs K μ2 (NF F2 μ2 S2) H2 ws vs := h2.mono g p
  cases e : ws[i]? with
  | none => exact ⟨vs, l2, by rw [← r2.length]; exact List.getElem?_eq_none_iff.mp e⟩
  | some w =>
    obtain ⟨v, e1, e2⟩ := r2.get e
    refine ⟨⟨vs, v, l2, e1⟩, fun x H3 ⟨y1, y2⟩ => ?_⟩
    subst y1
    have := y2 vs l2
    rw [e1] at this; cases this
    exact ⟨Fr.refl, e2⟩
theorem cell_ok {K : PySem.W.Frag} {F : Addr → Prop} {μ : List Addr} {S : Sto} {H : Hp} {a : Addr} {k : Nat} (h1 : μ[k]? = some a) : ItOk K F μ S H (Itl K a) (.cell k) := fun F2 μ2 S2 H2 gz i r hr => by
  obtain ⟨p, _, g, rs⟩ := gz
  obtain ⟨ws, e, hr⟩ := bind_some (show (lstOf S2 k).bind (fun ws => some ws[i]?) = some r from hr)
  cases hr
  have h2 : μ2[k]? = some a := by
    obtain ⟨ν, rfl⟩ := p
    rw [List.getElem?_append_left (List.getElem?_eq_some_iff.mp h1).1]; exact h1
  obtain ⟨vs, e1, e2⟩ := rs.at_ k a _ h2 (lstOf_some e)
  have l2 : SqL K H2 a vs := .inl (.inl e1)
  cases e : ws[i]? with
  | none => exact ⟨vs, l2, by rw [← e2.length]; exact List.getElem?_eq_none_iff.mp e⟩
  | some w =>
    obtain ⟨v, e3, e4⟩ := e2.get e
    refine ⟨⟨vs, v, l2, e3⟩, fun x H3 ⟨y1, y2⟩ => ?_⟩
    subst y1
    have := y2 vs l2
    rw [e3] at this; cases this
    exact ⟨Fr.refl, e4⟩
section
variable {X : Cx} {tg iter : Expr} {me : Em}
theorem mi_list (h : ME X iter me) : MI X tg iter (isrc srcL me) := PI.cons (pi_list h) fun σ H R ⟨F, μ, ρ, S, src, S', rs, rst, h, k⟩ => by
  obtain ⟨⟨w, S1⟩, e1, h⟩ := bind_some h
  obtain ⟨s, e2, h⟩ := bind_some h
  cases h
  refine ⟨F, μ, ρ, S, w, S1, rs, rst, e1, fun μ1 v H1 g q => ?_⟩
  cases w with
  | d x =>
    cases x with
    | lst ds =>
      cases e2
      have q' : RepD _ _ _ _ _ := q
      rw [RepD] at q'
      obtain ⟨a, vs, e, h1, h2⟩ := q'
      exact ⟨a, e, ⟨vs, h1.sq⟩, k μ1 _ H1 g (its_ok h1 (rep_map h2))⟩
    | _ => cases e2
  | ref kk =>
    obtain ⟨ws, e3, e4⟩ := bind_some (show (lstOf S1 kk).bind (fun _ => some (Src.cell kk)) = some src from e2)
    cases e4
    obtain ⟨a, h1, e⟩ := q
    obtain ⟨vs, h2, h3⟩ := g.rs.at_ kk a _ h1 (lstOf_some e3)
    exact ⟨a, e, ⟨vs, .inl (.inl h2)⟩, k μ1 _ H1 g (cell_ok h1)⟩
  | op _ => cases e2
theorem mi_tup (h : ME X iter me) : MI X tg iter (isrc srcT me) := PI.cons (pi_tup h) fun σ H R ⟨F, μ, ρ, S, src, S', rs, rst, h, k⟩ => by
  obtain ⟨⟨w, S1⟩, e1, h⟩ := bind_some h
  obtain ⟨s, e2, h⟩ := bind_some h
  cases h
  refine ⟨F, μ, ρ, S, w, S1, rs, rst, e1, fun μ1 v H1 g q => ?_⟩
  cases w with
  | d x =>
    cases x with
    | tup ds =>
      cases e2
      have q' : RepD _ _ _ _ _ := q
      rw [RepD] at q'
      obtain ⟨a, vs, e, h1, h2⟩ := q'
      exact ⟨a, e, ⟨vs, h1⟩, k μ1 _ H1 g (itt_ok h1 (rep_map h2))⟩
    | _ => cases e2
  | ref kk => cases e2
  | op _ => cases e2
end
/-! ### ranges -/
def rngW (lo : Int) (n : Nat) : List W := (List.range n).map fun i => W.d (.int (lo + (i : Nat)))
theorem range_ok {K : PySem.W.Frag} {F : Addr → Prop} {μ : List Addr} {S : Sto} {H : Hp} {lo : Int} {n : Nat} : ItOk K F μ S H (Itr lo n) (.its (rngW lo n)) := fun F2 μ2 S2 H2 gz i r hr => by
  obtain ⟨p, _, g, rs⟩ := gz
  cases hr
  by_cases h : i < n
  · have e : (rngW lo n)[i]? = some (W.d (.int (lo + (i : Nat)))) := by
      unfold rngW
      rw [List.getElem?_map, List.getElem?_range h]
      rfl
    rw [e]
    refine ⟨h, fun x H3 ⟨y1, y2⟩ => ?_⟩
    subst y1
    refine ⟨Fr.refl, ?_⟩
    show RepD _ _ _ _ _
    rw [RepD]; exact y2
  · have e : (rngW lo n)[i]? = none := by
      rw [List.getElem?_eq_none_iff]
      unfold rngW
      rw [List.length_map, List.length_range]
      omega
    rw [e]
    exact Nat.le_of_not_lt h
def rg1 : Sto → List W → Option Src
  | _, [.d (.int j)] => if j.natAbs ≤ 2000000 then some (.its (rngW 0 j.toNat)) else none
  | _, _ => none
def rg2 : Sto → List W → Option Src
  | _, [.d (.int i), .d (.int j)] => if i.natAbs ≤ 2000000 ∧ j.natAbs ≤ 2000000 then some (.its (rngW i (j - i).toNat)) else none
  | _, _ => none
def iargs (f : Sto → List W → Option Src) (m : Am) : Im := fun ρ S => (m ρ S).bind fun p => (f p.2 p.1).bind fun s => some (s, p.2)
theorem int_rep {K : PySem.W.Frag} {μ : List Addr} {N : Addr → Prop} {H : Hp} {i : Int} {v : V} (q : RepW K μ N H (.d (.int i)) v) : v = .int i := by
  have q' : RepD _ _ _ _ _ := q
  rw [RepD] at q'; exact q'
section
variable {X : Cx} {tg a b : Expr} {ms : Am} {p pos : Pos}
theorem rg1_some {S : Sto} {ws : List W} {s : Src} (h : rg1 S ws = some s) : ∃ j : Int, ws = [.d (.int j)] ∧ (-(2 ^ 62) ≤ j ∧ j < 2 ^ 62) ∧ s = .its (rngW 0 j.toNat) := by
  unfold rg1 at h
  split at h
  · split at h
    · rename_i hb; cases h; exact ⟨_, rfl, by omega, rfl⟩
    · cases h
  · cases h
theorem rg2_some {S : Sto} {ws : List W} {s : Src} (h : rg2 S ws = some s) : ∃ i j : Int, ws = [.d (.int i), .d (.int j)] ∧ (-(2 ^ 62) ≤ i ∧ i < 2 ^ 62 ∧ -(2 ^ 62) ≤ j ∧ j < 2 ^ 62) ∧ s = .its (rngW i (j - i).toNat) := by
  unfold rg2 at h
  split at h
  · split at h
    · rename_i hb; cases h; exact ⟨_, _, rfl, by omega, rfl⟩
    · cases h
  · cases h
theorem rep1 {K : PySem.W.Frag} {μ : List Addr} {N : Addr → Prop} {H : Hp} {w : W} {vs : List V} (q : RepWs K μ N H [w] vs) : ∃ v, vs = [v] ∧ RepW K μ N H w v := by
  cases q with
  | cons q1 q2 => cases q2; exact ⟨_, rfl, q1⟩
theorem rep2 {K : PySem.W.Frag} {μ : List Addr} {N : Addr → Prop} {H : Hp} {w u : W} {vs : List V} (q : RepWs K μ N H [w, u] vs) : ∃ v z, vs = [v, z] ∧ RepW K μ N H w v ∧ RepW K μ N H u z := by
  cases q with
  | cons q1 q2 =>
    obtain ⟨z, rfl, q3⟩ := rep1 q2
    exact ⟨_, _, rfl, q1, q3⟩
theorem mi_range1 (hg : Gl X "range") (hm : X.mg "range" = none) (ha : MA X [a] ms) (hs : starEach [a] X.env = [(false, eval a X.env)] := by rfl) : MI X tg (.Call (.Name "range" p) [a] [] pos) (iargs rg1 ms) :=
  PI.cons (pi_range1 hg hm ha hs) fun σ H R ⟨F, μ, ρ, S, src, S', rs, rst, h, k⟩ => by
    obtain ⟨⟨ws, S1⟩, e1, h⟩ := bind_some h
    obtain ⟨s, e2, h⟩ := bind_some h
    cases h
    obtain ⟨j, rfl, hb, rfl⟩ := rg1_some e2
    refine ⟨F, μ, ρ, S, _, S1, rs, rst, e1, fun μ1 vs H1 g q => ?_⟩
    obtain ⟨v, rfl, q1⟩ := rep1 q
    cases int_rep q1
    exact ⟨_, rfl, hb.1, hb.2, k μ1 _ H1 g range_ok⟩
theorem mi_range2 (hg : Gl X "range") (hm : X.mg "range" = none) (ha : MA X [a, b] ms) (hs : starEach [a, b] X.env = [(false, eval a X.env), (false, eval b X.env)] := by rfl) (hs2 : starEach [b] X.env = [(false, eval b X.env)] := by rfl) : MI X tg (.Call (.Name "range" p) [a, b] [] pos) (iargs rg2 ms) :=
  PI.cons (pi_range2 hg hm ha hs hs2) fun σ H R ⟨F, μ, ρ, S, src, S', rs, rst, h, k⟩ => by
    obtain ⟨⟨ws, S1⟩, e1, h⟩ := bind_some h
    obtain ⟨s, e2, h⟩ := bind_some h
    cases h
    obtain ⟨i, j, rfl, hb, rfl⟩ := rg2_some e2
    refine ⟨F, μ, ρ, S, _, S1, rs, rst, e1, fun μ1 vs H1 g q => ?_⟩
    obtain ⟨v, u, rfl, q1, q2⟩ := rep2 q
    cases int_rep q1
    cases int_rep q2
    exact ⟨_, _, rfl, hb, k μ1 _ H1 g range_ok⟩
end

/-! ### targets -/
abbrev Gm := Sto → W → Rho → Option Rho
abbrev Gsm := Sto → List W → Rho → Option Rho
def gnm (i : Nat) : Gm := fun _ w ρ => some (ρ.set i (some w))
def gnil : Gsm := fun _ ws ρ => match ws with
  | [] => some ρ
  | _ => none
def gcons (g : Gm) (r : Gsm) : Gsm := fun S ws ρ => match ws with
  | w :: us => (g S w ρ).bind fun ρ1 => r S us ρ1
  | [] => none
def gtp (n : Nat) (r : Gsm) : Gm := fun S w ρ => match w with
  | .d (.tup ds) => if ds.length = n then r S (ds.map W.d) ρ else none
  | _ => none
section
variable (K : PySem.W.Frag)
def LG (g : Gm) (T : List Nat) : TG := fun v σ H Q => ∃ (F : Addr → Prop) (μ : List Addr) (ρ : Rho) (S : Sto) (w : W) (ρ' : Rho), RS K F μ S H ∧ RSt K μ (NF F μ S) H σ ρ ∧ RepW K μ (NF F μ S) H w v ∧ g S w ρ = some ρ' ∧
  ∀ σ', RSt K μ (NF F μ S) H σ' ρ' → σ'.length = σ.length → (∀ i, i ∉ T → σ'[i]? = σ[i]?) → Q σ' H
def LGs (g : Gsm) (T : List Nat) : TGs := fun vs σ H Q => ∃ (F : Addr → Prop) (μ : List Addr) (ρ : Rho) (S : Sto) (ws : List W) (ρ' : Rho), RS K F μ S H ∧ RSt K μ (NF F μ S) H σ ρ ∧ RepWs K μ (NF F μ S) H ws vs ∧ g S ws ρ = some ρ' ∧
  ∀ σ', RSt K μ (NF F μ S) H σ' ρ' → σ'.length = σ.length → (∀ i, i ∉ T → σ'[i]? = σ[i]?) → Q σ' H
end
theorem PG.cons {X : Cx} {e : Expr} {t t' : TG} (h : PG X e t) (f : ∀ v σ H Q, t' v σ H Q → t v σ H Q) : PG X e t' := ⟨fun pins s σ H v u Q I r q => h.run pins s σ H v u Q I r (f _ _ _ _ q)⟩
theorem PGs.cons {X : Cx} {e : List Expr} {t t' : TGs} (h : PGs X e t) (f : ∀ v σ H Q, t' v σ H Q → t v σ H Q) : PGs X e t' := ⟨fun pins s σ H v u Q I r q => h.run pins s σ H v u Q I r (f _ _ _ _ q)⟩
theorem RSt.set {K : PySem.W.Frag} {μ : List Addr} {N : Addr → Prop} {H : Hp} {σ : L2.St} {ρ : Rho} {i : Nat} {w : W} {v : V} (r : RSt K μ N H σ ρ) (q : RepW K μ N H w v) : RSt K μ N H (σ.set i (some v)) (ρ.set i (some w)) := by
  refine ⟨by rw [List.length_set, List.length_set]; exact r.len, fun j w' e => ?_⟩
  by_cases hj : i = j
  · subst hj
    by_cases hl : i < ρ.length
    · rw [List.getElem?_set_self hl] at e
      cases e
      exact ⟨v, List.getElem?_set_self (by rw [r.len]; exact hl), q⟩
    · rw [List.getElem?_eq_none (by simpa using hl)] at e; cases e
  · rw [List.getElem?_set_ne hj] at e ⊢
    exact r.at_ j w' e
section
variable {X : Cx} {x : Str} {pos : Pos} {e : Expr} {es : List Expr}
theorem mg_name {i : Nat} (hN : X.N.Nodup) (hi : X.N[i]? = some x) (hx : Loc X.env.scope x) (hf : X.fn x = true ∨ X.env.scope.names.lookup x = some .local := by first | exact .inl rfl | exact .inr rfl | assumption) : PG X (.Name x pos) (LG X.K (gnm i) [i]) :=
  PG.cons (pg_name hN hi hx hf) fun v σ H Q ⟨F, μ, ρ, S, w, ρ', rs, rst, q, h, k⟩ => by
    cases h
    exact k _ (rst.set q) (List.length_set ..) fun j hj => List.getElem?_set_ne (fun z => hj (by rw [z]; exact List.mem_singleton.mpr rfl))
theorem mgs_nil : PGs X [] (LGs X.K gnil []) := PGs.cons pgs_nil fun vs σ H Q ⟨F, μ, ρ, S, ws, ρ', rs, rst, q, h, k⟩ => by
  cases q with
  | nil => cases h; exact ⟨rfl, k σ rst rfl fun _ _ => rfl⟩
  | cons _ _ => cases h
theorem mgs_cons {g : Gm} {gs : Gsm} {T U : List Nat} (h1 : PG X e (LG X.K g T)) (h2 : PGs X es (LGs X.K gs U)) (hs : (assignEach (e :: es) X.env).map (·.2) = assign e X.env :: (assignEach es X.env).map (·.2) := by rfl) : PGs X (e :: es) (LGs X.K (gcons g gs) (T ++ U)) :=
  PGs.cons (pgs_cons h1 h2 hs) fun vs σ H Q ⟨F, μ, ρ, S, ws, ρ', rs, rst, q, h, k⟩ => by
    cases q with
    | nil => cases h
    | cons q1 q2 =>
      obtain ⟨ρ1, e1, h⟩ := bind_some h
      refine ⟨_, _, rfl, F, μ, ρ, S, _, ρ1, rs, rst, q1, e1, fun σ1 r1 l1 o1 => ⟨F, μ, ρ1, S, _, ρ', rs, r1, q2, h, fun σ2 r2 l2 o2 => k σ2 r2 (l2.trans l1) fun i hi => ?_⟩⟩
      rw [o2 i (fun z => hi (List.mem_append_right _ z)), o1 i (fun z => hi (List.mem_append_left _ z))]
theorem mg_tup {gs : Gsm} {T : List Nat} {k n : Nat} (hc : X.calm = true) (h : PGs X es (LGs X.K gs T)) (hn : (assignEach es X.env).length = n := by rfl) (hst : (assignEach es X.env).findIdx? (·.1) = none := by rfl) : PG X (.Tuple es k pos) (LG X.K (gtp n gs) T) :=
  PG.cons (pg_tup hc h hn hst) fun v σ H Q ⟨F, μ, ρ, S, w, ρ', rs, rst, q, h, k⟩ => by
    cases w with
    | d x =>
      cases x with
      | tup ds =>
        have h' : (if ds.length = n then gs S (ds.map W.d) ρ else none) = some ρ' := h
        split at h'
        · rename_i hl
          have q' : RepD _ _ _ _ _ := q
          rw [RepD] at q'
          obtain ⟨a, vs, e, h1, h2⟩ := q'
          have h3 := rep_map (μ := μ) h2
          exact ⟨a, vs, e, h1, by rw [← h3.length, List.length_map]; exact hl, F, μ, ρ, S, _, ρ', rs, rst, h3, h', k⟩
        · cases h'
      | _ => cases h
    | ref kk => cases h
    | op _ => cases h
end
end GM

set_option Elab.async false
set_option linter.all false
set_option maxRecDepth 100000
set_option maxHeartbeats 4000000
set_option autoImplicit false
namespace GM
open PySem L2
/-! ### list comprehensions -/
def mwipe (ρ : Rho) : List Nat → Rho
  | [] => ρ
  | v :: vs => (mwipe ρ vs).set v none
def cloop (src : Src) (g : Gm) (c : Tm) (e : Em) (ρ : Rho) : Nat → Nat → Sto → Option (List W × Sto)
  | 0, i, S => (srcAt src S i).bind fun r => match r with
    | none => some ([], S)
    | some _ => none
  | n + 1, i, S => (srcAt src S i).bind fun r => match r with
    | none => some ([], S)
    | some w => (g S w ρ).bind fun ρ1 => (c ρ1 S).bind fun q => if q.1 = true then (e ρ1 q.2).bind fun p => (cloop src g c e ρ n (i + 1) p.2).bind fun r => some (p.1 :: r.1, r.2) else cloop src g c e ρ n (i + 1) q.2
def tyes : Tm := fun _ S => some (true, S)
def lim (r : List W × Sto) : Option (List W × Sto) := if r.1.length ≤ 1000000 then some r else none
def mcomp (mi : Im) (g : Gm) (c : Tm) (e : Em) (vs : List Nat) : Am := fun ρ S => (mi ρ S).bind fun p => (cloop p.1 g c e (mwipe ρ vs) (srcLen p.1 p.2) 0 p.2).bind lim
def cloop2 (src : Src) (g : Gm) (c : Tm) (mi1 : Im) (g1 : Gm) (c1 : Tm) (e : Em) (ρ : Rho) (vs1 : List Nat) : Nat → Nat → Sto → Option (List W × Sto)
  | 0, i, S => (srcAt src S i).bind fun r => match r with
    | none => some ([], S)
    | some _ => none
  | n + 1, i, S => (srcAt src S i).bind fun r => match r with
    | none => some ([], S)
    | some w => (g S w ρ).bind fun ρ1 => (c ρ1 S).bind fun q => if q.1 = true then (mi1 ρ1 q.2).bind fun p1 => (cloop p1.1 g1 c1 e (mwipe ρ1 vs1) (srcLen p1.1 p1.2) 0 p1.2).bind fun r1 => (cloop2 src g c mi1 g1 c1 e ρ vs1 n (i + 1) r1.2).bind fun r => some (r1.1 ++ r.1, r.2) else cloop2 src g c mi1 g1 c1 e ρ vs1 n (i + 1) q.2
def mcomp2 (mi : Im) (g : Gm) (c : Tm) (mi1 : Im) (g1 : Gm) (c1 : Tm) (e : Em) (vs vs1 : List Nat) : Am := fun ρ S => (mi ρ S).bind fun p => (cloop2 p.1 g c mi1 g1 c1 e (mwipe ρ vs) vs1 (srcLen p.1 p.2) 0 p.2).bind lim
theorem lim_some {r r' : List W × Sto} (h : lim r = some r') : r' = r ∧ r.1.length ≤ 1000000 := by
  unfold lim at h
  split at h
  · rename_i hl; cases h; exact ⟨rfl, hl⟩
  · cases h
theorem mwipe_length (ρ : Rho) : ∀ vs : List Nat, (mwipe ρ vs).length = ρ.length
  | [] => rfl
  | v :: vs => by unfold mwipe; rw [List.length_set, mwipe_length ρ vs]
theorem mwipe_some {ρ : Rho} {i : Nat} {x : W} : ∀ {vs : List Nat}, (mwipe ρ vs)[i]? = some (some x) → ρ[i]? = some (some x) ∧ i ∉ vs
  | [], h => ⟨h, by simp⟩
  | v :: vs, h => by
    unfold mwipe at h
    by_cases hi : v = i
    · subst hi
      by_cases hv : v < (mwipe ρ vs).length
      · rw [List.getElem?_set_self hv] at h; cases h
      · rw [List.getElem?_eq_none (by simpa using hv)] at h; cases h
    · rw [List.getElem?_set_ne hi] at h
      obtain ⟨h1, h2⟩ := mwipe_some h
      exact ⟨h1, by simp only [List.mem_cons, not_or]; exact ⟨fun e => hi e.symm, h2⟩⟩
theorem RSt.wipe {K : PySem.W.Frag} {μ : List Addr} {N : Addr → Prop} {H : Hp} {σ : L2.St} {ρ : Rho} (r : RSt K μ N H σ ρ) (vs : List Nat) : RSt K μ N H (L2.wipe σ vs) (mwipe ρ vs) := by
  refine ⟨by rw [wipe_length, mwipe_length]; exact r.len, fun i w e => ?_⟩
  obtain ⟨e1, e2⟩ := mwipe_some e
  obtain ⟨v, e3, q⟩ := r.at_ i w e1
  exact ⟨v, by rw [wipe_out e2]; exact e3, q⟩
theorem wipe_in {σ : L2.St} {i : Nat} (hl : i < σ.length) : ∀ {vs : List Nat}, i ∈ vs → (wipe σ vs)[i]? = some none
  | v :: vs, h => by
    unfold wipe
    by_cases hi : v = i
    · subst hi
      rw [List.getElem?_set_self (by rw [wipe_length]; exact hl)]
    · rw [List.getElem?_set_ne hi]
      refine wipe_in hl ?_
      rcases List.mem_cons.mp h with z | z
      · exact absurd z.symm hi
      · exact z
theorem wipe_eq {σ σ' : L2.St} {vs : List Nat} (hl : σ'.length = (wipe σ vs).length) (ho : ∀ i, i ∉ vs → σ'[i]? = (wipe σ vs)[i]?) : wipe σ' vs = wipe σ vs := by
  apply List.ext_getElem?
  intro i
  by_cases hi : i ∈ vs
  · by_cases h : i < σ.length
    · rw [wipe_in h hi, wipe_in (by rw [hl, wipe_length]; exact h) hi]
    · rw [List.getElem?_eq_none (by rw [wipe_length, hl, wipe_length]; omega), List.getElem?_eq_none (by rw [wipe_length]; omega)]
  · rw [wipe_out hi, ho i hi]
section
variable {K : PySem.W.Frag}
/-- a comprehension's clause, run within: P what is known of the state throughout; D the list in the making -/
theorem clause {F : Addr → Prop} {D : Addr} {J : It} {src : Src} {g : Gm} {T vs : List Nat} {c : Tm} {e : Em} {ρ : Rho} {σ : L2.St} {Sf : Sto} {total : List W} {Fin : Hp → Prop} (P : List Addr → Sto → Hp → Prop)
    (hT : ∀ i ∈ T, i ∈ vs) (hr : ∀ μ S H, P μ S H → RS K (Fp F D) μ S H) (hs : ∀ μ S H μ' S' H', P μ S H → Gs K (Fp F D) μ S H μ' S' H' → P μ' S' H') (hg : ∀ μ S H xs, P μ S H → P μ S (upd H D (.lst xs)))
    (hj : ∀ μ S H, P μ S H → ∀ (i : Nat) r, srcAt src S i = some r → match r with
      | none => J.stop i H
      | some w => J.go i H ∧ ∀ x H3, J.yld i H x H3 → Fr H H3 ∧ RepW K μ (NF (Fp F D) μ S) H3 w x)
    (hst : ∀ μ S H, P μ S H → RSt K μ (NF (Fp F D) μ S) H (wipe σ vs) (mwipe ρ vs)) (hl : total.length ≤ 1000000)
    (hf : ∀ μ H vs', P μ Sf H → H D = some (.lst vs') → RepWs K μ (NF (Fp F D) μ Sf) H total vs' → Fin H)
    {μ : List Addr} {S : Sto} {H : Hp} {acc : List V} {done rest : List W} {n : Nat} (p : P μ S H) (hD : H D = some (.lst acc)) (q : RepWs K μ (NF (Fp F D) μ S) H done acc) (hc : cloop src g c e (mwipe ρ vs) n 0 S = some (rest, Sf)) (ht : done ++ rest = total) :
    ∃ W : Nat → Nat → Hp → Prop, (∃ m, W 0 m H) ∧ ∀ i m H, W i m H →
      (J.stop i H ∧ Fin H) ∨ (J.go i H ∧ ∃ Nx : Hp → Prop, (∀ H', Nx H' → ∃ m', m' < m ∧ W (i + 1) m' H') ∧ ∀ x H', J.yld i H x H' → LG K g T x (wipe σ vs) H' fun σ2 H2 => wipe σ2 vs = wipe σ vs ∧ LT K c σ2 H2 fun b H3 =>
        if b = true then LE K e σ2 H3 fun y H4 => ∃ acc, H4 D = some (.lst acc) ∧ acc.length < sizeLine ∧ Nx (upd H4 D (.lst (acc ++ [y]))) else Nx H3) := by
  refine ⟨fun i m H => ∃ μ S acc done rest, P μ S H ∧ H D = some (.lst acc) ∧ RepWs K μ (NF (Fp F D) μ S) H done acc ∧ cloop src g c e (mwipe ρ vs) m i S = some (rest, Sf) ∧ done ++ rest = total, ⟨n, μ, S, acc, done, rest, p, hD, q, hc, ht⟩, ?_⟩
  clear p hD q hc ht μ S H acc done rest n
  rintro i m H ⟨μ, S, acc, done, rest, p, hD, q, hc, ht⟩
  have rs := hr μ S H p
  -- the end
  have fin : rest = [] → S = Sf → srcAt src S i = some none → J.stop i H ∧ Fin H := fun e1 e2 e3 => by
    subst e1 e2
    rw [List.append_nil] at ht
    subst ht
    exact ⟨hj μ S H p i none e3, hf μ H acc p hD q⟩
  cases m with
  | zero =>
    unfold cloop at hc
    obtain ⟨r, e1, hc⟩ := bind_some hc
    cases r with
    | none => cases hc; exact .inl (fin rfl rfl e1)
    | some w => cases hc
  | succ m =>
    unfold cloop at hc
    obtain ⟨r, e1, hc⟩ := bind_some hc
    cases r with
    | none => cases hc; exact .inl (fin rfl rfl e1)
    | some w =>
      obtain ⟨go, yl⟩ := hj μ S H p i (some w) e1
      obtain ⟨ρ1, e2, hc⟩ := bind_some hc
      obtain ⟨⟨b, S1⟩, e3, hc⟩ := bind_some hc
      refine .inr ⟨go, fun H' => ∃ μ S acc done rest, P μ S H' ∧ H' D = some (.lst acc) ∧ RepWs K μ (NF (Fp F D) μ S) H' done acc ∧ cloop src g c e (mwipe ρ vs) m (i + 1) S = some (rest, Sf) ∧ done ++ rest = total, fun H' z => ⟨m, Nat.lt_succ_self m, z⟩, fun x H' y => ?_⟩
      obtain ⟨fr, rw'⟩ := yl x H' y
      have g1 := fr.gs rs
      have p1 := hs _ _ _ _ _ _ p g1
      refine ⟨Fp F D, μ, mwipe ρ vs, S, w, ρ1, g1.rs, hst _ _ _ p1, rw', e2, fun σ2 st2 l2 o2 => ⟨wipe_eq l2 fun j hj => o2 j fun z => hj (hT j z), ?_⟩⟩
      refine ⟨Fp F D, μ, ρ1, S, b, S1, g1.rs, st2, e3, fun μ3 H3 g3 => ?_⟩
      have p3 := hs _ _ _ _ _ _ p1 g3
      have g13 := g1.trans g3
      have nD : ∀ {μ S H}, P μ S H → ¬ NA μ S D := fun {μ S H} p z => (hr μ S H p).fd D (.inr rfl) z
      have hD3 : H3 D = some (.lst acc) := g13.go.ext D _ hD (nD p)
      have q3 : RepWs K μ3 (NF (Fp F D) μ3 S1) H3 done acc := q.mono g13.go g13.pre
      cases b with
      | false =>
        rw [if_neg Bool.false_ne_true] at hc
        refine iteF ?_
        exact ⟨μ3, S1, acc, done, rest, p3, hD3, q3, hc, ht⟩
      | true =>
        rw [if_pos rfl] at hc
        refine iteT ?_
        obtain ⟨⟨w4, S4⟩, e4, hc⟩ := bind_some hc
        obtain ⟨⟨rest', S5⟩, e5, hc⟩ := bind_some hc
        cases hc
        refine ⟨Fp F D, μ3, ρ1, S1, w4, S4, g3.rs, st2.mono g3.go g3.pre, e4, fun μ4 y H4 g4 q4 => ?_⟩
        have p4 := hs _ _ _ _ _ _ p3 g4
        have hD4 : H4 D = some (.lst acc) := g4.go.ext D _ hD3 (nD p3)
        have q5 : RepWs K μ4 (NF (Fp F D) μ4 S4) H4 done acc := q3.mono g4.go g4.pre
        have la : acc.length ≤ 1000000 := by
          have h1 := q.length
          have h2 := congrArg List.length ht
          rw [List.length_append] at h2
          omega
        have gr := (RS.grow (xs := acc ++ [y]) (hr _ _ _ p4)).2
        refine ⟨acc, hD4, lim_line la, μ4, S4, acc ++ [y], done ++ [w4], rest', hg _ _ _ _ p4, upd_same, ?_, e5, by rw [List.append_assoc]; exact ht⟩
        exact (q5.append (.cons q4 .nil)).mono gr ⟨[], by simp⟩
/-- a comprehension's reading -/
theorem lc_read {mi : Im} {g : Gm} {T vs : List Nat} {c : Tm} {e : Em} {σ : L2.St} {H : Hp} {Q : VK} (hT : ∀ i ∈ T, i ∈ vs) (h : LF K (mcomp mi g c e vs) σ H Q) : tLc (LI K mi) (LG K g T) (LT K c) (LE K e) vs σ H Q := by
  obtain ⟨F, μ, ρ, S, ws, S', rs, rst, h, k⟩ := h
  obtain ⟨⟨src, S1⟩, e1, h⟩ := bind_some h
  obtain ⟨⟨rest, Sf⟩, e2, h⟩ := bind_some h
  obtain ⟨e3, hl⟩ := lim_some h
  cases e3
  refine ⟨F, μ, ρ, S, src, S1, rs, rst, e1, fun μ1 J H1 g1 ito D hD => ?_⟩
  refine clause (K := K) (F := F) (D := D) (src := src) (ρ := ρ) (total := ws) (Sf := S') (fun μ2 S2 H2 => Gx K F μ1 S1 H1 (Fp F D) μ2 S2 H2 ∧ Gz K F μ1 S1 H1 (Fp F D) μ2 S2 H2) hT (fun _ _ _ p => p.1.rs) (fun μ2 S2 H2 μ3 S3 H3 p gs => ⟨p.1.step gs, p.2.trans (gs.gz p.1.rs)⟩) (fun μ2 S2 H2 xs p => ⟨p.1.grown hD, p.2.trans (Gz.grown p.1.rs)⟩)
    (fun μ2 S2 H2 p => ito _ _ _ _ p.2) (fun μ2 S2 H2 p => ((rst.mono g1.go g1.pre).wipe vs).mono p.1.go p.1.pre) hl (fun μ2 H2 vs' p hD2 q => ?_) (μ := μ1) (S := S1) (acc := []) (done := []) ⟨Gx.opened g1.rs hD, Gz.opened g1.rs hD⟩ upd_same .nil e2 rfl
  have gc := Gx.closed g1.rs p.1 hD
  have hF : ¬ F D := fun z => mut_there (g1.rs.fm D z) hD
  have := k μ2 (less H2 D) D vs' (g1.trans gc) less_self (q.mono (p.1.rs.close hF).2 ⟨[], by simp⟩)
  rw [upd_less hD2] at this
  exact this
end
section
variable {K : PySem.W.Frag}
theorem lc_read2 {mi mi1 : Im} {g g1 : Gm} {T T1 vs vs1 : List Nat} {c c1 : Tm} {e : Em} {σ : L2.St} {H : Hp} {Q : VK} (hT : ∀ i ∈ T, i ∈ vs) (hT1 : ∀ i ∈ T1, i ∈ vs1) (h : LF K (mcomp2 mi g c mi1 g1 c1 e vs vs1) σ H Q) :
    tLc2 (LI K mi) (LG K g T) (LT K c) (LI K mi1) (LG K g1 T1) (LT K c1) (LE K e) vs vs1 σ H Q := by
  obtain ⟨F, μ, ρ, S, ws, S', rs, rst, h, k⟩ := h
  obtain ⟨⟨src, S1⟩, e1, h⟩ := bind_some h
  obtain ⟨⟨rest, Sf⟩, e2, h⟩ := bind_some h
  obtain ⟨e3, hl⟩ := lim_some h
  cases e3
  refine ⟨F, μ, ρ, S, src, S1, rs, rst, e1, fun μ1 J H1 g1' ito D hD => ?_⟩
  have rst1 := (rst.mono g1'.go g1'.pre).wipe vs
  let P : List Addr → Sto → Hp → Prop := fun μ2 S2 H2 => Gx K F μ1 S1 H1 (Fp F D) μ2 S2 H2 ∧ Gz K F μ1 S1 H1 (Fp F D) μ2 S2 H2
  have Ps : ∀ {μ2 S2 H2 μ3 S3 H3}, P μ2 S2 H2 → Gs K (Fp F D) μ2 S2 H2 μ3 S3 H3 → P μ3 S3 H3 := fun p gs => ⟨p.1.step gs, p.2.trans (gs.gz p.1.rs)⟩
  have Pg : ∀ {μ2 S2 H2 xs}, P μ2 S2 H2 → P μ2 S2 (upd H2 D (.lst xs)) := fun p => ⟨p.1.grown hD, p.2.trans (Gz.grown p.1.rs)⟩
  have nD : ∀ {μ S H}, P μ S H → ¬ NA μ S D := fun p z => p.1.rs.fd D (.inr rfl) z
  let WW : Nat → Nat → Hp → Prop := fun i m H => ∃ μ S acc done rest, P μ S H ∧ H D = some (.lst acc) ∧ RepWs K μ (NF (Fp F D) μ S) H done acc ∧ cloop2 src g c mi1 g1 c1 e (mwipe ρ vs) vs1 m i S = some (rest, S') ∧ done ++ rest = ws
  refine ⟨WW, ⟨_, μ1, S1, [], [], ws, ⟨Gx.opened g1'.rs hD, Gz.opened g1'.rs hD⟩, upd_same, .nil, e2, rfl⟩, ?_⟩
  rintro i m H2 ⟨μ2, S2, acc, done, rest, p, hD2, q, hc, ht⟩
  have rs2 := p.1.rs
  have fin : rest = [] → S2 = S' → srcAt src S2 i = some none → J.stop i H2 ∧ Q (.ref D) H2 := fun e1 e2 e3 => by
    subst e1 e2
    rw [List.append_nil] at ht
    subst ht
    refine ⟨ito _ _ _ _ p.2 i none e3, ?_⟩
    have gc := Gx.closed g1'.rs p.1 hD
    have hF : ¬ F D := fun z => mut_there (g1'.rs.fm D z) hD
    have := k μ2 (less H2 D) D acc (g1'.trans gc) less_self (q.mono (p.1.rs.close hF).2 ⟨[], by simp⟩)
    rw [upd_less hD2] at this
    exact this
  cases m with
  | zero =>
    unfold cloop2 at hc
    obtain ⟨r, e1, hc⟩ := bind_some hc
    cases r with
    | none => cases hc; exact .inl (fin rfl rfl e1)
    | some w => cases hc
  | succ m =>
    unfold cloop2 at hc
    obtain ⟨r, e1, hc⟩ := bind_some hc
    cases r with
    | none => cases hc; exact .inl (fin rfl rfl e1)
    | some w =>
      obtain ⟨go, yl⟩ := ito _ _ _ _ p.2 i (some w) e1
      obtain ⟨ρ1, e2, hc⟩ := bind_some hc
      obtain ⟨⟨b, S3⟩, e3, hc⟩ := bind_some hc
      refine .inr ⟨go, fun H' => WW (i + 1) m H', fun H' z => ⟨m, Nat.lt_succ_self m, z⟩, fun x H' y => ?_⟩
      obtain ⟨fr, rw'⟩ := yl x H' y
      have g2 := fr.gs rs2
      have p2 := Ps p g2
      refine ⟨Fp F D, μ2, mwipe ρ vs, S2, w, ρ1, g2.rs, rst1.mono p2.1.go p2.1.pre, rw', e2, fun σ2 st2 l2 o2 => ⟨wipe_eq l2 fun j hj => o2 j fun z => hj (hT j z), ?_⟩⟩
      refine ⟨Fp F D, μ2, ρ1, S2, b, S3, g2.rs, st2, e3, fun μ3 H3 g3 => ?_⟩
      have p3 := Ps p2 g3
      have g23 := g2.trans g3
      have hD3 : H3 D = some (.lst acc) := g23.go.ext D _ hD2 (nD p)
      have q3 : RepWs K μ3 (NF (Fp F D) μ3 S3) H3 done acc := q.mono g23.go g23.pre
      cases b with
      | false =>
        rw [if_neg Bool.false_ne_true] at hc
        refine iteF ?_
        exact ⟨μ3, S3, acc, done, rest, p3, hD3, q3, hc, ht⟩
      | true =>
        rw [if_pos rfl] at hc
        refine iteT ?_
        obtain ⟨⟨src1, S4⟩, e4, hc⟩ := bind_some hc
        obtain ⟨⟨r1, S5⟩, e5, hc⟩ := bind_some hc
        obtain ⟨⟨rest', S6⟩, e6, hc⟩ := bind_some hc
        cases hc
        refine ⟨Fp F D, μ3, ρ1, S3, src1, S4, g3.rs, st2.mono g3.go g3.pre, e4, fun μ4 J1 H4 g4 ito1 => ?_⟩
        have p4 := Ps p3 g4
        have hD4 : H4 D = some (.lst acc) := g4.go.ext D _ hD3 (nD p3)
        have q4 : RepWs K μ4 (NF (Fp F D) μ4 S4) H4 done acc := q3.mono g4.go g4.pre
        have st4 : RSt K μ4 (NF (Fp F D) μ4 S4) H4 (wipe σ2 vs1) (mwipe ρ1 vs1) := ((st2.mono g3.go g3.pre).mono g4.go g4.pre).wipe vs1
        have hl1 : (done ++ r1).length ≤ 1000000 := by
          have h2 := congrArg List.length ht
          have h3 : ws.length ≤ 1000000 := hl
          simp only [List.length_append] at h2 ⊢
          omega
        refine clause (K := K) (F := F) (D := D) (src := src1) (ρ := ρ1) (total := done ++ r1) (Sf := S5) (fun μ S H => P μ S H ∧ Gz K (Fp F D) μ4 S4 H4 (Fp F D) μ S H) hT1 (fun _ _ _ p => p.1.1.rs) (fun μ2 S2 H2 μ3 S3 H3 p gs => ⟨Ps p.1 gs, p.2.trans (gs.gz p.1.1.rs)⟩) (fun μ2 S2 H2 xs p => ⟨Pg p.1, p.2.trans (Gz.grown p.1.1.rs)⟩)
          (fun μ2 S2 H2 p => ito1 _ _ _ _ p.2) (fun μ2 S2 H2 p => st4.mono p.2.go p.2.pre) hl1 (fun μ2 H2 vs' p hD2 q => ⟨μ2, S5, vs', done ++ r1, rest', p.1, hD2, q, e6, by rw [List.append_assoc]; exact ht⟩) (μ := μ4) (S := S4) (acc := acc) (done := done) (rest := r1) ⟨p4, (Gs.refl p4.1.rs).gz p4.1.rs⟩ hD4 q4 e5 rfl
end
section
variable {X : Cx} {elt tg iter tg1 iter1 : Expr} {ifs ifs1 : List Expr} {scope : Scope} {own : List (Str × Nat)} {pos : Pos} {mi mi1 : Im} {g g1 : Gm} {T T1 : List Nat} {c c1 : Tm} {e : Em}
abbrev MTs (X : Cx) (ifs : List Expr) (m : Tm) : Prop := PTs X ifs (LT X.K m)
theorem PTs.cons {X : Cx} {ifs : List Expr} {t t' : TT} (h : PTs X ifs t) (f : ∀ σ H Q, t' σ H Q → t σ H Q) : PTs X ifs t' := ⟨fun pins s σ H Q I q => h.run pins s σ H Q I (f _ _ _ q)⟩
theorem mts_nil : MTs X [] tyes := PTs.cons pts_nil fun σ H Q ⟨F, μ, ρ, S, b, S', rs, rst, h, k⟩ => by
  cases h
  exact k μ H (Gs.refl rs)
theorem mts_one {x : Expr} {m : Tm} (h : MT X x m) : MTs X [x] m := pts_one h
abbrev blkX (X : Cx) (s : Shared) (H : Hp) (scope : Scope) (cl : List (Str × Addr)) (C : Addr) (fp : List Addr) : Cx := X.blk s H scope (compEnvC scope cl C X.env) fp
theorem mf_comp (hc : X.calm = true) (hN : X.N.Nodup) (hi : MI X tg iter mi) (ok : BlkOk X.N X.env.scope scope own) (hT : ∀ i ∈ T, i ∈ own.map (·.2))
    (hg : ∀ (s : Shared) (H : Hp) (C : Addr) (cl : List (Str × Addr)) (fp : List Addr), PG (X.blk s H scope (compEnvC scope cl C X.env) fp) tg (LG X.K g T)) (ht : ∀ (s : Shared) (H : Hp) (C : Addr) (cl : List (Str × Addr)) (fp : List Addr), PTs (X.blk s H scope (compEnvC scope cl C X.env) fp) ifs (LT X.K c))
    (he : ∀ (s : Shared) (H : Hp) (C : Addr) (cl : List (Str × Addr)) (fp : List Addr), PE (X.blk s H scope (compEnvC scope cl C X.env) fp) elt (LE X.K e)) (hs : ∀ x, foldedSetIterable iter X.env x = pure x := by intro _; rfl) :
    MF X (.ListComp elt [⟨tg, iter, ifs, 0⟩] scope pos) (mcomp mi g c e (own.map (·.2))) :=
  PE.cons (pe_lc hc hN hi ok hg ht he hs) fun σ H Q h => lc_read hT h
theorem mf_comp2 {vs1 : List Nat} (hc : X.calm = true) (hN : X.N.Nodup) (hi : MI X tg iter mi) (ok : BlkOk X.N X.env.scope scope own) (hv : ∀ i ∈ vs1, i ∈ own.map (·.2)) (hT : ∀ i ∈ T, i ∈ own.map (·.2)) (hT1 : ∀ i ∈ T1, i ∈ vs1)
    (hg : ∀ (s : Shared) (H : Hp) (C : Addr) (cl : List (Str × Addr)) (fp : List Addr), PG (X.blk s H scope (compEnvC scope cl C X.env) fp) tg (LG X.K g T)) (ht : ∀ (s : Shared) (H : Hp) (C : Addr) (cl : List (Str × Addr)) (fp : List Addr), PTs (X.blk s H scope (compEnvC scope cl C X.env) fp) ifs (LT X.K c))
    (hi1 : ∀ (s : Shared) (H : Hp) (C : Addr) (cl : List (Str × Addr)) (fp : List Addr), PI (X.blk s H scope (compEnvC scope cl C X.env) fp) tg1 iter1 (LI X.K mi1))
    (hg1 : ∀ (s : Shared) (H : Hp) (C : Addr) (cl : List (Str × Addr)) (fp : List Addr), PG (X.blk s H scope (compEnvC scope cl C X.env) fp) tg1 (LG X.K g1 T1)) (ht1 : ∀ (s : Shared) (H : Hp) (C : Addr) (cl : List (Str × Addr)) (fp : List Addr), PTs (X.blk s H scope (compEnvC scope cl C X.env) fp) ifs1 (LT X.K c1))
    (he : ∀ (s : Shared) (H : Hp) (C : Addr) (cl : List (Str × Addr)) (fp : List Addr), PE (X.blk s H scope (compEnvC scope cl C X.env) fp) elt (LE X.K e)) (hs : ∀ x, foldedSetIterable iter X.env x = pure x := by intro _; rfl) (hs1 : ∀ env x, foldedSetIterable iter1 env x = pure x := by intro _ _; rfl) :
    MF X (.ListComp elt [⟨tg, iter, ifs, 0⟩, ⟨tg1, iter1, ifs1, 0⟩] scope pos) (mcomp2 mi g c mi1 g1 c1 e (own.map (·.2)) vs1) :=
  PE.cons (pe_lc2 hc hN hi ok hv hg ht hi1 hg1 ht1 he hs hs1) fun σ H Q h => lc_read2 hT hT1 h
end
end GM

set_option Elab.async false
set_option linter.all false
set_option maxRecDepth 100000
set_option maxHeartbeats 4000000
set_option autoImplicit false
namespace GM
open PySem L2
/-! ### statements -/
inductive Out where
  | nx (ρ : Rho) (S : Sto) | ret (w : W) (S : Sto) | bk (ρ : Rho) (S : Sto) | ct (ρ : Rho) (S : Sto)
abbrev Bm := Rho → Sto → Option Out
def OutOk (K : PySem.W.Frag) (F : Addr → Prop) (D : Ends) (μ : List Addr) (S : Sto) (H : Hp) : Out → Prop
  | .nx ρ' S' => ∀ μ' σ' H', Gs K F μ S H μ' S' H' → RSt K μ' (NF F μ' S') H' σ' ρ' → D.nx σ' H'
  | .bk ρ' S' => ∀ μ' σ' H', Gs K F μ S H μ' S' H' → RSt K μ' (NF F μ' S') H' σ' ρ' → D.bk σ' H'
  | .ct ρ' S' => ∀ μ' σ' H', Gs K F μ S H μ' S' H' → RSt K μ' (NF F μ' S') H' σ' ρ' → D.ct σ' H'
  | .ret w S' => ∀ μ' v H', Gs K F μ S H μ' S' H' → RepW K μ' (NF F μ' S') H' w v → D.rt v H'
def LS (K : PySem.W.Frag) (m : Bm) : TS := fun D σ H => ∃ (F : Addr → Prop) (μ : List Addr) (ρ : Rho) (S : Sto) (o : Out), RS K F μ S H ∧ RSt K μ (NF F μ S) H σ ρ ∧ m ρ S = some o ∧ OutOk K F D μ S H o
abbrev MS (X : Cx) (st : Stmt) (m : Bm) : Prop := PS X st (LS X.K m)
abbrev MSs (X : Cx) (st : List Stmt) (m : Bm) : Prop := PSs X st (LS X.K m)
theorem PS.cons {X : Cx} {e : Stmt} {t t' : TS} (h : PS X e t) (f : ∀ D σ H, t' D σ H → t D σ H) : PS X e t' := ⟨fun pins s σ H D I q => h.run pins s σ H D I (f _ _ _ q)⟩
theorem PSs.cons {X : Cx} {e : List Stmt} {t t' : TS} (h : PSs X e t) (f : ∀ D σ H, t' D σ H → t D σ H) : PSs X e t' := ⟨fun pins s σ H D I q => h.run pins s σ H D I (f _ _ _ q)⟩
theorem OutOk.go {K : PySem.W.Frag} {F : Addr → Prop} {D : Ends} {μ μ1 : List Addr} {S S1 : Sto} {H H1 : Hp} (g : Gs K F μ S H μ1 S1 H1) : ∀ {o : Out}, OutOk K F D μ S H o → OutOk K F D μ1 S1 H1 o
  | .nx _ _, h => fun μ' σ' H' g' r => h μ' σ' H' (g.trans g') r
  | .bk _ _, h => fun μ' σ' H' g' r => h μ' σ' H' (g.trans g') r
  | .ct _ _, h => fun μ' σ' H' g' r => h μ' σ' H' (g.trans g') r
  | .ret _ _, h => fun μ' v H' g' r => h μ' v H' (g.trans g') r
def bnil : Bm := fun ρ S => some (.nx ρ S)
def bseq (a b : Bm) : Bm := fun ρ S => (a ρ S).bind fun o => match o with
  | .nx ρ1 S1 => b ρ1 S1
  | .ret w S1 => some (.ret w S1)
  | .bk ρ1 S1 => some (.bk ρ1 S1)
  | .ct ρ1 S1 => some (.ct ρ1 S1)
def bset (i : Nat) (m : Em) : Bm := fun ρ S => (m ρ S).bind fun p => some (.nx (ρ.set i (some p.1)) p.2)
def basg (g : Gm) (m : Em) : Bm := fun ρ S => (m ρ S).bind fun p => (g p.2 p.1 ρ).bind fun ρ1 => some (.nx ρ1 p.2)
def bret (m : Em) : Bm := fun ρ S => (m ρ S).bind fun p => some (.ret p.1 p.2)
def bdrop (m : Em) : Bm := fun ρ S => (m ρ S).bind fun p => some (.nx ρ p.2)
def bcond (c : Tm) (a b : Bm) : Bm := fun ρ S => (c ρ S).bind fun q => if q.1 = true then a ρ q.2 else b ρ q.2
def bbrk : Bm := fun ρ S => some (.bk ρ S)
def bcnt : Bm := fun ρ S => some (.ct ρ S)
def baug (i : Nat) (f : Int → Int → Int) (m : Em) : Bm := fun ρ S => match ρ[i]? with
  | some (some (.d (.int a))) => (m ρ S).bind fun p => match p.1 with
    | .d (.int b) => some (.nx (ρ.set i (some (.d (.int (f a b))))) p.2)
    | _ => none
  | _ => none
def floop (src : Src) (g : Gm) (b : Bm) : Nat → Nat → Rho → Sto → Option Out
  | 0, i, ρ, S => (srcAt src S i).bind fun r => match r with
    | none => some (.nx ρ S)
    | some _ => none
  | n + 1, i, ρ, S => (srcAt src S i).bind fun r => match r with
    | none => some (.nx ρ S)
    | some w => (g S w ρ).bind fun ρ1 => (b ρ1 S).bind fun o => match o with
      | .nx ρ2 S2 => floop src g b n (i + 1) ρ2 S2
      | .ct ρ2 S2 => floop src g b n (i + 1) ρ2 S2
      | .bk ρ2 S2 => some (.nx ρ2 S2)
      | .ret w S2 => some (.ret w S2)
def bfor (mi : Im) (g : Gm) (b : Bm) : Bm := fun ρ S => (mi ρ S).bind fun p => floop p.1 g b (srcLen p.1 p.2) 0 ρ p.2
def wloop (c : Tm) (b : Bm) : Nat → Rho → Sto → Option Out
  | 0, _, _ => none
  | n + 1, ρ, S => (c ρ S).bind fun q => if q.1 = true then (b ρ q.2).bind fun o => match o with
      | .nx ρ2 S2 => wloop c b n ρ2 S2
      | .ct ρ2 S2 => wloop c b n ρ2 S2
      | .bk ρ2 S2 => some (.nx ρ2 S2)
      | .ret w S2 => some (.ret w S2) else some (.nx ρ q.2)
def bwhile (n : Nat) (c : Tm) (b : Bm) : Bm := wloop c b n
section
variable {K : PySem.W.Frag} {D : Ends} {σ : L2.St} {H : Hp}
theorem thw_read {m : Am} {Q : VK} (h : LE K (thw m) σ H Q) : LF K m σ H Q := by
  obtain ⟨F, μ, ρ, S, w, S', rs, rst, h, k⟩ := h
  obtain ⟨⟨ws, S1⟩, e1, h⟩ := bind_some h
  cases h
  refine ⟨F, μ, ρ, S, ws, S1, rs, rst, e1, fun μ' H' p vs g hp q => ?_⟩
  have g2 := Gs.cell (p := p) (o := .lst vs) (c := .lst ws) g.rs hp (fun z => nomatch z) fun {N'} gg => ⟨vs, upd_same, q.mono gg ⟨[p], rfl⟩⟩
  refine k _ _ _ (g.trans g2) ⟨p, ?_, rfl⟩
  rw [← g.rs.len, List.getElem?_append_right (Nat.le_refl _), Nat.sub_self]
  rfl
theorem frz_read {m : Am} {Q : VK} (h : LE K (frz m) σ H Q) : LF K m σ H Q := by
  obtain ⟨F, μ, ρ, S, w, S', rs, rst, h, k⟩ := h
  obtain ⟨⟨ws, S1⟩, e1, h⟩ := bind_some h
  obtain ⟨ds, e2, h⟩ := bind_some h
  cases h
  refine ⟨F, μ, ρ, S, ws, S1, rs, rst, e1, fun μ' H' p vs g hp q => ?_⟩
  have f : Fr H' (upd H' p (.lst vs)) := Fr.upd hp
  have g2 := f.gs g.rs
  refine k μ' _ _ (g.trans g2) ?_
  show RepD _ _ _ _ _
  rw [RepD]
  exact ⟨p, vs, rfl, ⟨upd_same, fun z => g.rs.there z hp⟩, (datas_rep e2 q).mono g2.go⟩
theorem bset_read {i : Nat} {m : Em} (h : LS K (bset i m) D σ H) : LE K m σ H fun x H1 => gName i x σ H1 D.nx := by
  obtain ⟨F, μ, ρ, S, o, rs, rst, h, k⟩ := h
  obtain ⟨⟨w, S1⟩, e1, h⟩ := bind_some h
  cases h
  exact ⟨F, μ, ρ, S, w, S1, rs, rst, e1, fun μ' v H' g q => k μ' _ H' g ((rst.mono g.go g.pre).set q)⟩
end
section
variable {X : Cx} {st : Stmt} {rest : List Stmt} {e : Expr} {pos : Pos} {m : Em} {a b : Bm} {x : Str} {c : Tm}
theorem mss_nil : MSs X [] bnil := PSs.cons pss_nil fun D σ H ⟨F, μ, ρ, S, o, rs, rst, h, k⟩ => by
  cases h
  exact k μ σ H (Gs.refl rs) rst
theorem mss_cons (h1 : MS X st a) (h2 : MSs X rest b) : MSs X (st :: rest) (bseq a b) := PSs.cons (pss_cons h1 h2) fun D σ H ⟨F, μ, ρ, S, o, rs, rst, h, k⟩ => by
  obtain ⟨o1, e1, h⟩ := bind_some h
  refine ⟨F, μ, ρ, S, o1, rs, rst, e1, ?_⟩
  cases o1 with
  | nx ρ1 S1 => exact fun μ' σ' H' g r => ⟨F, μ', ρ1, S1, o, g.rs, r, h, k.go g⟩
  | ret w S1 => cases h; exact k
  | bk ρ1 S1 => cases h; exact k
  | ct ρ1 S1 => cases h; exact k
theorem mss_one (h1 : MS X st a) : MSs X [st] a := pss_one h1
theorem ms_pass : MS X (.Pass pos) bnil := PS.cons ps_pass fun D σ H ⟨F, μ, ρ, S, o, rs, rst, h, k⟩ => by
  cases h
  exact k μ σ H (Gs.refl rs) rst
theorem ms_break : MS X (.Break pos) bbrk := PS.cons ps_break fun D σ H ⟨F, μ, ρ, S, o, rs, rst, h, k⟩ => by
  cases h
  exact k μ σ H (Gs.refl rs) rst
theorem ms_continue : MS X (.Continue pos) bcnt := PS.cons ps_continue fun D σ H ⟨F, μ, ρ, S, o, rs, rst, h, k⟩ => by
  cases h
  exact k μ σ H (Gs.refl rs) rst
theorem ms_set {i : Nat} {pos' : Pos} (hN : X.N.Nodup) (hi : X.N[i]? = some x) (hx : Loc X.env.scope x) (he : ME X e m) (hs : swapsWith e (some (.Name x pos')) pos.line X.env = pure false := by rfl) (hf : X.fn x = true ∨ X.env.scope.names.lookup x = some .local := by first | exact .inl rfl | exact .inr rfl | assumption) :
    MS X (.Assign [.Name x pos'] e pos) (bset i m) := PS.cons (ps_set hN hi hx he hs hf) fun D σ H h => bset_read h
theorem ms_asg {tg : Expr} {g : Gm} {T : List Nat} (he : ME X e m) (hg : PG X tg (LG X.K g T)) (hs : swapsWithSole [tg] e pos.line X.env = pure false := by rfl) (hw : swappedStores [tg] e X.env = pure none := by rfl)
    (h1 : (assignEach [tg] X.env).map (·.2) = [assign tg X.env] := by rfl) : MS X (.Assign [tg] e pos) (basg g m) := PS.cons (ps_asg he hg hs hw h1) fun D σ H ⟨F, μ, ρ, S, o, rs, rst, h, k⟩ => by
  obtain ⟨⟨w, S1⟩, e1, h⟩ := bind_some h
  obtain ⟨ρ1, e2, h⟩ := bind_some h
  cases h
  exact ⟨F, μ, ρ, S, w, S1, rs, rst, e1, fun μ' v H' gg q => ⟨F, μ', ρ, S1, w, ρ1, gg.rs, rst.mono gg.go gg.pre, q, e2, fun σ' r _ _ => k μ' σ' H' gg r⟩⟩
theorem ms_ret (he : ME X e m) : MS X (.Return (some e) pos) (bret m) := PS.cons (ps_ret he) fun D σ H ⟨F, μ, ρ, S, o, rs, rst, h, k⟩ => by
  obtain ⟨⟨w, S1⟩, e1, h⟩ := bind_some h
  cases h
  exact ⟨F, μ, ρ, S, w, S1, rs, rst, e1, k⟩
theorem ms_retN : MS X (.Return none pos) (bret (mk .non)) := PS.cons ps_retN fun D σ H ⟨F, μ, ρ, S, o, rs, rst, h, k⟩ => by
  cases h
  exact k μ _ H (Gs.refl rs) (by show RepD _ _ _ _ _; rw [RepD])
theorem ms_expr (he : ME X e m) (hs : swapsWith e none pos.line X.env = pure false := by rfl) : MS X (.Expr e pos) (bdrop m) := PS.cons (ps_expr he hs) fun D σ H ⟨F, μ, ρ, S, o, rs, rst, h, k⟩ => by
  obtain ⟨⟨w, S1⟩, e1, h⟩ := bind_some h
  cases h
  exact ⟨F, μ, ρ, S, w, S1, rs, rst, e1, fun μ' v H' g q => k μ' σ H' g (rst.mono g.go g.pre)⟩
theorem ms_if {t : Expr} {sa sb : List Stmt} (hc : MT X t c) (ha : MSs X sa a) (hb : MSs X sb b) : MS X (.If t sa sb pos) (bcond c a b) := PS.cons (ps_if hc ha hb) fun D σ H ⟨F, μ, ρ, S, o, rs, rst, h, k⟩ => by
  obtain ⟨⟨d, S1⟩, e1, h⟩ := bind_some h
  refine ⟨F, μ, ρ, S, d, S1, rs, rst, e1, fun μ' H' g => ?_⟩
  cases d with
  | true => exact ⟨F, μ', ρ, S1, o, g.rs, rst.mono g.go g.pre, h, k.go g⟩
  | false => exact ⟨F, μ', ρ, S1, o, g.rs, rst.mono g.go g.pre, h, k.go g⟩
theorem ms_aug {i : Nat} {op : Operator} {f : Int → Int → Int} {pos' : Pos} (hN : X.N.Nodup) (hi : X.N[i]? = some x) (hx : Loc X.env.scope x) (he : ME X e m) (ho : PIp X op (ipI f)) (hf : X.fn x = true ∨ X.env.scope.names.lookup x = some .local := by first | exact .inl rfl | exact .inr rfl | assumption) :
    MS X (.AugAssign (.Name x pos') op e pos) (baug i f m) := PS.cons (ps_aug hN hi hx he ho hf) fun D σ H ⟨F, μ, ρ, S, o, rs, rst, h, k⟩ => by
  unfold baug at h
  split at h
  · rename_i a' ea
    obtain ⟨⟨w, S1⟩, e1, h⟩ := bind_some h
    obtain ⟨v0, ev, qv⟩ := rst.at_ i _ ea
    cases int_rep qv
    refine ⟨_, ev, F, μ, ρ, S, w, S1, rs, rst, e1, fun μ' v H' g q => ?_⟩
    cases w with
    | d y =>
      cases y with
      | int b' =>
        cases h
        cases int_rep q
        exact ⟨a', b', rfl, rfl, k μ' _ H' g ((rst.mono g.go g.pre).set (by show RepD _ _ _ _ _; rw [RepD]))⟩
      | _ => cases h
    | _ => cases h
  · cases h
theorem ms_for {iter : Expr} {tg : Expr} {body : List Stmt} {mi : Im} {g : Gm} {T : List Nat} (hp : PassesOwn (model X.prog X.w) X.A X.env X.xe) (hc : X.calm = true) (hi : MI X tg iter mi) (hg : PG X tg (LG X.K g T)) (hb : MSs X body b)
    (hs : ∀ x, foldedSetIterable iter X.env x = pure x := by intro _; rfl) : MS X (.For tg iter body [] pos) (bfor mi g b) := PS.cons (ps_for hp hc hi hg hb hs) fun D σ H ⟨F, μ, ρ, S, o, rs, rst, h, k⟩ => by
  obtain ⟨⟨src, S1⟩, e1, h⟩ := bind_some h
  refine ⟨F, μ, ρ, S, src, S1, rs, rst, e1, fun μ1 J H1 g1 ito => ?_⟩
  refine ⟨fun i m σ2 H2 => ∃ μ2 ρ2 S2, Gs X.K F μ1 S1 H1 μ2 S2 H2 ∧ RSt X.K μ2 (NF F μ2 S2) H2 σ2 ρ2 ∧ floop src g b m i ρ2 S2 = some o, ⟨_, μ1, ρ, S1, Gs.refl g1.rs, rst.mono g1.go g1.pre, h⟩, ?_⟩
  rintro i m σ2 H2 ⟨μ2, ρ2, S2, g2, st2, h⟩
  have ok2 := (k.go g1).go g2
  have fin : some (Out.nx ρ2 S2) = some o → srcAt src S2 i = some none → J.stop i H2 ∧ D.nx σ2 H2 := fun e ea => by
    cases e
    exact ⟨ito _ _ _ _ (g2.gz g1.rs) i none ea, ok2 μ2 σ2 H2 (Gs.refl g2.rs) st2⟩
  cases m with
  | zero =>
    unfold floop at h
    obtain ⟨r, ea, h⟩ := bind_some h
    cases r with
    | none => exact .inl (fin h ea)
    | some w => cases h
  | succ m =>
    unfold floop at h
    obtain ⟨r, ea, h⟩ := bind_some h
    cases r with
    | none => exact .inl (fin h ea)
    | some w =>
      obtain ⟨go, yl⟩ := ito _ _ _ _ (g2.gz g1.rs) i (some w) ea
      obtain ⟨ρ3, e3, h⟩ := bind_some h
      obtain ⟨o4, e4, h⟩ := bind_some h
      refine .inr ⟨go, fun σ3 H3 => ∃ μ2 ρ2 S2, Gs X.K F μ1 S1 H1 μ2 S2 H3 ∧ RSt X.K μ2 (NF F μ2 S2) H3 σ3 ρ2 ∧ floop src g b m (i + 1) ρ2 S2 = some o, fun σ' H' z => ⟨m, Nat.lt_succ_self m, z⟩, fun v H' y => ?_⟩
      obtain ⟨fr, q⟩ := yl v H' y
      have g3 := fr.gs g2.rs
      refine ⟨F, μ2, ρ2, S2, w, ρ3, g3.rs, st2.mono g3.go g3.pre, q, e3, fun σ3 st3 _ _ => ⟨F, μ2, ρ3, S2, o4, g3.rs, st3, e4, ?_⟩⟩
      have g23 := g2.trans g3
      cases o4 with
      | nx ρ5 S5 => exact fun μ' σ' H' g' r => ⟨μ', ρ5, S5, g23.trans g', r, h⟩
      | ct ρ5 S5 => exact fun μ' σ' H' g' r => ⟨μ', ρ5, S5, g23.trans g', r, h⟩
      | bk ρ5 S5 => cases h; exact (ok2.go g3)
      | ret w5 S5 => cases h; exact (ok2.go g3)
theorem ms_while {t : Expr} {body : List Stmt} (n : Nat) (hp : PassesOwn (model X.prog X.w) X.A X.env X.xe) (hc : MT X t c) (hb : MSs X body b) : MS X (.While t body [] pos) (bwhile n c b) := PS.cons (ps_while hp hc hb) fun D σ H ⟨F, μ, ρ, S, o, rs, rst, h, k⟩ => by
  refine ⟨fun m σ2 H2 => ∃ μ2 ρ2 S2, Gs X.K F μ S H μ2 S2 H2 ∧ RSt X.K μ2 (NF F μ2 S2) H2 σ2 ρ2 ∧ wloop c b m ρ2 S2 = some o, ⟨_, μ, ρ, S, Gs.refl rs, rst, h⟩, ?_⟩
  rintro m σ2 H2 ⟨μ2, ρ2, S2, g2, st2, h⟩
  cases m with
  | zero => cases h
  | succ m =>
    unfold wloop at h
    obtain ⟨⟨d, S3⟩, e3, h⟩ := bind_some h
    refine ⟨F, μ2, ρ2, S2, d, S3, g2.rs, st2, e3, fun μ3 H3 g3 => ?_⟩
    have g23 := g2.trans g3
    have st3 := st2.mono g3.go g3.pre
    cases d with
    | false =>
      rw [if_neg Bool.false_ne_true] at h
      refine iteF ?_
      cases h
      exact (k.go g23) μ3 σ2 H3 (Gs.refl g3.rs) st3
    | true =>
      rw [if_pos rfl] at h
      refine iteT ?_
      obtain ⟨o4, e4, h⟩ := bind_some h
      refine ⟨fun σ3 H3 => ∃ μ2 ρ2 S2, Gs X.K F μ S H μ2 S2 H3 ∧ RSt X.K μ2 (NF F μ2 S2) H3 σ3 ρ2 ∧ wloop c b m ρ2 S2 = some o, fun σ' H' z => ⟨m, Nat.lt_succ_self m, z⟩, F, μ3, ρ2, S3, o4, g3.rs, st3, e4, ?_⟩
      have ok3 := k.go g23
      cases o4 with
      | nx ρ5 S5 => exact fun μ' σ' H' g' r => ⟨μ', ρ5, S5, g23.trans g', r, h⟩
      | ct ρ5 S5 => exact fun μ' σ' H' g' r => ⟨μ', ρ5, S5, g23.trans g', r, h⟩
      | bk ρ5 S5 => cases h; exact ok3
      | ret w5 S5 => cases h; exact ok3
end
section
variable {X : Cx} {elt tg iter tg1 iter1 : Expr} {ifs ifs1 : List Expr} {scope : Scope} {own : List (Str × Nat)} {pos spos py : Pos} {y : Str} {i : Nat} {mi mi1 : Im} {g g1 : Gm} {T T1 : List Nat} {c c1 : Tm} {e : Em} {m : Em}
/-- name = [..]: r says that m is the new list, thawed or frozen -/
theorem ms_setLc (hr : ∀ {σ H Q}, LE X.K m σ H Q → LF X.K (mcomp mi g c e (own.map (·.2))) σ H Q) (hc : X.calm = true) (hN : X.N.Nodup) (hy : X.N[i]? = some y) (hyl : X.env.scope.names.lookup y = some .local)
    (hsw : swapsWith (.ListComp elt [⟨tg, iter, ifs, 0⟩] scope pos) (some (.Name y py)) spos.line X.env = pure true) (hi : MI X tg iter mi) (ok : BlkOk X.N X.env.scope scope own) (hT : ∀ i ∈ T, i ∈ own.map (·.2))
    (hg : ∀ (s : Shared) (H : Hp) (C : Addr) (cl : List (Str × Addr)) (fp : List Addr), PG (X.blk s H scope (compEnvC scope cl C X.env) fp) tg (LG X.K g T)) (ht : ∀ (s : Shared) (H : Hp) (C : Addr) (cl : List (Str × Addr)) (fp : List Addr), PTs (X.blk s H scope (compEnvC scope cl C X.env) fp) ifs (LT X.K c))
    (he : ∀ (s : Shared) (H : Hp) (C : Addr) (cl : List (Str × Addr)) (fp : List Addr), PE (X.blk s H scope (compEnvC scope cl C X.env) fp) elt (LE X.K e)) (hs : ∀ x, foldedSetIterable iter X.env x = pure x := by intro _; rfl) :
    MS X (.Assign [.Name y py] (.ListComp elt [⟨tg, iter, ifs, 0⟩] scope pos) spos) (bset i m) :=
  PS.cons (ps_setLc hc hN hy hyl hsw hi ok hg ht he hs) fun D σ H h => lc_read hT (hr (bset_read h))
theorem ms_setLc2 {vs1 : List Nat} (hr : ∀ {σ H Q}, LE X.K m σ H Q → LF X.K (mcomp2 mi g c mi1 g1 c1 e (own.map (·.2)) vs1) σ H Q) (hc : X.calm = true) (hN : X.N.Nodup) (hy : X.N[i]? = some y) (hyl : X.env.scope.names.lookup y = some .local)
    (hsw : swapsWith (.ListComp elt [⟨tg, iter, ifs, 0⟩, ⟨tg1, iter1, ifs1, 0⟩] scope pos) (some (.Name y py)) spos.line X.env = pure true) (hi : MI X tg iter mi) (ok : BlkOk X.N X.env.scope scope own) (hv : ∀ i ∈ vs1, i ∈ own.map (·.2)) (hT : ∀ i ∈ T, i ∈ own.map (·.2)) (hT1 : ∀ i ∈ T1, i ∈ vs1)
    (hg : ∀ (s : Shared) (H : Hp) (C : Addr) (cl : List (Str × Addr)) (fp : List Addr), PG (X.blk s H scope (compEnvC scope cl C X.env) fp) tg (LG X.K g T)) (ht : ∀ (s : Shared) (H : Hp) (C : Addr) (cl : List (Str × Addr)) (fp : List Addr), PTs (X.blk s H scope (compEnvC scope cl C X.env) fp) ifs (LT X.K c))
    (hi1 : ∀ (s : Shared) (H : Hp) (C : Addr) (cl : List (Str × Addr)) (fp : List Addr), PI (X.blk s H scope (compEnvC scope cl C X.env) fp) tg1 iter1 (LI X.K mi1))
    (hg1 : ∀ (s : Shared) (H : Hp) (C : Addr) (cl : List (Str × Addr)) (fp : List Addr), PG (X.blk s H scope (compEnvC scope cl C X.env) fp) tg1 (LG X.K g1 T1)) (ht1 : ∀ (s : Shared) (H : Hp) (C : Addr) (cl : List (Str × Addr)) (fp : List Addr), PTs (X.blk s H scope (compEnvC scope cl C X.env) fp) ifs1 (LT X.K c1))
    (he : ∀ (s : Shared) (H : Hp) (C : Addr) (cl : List (Str × Addr)) (fp : List Addr), PE (X.blk s H scope (compEnvC scope cl C X.env) fp) elt (LE X.K e)) (hs : ∀ x, foldedSetIterable iter X.env x = pure x := by intro _; rfl) (hs1 : ∀ env x, foldedSetIterable iter1 env x = pure x := by intro _ _; rfl) :
    MS X (.Assign [.Name y py] (.ListComp elt [⟨tg, iter, ifs, 0⟩, ⟨tg1, iter1, ifs1, 0⟩] scope pos) spos) (bset i m) :=
  PS.cons (ps_setLc2 hc hN hy hyl hsw hi ok hv hg ht hi1 hg1 ht1 he hs hs1) fun D σ H h => lc_read2 hT hT1 (hr (bset_read h))
end
end GM

set_option Elab.async false
set_option linter.all false
set_option maxRecDepth 100000
set_option maxHeartbeats 4000000
set_option autoImplicit false
namespace GM
open PySem L2
/-! ### equality of data -/
mutual
def D.beq : D → D → Bool
  | .non, .non => true
  | .bl a, .bl b => decide (a = b)
  | .int a, .int b => decide (a = b)
  | .str a, .str b => decide (a = b)
  | .tup a, .tup b => D.beqs a b
  | .lst a, .lst b => D.beqs a b
  | .scr a, .scr b => D.beqs a b
  | _, _ => false
def D.beqs : List D → List D → Bool
  | [], [] => true
  | a :: r, b :: t => D.beq a b && D.beqs r t
  | _, _ => false
end
mutual
theorem D.beq_eq : ∀ {a b : D}, D.beq a b = true → a = b
  | .non, b, h => by cases b <;> first | rfl | (simp [D.beq] at h)
  | .bl x, b, h => by cases b <;> first | (simp [D.beq] at h; done) | (simp [D.beq] at h; rw [h])
  | .int x, b, h => by cases b <;> first | (simp [D.beq] at h; done) | (simp [D.beq] at h; rw [h])
  | .str x, b, h => by cases b <;> first | (simp [D.beq] at h; done) | (simp [D.beq] at h; rw [h])
  | .tup x, b, h => by
    cases b with
    | tup y => rw [D.beq] at h; rw [D.beqs_eq h]
    | _ => simp [D.beq] at h
  | .lst x, b, h => by
    cases b with
    | lst y => rw [D.beq] at h; rw [D.beqs_eq h]
    | _ => simp [D.beq] at h
  | .scr x, b, h => by
    cases b with
    | scr y => rw [D.beq] at h; rw [D.beqs_eq h]
    | _ => simp [D.beq] at h
theorem D.beqs_eq : ∀ {a b : List D}, D.beqs a b = true → a = b
  | [], b, h => by cases b with
    | nil => rfl
    | cons _ _ => simp [D.beqs] at h
  | a :: r, b, h => by
    cases b with
    | nil => simp [D.beqs] at h
    | cons b t =>
      rw [D.beqs, Bool.and_eq_true] at h
      rw [D.beq_eq h.1, D.beqs_eq h.2]
end
mutual
theorem D.beq_refl : ∀ a : D, D.beq a a = true
  | .non => rfl
  | .bl x => by simp [D.beq]
  | .int x => by simp [D.beq]
  | .str x => by simp [D.beq]
  | .tup x => by rw [D.beq]; exact D.beqs_refl x
  | .lst x => by rw [D.beq]; exact D.beqs_refl x
  | .scr x => by rw [D.beq]; exact D.beqs_refl x
theorem D.beqs_refl : ∀ a : List D, D.beqs a a = true
  | [] => by simp [D.beqs]
  | a :: r => by rw [D.beqs, D.beq_refl a, D.beqs_refl r]; rfl
end
instance : DecidableEq D := fun a b => if h : D.beq a b = true then isTrue (D.beq_eq h) else isFalse fun e => h (by rw [e]; exact D.beq_refl b)
instance : DecidableEq W
  | .d a, .d b => if h : a = b then isTrue (by rw [h]) else isFalse fun e => h (by cases e; rfl)
  | .ref a, .ref b => if h : a = b then isTrue (by rw [h]) else isFalse fun e => h (by cases e; rfl)
  | .op a, .op b => if h : a = b then isTrue (by rw [h]) else isFalse fun e => h (by cases e; rfl)
  | .d _, .ref _ => isFalse fun e => nomatch e
  | .d _, .op _ => isFalse fun e => nomatch e
  | .ref _, .d _ => isFalse fun e => nomatch e
  | .ref _, .op _ => isFalse fun e => nomatch e
  | .op _, .d _ => isFalse fun e => nomatch e
  | .op _, .ref _ => isFalse fun e => nomatch e
instance : DecidableEq Cell
  | .lst a, .lst b => if h : a = b then isTrue (by rw [h]) else isFalse fun e => h (by cases e; rfl)
  | .dct a, .dct b => if h : a = b then isTrue (by rw [h]) else isFalse fun e => h (by cases e; rfl)
  | .dead, .dead => isTrue rfl
  | .lst _, .dct _ => isFalse fun e => nomatch e
  | .lst _, .dead => isFalse fun e => nomatch e
  | .dct _, .lst _ => isFalse fun e => nomatch e
  | .dct _, .dead => isFalse fun e => nomatch e
  | .dead, .lst _ => isFalse fun e => nomatch e
  | .dead, .dct _ => isFalse fun e => nomatch e

/-! ### leaving a def: its own cells are dropped -/
def ltW (n : Nat) : W → Bool
  | .ref k => decide (k < n)
  | _ => true
def closedC (n : Nat) : Cell → Bool
  | .dead => false
  | .lst ws => ws.all (ltW n)
  | .dct kvs => kvs.all fun p => ltW n p.2
/-- the caller's cells: as they were, or without cells of the def's own -/
def chk (S S1 : Sto) : Bool := (List.range S.length).all fun j => decide (S1[j]? = S[j]?) || (match S1[j]? with
  | some c => closedC S.length c
  | none => false)
def closeW (n k0 : Nat) (S1 : Sto) : Nat → W → Option W
  | _, .d x => some (.d x)
  | _, .op v => some (.op v)
  | 0, .ref k => if k < n then some (.ref k) else none
  | f + 1, .ref k => if k < n then some (.ref k) else if k = k0 then none else (lstOf S1 k).bind fun ws => (ws.mapM (closeW n k0 S1 f)).bind fun us => (datas us).bind fun ds => some (.d (.lst ds))
inductive RV where
  | val (w : W) | new (ws : List W)
def retW (n : Nat) (S1 : Sto) : W → Option RV
  | .d x => some (.val (.d x))
  | .op v => some (.val (.op v))
  | .ref k => if k < n then some (.val (.ref k)) else (lstOf S1 k).bind fun ws => (ws.mapM (closeW n k S1 3)).bind fun us => some (.new us)
abbrev Fm := List W → Sto → Option (RV × Sto)
def endDef (S : Sto) (o : Out) : Option (RV × Sto) := match o with
  | .nx _ S1 => if chk S S1 = true then some (.val (.d .non), S1.take S.length) else none
  | .ret w S1 => if chk S S1 = true then (retW S.length S1 w).bind fun r => some (r, S1.take S.length) else none
  | _ => none
def runDef (np nN : Nat) (b : Bm) : Fm := fun ws S => if ws.length = np then (b (ws.map some ++ List.replicate (nN - ws.length) none) S).bind (endDef S) else none

section
variable {K : PySem.W.Frag} {F F2 : Addr → Prop} {μ ν : List Addr} {S S1 : Sto} {H H1 : Hp}
theorem na_take (hl : μ.length = S.length) {a : Addr} (h : NA μ (S1.take S.length) a) : NA (μ ++ ν) S1 a := by
  obtain ⟨k, c, h1, h2, h3⟩ := h
  have hk := (List.getElem?_eq_some_iff.mp h1).1
  refine ⟨k, c, by rw [List.getElem?_append_left hk]; exact h1, ?_, h3⟩
  rw [List.getElem?_take_of_lt (by omega)] at h2
  exact h2
theorem closed_rep {N N' : Addr → Prop} {n : Nat} (hn : n = μ.length) (hN : ∀ a, N' a → N a) : ∀ {w : W} {v : V}, ltW n w = true → RepW K (μ ++ ν) N H w v → RepW K μ N' H w v
  | .d x, v, _, h => RepD.mono (M := fun _ => False) ⟨fun a o e _ => e, fun a h => .inl (hN a h), fun a h => h.elim, fun a h => h.elim⟩ h
  | .ref k, v, hl, h => by
    obtain ⟨a, h1, h2⟩ := h
    have : k < n := of_decide_eq_true hl
    rw [List.getElem?_append_left (by omega)] at h1
    exact ⟨a, h1, h2⟩
  | .op u, v, _, h => h
theorem lt_of_rep {N : Addr → Prop} {n : Nat} (hn : n = μ.length) : ∀ {w : W} {v : V}, RepW K μ N H w v → ltW n w = true
  | .d x, v, _ => rfl
  | .ref k, v, h => by
    obtain ⟨a, h1, _⟩ := h
    exact decide_eq_true (by rw [hn]; exact (List.getElem?_eq_some_iff.mp h1).1)
  | .op u, v, _ => rfl
theorem pairedAll {α β : Type} {R R' : α → β → Prop} {p : α → Bool} (f : ∀ a b, p a = true → R a b → R' a b) : ∀ {l : List α} {m : List β}, l.all p = true → Paired R l m → Paired R' l m
  | _, _, _, .nil => .nil
  | _, _, h, .cons r t => by
    rw [List.all_cons, Bool.and_eq_true] at h
    exact .cons (f _ _ h.1 r) (pairedAll f h.2 t)
theorem allOf {α β : Type} {R : α → β → Prop} {p : α → Bool} (f : ∀ a b, R a b → p a = true) : ∀ {l : List α} {m : List β}, Paired R l m → l.all p = true
  | _, _, .nil => rfl
  | _, _, .cons r t => by rw [List.all_cons, f _ _ r, allOf f t]; rfl
/-- every cell of the caller holds what may be told without the def's own cells -/
theorem chk_cell (rs : RS K F μ S H) (g : Gs K F μ S H (μ ++ ν) S1 H1) (hc : chk S S1 = true) {j : Nat} {a : Addr} {c : Cell} (hj : μ[j]? = some a) (e : (S1.take S.length)[j]? = some c) : c = .dead ∧ S[j]? = some .dead ∨ closedC S.length c = true := by
  have hjl := (List.getElem?_eq_some_iff.mp hj).1
  have hjs : j < S.length := by have := rs.len; omega
  rw [List.getElem?_take_of_lt hjs] at e
  have q := List.all_eq_true.mp hc j (List.mem_range.mpr hjs)
  rw [e, Bool.or_eq_true] at q
  rcases q with q | q
  · have q : S[j]? = some c := (of_decide_eq_true q).symm
    have ok := rs.at_ j a c hj q
    cases c with
    | dead => exact .inl ⟨rfl, q⟩
    | lst ws =>
      obtain ⟨vs, _, h⟩ := ok
      exact .inr (allOf (fun w v z => lt_of_rep rs.len.symm z) h)
    | dct kvs =>
      obtain ⟨es, _, h⟩ := ok
      exact .inr (allOf (p := fun p : D × W => ltW S.length p.2) (fun w v z => lt_of_rep rs.len.symm z.2) h)
  · exact .inr q
theorem RS.take (rs : RS K F μ S H) (g : Gs K F μ S H (μ ++ ν) S1 H1) (hc : chk S S1 = true) (h2 : ∀ a, F2 a → NF F (μ ++ ν) S1 a) (hd : ∀ a, F2 a → ¬ NA μ (S1.take S.length) a) : RS K F2 μ (S1.take S.length) H1 := by
  have hN : ∀ a, NF F2 μ (S1.take S.length) a → NF F (μ ++ ν) S1 a := fun a h => by
    rcases h with h | h
    · exact .inl (na_take rs.len h)
    · exact h2 a h
  have up : ∀ {k : Nat} {a : Addr}, μ[k]? = some a → (μ ++ ν)[k]? = some a := fun {k a} h => by rw [List.getElem?_append_left (List.getElem?_eq_some_iff.mp h).1]; exact h
  have dn : ∀ {k : Nat} {a : Addr} {c : Cell}, μ[k]? = some a → (S1.take S.length)[k]? = some c → S1[k]? = some c := fun {k a c} h h' => by
    rw [List.getElem?_take_of_lt (by rw [← rs.len]; exact (List.getElem?_eq_some_iff.mp h).1)] at h'; exact h'
  refine ⟨?_, fun j k a c c' e1 e2 e3 e4 n1 n2 => g.rs.inj j k a c c' (up e1) (up e2) (dn e1 e3) (dn e2 e4) n1 n2, fun k a c e1 e2 => ?_, fun a h => ?_, hd⟩
  · have := g.rs.len
    rw [List.length_append] at this
    rw [List.length_take, rs.len]
    have := rs.len
    omega
  · have ok := g.rs.at_ k a c (up e1) (dn e1 e2)
    rcases chk_cell rs g hc e1 e2 with ⟨rfl, _⟩ | q
    · trivial
    · cases c with
      | dead => trivial
      | lst ws =>
        obtain ⟨vs, h1, h3⟩ := ok
        exact ⟨vs, h1, pairedAll (p := ltW S.length) (fun w v z z' => closed_rep rs.len.symm hN z z') q h3⟩
      | dct kvs =>
        obtain ⟨es, h1, h3⟩ := ok
        exact ⟨es, h1, pairedAll (p := fun p : D × W => ltW S.length p.2) (fun w v z z' => ⟨z'.1, closed_rep rs.len.symm hN z z'.2⟩) q h3⟩
  · rcases h2 a h with z | z
    · exact g.rs.mut a z
    · exact g.rs.fm a z
theorem Gs.take (rs : RS K F μ S H) (g : Gs K F μ S H (μ ++ ν) S1 H1) (hc : chk S S1 = true) : Gs K F μ S H μ (S1.take S.length) H1 := by
  have hn : ∀ a, NA μ (S1.take S.length) a → NA (μ ++ ν) S1 a := fun a h => na_take rs.len h
  exact ⟨⟨[], by simp⟩, ⟨g.go.ext, fun a h => by
    rcases h with h | h
    · exact g.go.new a (.inl (hn a h))
    · exact .inl (.inr h), g.go.mu, g.go.sub⟩, fun a h => g.na a (hn a h), rs.take g hc (fun a h => .inr h) fun a h z => g.rs.fd a h (hn a z)⟩
theorem mapM_cons_some {α β : Type} {f : α → Option β} {a : α} {l : List α} {r : List β} (h : (a :: l).mapM f = some r) : ∃ b t, f a = some b ∧ l.mapM f = some t ∧ r = b :: t := by
  rw [List.mapM_cons] at h
  obtain ⟨b, e1, h⟩ := bind_some h
  obtain ⟨t, e2, h⟩ := bind_some h
  cases h
  exact ⟨b, t, e1, e2, rfl⟩
theorem paired_mapM {α β γ : Type} {R : α → γ → Prop} {R' : β → γ → Prop} {f : α → Option β} (hf : ∀ a b c, f a = some b → R a c → R' b c) : ∀ {l : List α} {r : List β} {m : List γ}, l.mapM f = some r → Paired R l m → Paired R' r m
  | [], r, _, h, .nil => by cases h; exact .nil
  | a :: l, r, _, h, .cons q t => by
    obtain ⟨b, u, e1, e2, rfl⟩ := mapM_cons_some h
    exact .cons (hf _ _ _ e1 q) (paired_mapM hf e2 t)
/-- the def's own lists within a result become data -/
theorem close_rep {k0 : Nat} {p : Addr} {cc : Cell} (rs : RS K F μ S H) (g : Gs K F μ S H (μ ++ ν) S1 H1) (hp : (μ ++ ν)[k0]? = some p) (hpc : S1[k0]? = some cc) (hcc : cc ≠ Cell.dead) (h2 : ∀ a, F2 a → F a ∨ a = p) :
    ∀ (f : Nat) {w w' : W} {v : V}, closeW S.length k0 S1 f w = some w' → RepW K (μ ++ ν) (NF F (μ ++ ν) S1) H1 w v → RepW K μ (NF F2 μ (S1.take S.length)) H1 w' v := by
  have hN : ∀ a, NF F2 μ (S1.take S.length) a → NF F (μ ++ ν) S1 a := fun a h => by
    rcases h with h | h
    · exact .inl (na_take rs.len h)
    · rcases h2 a h with z | z
      · exact .inr z
      · rw [z]; exact .inl ⟨k0, cc, hp, hpc, hcc⟩
  have base : ∀ {w : W} {v : V}, ltW S.length w = true → RepW K (μ ++ ν) (NF F (μ ++ ν) S1) H1 w v → RepW K μ (NF F2 μ (S1.take S.length)) H1 w v := fun z q => closed_rep rs.len.symm hN z q
  intro f
  induction f with
  | zero =>
    intro w w' v h q
    cases w with
    | d x => cases h; exact base rfl q
    | op u => cases h; exact base rfl q
    | ref k =>
      have h' : (if k < S.length then some (W.ref k) else none) = some w' := h
      split at h'
      · rename_i hk
        cases h'
        exact base (decide_eq_true hk) q
      · cases h'
  | succ f ih =>
    intro w w' v h q
    cases w with
    | d x => cases h; exact base rfl q
    | op u => cases h; exact base rfl q
    | ref k =>
      unfold closeW at h
      split at h
      · rename_i hk
        cases h
        exact base (decide_eq_true hk) q
      · rename_i hk
        split at h
        · cases h
        · rename_i hk0
          obtain ⟨ws, e1, h⟩ := bind_some h
          obtain ⟨us, e2, h⟩ := bind_some h
          obtain ⟨ds, e3, h⟩ := bind_some h
          cases h
          have e1' := lstOf_some e1
          obtain ⟨a, ha, rfl⟩ := q
          obtain ⟨vs, q1, q2⟩ := g.rs.at_ k a _ ha e1'
          show RepD _ _ _ _ _
          rw [RepD]
          refine ⟨a, vs, rfl, ⟨q1, fun z => ?_⟩, datas_rep (μ := μ) e3 (paired_mapM (R' := RepW K μ (NF F2 μ (S1.take S.length)) H1) (fun _ _ _ e r => ih e r) e2 q2)⟩
          rcases z with ⟨j, c, j1, j2, j3⟩ | z
          · have hj := (List.getElem?_eq_some_iff.mp j1).1
            rw [List.getElem?_take_of_lt (by rw [← rs.len]; exact hj)] at j2
            have := g.rs.inj j k a c _ (by rw [List.getElem?_append_left hj]; exact j1) ha j2 e1' j3 (fun z => nomatch z)
            have := rs.len
            omega
          · rcases h2 a z with z | z
            · exact g.rs.fd a z ⟨k, _, ha, e1', fun z => nomatch z⟩
            · subst z
              exact hk0 (g.rs.inj k k0 a _ cc ha hp e1' hpc (fun z => nomatch z) hcc)
end

/-! ### calls and defs -/
def RvOk (K : PySem.W.Frag) (F : Addr → Prop) (μ : List Addr) (S : Sto) (H : Hp) (S' : Sto) (Q : VK) : RV → Prop
  | .val w => ∀ v H', Gs K F μ S H μ S' H' → RepW K μ (NF F μ S') H' w v → Q v H'
  | .new ws => ∀ p vs H', Gs K F μ S H μ S' H' → H' p = none → RepWs K μ (NF F μ S') H' ws vs → Q (.ref p) (upd H' p (.lst vs))
def spM (K : PySem.W.Frag) (m : Fm) : Sp := fun vs H Q _ => ∃ (F : Addr → Prop) (μ : List Addr) (S : Sto) (ws : List W) (r : RV) (S' : Sto), RS K F μ S H ∧ RepWs K μ (NF F μ S) H ws vs ∧ m ws S = some (r, S') ∧ RvOk K F μ S H S' Q r
structure FnM (P : Program) (w : World) (K : PySem.W.Frag) (mg : Str → Option Value) (base : Heap) (k : Nat) (x : Str) (m : Fm) : Prop where
  ex : ∃ (f : Addr) (fd : FuncData) (ps : List Str), FnOk P w K mg base CX0 k f fd ps (spM K m) ∧ mg x = some (.ref f) ∧ PySem.W.keepIn K (.ref f) = true ∧ Binds K fd ps []
theorem FnM.mono {P : Program} {w : World} {K : PySem.W.Frag} {mg : Str → Option Value} {base : Heap} {j k : Nat} {x : Str} {m : Fm} (h : FnM P w K mg base j x m) (l : j ≤ k) : FnM P w K mg base k x m := by
  obtain ⟨f, fd, ps, F, r⟩ := h.ex
  exact ⟨f, fd, ps, F.mono l, r⟩
/-- another mirror that tells no more -/
theorem FnM.imp {P : Program} {w : World} {K : PySem.W.Frag} {mg : Str → Option Value} {base : Heap} {k : Nat} {x : Str} {m m' : Fm} (h : FnM P w K mg base k x m) (e : ∀ ws S r, m' ws S = some r → m ws S = some r) : FnM P w K mg base k x m' := by
  obtain ⟨f, fd, ps, F, r⟩ := h.ex
  exact ⟨f, fd, ps, F.imp (fun vs H Q E ⟨F, μ, S, ws, r, S', h1, h2, h3, h4⟩ => ⟨F, μ, S, ws, r, S', h1, h2, e _ _ _ h3, h4⟩), r⟩
theorem spM_len {K : PySem.W.Frag} {np nN : Nat} {b : Bm} {vs : List V} {H : Hp} {Q : VK} {E : XK} (h : spM K (runDef np nN b) vs H Q E) : vs.length = np := by
  obtain ⟨F, μ, S, ws, r, S', rs, q, h, _⟩ := h
  unfold runDef at h
  split at h
  · rename_i e
    rw [← q.length]; exact e
  · cases h
theorem start_rep {K : PySem.W.Frag} {μ : List Addr} {N : Addr → Prop} {H : Hp} {ws : List W} {vs : List V} (NN : List Str) (q : RepWs K μ N H ws vs) : RSt K μ N H (L2.start NN vs) (ws.map some ++ List.replicate (NN.length - ws.length) none) := by
  have hl := q.length
  unfold L2.start
  refine ⟨by simp [hl], fun i w e => ?_⟩
  by_cases hi : i < ws.length
  · rw [List.getElem?_append_left (by simpa using hi), List.getElem?_map] at e
    obtain ⟨w', e1, e2⟩ := Option.map_eq_some_iff.mp e
    cases e2
    obtain ⟨v, e3, r⟩ := q.get e1
    exact ⟨v, by rw [List.getElem?_append_left (by simpa using (by omega : i < vs.length)), List.getElem?_map, e3]; rfl, r⟩
  · rw [List.getElem?_append_right (by simpa using hi), List.getElem?_replicate] at e
    split at e <;> cases e
theorem end_read {K : PySem.W.Frag} {F : Addr → Prop} {μ : List Addr} {S : Sto} {H : Hp} {Q : VK} {o : Out} {r : RV} {S' : Sto} (rs : RS K F μ S H) (h : endDef S o = some (r, S')) (k : RvOk K F μ S H S' Q r) : OutOk K F { nx := fun _ H' => Q .non H', rt := Q } μ S H o := by
  cases o with
  | nx ρ S1 =>
    unfold endDef at h
    dsimp only at h
    split at h
    · rename_i hc
      cases h
      intro μ' σ' H' g _
      obtain ⟨ν, rfl⟩ := g.pre
      exact k .non H' (g.take rs hc) (by show RepD _ _ _ _ _; rw [RepD])
    · cases h
  | bk ρ S1 => cases h
  | ct ρ S1 => cases h
  | ret w S1 =>
    unfold endDef at h
    dsimp only at h
    split at h
    · rename_i hc
      obtain ⟨r', e1, h⟩ := bind_some h
      cases h
      intro μ' v H' g q
      obtain ⟨ν, rfl⟩ := g.pre
      have gt := g.take rs hc
      have nn : ∀ a, NF F μ (S1.take S.length) a → NF F (μ ++ ν) S1 a := fun a h => by
        rcases h with h | h
        · exact .inl (na_take rs.len h)
        · exact .inr h
      cases w with
      | d x =>
        cases e1
        exact k v H' gt (closed_rep (n := S.length) rs.len.symm nn rfl q)
      | op u =>
        cases e1
        exact k v H' gt (closed_rep (n := S.length) rs.len.symm nn rfl q)
      | ref kk =>
        unfold retW at e1
        dsimp only at e1
        split at e1
        · rename_i hk
          cases e1
          exact k v H' gt (closed_rep (n := S.length) rs.len.symm nn (decide_eq_true hk) q)
        · rename_i hk
          obtain ⟨ws, e2, e1⟩ := bind_some e1
          obtain ⟨us, e3, e1⟩ := bind_some e1
          cases e1
          have e2' := lstOf_some e2
          obtain ⟨p, hp, rfl⟩ := q
          obtain ⟨vs, q1, q2⟩ := g.rs.at_ kk p _ hp e2'
          have ndd : Cell.lst ws ≠ Cell.dead := fun z => nomatch z
          have npt : ¬ NA μ (S1.take S.length) p := fun ⟨j, c, j1, j2, j3⟩ => by
            have hj := (List.getElem?_eq_some_iff.mp j1).1
            rw [List.getElem?_take_of_lt (by rw [← rs.len]; exact hj)] at j2
            have := g.rs.inj j kk p c _ (by rw [List.getElem?_append_left hj]; exact j1) hp j2 e2' j3 ndd
            have := rs.len
            omega
          have hH : H p = none := by
            rcases g.na p ⟨kk, _, hp, e2', ndd⟩ with ⟨j, c, j1, j2, j3⟩ | z
            · have hj := (List.getElem?_eq_some_iff.mp j1).1
              have hjs : j < S.length := by have := rs.len; omega
              have hc1 : ∃ c1, (S1.take S.length)[j]? = some c1 := by
                have l2 := gt.rs.len
                exact ⟨_, List.getElem?_eq_getElem (by omega)⟩
              obtain ⟨c1, hc1⟩ := hc1
              rcases chk_cell rs g hc j1 hc1 with ⟨_, z⟩ | z
              · rw [j2] at z; cases z; exact absurd rfl j3
              · exact absurd ⟨j, c1, j1, hc1, fun z' => by rw [z'] at z; cases z⟩ npt
            · exact z
          have nF : ¬ F p := fun z => g.rs.fd p z ⟨kk, _, hp, e2', ndd⟩
          have r2 : RS K (Fp F p) μ (S1.take S.length) H' := rs.take g hc (fun a h => by
            rcases h with h | h
            · exact .inr h
            · rw [h]; exact .inl ⟨kk, _, hp, e2', ndd⟩) fun a h => by
            rcases h with h | h
            · exact fun z => g.rs.fd a h (na_take rs.len z)
            · rw [h]; exact npt
          have q3 : RepWs K μ (NF (Fp F p) μ (S1.take S.length)) H' us vs := paired_mapM (R' := RepW K μ (NF (Fp F p) μ (S1.take S.length)) H') (fun _ _ _ e r => close_rep rs g hp e2' ndd (fun a h => h) 3 e r) e3 q2
          have gg : Gs K F μ S H μ (S1.take S.length) (less H' p) := Gx.closed rs ⟨gt.pre, ⟨gt.go.ext, fun a h => by
            rcases h with h | h | h
            · exact gt.go.new a (.inl h)
            · exact .inl (.inr h)
            · rw [h]; exact .inr hH, gt.go.mu, gt.go.sub⟩, gt.na, r2⟩ hH
          have := k p vs (less H' p) gg less_self (q3.mono (r2.close nF).2 ⟨[], by simp⟩)
          rw [upd_less q1] at this
          exact this
    · cases h
section
variable {P : Program} {w : World} {K : PySem.W.Frag} {mg : Str → Option Value} {base : Heap}
theorem mk_fn {x : Str} {st : Stmt} {f : Addr} {fd : FuncData} {N ps : List Str} {k : Nat} {b : Bm} (FF : Fun K x x st f fd) (gx : mg x = some (.ref f)) (bd : Binds K fd ps []) (sc : FnScope N ps (defScope st))
    (hb : ∀ (cdv : Value) (A : Around) (outer : List Env) (s : Shared) (H : Hp) (E : XK), Room k (A.deeper (PyProof.Rows.envOfC x (defScope st) s.heap.objs.size f cdv)) → MSs (cxOf CX0 P w K mg base N x (defScope st) f cdv A outer s H E).nox (defBody st) b) :
    FnM P w K mg base (k + 1) x (runDef ps.length N.length b) := by
  refine ⟨f, fd, ps, FF.ok sc (fun vs H Q E h => spM_len h) (fun cdv A outer s H vs Q E hr h => ⟨LS K b, hb cdv A outer s H E hr, ?_⟩), gx, FF.kp, bd⟩
  obtain ⟨F, μ, S, ws, r, S', rs, q, h, kk⟩ := h
  unfold runDef at h
  split at h
  · obtain ⟨o, e1, h⟩ := bind_some h
    exact ⟨F, μ, _, S, o, rs, start_rep N q, e1, end_read rs h kk⟩
  · cases h
end
def rvW : RV → Option W
  | .val w => some w
  | .new ws => (datas ws).bind fun ds => some (.d (.lst ds))
def mcall (m : Fm) (a : Am) : Em := fun ρ S => (a ρ S).bind fun p => (m p.1 p.2).bind fun q => (rvW q.1).bind fun w => some (w, q.2)
def mcallF (m : Fm) (a : Am) : Am := fun ρ S => (a ρ S).bind fun p => (m p.1 p.2).bind fun q => match q.1 with
  | .new ws => some (ws, q.2)
  | .val _ => none
section
variable {X : Cx} {k j : Nat} {x : Str} {m : Fm} {p pos : Pos} {e : Expr} {es : List Expr} {ms : Am}
theorem me_call (c : FnM X.prog X.w X.K X.mg X.base k x m) (hr : Room j X.A) (hk : k ≤ j) (hg : Gl X x) (ha : MA X (e :: es) ms)
    (hdb : (x == ("__debug__" : Str)) = false := by decide) (he : starEach (e :: es) X.env = (false, eval e X.env) :: starEach es X.env := by rfl) (hpl : (backTo pos (starEach es X.env)).any (·.1) = false := by rfl) :
    ME X (.Call (.Name x p) (e :: es) [] pos) (mcall m ms) := by
  obtain ⟨f, fd, ps, F, hm, kp, b⟩ := c.ex
  refine PE.cons (pe_call F (hr.mono hk) hg hm kp b .nil pass0 ha hdb he hpl) fun σ H Q ⟨F, μ, ρ, S, w, S', rs, rst, h, k⟩ => ?_
  obtain ⟨⟨ws, S1⟩, e1, h⟩ := bind_some h
  obtain ⟨⟨r, S2⟩, e2, h⟩ := bind_some h
  obtain ⟨w', e3, h⟩ := bind_some h
  cases h
  refine ⟨F, μ, ρ, S, ws, S1, rs, rst, e1, fun μ1 vs H1 g1 q1 => ?_⟩
  show spM X.K m (vs ++ []) H1 Q E0
  rw [List.append_nil]
  refine ⟨F, μ1, S1, ws, r, S2, g1.rs, q1, e2, ?_⟩
  cases r with
  | val u => cases e3; exact fun v H' g q => k μ1 v H' (g1.trans g) q
  | new us =>
    obtain ⟨ds, e4, e3⟩ := bind_some e3
    cases e3
    intro p vs' H' g hp q
    have f : Fr H' (upd H' p (.lst vs')) := Fr.upd hp
    have g2 := f.gs g.rs
    refine k μ1 _ _ ((g1.trans g).trans g2) ?_
    show RepD _ _ _ _ _
    rw [RepD]
    exact ⟨p, vs', rfl, ⟨upd_same, fun z => g.rs.there z hp⟩, (datas_rep e4 q).mono g2.go⟩
theorem mf_call (c : FnM X.prog X.w X.K X.mg X.base k x m) (hr : Room j X.A) (hk : k ≤ j) (hg : Gl X x) (ha : MA X (e :: es) ms)
    (hdb : (x == ("__debug__" : Str)) = false := by decide) (he : starEach (e :: es) X.env = (false, eval e X.env) :: starEach es X.env := by rfl) (hpl : (backTo pos (starEach es X.env)).any (·.1) = false := by rfl) :
    MF X (.Call (.Name x p) (e :: es) [] pos) (mcallF m ms) := by
  obtain ⟨f, fd, ps, F, hm, kp, b⟩ := c.ex
  refine PE.cons (pe_call F (hr.mono hk) hg hm kp b .nil pass0 ha hdb he hpl) fun σ H Q ⟨F, μ, ρ, S, w, S', rs, rst, h, k⟩ => ?_
  obtain ⟨⟨ws, S1⟩, e1, h⟩ := bind_some h
  obtain ⟨⟨r, S2⟩, e2, h⟩ := bind_some h
  refine ⟨F, μ, ρ, S, ws, S1, rs, rst, e1, fun μ1 vs H1 g1 q1 => ?_⟩
  show spM X.K m (vs ++ []) H1 Q E0
  rw [List.append_nil]
  refine ⟨F, μ1, S1, ws, r, S2, g1.rs, q1, e2, ?_⟩
  cases r with
  | val u => cases h
  | new us =>
    cases h
    exact fun p vs' H' g hp q => k μ1 H' p vs' (g1.trans g) hp q
end
end GM

set_option Elab.async false
set_option linter.all false
set_option maxRecDepth 100000
set_option maxHeartbeats 4000000
set_option autoImplicit false
namespace GM
open PySem L2
section
variable {K : PySem.W.Frag} {F : Addr → Prop} {μ : List Addr} {N : Addr → Prop} {S : Sto} {H : Hp} {X : Cx}
/-! ### readings of values -/
theorem dint {i : Int} {v : V} : RepW K μ N H (.d (.int i)) v ↔ v = .int i := by show RepD _ _ _ _ _ ↔ _; rw [RepD]
theorem dbl {b : Bool} {v : V} : RepW K μ N H (.d (.bl b)) v ↔ v = .bl b := by show RepD _ _ _ _ _ ↔ _; rw [RepD]
theorem dnon {v : V} : RepW K μ N H (.d .non) v ↔ v = .non := by show RepD _ _ _ _ _ ↔ _; rw [RepD]
theorem dstr {x : Str} {v : V} : RepW K μ N H (.d (.str x)) v ↔ v = .str x := by show RepD _ _ _ _ _ ↔ _; rw [RepD]
theorem dtup {ds : List D} {v : V} : RepW K μ N H (.d (.tup ds)) v ↔ ∃ a vs, v = .ref a ∧ SqT K H a vs ∧ RepDs K N H ds vs := by show RepD _ _ _ _ _ ↔ _; rw [RepD]
theorem dlst {ds : List D} {v : V} : RepW K μ N H (.d (.lst ds)) v ↔ ∃ a vs, v = .ref a ∧ LstAt N H a vs ∧ RepDs K N H ds vs := by show RepD _ _ _ _ _ ↔ _; rw [RepD]
/-- a result that is a flat value, the heap as it is -/
theorem pk_int {i : Int} {Q : VK} (k : ∀ v H', Fr H H' → RepW K μ N H' (.d (.int i)) v → Q v H') : Q (.int i) H := k _ _ Fr.refl (dint.mpr rfl)
theorem pk_bl {b : Bool} {Q : VK} (k : ∀ v H', Fr H H' → RepW K μ N H' (.d (.bl b)) v → Q v H') : Q (.bl b) H := k _ _ Fr.refl (dbl.mpr rfl)

/-! ### ints -/
def fI2 (c : Int → Int → Bool) (g : Int → Int → Int) : Sto → List W → Option W
  | _, [.d (.int i), .d (.int j)] => if c i j = true then some (.d (.int (g i j))) else none
  | _, _ => none
def fI2b (g : Int → Int → Bool) : Sto → List W → Option W
  | _, [.d (.int i), .d (.int j)] => some (.d (.bl (g i j)))
  | _, _ => none
theorem i2_ok {c : Int → Int → Bool} {g : Int → Int → Int} {C : Int → Int → Prop} (hc : ∀ i j, c i j = true → C i j) : POk K (r2 (rI C fun i j => .int (g i j))) (fI2 c g) := fun F μ S H ws vs w Q rs h q k => by
  unfold fI2 at h
  split at h
  · rename_i i j
    split at h
    · rename_i e
      cases h
      obtain ⟨v, u, rfl, q1, q2⟩ := rep2 q
      cases dint.mp q1; cases dint.mp q2
      exact ⟨_, _, rfl, i, j, rfl, rfl, hc i j e, pk_int k⟩
    · cases h
  · cases h
theorem i20_ok {g : Int → Int → Int} : POk K (r2 (rI0 fun i j => .int (g i j))) (fI2 (fun _ _ => true) g) := fun F μ S H ws vs w Q rs h q k => by
  obtain ⟨x, y, e, i, j, e1, e2, _, e3⟩ := i2_ok (C := fun _ _ => True) (fun _ _ _ => trivial) F μ S H ws vs w Q rs h q k
  exact ⟨x, y, e, i, j, e1, e2, e3⟩
theorem i2b_ok {g : Int → Int → Bool} : POk K (r2 (rI0 fun i j => .bl (g i j))) (fI2b g) := fun F μ S H ws vs w Q rs h q k => by
  unfold fI2b at h
  split at h
  · rename_i i j
    cases h
    obtain ⟨v, u, rfl, q1, q2⟩ := rep2 q
    cases dint.mp q1; cases dint.mp q2
    exact ⟨_, _, rfl, i, j, rfl, rfl, pk_bl k⟩
  · cases h
def mulOk (i j : Int) : Bool := decide (i.natAbs < 2 ^ 64) || decide (j.natAbs < 2 ^ 64) || (decide (i.natAbs < 2 ^ 400000) && decide (j.natAbs < 2 ^ 400000))
def cMul (i j : Int) : Prop := CMul i j ∨ CMulW i j
theorem mulOk_ok {i j : Int} (h : mulOk i j = true) : cMul i j := by
  unfold mulOk at h
  simp only [Bool.or_eq_true, Bool.and_eq_true, decide_eq_true_eq] at h
  rcases h with (h | h) | ⟨h1, h2⟩
  · exact .inl (.inl (by omega))
  · exact .inl (.inr (by omega))
  · exact .inr (wide_mul h1 h2 (by decide) (by decide) (by decide))
theorem op_mulC : OpR X (binaryOp .Mult) (rI cMul fun i j => .int (i * j)) := fun pins s σ H x y v u Q I rx ry ⟨i, j, e1, e2, hc, q⟩ => by
  rcases hc with hc | hc
  · exact op_mul pins s σ H x y v u Q I rx ry ⟨i, j, e1, e2, hc, q⟩
  · exact op_mulW pins s σ H x y v u Q I rx ry ⟨i, j, e1, e2, hc, q⟩
def fSub := fI2 (fun _ _ => true) fun i j => i - j
def fMul := fI2 mulOk fun i j => i * j
def fDiv := fI2 (fun _ j => decide (0 < j) && decide (j.natAbs < 2 ^ 8000)) fun i j => i / j
def fMod := fI2 (fun _ j => decide (0 < j)) fun i j => i % j
def fPow := fI2 (fun i j => decide (0 ≤ j) && decide (j ≤ 1000000) && decide (i.natAbs < 2 ^ 64)) fun i j => i ^ j.toNat
def fShl := fI2 (fun i j => decide (0 ≤ j) && decide (j ≤ 1000000) && decide (i.natAbs < 2 ^ 64)) fun i j => i * 2 ^ j.toNat
def fShr := fI2 (fun _ j => decide (0 ≤ j)) fun i j => i / 2 ^ j.toNat
def fAnd := fI2 (fun _ _ => true) Builtin.bitAnd
def fOr := fI2 (fun _ _ => true) Builtin.bitOr
def fXor := fI2 (fun _ _ => true) Builtin.bitXor
def fLt := fI2b fun i j => decide (i < j)
def fLe := fI2b fun i j => decide (i ≤ j)
def fGt := fI2b fun i j => decide (j < i)
def fGe := fI2b fun i j => decide (j ≤ i)
section
variable {a b : Expr} {ma mb : Em} {pos : Pos}
theorem me_sub (ha : ME X a ma) (hb : ME X b mb) : ME X (.BinOp a .Sub b pos) (prim fSub (acons ma (acons mb anil))) := me_bin i20_ok op_sub ha hb
theorem me_mul (ha : ME X a ma) (hb : ME X b mb) : ME X (.BinOp a .Mult b pos) (prim fMul (acons ma (acons mb anil))) := me_bin (i2_ok fun _ _ h => mulOk_ok h) op_mulC ha hb
theorem me_fdiv (ha : ME X a ma) (hb : ME X b mb) : ME X (.BinOp a .FloorDiv b pos) (prim fDiv (acons ma (acons mb anil))) := me_bin (i2_ok fun i j h => by
  simp only [Bool.and_eq_true, decide_eq_true_eq] at h
  exact wide_div (i := i) h.1 h.2 (by decide) (by decide)) op_fdivW ha hb
theorem me_mod (ha : ME X a ma) (hb : ME X b mb) : ME X (.BinOp a .Mod b pos) (prim fMod (acons ma (acons mb anil))) := me_bin (i2_ok fun _ _ h => of_decide_eq_true h) op_mod ha hb
theorem cpow_ok {i j : Int} (h : (decide (0 ≤ j) && decide (j ≤ 1000000) && decide (i.natAbs < 2 ^ 64)) = true) : CPow i j := by
  simp only [Bool.and_eq_true, decide_eq_true_eq] at h
  exact ⟨h.1.1, h.1.2, h.2⟩
theorem me_pow (ha : ME X a ma) (hb : ME X b mb) : ME X (.BinOp a .Pow b pos) (prim fPow (acons ma (acons mb anil))) := me_bin (i2_ok fun _ _ h => cpow_ok h) op_pow ha hb
theorem me_shl (ha : ME X a ma) (hb : ME X b mb) : ME X (.BinOp a .LShift b pos) (prim fShl (acons ma (acons mb anil))) := me_bin (i2_ok fun _ _ h => cpow_ok h) op_shl ha hb
theorem me_shr (ha : ME X a ma) (hb : ME X b mb) : ME X (.BinOp a .RShift b pos) (prim fShr (acons ma (acons mb anil))) := me_bin (i2_ok fun _ _ h => of_decide_eq_true h) op_shr ha hb
theorem me_band (ha : ME X a ma) (hb : ME X b mb) : ME X (.BinOp a .BitAnd b pos) (prim fAnd (acons ma (acons mb anil))) := me_bin i20_ok op_and ha hb
theorem me_bor (ha : ME X a ma) (hb : ME X b mb) : ME X (.BinOp a .BitOr b pos) (prim fOr (acons ma (acons mb anil))) := me_bin i20_ok op_or ha hb
theorem me_bxor (ha : ME X a ma) (hb : ME X b mb) : ME X (.BinOp a .BitXor b pos) (prim fXor (acons ma (acons mb anil))) := me_bin i20_ok op_xor ha hb
end
def fNeg : Sto → List W → Option W
  | _, [.d (.int i)] => some (.d (.int (-i)))
  | _, _ => none
theorem neg_ok : POk K (r1 (rU fun i => .int (-i))) fNeg := fun F μ S H ws vs w Q rs h q k => by
  unfold fNeg at h
  split at h
  · rename_i i
    cases h
    obtain ⟨v, rfl, q1⟩ := rep1 q
    cases dint.mp q1
    exact ⟨_, rfl, i, rfl, pk_int k⟩
  · cases h
theorem me_neg {a : Expr} {ma : Em} {pos : Pos} (ha : ME X a ma) : ME X (.UnaryOp .USub a pos) (prim fNeg (acons ma anil)) := me_un neg_ok un_neg ha

/-! ### lists that are tracked: +, * -/
def lsW (S : Sto) : W → Option (List W)
  | .d (.lst ds) => some (ds.map W.d)
  | .ref k => lstOf S k
  | _ => none
theorem ls_rep {F : Addr → Prop} {w : W} {v : V} {ws : List W} (rs : RS K F μ S H) (h : lsW S w = some ws) (q : RepW K μ (NF F μ S) H w v) : ∃ a vs, v = .ref a ∧ H a = some (.lst vs) ∧ RepWs K μ (NF F μ S) H ws vs := by
  cases w with
  | d x =>
    cases x with
    | lst ds =>
      cases h
      obtain ⟨a, vs, e, h1, h2⟩ := dlst.mp q
      exact ⟨a, vs, e, h1.1, rep_map h2⟩
    | _ => cases h
  | ref k =>
    obtain ⟨a, h1, e⟩ := q
    have hc := lstOf_some h
    obtain ⟨vs, h2, h3⟩ := rs.at_ k a _ h1 hc
    exact ⟨a, vs, e, h2, h3⟩
  | op _ => cases h
/-! ### + : ints, tuples -/
def fAdd : Sto → List W → Option W
  | _, [.d (.int i), .d (.int j)] => some (.d (.int (i + j)))
  | _, [.d (.tup a), .d (.tup b)] => if a.length + b.length ≤ 1000000 then some (.d (.tup (a ++ b))) else none
  | S, [x, y] => (lsW S x).bind fun a => (lsW S y).bind fun b => if a.length + b.length ≤ 1000000 then (datas (a ++ b)).bind fun ds => some (.d (.lst ds)) else none
  | _, _ => none
theorem RepDs.length : ∀ {ds : List D} {vs : List V}, RepDs K N H ds vs → ds.length = vs.length := fun h => Paired.length (repDs_iff.mp h)
theorem pairedAppend {α β : Type} {R : α → β → Prop} : ∀ {a b : List α} {c d : List β}, Paired R a c → Paired R b d → Paired R (a ++ b) (c ++ d)
  | _, _, _, _, .nil, q => q
  | _, _, _, _, .cons r t, q => .cons r (pairedAppend t q)
theorem RepDs.append {a b : List D} {c d : List V} (h : RepDs K N H a c) (h2 : RepDs K N H b d) : RepDs K N H (a ++ b) (c ++ d) := repDs_iff.mpr (pairedAppend (repDs_iff.mp h) (repDs_iff.mp h2))
theorem fr_rep {F : Addr → Prop} {H' : Hp} (rs : RS K F μ S H) (f : Fr H H') {ds : List D} {vs : List V} (h : RepDs K (NF F μ S) H ds vs) : RepDs K (NF F μ S) H' ds vs := h.mono (f.gs rs).go
theorem add_ok : POk K (r2 fun x y H Q => (rI0 (fun i j => .int (i + j)) x y H Q ∨ rCatA K x y H Q) ∨ rCat x y H Q) fAdd := fun F μ S H ws vs w Q rs h q k => by
  unfold fAdd at h
  split at h
  · rename_i i j
    cases h
    obtain ⟨v, u, rfl, q1, q2⟩ := rep2 q
    cases dint.mp q1; cases dint.mp q2
    exact ⟨_, _, rfl, .inl (.inl ⟨i, j, rfl, rfl, pk_int k⟩)⟩
  · rename_i da db
    split at h
    · rename_i hl
      cases h
      obtain ⟨v, u, rfl, q1, q2⟩ := rep2 q
      obtain ⟨a, xs, rfl, h1, h2⟩ := dtup.mp q1
      obtain ⟨b, ys, rfl, h3, h4⟩ := dtup.mp q2
      have l1 := h2.length
      have l2 := h4.length
      refine ⟨_, _, rfl, .inl (.inr ⟨a, b, xs, ys, rfl, rfl, h1, h3, Nat.le_of_lt (lim_line (by omega)), fun e => ?_, fun _ e => ?_, fun _ _ p hp => ?_⟩)⟩
      · subst e
        have : da = [] := List.eq_nil_of_length_eq_zero (by simpa using l1)
        subst this
        exact k _ _ Fr.refl (dtup.mpr ⟨b, ys, rfl, h3, h4⟩)
      · subst e
        have : db = [] := List.eq_nil_of_length_eq_zero (by simpa using l2)
        subst this
        exact k _ _ Fr.refl (dtup.mpr ⟨a, xs, rfl, h1, by rw [List.append_nil]; exact h2⟩)
      · exact k _ _ (Fr.upd hp) (dtup.mpr ⟨p, xs ++ ys, rfl, .inl (.inl upd_same), (fr_rep rs (Fr.upd hp) h2).append (fr_rep rs (Fr.upd hp) h4)⟩)
    · cases h
  · obtain ⟨a, e1, h⟩ := bind_some h
    obtain ⟨b, e2, h⟩ := bind_some h
    split at h
    · rename_i hl
      obtain ⟨ds, e3, h⟩ := bind_some h
      cases h
      obtain ⟨v, u, rfl, q1, q2⟩ := rep2 q
      obtain ⟨l, xs, rfl, h1, h2⟩ := ls_rep rs e1 q1
      obtain ⟨l', ys, rfl, h3, h4⟩ := ls_rep rs e2 q2
      have l1 := h2.length
      have l2 := h4.length
      refine ⟨_, _, rfl, .inr ⟨l, l', xs, ys, rfl, rfl, h1, h3, Nat.le_of_lt (lim_line (by omega)), fun p hp => ?_⟩⟩
      exact k _ _ (Fr.upd hp) (dlst.mpr ⟨p, _, rfl, ⟨upd_same, fun z => rs.there z hp⟩, fr_rep rs (Fr.upd hp) (datas_rep e3 (h2.append h4))⟩)
    · cases h
  · cases h
theorem me_add {a b : Expr} {ma mb : Em} {pos : Pos} (ha : ME X a ma) (hb : ME X b mb) : ME X (.BinOp a .Add b pos) (prim fAdd (acons ma (acons mb anil))) := me_bin add_ok (OpR.or (OpR.or op_add op_catA) op_cat) ha hb
def fCat (S : Sto) : List W → Option (List W)
  | [x, y] => (lsW S x).bind fun a => (lsW S y).bind fun b => if a.length + b.length ≤ 1000000 then some (a ++ b) else none
  | _ => none
theorem cat_ok : POkF K (r2 rCat) fCat := fun F μ S H ws vs w Q rs h q k => by
  unfold fCat at h
  split at h
  · obtain ⟨a, e1, h⟩ := bind_some h
    obtain ⟨b, e2, h⟩ := bind_some h
    split at h
    · rename_i hl
      cases h
      obtain ⟨v, u, rfl, q1, q2⟩ := rep2 q
      obtain ⟨l, xs, rfl, h1, h2⟩ := ls_rep rs e1 q1
      obtain ⟨l', ys, rfl, h3, h4⟩ := ls_rep rs e2 q2
      have l1 := h2.length
      have l2 := h4.length
      exact ⟨_, _, rfl, l, l', xs, ys, rfl, rfl, h1, h3, Nat.le_of_lt (lim_line (by omega)), fun p hp => k p _ hp (h2.append h4)⟩
    · cases h
  · cases h
theorem mf_cat {a b : Expr} {ma mb : Em} {pos : Pos} (ha : ME X a ma) (hb : ME X b mb) : MF X (.BinOp a .Add b pos) (primF fCat (acons ma (acons mb anil))) := mf_bin cat_ok op_cat ha hb
def fRep (S : Sto) : List W → Option (List W)
  | [x, .d (.int k)] => (lsW S x).bind fun a => if k.natAbs ≤ 2000000 ∧ a.length * k.toNat ≤ 1000000 then some (List.replicate k.toNat a).flatten else none
  | _ => none
theorem pairedFlat {α β : Type} {R : α → β → Prop} {a : List α} {b : List β} (h : Paired R a b) : ∀ n : Nat, Paired R (List.replicate n a).flatten (List.replicate n b).flatten
  | 0 => .nil
  | n + 1 => by
    rw [List.replicate_succ, List.replicate_succ, List.flatten_cons, List.flatten_cons]
    exact pairedAppend h (pairedFlat h n)
theorem rep_ok : POkF K (r2 rRep) fRep := fun F μ S H ws vs w Q rs h q k => by
  unfold fRep at h
  split at h
  · rename_i x j
    obtain ⟨a, e1, h⟩ := bind_some h
    split at h
    · rename_i hl
      cases h
      obtain ⟨v, u, rfl, q1, q2⟩ := rep2 q
      cases dint.mp q2
      obtain ⟨l, xs, rfl, h1, h2⟩ := ls_rep rs e1 q1
      have l1 := h2.length
      refine ⟨_, _, rfl, l, j, xs, rfl, rfl, h1, by omega, by omega, Nat.le_of_lt (lim_line (by rw [← l1]; exact hl.2)), fun p hp => k p _ hp (pairedFlat h2 j.toNat)⟩
    · cases h
  · cases h
def fMulX : Sto → List W → Option W
  | _, [.d (.int i), .d (.int j)] => if mulOk i j = true then some (.d (.int (i * j))) else none
  | _, [.d (.tup ds), .d (.int k)] => if ds ≠ [] ∧ 2 ≤ k ∧ k ≤ 1000 ∧ ds.length ≤ 1000 then some (.d (.tup (List.replicate k.toNat ds).flatten)) else none
  | S, [x, .d (.int k)] => (lsW S x).bind fun a => if k.natAbs ≤ 2000000 ∧ a.length * k.toNat ≤ 1000000 then (datas (List.replicate k.toNat a).flatten).bind fun ds => some (.d (.lst ds)) else none
  | _, _ => none
theorem mulX_ok : POk K (r2 fun x y H Q => (rI cMul (fun i j => .int (i * j)) x y H Q ∨ rRepT K x y H Q) ∨ rRep x y H Q) fMulX := fun F μ S H ws vs w Q rs h q k => by
  unfold fMulX at h
  split at h
  · rename_i i j
    split at h
    · rename_i e
      cases h
      obtain ⟨v, u, rfl, q1, q2⟩ := rep2 q
      cases dint.mp q1; cases dint.mp q2
      exact ⟨_, _, rfl, .inl (.inl ⟨i, j, rfl, rfl, mulOk_ok e, pk_int k⟩)⟩
    · cases h
  · rename_i ds j
    split at h
    · rename_i e
      cases h
      obtain ⟨v, u, rfl, q1, q2⟩ := rep2 q
      cases dint.mp q2
      obtain ⟨a, xs, rfl, h1, h2⟩ := dtup.mp q1
      have l1 := h2.length
      refine ⟨_, _, rfl, .inl (.inr ⟨a, j, xs, rfl, rfl, h1, fun z => e.1 (List.eq_nil_of_length_eq_zero (by rw [l1, z]; rfl)), e.2.1, e.2.2.1, by omega, fun p hp => ?_⟩)⟩
      exact k _ _ (Fr.upd hp) (dtup.mpr ⟨p, _, rfl, .inl (.inl upd_same), fr_rep rs (Fr.upd hp) (repDs_iff.mpr (pairedFlat (repDs_iff.mp h2) j.toNat))⟩)
    · cases h
  · rename_i x j _ _
    obtain ⟨a, e1, h⟩ := bind_some h
    split at h
    · rename_i hl
      obtain ⟨ds, e2, h⟩ := bind_some h
      cases h
      obtain ⟨v, u, rfl, q1, q2⟩ := rep2 q
      cases dint.mp q2
      obtain ⟨l, xs, rfl, h1, h2⟩ := ls_rep rs e1 q1
      have l1 := h2.length
      refine ⟨_, _, rfl, .inr ⟨l, j, xs, rfl, rfl, h1, by omega, by omega, Nat.le_of_lt (lim_line (by rw [← l1]; exact hl.2)), fun p hp => ?_⟩⟩
      exact k _ _ (Fr.upd hp) (dlst.mpr ⟨p, _, rfl, ⟨upd_same, fun z => rs.there z hp⟩, fr_rep rs (Fr.upd hp) (datas_rep e2 (pairedFlat h2 j.toNat))⟩)
    · cases h
  · cases h
theorem me_mulX {a b : Expr} {ma mb : Em} {pos : Pos} (ha : ME X a ma) (hb : ME X b mb) : ME X (.BinOp a .Mult b pos) (prim fMulX (acons ma (acons mb anil))) := me_bin mulX_ok (OpR.or (OpR.or op_mulC op_repT) op_rep) ha hb
theorem mf_rep {a b : Expr} {ma mb : Em} {pos : Pos} (ha : ME X a ma) (hb : ME X b mb) : MF X (.BinOp a .Mult b pos) (primF fRep (acons ma (acons mb anil))) := mf_bin rep_ok op_rep ha hb
end
end GM

set_option Elab.async false
set_option linter.all false
set_option maxRecDepth 100000
set_option maxHeartbeats 4000000
set_option autoImplicit false
namespace GM
open PySem L2
/-! ### == of data -/
mutual
def D.py : D → PyData
  | .non => .none
  | .bl b => .bool b
  | .int i => .int i
  | .str x => .str x
  | .tup ds => .tuple (D.pys ds)
  | .lst ds => .list (D.pys ds)
  | .scr ds => .list (D.pys ds)
def D.pys : List D → List PyData
  | [] => []
  | d :: ds => D.py d :: D.pys ds
end
theorem pys_map : ∀ ds : List D, D.pys ds = ds.map D.py
  | [] => by rw [D.pys]; rfl
  | d :: ds => by rw [D.pys, pys_map ds]; rfl
/-- of a form that == takes: not deeper than n -/
def sh : Nat → D → Bool
  | _, .non => true
  | _, .bl _ => true
  | _, .int _ => true
  | _, .str x => PyData.strOk x
  | 0, _ => false
  | n + 1, .tup ds => ds.all (sh n)
  | n + 1, .lst ds => ds.all (sh n)
  | n + 1, .scr ds => ds.all (sh n)
def eqD (a b : D) : Bool := PyData.eqv a.py b.py
theorem sh_py : ∀ (n : Nat) (d : D), sh n d = true → PyData.canLay0 d.py = true ∧ PyData.depth d.py ≤ n + 1 := by
  intro n
  have flat : ∀ n : Nat, ∀ d : D, (match d with | .tup _ => False | .lst _ => False | .scr _ => False | _ => True) → sh n d = true → PyData.canLay0 d.py = true ∧ PyData.depth d.py ≤ n + 1 := by
    intro n d hd h
    cases d with
    | non => rw [D.py]; exact ⟨by rw [PyData.canLay0], by simp [PyData.depth]⟩
    | bl b => rw [D.py]; exact ⟨by rw [PyData.canLay0], by simp [PyData.depth]⟩
    | int i => rw [D.py]; exact ⟨by rw [PyData.canLay0], by simp [PyData.depth]⟩
    | str x =>
      rw [D.py]
      have hx : PyData.strOk x = true := by cases n <;> exact h
      exact ⟨by rw [PyData.canLay0]; exact hx, by simp [PyData.depth]⟩
    | _ => exact hd.elim
  induction n with
  | zero =>
    intro d h
    cases d <;> first | exact flat 0 _ trivial h | cases h
  | succ n ih =>
    have all : ∀ ds : List D, ds.all (sh n) = true → PyData.canLayAll0 (D.pys ds) = true ∧ PyData.depthAll (D.pys ds) ≤ n + 1 := by
      intro ds
      induction ds with
      | nil => intro _; rw [D.pys]; exact ⟨by rw [PyData.canLayAll0], by simp [PyData.depthAll]⟩
      | cons d ds ihd =>
        intro h
        rw [List.all_cons, Bool.and_eq_true] at h
        obtain ⟨h1, h2⟩ := ih d h.1
        obtain ⟨h3, h4⟩ := ihd h.2
        rw [D.pys]
        exact ⟨by rw [PyData.canLayAll0, h1, h3]; rfl, by simp only [PyData.depthAll]; omega⟩
    intro d h
    cases d with
    | tup ds =>
      obtain ⟨h1, h2⟩ := all ds h
      rw [D.py]
      exact ⟨by rw [PyData.canLay0]; exact h1, by simp only [PyData.depth]; omega⟩
    | lst ds =>
      obtain ⟨h1, h2⟩ := all ds h
      rw [D.py]
      exact ⟨by rw [PyData.canLay0]; exact h1, by simp only [PyData.depth]; omega⟩
    | scr ds =>
      obtain ⟨h1, h2⟩ := all ds h
      rw [D.py]
      exact ⟨by rw [PyData.canLay0]; exact h1, by simp only [PyData.depth]; omega⟩
    | _ => exact flat (n + 1) _ trivial h
theorem shaped_of {n : Nat} {d : D} (h : sh n d = true) (hn : n ≤ 60) : SeqAt.shaped d.py = true := by
  obtain ⟨h1, h2⟩ := sh_py n d h
  unfold SeqAt.shaped
  rw [h1, decide_eq_true (by omega)]
  rfl
/-- a cell that holds data alone, or data, as data -/
def view (S : Sto) : W → Option D
  | .d d => some d
  | .ref k => (lstOf S k).bind fun ws => (datas ws).bind fun ds => some (.lst ds)
  | .op _ => none
section
variable {K : PySem.W.Frag} {F : Addr → Prop} {μ : List Addr} {N : Addr → Prop} {S : Sto} {H : Hp} {X : Cx}
mutual
theorem dp_of : ∀ {d : D} {v : V}, RepD K N H d v → Dp K H v d.py
  | .non, v, h => by rw [RepD] at h; subst h; rw [D.py]; exact .non
  | .bl b, v, h => by rw [RepD] at h; subst h; rw [D.py]; exact .bl b
  | .int b, v, h => by rw [RepD] at h; subst h; rw [D.py]; exact .int b
  | .str b, v, h => by rw [RepD] at h; subst h; rw [D.py]; exact .str b
  | .tup ds, v, h => by
    rw [RepD] at h
    obtain ⟨a, vs, rfl, h1, h2⟩ := h
    rw [D.py]
    exact .tup h1 (dp_all h2)
  | .lst ds, v, h => by
    rw [RepD] at h
    obtain ⟨a, vs, rfl, h1, h2⟩ := h
    rw [D.py]
    exact .lst h1.sq (dp_all h2)
  | .scr ds, v, h => by
    rw [RepD] at h
    obtain ⟨a, vs, rfl, h1, h2⟩ := h
    rw [D.py]
    exact .lst h1.sq (dp_all h2)
theorem dp_all : ∀ {ds : List D} {vs : List V}, RepDs K N H ds vs → DpAll K H vs (D.pys ds)
  | [], vs, h => by rw [RepDs] at h; subst h; rw [D.pys]; exact .nil
  | d :: ds, vs, h => by
    rw [RepDs] at h
    obtain ⟨v, r, rfl, h1, h2⟩ := h
    rw [D.pys]
    exact .cons (dp_of h1) (dp_all h2)
end
theorem view_dp {w : W} {v : V} {d : D} (rs : RS K F μ S H) (h : view S w = some d) (q : RepW K μ (NF F μ S) H w v) : Dp K H v d.py := by
  cases w with
  | d x => cases h; exact dp_of q
  | ref k =>
    obtain ⟨ws, e1, h⟩ := bind_some (show (lstOf S k).bind _ = some d from h)
    obtain ⟨ds, e2, h⟩ := bind_some h
    cases h
    obtain ⟨a, h1, rfl⟩ := q
    obtain ⟨vs, h2, h3⟩ := rs.at_ k a _ h1 (lstOf_some e1)
    rw [D.py]
    exact .lst (.inl (.inl h2)) (dp_all (datas_rep e2 h3))
  | op _ => cases h
def fEqB (g : Bool → Bool) (S : Sto) : List W → Option W
  | [x, y] => (view S x).bind fun a => (view S y).bind fun b => if (sh 40 a && sh 40 b) = true then some (.d (.bl (g (eqD a b)))) else none
  | _ => none
def fEq := fEqB id
def fNe := fEqB not
theorem eq_ok : POk K (r2 (rEqD K)) fEq := fun F μ S H ws vs w Q rs h q k => by
  unfold fEq fEqB at h
  split at h
  · obtain ⟨a, e1, h⟩ := bind_some h
    obtain ⟨b, e2, h⟩ := bind_some h
    split at h
    · rename_i hs
      cases h
      rw [Bool.and_eq_true] at hs
      obtain ⟨v, u, rfl, q1, q2⟩ := rep2 q
      exact ⟨_, _, rfl, _, _, view_dp rs e1 q1, view_dp rs e2 q2, shaped_of hs.1 (by decide), shaped_of hs.2 (by decide), pk_bl k⟩
    · cases h
  · cases h
theorem ne_ok : POk K (r2 (rNeD K)) fNe := fun F μ S H ws vs w Q rs h q k => by
  unfold fNe fEqB at h
  split at h
  · obtain ⟨a, e1, h⟩ := bind_some h
    obtain ⟨b, e2, h⟩ := bind_some h
    split at h
    · rename_i hs
      cases h
      rw [Bool.and_eq_true] at hs
      obtain ⟨v, u, rfl, q1, q2⟩ := rep2 q
      exact ⟨_, _, rfl, _, _, view_dp rs e1 q1, view_dp rs e2 q2, shaped_of hs.1 (by decide), shaped_of hs.2 (by decide), pk_bl k⟩
    · cases h
  · cases h
/-! ### is None -/
def fIsN : Sto → List W → Option W
  | _, [.d x, .d .non] => some (.d (.bl (decide (x = .non))))
  | _, [.ref _, .d .non] => some (.d (.bl false))
  | _, _ => none
def fNotN : Sto → List W → Option W
  | _, [.d x, .d .non] => some (.d (.bl (!decide (x = .non))))
  | _, [.ref _, .d .non] => some (.d (.bl true))
  | _, _ => none
theorem non_iff {x : D} {v : V} (q : RepD K N H x v) : decide (v = .non) = decide (x = .non) := by
  cases x with
  | non => rw [RepD] at q; subst q; rfl
  | bl b => rw [RepD] at q; subst q; rfl
  | int b => rw [RepD] at q; subst q; rfl
  | str b => rw [RepD] at q; subst q; rfl
  | tup b => rw [RepD] at q; obtain ⟨a, vs, rfl, _⟩ := q; rfl
  | lst b => rw [RepD] at q; obtain ⟨a, vs, rfl, _⟩ := q; rfl
  | scr b => rw [RepD] at q; obtain ⟨a, vs, rfl, _⟩ := q; rfl
theorem isN_ok : POk K (r2 fun x y H Q => y = .non ∧ Q (.bl (decide (x = .non))) H) fIsN := fun F μ S H ws vs w Q rs h q k => by
  unfold fIsN at h
  split at h
  · cases h
    obtain ⟨v, u, rfl, q1, q2⟩ := rep2 q
    exact ⟨_, _, rfl, dnon.mp q2, by rw [non_iff q1]; exact pk_bl k⟩
  · cases h
    obtain ⟨v, u, rfl, q1, q2⟩ := rep2 q
    obtain ⟨a, _, rfl⟩ := q1
    exact ⟨_, _, rfl, dnon.mp q2, pk_bl k⟩
  · cases h
theorem notN_ok : POk K (r2 fun x y H Q => y = .non ∧ Q (.bl (!decide (x = .non))) H) fNotN := fun F μ S H ws vs w Q rs h q k => by
  unfold fNotN at h
  split at h
  · cases h
    obtain ⟨v, u, rfl, q1, q2⟩ := rep2 q
    exact ⟨_, _, rfl, dnon.mp q2, by rw [non_iff q1]; exact pk_bl k⟩
  · cases h
    obtain ⟨v, u, rfl, q1, q2⟩ := rep2 q
    obtain ⟨a, _, rfl⟩ := q1
    exact ⟨_, _, rfl, dnon.mp q2, pk_bl k⟩
  · cases h
/-! ### in -/
def flatD : D → Bool
  | .non => true
  | .bl _ => true
  | .int _ => true
  | .str _ => true
  | _ => false
def inD (x : D) (ds : List D) : Bool := ds.any fun y => eqD y x
def fInB (g : Bool → Bool) (S : Sto) : List W → Option W
  | [x, y] => (view S x).bind fun a => (view S y).bind fun b => match b with
    | .tup ds => if (flatD a && ds.all flatD) = true then some (.d (.bl (g (inD a ds)))) else none
    | .lst ds => if (sh 40 a && ds.all (sh 39)) = true then some (.d (.bl (g (inD a ds)))) else none
    | _ => none
  | _ => none
def fIn := fInB id
def fNotIn := fInB not
theorem flat_v {x : D} {v : V} (h : flatD x = true) (q : RepD K N H x v) : flatV v = true := by
  cases x <;> first | cases h; done | (rw [RepD] at q; subst q; rfl)
theorem eqV_D {x y : D} {v u : V} (h : flatD x = true) (h' : flatD y = true) (q : RepD K N H x v) (q' : RepD K N H y u) : eqV v u = eqD x y := by
  unfold eqD
  cases x <;> first | cases h; done | skip
  all_goals (cases y <;> first | cases h'; done | (rw [RepD] at q; rw [RepD] at q'; subst q; subst q'; simp only [D.py, PyData.eqv, eqV]))
theorem inV_D {x : D} {v : V} (h : flatD x = true) (q : RepD K N H x v) : ∀ {ds : List D} {vs : List V}, ds.all flatD = true → RepDs K N H ds vs → inV v vs = inD x ds ∧ vs.all flatV = true
  | [], vs, _, r => by rw [RepDs] at r; subst r; exact ⟨rfl, rfl⟩
  | d :: ds, vs, h', r => by
    rw [RepDs] at r
    obtain ⟨u, us, rfl, r1, r2⟩ := r
    rw [List.all_cons, Bool.and_eq_true] at h'
    obtain ⟨e1, e2⟩ := inV_D h q h'.2 r2
    refine ⟨?_, by rw [List.all_cons, flat_v h'.1 r1, e2]; rfl⟩
    show (u :: us).any _ = (d :: ds).any _
    rw [List.any_cons, List.any_cons, eqV_D h'.1 h r1 q]
    congr 1
theorem any_py {x : D} (ds : List D) : (D.pys ds).any (fun z => PyData.eqv z x.py) = inD x ds := by
  rw [pys_map, List.any_map]
  rfl
theorem in_core {neg : Bool} {g : Bool → Bool} (hg : ∀ b, g b = if neg then !b else b) : POk K (r2 fun x y H Q => rIn K neg x y H Q ∨ (∃ d ds, Dp K H x d ∧ Dp K H y (.list ds) ∧ SeqAt.shaped d = true ∧ SeqAt.shaped (.list ds) = true ∧ Q (.bl (g (ds.any fun z => PyData.eqv z d))) H)) (fInB g) := fun F μ S H ws vs w Q rs h q k => by
  unfold fInB at h
  split at h
  · rename_i x y
    obtain ⟨a, e1, h⟩ := bind_some h
    obtain ⟨b, e2, h⟩ := bind_some h
    obtain ⟨v, u, rfl, q1, q2⟩ := rep2 q
    split at h
    · rename_i ds
      split at h
      · rename_i hs
        cases h
        rw [Bool.and_eq_true] at hs
        cases y with
        | d z =>
          cases e2
          obtain ⟨t, xs, rfl, h1, h2⟩ := dtup.mp q2
          cases x with
          | d z =>
            cases e1
            obtain ⟨i1, i2⟩ := inV_D hs.1 q1 hs.2 h2
            refine ⟨_, _, rfl, .inl ⟨t, xs, rfl, .inr h1, flat_v hs.1 q1, i2, ?_⟩⟩
            rw [i1, ← hg]
            have e : (if neg = true then !inD a ds else inD a ds) = g (inD a ds) := (hg _).symm
            exact pk_bl k
          | ref kk =>
            obtain ⟨ws, e3, e1⟩ := bind_some (show (lstOf S kk).bind _ = some a from e1)
            obtain ⟨ds', e4, e1⟩ := bind_some e1
            cases e1
            cases hs.1
          | op _ => cases e1
        | ref kk =>
          obtain ⟨ws, e3, e2⟩ := bind_some (show (lstOf S kk).bind _ = some (D.tup ds) from e2)
          obtain ⟨ds', e4, e2⟩ := bind_some e2
          cases e2
        | op _ => cases e2
      · cases h
    · rename_i ds
      split at h
      · rename_i hs
        cases h
        rw [Bool.and_eq_true] at hs
        have hd := view_dp rs e2 q2
        rw [D.py] at hd
        refine ⟨_, _, rfl, .inr ⟨_, _, view_dp rs e1 q1, hd, shaped_of hs.1 (by decide), ?_, ?_⟩⟩
        · have := shaped_of (n := 40) (d := .lst ds) hs.2 (by decide)
          rw [D.py] at this
          exact this
        · rw [any_py]
          exact pk_bl k
      · cases h
    · cases h
  · cases h
theorem in_ok : POk K (r2 fun x y H Q => rIn K false x y H Q ∨ rInD K x y H Q) fIn := in_core fun b => rfl
theorem notIn_ok : POk K (r2 fun x y H Q => rIn K true x y H Q ∨ rNotInD K x y H Q) fNotIn := in_core fun b => rfl
/-! ### a[i] -/
def fIx (S : Sto) : List W → Option W
  | [x, .d (.int i)] => (seqW S x).bind fun ws => atI ws i
  | _ => none
theorem ix_ok : POk K (r2 (rIx K)) fIx := fun F μ S H ws vs w Q rs h q k => by
  unfold fIx at h
  split at h
  · rename_i x i
    obtain ⟨us, e1, h⟩ := bind_some h
    obtain ⟨v, u, rfl, q1, q2⟩ := rep2 q
    cases dint.mp q2
    obtain ⟨a, xs, rfl, hs, r⟩ := seq_rep rs e1 q1
    have at_ : ∃ z, atI xs i = some z ∧ RepW K μ (NF F μ S) H w z := by
      unfold atI at h ⊢
      obtain ⟨j, e2, h⟩ := bind_some h
      rw [← r.length, e2]
      exact r.get h
    obtain ⟨z, e2, q3⟩ := at_
    rcases hs with hs | hs
    · exact ⟨_, _, rfl, .inl ⟨a, xs, i, z, rfl, rfl, hs, e2, k z H Fr.refl q3⟩⟩
    · exact ⟨_, _, rfl, .inr (.inl ⟨a, xs, i, z, rfl, rfl, hs, e2, k z H Fr.refl q3⟩)⟩
  · cases h
theorem me_item {a b : Expr} {ma mb : Em} {pos : Pos} (ha : ME X a ma) (hb : ME X b mb) (hs : PlainIx b) : ME X (.Subscript a b pos) (prim fIx (acons ma (acons mb anil))) := me_ix ix_ok ix_seq ha hb hs
/-! ### slices -/
def cutW {α : Type} (xs : List α) (lo hi : Option Int) : List α := (xs.drop (HT.sIx xs.length 0 lo)).take (HT.sIx xs.length xs.length hi - HT.sIx xs.length 0 lo)
abbrev Om := Rho → Sto → Option (Option Int × Sto)
def onone : Om := fun _ S => some (none, S)
def osome (m : Em) : Om := fun ρ S => (m ρ S).bind fun p => match p.1 with
  | .d (.int i) => some (some i, p.2)
  | _ => none
def msl (f : Sto → W → Option Int → Option Int → Option W) (ma : Em) (ml mh : Om) : Em := fun ρ S => (ma ρ S).bind fun p => (ml ρ p.2).bind fun q => (mh ρ q.2).bind fun r => (f r.2 p.1 q.1 r.1).bind fun w => some (w, r.2)
def mslF (f : Sto → W → Option Int → Option Int → Option (List W)) (ma : Em) (ml mh : Om) : Am := fun ρ S => (ma ρ S).bind fun p => (ml ρ p.2).bind fun q => (mh ρ q.2).bind fun r => (f r.2 p.1 q.1 r.1).bind fun w => some (w, r.2)
def slT (_ : Sto) : W → Option Int → Option Int → Option W
  | .d (.tup ds), lo, hi => some (.d (.tup (cutW ds lo hi)))
  | _, _, _ => none
def slL (S : Sto) : W → Option Int → Option Int → Option (List W)
  | .d (.tup _), _, _ => none
  | x, lo, hi => (seqW S x).bind fun ws => some (cutW ws lo hi)
def LO (K : PySem.W.Frag) (m : Om) : TO := fun σ H Q => ∃ (F : Addr → Prop) (μ : List Addr) (ρ : Rho) (S : Sto) (o : Option Int) (S' : Sto), RS K F μ S H ∧ RSt K μ (NF F μ S) H σ ρ ∧ m ρ S = some (o, S') ∧
  ∀ μ' H', Gs K F μ S H μ' S' H' → Q o H'
theorem PO.cons {X : Cx} {e : Option Expr} {t t' : TO} (h : PO X e t) (f : ∀ σ H Q, t' σ H Q → t σ H Q) : PO X e t' := ⟨fun pins s σ H Q I q => h.run pins s σ H Q I (f _ _ _ q)⟩
abbrev MO (X : Cx) (e : Option Expr) (m : Om) : Prop := PO X e (LO X.K m)
theorem mo_none : MO X none onone := PO.cons po_none fun σ H Q ⟨F, μ, ρ, S, o, S', rs, rst, h, k⟩ => by
  cases h
  exact k μ H (Gs.refl rs)
theorem mo_some {e : Expr} {m : Em} (h : ME X e m) : MO X (some e) (osome m) := PO.cons (po_some h) fun σ H Q ⟨F, μ, ρ, S, o, S', rs, rst, h, k⟩ => by
  obtain ⟨⟨w, S1⟩, e1, h⟩ := bind_some h
  refine ⟨F, μ, ρ, S, w, S1, rs, rst, e1, fun μ' v H' g q => ?_⟩
  cases w with
  | d x =>
    cases x with
    | int i => cases h; exact ⟨i, dint.mp q, k μ' H' g⟩
    | _ => cases h
  | _ => cases h
theorem pairedDrop {α β : Type} {R : α → β → Prop} : ∀ {a : List α} {b : List β} (n : Nat), Paired R a b → Paired R (a.drop n) (b.drop n)
  | _, _, 0, r => r
  | _, _, _ + 1, .nil => .nil
  | _, _, n + 1, .cons _ t => pairedDrop n t
theorem pairedTake {α β : Type} {R : α → β → Prop} : ∀ {a : List α} {b : List β} (n : Nat), Paired R a b → Paired R (a.take n) (b.take n)
  | _, _, 0, _ => .nil
  | _, _, _ + 1, .nil => .nil
  | _, _, n + 1, .cons r t => .cons r (pairedTake n t)
theorem cut_rep {ws : List W} {vs : List V} {lo hi : Option Int} (q : RepWs K μ N H ws vs) : RepWs K μ N H (cutW ws lo hi) (cutV vs lo hi) := by
  unfold cutW cutV
  rw [Paired.length q]
  exact pairedTake _ (pairedDrop _ q)
theorem cut_map {α β : Type} (f : α → β) (xs : List α) (lo hi : Option Int) : (cutW xs lo hi).map f = cutW (xs.map f) lo hi := by
  unfold cutW
  rw [List.map_take, List.map_drop, List.length_map]
theorem me_slT {a : Expr} {lo hi : Option Expr} {ma : Em} {ml mh : Om} {p2 pos : Pos} (ha : ME X a ma) (hl : MO X lo ml) (hh : MO X hi mh) : ME X (.Subscript a (.Slice lo hi none p2) pos) (msl slT ma ml mh) :=
  PE.cons (pe_slice sl_tupA ha hl hh) fun σ H Q ⟨F, μ, ρ, S, w, S', rs, rst, h, k⟩ => by
    obtain ⟨⟨w1, S1⟩, e1, h⟩ := bind_some h
    obtain ⟨⟨l, S2⟩, e2, h⟩ := bind_some h
    obtain ⟨⟨u, S3⟩, e3, h⟩ := bind_some h
    obtain ⟨w2, e4, h⟩ := bind_some h
    cases h
    refine ⟨F, μ, ρ, S, w1, S1, rs, rst, e1, fun μ1 v H1 g1 q1 => ⟨F, μ1, ρ, S1, l, S2, g1.rs, rst.mono g1.go g1.pre, e2, fun μ2 H2 g2 => ⟨F, μ2, ρ, S2, u, S3, g2.rs, (rst.mono g1.go g1.pre).mono g2.go g2.pre, e3, fun μ3 H3 g3 => ?_⟩⟩⟩
    have g23 := g2.trans g3
    have q3 : RepW X.K μ3 (NF F μ3 S3) H3 w1 v := q1.mono g23.go g23.pre
    cases w1 with
    | d x =>
      cases x with
      | tup ds =>
        cases e4
        obtain ⟨a, xs, rfl, h1, h2⟩ := dtup.mp q3
        have hl := h2.length
        have kk := fun v H' g q => k μ3 v H' ((g1.trans g23).trans g) q
        refine ⟨a, xs, rfl, h1, fun ⟨c1, c2⟩ => ?_, fun _ p hp => ?_⟩
        · refine kk _ H3 (Gs.refl g3.rs) (dtup.mpr ⟨a, xs, rfl, h1, ?_⟩)
          have : cutW ds l u = ds := by
            unfold cutW
            rw [hl, c1, c2, List.drop_zero, Nat.sub_zero, ← hl, List.take_length]
          show RepDs _ _ _ (cutW ds l u) xs
          rw [this]; exact h2
        · refine kk _ _ ((Fr.upd hp).gs g3.rs) (dtup.mpr ⟨p, _, rfl, .inl (.inl upd_same), ?_⟩)
          refine fr_rep g3.rs (Fr.upd hp) (datas_rep (μ := μ3) (ws := (cutW ds l u).map W.d) ?_ (by rw [cut_map]; exact cut_rep (rep_map h2)))
          have dm : ∀ l : List D, datas (l.map W.d) = some l := fun l => by
            induction l with
            | nil => rfl
            | cons d ds ih => show (datas (ds.map W.d)).bind _ = _; rw [ih]; rfl
          exact dm _
      | _ => cases e4
    | _ => cases e4
theorem datas_map : ∀ l : List D, datas (l.map W.d) = some l
  | [] => rfl
  | d :: ds => by show (datas (ds.map W.d)).bind _ = _; rw [datas_map ds]; rfl
theorem mf_slL {a : Expr} {lo hi : Option Expr} {ma : Em} {ml mh : Om} {p2 pos : Pos} (ha : ME X a ma) (hl : MO X lo ml) (hh : MO X hi mh) : MF X (.Subscript a (.Slice lo hi none p2) pos) (mslF slL ma ml mh) :=
  PE.cons (pe_slice sl_list ha hl hh) fun σ H Q ⟨F, μ, ρ, S, w, S', rs, rst, h, k⟩ => by
    obtain ⟨⟨w1, S1⟩, e1, h⟩ := bind_some h
    obtain ⟨⟨l, S2⟩, e2, h⟩ := bind_some h
    obtain ⟨⟨u, S3⟩, e3, h⟩ := bind_some h
    obtain ⟨w2, e4, h⟩ := bind_some h
    cases h
    refine ⟨F, μ, ρ, S, w1, S1, rs, rst, e1, fun μ1 v H1 g1 q1 => ⟨F, μ1, ρ, S1, l, S2, g1.rs, rst.mono g1.go g1.pre, e2, fun μ2 H2 g2 => ⟨F, μ2, ρ, S2, u, S3, g2.rs, (rst.mono g1.go g1.pre).mono g2.go g2.pre, e3, fun μ3 H3 g3 => ?_⟩⟩⟩
    have g23 := g2.trans g3
    have q3 : RepW X.K μ3 (NF F μ3 S3) H3 w1 v := q1.mono g23.go g23.pre
    unfold slL at e4
    split at e4
    · cases e4
    · rename_i hn
      obtain ⟨ws, e5, e4⟩ := bind_some e4
      cases e4
      obtain ⟨a, xs, rfl, h1, h2⟩ := seq_rep g3.rs e5 q3
      rcases h1 with h1 | h1
      · exact ⟨a, xs, rfl, h1, fun p hp => k μ3 H3 p _ (g1.trans g23) hp (cut_rep h2)⟩
      · -- a tuple is no list
        cases w1 with
        | d x =>
          cases x with
          | tup ds => exact absurd rfl (hn ds)
          | lst ds => obtain ⟨a', xs', e, h3, h4⟩ := dlst.mp q3; cases e; exact ⟨a, xs', rfl, h3.sq, fun p hp => k μ3 H3 p _ (g1.trans g23) hp (by cases e5; exact cut_rep (rep_map h4))⟩
          | scr ds =>
            have q4 : RepD _ _ _ _ _ := q3
            rw [RepD] at q4
            obtain ⟨a', xs', e, h3, h4⟩ := q4
            cases e
            exact ⟨a, xs', rfl, h3.sq, fun p hp => k μ3 H3 p _ (g1.trans g23) hp (by cases e5; exact cut_rep (rep_map h4))⟩
          | _ => cases e5
        | ref kk =>
          obtain ⟨a', b1, b2⟩ := q3
          cases b2
          obtain ⟨xs', b3, b4⟩ := g3.rs.at_ kk a _ b1 (lstOf_some e5)
          exact ⟨a, xs', rfl, .inl (.inl b3), fun p hp => k μ3 H3 p _ (g1.trans g23) hp (cut_rep b4)⟩
        | op _ => cases e5
/-- a slice of a tuple or of a list (frozen) -/
def slX (S : Sto) : W → Option Int → Option Int → Option W
  | .d (.tup ds), lo, hi => some (.d (.tup (cutW ds lo hi)))
  | x, lo, hi => (seqW S x).bind fun ws => (datas (cutW ws lo hi)).bind fun ds => some (.d (.lst ds))
theorem me_sl {a : Expr} {lo hi : Option Expr} {ma : Em} {ml mh : Om} {p2 pos : Pos} (ha : ME X a ma) (hl : MO X lo ml) (hh : MO X hi mh) : ME X (.Subscript a (.Slice lo hi none p2) pos) (msl slX ma ml mh) :=
  PE.cons (pe_slice (SlR.or sl_tupA sl_list) ha hl hh) fun σ H Q ⟨F, μ, ρ, S, w, S', rs, rst, h, k⟩ => by
    obtain ⟨⟨w1, S1⟩, e1, h⟩ := bind_some h
    obtain ⟨⟨l, S2⟩, e2, h⟩ := bind_some h
    obtain ⟨⟨u, S3⟩, e3, h⟩ := bind_some h
    obtain ⟨w2, e4, h⟩ := bind_some h
    cases h
    refine ⟨F, μ, ρ, S, w1, S1, rs, rst, e1, fun μ1 v H1 g1 q1 => ⟨F, μ1, ρ, S1, l, S2, g1.rs, rst.mono g1.go g1.pre, e2, fun μ2 H2 g2 => ⟨F, μ2, ρ, S2, u, S3, g2.rs, (rst.mono g1.go g1.pre).mono g2.go g2.pre, e3, fun μ3 H3 g3 => ?_⟩⟩⟩
    have g23 := g2.trans g3
    have q3 : RepW X.K μ3 (NF F μ3 S3) H3 w1 v := q1.mono g23.go g23.pre
    have kk := fun v H' g q => k μ3 v H' ((g1.trans g23).trans g) q
    have lst : ∀ a xs ws, SqL X.K H3 a xs → RepWs X.K μ3 (NF F μ3 S3) H3 ws xs → (datas (cutW ws l u)).bind (fun ds => some (W.d (.lst ds))) = some w → rSlL X.K (.ref a) l u H3 Q := fun a xs ws h1 h2 e => by
      obtain ⟨ds, e6, e⟩ := bind_some e
      cases e
      exact ⟨a, xs, rfl, h1, fun p hp => kk _ _ ((Fr.upd hp).gs g3.rs) (dlst.mpr ⟨p, _, rfl, ⟨upd_same, fun z => g3.rs.there z hp⟩, fr_rep g3.rs (Fr.upd hp) (datas_rep e6 (cut_rep h2))⟩)⟩
    cases w1 with
    | d x =>
      cases x with
      | tup ds =>
        cases e4
        obtain ⟨a, xs, rfl, h1, h2⟩ := dtup.mp q3
        have hl := h2.length
        refine .inl ⟨a, xs, rfl, h1, fun ⟨c1, c2⟩ => ?_, fun _ p hp => ?_⟩
        · refine kk _ H3 (Gs.refl g3.rs) (dtup.mpr ⟨a, xs, rfl, h1, ?_⟩)
          have : cutW ds l u = ds := by
            unfold cutW
            rw [hl, c1, c2, List.drop_zero, Nat.sub_zero, ← hl, List.take_length]
          show RepDs _ _ _ (cutW ds l u) xs
          rw [this]; exact h2
        · refine kk _ _ ((Fr.upd hp).gs g3.rs) (dtup.mpr ⟨p, _, rfl, .inl (.inl upd_same), ?_⟩)
          exact fr_rep g3.rs (Fr.upd hp) (datas_rep (μ := μ3) (ws := (cutW ds l u).map W.d) (datas_map _) (by rw [cut_map]; exact cut_rep (rep_map h2)))
      | lst ds =>
        obtain ⟨a, xs, rfl, h3, h4⟩ := dlst.mp q3
        exact .inr (lst a xs _ h3.sq (rep_map h4) e4)
      | scr ds =>
        have q4 : RepD _ _ _ _ _ := q3
        rw [RepD] at q4
        obtain ⟨a, xs, rfl, h3, h4⟩ := q4
        exact .inr (lst a xs _ h3.sq (rep_map h4) e4)
      | _ => cases e4
    | ref kk' =>
      obtain ⟨ws, e5, e4⟩ := bind_some (show (lstOf S3 kk').bind _ = some w from e4)
      obtain ⟨a, b1, rfl⟩ := q3
      obtain ⟨xs, b3, b4⟩ := g3.rs.at_ kk' a _ b1 (lstOf_some e5)
      exact .inr (lst a xs _ (.inl (.inl b3)) b4 e4)
    | op _ => cases e4
end
end GM

set_option Elab.async false
set_option linter.all false
set_option maxRecDepth 100000
set_option maxHeartbeats 4000000
set_option autoImplicit false
namespace GM
open PySem L2
/-! ### built-in calls -/
section
variable {K : PySem.W.Frag} {F : Addr → Prop} {μ : List Addr} {N : Addr → Prop} {S : Sto} {H : Hp} {X : Cx}
def fLen (S : Sto) : List W → Option W
  | [x] => (seqW S x).bind fun ws => some (.d (.int ws.length))
  | _ => none
theorem len_ok : POk K (fun xs H Q => ∃ p ys, xs = [.ref p] ∧ (SqL K H p ys ∨ SqT K H p ys) ∧ Q (.int ys.length) H) fLen := fun F μ S H ws vs w Q rs h q k => by
  unfold fLen at h
  split at h
  · obtain ⟨us, e1, h⟩ := bind_some h
    cases h
    obtain ⟨v, rfl, q1⟩ := rep1 q
    obtain ⟨a, xs, rfl, hs, r⟩ := seq_rep rs e1 q1
    exact ⟨a, xs, rfl, hs, by rw [← r.length]; exact pk_int k⟩
  · cases h
def fInt : Sto → List W → Option W
  | _, [.d (.int i)] => some (.d (.int i))
  | _, [.d (.bl b)] => some (.d (.int (if b then 1 else 0)))
  | _, _ => none
theorem int_ok : POk K (fun xs H Q => (∃ i, xs = [.int i] ∧ Q (.int i) H) ∨ ∃ k, xs = [.bl k] ∧ Q (.int (if k then 1 else 0)) H) fInt := fun F μ S H ws vs w Q rs h q k => by
  unfold fInt at h
  split at h
  · cases h
    obtain ⟨v, rfl, q1⟩ := rep1 q
    cases dint.mp q1
    exact .inl ⟨_, rfl, pk_int k⟩
  · cases h
    obtain ⟨v, rfl, q1⟩ := rep1 q
    cases dbl.mp q1
    exact .inr ⟨_, rfl, pk_int k⟩
  · cases h
def fAbs : Sto → List W → Option W
  | _, [.d (.int i)] => some (.d (.int (if i < 0 then -i else i)))
  | _, _ => none
theorem abs_ok : POk K (fun xs H Q => ∃ i, xs = [.int i] ∧ Q (.int (if i < 0 then -i else i)) H) fAbs := fun F μ S H ws vs w Q rs h q k => by
  unfold fAbs at h
  split at h
  · cases h
    obtain ⟨v, rfl, q1⟩ := rep1 q
    cases dint.mp q1
    exact ⟨_, rfl, pk_int k⟩
  · cases h
def fMax2 : Sto → List W → Option W
  | _, [.d (.int i), .d (.int j)] => some (.d (.int (if j > i then j else i)))
  | _, _ => none
theorem max2_ok : POk K (fun xs H Q => ∃ i j, xs = [.int i, .int j] ∧ Q (.int (if j > i then j else i)) H) fMax2 := fun F μ S H ws vs w Q rs h q k => by
  unfold fMax2 at h
  split at h
  · cases h
    obtain ⟨v, u, rfl, q1, q2⟩ := rep2 q
    cases dint.mp q1; cases dint.mp q2
    exact ⟨_, _, rfl, pk_int k⟩
  · cases h
def fMin2 : Sto → List W → Option W
  | _, [.d (.int i), .d (.int j)] => some (.d (.int (if j < i then j else i)))
  | _, _ => none
theorem min2_ok : POk K (fun xs H Q => ∃ i j, xs = [.int i, .int j] ∧ Q (.int (if j < i then j else i)) H) fMin2 := fun F μ S H ws vs w Q rs h q k => by
  unfold fMin2 at h
  split at h
  · cases h
    obtain ⟨v, u, rfl, q1, q2⟩ := rep2 q
    cases dint.mp q1; cases dint.mp q2
    exact ⟨_, _, rfl, pk_int k⟩
  · cases h
/-- the ints of a list -/
def intsW : List W → Option (List Int)
  | [] => some []
  | .d (.int i) :: r => (intsW r).bind fun l => some (i :: l)
  | _ :: _ => none
def blsW : List W → Option (List Bool)
  | [] => some []
  | .d (.bl i) :: r => (blsW r).bind fun l => some (i :: l)
  | _ :: _ => none
/-- the items of a value that is a list (no tuple) -/
def listW (S : Sto) : W → Option (List W)
  | .d (.lst ds) => some (ds.map W.d)
  | .d (.scr ds) => some (ds.map W.d)
  | .ref k => lstOf S k
  | _ => none
theorem list_rep {w : W} {v : V} {ws : List W} (rs : RS K F μ S H) (h : listW S w = some ws) (q : RepW K μ (NF F μ S) H w v) : ∃ a vs, v = .ref a ∧ SqL K H a vs ∧ RepWs K μ (NF F μ S) H ws vs := by
  cases w with
  | d x =>
    cases x with
    | lst ds =>
      cases h
      obtain ⟨a, vs, e, h1, h2⟩ := dlst.mp q
      exact ⟨a, vs, e, h1.sq, rep_map h2⟩
    | scr ds =>
      cases h
      have q' : RepD _ _ _ _ _ := q
      rw [RepD] at q'
      obtain ⟨a, vs, e, h1, h2⟩ := q'
      exact ⟨a, vs, e, h1.sq, rep_map h2⟩
    | _ => cases h
  | ref k =>
    obtain ⟨a, h1, e⟩ := q
    obtain ⟨vs, h2, h3⟩ := rs.at_ k a _ h1 (lstOf_some h)
    exact ⟨a, vs, e, .inl (.inl h2), h3⟩
  | op _ => cases h
theorem ints_rep : ∀ {ws : List W} {ns : List Int} {vs : List V}, intsW ws = some ns → RepWs K μ N H ws vs → vs = ns.map V.int
  | [], ns, _, h, .nil => by cases h; rfl
  | .d (.int i) :: r, ns, _, h, .cons q t => by
    obtain ⟨l, e, h⟩ := bind_some (show (intsW r).bind (fun l => some (i :: l)) = some ns from h)
    cases h
    rw [dint.mp q, ints_rep e t]
    rfl
  | .d .non :: r, ns, _, h, .cons q t => by cases h
  | .d (.bl _) :: r, ns, _, h, .cons q t => by cases h
  | .d (.str _) :: r, ns, _, h, .cons q t => by cases h
  | .d (.tup _) :: r, ns, _, h, .cons q t => by cases h
  | .d (.lst _) :: r, ns, _, h, .cons q t => by cases h
  | .d (.scr _) :: r, ns, _, h, .cons q t => by cases h
  | .ref _ :: r, ns, _, h, .cons q t => by cases h
  | .op _ :: r, ns, _, h, .cons q t => by cases h
theorem bls_rep : ∀ {ws : List W} {ns : List Bool} {vs : List V}, blsW ws = some ns → RepWs K μ N H ws vs → vs = ns.map V.bl
  | [], ns, _, h, .nil => by cases h; rfl
  | .d (.bl i) :: r, ns, _, h, .cons q t => by
    obtain ⟨l, e, h⟩ := bind_some (show (blsW r).bind (fun l => some (i :: l)) = some ns from h)
    cases h
    rw [dbl.mp q, bls_rep e t]
    rfl
  | .d .non :: r, ns, _, h, .cons q t => by cases h
  | .d (.int _) :: r, ns, _, h, .cons q t => by cases h
  | .d (.str _) :: r, ns, _, h, .cons q t => by cases h
  | .d (.tup _) :: r, ns, _, h, .cons q t => by cases h
  | .d (.lst _) :: r, ns, _, h, .cons q t => by cases h
  | .d (.scr _) :: r, ns, _, h, .cons q t => by cases h
  | .ref _ :: r, ns, _, h, .cons q t => by cases h
  | .op _ :: r, ns, _, h, .cons q t => by cases h
/-- f of the ints of one list -/
def fInts (g : List Int → Option W) (S : Sto) : List W → Option W
  | [x] => (listW S x).bind fun ws => (intsW ws).bind fun ns => g ns
  | _ => none
theorem fInts_inv {g : List Int → Option W} {ws : List W} {vs : List V} {w : W} (rs : RS K F μ S H) (h : fInts g S ws = some w) (q : RepWs K μ (NF F μ S) H ws vs) : ∃ a ns, vs = [.ref a] ∧ SqL K H a (ns.map V.int) ∧ g ns = some w := by
  unfold fInts at h
  split at h
  · obtain ⟨us, e1, h⟩ := bind_some h
    obtain ⟨ns, e2, h⟩ := bind_some h
    obtain ⟨v, rfl, q1⟩ := rep1 q
    obtain ⟨a, xs, rfl, hs, r⟩ := list_rep rs e1 q1
    exact ⟨a, ns, rfl, by rw [← ints_rep e2 r]; exact hs, h⟩
  · cases h
def fSum := fInts fun ns => some (.d (.int ns.sum))
def fMaxL := fInts fun ns => ns.max?.bind fun m => some (.d (.int m))
def fMinL := fInts fun ns => ns.min?.bind fun m => some (.d (.int m))
theorem sum_ok : POk K (rSum K) fSum := fun F μ S H ws vs w Q rs h q k => by
  obtain ⟨a, ns, e, hs, h⟩ := fInts_inv rs h q
  cases h
  exact ⟨a, ns, e, hs, pk_int k⟩
theorem maxL_ok : POk K (rMax K) fMaxL := fun F μ S H ws vs w Q rs h q k => by
  obtain ⟨a, ns, e, hs, h⟩ := fInts_inv rs h q
  obtain ⟨m, e1, h⟩ := bind_some h
  cases h
  obtain ⟨h1, h2⟩ := List.max?_eq_some_iff.mp e1
  refine ⟨a, ns, e, hs, List.length_pos_of_mem h1, fun m' g1 g2 => ?_⟩
  have : m' = m := Int.le_antisymm (h2 m' g1) (g2 m h1)
  rw [this]
  exact pk_int k
theorem minL_ok : POk K (rMin K) fMinL := fun F μ S H ws vs w Q rs h q k => by
  obtain ⟨a, ns, e, hs, h⟩ := fInts_inv rs h q
  obtain ⟨m, e1, h⟩ := bind_some h
  cases h
  obtain ⟨h1, h2⟩ := List.min?_eq_some_iff.mp e1
  refine ⟨a, ns, e, hs, List.length_pos_of_mem h1, fun m' g1 g2 => ?_⟩
  have : m' = m := Int.le_antisymm (g2 m h1) (h2 m' g1)
  rw [this]
  exact pk_int k
def fBls (g : List Bool → Bool) (S : Sto) : List W → Option W
  | [x] => (listW S x).bind fun ws => (blsW ws).bind fun ns => some (.d (.bl (g ns)))
  | _ => none
def fAll := fBls fun bs => bs.all id
def fAny := fBls fun bs => bs.any id
theorem bls_core {g : List Bool → Bool} : POk K (fun vs H Q => ∃ (a : Addr) (bs : List Bool), vs = [V.ref a] ∧ SqL K H a (bs.map V.bl) ∧ Q (.bl (g bs)) H) (fBls g) := fun F μ S H ws vs w Q rs h q k => by
  unfold fBls at h
  split at h
  · obtain ⟨us, e1, h⟩ := bind_some h
    obtain ⟨ns, e2, h⟩ := bind_some h
    cases h
    obtain ⟨v, rfl, q1⟩ := rep1 q
    obtain ⟨a, xs, rfl, hs, r⟩ := list_rep rs e1 q1
    exact ⟨a, ns, rfl, by rw [← bls_rep e2 r]; exact hs, pk_bl k⟩
  · cases h
theorem all_ok : POk K (rAll K) fAll := bls_core
theorem any_ok : POk K (rAny K) fAny := bls_core
/-! ### sorted, tuple, list -/
def insI (x : Int) : List Int → List Int
  | [] => [x]
  | y :: r => if x ≤ y then x :: y :: r else y :: insI x r
def sortI : List Int → List Int
  | [] => []
  | x :: r => insI x (sortI r)
theorem insI_perm (x : Int) : ∀ l : List Int, (insI x l).Perm (x :: l)
  | [] => .refl _
  | y :: r => by
    unfold insI
    split
    · exact .refl _
    · exact ((insI_perm x r).cons y).trans (.swap x y r)
theorem sortI_perm : ∀ l : List Int, (sortI l).Perm l
  | [] => .refl _
  | x :: r => (insI_perm x _).trans ((sortI_perm r).cons x)
theorem insI_sorted (x : Int) : ∀ l : List Int, l.Pairwise (· ≤ ·) → (insI x l).Pairwise (· ≤ ·)
  | [], _ => by simp [insI]
  | y :: r, h => by
    unfold insI
    rw [List.pairwise_cons] at h
    split
    · rename_i e
      rw [List.pairwise_cons]
      refine ⟨fun z hz => ?_, List.pairwise_cons.mpr h⟩
      rcases List.mem_cons.mp hz with z' | z'
      · rw [z']; exact e
      · exact Int.le_trans e (h.1 z z')
    · rename_i e
      rw [List.pairwise_cons]
      refine ⟨fun z hz => ?_, insI_sorted x r h.2⟩
      rcases List.mem_cons.mp ((insI_perm x r).mem_iff.mp hz) with z' | z'
      · rw [z']; omega
      · exact h.1 z z'
theorem sortI_sorted : ∀ l : List Int, (sortI l).Pairwise (· ≤ ·)
  | [] => .nil
  | x :: r => insI_sorted x _ (sortI_sorted r)
theorem sorted_unique {a b : List Int} (p : a.Perm b) (ha : a.Pairwise (· ≤ ·)) (hb : b.Pairwise (· ≤ ·)) : a = b :=
  p.eq_of_pairwise (fun x y _ _ h1 h2 => Int.le_antisymm h1 h2) ha hb
def fSorted (S : Sto) : List W → Option (List W)
  | [x] => (listW S x).bind fun ws => (intsW ws).bind fun ns => some ((sortI ns).map fun i => W.d (.int i))
  | _ => none
theorem intsRep {ns : List Int} : RepWs K μ N H (ns.map fun i => W.d (.int i)) (ns.map V.int) := by
  induction ns with
  | nil => exact .nil
  | cons x r ih => exact .cons (dint.mpr rfl) ih
theorem sorted_ok : POkF K (rSortedI K) fSorted := fun F μ S H ws vs w Q rs h q k => by
  unfold fSorted at h
  split at h
  · obtain ⟨us, e1, h⟩ := bind_some h
    obtain ⟨ns, e2, h⟩ := bind_some h
    cases h
    obtain ⟨v, rfl, q1⟩ := rep1 q
    obtain ⟨a, xs, rfl, hs, r⟩ := list_rep rs e1 q1
    refine ⟨a, ns, rfl, by rw [← ints_rep e2 r]; exact hs, fun ns' p g1 g2 hp => ?_⟩
    have : ns' = sortI ns := sorted_unique (g1.trans (sortI_perm ns).symm) g2 (sortI_sorted ns)
    rw [this]
    exact k p _ hp intsRep
  · cases h
def fTuple (S : Sto) : List W → Option W
  | [.d (.tup ds)] => some (.d (.tup ds))
  | [x] => (listW S x).bind fun ws => (datas ws).bind fun ds => some (.d (.tup ds))
  | _ => none
theorem tuple_ok : POk K (fun xs H Q => ∃ p ys, xs = [.ref p] ∧ ((SqL K H p ys ∧ ∀ l, H l = none → Q (.ref l) (upd H l (.tup ys))) ∨ (SqT K H p ys ∧ Q (.ref p) H))) fTuple := fun F μ S H ws vs w Q rs h q k => by
  unfold fTuple at h
  split at h
  · cases h
    obtain ⟨v, rfl, q1⟩ := rep1 q
    obtain ⟨a, xs, rfl, h1, h2⟩ := dtup.mp q1
    exact ⟨a, xs, rfl, .inr ⟨h1, k _ H Fr.refl (dtup.mpr ⟨a, xs, rfl, h1, h2⟩)⟩⟩
  · obtain ⟨us, e1, h⟩ := bind_some h
    obtain ⟨ds, e2, h⟩ := bind_some h
    cases h
    obtain ⟨v, rfl, q1⟩ := rep1 q
    obtain ⟨a, xs, rfl, hs, r⟩ := list_rep rs e1 q1
    exact ⟨a, xs, rfl, .inl ⟨hs, fun p hp => k _ _ (Fr.upd hp) (dtup.mpr ⟨p, xs, rfl, .inl (.inl upd_same), fr_rep rs (Fr.upd hp) (datas_rep e2 r)⟩)⟩⟩
  · cases h
def fList (S : Sto) : List W → Option (List W)
  | [x] => seqW S x
  | _ => none
theorem list_ok : POkF K (fun xs H Q => ∃ p ys, xs = [.ref p] ∧ (SqL K H p ys ∨ SqT K H p ys) ∧ ∀ l, H l = none → Q (.ref l) (upd H l (.lst ys))) fList := fun F μ S H ws vs w Q rs h q k => by
  unfold fList at h
  split at h
  · obtain ⟨v, rfl, q1⟩ := rep1 q
    obtain ⟨a, xs, rfl, hs, r⟩ := seq_rep rs h q1
    exact ⟨a, xs, rfl, hs, fun p hp => k p _ hp r⟩
  · cases h
/-! ### isinstance -/
def tyD : D → String
  | .non => "NoneType"
  | .bl _ => "bool"
  | .int _ => "int"
  | .str _ => "str"
  | .tup _ => "tuple"
  | .lst _ => "list"
  | .scr _ => "list"
/-- isinstance of a kind and one of the four -/
def isB : String → String → Option Bool
  | a, "int" => some (a == "int" || a == "bool")
  | a, "bool" => some (a == "bool")
  | a, "tuple" => some (a == "tuple")
  | a, "list" => some (a == "list")
  | a, "str" => some (a == "str")
  | _, _ => none
def tyW (S : Sto) : W → Option String
  | .d x => some (tyD x)
  | .ref k => (lstOf S k).bind fun _ => some "list"
  | .op _ => none
theorem tyX_of {w : W} {v : V} {T : String} (rs : RS K F μ S H) (h : tyW S w = some T) (q : RepW K μ (NF F μ S) H w v) : TyX K H v (.type T) := by
  cases w with
  | d x =>
    cases h
    cases x with
    | non => cases dnon.mp q; exact .base .non
    | bl b => cases dbl.mp q; exact .base (.bl b)
    | int b => cases dint.mp q; exact .base (.int b)
    | str b => cases dstr.mp q; exact .base (.str b)
    | tup ds =>
      obtain ⟨a, vs, rfl, h1, _⟩ := dtup.mp q
      rcases h1 with (h1 | ⟨o, h1⟩) | ⟨o, its, n, h1, h2, _⟩
      · exact .base (.tup h1)
      · exact .fTuple h1
      · exact .kTuple h1 h2
    | lst ds =>
      obtain ⟨a, vs, rfl, h1, _⟩ := dlst.mp q
      exact .base (.lst h1.1)
    | scr ds =>
      have q' : RepD _ _ _ _ _ := q
      rw [RepD] at q'
      obtain ⟨a, vs, rfl, h1, _⟩ := q'
      rcases h1 with ⟨o, h1⟩ | ⟨o, its, n, h1, h2, _⟩
      · exact .base (.frz h1)
      · exact .kList h1 h2
  | ref k =>
    obtain ⟨us, e1, h⟩ := bind_some (show (lstOf S k).bind _ = some T from h)
    cases h
    obtain ⟨a, h1, rfl⟩ := q
    obtain ⟨vs, h2, h3⟩ := rs.at_ k a _ h1 (lstOf_some e1)
    exact .base (.lst h2)
  | op _ => cases h
def kinds : List String := ["NoneType", "bool", "int", "str", "tuple", "list"]
theorem isB_kit : ∀ a ∈ kinds, ∀ b ∈ ["int", "bool", "tuple", "list", "str"], kitB a b = isB a b := by decide +kernel
theorem tyW_kind {w : W} {T : String} (h : tyW S w = some T) : T ∈ kinds := by
  cases w with
  | d x => cases h; cases x <;> simp [tyD, kinds]
  | ref k =>
    obtain ⟨us, e1, h⟩ := bind_some (show (lstOf S k).bind _ = some T from h)
    cases h
    decide
  | op _ => cases h
def fIsi (S : Sto) : List W → Option W
  | [x, .op (.ty b)] => if b ∈ ["int", "bool", "tuple", "list", "str"] then (tyW S x).bind fun a => (isB a b).bind fun r => some (.d (.bl r)) else none
  | _ => none
theorem isi_ok : POk K (rIsi K) fIsi := fun F μ S H ws vs w Q rs h q k => by
  unfold fIsi at h
  split at h
  · rename_i x b
    split at h
    · rename_i hb
      obtain ⟨a, e1, h⟩ := bind_some h
      obtain ⟨r, e2, h⟩ := bind_some h
      cases h
      obtain ⟨v, u, rfl, q1, q2⟩ := rep2 q
      have q2 : u = V.ty b := q2
      subst q2
      exact ⟨v, _, _, _, r, rfl, .ty b, tyX_of rs e1 q1, kit_ty ((isB_kit a (tyW_kind e1) b hb).trans e2), pk_bl k⟩
    · cases h
  · cases h
end
end GM

set_option Elab.async false
set_option linter.all false
set_option maxRecDepth 100000
set_option maxHeartbeats 4000000
set_option autoImplicit false
namespace GM
open PySem L2
section
variable {K : PySem.W.Frag} {F : Addr → Prop} {μ : List Addr} {N : Addr → Prop} {S : Sto} {H : Hp} {X : Cx}
/-! ### isinstance(x, (tuple, list)) -/
def isAny (a : String) : List String → Option Bool
  | [] => some false
  | b :: r => if b ∈ ["int", "bool", "tuple", "list", "str"] then (isB a b).bind fun c => (isAny a r).bind fun d => some (c || d) else none
def misiT (bs : List String) (m : Em) : Em := fun ρ S => (m ρ S).bind fun p => (tyW p.2 p.1).bind fun a => (isAny a bs).bind fun r => some (.d (.bl r), p.2)
/-- types as values -/
inductive TyNames (X : Cx) : List Expr → List String → Prop where
  | nil : TyNames X [] []
  | cons {x : Str} {pos : Pos} {b : String} {es : List Expr} {bs : List String} (h : PE X (.Name x pos) (tC (.ty b))) (hs : starEach (.Name x pos :: es) X.env = (false, eval (.Name x pos) X.env) :: starEach es X.env) (t : TyNames X es bs) : TyNames X (.Name x pos :: es) (b :: bs)
theorem tyNames_pa : ∀ {es : List Expr} {bs : List String}, TyNames X es bs → PA X es (fun _ H Q => Q (bs.map V.ty) H)
  | _, _, .nil => PA.cons pa_nil fun σ H Q h => h
  | _, _, .cons h hs t => PA.cons (pa_cons h (tyNames_pa t) hs) fun σ H Q q => q
theorem kitAny_is {a : String} (ha : a ∈ kinds) : ∀ {bs : List String} {r : Bool}, isAny a bs = some r → PySem.W.kitAny K (.type a) (bs.map Value.type) = some r
  | [], r, h => by cases h; rfl
  | b :: bs, r, h => by
    unfold isAny at h
    split at h
    · rename_i hb
      obtain ⟨c, e1, h⟩ := bind_some h
      obtain ⟨d, e2, h⟩ := bind_some h
      cases h
      have q := kit_ty (K := K) ((isB_kit a ha b hb).trans e1)
      have ih := kitAny_is ha e2
      exact kitAny_cons q (fun z => by subst z; rw [Bool.false_or]; exact ih) (fun z => by subst z; rfl)
    · cases h
theorem tys_paired : ∀ bs : List String, Paired ClsV (bs.map V.ty) (bs.map Value.type)
  | [] => .nil
  | b :: bs => .cons (.ty b) (tys_paired bs)
theorem me_isiT {e : Expr} {es : List Expr} {bs : List String} {m : Em} {p pos tpos : Pos} {k : Nat} (hg : Gl X "isinstance") (hm : X.mg "isinstance" = none) (he : ME X e m) (ht : TyNames X es bs) (hl : bs.length ≤ 1000000 := by decide)
    (hs : starEach [e, .Tuple es k tpos] X.env = (false, eval e X.env) :: starEach [.Tuple es k tpos] X.env := by rfl) (hs2 : starEach [.Tuple es k tpos] X.env = (false, eval (.Tuple es k tpos) X.env) :: starEach [] X.env := by rfl)
    (hpl : (backTo pos (starEach [.Tuple es k tpos] X.env)).any (·.1) = false := by rfl) :
    ME X (.Call (.Name "isinstance" p) [e, .Tuple es k tpos] [] pos) (misiT bs m) :=
  PE.cons (pe_callB call_isiT hg hm (by decide +kernel) (pa_cons he (pa_cons (pe_tup (tyNames_pa ht)) pa_nil hs2) hs) (by decide) (by decide) hs hpl) fun σ H Q ⟨F, μ, ρ, S, w, S', rs, rst, h, k⟩ => by
    obtain ⟨⟨w1, S1⟩, e1, h⟩ := bind_some h
    obtain ⟨a, e2, h⟩ := bind_some h
    obtain ⟨r, e3, h⟩ := bind_some h
    cases h
    refine ⟨F, μ, ρ, S, w1, S1, rs, rst, e1, fun μ1 v H1 g1 q1 => ?_⟩
    refine ⟨Nat.le_of_lt (by rw [List.length_map]; exact lim_line hl), fun t ht => ?_⟩
    have f : Fr H1 (upd H1 t (.tup (bs.map V.ty))) := Fr.upd ht
    have g2 := f.gs g1.rs
    refine ⟨v, t, _, _, _, r, rfl, upd_same, tys_paired bs, tyX_of g2.rs e2 (q1.mono g2.go g2.pre), kitAny_is (tyW_kind e2) e3, k μ1 _ _ (g1.trans g2) (dbl.mpr rfl)⟩
/-! ### methods of lists that change them -/
def MtOk (K : PySem.W.Frag) (r : V → List V → Hp → VK → Prop) (f : List W → List W → Option (W × List W)) : Prop :=
  ∀ (F : Addr → Prop) (μ : List Addr) (S : Sto) (H : Hp) (a : Addr) (ws as : List W) (xs vs : List V) (w : W) (ws' : List W) (Q : VK), RS K F μ S H → H a = some (.lst xs) → RepWs K μ (NF F μ S) H ws xs → RepWs K μ (NF F μ S) H as vs → f ws as = some (w, ws') →
    (∀ v xs', RepW K μ (NF F μ S) H w v → RepWs K μ (NF F μ S) H ws' xs' → Q v (upd H a (.lst xs'))) → r (.ref a) vs H Q
def mmeth (f : List W → List W → Option (W × List W)) (mo : Em) (ms : Am) : Em := fun ρ S => (mo ρ S).bind fun p => match p.1 with
  | .ref k => (lstOf p.2 k).bind fun _ => (ms ρ p.2).bind fun q => (lstOf q.2 k).bind fun ws => (f ws q.1).bind fun r => some (r.1, q.2.set k (.lst r.2))
  | _ => none
theorem mmeth_read {r : V → List V → Hp → VK → Prop} {f : List W → List W → Option (W × List W)} {mo : Em} {ms : Am} {σ : L2.St} {H : Hp} {Q : VK} (hf : MtOk K r f) (h : LE K (mmeth f mo ms) σ H Q) : LE K mo σ H fun x H1 => tyV K "list" x H1 ∧ LA K ms σ H1 fun xs H2 => r x xs H2 Q := by
  obtain ⟨F, μ, ρ, S, w, S', rs, rst, h, k⟩ := h
  obtain ⟨⟨w1, S1⟩, e1, h⟩ := bind_some h
  refine ⟨F, μ, ρ, S, w1, S1, rs, rst, e1, fun μ1 v H1 g1 q1 => ?_⟩
  cases w1 with
  | ref kk =>
    obtain ⟨ws0, e2, h⟩ := bind_some (show (lstOf S1 kk).bind _ = some (w, S') from h)
    obtain ⟨⟨as, S2⟩, e3, h⟩ := bind_some h
    obtain ⟨ws, e4, h⟩ := bind_some h
    obtain ⟨⟨w', ws'⟩, e5, h⟩ := bind_some h
    cases h
    obtain ⟨a, h1, rfl⟩ := q1
    obtain ⟨xs0, h2, _⟩ := g1.rs.at_ kk a _ h1 (lstOf_some e2)
    refine ⟨.inl ⟨rfl, _, SqL.of h2⟩, F, μ1, ρ, S1, as, S2, g1.rs, rst.mono g1.go g1.pre, e3, fun μ2 vs H2 g2 q2 => ?_⟩
    have h3 : μ2[kk]? = some a := by
      obtain ⟨ν, rfl⟩ := g2.pre
      rw [List.getElem?_append_left (List.getElem?_eq_some_iff.mp h1).1]; exact h1
    have e4' := lstOf_some e4
    obtain ⟨xs, h4, h5⟩ := g2.rs.at_ kk a _ h3 e4'
    refine hf F μ2 S2 H2 a ws as xs vs _ ws' Q g2.rs h4 h5 q2 e5 fun v' xs' r1 r2 => ?_
    have g3 := Gs.write (o := .lst xs') (c' := .lst ws') g2.rs h3 e4' (fun z => nomatch z) (fun z => nomatch z) fun {N'} gg => ⟨xs', upd_same, r2.mono gg ⟨[], by simp⟩⟩
    exact k μ2 v' _ ((g1.trans g2).trans g3) (r1.mono g3.go g3.pre)
  | d _ => cases h
  | op _ => cases h
def tAppend : List W → List W → Option (W × List W)
  | ws, [x] => if ws.length ≤ 1000000 then some (.d .non, ws ++ [x]) else none
  | _, _ => none
theorem append_ok : MtOk K rAppend tAppend := fun F μ S H a ws as xs vs w ws' Q rs hH h1 h2 h k => by
  unfold tAppend at h
  split at h
  · split at h
    · rename_i hl
      cases h
      obtain ⟨v, rfl, q⟩ := rep1 h2
      exact ⟨a, xs, v, rfl, rfl, hH, lim_line (by rw [← h1.length]; exact hl), k _ _ (dnon.mpr rfl) (h1.append (.cons q .nil))⟩
    · cases h
  · cases h
def tPop : List W → List W → Option (W × List W)
  | ws, [] => ws[ws.length - 1]?.bind fun w => some (w, ws.dropLast)
  | _, _ => none
theorem pairedLen {α β : Type} {R : α → β → Prop} {a : List α} {b : List β} (h : Paired R a b) : a.length = b.length := Paired.length h
theorem pop_ok : MtOk K rPop tPop := fun F μ S H a ws as xs vs w ws' Q rs hH h1 h2 h k => by
  unfold tPop at h
  split at h
  · obtain ⟨w0, e1, h⟩ := bind_some h
    cases h
    cases h2
    obtain ⟨v, e2, q⟩ := h1.get e1
    refine ⟨a, xs, v, rfl, rfl, hH, by rw [← h1.length]; exact e2, k _ _ q ?_⟩
    rw [List.dropLast_eq_take, List.dropLast_eq_take, h1.length]
    exact pairedTake _ h1
  · cases h
def tPopAt : List W → List W → Option (W × List W)
  | ws, [.d (.int i)] => if 0 ≤ i ∧ i < ws.length ∧ ws.length ≤ 1000000 then ws[i.toNat]?.bind fun w => some (w, ws.eraseIdx i.toNat) else none
  | _, _ => none
theorem pairedErase {α β : Type} {R : α → β → Prop} : ∀ {a : List α} {b : List β} (n : Nat), Paired R a b → Paired R (a.eraseIdx n) (b.eraseIdx n)
  | _, _, _, .nil => by simp; exact .nil
  | _, _, 0, .cons _ t => t
  | _, _, n + 1, .cons r t => .cons r (pairedErase n t)
theorem popAt_ok : MtOk K rPopAt tPopAt := fun F μ S H a ws as xs vs w ws' Q rs hH h1 h2 h k => by
  unfold tPopAt at h
  split at h
  · rename_i i
    split at h
    · rename_i hl
      obtain ⟨w0, e1, h⟩ := bind_some h
      cases h
      obtain ⟨v, rfl, q⟩ := rep1 h2
      cases dint.mp q
      obtain ⟨u, e2, q'⟩ := h1.get e1
      have l1 := h1.length
      refine ⟨a, xs, i, i.toNat, u, rfl, rfl, hH, by omega, by omega, ?_, e2, k _ _ q' (pairedErase _ h1)⟩
      exact StrLaws.seqIndex_nonneg hl.1 (by omega)
    · cases h
  · cases h
def tReverse : List W → List W → Option (W × List W)
  | ws, [] => some (.d .non, ws.reverse)
  | _, _ => none
theorem pairedRev {α β : Type} {R : α → β → Prop} : ∀ {a : List α} {b : List β}, Paired R a b → Paired R a.reverse b.reverse
  | _, _, .nil => .nil
  | _, _, .cons r t => by
    rw [List.reverse_cons, List.reverse_cons]
    exact pairedAppend (pairedRev t) (.cons r .nil)
theorem reverse_ok : MtOk K rReverse tReverse := fun F μ S H a ws as xs vs w ws' Q rs hH h1 h2 h k => by
  unfold tReverse at h
  split at h
  · cases h
    cases h2
    exact ⟨a, xs, rfl, rfl, hH, k _ _ (dnon.mpr rfl) (pairedRev h1)⟩
  · cases h
section
variable {o e : Expr} {es : List Expr} {mo : Em} {ms : Am} {name : Str} {apos cpos : Pos} {id : String} {r : V → List V → Hp → VK → Prop} {f : List W → List W → Option (W × List W)}
theorem LA_nil {σ : L2.St} {H : Hp} {R : List V → Hp → Prop} (h : LA K anil σ H R) : R [] H := by
  obtain ⟨F, μ, ρ, S, ws, S', rs, rst, h, k⟩ := h
  cases h
  exact k μ [] H (Gs.refl rs) .nil
theorem me_meth0 (hf : MtOk X.K r f) (slot : PySem.Slot "list" name id) (hty : typeOf (.builtin id) = pure (.type "method_descriptor")) (hm : MtR X id r) (ho : ME X o mo)
    (hbase : attributeBase o name X.env (eval o X.env) = eval o X.env := by rfl) (hline : (apos.endLine == cpos.line) = true := by rfl) : ME X (.Call (.Attribute o name apos) [] [] cpos) (mmeth f mo anil) :=
  PE.cons (pe_bm0 PySem.F.plainAttrs_list slot hty hm ho hbase hline) fun σ H Q h => (mmeth_read hf h).imp fun v H1 ⟨t, q⟩ => ⟨t, LA_nil q⟩
theorem me_meth (hf : MtOk X.K r f) (slot : PySem.Slot "list" name id) (hty : typeOf (.builtin id) = pure (.type "method_descriptor")) (hm : MtR X id r) (ho : ME X o mo) (ha : MA X (e :: es) ms)
    (hbase : attributeBase o name X.env (eval o X.env) = eval o X.env := by rfl)
    (hfew : ((backTo cpos (starEach (e :: es) X.env)).all (fun x => !x.1) && (backToKw cpos (keywordEach [] X.env)).all (fun x => x.1.isSome)
      && decide ((e :: es).length + ([] : List Keyword).length + (if ([] : List Keyword).isEmpty then 0 else 1) < 30)) = true := by rfl)
    (hline : (apos.endLine == cpos.line) = true := by rfl) (hs : starEach (e :: es) X.env = (false, eval e X.env) :: starEach es X.env := by rfl) (hplain : (backTo cpos (starEach es X.env)).any (·.1) = false := by rfl) : ME X (.Call (.Attribute o name apos) (e :: es) [] cpos) (mmeth f mo ms) :=
  PE.cons (pe_bm PySem.F.plainAttrs_list slot hty hm ho ha hbase hfew hline hs hplain) fun σ H Q h => mmeth_read hf h
end
/-! ### o[i] = e -/
def bsub (m mo mi : Em) : Bm := fun ρ S => (m ρ S).bind fun p => (mo ρ p.2).bind fun q => (mi ρ q.2).bind fun r => match q.1, r.1 with
  | .ref k, .d (.int i) => (lstOf r.2 k).bind fun ws => (ixN ws.length i).bind fun j => some (.nx ρ (r.2.set k (.lst (ws.set j p.1))))
  | _, _ => none
theorem pairedSet {α β : Type} {R : α → β → Prop} {x : α} {y : β} (h : R x y) : ∀ {a : List α} {b : List β} (n : Nat), Paired R a b → Paired R (a.set n x) (b.set n y)
  | _, _, _, .nil => .nil
  | _, _, 0, .cons _ t => .cons h t
  | _, _, n + 1, .cons r t => .cons r (pairedSet h n t)
theorem ms_sub {o i e : Expr} {m mo mi : Em} {pos tpos : Pos} (he : ME X e m) (ho : ME X o mo) (hi : ME X i mi)
    (ha : ∀ v, assign (.Subscript o i tpos) X.env v = (do
      let ov ← holding [v] (eval o X.env)
      let iv ← holding [v, ov] (eval i X.env)
      standAt tpos
      holding [v, ov, iv] (setItem ov iv v)
      release [v, ov, iv] []) := by intro _; rfl)
    (hs : swapsWithSole [.Subscript o i tpos] e pos.line X.env = pure false := by rfl) (hw : swappedStores [.Subscript o i tpos] e X.env = pure none := by rfl)
    (h1 : (assignEach [.Subscript o i tpos] X.env).map (·.2) = [assign (.Subscript o i tpos) X.env] := by rfl) :
    MS X (.Assign [.Subscript o i tpos] e pos) (bsub m mo mi) := PS.cons (ps_asg he (pg_sub ho hi set_list ha) hs hw h1) fun D σ H ⟨F, μ, ρ, S, oo, rs, rst, h, k⟩ => by
  obtain ⟨⟨w1, S1⟩, e1, h⟩ := bind_some h
  obtain ⟨⟨w2, S2⟩, e2, h⟩ := bind_some h
  obtain ⟨⟨w3, S3⟩, e3, h⟩ := bind_some h
  refine ⟨F, μ, ρ, S, w1, S1, rs, rst, e1, fun μ1 v1 H1 g1 q1 => ⟨F, μ1, ρ, S1, w2, S2, g1.rs, rst.mono g1.go g1.pre, e2, fun μ2 v2 H2 g2 q2 => ⟨F, μ2, ρ, S2, w3, S3, g2.rs, (rst.mono g1.go g1.pre).mono g2.go g2.pre, e3, fun μ3 v3 H3 g3 q3 => ?_⟩⟩⟩
  have g12 := g1.trans g2
  have g13 := g12.trans g3
  have g23 := g2.trans g3
  cases w2 with
  | ref kk =>
    cases w3 with
    | d x =>
      cases x with
      | int j =>
        obtain ⟨ws, e4, h⟩ := bind_some (show (lstOf S3 kk).bind _ = some oo from h)
        obtain ⟨jj, e5, h⟩ := bind_some h
        cases h
        cases dint.mp q3
        obtain ⟨a, h2, rfl⟩ := q2
        have h3 : μ3[kk]? = some a := by
          obtain ⟨ν, rfl⟩ := g3.pre
          rw [List.getElem?_append_left (List.getElem?_eq_some_iff.mp h2).1]; exact h2
        have e4' := lstOf_some e4
        obtain ⟨xs, h4, h5⟩ := g3.rs.at_ kk a _ h3 e4'
        have q1' : RepW X.K μ3 (NF F μ3 S3) H3 w1 v1 := q1.mono g23.go g23.pre
        refine ⟨a, xs, j, jj, rfl, rfl, h4, by rw [← h5.length]; exact e5, ?_⟩
        have g4 := Gs.write (o := .lst (xs.set jj v1)) (c' := .lst (ws.set jj w1)) g3.rs h3 e4' (fun z => nomatch z) (fun z => nomatch z) fun {N'} gg => ⟨_, upd_same, RepWs.mono gg ⟨[], by simp⟩ (pairedSet q1' jj h5)⟩
        have g14 := g13.trans g4
        exact k μ3 σ _ g14 (rst.mono g14.go g14.pre)
      | _ => cases h
    | _ => cases h
  | _ => cases h
/-! ### ranges as lists and tuples -/
abbrev Pm := Rho → Sto → Option ((Int × Int) × Sto)
def LP (K : PySem.W.Frag) (m : Pm) : L2.St → Hp → (Int → Int → Hp → Prop) → Prop := fun σ H Q => ∃ (F : Addr → Prop) (μ : List Addr) (ρ : Rho) (S : Sto) (p : Int × Int) (S' : Sto), RS K F μ S H ∧ RSt K μ (NF F μ S) H σ ρ ∧ m ρ S = some (p, S') ∧
  ∀ μ' H', Gs K F μ S H μ' S' H' → Q p.1 p.2 H'
theorem PRg.cons {e : Expr} {t t' : L2.St → Hp → (Int → Int → Hp → Prop) → Prop} (h : PRg X e t) (f : ∀ σ H Q, t' σ H Q → t σ H Q) : PRg X e t' := fun pins s σ H Q I q => h pins s σ H Q I (f _ _ _ q)
def prg1 (m : Em) : Pm := fun ρ S => (m ρ S).bind fun p => match p.1 with
  | .d (.int j) => some ((0, j), p.2)
  | _ => none
def prg2 (m m' : Em) : Pm := fun ρ S => (m ρ S).bind fun p => (m' ρ p.2).bind fun q => match p.1, q.1 with
  | .d (.int i), .d (.int j) => some ((i, j), q.2)
  | _, _ => none
def rgC (a b : Int) : Bool := decide (a.natAbs ≤ 2000000) && decide (b.natAbs ≤ 2000000) && decide ((b - a).toNat ≤ 1000000)
theorem rgC_ok {a b : Int} (h : rgC a b = true) : RgOk a b := by
  unfold rgC at h
  simp only [Bool.and_eq_true, decide_eq_true_eq] at h
  exact ⟨by omega, by omega, by omega, by omega, Nat.le_trans h.2 (by decide)⟩
def mlrg (m : Pm) : Am := fun ρ S => (m ρ S).bind fun p => if rgC p.1.1 p.1.2 = true then some (rngW p.1.1 (p.1.2 - p.1.1).toNat, p.2) else none
def mtrg (m : Pm) : Em := fun ρ S => (m ρ S).bind fun p => if rgC p.1.1 p.1.2 = true then some (.d (.tup ((List.range (p.1.2 - p.1.1).toNat).map fun i => .int (p.1.1 + (i : Nat)))), p.2) else none
theorem rng_rep {a : Int} : ∀ l : List Nat, RepWs K μ N H (l.map fun i => W.d (.int (a + (i : Nat)))) (l.map fun i => V.int (a + (i : Nat)))
  | [] => .nil
  | x :: r => .cons (dint.mpr rfl) (rng_rep r)
theorem rng_repD {a : Int} : ∀ l : List Nat, RepDs K N H (l.map fun i => D.int (a + (i : Nat))) (l.map fun i => V.int (a + (i : Nat)))
  | [] => by rw [List.map_nil, List.map_nil, RepDs]
  | x :: r => by rw [List.map_cons, List.map_cons, RepDs]; exact ⟨_, _, rfl, by rw [RepD], rng_repD r⟩
section
variable {a b e : Expr} {m m' : Em} {mp : Pm} {p pos : Pos}
theorem mp_1 (hg : Gl X "range") (hm : X.mg "range" = none) (ha : ME X a m) (na : starEach [a] X.env = (false, eval a X.env) :: starEach [] X.env := by rfl) : PRg X (.Call (.Name "range" p) [a] [] pos) (LP X.K (prg1 m)) :=
  PRg.cons (prg_1 hg hm ha na) fun σ H Q ⟨F, μ, ρ, S, pp, S', rs, rst, h, k⟩ => by
    obtain ⟨⟨w, S1⟩, e1, h⟩ := bind_some h
    refine ⟨F, μ, ρ, S, w, S1, rs, rst, e1, fun μ1 v H1 g q => ?_⟩
    cases w with
    | d x =>
      cases x with
      | int j => cases h; exact ⟨j, dint.mp q, k μ1 H1 g⟩
      | _ => cases h
    | _ => cases h
theorem mp_2 (hg : Gl X "range") (hm : X.mg "range" = none) (ha : ME X a m) (hb : ME X b m') (na : starEach [a, b] X.env = (false, eval a X.env) :: starEach [b] X.env := by rfl) (nb : starEach [b] X.env = (false, eval b X.env) :: starEach [] X.env := by rfl) (hpl : (backTo pos (starEach [b] X.env)).any (·.1) = false := by rfl) : PRg X (.Call (.Name "range" p) [a, b] [] pos) (LP X.K (prg2 m m')) :=
  PRg.cons (prg_2 hg hm ha hb na nb (hp := hpl)) fun σ H Q ⟨F, μ, ρ, S, pp, S', rs, rst, h, k⟩ => by
    obtain ⟨⟨w, S1⟩, e1, h⟩ := bind_some h
    obtain ⟨⟨w', S2⟩, e2, h⟩ := bind_some h
    refine ⟨F, μ, ρ, S, w, S1, rs, rst, e1, fun μ1 v H1 g q => ⟨F, μ1, ρ, S1, w', S2, g.rs, rst.mono g.go g.pre, e2, fun μ2 v2 H2 g2 q2 => ?_⟩⟩
    cases w with
    | d x =>
      cases x with
      | int i =>
        cases w' with
        | d y =>
          cases y with
          | int j => cases h; exact ⟨i, j, dint.mp q, dint.mp q2, k μ2 H2 (g.trans g2)⟩
          | _ => cases h
        | _ => cases h
      | _ => cases h
    | _ => cases h
theorem mf_listRg (hc : X.calm = true) (hg : Gl X "list") (hm : X.mg "list" = none) (he : PRg X e (LP X.K mp)) (na : starEach [e] X.env = (false, eval e X.env) :: starEach [] X.env := by rfl) : MF X (.Call (.Name "list" p) [e] [] pos) (mlrg mp) :=
  PE.cons (pe_listRg hc hg hm he na) fun σ H Q ⟨F, μ, ρ, S, ws, S', rs, rst, h, k⟩ => by
    obtain ⟨⟨pp, S1⟩, e1, h⟩ := bind_some h
    split at h
    · rename_i hc
      cases h
      exact ⟨F, μ, ρ, S, pp, S1, rs, rst, e1, fun μ1 H1 g => ⟨rgC_ok hc, fun q hq => k μ1 H1 q _ g hq (rng_rep _)⟩⟩
    · cases h
theorem me_tupRg (hc : X.calm = true) (hg : Gl X "tuple") (hm : X.mg "tuple" = none) (he : PRg X e (LP X.K mp)) (na : starEach [e] X.env = (false, eval e X.env) :: starEach [] X.env := by rfl) : ME X (.Call (.Name "tuple" p) [e] [] pos) (mtrg mp) :=
  PE.cons (pe_tupRg hc hg hm he na) fun σ H Q ⟨F, μ, ρ, S, ws, S', rs, rst, h, k⟩ => by
    obtain ⟨⟨pp, S1⟩, e1, h⟩ := bind_some h
    split at h
    · rename_i hc
      cases h
      exact ⟨F, μ, ρ, S, pp, S1, rs, rst, e1, fun μ1 H1 g => ⟨rgC_ok hc, fun q hq => k μ1 _ _ (g.trans ((Fr.upd hq).gs g.rs)) (dtup.mpr ⟨q, _, rfl, .inl (.inl upd_same), rng_repD _⟩)⟩⟩
    · cases h
end
end
end GM

set_option Elab.async false
set_option linter.all false
set_option maxRecDepth 100000
set_option maxHeartbeats 4000000
set_option autoImplicit false
namespace GM
open PySem L2
/-! ### what the printed derivations use -/
structure Bl (mg : Str → Option Value) : Prop where
  range : mg "range" = none
  len : mg "len" = none
  int : mg "int" = none
  bool : mg "bool" = none
  str : mg "str" = none
  tuple : mg "tuple" = none
  list : mg "list" = none
  set : mg "set" = none
  max : mg "max" = none
  min : mg "min" = none
  sum : mg "sum" = none
  abs : mg "abs" = none
  all : mg "all" = none
  any : mg "any" = none
  sorted : mg "sorted" = none
  isinstance : mg "isinstance" = none
  enumerate : mg "enumerate" = none
  zip : mg "zip" = none
  reversed : mg "reversed" = none
/-- a def as it stands behind the top -/
structure DefF (K : PySem.W.Frag) (mg : Str → Option Value) (x : Str) (st : Stmt) (ps : List Str) : Prop where
  ex : ∃ (f : Addr) (fd : FuncData), Fun K x x st f fd ∧ mg x = some (.ref f) ∧ Binds K fd ps []
section
variable {P : Program} {w : World} {K : PySem.W.Frag} {mg : Str → Option Value} {base : Heap}
theorem mk_def {x : Str} {st : Stmt} {N ps : List Str} {k : Nat} {b : Bm} (D : DefF K mg x st ps) (sc : FnScope N ps (defScope st))
    (hb : ∀ (f : Addr) (cdv : Value) (A : Around) (outer : List Env) (s : Shared) (H : Hp) (E : XK), Room k (cxOf CX0 P w K mg base N x (defScope st) f cdv A outer s H E).nox.A → MSs (cxOf CX0 P w K mg base N x (defScope st) f cdv A outer s H E).nox (defBody st) b) :
    FnM P w K mg base (k + 1) x (runDef ps.length N.length b) := by
  obtain ⟨f, fd, F, g, bd⟩ := D.ex
  exact mk_fn F g bd sc (hb f)
end
section
variable {X : Cx}
theorem mev (i : Nat) {x : Str} {pos : Pos} (hN : X.N[i]? = some x := by rfl) (hv : Vis X.env.scope x := by first | exact Or.inl rfl | exact Or.inr (Or.inl rfl) | exact Or.inr (Or.inr rfl)) (hd : (x == ("__debug__" : Str)) = false := by decide) (hcd : (x == ("__classdict__" : Str)) = false := by decide) : ME X (.Name x pos) (mv i) := me_var hN hv hd hcd
theorem mc_len {e : Expr} {es : List Expr} {ms : Am} {p pos : Pos} (B : Bl X.mg) (hc : X.calm = true) (ha : MA X (e :: es) ms) (hg : Gl X "len" := by rfl)
    (he : starEach (e :: es) X.env = (false, eval e X.env) :: starEach es X.env := by rfl) (hpl : (backTo pos (starEach es X.env)).any (·.1) = false := by rfl) : ME X (.Call (.Name "len" p) (e :: es) [] pos) (prim fLen ms) :=
  me_callB len_ok call_len_seq hg B.len (by decide +kernel) ha (by decide) (by decide) he hpl
theorem mc_int {e : Expr} {es : List Expr} {ms : Am} {p pos : Pos} (B : Bl X.mg) (hc : X.calm = true) (ha : MA X (e :: es) ms) (hg : Gl X "int" := by rfl)
    (he : starEach (e :: es) X.env = (false, eval e X.env) :: starEach es X.env := by rfl) (hpl : (backTo pos (starEach es X.env)).any (·.1) = false := by rfl) : ME X (.Call (.Name "int" p) (e :: es) [] pos) (prim fInt ms) :=
  me_callTy int_ok call_int1 hg B.int (by decide +kernel) ha (by decide) (by decide) he hpl
theorem mc_abs {e : Expr} {es : List Expr} {ms : Am} {p pos : Pos} (B : Bl X.mg) (hc : X.calm = true) (ha : MA X (e :: es) ms) (hg : Gl X "abs" := by rfl)
    (he : starEach (e :: es) X.env = (false, eval e X.env) :: starEach es X.env := by rfl) (hpl : (backTo pos (starEach es X.env)).any (·.1) = false := by rfl) : ME X (.Call (.Name "abs" p) (e :: es) [] pos) (prim fAbs ms) :=
  me_callB abs_ok call_abs hg B.abs (by decide +kernel) ha (by decide) (by decide) he hpl
theorem mc_max2 {e : Expr} {es : List Expr} {ms : Am} {p pos : Pos} (B : Bl X.mg) (hc : X.calm = true) (ha : MA X (e :: es) ms) (hg : Gl X "max" := by rfl)
    (he : starEach (e :: es) X.env = (false, eval e X.env) :: starEach es X.env := by rfl) (hpl : (backTo pos (starEach es X.env)).any (·.1) = false := by rfl) : ME X (.Call (.Name "max" p) (e :: es) [] pos) (prim fMax2 ms) :=
  me_callB max2_ok (call_max2 hc) hg B.max (by decide +kernel) ha (by decide) (by decide) he hpl
theorem mc_min2 {e : Expr} {es : List Expr} {ms : Am} {p pos : Pos} (B : Bl X.mg) (hc : X.calm = true) (ha : MA X (e :: es) ms) (hg : Gl X "min" := by rfl)
    (he : starEach (e :: es) X.env = (false, eval e X.env) :: starEach es X.env := by rfl) (hpl : (backTo pos (starEach es X.env)).any (·.1) = false := by rfl) : ME X (.Call (.Name "min" p) (e :: es) [] pos) (prim fMin2 ms) :=
  me_callB min2_ok (call_min2 hc) hg B.min (by decide +kernel) ha (by decide) (by decide) he hpl
theorem mc_maxL {e : Expr} {es : List Expr} {ms : Am} {p pos : Pos} (B : Bl X.mg) (hc : X.calm = true) (ha : MA X (e :: es) ms) (hg : Gl X "max" := by rfl)
    (he : starEach (e :: es) X.env = (false, eval e X.env) :: starEach es X.env := by rfl) (hpl : (backTo pos (starEach es X.env)).any (·.1) = false := by rfl) : ME X (.Call (.Name "max" p) (e :: es) [] pos) (prim fMaxL ms) :=
  me_callB maxL_ok (cr_max hc) hg B.max (by decide +kernel) ha (by decide) (by decide) he hpl
theorem mc_minL {e : Expr} {es : List Expr} {ms : Am} {p pos : Pos} (B : Bl X.mg) (hc : X.calm = true) (ha : MA X (e :: es) ms) (hg : Gl X "min" := by rfl)
    (he : starEach (e :: es) X.env = (false, eval e X.env) :: starEach es X.env := by rfl) (hpl : (backTo pos (starEach es X.env)).any (·.1) = false := by rfl) : ME X (.Call (.Name "min" p) (e :: es) [] pos) (prim fMinL ms) :=
  me_callB minL_ok (cr_min hc) hg B.min (by decide +kernel) ha (by decide) (by decide) he hpl
theorem mc_sum {e : Expr} {es : List Expr} {ms : Am} {p pos : Pos} (B : Bl X.mg) (hc : X.calm = true) (ha : MA X (e :: es) ms) (hg : Gl X "sum" := by rfl)
    (he : starEach (e :: es) X.env = (false, eval e X.env) :: starEach es X.env := by rfl) (hpl : (backTo pos (starEach es X.env)).any (·.1) = false := by rfl) : ME X (.Call (.Name "sum" p) (e :: es) [] pos) (prim fSum ms) :=
  me_callB sum_ok (cr_sum hc) hg B.sum (by decide +kernel) ha (by decide) (by decide) he hpl
theorem mc_all {e : Expr} {es : List Expr} {ms : Am} {p pos : Pos} (B : Bl X.mg) (hc : X.calm = true) (ha : MA X (e :: es) ms) (hg : Gl X "all" := by rfl)
    (he : starEach (e :: es) X.env = (false, eval e X.env) :: starEach es X.env := by rfl) (hpl : (backTo pos (starEach es X.env)).any (·.1) = false := by rfl) : ME X (.Call (.Name "all" p) (e :: es) [] pos) (prim fAll ms) :=
  me_callB all_ok (cr_all hc) hg B.all (by decide +kernel) ha (by decide) (by decide) he hpl
theorem mc_any {e : Expr} {es : List Expr} {ms : Am} {p pos : Pos} (B : Bl X.mg) (hc : X.calm = true) (ha : MA X (e :: es) ms) (hg : Gl X "any" := by rfl)
    (he : starEach (e :: es) X.env = (false, eval e X.env) :: starEach es X.env := by rfl) (hpl : (backTo pos (starEach es X.env)).any (·.1) = false := by rfl) : ME X (.Call (.Name "any" p) (e :: es) [] pos) (prim fAny ms) :=
  me_callB any_ok (cr_any hc) hg B.any (by decide +kernel) ha (by decide) (by decide) he hpl
theorem mc_sorted {e : Expr} {es : List Expr} {ms : Am} {p pos : Pos} (B : Bl X.mg) (hc : X.calm = true) (ha : MA X (e :: es) ms) (hg : Gl X "sorted" := by rfl)
    (he : starEach (e :: es) X.env = (false, eval e X.env) :: starEach es X.env := by rfl) (hpl : (backTo pos (starEach es X.env)).any (·.1) = false := by rfl) : MF X (.Call (.Name "sorted" p) (e :: es) [] pos) (primF fSorted ms) :=
  mf_callB sorted_ok cr_sortedI hg B.sorted (by decide +kernel) ha (by decide) (by decide) he hpl
theorem mc_tuple {e : Expr} {es : List Expr} {ms : Am} {p pos : Pos} (B : Bl X.mg) (hc : X.calm = true) (ha : MA X (e :: es) ms) (hg : Gl X "tuple" := by rfl)
    (he : starEach (e :: es) X.env = (false, eval e X.env) :: starEach es X.env := by rfl) (hpl : (backTo pos (starEach es X.env)).any (·.1) = false := by rfl) : ME X (.Call (.Name "tuple" p) (e :: es) [] pos) (prim fTuple ms) :=
  me_callTy tuple_ok call_tuple_of hg B.tuple (by decide +kernel) ha (by decide) (by decide) he hpl
theorem mc_list {e : Expr} {es : List Expr} {ms : Am} {p pos : Pos} (B : Bl X.mg) (hc : X.calm = true) (ha : MA X (e :: es) ms) (hg : Gl X "list" := by rfl)
    (he : starEach (e :: es) X.env = (false, eval e X.env) :: starEach es X.env := by rfl) (hpl : (backTo pos (starEach es X.env)).any (·.1) = false := by rfl) : MF X (.Call (.Name "list" p) (e :: es) [] pos) (primF fList ms) :=
  mf_callTy list_ok call_list_of hg B.list (by decide +kernel) ha (by decide) (by decide) he hpl
theorem mc_isi {e : Expr} {es : List Expr} {ms : Am} {p pos : Pos} (B : Bl X.mg) (hc : X.calm = true) (ha : MA X (e :: es) ms) (hg : Gl X "isinstance" := by rfl)
    (he : starEach (e :: es) X.env = (false, eval e X.env) :: starEach es X.env := by rfl) (hpl : (backTo pos (starEach es X.env)).any (·.1) = false := by rfl) : ME X (.Call (.Name "isinstance" p) (e :: es) [] pos) (prim fIsi ms) :=
  me_callB isi_ok call_isi hg B.isinstance (by decide +kernel) ha (by decide) (by decide) he hpl

/-- a built-in type as a value -/
theorem me_ty {x : Str} {T : String} {pos : Pos} (hm : X.mg x = none) (hv : bootBuiltins x = some (.type T)) (hg : Gl X x := by rfl) (hn : x ≠ "__name__" := by decide) (hdb : (x == ("__debug__" : Str)) = false := by decide) : ME X (.Name x pos) (mop (.ty T)) := me_op (pe_bltn hg hm hv rfl hn hdb)
theorem ty_name {x : Str} {T : String} {pos : Pos} {es : List Expr} {bs : List String} (hm : X.mg x = none) (hv : bootBuiltins x = some (.type T)) (t : TyNames X es bs) (hg : Gl X x := by rfl) (hs : starEach (.Name x pos :: es) X.env = (false, eval (.Name x pos) X.env) :: starEach es X.env := by rfl) (hn : x ≠ "__name__" := by decide) (hdb : (x == ("__debug__" : Str)) = false := by decide) : TyNames X (.Name x pos :: es) (T :: bs) := .cons (pe_bltn hg hm hv rfl hn hdb) hs t
section
variable {a b o e : Expr} {ma mb mo : Em} {es : List Expr} {ms : Am} {pos apos cpos : Pos}
theorem mc_lt (ha : ME X a ma) (hb : ME X b mb) : ME X (.Compare a [.Lt] [b] pos) (prim fLt (acons ma (acons mb anil))) := me_cmp i2b_ok op_lt ha hb (nomark _)
theorem mc_le (ha : ME X a ma) (hb : ME X b mb) : ME X (.Compare a [.LtE] [b] pos) (prim fLe (acons ma (acons mb anil))) := me_cmp i2b_ok op_le ha hb (nomark _)
theorem mc_gt (ha : ME X a ma) (hb : ME X b mb) : ME X (.Compare a [.Gt] [b] pos) (prim fGt (acons ma (acons mb anil))) := me_cmp i2b_ok op_gt ha hb (nomark _)
theorem mc_ge (ha : ME X a ma) (hb : ME X b mb) : ME X (.Compare a [.GtE] [b] pos) (prim fGe (acons ma (acons mb anil))) := me_cmp i2b_ok op_ge ha hb (nomark _)
theorem mc_eq {j : Nat} (hr : Room j X.A) (ha : ME X a ma) (hb : ME X b mb) : ME X (.Compare a [.Eq] [b] pos) (prim fEq (acons ma (acons mb anil))) := me_cmp eq_ok (op_eqD hr.units) ha hb (nomark _)
theorem mc_ne {j : Nat} (hr : Room j X.A) (ha : ME X a ma) (hb : ME X b mb) : ME X (.Compare a [.NotEq] [b] pos) (prim fNe (acons ma (acons mb anil))) := me_cmp ne_ok (op_neD hr.units) ha hb (nomark _)
theorem room65 {j : Nat} (hr : Room j X.A) : X.A.units + 65 < cLine := by have := hr.un; omega
theorem mc_in {j : Nat} (hr : Room j X.A) (ha : ME X a ma) (hb : ME X b mb) (hm : behindInMarks .In b = false := by rfl) : ME X (.Compare a [.In] [b] pos) (prim fIn (acons ma (acons mb anil))) := me_cmp in_ok (OpR.or op_in_seq (op_inD (room65 hr))) ha hb hm
theorem mc_notIn {j : Nat} (hr : Room j X.A) (ha : ME X a ma) (hb : ME X b mb) (hm : behindInMarks .NotIn b = false := by rfl) : ME X (.Compare a [.NotIn] [b] pos) (prim fNotIn (acons ma (acons mb anil))) := me_cmp notIn_ok (OpR.or op_notIn_seq (op_notInD (room65 hr))) ha hb hm
theorem mc_is (ha : ME X a ma) (hb : ME X b mb) : ME X (.Compare a [.Is] [b] pos) (prim fIsN (acons ma (acons mb anil))) := me_cmp isN_ok op_isN ha hb (nomark _)
theorem mc_isNot (ha : ME X a ma) (hb : ME X b mb) : ME X (.Compare a [.IsNot] [b] pos) (prim fNotN (acons ma (acons mb anil))) := me_cmp notN_ok op_notN ha hb (nomark _)
theorem mq_lt (ha : ME X a ma) (hb : ME X b mb) : MT X (.Compare a [.Lt] [b] pos) (tst (prim fLt (acons ma (acons mb anil)))) := mt_cmp i2b_ok op_lt ha hb (nomark _)
theorem mq_le (ha : ME X a ma) (hb : ME X b mb) : MT X (.Compare a [.LtE] [b] pos) (tst (prim fLe (acons ma (acons mb anil)))) := mt_cmp i2b_ok op_le ha hb (nomark _)
theorem mq_gt (ha : ME X a ma) (hb : ME X b mb) : MT X (.Compare a [.Gt] [b] pos) (tst (prim fGt (acons ma (acons mb anil)))) := mt_cmp i2b_ok op_gt ha hb (nomark _)
theorem mq_ge (ha : ME X a ma) (hb : ME X b mb) : MT X (.Compare a [.GtE] [b] pos) (tst (prim fGe (acons ma (acons mb anil)))) := mt_cmp i2b_ok op_ge ha hb (nomark _)
theorem mq_eq {j : Nat} (hr : Room j X.A) (ha : ME X a ma) (hb : ME X b mb) : MT X (.Compare a [.Eq] [b] pos) (tst (prim fEq (acons ma (acons mb anil)))) := mt_cmp eq_ok (op_eqD hr.units) ha hb (nomark _)
theorem mq_ne {j : Nat} (hr : Room j X.A) (ha : ME X a ma) (hb : ME X b mb) : MT X (.Compare a [.NotEq] [b] pos) (tst (prim fNe (acons ma (acons mb anil)))) := mt_cmp ne_ok (op_neD hr.units) ha hb (nomark _)
theorem mq_in {j : Nat} (hr : Room j X.A) (ha : ME X a ma) (hb : ME X b mb) (hm : behindInMarks .In b = false := by rfl) : MT X (.Compare a [.In] [b] pos) (tst (prim fIn (acons ma (acons mb anil)))) := mt_cmp in_ok (OpR.or op_in_seq (op_inD (room65 hr))) ha hb hm
theorem mq_notIn {j : Nat} (hr : Room j X.A) (ha : ME X a ma) (hb : ME X b mb) (hm : behindInMarks .NotIn b = false := by rfl) : MT X (.Compare a [.NotIn] [b] pos) (tst (prim fNotIn (acons ma (acons mb anil)))) := mt_cmp notIn_ok (OpR.or op_notIn_seq (op_notInD (room65 hr))) ha hb hm
theorem mq_is (ha : ME X a ma) (hb : ME X b mb) : MT X (.Compare a [.Is] [b] pos) (tst (prim fIsN (acons ma (acons mb anil)))) := mt_cmp isN_ok op_isN ha hb (nomark _)
theorem mq_isNot (ha : ME X a ma) (hb : ME X b mb) : MT X (.Compare a [.IsNot] [b] pos) (tst (prim fNotN (acons ma (acons mb anil)))) := mt_cmp notN_ok op_notN ha hb (nomark _)
theorem mc_pop0 (ho : ME X o mo) (hbase : attributeBase o "pop" X.env (eval o X.env) = eval o X.env := by rfl) (hline : (apos.endLine == cpos.line) = true := by rfl) : ME X (.Call (.Attribute o "pop" apos) [] [] cpos) (mmeth tPop mo anil) := me_meth0 pop_ok PySem.F.slot_list_pop PySem.F.type_list_pop mt_pop ho hbase hline
theorem mc_rev0 (ho : ME X o mo) (hbase : attributeBase o "reverse" X.env (eval o X.env) = eval o X.env := by rfl) (hline : (apos.endLine == cpos.line) = true := by rfl) : ME X (.Call (.Attribute o "reverse" apos) [] [] cpos) (mmeth tReverse mo anil) := me_meth0 reverse_ok PySem.F.slot_list_reverse PySem.F.type_list_reverse mt_reverse ho hbase hline
theorem mc_append (ho : ME X o mo) (ha : MA X (e :: es) ms) (hbase : attributeBase o "append" X.env (eval o X.env) = eval o X.env := by rfl)
    (hfew : ((backTo cpos (starEach (e :: es) X.env)).all (fun x => !x.1) && (backToKw cpos (keywordEach [] X.env)).all (fun x => x.1.isSome)
      && decide ((e :: es).length + ([] : List Keyword).length + (if ([] : List Keyword).isEmpty then 0 else 1) < 30)) = true := by rfl)
    (hline : (apos.endLine == cpos.line) = true := by rfl) (hs : starEach (e :: es) X.env = (false, eval e X.env) :: starEach es X.env := by rfl) (hplain : (backTo cpos (starEach es X.env)).any (·.1) = false := by rfl) :
    ME X (.Call (.Attribute o "append" apos) (e :: es) [] cpos) (mmeth tAppend mo ms) := me_meth append_ok PySem.F.slot_list_append PySem.F.type_list_append mt_append ho ha hbase hfew hline hs hplain
theorem mc_popAt (ho : ME X o mo) (ha : MA X (e :: es) ms) (hbase : attributeBase o "pop" X.env (eval o X.env) = eval o X.env := by rfl)
    (hfew : ((backTo cpos (starEach (e :: es) X.env)).all (fun x => !x.1) && (backToKw cpos (keywordEach [] X.env)).all (fun x => x.1.isSome)
      && decide ((e :: es).length + ([] : List Keyword).length + (if ([] : List Keyword).isEmpty then 0 else 1) < 30)) = true := by rfl)
    (hline : (apos.endLine == cpos.line) = true := by rfl) (hs : starEach (e :: es) X.env = (false, eval e X.env) :: starEach es X.env := by rfl) (hplain : (backTo cpos (starEach es X.env)).any (·.1) = false := by rfl) :
    ME X (.Call (.Attribute o "pop" apos) (e :: es) [] cpos) (mmeth tPopAt mo ms) := me_meth popAt_ok PySem.F.slot_list_pop PySem.F.type_list_pop mt_popAt ho ha hbase hfew hline hs hplain
end
end

/-! ### walking a list or a tuple, whichever it is -/
section
variable {X : Cx} {tg iter : Expr} {me : Em}
theorem pi_any {l : Expr} {tl : TE} (hl : PE X l tl) : PI X tg l (fun σ H R => tl σ H fun x H1 => ∃ a, x = .ref a ∧ (((∃ xs, SqL X.K H1 a xs) ∧ R (Itl X.K a) H1) ∨ ((∃ xs, SqT X.K H1 a xs) ∧ R (Itt X.K a) H1))) := by
  refine ⟨fun pins s σ H R I h => ?_⟩
  refine thn (hl.run pins s σ H _ I h) fun v s1 ⟨x, H1, I1, r1, q1⟩ => ?_
  obtain ⟨a, e, q⟩ := q1
  subst e
  cases r1
  rcases q with ⟨⟨xs, hq⟩, q⟩ | ⟨⟨xs, hq⟩, q⟩
  · obtain ⟨its, rv, p, hz⟩ := I1.list hq
    refine wpAny_pyIter_list p.isList ?_
    refine ⟨s1.heap.objs.size, [s1.heap.objs.size], _, _, H1, rfl, I1.kept (t' := s1.toks) fun b o e => Heap.get?_push_of_some _ e, turn_list a _, ⟨_, Heap.get?_push_size _ rfl, rfl, rfl⟩, fun b hb => ?_, q⟩
    have e : b = s1.heap.objs.size := by simpa using hb
    subst e
    exact I1.fpOk (Nat.le_refl _) (I1.hok.fresh (Nat.le_refl _))
  · obtain ⟨its, rv, p, hz⟩ := I1.tuple hq
    refine wpAny_pyIter_tuple (show s1.heap.IsTuple a its.toArray from p) ?_
    refine ⟨s1.heap.objs.size, [s1.heap.objs.size], _, _, H1, rfl, I1.kept (t' := s1.toks) fun b o e => Heap.get?_push_of_some _ e, turn_tuple a _, ⟨_, Heap.get?_push_size _ rfl, rfl, rfl⟩, fun b hb => ?_, q⟩
    have e : b = s1.heap.objs.size := by simpa using hb
    subst e
    exact I1.fpOk (Nat.le_refl _) (I1.hok.fresh (Nat.le_refl _))
def srcA (S : Sto) : W → Option Src
  | .d (.tup ds) => some (.its (ds.map W.d))
  | .d (.lst ds) => some (.its (ds.map W.d))
  | .d (.scr ds) => some (.its (ds.map W.d))
  | .ref k => (lstOf S k).bind fun _ => some (.cell k)
  | _ => none
theorem itf_ok {K : PySem.W.Frag} {F : Addr → Prop} {μ : List Addr} {S : Sto} {H : Hp} {a : Addr} {vs : List V} {ws : List W} (h1 : FrzAt K H a vs) (h2 : RepWs K μ (NF F μ S) H ws vs) : ItOk K F μ S H (Itl K a) (.its ws) := fun F2 μ2 S2 H2 gz i r hr => by
  obtain ⟨p, _, g, rs⟩ := gz
  cases hr
  have l2 : SqL K H2 a vs := (g.frz h1).sq
  have r2 : RepWs K μ2 (NF F2 μ2 S2) H2 ws vs := h2.mono g p
  cases e : ws[i]? with
  | none => exact ⟨vs, l2, by rw [← r2.length]; exact List.getElem?_eq_none_iff.mp e⟩
  | some w =>
    obtain ⟨v, e1, e2⟩ := r2.get e
    refine ⟨⟨vs, v, l2, e1⟩, fun x H3 ⟨y1, y2⟩ => ?_⟩
    subst y1
    have := y2 vs l2
    rw [e1] at this; cases this
    exact ⟨Fr.refl, e2⟩
theorem mi_any (h : ME X iter me) : MI X tg iter (isrc srcA me) := PI.cons (pi_any h) fun σ H R ⟨F, μ, ρ, S, src, S', rs, rst, h, k⟩ => by
  obtain ⟨⟨w, S1⟩, e1, h⟩ := bind_some h
  obtain ⟨s, e2, h⟩ := bind_some h
  cases h
  refine ⟨F, μ, ρ, S, w, S1, rs, rst, e1, fun μ1 v H1 g q => ?_⟩
  cases w with
  | d x =>
    cases x with
    | lst ds =>
      cases e2
      obtain ⟨a, vs, e, h1, h2⟩ := dlst.mp q
      exact ⟨a, e, .inl ⟨⟨vs, h1.sq⟩, k μ1 _ H1 g (its_ok h1 (rep_map h2))⟩⟩
    | scr ds =>
      cases e2
      have q' : RepD _ _ _ _ _ := q
      rw [RepD] at q'
      obtain ⟨a, vs, e, h1, h2⟩ := q'
      exact ⟨a, e, .inl ⟨⟨vs, h1.sq⟩, k μ1 _ H1 g (itf_ok h1 (rep_map h2))⟩⟩
    | tup ds =>
      cases e2
      obtain ⟨a, vs, e, h1, h2⟩ := dtup.mp q
      exact ⟨a, e, .inr ⟨⟨vs, h1⟩, k μ1 _ H1 g (itt_ok h1 (rep_map h2))⟩⟩
    | _ => cases e2
  | ref kk =>
    obtain ⟨ws, e3, e4⟩ := bind_some (show (lstOf S1 kk).bind (fun _ => some (Src.cell kk)) = some src from e2)
    cases e4
    obtain ⟨a, h1, e⟩ := q
    obtain ⟨vs, h2, h3⟩ := g.rs.at_ kk a _ h1 (lstOf_some e3)
    exact ⟨a, e, .inl ⟨⟨vs, .inl (.inl h2)⟩, k μ1 _ H1 g (cell_ok h1)⟩⟩
  | op _ => cases e2
end
section
variable {X : Cx} {x : Str} {e : Expr} {m : Em} {pos : Pos}
theorem ms_st (i : Nat) {pos' : Pos} (hN : X.N.Nodup) (he : ME X e m) (hi : X.N[i]? = some x := by rfl) (hx : Loc X.env.scope x := by first | exact Or.inl rfl | exact Or.inr rfl) (hs : swapsWith e (some (.Name x pos')) pos.line X.env = pure false := by rfl) (hf : X.fn x = true ∨ X.env.scope.names.lookup x = some .local := by first | exact .inl rfl | exact .inr rfl) :
    MS X (.Assign [.Name x pos'] e pos) (bset i m) := ms_set hN hi hx he hs hf
theorem mgn (i : Nat) (hN : X.N.Nodup) (hi : X.N[i]? = some x := by rfl) (hx : Loc X.env.scope x := by first | exact Or.inl rfl | exact Or.inr rfl) (hf : X.fn x = true ∨ X.env.scope.names.lookup x = some .local := by first | exact .inl rfl | exact .inr rfl) : PG X (.Name x pos) (LG X.K (gnm i) [i]) := mg_name hN hi hx hf
theorem ms_ag (i : Nat) {op : Operator} {f : Int → Int → Int} {pos' : Pos} (hN : X.N.Nodup) (he : ME X e m) (ho : PIp X op (ipI f)) (hi : X.N[i]? = some x := by rfl) (hx : Loc X.env.scope x := by first | exact Or.inl rfl | exact Or.inr rfl) (hf : X.fn x = true ∨ X.env.scope.names.lookup x = some .local := by first | exact .inl rfl | exact .inr rfl) :
    MS X (.AugAssign (.Name x pos') op e pos) (baug i f m) := ms_aug hN hi hx he ho hf
end
/-! ### a op b op c -/
def mchain (f g : Int → Int → Bool) (ma mb mc : Em) : Em := fun ρ S => (ma ρ S).bind fun p => (mb ρ p.2).bind fun q => match p.1, q.1 with
  | .d (.int i), .d (.int j) => if f i j = true then (mc ρ q.2).bind fun r => match r.1 with
    | .d (.int l) => some (.d (.bl (g j l)), r.2)
    | _ => none else some (.d (.bl false), q.2)
  | _, _ => none
section
variable {X : Cx} {a b c : Expr} {ma mb mc : Em} {pos : Pos} {op op' : CmpOp} {f g : Int → Int → Bool}
theorem chain_read {σ : L2.St} {H : Hp} {Q : VK} (h : LE X.K (mchain f g ma mb mc) σ H Q) : tChain (rI0 fun i j => .bl (f i j)) (rI0 fun i j => .bl (g i j)) (LE X.K ma) (LE X.K mb) (LE X.K mc) σ H Q := by
  obtain ⟨F, μ, ρ, S, w, S', rs, rst, h, k⟩ := h
  obtain ⟨⟨w1, S1⟩, e1, h⟩ := bind_some h
  obtain ⟨⟨w2, S2⟩, e2, h⟩ := bind_some h
  refine ⟨F, μ, ρ, S, w1, S1, rs, rst, e1, fun μ1 v1 H1 g1 q1 => ⟨F, μ1, ρ, S1, w2, S2, g1.rs, rst.mono g1.go g1.pre, e2, fun μ2 v2 H2 g2 q2 => ?_⟩⟩
  have g12 := g1.trans g2
  cases w1 with
  | d x =>
    cases x with
    | int i =>
      cases w2 with
      | d y =>
        cases y with
        | int j =>
          cases dint.mp q1
          cases dint.mp q2
          refine ⟨i, j, rfl, rfl, f i j, rfl, ?_⟩
          have h' : (if f i j = true then (mc ρ S2).bind (fun r => match r.1 with | .d (.int l) => some (W.d (.bl (g j l)), r.2) | _ => none) else some (.d (.bl false), S2)) = some (w, S') := h
          split at h'
          · rename_i hf
            rw [if_pos hf]
            obtain ⟨⟨w3, S3⟩, e3, h'⟩ := bind_some h'
            refine ⟨F, μ2, ρ, S2, w3, S3, g2.rs, (rst.mono g1.go g1.pre).mono g2.go g2.pre, e3, fun μ3 v3 H3 g3 q3 => ?_⟩
            cases w3 with
            | d z =>
              cases z with
              | int l =>
                cases h'
                cases dint.mp q3
                exact ⟨j, l, rfl, rfl, k μ3 _ H3 (g12.trans g3) (dbl.mpr rfl)⟩
              | _ => cases h'
            | _ => cases h'
          · rename_i hf
            cases h'
            rw [if_neg hf]
            exact k μ2 _ H2 g12 (dbl.mpr rfl)
        | _ => cases h
      | _ => cases h
    | _ => cases h
  | _ => cases h
theorem me_chain (ho : OpR X (compareOp op) (rI0 fun i j => .bl (f i j))) (ho' : OpR X (compareOp op') (rI0 fun i j => .bl (g i j))) (ha : ME X a ma) (hb : ME X b mb) (hc : ME X c mc) (hm : lastMarks [op, op'] [b, c] = false := by with_unfolding_all rfl) :
    ME X (.Compare a [op, op'] [b, c] pos) (mchain f g ma mb mc) := PE.cons (pe_chain ho ho' ha hb hc hm) fun σ H Q h => chain_read h
theorem mt_chain (ho : OpR X (compareOp op) (rI0 fun i j => .bl (f i j))) (ho' : OpR X (compareOp op') (rI0 fun i j => .bl (g i j))) (ha : ME X a ma) (hb : ME X b mb) (hc : ME X c mc) (hm : lastMarks [op, op'] [b, c] = false := by with_unfolding_all rfl) :
    MT X (.Compare a [op, op'] [b, c] pos) (tst (mchain f g ma mb mc)) := PT.cons (pt_chain ho ho' ha hb hc hm) fun σ H Q ⟨F, μ, ρ, S, b, S', rs, rst, h, k⟩ => by
  obtain ⟨⟨w, S1⟩, e1, h⟩ := bind_some h
  obtain ⟨b', e2, h⟩ := bind_some h
  cases h
  exact chain_read ⟨F, μ, ρ, S, w, S1, rs, rst, e1, fun μ' v H' g q => ⟨b, wbl_rep e2 q, k μ' H' g⟩⟩
end
end GM

set_option Elab.async false
set_option linter.all false
set_option maxRecDepth 100000
set_option maxHeartbeats 4000000
set_option autoImplicit false
namespace GM
open PySem L2
theorem mss_none {X : Cx} {ss : List Stmt} : MSs X ss (fun _ _ => none) := ⟨fun pins s σ H D I q => by
  obtain ⟨F, μ, ρ, S, o, rs, rst, h, k⟩ := q
  cases h⟩
section
variable {P : Program} {w : World} {K : PySem.W.Frag} {mg : Str → Option Value} {base : Heap}
theorem fn_none {x : Str} {st : Stmt} {N ps : List Str} {k : Nat} (D : DefF K mg x st ps) (sc : FnScope N ps (defScope st)) : FnM P w K mg base (k + 1) x (fun _ _ => none) :=
  FnM.imp (mk_def D sc (fun _ _ _ _ _ _ _ _ => mss_none)) fun ws S r h => nomatch h
theorem mk_ok {x : Str} {st : Stmt} {f : Addr} {fd : FuncData} {N ps : List Str} {k : Nat} {b : Bm} (FF : Fun K x x st f fd) (sc : FnScope N ps (defScope st))
    (hb : ∀ (f : Addr) (cdv : Value) (A : Around) (outer : List Env) (s : Shared) (H : Hp) (E : XK), Room k (cxOf CX0 P w K mg base N x (defScope st) f cdv A outer s H E).nox.A → MSs (cxOf CX0 P w K mg base N x (defScope st) f cdv A outer s H E).nox (defBody st) b) :
    FnOk P w K mg base CX0 (k + 1) f fd ps (spM K (runDef ps.length N.length b)) :=
  FF.ok sc (fun vs H Q E h => spM_len h) (fun cdv A outer s H vs Q E hr h => ⟨LS K b, hb f cdv A outer s H E hr, by
    obtain ⟨F, μ, S, ws, r, S', rs, q, h, kk⟩ := h
    unfold runDef at h
    split at h
    · obtain ⟨o, e1, h⟩ := bind_some h
      exact ⟨F, μ, _, S, o, rs, start_rep N q, e1, end_read rs h kk⟩
    · cases h⟩)
theorem defF_mk {h : Heap} {x : Str} {st : Stmt} {ps : List Str} {f : Addr} {oc : Value} {od an : Option Addr} {osl : Array (Option Value)} {kV doc pm cdv ct : Value} (X : K.In h) (G : h.Ns mainGlobals mg) (a : PySem.W.nsIn K mainGlobals x = some (some (.ref f)))
    (l : K.lookup f = some ⟨oc, od, .func (PySem.W.fnOf x x (defArgs st) (defBody st) (defScope st) .none kV doc pm an cdv ct), osl⟩) (c : PySem.W.codeIn K cdv x = true) (k : PySem.W.keepIn K (.ref f) = true)
    (hb : ∀ (kV doc pm : Value) (an : Option Addr) (cdv ct : Value) (us : List Value), us.length = ps.length → bindArgs (PySem.W.fnOf x x (defArgs st) (defBody st) (defScope st) .none kV doc pm an cdv ct) ⟨us, []⟩ = pure (ps.zip us)) : DefF K mg x st ps :=
  ⟨⟨f, _, fun_mk l c k, PySem.W.mg_of X G a, (fun_mk l c k).binds hb⟩⟩
theorem law_end {m : Fm} {H : Hp} {a : Addr} {ns : List Int} (hm : m [.d (.scr (ns.map D.int))] [] = some (.val (.d (.bl true)), [])) (hO : Only H) (hS : SqL K H a (ns.map V.int)) : spM K m [.ref a] H (fun v _ => v = .bl true) fun _ _ _ => False := by
  have rs : RS K (fun _ => False) [] [] H := ⟨rfl, fun j k a c c' h => (by simp at h), fun k a c h => (by simp at h), fun a h => h.elim, fun a h => h.elim⟩
  refine ⟨fun _ => False, [], [], [.d (.scr (ns.map D.int))], .val (.d (.bl true)), [], rs, .cons ?_ .nil, hm, fun v H' g q => dbl.mp q⟩
  show RepD _ _ _ _ _
  rw [RepD]
  refine ⟨a, ns.map V.int, rfl, ?_, ?_⟩
  · rcases hS with (h | ⟨o, h⟩) | h
    · rcases hO a with z | ⟨o, xs, z⟩
      · rw [z] at h; cases h
      · rw [z] at h; cases h
    · exact .inl ⟨o, h⟩
    · exact .inr h
  · clear hS hm
    induction ns with
    | nil => rw [List.map_nil, List.map_nil, RepDs]
    | cons i r ih => rw [List.map_cons, List.map_cons, RepDs]; exact ⟨_, _, rfl, by rw [RepD], ih⟩
end
end GM

set_option Elab.async false
set_option linter.all false
set_option maxRecDepth 100000
set_option maxHeartbeats 4000000
set_option autoImplicit false
namespace GM
open PySem L2
/-- so that simp keeps a proof of the step, and the kernel need not reckon it again -/
theorem nr {α : Sort _} {a b : α} (h : a = b) : a = b := h
/-! ### the mirrors, to be reckoned with simp -/
section
variable {ρ : Rho} {S : Sto}
@[simp] theorem mv_ap {i : Nat} : mv i ρ S = (match ρ[i]? with | some (some w) => some (w, S) | _ => none) := nr rfl
@[simp] theorem mk_ap {x : D} : mk x ρ S = some (.d x, S) := nr rfl
@[simp] theorem mop_ap {x : V} : mop x ρ S = some (.op x, S) := nr rfl
@[simp] theorem anil_ap : anil ρ S = some ([], S) := nr rfl
@[simp] theorem acons_ap {a : Em} {r : Am} : acons a r ρ S = (a ρ S).bind fun p => (r ρ p.2).bind fun q => some (p.1 :: q.1, q.2) := nr rfl
@[simp] theorem prim_ap {f : Sto → List W → Option W} {a : Am} : prim f a ρ S = (a ρ S).bind fun p => (f p.2 p.1).bind fun w => some (w, p.2) := nr rfl
@[simp] theorem primF_ap {f : Sto → List W → Option (List W)} {a : Am} : primF f a ρ S = (a ρ S).bind fun p => (f p.2 p.1).bind fun w => some (w, p.2) := nr rfl
@[simp] theorem thw_ap {a : Am} : thw a ρ S = (a ρ S).bind fun p => some (.ref p.2.length, p.2 ++ [.lst p.1]) := nr rfl
@[simp] theorem frz_ap {a : Am} : frz a ρ S = (a ρ S).bind fun p => (datas p.1).bind fun ds => some (.d (.lst ds), p.2) := nr rfl
@[simp] theorem mif_ap {c : Tm} {a b : Em} : mif c a b ρ S = (c ρ S).bind fun q => if q.1 = true then a ρ q.2 else b ρ q.2 := nr rfl
@[simp] theorem wbl_ap {b : Bool} : wbl (.d (.bl b)) = some b := nr rfl
@[simp] theorem tst_ap {m : Em} : tst m ρ S = (m ρ S).bind fun p => (wbl p.1).bind fun b => some (b, p.2) := nr rfl
@[simp] theorem tand_ap {a b : Tm} : tand a b ρ S = (a ρ S).bind fun q => if q.1 = true then b ρ q.2 else some (false, q.2) := nr rfl
@[simp] theorem tor_ap {a b : Tm} : tor a b ρ S = (a ρ S).bind fun q => if q.1 = true then some (true, q.2) else b ρ q.2 := nr rfl
@[simp] theorem tnot_ap {a : Tm} : tnot a ρ S = (a ρ S).bind fun q => some (!q.1, q.2) := nr rfl
@[simp] theorem mand_ap {a b : Em} : mand a b ρ S = (a ρ S).bind fun p => (wbl p.1).bind fun c => if c = true then b ρ p.2 else some (.d (.bl false), p.2) := nr rfl
@[simp] theorem mor_ap {a b : Em} : mor a b ρ S = (a ρ S).bind fun p => (wbl p.1).bind fun c => if c = true then some (.d (.bl true), p.2) else b ρ p.2 := nr rfl
@[simp] theorem mnot_ap {a : Em} : mnot a ρ S = (a ρ S).bind fun p => (wbl p.1).bind fun c => some (.d (.bl (!c)), p.2) := nr rfl
@[simp] theorem isrc_ap {f : Sto → W → Option Src} {m : Em} : isrc f m ρ S = (m ρ S).bind fun p => (f p.2 p.1).bind fun s => some (s, p.2) := nr rfl
@[simp] theorem iargs_ap {f : Sto → List W → Option Src} {m : Am} : iargs f m ρ S = (m ρ S).bind fun p => (f p.2 p.1).bind fun s => some (s, p.2) := nr rfl
@[simp] theorem bnil_ap : bnil ρ S = some (.nx ρ S) := nr rfl
@[simp] theorem bseq_ap {a b : Bm} : bseq a b ρ S = (a ρ S).bind fun o => match o with
  | .nx ρ1 S1 => b ρ1 S1
  | .ret w S1 => some (.ret w S1)
  | .bk ρ1 S1 => some (.bk ρ1 S1)
  | .ct ρ1 S1 => some (.ct ρ1 S1) := nr rfl
@[simp] theorem bset_ap {i : Nat} {m : Em} : bset i m ρ S = (m ρ S).bind fun p => some (.nx (ρ.set i (some p.1)) p.2) := nr rfl
@[simp] theorem basg_ap {g : Gm} {m : Em} : basg g m ρ S = (m ρ S).bind fun p => (g p.2 p.1 ρ).bind fun ρ1 => some (.nx ρ1 p.2) := nr rfl
@[simp] theorem bret_ap {m : Em} : bret m ρ S = (m ρ S).bind fun p => some (.ret p.1 p.2) := nr rfl
@[simp] theorem bdrop_ap {m : Em} : bdrop m ρ S = (m ρ S).bind fun p => some (.nx ρ p.2) := nr rfl
@[simp] theorem bcond_ap {c : Tm} {a b : Bm} : bcond c a b ρ S = (c ρ S).bind fun q => if q.1 = true then a ρ q.2 else b ρ q.2 := nr rfl
@[simp] theorem bfor_ap {mi : Im} {g : Gm} {b : Bm} : bfor mi g b ρ S = (mi ρ S).bind fun p => floop p.1 g b (srcLen p.1 p.2) 0 ρ p.2 := nr rfl
@[simp] theorem mcomp_ap {mi : Im} {g : Gm} {c : Tm} {e : Em} {vs : List Nat} : mcomp mi g c e vs ρ S = (mi ρ S).bind fun p => (cloop p.1 g c e (mwipe ρ vs) (srcLen p.1 p.2) 0 p.2).bind lim := nr rfl
@[simp] theorem mcomp2_ap {mi mi1 : Im} {g g1 : Gm} {c c1 : Tm} {e : Em} {vs vs1 : List Nat} : mcomp2 mi g c mi1 g1 c1 e vs vs1 ρ S = (mi ρ S).bind fun p => (cloop2 p.1 g c mi1 g1 c1 e (mwipe ρ vs) vs1 (srcLen p.1 p.2) 0 p.2).bind lim := nr rfl
@[simp] theorem mwipe_nil : mwipe ρ [] = ρ := nr rfl
@[simp] theorem mwipe_cons {v : Nat} {vs : List Nat} : mwipe ρ (v :: vs) = (mwipe ρ vs).set v none := nr rfl
@[simp] theorem tyes_ap : tyes ρ S = some (true, S) := nr rfl
@[simp] theorem gnm_ap {i : Nat} {w : W} : gnm i S w ρ = some (ρ.set i (some w)) := nr rfl
@[simp] theorem gnil_ap : gnil S [] ρ = some ρ := nr rfl
@[simp] theorem gcons_ap {g : Gm} {r : Gsm} {w : W} {ws : List W} : gcons g r S (w :: ws) ρ = (g S w ρ).bind fun ρ1 => r S ws ρ1 := nr rfl
@[simp] theorem gtp_ap {n : Nat} {r : Gsm} {ds : List D} : gtp n r S (.d (.tup ds)) ρ = if ds.length = n then r S (ds.map W.d) ρ else none := nr rfl
@[simp] theorem mcall_ap {m : Fm} {a : Am} : mcall m a ρ S = (a ρ S).bind fun p => (m p.1 p.2).bind fun q => (rvW q.1).bind fun w => some (w, q.2) := nr rfl
@[simp] theorem mcallF_ap {m : Fm} {a : Am} : mcallF m a ρ S = (a ρ S).bind fun p => (m p.1 p.2).bind fun q => match q.1 with
  | .new ws => some (ws, q.2)
  | .val _ => none := nr rfl
@[simp] theorem rvW_val {w : W} : rvW (.val w) = some w := nr rfl
@[simp] theorem rvW_new {ws : List W} : rvW (.new ws) = (datas ws).bind fun ds => some (.d (.lst ds)) := nr rfl
@[simp] theorem mmeth_ap {f : List W → List W → Option (W × List W)} {mo : Em} {ms : Am} : mmeth f mo ms ρ S = (mo ρ S).bind fun p => match p.1 with
  | .ref k => (lstOf p.2 k).bind fun _ => (ms ρ p.2).bind fun q => (lstOf q.2 k).bind fun ws => (f ws q.1).bind fun r => some (r.1, q.2.set k (.lst r.2))
  | _ => none := nr rfl
@[simp] theorem bsub_ap {m mo mi : Em} : bsub m mo mi ρ S = (m ρ S).bind fun p => (mo ρ p.2).bind fun q => (mi ρ q.2).bind fun r => match q.1, r.1 with
  | .ref k, .d (.int i) => (lstOf r.2 k).bind fun ws => (ixN ws.length i).bind fun j => some (.nx ρ (r.2.set k (.lst (ws.set j p.1))))
  | _, _ => none := nr rfl
@[simp] theorem misiT_ap {bs : List String} {m : Em} : misiT bs m ρ S = (m ρ S).bind fun p => (tyW p.2 p.1).bind fun a => (isAny a bs).bind fun r => some (.d (.bl r), p.2) := nr rfl
@[simp] theorem msl_ap {f : Sto → W → Option Int → Option Int → Option W} {ma : Em} {ml mh : Om} : msl f ma ml mh ρ S = (ma ρ S).bind fun p => (ml ρ p.2).bind fun q => (mh ρ q.2).bind fun r => (f r.2 p.1 q.1 r.1).bind fun w => some (w, r.2) := nr rfl
@[simp] theorem onone_ap : onone ρ S = some (none, S) := nr rfl
@[simp] theorem osome_ap {m : Em} : osome m ρ S = (m ρ S).bind fun p => match p.1 with
  | .d (.int i) => some (some i, p.2)
  | _ => none := nr rfl
@[simp] theorem prg1_ap {m : Em} : prg1 m ρ S = (m ρ S).bind fun p => match p.1 with
  | .d (.int j) => some (((0 : Int), j), p.2)
  | _ => none := nr rfl
@[simp] theorem mlrg_ap {m : Pm} : mlrg m ρ S = (m ρ S).bind fun p => if rgC p.1.1 p.1.2 = true then some (rngW p.1.1 (p.1.2 - p.1.1).toNat, p.2) else none := nr rfl
@[simp] theorem mtrg_ap {m : Pm} : mtrg m ρ S = (m ρ S).bind fun p => if rgC p.1.1 p.1.2 = true then some (.d (.tup ((List.range (p.1.2 - p.1.1).toNat).map fun i => .int (p.1.1 + (i : Nat)))), p.2) else none := nr rfl
@[simp] theorem prg2_ap {m m' : Em} : prg2 m m' ρ S = (m ρ S).bind fun p => (m' ρ p.2).bind fun q => match p.1, q.1 with
  | .d (.int i), .d (.int j) => some ((i, j), q.2)
  | _, _ => none := nr rfl
@[simp] theorem srcAt_its {ws : List W} {i : Nat} : srcAt (.its ws) S i = some ws[i]? := nr rfl
@[simp] theorem srcLen_its {ws : List W} : srcLen (.its ws) S = ws.length := nr rfl
@[simp] theorem mchain_ap {f g : Int → Int → Bool} {ma mb mc : Em} : mchain f g ma mb mc ρ S = (ma ρ S).bind fun p => (mb ρ p.2).bind fun q => match p.1, q.1 with
  | .d (.int i), .d (.int j) => if f i j = true then (mc ρ q.2).bind fun r => match r.1 with
    | .d (.int l) => some (.d (.bl (g j l)), r.2)
    | _ => none else some (.d (.bl false), q.2)
  | _, _ => none := nr rfl
@[simp] theorem runDef_ap {np nN : Nat} {b : Bm} {ws : List W} : runDef np nN b ws S = if ws.length = np then (b (ws.map some ++ List.replicate (nN - ws.length) none) S).bind (endDef S) else none := nr rfl
theorem endDef_ret {w : W} {S1 : Sto} : endDef S (.ret w S1) = if chk S S1 = true then (retW S.length S1 w).bind fun r => some (r, S1.take S.length) else none := rfl
theorem endDef_nx {S1 : Sto} : endDef S (.nx ρ S1) = if chk S S1 = true then some (.val (.d .non), S1.take S.length) else none := rfl
end
/-! ### iws and data -/
abbrev iws (ns : List Int) : List W := ns.map fun i => W.d (.int i)
abbrev C (ns : List Int) : Cell := .lst (iws ns)
@[simp] theorem datas_map' (ds : List D) : datas (ds.map W.d) = some ds := by
  induction ds with
  | nil => rfl
  | cons d r ih => show (datas (r.map W.d)).bind _ = _; rw [ih]; rfl
theorem datas_fmap {α : Type} (l : List α) (f : α → D) : datas (l.map fun x => W.d (f x)) = some (l.map f) := by
  rw [show (l.map fun x => W.d (f x)) = (l.map f).map W.d by rw [List.map_map]; rfl]
  exact datas_map' _
@[simp] theorem datas_nil : datas [] = some [] := nr rfl
@[simp] theorem datas_cons {d : D} {r : List W} : datas (.d d :: r) = (datas r).bind fun ds => some (d :: ds) := nr rfl
@[simp] theorem datas_iws (ns : List Int) : datas (iws ns) = some (ns.map D.int) := datas_fmap _ _
@[simp] theorem lstOf_zero {ws : List W} {T : Sto} : lstOf (.lst ws :: T) 0 = some ws := nr rfl
theorem lstOf_eq {S : Sto} {k : Nat} {ws : List W} (h : S[k]? = some (.lst ws)) : lstOf S k = some ws := by unfold lstOf; rw [h]
@[simp] theorem lstOf_last {S : Sto} {ws : List W} : lstOf (S ++ [.lst ws]) S.length = some ws := lstOf_eq (by simp)
/-! ### leaving a def -/
theorem chk_pre (S T : Sto) : chk S (S ++ T) = true := by
  unfold chk
  rw [List.all_eq_true]
  intro j hj
  rw [List.mem_range] at hj
  rw [List.getElem?_append_left hj, decide_eq_true rfl, Bool.true_or]
theorem closed_iws (n : Nat) (ns : List Int) : closedC n (C ns) = true := by
  unfold closedC
  simp [iws, ltW]
theorem chk_draw (ns ns' : List Int) (T X : Sto) : chk (C ns :: T) (C ns' :: (T ++ X)) = true := by
  unfold chk
  rw [List.all_eq_true]
  intro j hj
  rw [List.mem_range] at hj
  cases j with
  | zero =>
    show (_ || closedC _ (C ns')) = true
    rw [closed_iws, Bool.or_true]
  | succ j =>
    have : j < T.length := by simpa using hj
    rw [List.getElem?_cons_succ, List.getElem?_cons_succ, List.getElem?_append_left this, decide_eq_true rfl, Bool.true_or]
@[simp] theorem retW_d {n : Nat} {S1 : Sto} {x : D} : retW n S1 (.d x) = some (.val (.d x)) := nr rfl
theorem closeW_map (n k0 : Nat) (S1 : Sto) (f : Nat) (ds : List D) : (ds.map W.d).mapM (closeW n k0 S1 f) = some (ds.map W.d) := by
  induction ds with
  | nil => rfl
  | cons d r ih =>
    rw [List.map_cons, List.mapM_cons, ih]
    cases f <;> rfl
theorem retW_new {n k : Nat} {S1 : Sto} {ds : List D} (hk : ¬ k < n) (h : S1[k]? = some (.lst (ds.map W.d))) : retW n S1 (.ref k) = some (.new (ds.map W.d)) := by
  unfold retW
  dsimp only
  rw [if_neg hk, lstOf_eq h]
  show ((ds.map W.d).mapM (closeW n k S1 3)).bind _ = _
  rw [closeW_map]
  rfl
/-- the end of a def that returns data -/
theorem end_pure {S X : Sto} {x : D} : endDef S (.ret (.d x) (S ++ X)) = some (.val (.d x), S) := by
  rw [endDef_ret, if_pos (chk_pre S X), retW_d]
  simp
theorem end_pure0 {S : Sto} {x : D} : endDef S (.ret (.d x) S) = some (.val (.d x), S) := by
  have := end_pure (S := S) (X := []) (x := x)
  rwa [List.append_nil] at this
theorem end_draw {ns ns' : List Int} {T X : Sto} {x : D} : endDef (C ns :: T) (.ret (.d x) (C ns' :: (T ++ X))) = some (.val (.d x), C ns' :: T) := by
  rw [endDef_ret, if_pos (chk_draw ns ns' T X), retW_d]
  simp
theorem end_draw0 {ns ns' : List Int} {T : Sto} {x : D} : endDef (C ns :: T) (.ret (.d x) (C ns' :: T)) = some (.val (.d x), C ns' :: T) := by
  have := end_draw (ns := ns) (ns' := ns') (T := T) (X := []) (x := x)
  rwa [List.append_nil] at this
/-! ### loops -/
/-- a loop over given items: I at each beginning, E at each end -/
theorem floop_inv {ws : List W} {g : Gm} {b : Bm} (I : Nat → Rho → Sto → Prop) (E : Out → Prop)
    (hs : ∀ i w ρ S, ws[i]? = some w → I i ρ S → ∃ ρ1 o, g S w ρ = some ρ1 ∧ b ρ1 S = some o ∧ (match o with
      | .nx ρ2 S2 => I (i + 1) ρ2 S2
      | .ct ρ2 S2 => I (i + 1) ρ2 S2
      | .bk ρ2 S2 => E (.nx ρ2 S2)
      | .ret w S2 => E (.ret w S2)))
    (he : ∀ ρ S, I ws.length ρ S → E (.nx ρ S)) : ∀ (n i : Nat) (ρ : Rho) (S : Sto), i + n = ws.length → I i ρ S → ∃ o, floop (.its ws) g b n i ρ S = some o ∧ E o
  | 0, i, ρ, S, e, h => by
    have e' : ws[i]? = none := List.getElem?_eq_none (by omega)
    refine ⟨.nx ρ S, ?_, he ρ S (by rw [← e]; exact h)⟩
    unfold floop
    rw [srcAt_its, e']
    rfl
  | n + 1, i, ρ, S, e, h => by
    have hi : i < ws.length := by omega
    obtain ⟨ρ1, o, e1, e2, q⟩ := hs i ws[i] ρ S (List.getElem?_eq_getElem hi) h
    unfold floop
    rw [srcAt_its, List.getElem?_eq_getElem hi]
    show ∃ o', ((g S ws[i] ρ).bind fun ρ1 => _) = some o' ∧ E o'
    rw [e1]
    show ∃ o', ((b ρ1 S).bind _) = some o' ∧ E o'
    rw [e2]
    cases o with
    | nx ρ2 S2 => exact floop_inv I E hs he n (i + 1) ρ2 S2 (by omega) q
    | ct ρ2 S2 => exact floop_inv I E hs he n (i + 1) ρ2 S2 (by omega) q
    | bk ρ2 S2 => exact ⟨_, rfl, q⟩
    | ret w S2 => exact ⟨_, rfl, q⟩
/-- a comprehension that leaves the cells as they are -/
theorem cloop_pure {ws : List W} {g : Gm} {c : Tm} {e : Em} {ρ : Rho} {S : Sto} (p : W → Bool) (f : W → W)
    (hs : ∀ w ∈ ws, ∃ ρ1, g S w ρ = some ρ1 ∧ c ρ1 S = some (p w, S) ∧ (p w = true → e ρ1 S = some (f w, S))) : ∀ (n i : Nat), i + n = ws.length → cloop (.its ws) g c e ρ n i S = some (((ws.drop i).filter p).map f, S)
  | 0, i, h => by
    have e' : ws[i]? = none := List.getElem?_eq_none (by omega)
    unfold cloop
    rw [srcAt_its, e', List.drop_of_length_le (by omega)]
    rfl
  | n + 1, i, h => by
    have hi : i < ws.length := by omega
    obtain ⟨ρ1, e1, e2, e3⟩ := hs ws[i] (List.getElem_mem hi)
    have ih := cloop_pure p f hs n (i + 1) (by omega)
    unfold cloop
    rw [srcAt_its, List.getElem?_eq_getElem hi, List.drop_eq_getElem_cons hi]
    show ((g S ws[i] ρ).bind _) = _
    rw [e1]
    show ((c ρ1 S).bind _) = _
    rw [e2]
    show (if p ws[i] = true then _ else _) = _
    by_cases hp : p ws[i] = true
    · rw [if_pos hp, e3 hp, List.filter_cons_of_pos hp]
      show ((cloop _ g c e ρ n (i + 1) S).bind _) = _
      rw [ih]
      rfl
    · rw [if_neg hp, List.filter_cons_of_neg hp]
      exact ih
theorem cloop_map {ws : List W} {g : Gm} {e : Em} {ρ : Rho} {S : Sto} (f : W → W) (hs : ∀ w ∈ ws, ∃ ρ1, g S w ρ = some ρ1 ∧ e ρ1 S = some (f w, S)) : cloop (.its ws) g tyes e ρ ws.length 0 S = some (ws.map f, S) := by
  have := cloop_pure (c := tyes) (fun _ => true) f (fun w hw => by
    obtain ⟨ρ1, e1, e2⟩ := hs w hw
    exact ⟨ρ1, e1, rfl, fun _ => e2⟩) ws.length 0 (by omega)
  rw [this, List.drop_zero, List.filter_eq_self.mpr (fun _ _ => rfl)]
/-- the same over any source of data, told by index -/
theorem cloop_fmap {α : Type} {l : List α} {k : α → W} {g : Gm} {e : Em} {ρ : Rho} {S : Sto} {n : Nat} (f : α → W) (hn : n = l.length) (hs : ∀ x ∈ l, ∃ ρ1, g S (k x) ρ = some ρ1 ∧ e ρ1 S = some (f x, S)) : cloop (.its (l.map k)) g tyes e ρ n 0 S = some (l.map f, S) := by
  subst hn
  induction l with
  | nil => rfl
  | cons x r ih => ?_
  clear ih
  have gen : ∀ (n i : Nat) (l : List α), (∀ x ∈ l, ∃ ρ1, g S (k x) ρ = some ρ1 ∧ e ρ1 S = some (f x, S)) → i + n = l.length → cloop (.its (l.map k)) g tyes e ρ n i S = some ((l.drop i).map f, S) := by
    intro n
    induction n with
    | zero =>
      intro i l hs h
      unfold cloop
      rw [srcAt_its, List.getElem?_eq_none (by rw [List.length_map]; omega), List.drop_of_length_le (by omega)]
      rfl
    | succ n ih =>
      intro i l hs h
      have hi : i < l.length := by omega
      obtain ⟨ρ1, e1, e2⟩ := hs l[i] (List.getElem_mem hi)
      unfold cloop
      rw [srcAt_its, List.getElem?_map, List.getElem?_eq_getElem hi, List.drop_eq_getElem_cons hi]
      show ((g S (k l[i]) ρ).bind _) = _
      rw [e1]
      show ((e ρ1 S).bind _) = _
      rw [e2]
      show ((cloop _ g tyes e ρ n (i + 1) S).bind _) = _
      rw [ih (i + 1) l hs (by omega)]
      rfl
  have := gen (x :: r).length 0 (x :: r) hs (by omega)
  rwa [List.drop_zero] at this
/-- a comprehension that draws: each item as R says -/
theorem cloop_draw {ws : List W} {g : Gm} {e : Em} {ρ : Rho} {T : Sto} (R : Nat → W → Prop) (hs : ∀ i w ns, ws[i]? = some w → ∃ ρ1 x ns', g (C ns :: T) w ρ = some ρ1 ∧ e ρ1 (C ns :: T) = some (x, C ns' :: T) ∧ R i x) :
    ∀ (n i : Nat) (ns : List Int), i + n = ws.length → ∃ r ns', cloop (.its ws) g tyes e ρ n i (C ns :: T) = some (r, C ns' :: T) ∧ r.length = n ∧ ∀ j x, r[j]? = some x → R (i + j) x
  | 0, i, ns, h => by
    refine ⟨[], ns, ?_, rfl, fun j x h => by simp at h⟩
    unfold cloop
    rw [srcAt_its, List.getElem?_eq_none (by omega)]
    rfl
  | n + 1, i, ns, h => by
    have hi : i < ws.length := by omega
    obtain ⟨ρ1, x, ns1, e1, e2, q⟩ := hs i ws[i] ns (List.getElem?_eq_getElem hi)
    obtain ⟨r, ns2, e3, l3, q3⟩ := cloop_draw R hs n (i + 1) ns1 (by omega)
    refine ⟨x :: r, ns2, ?_, by rw [List.length_cons, l3], fun j y hj => ?_⟩
    · unfold cloop
      rw [srcAt_its, List.getElem?_eq_getElem hi]
      show ((g _ ws[i] ρ).bind _) = _
      rw [e1]
      show ((e ρ1 _).bind _) = _
      rw [e2]
      show ((cloop _ g tyes e ρ n (i + 1) _).bind _) = _
      rw [e3]
      rfl
    · cases j with
      | zero => cases hj; exact q
      | succ j => rw [show i + (j + 1) = i + 1 + j by omega]; exact q3 j y hj
@[simp] theorem lim_ap {r : List W} {S : Sto} (h : r.length ≤ 1000000) : lim (r, S) = some (r, S) := if_pos h
end GM

set_option Elab.async false
set_option linter.all false
set_option maxRecDepth 100000
set_option maxHeartbeats 4000000
set_option autoImplicit false
namespace GM
open PySem L2
theorem eqv_int (i j : Int) : PyData.eqv (.int i) (.int j) = decide (i = j) := by
  have : PyData.eqv (.int i) (.int j) = (i == j) := by simp [PyData.eqv]
  rw [this]; rfl
section
variable {S : Sto} {i j : Int}
@[simp] theorem eq_int : fEq S [.d (.int i), .d (.int j)] = some (.d (.bl (decide (i = j)))) := by
  simp [fEq, fEqB, view, sh, eqD, D.py, eqv_int]
@[simp] theorem ne_int : fNe S [.d (.int i), .d (.int j)] = some (.d (.bl (!decide (i = j)))) := by
  simp [fNe, fEqB, view, sh, eqD, D.py, eqv_int]
@[simp] theorem add_int : fAdd S [.d (.int i), .d (.int j)] = some (.d (.int (i + j))) := nr rfl
@[simp] theorem sub_int : fSub S [.d (.int i), .d (.int j)] = some (.d (.int (i - j))) := nr rfl
theorem mul_int (h : mulOk i j = true) : fMulX S [.d (.int i), .d (.int j)] = some (.d (.int (i * j))) := by unfold fMulX; dsimp only; rw [if_pos h]
@[simp] theorem lt_int : fLt S [.d (.int i), .d (.int j)] = some (.d (.bl (decide (i < j)))) := nr rfl
@[simp] theorem le_int : fLe S [.d (.int i), .d (.int j)] = some (.d (.bl (decide (i ≤ j)))) := nr rfl
@[simp] theorem gt_int : fGt S [.d (.int i), .d (.int j)] = some (.d (.bl (decide (j < i)))) := nr rfl
@[simp] theorem ge_int : fGe S [.d (.int i), .d (.int j)] = some (.d (.bl (decide (j ≤ i)))) := nr rfl
@[simp] theorem int_int : fInt S [.d (.int i)] = some (.d (.int i)) := nr rfl
@[simp] theorem int_bl {b : Bool} : fInt S [.d (.bl b)] = some (.d (.int (if b then 1 else 0))) := nr rfl
@[simp] theorem abs_int : fAbs S [.d (.int i)] = some (.d (.int (if i < 0 then -i else i))) := nr rfl
@[simp] theorem max2_int : fMax2 S [.d (.int i), .d (.int j)] = some (.d (.int (if j > i then j else i))) := nr rfl
@[simp] theorem neg_int : fNeg S [.d (.int i)] = some (.d (.int (-i))) := nr rfl
theorem mod_int (h : 0 < j) : fMod S [.d (.int i), .d (.int j)] = some (.d (.int (i % j))) := by
  unfold fMod fI2; simp [h]
theorem div_int (h : 0 < j) (h2 : j.natAbs < 2 ^ 8000) : fDiv S [.d (.int i), .d (.int j)] = some (.d (.int (i / j))) := by
  unfold fDiv fI2; simp [h, h2]
theorem pow_int (h : 0 ≤ j) (h1 : j ≤ 1000000) (h2 : i.natAbs < 2 ^ 64) : fPow S [.d (.int i), .d (.int j)] = some (.d (.int (i ^ j.toNat))) := by
  unfold fPow fI2; simp [h, h1]; omega
theorem shl_int (h : 0 ≤ j) (h1 : j ≤ 1000000) (h2 : i.natAbs < 2 ^ 64) : fShl S [.d (.int i), .d (.int j)] = some (.d (.int (i * 2 ^ j.toNat))) := by
  unfold fShl fI2; simp [h, h1]; omega
@[simp] theorem lst_ok1 {ws : List W} (h : ws.length ≤ 1000000) : fLst S ws = some ws := if_pos h
theorem tup_ok' {ws : List W} {ds : List D} (h : ws.length ≤ 1000000) (e : datas ws = some ds) : fTup S ws = some (.d (.tup ds)) := by
  unfold fTup; rw [if_pos h, e]; rfl
@[simp] theorem tup2 {a b : D} : fTup S [.d a, .d b] = some (.d (.tup [a, b])) := nr rfl
@[simp] theorem tup3 {a b c : D} : fTup S [.d a, .d b, .d c] = some (.d (.tup [a, b, c])) := nr rfl
@[simp] theorem tup1 {a : D} : fTup S [.d a] = some (.d (.tup [a])) := nr rfl
@[simp] theorem seqW_tup {ds : List D} : seqW S (.d (.tup ds)) = some (ds.map W.d) := nr rfl
@[simp] theorem seqW_lst {ds : List D} : seqW S (.d (.lst ds)) = some (ds.map W.d) := nr rfl
@[simp] theorem len_tup {ds : List D} : fLen S [.d (.tup ds)] = some (.d (.int ds.length)) := by simp [fLen]
@[simp] theorem len_lst {ds : List D} : fLen S [.d (.lst ds)] = some (.d (.int ds.length)) := by simp [fLen]
theorem len_ref {k : Nat} {ws : List W} (h : S[k]? = some (.lst ws)) : fLen S [.ref k] = some (.d (.int ws.length)) := by
  show (seqW S (.ref k)).bind _ = _
  rw [show seqW S (.ref k) = lstOf S k from rfl, lstOf_eq h]
  rfl
theorem atI_ok {α : Type} {l : List α} {n : Nat} {x : α} (h : l[n]? = some x) : atI l (n : Int) = some x := by
  exact atI_nat h
theorem ix_tup {ds : List D} {n : Nat} {d : D} (h : ds[n]? = some d) : fIx S [.d (.tup ds), .d (.int (n : Int))] = some (.d d) := by
  show atI (ds.map W.d) (n : Int) = _
  exact atI_ok (by rw [List.getElem?_map, h]; rfl)
theorem ix_lst {ds : List D} {n : Nat} {d : D} (h : ds[n]? = some d) : fIx S [.d (.lst ds), .d (.int (n : Int))] = some (.d d) := by
  show atI (ds.map W.d) (n : Int) = _
  exact atI_ok (by rw [List.getElem?_map, h]; rfl)
theorem ix_ref {k n : Nat} {ws : List W} {w : W} (h : S[k]? = some (.lst ws)) (h2 : ws[n]? = some w) : fIx S [.ref k, .d (.int (n : Int))] = some w := by
  show (seqW S (.ref k)).bind _ = _
  rw [show seqW S (.ref k) = lstOf S k from rfl, lstOf_eq h]
  exact atI_ok h2
@[simp] theorem srcA_tup {ds : List D} : srcA S (.d (.tup ds)) = some (.its (ds.map W.d)) := nr rfl
@[simp] theorem srcA_lst {ds : List D} : srcA S (.d (.lst ds)) = some (.its (ds.map W.d)) := nr rfl
@[simp] theorem srcA_scr {ds : List D} : srcA S (.d (.scr ds)) = some (.its (ds.map W.d)) := nr rfl
@[simp] theorem tuple_tup {ds : List D} : fTuple S [.d (.tup ds)] = some (.d (.tup ds)) := nr rfl
@[simp] theorem tuple_lst {ds : List D} : fTuple S [.d (.lst ds)] = some (.d (.tup ds)) := by
  show (some (ds.map W.d)).bind (fun ws => (datas ws).bind _) = _
  simp
theorem rg1_nat {n : Nat} (h : n ≤ 1000000) : rg1 S [.d (.int (n : Int))] = some (.its (rngW 0 n)) := by
  unfold rg1
  dsimp only
  rw [if_pos (by omega)]
  rfl
theorem rg2_nat {a n : Nat} (ha : a ≤ 1000000) (h : n ≤ 1000000) : rg2 S [.d (.int (a : Int)), .d (.int (n : Int))] = some (.its (rngW a (n - a))) := by
  unfold rg2
  dsimp only
  rw [if_pos (by omega)]
  rw [show ((n : Int) - (a : Int)).toNat = n - a by omega]
@[simp] theorem rngW_length {lo : Int} {n : Nat} : (rngW lo n).length = n := by simp [rngW]
theorem rngW_at {lo : Int} {n k : Nat} (h : k < n) : (rngW lo n)[k]? = some (.d (.int (lo + k))) := by simp [rngW, h]
theorem rngW_at0 {n k : Nat} {w : W} (h : (rngW 0 n)[k]? = some w) : k < n ∧ w = .d (.int (k : Int)) := by
  have hk : k < n := by
    have := (List.getElem?_eq_some_iff.mp h).1
    simpa using this
  rw [rngW_at hk] at h
  cases h
  exact ⟨hk, by rw [Int.zero_add]⟩
end
theorem mulOk_small {i j : Int} (h : j.natAbs < 2 ^ 64) : mulOk i j = true := by unfold mulOk; simp [h]
theorem mulOk_smallL {i j : Int} (h : i.natAbs < 2 ^ 64) : mulOk i j = true := by unfold mulOk; simp [h]
end GM

set_option Elab.async false
set_option linter.all false
set_option maxRecDepth 100000
set_option maxHeartbeats 4000000
set_option autoImplicit false
namespace GM
open PySem L2 PyProof.Rows
/-! ### enumerate over a tuple -/
set_option maxHeartbeats 1000000 in
theorem new_enum1 {v : Value} {ob : Obj} {HH : Heap → Prop} (B : Begins v ob HH) :
    Meets (Builtin.«enumerate.__new__» ⟨[.type "enumerate", v], []⟩) (fun _ R s => HH s.heap ∧ R (.ok (.ret (.ref (s.heap.push ob).objs.size)))
      { s with heap := (s.heap.push ob).push { cls := .type "enumerate", data := .fields #[.none, .bool false, .ref s.heap.objs.size, rawInt 0, .none, .none] } }) :=
  .of_wp fun prog w A R s h => by
    obtain ⟨hp, gg, dd, tk, os⟩ := s
    obtain ⟨hb, h⟩ := h
    have hsub := sub_enumerate
    have q1 : ∀ {A' : Around} {E : Value → Shared → Prop} {Q : Value → Shared → Prop}, Q (.ref hp.objs.size) ⟨hp.push ob, gg, dd, tk, os⟩ → wpAny (model prog w) A' (pyIter v) Q E ⟨hp, gg, dd, tk, os⟩ :=
      fun q => B.iter prog w _ _ ⟨hp, gg, dd, tk, os⟩ _ hb q
    wp_walk
    refine wpAny_stack_any fun st => wpAny_pure ?_
    split
    · rename_i c _ _ _ _ _
      cases (c == Value.type "enumerate")
      · wp_walk using q1
        exact ⟨_, rfl, h⟩
      · wp_walk using q1
        exact ⟨_, rfl, h⟩
    · wp_walk using q1
      exact ⟨_, rfl, h⟩
theorem call_enum1 {prog : Program} {w : World} {A : Around} {E : Value → Shared → Prop} {s : Shared} {v : Value} {ob : Obj} {HH : Heap → Prop} {Q : Value → Shared → Prop} (B : Begins v ob HH) (hh : HH s.heap)
    (h : ∀ h', IsEnum h' (s.heap.objs.size + 1) s.heap.objs.size 0 .none → h'.get? s.heap.objs.size = some ob → (∀ b o, s.heap.get? b = some o → h'.get? b = some o) → Q (.ref (s.heap.objs.size + 1)) { s with heap := h' }) :
    wpAny (model prog w) A (call (.type "enumerate") [v]) Q E s := by
  refine callType_new F.called_enumerate (by decide) (F.typeCall_enumerate_1 _) (F.newCall_enumerate_1 _) (fun obj => F.args_object_init_2 obj _) F.entry_enumerate_new (new_enum1 B) ⟨hh, ?_⟩
  have hz : (s.heap.push ob).objs.size = s.heap.objs.size + 1 := Heap.size_push ..
  show _ ∧ _
  rw [hz]
  have he : IsEnum ((s.heap.push ob).push { cls := .type "enumerate", data := .fields #[.none, .bool false, .ref s.heap.objs.size, rawInt 0, .none, .none] }) (s.heap.objs.size + 1) s.heap.objs.size 0 .none := by
    have := Heap.get?_push_size (s.heap.push ob) (o := { cls := .type "enumerate", data := .fields #[.none, .bool false, .ref s.heap.objs.size, rawInt 0, .none, .none] }) rfl
    rw [hz] at this; exact this
  exact ⟨⟨_, he, rfl⟩, h _ he (Heap.get?_push_of_some _ (Heap.get?_push_size _ B.free)) fun b o y => Heap.get?_push_of_some _ (Heap.get?_push_of_some _ y)⟩
/-- the tuple at a, each item in a new pair -/
def Jte (K : PySem.W.Frag) (a : Addr) : It :=
  ⟨fun i H => ∃ (xs : List V) (x : V), SqT K H a xs ∧ xs[i]? = some x, fun i H v H' => ∃ T x, v = .ref T ∧ H T = none ∧ H' = upd H T (.tup [.int (i : Nat), x]) ∧ ∀ xs, SqT K H a xs → xs[i]? = some x, fun i H => ∃ xs : List V, SqT K H a xs ∧ xs.length ≤ i⟩
theorem turn_jte {P : Program} {w : World} {K : PySem.W.Frag} {elts : List Expr} {kk : Nat} {tpos : Pos} (a e it : Addr) :
    Turn P w K (.Tuple elts kk tpos) (Jte K a) [e, it] e (fun i h => (∃ old, IsEnum h e it ((i : Nat) : Int) old) ∧ h.IsTupleIter it a i ∧ e ≠ it) where
  mem := by simp
  obj := fun i h st b hb => by
    obtain ⟨⟨old, he⟩, ⟨o, ho, hc, hd⟩, _⟩ := st
    have e' : b = e ∨ b = it := by simpa using hb
    rcases e' with z | z
    · rw [z]; exact ⟨_, he, fun v q => nomatch q⟩
    · rw [z]; exact ⟨o, ho, fun v q => by rw [hd] at q; cases q⟩
  keep := fun i h h' st k => let ⟨⟨old, he⟩, hi, hne⟩ := st; ⟨⟨old, k e (by simp) _ he⟩, hi.at fun o q => k it (by simp) o q, hne⟩
  item := by
    intro X hP hw hK hc i pins s σ H E I hf st hg
    subst hP hw hK
    obtain ⟨⟨old, he⟩, hit, hne⟩ := st
    obtain ⟨xs, x, hq, hx⟩ := hg
    obtain ⟨its, rv, p, hz⟩ := I.tuple hq
    obtain ⟨u, hu, ru⟩ := rv.get hx
    have p' : s.heap.IsTuple a its.toArray := p
    have hel : e < s.heap.objs.size := Heap.lt_size he
    have hil : it < s.heap.objs.size := by obtain ⟨_, q, _⟩ := hit; exact Heap.lt_size q
    have nea : a ≠ e := fun z => by
      obtain ⟨o, q, _, n, d⟩ := p'
      rw [z, he] at q
      cases q
      cases d
    have nia : a ≠ it := fun z => by
      obtain ⟨o, q, c, n, d⟩ := p'
      obtain ⟨o2, q2, c2, d2⟩ := hit
      rw [z, q2] at q
      cases q
      rw [d2] at d
      cases d
    have hlt : i < its.toArray.size := by
      have := (List.getElem?_eq_some_iff.mp hu).1
      simpa using this
    refine wpAny_pyNext_enum_itemD (Draws.tuple (A := X.A.in1) (I.ok.hd hc) it a nia its.toArray) he ⟨hit, p'⟩ hlt hne (by simp [hne, Ne.symm nea]) fun y h' tk hy ho st' hT hsz hk => ?_
    have hyu : y = u := by
      have : its.toArray[i]? = some u := by simpa using hu
      rw [this] at hy
      cases hy; rfl
    subst hyu
    refine ⟨_, rfl, wpAny_letOwnedTupleGo_enum (s := { s with heap := h', toks := tk + 1 }) ho fun h'' he' sb => ?_⟩
    have hT2 : h''.get? s.heap.objs.size = some { cls := .type "tuple", data := .seq #[.int i tk, y] } := (sb.2 _ (Nat.ne_of_gt hel)).trans hT
    have new : ObjOk X.prog X.w (upd H s.heap.objs.size (.tup [.int (i : Nat), x])) h'' s.heap.objs.size (.tup [.int (i : Nat), x]) :=
      ⟨by show 2 ≤ sizeLine; decide, [.int i tk, y], .cons ⟨_, rfl⟩ (.cons ru .nil), ⟨_, hT2, rfl, _, rfl⟩⟩
    have I1 : Inv X pins σ (upd H s.heap.objs.size (.tup [.int (i : Nat), x])) { s with heap := h'', toks := tk + 1 } :=
      I.turnedNew (ch := [e, it]) (fun b ob hb q => (sb.2 b (fun z => hb (by simp [z]))).trans (hk b ob (fun z => hb (by simp [z])) (fun z => hb (by simp [z])) q)) hf (Nat.le_refl _) new
    refine ⟨.ref s.heap.objs.size, _, I1, rfl, ⟨_, x, rfl, I.hok.fresh (Nat.le_refl _), rfl, fun ys hy => by rw [I.tuple_inj hy hq]; exact hx⟩, ⟨⟨y, ?_⟩, st'.1.at fun o q => (sb.2 it (Ne.symm hne)).trans q, hne⟩, fun b hb => ?_⟩
    · have e1 : ((i + 1 : Nat) : Int) = (i : Int) + 1 := by omega
      rw [e1]; exact he'
    · have hb' : b < s.heap.objs.size := by
        have e' : b = e ∨ b = it := by simpa using hb
        rcases e' with z | z
        · rw [z]; exact hel
        · rw [z]; exact hil
      rw [upd_ne (Nat.ne_of_lt hb')]
      exact (hf b hb).1
  done := by
    intro X hP hw hK hc i pins s σ H E I hf st hg
    subst hP hw hK
    obtain ⟨⟨old, he⟩, hit, hne⟩ := st
    obtain ⟨xs, hq, hx⟩ := hg
    obtain ⟨its, rv, p, hz⟩ := I.tuple hq
    have p' : s.heap.IsTuple a its.toArray := p
    have nia : a ≠ it := fun z => by
      obtain ⟨o, q, c, n, d⟩ := p'
      obtain ⟨o2, q2, c2, d2⟩ := hit
      rw [z, q2] at q
      cases q
      rw [d2] at d
      cases d
    obtain ⟨f0, f1, f2, f3, f4, f5⟩ := hf it (by simp)
    have hl := rv.length
    have D0 : Draws X.prog X.w X.A.in1 it [it, a] i (fun _ _ => True) (fun j h => j = i ∧ h.IsTupleIter it a i ∧ h.IsTuple a its.toArray) := {
      live := fun _ _ st => let ⟨o, ho, _⟩ := st.2.1; ⟨o, ho⟩
      frame := fun _ _ _ st hk => ⟨st.1, st.2.1.at fun o e => hk it (by simp) o e, st.2.2.at fun o e => hk a (by simp) o e⟩
      item := fun j s Q E hi st hQ => absurd st.1 (by omega)
      done := fun s Q E st hE => wpAny_nextOf_tuple_end (A := X.A.in1) (I.ok.hd hc) st.2.1 st.2.2 (by simp; omega) hE }
    exact wpAny_pyNext_enum_endD D0 he ⟨rfl, hit, p'⟩ fun h' eb => ⟨rfl, I.turned (t' := s.toks) (fun b o hb q => eb b o hb q) f0 f1 f3 f4 f5⟩
  self := fun A i s Q E st h => let ⟨⟨_, he⟩, _⟩ := st; wpAny_pyIter_enum he h

theorem pi_jte {X : Cx} {e : Expr} {ta : TA} {p pos tpos : Pos} {elts : List Expr} {kk : Nat} (hg : Gl X "enumerate") (hm : X.mg "enumerate" = none) (ha : PA X [e] ta) (hs : starEach [e] X.env = [(false, eval e X.env)] := by rfl) :
    PI X (.Tuple elts kk tpos) (.Call (.Name "enumerate" p) [e] [] pos) (fun σ H R => ta σ H fun vs H1 => ∃ a xs, vs = [.ref a] ∧ SqT X.K H1 a xs ∧ R (Jte X.K a) H1) := by
  refine ⟨fun pins s σ H R I h => ?_⟩
  refine Call_ (ld_blt I hg hm boot_enumerate (PyProof.Rows.callWith_type1 (thn (ha.run pos pins s σ H _ I h) fun us s1 ⟨vs, H1, I1, r1, q1⟩ => ?_) hs rfl))
  obtain ⟨a, xs, ex, hq, q⟩ := q1
  subst ex
  cases r1 with
  | cons r rr =>
    cases rr
    cases r
    obtain ⟨its, rv, p', hz⟩ := I1.tuple hq
    refine call_enum1 (begins_tuple a its.toArray) (show s1.heap.IsTuple a its.toArray from p') fun h' he hit hk => wpAny_pyIter_enum he ?_
    have I2 : Inv X pins σ H1 { s1 with heap := h' } := I1.kept (t' := s1.toks) hk
    refine ⟨s1.heap.objs.size + 1, [s1.heap.objs.size + 1, s1.heap.objs.size], _, _, H1, rfl, I2, turn_jte a (s1.heap.objs.size + 1) s1.heap.objs.size, ⟨⟨.none, he⟩, ⟨_, hit, rfl, rfl⟩, Nat.succ_ne_self _⟩, fun b hb => ?_, q⟩
    have e' : b = s1.heap.objs.size + 1 ∨ b = s1.heap.objs.size := by simpa using hb
    have hle : s1.heap.objs.size ≤ b := by
      rcases e' with z | z
      · rw [z]; exact Nat.le_add_right _ _
      · rw [z]; exact Nat.le_refl _
    exact I1.fpOk hle (I1.hok.fresh hle)
def enumD (ds : List D) : List D := (List.range ds.length).map fun (i : Nat) => .tup [.int (i : Int), ds.getD i .non]
def srcE (_ : Sto) : W → Option Src
  | .d (.tup ds) => some (.its ((enumD ds).map W.d))
  | _ => none
theorem jte_ok {K : PySem.W.Frag} {F : Addr → Prop} {μ : List Addr} {S : Sto} {H : Hp} {a : Addr} {vs : List V} {ds : List D} (h1 : SqT K H a vs) (h2 : RepDs K (NF F μ S) H ds vs) : ItOk K F μ S H (Jte K a) (.its ((enumD ds).map W.d)) := fun F2 μ2 S2 H2 gz i r hr => by
  obtain ⟨p, _, g, rs⟩ := gz
  cases hr
  have l2 := g.tup h1
  have r2 : RepWs K μ2 (NF F2 μ2 S2) H2 (ds.map W.d) vs := (rep_map h2).mono g p
  have hl := r2.length
  rw [List.length_map] at hl
  by_cases hi : i < ds.length
  · have e : (ds.map W.d)[i]? = some (W.d (ds.getD i .non)) := by
      rw [List.getElem?_map, List.getD_eq_getElem?_getD, List.getElem?_eq_getElem hi]; rfl
    obtain ⟨v, e1, e2⟩ := r2.get e
    have ee : ((enumD ds).map W.d)[i]? = some (W.d (.tup [.int (i : Int), ds.getD i .non])) := by
      unfold enumD
      rw [List.getElem?_map, List.getElem?_map, List.getElem?_range hi]; rfl
    rw [ee]
    refine ⟨⟨vs, v, l2, e1⟩, fun x H3 ⟨T, y, hx, hn, hu, hy⟩ => ?_⟩
    subst hx hu
    have := hy vs l2
    rw [e1] at this
    cases this
    have f : Fr H2 (upd H2 T (.tup [.int (i : Nat), v])) := Fr.upd hn
    refine ⟨f, dtup.mpr ⟨T, _, rfl, .inl (.inl upd_same), ?_⟩⟩
    rw [RepDs]
    refine ⟨_, _, rfl, by rw [RepD], ?_⟩
    rw [RepDs]
    refine ⟨_, _, rfl, ?_, by rw [RepDs]⟩
    exact (e2.mono (f.gs rs).go (f.gs rs).pre : RepW K μ2 (NF F2 μ2 S2) _ (W.d (ds.getD i .non)) v)
  · rw [List.getElem?_eq_none (by rw [List.length_map]; unfold enumD; rw [List.length_map, List.length_range]; omega)]
    exact ⟨vs, l2, by omega⟩
theorem mi_enum {X : Cx} {e : Expr} {me : Em} {p pos tpos : Pos} {elts : List Expr} {kk : Nat} (hg : Gl X "enumerate") (hm : X.mg "enumerate" = none) (h : ME X e me) (hs : starEach [e] X.env = [(false, eval e X.env)] := by rfl) :
    MI X (.Tuple elts kk tpos) (.Call (.Name "enumerate" p) [e] [] pos) (isrc srcE me) := PI.cons (pi_jte hg hm (ma_cons h ma_nil hs) hs) fun σ H R ⟨F, μ, ρ, S, src, S', rs, rst, h, k⟩ => by
  obtain ⟨⟨w, S1⟩, e1, h⟩ := bind_some h
  obtain ⟨s, e2, h⟩ := bind_some h
  cases h
  refine ⟨F, μ, ρ, S, [w], S1, rs, rst, by show (me ρ S).bind _ = _; rw [e1]; rfl, fun μ1 vs H1 g q => ?_⟩
  obtain ⟨v, rfl, q1⟩ := rep1 q
  cases w with
  | d x =>
    cases x with
    | tup ds =>
      cases e2
      obtain ⟨a, us, e, h1, h2⟩ := dtup.mp q1
      exact ⟨a, us, by rw [e], h1, k μ1 _ H1 g (jte_ok h1 h2)⟩
    | _ => cases e2
  | ref kk => cases e2
  | op _ => cases e2
/-! ### o.index(x), ints -/
def idxI (y : Int) : List Int → Option Nat
  | [] => none
  | x :: r => if x = y then some 0 else (idxI y r).map (· + 1)
theorem idxI_ok {y : Int} : ∀ {ns : List Int} {j : Nat}, idxI y ns = some j → ns[j]? = some y ∧ ∀ m z, m < j → ns[m]? = some z → z ≠ y
  | [], j, h => by cases h
  | x :: r, j, h => by
    unfold idxI at h
    split at h
    · rename_i e
      cases h
      exact ⟨by rw [e]; rfl, fun m z hm => absurd hm (by omega)⟩
    · rename_i e
      obtain ⟨i, e1, rfl⟩ := Option.map_eq_some_iff.mp h
      obtain ⟨q1, q2⟩ := idxI_ok e1
      refine ⟨q1, fun m z hm hz => ?_⟩
      cases m with
      | zero => cases hz; exact e
      | succ m => exact q2 m z (by omega) hz
def midx (mo : Em) (ms : Am) : Em := fun ρ S => (mo ρ S).bind fun p => (listW p.2 p.1).bind fun _ => (ms ρ p.2).bind fun q => match q.1 with
  | [.d (.int y)] => (listW q.2 p.1).bind fun ws => (intsW ws).bind fun ns => (idxI y ns).bind fun j => some (.d (.int (j : Int)), q.2)
  | _ => none
theorem me_index {X : Cx} {o e : Expr} {es : List Expr} {mo : Em} {ms : Am} {apos cpos : Pos} (ho : ME X o mo) (ha : MA X (e :: es) ms)
    (hbase : attributeBase o "index" X.env (eval o X.env) = eval o X.env := by rfl)
    (hfew : ((backTo cpos (starEach (e :: es) X.env)).all (fun x => !x.1) && (backToKw cpos (keywordEach [] X.env)).all (fun x => x.1.isSome)
      && decide ((e :: es).length + ([] : List Keyword).length + (if ([] : List Keyword).isEmpty then 0 else 1) < 30)) = true := by rfl)
    (hline : (apos.endLine == cpos.line) = true := by rfl) (hs : starEach (e :: es) X.env = (false, eval e X.env) :: starEach es X.env := by rfl) (hplain : (backTo cpos (starEach es X.env)).any (·.1) = false := by rfl) : ME X (.Call (.Attribute o "index" apos) (e :: es) [] cpos) (midx mo ms) :=
  PE.cons (pe_bm PySem.F.plainAttrs_list PySem.F.slot_list_index PySem.F.type_list_index mt_index ho ha hbase hfew hline hs hplain) fun σ H Q ⟨F, μ, ρ, S, w, S', rs, rst, h, k⟩ => by
    obtain ⟨⟨w1, S1⟩, e1, h⟩ := bind_some h
    obtain ⟨ws0, e2, h⟩ := bind_some h
    obtain ⟨⟨as, S2⟩, e3, h⟩ := bind_some h
    refine ⟨F, μ, ρ, S, w1, S1, rs, rst, e1, fun μ1 v H1 g1 q1 => ?_⟩
    obtain ⟨a, xs0, rfl, hq0, _⟩ := list_rep g1.rs e2 q1
    refine ⟨.inl ⟨rfl, _, hq0⟩, F, μ1, ρ, S1, as, S2, g1.rs, rst.mono g1.go g1.pre, e3, fun μ2 vs H2 g2 q2 => ?_⟩
    dsimp only at h
    split at h
    · rename_i y
      obtain ⟨ws, e4, h⟩ := bind_some h
      obtain ⟨ns, e5, h⟩ := bind_some h
      obtain ⟨j, e6, h⟩ := bind_some h
      cases h
      obtain ⟨u, rfl, q3⟩ := rep1 q2
      cases dint.mp q3
      obtain ⟨a', xs, ea, hq, hr⟩ := list_rep g2.rs e4 (q1.mono g2.go g2.pre)
      cases ea
      have hx := ints_rep e5 hr
      subst hx
      obtain ⟨i1, i2⟩ := idxI_ok e6
      refine ⟨a, _, .int y, j, .int y, rfl, rfl, hq, rfl, ?_, by rw [List.getElem?_map, i1]; rfl, by simp [eqV], fun m z hm hz => ?_, k μ2 _ H2 (g1.trans g2) (dint.mpr rfl)⟩
      · rw [List.all_map, List.all_eq_true]
        exact fun _ _ => rfl
      · rw [List.getElem?_map] at hz
        obtain ⟨t, t1, rfl⟩ := Option.map_eq_some_iff.mp hz
        have := i2 m t hm t1
        simp [eqV, this]
    · cases h
@[simp] theorem midx_ap {ρ : Rho} {S : Sto} {mo : Em} {ms : Am} : midx mo ms ρ S = (mo ρ S).bind fun p => (listW p.2 p.1).bind fun _ => (ms ρ p.2).bind fun q => match q.1 with
  | [.d (.int y)] => (listW q.2 p.1).bind fun ws => (intsW ws).bind fun ns => (idxI y ns).bind fun j => some (.d (.int (j : Int)), q.2)
  | _ => none := nr rfl
end GM

set_option Elab.async false
set_option linter.all false
set_option maxRecDepth 100000
set_option maxHeartbeats 4000000
set_option autoImplicit false
namespace GM
open PySem L2 PyProof.Rows
/-! ### max(xs, default=d), ints -/
def rMxD (K : PySem.W.Frag) (d : Int) : List V → List V → Hp → VK → Prop := fun vs zs H Q => ∃ (a : Addr) (ns : List Int), vs = [V.ref a] ∧ zs = [.int d] ∧ SqL K H a (ns.map V.int) ∧ Q (.int (ns.max?.getD d)) H
theorem alike_iws (ns : List Int) : PySem.W.AlikeAll (ns.map PyData.int) := ⟨fun x hx y hy => by
  obtain ⟨i, _, rfl⟩ := List.mem_map.mp hx
  obtain ⟨j, _, rfl⟩ := List.mem_map.mp hy
  rfl, fun x hx => by
  obtain ⟨i, _, rfl⟩ := List.mem_map.mp hx
  exact fun z => nomatch z⟩
theorem dpAll_iws {K : PySem.W.Frag} {H : Hp} : ∀ ns : List Int, DpAll K H (ns.map V.int) (ns.map PyData.int)
  | [] => .nil
  | i :: r => .cons (.int i) (dpAll_iws r)
theorem cr_mxD {X : Cx} {d : Int} {j : Nat} (hr : Room j X.A) (hc : X.calm = true) : CallRK X (.builtin "max") [Str.ofString "default"] (rMxD X.K d) := by
  intro pins s σ H vs zs us ws Q I r rz h
  obtain ⟨a, ns, rfl, rfl, hs, q⟩ := h
  obtain rfl := Vals.ref1 r
  obtain ⟨w1, rfl, t, rfl⟩ := vals1 rz
  obtain ⟨its, rv, hl, hz⟩ := I.list hs
  obtain ⟨as, rd⟩ := Dp.readsAll I _ _ _ (dpAll_iws ns) rv
  refine PySem.W.max_list_default (I.ok.hd hc) hl.isList (xs := ns.map PyData.int) (as := as) (by simpa using rd) (alike_iws ns) ?_ (fun he h' tk hk => ?_) (fun y ys i v h' tk bs he hv hrd hk => ?_)
  · have := hr.un
    have e : PyData.depthAll (ns.map PyData.int) = 0 := by
      clear rd rv hs q r hz
      induction ns with
      | nil => simp [PyData.depthAll]
      | cons x r ih => rw [List.map_cons, PyData.depthAll, ih]; simp [PyData.depth]
    rw [e]
    omega
  · have : ns = [] := by simpa using he
    subst this
    exact ⟨.int d, H, I.kept (t' := tk) hk, ⟨_, rfl⟩, q⟩
  · cases ns with
    | nil => cases he
    | cons n r =>
      have e1 : y = .int n := (List.cons.inj he).1.symm
      have e2 : ys = r.map PyData.int := (List.cons.inj he).2.symm
      subst e1 e2
      rw [PySem.W.maxD_ints] at hrd
      cases hrd with
      | int _ t => exact ⟨.int (r.foldl max n), H, I.kept (t' := tk) hk, ⟨_, rfl⟩, by
          have : (n :: r).max?.getD d = r.foldl max n := by rw [List.max?_cons']; rfl
          rw [← this]; exact q⟩
def fMaxLD (d : Int) := fInts fun ns => some (.d (.int (ns.max?.getD d)))
theorem mc_maxD {X : Cx} {e : Expr} {m : Em} {p pos kp cp : Pos} {d : Int} {j c : Nat} (B : Bl X.mg) (hr : Room j X.A) (hc : X.calm = true) (h : ME X e m) (hg : Gl X "max" := by rfl)
    (hs : starEach [e] X.env = (false, eval e X.env) :: starEach [] X.env := by rfl) (he : backTo pos (starEach [e] X.env) = (false, eval e X.env) :: backTo pos (starEach [] X.env) := by rfl) (hpl : (backTo pos (starEach [e] X.env)).any (·.1) = false := by rfl)
    (hall : (backToKw pos (keywordEach [⟨some "default", .Constant (.int d) c cp, kp⟩] X.env)).all (·.1.isSome) = true := by rfl) (hnone : (backToKw pos (keywordEach [⟨some "default", .Constant (.int d) c cp, kp⟩] X.env)).any (·.1.isNone) = false := by rfl) (hks : (backToKw pos (keywordEach [⟨some "default", .Constant (.int d) c cp, kp⟩] X.env)).filterMap (·.1) = [Str.ofString "default"] := by rfl) :
    ME X (.Call (.Name "max" p) [e] [⟨some "default", .Constant (.int d) c cp, kp⟩] pos) (prim (fMaxLD d) (acons m anil)) :=
  PE.cons (pe_callBK (cr_mxD hr hc) hg B.max (by decide +kernel) (ma_cons h ma_nil hs) (pk_cons pe_int pk_nil) (by decide) (by decide) he hpl hall hnone hks) fun σ H Q ⟨F, μ, ρ, S, w, S', rs, rst, h, k⟩ => by
    obtain ⟨⟨ws, S1⟩, e1, h⟩ := bind_some h
    obtain ⟨w', e2, h⟩ := bind_some h
    cases h
    refine ⟨F, μ, ρ, S, ws, S1, rs, rst, e1, fun μ1 vs H1 g q => ?_⟩
    obtain ⟨a, ns, rfl, hs, h3⟩ := fInts_inv g.rs e2 q
    cases h3
    exact ⟨a, ns, rfl, rfl, hs, k μ1 _ H1 g (dint.mpr rfl)⟩
/-! ### a, b = x, y -/
def bpar (i j : Nat) (ms : Am) : Bm := fun ρ S => (ms ρ S).bind fun p => match p.1 with
  | [v, w] => some (.nx ((ρ.set i (some v)).set j (some w)) p.2)
  | _ => none
theorem ms_par (i j : Nat) {X : Cx} {x y : Str} {a b : Expr} {ms : Am} {px py pt pt2 pos : Pos} {kt k2 : Nat} (hN : X.N.Nodup) (ha : MA X [a, b] ms) (hc : X.calm = true := by rfl) (hi : X.N[i]? = some x := by rfl) (hj : X.N[j]? = some y := by rfl) (hij : i ≠ j := by decide)
    (hx : X.env.scope.names.lookup x = some .local := by rfl) (hy : X.env.scope.names.lookup y = some .local := by rfl)
    (hw : swappedStores [.Tuple [.Name x px, .Name y py] kt pt] (.Tuple [a, b] k2 pt2) X.env = pure (some [x, y]) := by rfl)
    (hs : swapsWithSole [.Tuple [.Name x px, .Name y py] kt pt] (.Tuple [a, b] k2 pt2) pos.line X.env = pure false := by rfl) :
    MS X (.Assign [.Tuple [.Name x px, .Name y py] kt pt] (.Tuple [a, b] k2 pt2) pos) (bpar i j ms) := PS.cons (ps_par hc hN hi hj hij hx hy ha hw hs) fun D σ H ⟨F, μ, ρ, S, o, rs, rst, h, k⟩ => by
  obtain ⟨⟨ws, S1⟩, e1, h⟩ := bind_some h
  refine ⟨F, μ, ρ, S, ws, S1, rs, rst, e1, fun μ' vs H' g q => ?_⟩
  dsimp only at h
  split at h
  · rename_i v w
    cases h
    obtain ⟨v1, w1, rfl, q1, q2⟩ := rep2 q
    exact ⟨v1, w1, rfl, k μ' _ H' g (((rst.mono g.go g.pre).set q1).set q2)⟩
  · cases h
@[simp] theorem bpar_ap {i j : Nat} {ms : Am} {ρ : Rho} {S : Sto} : bpar i j ms ρ S = (ms ρ S).bind fun p => match p.1 with
  | [v, w] => some (.nx ((ρ.set i (some v)).set j (some w)) p.2)
  | _ => none := nr rfl
end GM

set_option Elab.async false
set_option linter.all false
set_option maxRecDepth 100000
set_option maxHeartbeats 4000000
set_option autoImplicit false
namespace Kx
open PySem L2 GM
def topS (i : Nat) : Stmt := PySem.Challenge.pw_groupsnear_k73_trees_apart.main.body.getD i (.Pass ⟨0, 0, 0, 0⟩)
section
variable {P : Program} {w : World} {K : PySem.W.Frag} {mg : Str → Option Value} {base : Heap}
/-! _law_draws: 0 script, 1 many, 2 cells, 3 left, 4 draws, 5 k, 6 place, 7 mixed, 8 cell -/
abbrev s_draws : Stmt := topS 13
theorem sc_draws : FnScope ["script", "many", "cells", "left", "draws", "k", "place", "mixed", "cell"] ["script", "many"] (defScope s_draws) := ⟨rfl, rfl, rfl, by decide +kernel, rfl, by decide +kernel, by decide +kernel⟩
def b_draws : Bm := (bseq (bset 2 (thw (mcomp (isrc srcA (msl slX (mv 0) onone (osome (mk (.int 63))))) (gnm 8) tyes (prim fMod (acons (prim fInt (acons (mv 8) anil)) (acons (prim fShl (acons (mk (.int 1)) (acons (mk (.int 7200)) anil))) anil))) [8])))
  (bseq (bcond (tst (prim fEq (acons (prim fLen (acons (mv 2) anil)) (acons (mk (.int 0)) anil)))) (bdrop (mmeth tAppend (mv 2) (acons (mk (.int 0)) anil))) bnil)
  (bseq (bset 3 (thw (primF fList (acons (mv 2) anil))))
  (bseq (bset 4 (thw (primF fLst anil)))
  (bseq (bfor (iargs rg1 (acons (mv 1) anil)) (gnm 5)
  (bseq (bset 6 (prim fMod (acons (prim fInt (acons (mv 5) anil)) (acons (prim fLen (acons (mv 2) anil)) anil))))
  (bcond (tand (tst (prim fGe (acons (prim fIx (acons (mv 2) (acons (mv 6) anil))) (acons (prim fPow (acons (mk (.int 10)) (acons (mk (.int 18)) anil))) anil)))) (tst (prim fGt (acons (prim fIx (acons (mv 3) (acons (mv 6) anil))) (acons (mk (.int 0)) anil))))) (bseq (bdrop (mmeth tAppend (mv 4) (acons (prim fMod (acons (prim fInt (acons (prim fIx (acons (mv 3) (acons (mv 6) anil))) anil)) (acons (mk (.int 1000)) anil))) anil)))
  (bsub (prim fDiv (acons (prim fIx (acons (mv 3) (acons (mv 6) anil))) (acons (mk (.int 1000)) anil))) (mv 3) (mv 6))) (bseq (bset 7 (prim fMod (acons (prim fInt (acons (prim fAdd (acons (prim fAdd (acons (prim fMulX (acons (prim fIx (acons (mv 2) (acons (mv 6) anil))) (acons (mk (.int 48271)) anil))) (acons (prim fMulX (acons (mv 5) (acons (mk (.int 69621)) anil))) anil))) (acons (mk (.int 11)) anil))) anil)) (acons (mk (.int 2147483647)) anil))))
  (bdrop (mmeth tAppend (mv 4) (acons (prim fMod (acons (prim fInt (acons (prim fAdd (acons (prim fAdd (acons (prim fMulX (acons (mv 7) (acons (mv 7) anil))) (acons (prim fMulX (acons (mk (.int 3)) (acons (mv 7) anil))) anil))) (acons (mv 5) anil))) anil)) (acons (mk (.int 1000003)) anil))) anil)))))))
  (bseq (bdrop (mmeth tReverse (mv 4) anil))
  (bret (mv 4))))))))
def m_draws : Fm := runDef 2 9 b_draws
theorem d_draws (B : Bl mg) (D : DefF K mg "_law_draws" s_draws ["script", "many"]) : FnM P w K mg base 1 "_law_draws" m_draws :=
  mk_def D sc_draws fun f cdv A outer s H E hr => (mss_cons (ms_setLc (i := 2) (own := [("cell", 8)]) (fun h => thw_read h) rfl sc_draws.nd rfl rfl (sw_true rfl rfl rfl (by decide +kernel)) (mi_any (me_sl (mev 0) mo_none (mo_some me_int))) (blkOk_by (by rfl)) (by decide) (fun s H C cl fp => (mgn 8 sc_draws.nd)) (fun s H C cl fp => mts_nil) (fun s H C cl fp => (me_mod (mc_int B rfl (ma_cons (mev 8) ma_nil)) (me_shl me_int me_int))))
  (mss_cons (ms_if (mq_eq hr (mc_len B rfl (ma_cons (mev 2) ma_nil)) me_int) (mss_one (ms_expr (mc_append (mev 2) (ma_cons me_int ma_nil)))) mss_nil)
  (mss_cons (ms_st 3 sc_draws.nd (me_thw (mc_list B rfl (ma_cons (mev 2) ma_nil))))
  (mss_cons (ms_st 4 sc_draws.nd (me_thw (mf_lst ma_nil)))
  (mss_cons (ms_for PassesOwn.never rfl (mi_range1 rfl B.range (ma_cons (mev 1) ma_nil)) (mgn 5 sc_draws.nd)
  (mss_cons (ms_st 6 sc_draws.nd (me_mod (mc_int B rfl (ma_cons (mev 5) ma_nil)) (mc_len B rfl (ma_cons (mev 2) ma_nil))))
  (mss_one (ms_if (PW.pt (mw_and (mq_ge (me_item (mev 2) (mev 6) (fun _ _ => rfl)) (me_pow me_int me_int)) (mw_one_and (mq_gt (me_item (mev 3) (mev 6) (fun _ _ => rfl)) me_int)))) (mss_cons (ms_expr (mc_append (mev 4) (ma_cons (me_mod (mc_int B rfl (ma_cons (me_item (mev 3) (mev 6) (fun _ _ => rfl)) ma_nil)) me_int) ma_nil)))
  (mss_one (ms_sub (me_fdiv (me_item (mev 3) (mev 6) (fun _ _ => rfl)) me_int) (mev 3) (mev 6)))) (mss_cons (ms_st 7 sc_draws.nd (me_mod (mc_int B rfl (ma_cons (me_add (me_add (me_mulX (me_item (mev 2) (mev 6) (fun _ _ => rfl)) me_int) (me_mulX (mev 5) me_int)) me_int) ma_nil)) me_int))
  (mss_one (ms_expr (mc_append (mev 4) (ma_cons (me_mod (mc_int B rfl (ma_cons (me_add (me_add (me_mulX (mev 7) (mev 7)) (me_mulX me_int (mev 7))) (mev 5)) ma_nil)) me_int) ma_nil)))))))))
  (mss_cons (ms_expr (mc_rev0 (mev 4)))
  (mss_one (ms_ret (mev 4)))))))))
/-! _law_pairs: 0 n, 1 told, 2 a, 3 b -/
abbrev s_pairs : Stmt := topS 18
theorem sc_pairs : FnScope ["n", "told", "a", "b"] ["n"] (defScope s_pairs) := ⟨rfl, rfl, rfl, by decide +kernel, rfl, by decide +kernel, by decide +kernel⟩
def b_pairs : Bm := (bseq (bset 1 (frz (primF fLst anil)))
  (bseq (bfor (iargs rg1 (acons (mv 0) anil)) (gnm 2)
  (bset 1 (prim fAdd (acons (mv 1) (acons (frz (mcomp (iargs rg2 (acons (prim fAdd (acons (mv 2) (acons (mk (.int 1)) anil))) (acons (mv 0) anil))) (gnm 3) tyes (prim fTup (acons (mv 2) (acons (mv 3) anil))) [3])) anil)))))
  (bret (mv 1))))
def m_pairs : Fm := runDef 1 4 b_pairs
theorem d_pairs (B : Bl mg) (D : DefF K mg "_law_pairs" s_pairs ["n"]) : FnM P w K mg base 1 "_law_pairs" m_pairs :=
  mk_def D sc_pairs fun f cdv A outer s H E hr => (mss_cons (ms_st 1 sc_pairs.nd (me_frz (mf_lst ma_nil)))
  (mss_cons (ms_for PassesOwn.never rfl (mi_range1 rfl B.range (ma_cons (mev 0) ma_nil)) (mgn 2 sc_pairs.nd)
  (mss_one (ms_st 1 sc_pairs.nd (me_add (mev 1) (me_frz (mf_comp (own := [("b", 3)]) rfl sc_pairs.nd (mi_range2 rfl B.range (ma_cons (me_add (mev 2) me_int) (ma_cons (mev 0) ma_nil))) (blkOk_by (by rfl)) (by decide) (fun s H C cl fp => (mgn 3 sc_pairs.nd)) (fun s H C cl fp => mts_nil) (fun s H C cl fp => (me_tup (ma_cons (mev 2) (ma_cons (mev 3) ma_nil))))))))))
  (mss_one (ms_ret (mev 1)))))
/-! _law_from_pairs: 0 n, 1 distances, 2 rows, 3 pairs, 4 k, 5 a, 6 b, 7 row -/
abbrev s_from_pairs : Stmt := topS 19
theorem sc_from_pairs : FnScope ["n", "distances", "rows", "pairs", "k", "a", "b", "row"] ["n", "distances"] (defScope s_from_pairs) := ⟨rfl, rfl, rfl, by decide +kernel, rfl, by decide +kernel, by decide +kernel⟩
def b_from_pairs : Bm := (bseq (bset 2 (thw (mcomp (iargs rg1 (acons (mv 0) anil)) (gnm 4) tyes (thw (primF fRep (acons (frz (primF fLst (acons (mk (.int 0)) anil))) (acons (mv 0) anil)))) [4])))
  (bseq (bset 3 (mcall m_pairs (acons (mv 0) anil)))
  (bseq (bfor (iargs rg1 (acons (prim fLen (acons (mv 3) anil)) anil)) (gnm 4)
  (bseq (basg (gtp 2 (gcons (gnm 5) (gcons (gnm 6) gnil))) (prim fIx (acons (mv 3) (acons (mv 4) anil))))
  (bseq (bsub (prim fIx (acons (mv 1) (acons (mv 4) anil))) (prim fIx (acons (mv 2) (acons (mv 5) anil))) (mv 6))
  (bsub (prim fIx (acons (mv 1) (acons (mv 4) anil))) (prim fIx (acons (mv 2) (acons (mv 6) anil))) (mv 5)))))
  (bret (prim fTuple (acons (frz (mcomp (isrc srcA (mv 2)) (gnm 7) tyes (prim fTuple (acons (mv 7) anil)) [7])) anil))))))
def m_from_pairs : Fm := runDef 2 8 b_from_pairs
theorem d_from_pairs (B : Bl mg) (D : DefF K mg "_law_from_pairs" s_from_pairs ["n", "distances"]) (h_pairs : FnM P w K mg base 1 "_law_pairs" m_pairs) : FnM P w K mg base 2 "_law_from_pairs" m_from_pairs :=
  mk_def D sc_from_pairs fun f cdv A outer s H E hr => (mss_cons (ms_setLc (i := 2) (own := [("k", 4)]) (fun h => thw_read h) rfl sc_from_pairs.nd rfl rfl (sw_true rfl rfl rfl (by decide +kernel)) (mi_range1 rfl B.range (ma_cons (mev 0) ma_nil)) (blkOk_by (by rfl)) (by decide) (fun s H C cl fp => (mgn 4 sc_from_pairs.nd)) (fun s H C cl fp => mts_nil) (fun s H C cl fp => (me_thw (mf_rep (me_frz (mf_lst (ma_cons me_int ma_nil))) (mev 0)))))
  (mss_cons (ms_st 3 sc_from_pairs.nd (me_call h_pairs hr (by decide) rfl (ma_cons (mev 0) ma_nil)))
  (mss_cons (ms_for PassesOwn.never rfl (mi_range1 rfl B.range (ma_cons (mc_len B rfl (ma_cons (mev 3) ma_nil)) ma_nil)) (mgn 4 sc_from_pairs.nd)
  (mss_cons (ms_asg (me_item (mev 3) (mev 4) (fun _ _ => rfl)) (mg_tup rfl (mgs_cons (mgn 5 sc_from_pairs.nd) (mgs_cons (mgn 6 sc_from_pairs.nd) mgs_nil))))
  (mss_cons (ms_sub (me_item (mev 1) (mev 4) (fun _ _ => rfl)) (me_item (mev 2) (mev 5) (fun _ _ => rfl)) (mev 6))
  (mss_one (ms_sub (me_item (mev 1) (mev 4) (fun _ _ => rfl)) (me_item (mev 2) (mev 6) (fun _ _ => rfl)) (mev 5))))))
  (mss_one (ms_ret (mc_tuple B rfl (ma_cons (me_frz (mf_comp (own := [("row", 7)]) rfl sc_from_pairs.nd (mi_any (mev 2)) (blkOk_by (by rfl)) (by decide) (fun s H C cl fp => (mgn 7 sc_from_pairs.nd)) (fun s H C cl fp => mts_nil) (fun s H C cl fp => (mc_tuple B rfl (ma_cons (mev 7) ma_nil))))) ma_nil)))))))
/-! _law_same: 0 actual, 1 due, 2 k -/
abbrev s_same : Stmt := topS 16
theorem sc_same : FnScope ["actual", "due", "k"] ["actual", "due"] (defScope s_same) := ⟨rfl, rfl, rfl, by decide +kernel, rfl, by decide +kernel, by decide +kernel⟩
def b_same (r : Fm) : Bm := (bseq (bcond (tst (misiT ["tuple", "list"] (mv 1))) (bseq (bcond (tor (tst (prim fNe (acons (prim fIsi (acons (mv 0) (acons (mop (.ty "tuple")) anil))) (acons (prim fIsi (acons (mv 1) (acons (mop (.ty "tuple")) anil))) anil)))) (tst (prim fNe (acons (prim fIsi (acons (mv 0) (acons (mop (.ty "list")) anil))) (acons (prim fIsi (acons (mv 1) (acons (mop (.ty "list")) anil))) anil))))) (bret (mk (.bl false))) bnil)
  (bseq (bcond (tst (prim fNe (acons (prim fLen (acons (mv 0) anil)) (acons (prim fLen (acons (mv 1) anil)) anil)))) (bret (mk (.bl false))) bnil)
  (bret (prim fNotIn (acons (mk (.bl false)) (acons (frz (mcomp (iargs rg1 (acons (prim fLen (acons (mv 1) anil)) anil)) (gnm 2) tyes (mcall r (acons (prim fIx (acons (mv 0) (acons (mv 2) anil))) (acons (prim fIx (acons (mv 1) (acons (mv 2) anil))) anil))) [2])) anil)))))) bnil)
  (bseq (bcond (tor (tst (prim fNe (acons (prim fIsi (acons (mv 0) (acons (mop (.ty "bool")) anil))) (acons (prim fIsi (acons (mv 1) (acons (mop (.ty "bool")) anil))) anil)))) (tst (prim fNe (acons (prim fIsi (acons (mv 0) (acons (mop (.ty "int")) anil))) (acons (prim fIsi (acons (mv 1) (acons (mop (.ty "int")) anil))) anil))))) (bret (mk (.bl false))) bnil)
  (bseq (bcond (tor (tst (prim fNe (acons (prim fIsi (acons (mv 0) (acons (mop (.ty "str")) anil))) (acons (prim fIsi (acons (mv 1) (acons (mop (.ty "str")) anil))) anil)))) (tst (prim fNe (acons (prim fIsN (acons (mv 0) (acons (mk .non) anil))) (acons (prim fIsN (acons (mv 1) (acons (mk .non) anil))) anil))))) (bret (mk (.bl false))) bnil)
  (bret (prim fEq (acons (mv 0) (acons (mv 1) anil)))))))
def m_sameF : Nat → Fm
  | 0 => fun _ _ => none
  | n + 1 => runDef 2 3 (b_same (m_sameF n))
theorem d_sameF (B : Bl mg) (D : DefF K mg "_law_same" s_same ["actual", "due"]) : ∀ n : Nat, FnM P w K mg base (1 + n) "_law_same" (m_sameF n)
  | 0 => fn_none D sc_same
  | n + 1 => have h_same := d_sameF B D n
    mk_def D sc_same fun f cdv A outer s H E hr => (mss_cons (ms_if (mt_val (me_isiT rfl B.isinstance (mev 1) (ty_name B.tuple (by decide +kernel) (ty_name B.list (by decide +kernel) .nil)))) (mss_cons (ms_if (PW.pt (mw_or (mq_ne hr (mc_isi B rfl (ma_cons (mev 0) (ma_cons (me_ty B.tuple (by decide +kernel)) ma_nil))) (mc_isi B rfl (ma_cons (mev 1) (ma_cons (me_ty B.tuple (by decide +kernel)) ma_nil)))) (mw_one_or (mq_ne hr (mc_isi B rfl (ma_cons (mev 0) (ma_cons (me_ty B.list (by decide +kernel)) ma_nil))) (mc_isi B rfl (ma_cons (mev 1) (ma_cons (me_ty B.list (by decide +kernel)) ma_nil))))))) (mss_one (ms_ret me_bl)) mss_nil)
  (mss_cons (ms_if (mq_ne hr (mc_len B rfl (ma_cons (mev 0) ma_nil)) (mc_len B rfl (ma_cons (mev 1) ma_nil))) (mss_one (ms_ret me_bl)) mss_nil)
  (mss_one (ms_ret (mc_notIn hr me_bl (me_frz (mf_comp (own := [("k", 2)]) rfl sc_same.nd (mi_range1 rfl B.range (ma_cons (mc_len B rfl (ma_cons (mev 1) ma_nil)) ma_nil)) (blkOk_by (by rfl)) (by decide) (fun s H C cl fp => (mgn 2 sc_same.nd)) (fun s H C cl fp => mts_nil) (fun s H C cl fp => (me_call h_same hr (by first | exact Nat.le_refl _ | (simp only [Nat.add_eq]; omega)) rfl (ma_cons (me_item (mev 0) (mev 2) (fun _ _ => rfl)) (ma_cons (me_item (mev 1) (mev 2) (fun _ _ => rfl)) ma_nil))))))))))) mss_nil)
  (mss_cons (ms_if (PW.pt (mw_or (mq_ne hr (mc_isi B rfl (ma_cons (mev 0) (ma_cons (me_ty B.bool (by decide +kernel)) ma_nil))) (mc_isi B rfl (ma_cons (mev 1) (ma_cons (me_ty B.bool (by decide +kernel)) ma_nil)))) (mw_one_or (mq_ne hr (mc_isi B rfl (ma_cons (mev 0) (ma_cons (me_ty B.int (by decide +kernel)) ma_nil))) (mc_isi B rfl (ma_cons (mev 1) (ma_cons (me_ty B.int (by decide +kernel)) ma_nil))))))) (mss_one (ms_ret me_bl)) mss_nil)
  (mss_cons (ms_if (PW.pt (mw_or (mq_ne hr (mc_isi B rfl (ma_cons (mev 0) (ma_cons (me_ty B.str (by decide +kernel)) ma_nil))) (mc_isi B rfl (ma_cons (mev 1) (ma_cons (me_ty B.str (by decide +kernel)) ma_nil)))) (mw_one_or (mq_ne hr (mc_is (mev 0) me_non) (mc_is (mev 1) me_non))))) (mss_one (ms_ret me_bl)) mss_nil)
  (mss_one (ms_ret (mc_eq hr (mev 0) (mev 1)))))))
def m_same : Fm := m_sameF 8
theorem d_same (B : Bl mg) (D : DefF K mg "_law_same" s_same ["actual", "due"]) : FnM P w K mg base 9 "_law_same" m_same := d_sameF B D 8
/-! _law_take: 0 draws, 1 many -/
abbrev s_take : Stmt := topS 14
theorem sc_take : FnScope ["draws", "many"] ["draws", "many"] (defScope s_take) := ⟨rfl, rfl, rfl, by decide +kernel, rfl, by decide +kernel, by decide +kernel⟩
def b_take : Bm := (bseq (bcond (tst (prim fEq (acons (prim fLen (acons (mv 0) anil)) (acons (mk (.int 0)) anil)))) (bret (mk (.int 0))) bnil)
  (bret (prim fMod (acons (prim fInt (acons (mmeth tPop (mv 0) anil) anil)) (acons (mv 1) anil)))))
def m_take : Fm := runDef 2 2 b_take
theorem d_take (B : Bl mg) (D : DefF K mg "_law_take" s_take ["draws", "many"]) : FnM P w K mg base 1 "_law_take" m_take :=
  mk_def D sc_take fun f cdv A outer s H E hr => (mss_cons (ms_if (mq_eq hr (mc_len B rfl (ma_cons (mev 0) ma_nil)) me_int) (mss_one (ms_ret me_int)) mss_nil)
  (mss_one (ms_ret (me_mod (mc_int B rfl (ma_cons (mc_pop0 (mev 0)) ma_nil)) (mev 1)))))
/-! _law_pick: 0 draws, 1 row -/
abbrev s_pick : Stmt := topS 15
theorem sc_pick : FnScope ["draws", "row"] ["draws", "row"] (defScope s_pick) := ⟨rfl, rfl, rfl, by decide +kernel, rfl, by decide +kernel, by decide +kernel⟩
def b_pick : Bm := (bret (prim fIx (acons (mv 1) (acons (mcall m_take (acons (mv 0) (acons (prim fLen (acons (mv 1) anil)) anil))) anil))))
def m_pick : Fm := runDef 2 2 b_pick
theorem d_pick (B : Bl mg) (D : DefF K mg "_law_pick" s_pick ["draws", "row"]) (h_take : FnM P w K mg base 1 "_law_take" m_take) : FnM P w K mg base 2 "_law_pick" m_pick :=
  mk_def D sc_pick fun f cdv A outer s H E hr => (mss_one (ms_ret (me_item (mev 1) (me_call h_take hr (by decide) rfl (ma_cons (mev 0) (ma_cons (mc_len B rfl (ma_cons (mev 1) ma_nil)) ma_nil))) (fun _ _ => rfl))))
/-! _law_scale: 0 draws -/
abbrev s_scale : Stmt := topS 20
theorem sc_scale : FnScope ["draws"] ["draws"] (defScope s_scale) := ⟨rfl, rfl, rfl, by decide +kernel, rfl, by decide +kernel, by decide +kernel⟩
def b_scale : Bm := (bseq (bcond (tst (prim fEq (acons (mcall m_take (acons (mv 0) (acons (mk (.int 8)) anil))) (acons (mk (.int 0)) anil)))) (bret (mcall m_pick (acons (mv 0) (acons (frz (primF fLst (acons (mk (.int 1000003)) (acons (prim fAdd (acons (prim fPow (acons (mk (.int 10)) (acons (mk (.int 15)) anil))) (acons (mk (.int 37)) anil))) (acons (prim fAdd (acons (prim fPow (acons (mk (.int 10)) (acons (mk (.int 40)) anil))) (acons (mk (.int 121)) anil))) anil))))) anil)))) bnil)
  (bret (mk (.int 1))))
def m_scale : Fm := runDef 1 1 b_scale
theorem d_scale (B : Bl mg) (D : DefF K mg "_law_scale" s_scale ["draws"]) (h_take : FnM P w K mg base 1 "_law_take" m_take) (h_pick : FnM P w K mg base 2 "_law_pick" m_pick) : FnM P w K mg base 3 "_law_scale" m_scale :=
  mk_def D sc_scale fun f cdv A outer s H E hr => (mss_cons (ms_if (mq_eq hr (me_call h_take hr (by decide) rfl (ma_cons (mev 0) (ma_cons me_int ma_nil))) me_int) (mss_one (ms_ret (me_call h_pick hr (by decide) rfl (ma_cons (mev 0) (ma_cons (me_frz (mf_lst (ma_cons me_int (ma_cons (me_add (me_pow me_int me_int) me_int) (ma_cons (me_add (me_pow me_int me_int) me_int) ma_nil))))) ma_nil))))) mss_nil)
  (mss_one (ms_ret me_int)))
/-! _law_any_table: 0 draws, 1 n, 2 scale, 3 top, 4 pair -/
abbrev s_any_table : Stmt := topS 21
theorem sc_any_table : FnScope ["draws", "n", "scale", "top", "pair"] ["draws", "n"] (defScope s_any_table) := ⟨rfl, rfl, rfl, by decide +kernel, rfl, by decide +kernel, by decide +kernel⟩
def b_any_table : Bm := (bseq (bset 2 (mcall m_scale (acons (mv 0) anil)))
  (bseq (bset 3 (mcall m_pick (acons (mv 0) (acons (frz (primF fLst (acons (mk (.int 2)) (acons (mk (.int 4)) (acons (mk (.int 4)) (acons (mk (.int 8)) (acons (mk (.int 30)) anil))))))) anil))))
  (bret (mcall m_from_pairs (acons (mv 1) (acons (frz (mcomp (isrc srcA (mcall m_pairs (acons (mv 1) anil))) (gnm 4) tyes (prim fMulX (acons (mv 2) (acons (mcall m_take (acons (mv 0) (acons (mv 3) anil))) anil))) [4])) anil))))))
def m_any_table : Fm := runDef 2 5 b_any_table
theorem d_any_table (B : Bl mg) (D : DefF K mg "_law_any_table" s_any_table ["draws", "n"]) (h_scale : FnM P w K mg base 3 "_law_scale" m_scale) (h_pick : FnM P w K mg base 2 "_law_pick" m_pick) (h_from_pairs : FnM P w K mg base 2 "_law_from_pairs" m_from_pairs) (h_take : FnM P w K mg base 1 "_law_take" m_take) (h_pairs : FnM P w K mg base 1 "_law_pairs" m_pairs) : FnM P w K mg base 4 "_law_any_table" m_any_table :=
  mk_def D sc_any_table fun f cdv A outer s H E hr => (mss_cons (ms_st 2 sc_any_table.nd (me_call h_scale hr (by decide) rfl (ma_cons (mev 0) ma_nil)))
  (mss_cons (ms_st 3 sc_any_table.nd (me_call h_pick hr (by decide) rfl (ma_cons (mev 0) (ma_cons (me_frz (mf_lst (ma_cons me_int (ma_cons me_int (ma_cons me_int (ma_cons me_int (ma_cons me_int ma_nil))))))) ma_nil))))
  (mss_one (ms_ret (me_call h_from_pairs hr (by decide) rfl (ma_cons (mev 1) (ma_cons (me_frz (mf_comp (own := [("pair", 4)]) rfl sc_any_table.nd (mi_any (me_call h_pairs hr (by decide) rfl (ma_cons (mev 1) ma_nil))) (blkOk_by (by rfl)) (by decide) (fun s H C cl fp => (mgn 4 sc_any_table.nd)) (fun s H C cl fp => mts_nil) (fun s H C cl fp => (me_mulX (mev 2) (me_call h_take hr (by decide) rfl (ma_cons (mev 0) (ma_cons (mev 3) ma_nil))))))) ma_nil)))))))
/-! _law_line_table: 0 draws, 1 n, 2 scale, 3 places, 4 k, 5 pair -/
abbrev s_line_table : Stmt := topS 23
theorem sc_line_table : FnScope ["draws", "n", "scale", "places", "k", "pair"] ["draws", "n"] (defScope s_line_table) := ⟨rfl, rfl, rfl, by decide +kernel, rfl, by decide +kernel, by decide +kernel⟩
def b_line_table : Bm := (bseq (bset 2 (mcall m_scale (acons (mv 0) anil)))
  (bseq (bset 3 (frz (mcomp (iargs rg1 (acons (mv 1) anil)) (gnm 4) tyes (prim fMulX (acons (mv 2) (acons (mcall m_take (acons (mv 0) (acons (mk (.int 20)) anil))) anil))) [4])))
  (bret (mcall m_from_pairs (acons (mv 1) (acons (frz (mcomp (isrc srcA (mcall m_pairs (acons (mv 1) anil))) (gnm 5) tyes (prim fAbs (acons (prim fSub (acons (prim fIx (acons (mv 3) (acons (prim fIx (acons (mv 5) (acons (mk (.int 0)) anil))) anil))) (acons (prim fIx (acons (mv 3) (acons (prim fIx (acons (mv 5) (acons (mk (.int 1)) anil))) anil))) anil))) anil)) [5])) anil))))))
def m_line_table : Fm := runDef 2 6 b_line_table
theorem d_line_table (B : Bl mg) (D : DefF K mg "_law_line_table" s_line_table ["draws", "n"]) (h_scale : FnM P w K mg base 3 "_law_scale" m_scale) (h_from_pairs : FnM P w K mg base 2 "_law_from_pairs" m_from_pairs) (h_take : FnM P w K mg base 1 "_law_take" m_take) (h_pairs : FnM P w K mg base 1 "_law_pairs" m_pairs) : FnM P w K mg base 4 "_law_line_table" m_line_table :=
  mk_def D sc_line_table fun f cdv A outer s H E hr => (mss_cons (ms_st 2 sc_line_table.nd (me_call h_scale hr (by decide) rfl (ma_cons (mev 0) ma_nil)))
  (mss_cons (ms_st 3 sc_line_table.nd (me_frz (mf_comp (own := [("k", 4)]) rfl sc_line_table.nd (mi_range1 rfl B.range (ma_cons (mev 1) ma_nil)) (blkOk_by (by rfl)) (by decide) (fun s H C cl fp => (mgn 4 sc_line_table.nd)) (fun s H C cl fp => mts_nil) (fun s H C cl fp => (me_mulX (mev 2) (me_call h_take hr (by decide) rfl (ma_cons (mev 0) (ma_cons me_int ma_nil))))))))
  (mss_one (ms_ret (me_call h_from_pairs hr (by decide) rfl (ma_cons (mev 1) (ma_cons (me_frz (mf_comp (own := [("pair", 5)]) rfl sc_line_table.nd (mi_any (me_call h_pairs hr (by decide) rfl (ma_cons (mev 1) ma_nil))) (blkOk_by (by rfl)) (by decide) (fun s H C cl fp => (mgn 5 sc_line_table.nd)) (fun s H C cl fp => mts_nil) (fun s H C cl fp => (mc_abs B rfl (ma_cons (me_sub (me_item (mev 3) (me_item (mev 5) me_int (fun _ _ => rfl)) (fun _ _ => rfl)) (me_item (mev 3) (me_item (mev 5) me_int (fun _ _ => rfl)) (fun _ _ => rfl))) ma_nil))))) ma_nil)))))))
/-! _law_plane_table: 0 draws, 1 n, 2 places, 3 told, 4 a, 5 b, 6 k -/
abbrev s_plane_table : Stmt := topS 24
theorem sc_plane_table : FnScope ["draws", "n", "places", "told", "a", "b", "k"] ["draws", "n"] (defScope s_plane_table) := ⟨rfl, rfl, rfl, by decide +kernel, rfl, by decide +kernel, by decide +kernel⟩
def b_plane_table : Bm := (bseq (bset 2 (frz (mcomp (iargs rg1 (acons (mv 1) anil)) (gnm 6) tyes (prim fTup (acons (mcall m_take (acons (mv 0) (acons (mk (.int 7)) anil))) (acons (mcall m_take (acons (mv 0) (acons (mk (.int 7)) anil))) anil))) [6])))
  (bseq (bset 3 (thw (primF fLst anil)))
  (bseq (bfor (isrc srcA (mcall m_pairs (acons (mv 1) anil))) (gtp 2 (gcons (gnm 4) (gcons (gnm 5) gnil)))
  (bdrop (mmeth tAppend (mv 3) (acons (prim fAdd (acons (prim fAbs (acons (prim fSub (acons (prim fIx (acons (prim fIx (acons (mv 2) (acons (mv 4) anil))) (acons (mk (.int 0)) anil))) (acons (prim fIx (acons (prim fIx (acons (mv 2) (acons (mv 5) anil))) (acons (mk (.int 0)) anil))) anil))) anil)) (acons (prim fAbs (acons (prim fSub (acons (prim fIx (acons (prim fIx (acons (mv 2) (acons (mv 4) anil))) (acons (mk (.int 1)) anil))) (acons (prim fIx (acons (prim fIx (acons (mv 2) (acons (mv 5) anil))) (acons (mk (.int 1)) anil))) anil))) anil)) anil))) anil))))
  (bret (mcall m_from_pairs (acons (mv 1) (acons (mv 3) anil)))))))
def m_plane_table : Fm := runDef 2 7 b_plane_table
theorem d_plane_table (B : Bl mg) (D : DefF K mg "_law_plane_table" s_plane_table ["draws", "n"]) (h_pairs : FnM P w K mg base 1 "_law_pairs" m_pairs) (h_from_pairs : FnM P w K mg base 2 "_law_from_pairs" m_from_pairs) (h_take : FnM P w K mg base 1 "_law_take" m_take) : FnM P w K mg base 3 "_law_plane_table" m_plane_table :=
  mk_def D sc_plane_table fun f cdv A outer s H E hr => (mss_cons (ms_setLc (i := 2) (own := [("k", 6)]) (fun h => frz_read h) rfl sc_plane_table.nd rfl rfl (sw_true rfl rfl rfl (by decide +kernel)) (mi_range1 rfl B.range (ma_cons (mev 1) ma_nil)) (blkOk_by (by rfl)) (by decide) (fun s H C cl fp => (mgn 6 sc_plane_table.nd)) (fun s H C cl fp => mts_nil) (fun s H C cl fp => (me_tup (ma_cons (me_call h_take hr (by decide) rfl (ma_cons (mev 0) (ma_cons me_int ma_nil))) (ma_cons (me_call h_take hr (by decide) rfl (ma_cons (mev 0) (ma_cons me_int ma_nil))) ma_nil)))))
  (mss_cons (ms_st 3 sc_plane_table.nd (me_thw (mf_lst ma_nil)))
  (mss_cons (ms_for PassesOwn.never rfl (mi_any (me_call h_pairs hr (by decide) rfl (ma_cons (mev 1) ma_nil))) (mg_tup rfl (mgs_cons (mgn 4 sc_plane_table.nd) (mgs_cons (mgn 5 sc_plane_table.nd) mgs_nil)))
  (mss_one (ms_expr (mc_append (mev 3) (ma_cons (me_add (mc_abs B rfl (ma_cons (me_sub (me_item (me_item (mev 2) (mev 4) (fun _ _ => rfl)) me_int (fun _ _ => rfl)) (me_item (me_item (mev 2) (mev 5) (fun _ _ => rfl)) me_int (fun _ _ => rfl))) ma_nil)) (mc_abs B rfl (ma_cons (me_sub (me_item (me_item (mev 2) (mev 4) (fun _ _ => rfl)) me_int (fun _ _ => rfl)) (me_item (me_item (mev 2) (mev 5) (fun _ _ => rfl)) me_int (fun _ _ => rfl))) ma_nil))) ma_nil)))))
  (mss_one (ms_ret (me_call h_from_pairs hr (by decide) rfl (ma_cons (mev 1) (ma_cons (mev 3) ma_nil))))))))
/-! _law_shuffled: 0 draws, 1 row, 2 left, 3 told, 4 k -/
abbrev s_shuffled : Stmt := topS 17
theorem sc_shuffled : FnScope ["draws", "row", "left", "told", "k"] ["draws", "row"] (defScope s_shuffled) := ⟨rfl, rfl, rfl, by decide +kernel, rfl, by decide +kernel, by decide +kernel⟩
def b_shuffled : Bm := (bseq (bset 2 (thw (primF fList (acons (mv 1) anil))))
  (bseq (bset 3 (thw (primF fLst anil)))
  (bseq (bfor (iargs rg1 (acons (prim fLen (acons (mv 2) anil)) anil)) (gnm 4)
  (bdrop (mmeth tAppend (mv 3) (acons (mmeth tPopAt (mv 2) (acons (mcall m_take (acons (mv 0) (acons (prim fLen (acons (mv 2) anil)) anil))) anil)) anil))))
  (bret (mv 3)))))
def m_shuffled : Fm := runDef 2 5 b_shuffled
theorem d_shuffled (B : Bl mg) (D : DefF K mg "_law_shuffled" s_shuffled ["draws", "row"]) (h_take : FnM P w K mg base 1 "_law_take" m_take) : FnM P w K mg base 2 "_law_shuffled" m_shuffled :=
  mk_def D sc_shuffled fun f cdv A outer s H E hr => (mss_cons (ms_st 2 sc_shuffled.nd (me_thw (mc_list B rfl (ma_cons (mev 1) ma_nil))))
  (mss_cons (ms_st 3 sc_shuffled.nd (me_thw (mf_lst ma_nil)))
  (mss_cons (ms_for PassesOwn.never rfl (mi_range1 rfl B.range (ma_cons (mc_len B rfl (ma_cons (mev 2) ma_nil)) ma_nil)) (mgn 4 sc_shuffled.nd)
  (mss_one (ms_expr (mc_append (mev 3) (ma_cons (mc_popAt (mev 2) (ma_cons (me_call h_take hr (by decide) rfl (ma_cons (mev 0) (ma_cons (mc_len B rfl (ma_cons (mev 2) ma_nil)) ma_nil))) ma_nil)) ma_nil)))))
  (mss_one (ms_ret (mev 3))))))
/-! _law_plain_table: 0 draws, 1 n, 2 pairs -/
abbrev s_plain_table : Stmt := topS 22
theorem sc_plain_table : FnScope ["draws", "n", "pairs"] ["draws", "n"] (defScope s_plain_table) := ⟨rfl, rfl, rfl, by decide +kernel, rfl, by decide +kernel, by decide +kernel⟩
def b_plain_table : Bm := (bseq (bset 2 (mcall m_pairs (acons (mv 1) anil)))
  (bret (mcall m_from_pairs (acons (mv 1) (acons (mcall m_shuffled (acons (mv 0) (acons (frz (mlrg (prg2 (mk (.int 1)) (prim fAdd (acons (prim fLen (acons (mv 2) anil)) (acons (mk (.int 1)) anil)))))) anil))) anil)))))
def m_plain_table : Fm := runDef 2 3 b_plain_table
theorem d_plain_table (B : Bl mg) (D : DefF K mg "_law_plain_table" s_plain_table ["draws", "n"]) (h_pairs : FnM P w K mg base 1 "_law_pairs" m_pairs) (h_from_pairs : FnM P w K mg base 2 "_law_from_pairs" m_from_pairs) (h_shuffled : FnM P w K mg base 2 "_law_shuffled" m_shuffled) : FnM P w K mg base 3 "_law_plain_table" m_plain_table :=
  mk_def D sc_plain_table fun f cdv A outer s H E hr => (mss_cons (ms_st 2 sc_plain_table.nd (me_call h_pairs hr (by decide) rfl (ma_cons (mev 1) ma_nil)))
  (mss_one (ms_ret (me_call h_from_pairs hr (by decide) rfl (ma_cons (mev 1) (ma_cons (me_call h_shuffled hr (by decide) rfl (ma_cons (mev 0) (ma_cons (me_frz (mf_listRg rfl rfl B.list (mp_2 rfl B.range me_int (me_add (mc_len B rfl (ma_cons (mev 2) ma_nil)) me_int)))) ma_nil))) ma_nil))))))
/-! _law_part: 0 table, 1 things, 2 a, 3 b -/
abbrev s_part : Stmt := topS 28
theorem sc_part : FnScope ["table", "things", "a", "b"] ["table", "things"] (defScope s_part) := ⟨rfl, rfl, rfl, by decide +kernel, rfl, by decide +kernel, by decide +kernel⟩
def b_part : Bm := (bret (prim fTuple (acons (frz (mcomp (isrc srcA (mv 1)) (gnm 2) tyes (prim fTuple (acons (frz (mcomp (isrc srcA (mv 1)) (gnm 3) tyes (prim fIx (acons (prim fIx (acons (mv 0) (acons (mv 2) anil))) (acons (mv 3) anil))) [3])) anil)) [2])) anil)))
def m_part : Fm := runDef 2 4 b_part
theorem d_part (B : Bl mg) (D : DefF K mg "_law_part" s_part ["table", "things"]) : FnM P w K mg base 1 "_law_part" m_part :=
  mk_def D sc_part fun f cdv A outer s H E hr => (mss_one (ms_ret (mc_tuple B rfl (ma_cons (me_frz (mf_comp (own := [("a", 2)]) rfl sc_part.nd (mi_any (mev 1)) (blkOk_by (by rfl)) (by decide) (fun s H C cl fp => (mgn 2 sc_part.nd)) (fun s H C cl fp => mts_nil) (fun s H C cl fp => (mc_tuple B rfl (ma_cons (me_frz (mf_comp (own := [("b", 3)]) rfl sc_part.nd (mi_any (mev 1)) (blkOk_by (by rfl)) (by decide) (fun s H C cl fp => (mgn 3 sc_part.nd)) (fun s H C cl fp => mts_nil) (fun s H C cl fp => (me_item (me_item (mev 0) (mev 2) (fun _ _ => rfl)) (mev 3) (fun _ _ => rfl))))) ma_nil))))) ma_nil))))
/-! _law_named: 0 draws, 1 table, 2 order -/
abbrev s_named : Stmt := topS 27
theorem sc_named : FnScope ["draws", "table", "order"] ["draws", "table"] (defScope s_named) := ⟨rfl, rfl, rfl, by decide +kernel, rfl, by decide +kernel, by decide +kernel⟩
def b_named : Bm := (bseq (bset 2 (mcall m_shuffled (acons (mv 0) (acons (frz (mlrg (prg1 (prim fLen (acons (mv 1) anil))))) anil))))
  (bret (mcall m_part (acons (mv 1) (acons (mv 2) anil)))))
def m_named : Fm := runDef 2 3 b_named
theorem d_named (B : Bl mg) (D : DefF K mg "_law_named" s_named ["draws", "table"]) (h_shuffled : FnM P w K mg base 2 "_law_shuffled" m_shuffled) (h_part : FnM P w K mg base 1 "_law_part" m_part) : FnM P w K mg base 3 "_law_named" m_named :=
  mk_def D sc_named fun f cdv A outer s H E hr => (mss_cons (ms_st 2 sc_named.nd (me_call h_shuffled hr (by decide) rfl (ma_cons (mev 0) (ma_cons (me_frz (mf_listRg rfl rfl B.list (mp_1 rfl B.range (mc_len B rfl (ma_cons (mev 1) ma_nil))))) ma_nil))))
  (mss_one (ms_ret (me_call h_part hr (by decide) rfl (ma_cons (mev 1) (ma_cons (mev 2) ma_nil))))))
/-! _law_even_table: 0 draws, 1 n, 2 steps, 3 k, 4 pair -/
abbrev s_even_table : Stmt := topS 25
theorem sc_even_table : FnScope ["draws", "n", "steps", "k", "pair"] ["draws", "n"] (defScope s_even_table) := ⟨rfl, rfl, rfl, by decide +kernel, rfl, by decide +kernel, by decide +kernel⟩
def b_even_table : Bm := (bseq (bset 2 (frz (mcomp (iargs rg1 (acons (mv 1) anil)) (gnm 3) tyes (prim fAdd (acons (mk (.int 1)) (acons (mcall m_take (acons (mv 0) (acons (mk (.int 9)) anil))) anil))) [3])))
  (bret (mcall m_from_pairs (acons (mv 1) (acons (frz (mcomp (isrc srcA (mcall m_pairs (acons (mv 1) anil))) (gnm 4) tyes (prim fMaxL (acons (msl slX (mv 2) (osome (prim fIx (acons (mv 4) (acons (mk (.int 0)) anil)))) (osome (prim fIx (acons (mv 4) (acons (mk (.int 1)) anil))))) anil)) [4])) anil)))))
def m_even_table : Fm := runDef 2 5 b_even_table
theorem d_even_table (B : Bl mg) (D : DefF K mg "_law_even_table" s_even_table ["draws", "n"]) (h_from_pairs : FnM P w K mg base 2 "_law_from_pairs" m_from_pairs) (h_take : FnM P w K mg base 1 "_law_take" m_take) (h_pairs : FnM P w K mg base 1 "_law_pairs" m_pairs) : FnM P w K mg base 3 "_law_even_table" m_even_table :=
  mk_def D sc_even_table fun f cdv A outer s H E hr => (mss_cons (ms_st 2 sc_even_table.nd (me_frz (mf_comp (own := [("k", 3)]) rfl sc_even_table.nd (mi_range1 rfl B.range (ma_cons (mev 1) ma_nil)) (blkOk_by (by rfl)) (by decide) (fun s H C cl fp => (mgn 3 sc_even_table.nd)) (fun s H C cl fp => mts_nil) (fun s H C cl fp => (me_add me_int (me_call h_take hr (by decide) rfl (ma_cons (mev 0) (ma_cons me_int ma_nil))))))))
  (mss_one (ms_ret (me_call h_from_pairs hr (by decide) rfl (ma_cons (mev 1) (ma_cons (me_frz (mf_comp (own := [("pair", 4)]) rfl sc_even_table.nd (mi_any (me_call h_pairs hr (by decide) rfl (ma_cons (mev 1) ma_nil))) (blkOk_by (by rfl)) (by decide) (fun s H C cl fp => (mgn 4 sc_even_table.nd)) (fun s H C cl fp => mts_nil) (fun s H C cl fp => (mc_maxL B rfl (ma_cons (me_sl (mev 2) (mo_some (me_item (mev 4) me_int (fun _ _ => rfl))) (mo_some (me_item (mev 4) me_int (fun _ _ => rfl)))) ma_nil))))) ma_nil))))))
/-! _law_table: 0 draws, 1 n, 2 kind -/
abbrev s_table : Stmt := topS 26
theorem sc_table : FnScope ["draws", "n", "kind"] ["draws", "n"] (defScope s_table) := ⟨rfl, rfl, rfl, by decide +kernel, rfl, by decide +kernel, by decide +kernel⟩
def b_table : Bm := (bseq (bset 2 (mcall m_take (acons (mv 0) (acons (mk (.int 7)) anil))))
  (bseq (bcond (tst (prim fEq (acons (mv 2) (acons (mk (.int 0)) anil)))) (bret (mcall m_line_table (acons (mv 0) (acons (mv 1) anil)))) bnil)
  (bseq (bcond (tst (prim fEq (acons (mv 2) (acons (mk (.int 1)) anil)))) (bret (mcall m_plane_table (acons (mv 0) (acons (mv 1) anil)))) bnil)
  (bseq (bcond (tst (prim fEq (acons (mv 2) (acons (mk (.int 2)) anil)))) (bret (mcall m_plain_table (acons (mv 0) (acons (mv 1) anil)))) bnil)
  (bseq (bcond (tst (prim fEq (acons (mv 2) (acons (mk (.int 3)) anil)))) (bret (mcall m_named (acons (mv 0) (acons (mcall m_even_table (acons (mv 0) (acons (mv 1) anil))) anil)))) bnil)
  (bret (mcall m_any_table (acons (mv 0) (acons (mv 1) anil)))))))))
def m_table : Fm := runDef 2 3 b_table
theorem d_table (B : Bl mg) (D : DefF K mg "_law_table" s_table ["draws", "n"]) (h_take : FnM P w K mg base 1 "_law_take" m_take) (h_any_table : FnM P w K mg base 4 "_law_any_table" m_any_table) (h_line_table : FnM P w K mg base 4 "_law_line_table" m_line_table) (h_plane_table : FnM P w K mg base 3 "_law_plane_table" m_plane_table) (h_plain_table : FnM P w K mg base 3 "_law_plain_table" m_plain_table) (h_named : FnM P w K mg base 3 "_law_named" m_named) (h_even_table : FnM P w K mg base 3 "_law_even_table" m_even_table) : FnM P w K mg base 5 "_law_table" m_table :=
  mk_def D sc_table fun f cdv A outer s H E hr => (mss_cons (ms_st 2 sc_table.nd (me_call h_take hr (by decide) rfl (ma_cons (mev 0) (ma_cons me_int ma_nil))))
  (mss_cons (ms_if (mq_eq hr (mev 2) me_int) (mss_one (ms_ret (me_call h_line_table hr (by decide) rfl (ma_cons (mev 0) (ma_cons (mev 1) ma_nil))))) mss_nil)
  (mss_cons (ms_if (mq_eq hr (mev 2) me_int) (mss_one (ms_ret (me_call h_plane_table hr (by decide) rfl (ma_cons (mev 0) (ma_cons (mev 1) ma_nil))))) mss_nil)
  (mss_cons (ms_if (mq_eq hr (mev 2) me_int) (mss_one (ms_ret (me_call h_plain_table hr (by decide) rfl (ma_cons (mev 0) (ma_cons (mev 1) ma_nil))))) mss_nil)
  (mss_cons (ms_if (mq_eq hr (mev 2) me_int) (mss_one (ms_ret (me_call h_named hr (by decide) rfl (ma_cons (mev 0) (ma_cons (me_call h_even_table hr (by decide) rfl (ma_cons (mev 0) (ma_cons (mev 1) ma_nil))) ma_nil))))) mss_nil)
  (mss_one (ms_ret (me_call h_any_table hr (by decide) rfl (ma_cons (mev 0) (ma_cons (mev 1) ma_nil))))))))))
/-! pairs_of: 0 n, 1 a, 2 b -/
abbrev s_p_pairs_of : Stmt := topS 3
theorem sc_p_pairs_of : FnScope ["n", "a", "b"] ["n"] (defScope s_p_pairs_of) := ⟨rfl, rfl, rfl, by decide +kernel, rfl, by decide +kernel, by decide +kernel⟩
def b_p_pairs_of : Bm := (bret (frz (mcomp2 (iargs rg1 (acons (mv 0) anil)) (gnm 1) tyes (iargs rg2 (acons (prim fAdd (acons (mv 1) (acons (mk (.int 1)) anil))) (acons (mv 0) anil))) (gnm 2) tyes (prim fTup (acons (mv 1) (acons (mv 2) anil))) [1, 2] [2])))
def m_p_pairs_of : Fm := runDef 1 3 b_p_pairs_of
theorem d_p_pairs_of (B : Bl mg) (D : DefF K mg "pairs_of" s_p_pairs_of ["n"]) : FnM P w K mg base 1 "pairs_of" m_p_pairs_of :=
  mk_def D sc_p_pairs_of fun f cdv A outer s H E hr => (mss_one (ms_ret (me_frz (mf_comp2 (own := [("a", 1), ("b", 2)]) (vs1 := [2]) rfl sc_p_pairs_of.nd (mi_range1 rfl B.range (ma_cons (mev 0) ma_nil)) (blkOk_by (by rfl)) (by decide) (by decide) (by decide) (fun s H C cl fp => (mgn 1 sc_p_pairs_of.nd)) (fun s H C cl fp => mts_nil) (fun s H C cl fp => (mi_range2 rfl B.range (ma_cons (me_add (mev 1) me_int) (ma_cons (mev 0) ma_nil)))) (fun s H C cl fp => (mgn 2 sc_p_pairs_of.nd)) (fun s H C cl fp => mts_nil) (fun s H C cl fp => (me_tup (ma_cons (mev 1) (ma_cons (mev 2) ma_nil))))))))
/-! tables_apart: 0 one, 1 other, 2 a, 3 b -/
abbrev s_p_tables_apart : Stmt := topS 9
theorem sc_p_tables_apart : FnScope ["one", "other", "a", "b"] ["one", "other"] (defScope s_p_tables_apart) := ⟨rfl, rfl, rfl, by decide +kernel, rfl, by decide +kernel, by decide +kernel⟩
def b_p_tables_apart : Bm := (bret (prim (fMaxLD 0) (acons (frz (mcomp (isrc srcA (mcall m_p_pairs_of (acons (prim fLen (acons (mv 0) anil)) anil))) (gtp 2 (gcons (gnm 2) (gcons (gnm 3) gnil))) tyes (prim fAbs (acons (prim fSub (acons (prim fIx (acons (prim fIx (acons (mv 0) (acons (mv 2) anil))) (acons (mv 3) anil))) (acons (prim fIx (acons (prim fIx (acons (mv 1) (acons (mv 2) anil))) (acons (mv 3) anil))) anil))) anil)) [2, 3])) anil)))
def m_p_tables_apart : Fm := runDef 2 4 b_p_tables_apart
theorem d_p_tables_apart (B : Bl mg) (D : DefF K mg "tables_apart" s_p_tables_apart ["one", "other"]) (h_p_pairs_of : FnM P w K mg base 1 "pairs_of" m_p_pairs_of) : FnM P w K mg base 2 "tables_apart" m_p_tables_apart :=
  mk_def D sc_p_tables_apart fun f cdv A outer s H E hr => (mss_one (ms_ret (mc_maxD B hr rfl (me_frz (mf_comp (own := [("a", 2), ("b", 3)]) rfl sc_p_tables_apart.nd (mi_any (me_call h_p_pairs_of hr (by decide) rfl (ma_cons (mc_len B rfl (ma_cons (mev 0) ma_nil)) ma_nil))) (blkOk_by (by rfl)) (by decide) (fun s H C cl fp => (mg_tup rfl (mgs_cons (mgn 2 sc_p_tables_apart.nd) (mgs_cons (mgn 3 sc_p_tables_apart.nd) mgs_nil)))) (fun s H C cl fp => mts_nil) (fun s H C cl fp => (mc_abs B rfl (ma_cons (me_sub (me_item (me_item (mev 0) (mev 2) (fun _ _ => rfl)) (mev 3) (fun _ _ => rfl)) (me_item (me_item (mev 1) (mev 2) (fun _ _ => rfl)) (mev 3) (fun _ _ => rfl))) ma_nil))))))))
/-! table_of_rows: 0 rows, 1 row -/
abbrev s_p_table_of_rows : Stmt := topS 1
theorem sc_p_table_of_rows : FnScope ["rows", "row"] ["rows"] (defScope s_p_table_of_rows) := ⟨rfl, rfl, rfl, by decide +kernel, rfl, by decide +kernel, by decide +kernel⟩
def b_p_table_of_rows : Bm := (bret (prim fTuple (acons (frz (mcomp (isrc srcA (mv 0)) (gnm 1) tyes (prim fTuple (acons (mv 1) anil)) [1])) anil)))
def m_p_table_of_rows : Fm := runDef 1 2 b_p_table_of_rows
theorem d_p_table_of_rows (B : Bl mg) (D : DefF K mg "table_of_rows" s_p_table_of_rows ["rows"]) : FnM P w K mg base 1 "table_of_rows" m_p_table_of_rows :=
  mk_def D sc_p_table_of_rows fun f cdv A outer s H E hr => (mss_one (ms_ret (mc_tuple B rfl (ma_cons (me_frz (mf_comp (own := [("row", 1)]) rfl sc_p_table_of_rows.nd (mi_any (mev 0)) (blkOk_by (by rfl)) (by decide) (fun s H C cl fp => (mgn 1 sc_p_table_of_rows.nd)) (fun s H C cl fp => mts_nil) (fun s H C cl fp => (mc_tuple B rfl (ma_cons (mev 1) ma_nil))))) ma_nil))))
/-! path_heights: 0 table, 1 n, 2 rows, 3 way, 4 a, 5 b, 6 row -/
abbrev s_p_path_heights : Stmt := topS 5
theorem sc_p_path_heights : FnScope ["table", "n", "rows", "way", "a", "b", "row"] ["table"] (defScope s_p_path_heights) := ⟨rfl, rfl, rfl, by decide +kernel, rfl, by decide +kernel, by decide +kernel⟩
def b_p_path_heights : Bm := (bseq (bset 1 (prim fLen (acons (mv 0) anil)))
  (bseq (bset 2 (thw (mcomp (isrc srcA (mv 0)) (gnm 6) tyes (thw (primF fList (acons (mv 6) anil))) [6])))
  (bseq (bfor (iargs rg1 (acons (mv 1) anil)) (gnm 3)
  (bfor (iargs rg1 (acons (mv 1) anil)) (gnm 4)
  (bfor (iargs rg1 (acons (mv 1) anil)) (gnm 5)
  (bsub (prim fMin2 (acons (prim fIx (acons (prim fIx (acons (mv 2) (acons (mv 4) anil))) (acons (mv 5) anil))) (acons (prim fMax2 (acons (prim fIx (acons (prim fIx (acons (mv 2) (acons (mv 4) anil))) (acons (mv 3) anil))) (acons (prim fIx (acons (prim fIx (acons (mv 2) (acons (mv 3) anil))) (acons (mv 5) anil))) anil))) anil))) (prim fIx (acons (mv 2) (acons (mv 4) anil))) (mv 5)))))
  (bret (mv 2)))))
def m_p_path_heights : Fm := runDef 1 7 b_p_path_heights
theorem d_p_path_heights (B : Bl mg) (D : DefF K mg "path_heights" s_p_path_heights ["table"]) : FnM P w K mg base 1 "path_heights" m_p_path_heights :=
  mk_def D sc_p_path_heights fun f cdv A outer s H E hr => (mss_cons (ms_st 1 sc_p_path_heights.nd (mc_len B rfl (ma_cons (mev 0) ma_nil)))
  (mss_cons (ms_setLc (i := 2) (own := [("row", 6)]) (fun h => thw_read h) rfl sc_p_path_heights.nd rfl rfl (sw_true rfl rfl rfl (by decide +kernel)) (mi_any (mev 0)) (blkOk_by (by rfl)) (by decide) (fun s H C cl fp => (mgn 6 sc_p_path_heights.nd)) (fun s H C cl fp => mts_nil) (fun s H C cl fp => (me_thw (mc_list B rfl (ma_cons (mev 6) ma_nil)))))
  (mss_cons (ms_for PassesOwn.never rfl (mi_range1 rfl B.range (ma_cons (mev 1) ma_nil)) (mgn 3 sc_p_path_heights.nd)
  (mss_one (ms_for PassesOwn.never rfl (mi_range1 rfl B.range (ma_cons (mev 1) ma_nil)) (mgn 4 sc_p_path_heights.nd)
  (mss_one (ms_for PassesOwn.never rfl (mi_range1 rfl B.range (ma_cons (mev 1) ma_nil)) (mgn 5 sc_p_path_heights.nd)
  (mss_one (ms_sub (mc_min2 B rfl (ma_cons (me_item (me_item (mev 2) (mev 4) (fun _ _ => rfl)) (mev 5) (fun _ _ => rfl)) (ma_cons (mc_max2 B rfl (ma_cons (me_item (me_item (mev 2) (mev 4) (fun _ _ => rfl)) (mev 3) (fun _ _ => rfl)) (ma_cons (me_item (me_item (mev 2) (mev 3) (fun _ _ => rfl)) (mev 5) (fun _ _ => rfl)) ma_nil))) ma_nil))) (me_item (mev 2) (mev 4) (fun _ _ => rfl)) (mev 5))))))))
  (mss_one (ms_ret (mev 2))))))
/-! height_table: 0 table -/
abbrev s_p_height_table : Stmt := topS 8
theorem sc_p_height_table : FnScope ["table"] ["table"] (defScope s_p_height_table) := ⟨rfl, rfl, rfl, by decide +kernel, rfl, by decide +kernel, by decide +kernel⟩
def b_p_height_table : Bm := (bret (mcall m_p_table_of_rows (acons (mcall m_p_path_heights (acons (mv 0) anil)) anil)))
def m_p_height_table : Fm := runDef 1 1 b_p_height_table
theorem d_p_height_table (B : Bl mg) (D : DefF K mg "height_table" s_p_height_table ["table"]) (h_p_table_of_rows : FnM P w K mg base 1 "table_of_rows" m_p_table_of_rows) (h_p_path_heights : FnM P w K mg base 1 "path_heights" m_p_path_heights) : FnM P w K mg base 2 "height_table" m_p_height_table :=
  mk_def D sc_p_height_table fun f cdv A outer s H E hr => (mss_one (ms_ret (me_call h_p_table_of_rows hr (by decide) rfl (ma_cons (me_call h_p_path_heights hr (by decide) rfl (ma_cons (mev 0) ma_nil)) ma_nil))))
/-! trees_apart: 0 one, 1 other -/
abbrev s_p_trees_apart : Stmt := topS 10
theorem sc_p_trees_apart : FnScope ["one", "other"] ["one", "other"] (defScope s_p_trees_apart) := ⟨rfl, rfl, rfl, by decide +kernel, rfl, by decide +kernel, by decide +kernel⟩
def b_p_trees_apart : Bm := (bret (mcall m_p_tables_apart (acons (mcall m_p_height_table (acons (mv 0) anil)) (acons (mcall m_p_height_table (acons (mv 1) anil)) anil))))
def m_p_trees_apart : Fm := runDef 2 2 b_p_trees_apart
theorem d_p_trees_apart (B : Bl mg) (D : DefF K mg "trees_apart" s_p_trees_apart ["one", "other"]) (h_p_tables_apart : FnM P w K mg base 2 "tables_apart" m_p_tables_apart) (h_p_height_table : FnM P w K mg base 2 "height_table" m_p_height_table) : FnM P w K mg base 3 "trees_apart" m_p_trees_apart :=
  mk_def D sc_p_trees_apart fun f cdv A outer s H E hr => (mss_one (ms_ret (me_call h_p_tables_apart hr (by decide) rfl (ma_cons (me_call h_p_height_table hr (by decide) rfl (ma_cons (mev 0) ma_nil)) (ma_cons (me_call h_p_height_table hr (by decide) rfl (ma_cons (mev 1) ma_nil)) ma_nil)))))
/-! _law_off: 0 one, 1 other, 2 a, 3 b -/
abbrev s_off : Stmt := topS 31
theorem sc_off : FnScope ["one", "other", "a", "b"] ["one", "other"] (defScope s_off) := ⟨rfl, rfl, rfl, by decide +kernel, rfl, by decide +kernel, by decide +kernel⟩
def b_off : Bm := (bret (prim fMaxL (acons (frz (mcomp (iargs rg1 (acons (prim fLen (acons (mv 0) anil)) anil)) (gnm 2) tyes (prim fMaxL (acons (frz (mcomp (iargs rg1 (acons (prim fLen (acons (mv 0) anil)) anil)) (gnm 3) tyes (prim fAbs (acons (prim fSub (acons (prim fIx (acons (prim fIx (acons (mv 0) (acons (mv 2) anil))) (acons (mv 3) anil))) (acons (prim fIx (acons (prim fIx (acons (mv 1) (acons (mv 2) anil))) (acons (mv 3) anil))) anil))) anil)) [3])) anil)) [2])) anil)))
def m_off : Fm := runDef 2 4 b_off
theorem d_off (B : Bl mg) (D : DefF K mg "_law_off" s_off ["one", "other"]) : FnM P w K mg base 1 "_law_off" m_off :=
  mk_def D sc_off fun f cdv A outer s H E hr => (mss_one (ms_ret (mc_maxL B rfl (ma_cons (me_frz (mf_comp (own := [("a", 2)]) rfl sc_off.nd (mi_range1 rfl B.range (ma_cons (mc_len B rfl (ma_cons (mev 0) ma_nil)) ma_nil)) (blkOk_by (by rfl)) (by decide) (fun s H C cl fp => (mgn 2 sc_off.nd)) (fun s H C cl fp => mts_nil) (fun s H C cl fp => (mc_maxL B rfl (ma_cons (me_frz (mf_comp (own := [("b", 3)]) rfl sc_off.nd (mi_range1 rfl B.range (ma_cons (mc_len B rfl (ma_cons (mev 0) ma_nil)) ma_nil)) (blkOk_by (by rfl)) (by decide) (fun s H C cl fp => (mgn 3 sc_off.nd)) (fun s H C cl fp => mts_nil) (fun s H C cl fp => (mc_abs B rfl (ma_cons (me_sub (me_item (me_item (mev 0) (mev 2) (fun _ _ => rfl)) (mev 3) (fun _ _ => rfl)) (me_item (me_item (mev 1) (mev 2) (fun _ _ => rfl)) (mev 3) (fun _ _ => rfl))) ma_nil))))) ma_nil))))) ma_nil))))
/-! farthest_pair: 0 one, 1 other, 2 low, 3 high, 4 most, 5 a, 6 b -/
abbrev s_p_farthest_pair : Stmt := topS 11
theorem sc_p_farthest_pair : FnScope ["one", "other", "low", "high", "most", "a", "b"] ["one", "other"] (defScope s_p_farthest_pair) := ⟨rfl, rfl, rfl, by decide +kernel, rfl, by decide +kernel, by decide +kernel⟩
def b_p_farthest_pair : Bm := (bseq (bpar 2 3 (acons (mcall m_p_height_table (acons (mv 0) anil)) (acons (mcall m_p_height_table (acons (mv 1) anil)) anil)))
  (bseq (bset 4 (mcall m_p_tables_apart (acons (mv 2) (acons (mv 3) anil))))
  (bseq (bfor (isrc srcA (mcall m_p_pairs_of (acons (prim fLen (acons (mv 0) anil)) anil))) (gtp 2 (gcons (gnm 5) (gcons (gnm 6) gnil)))
  (bcond (tst (prim fEq (acons (prim fAbs (acons (prim fSub (acons (prim fIx (acons (prim fIx (acons (mv 2) (acons (mv 5) anil))) (acons (mv 6) anil))) (acons (prim fIx (acons (prim fIx (acons (mv 3) (acons (mv 5) anil))) (acons (mv 6) anil))) anil))) anil)) (acons (mv 4) anil)))) (bret (prim fTup (acons (mv 5) (acons (mv 6) anil)))) bnil))
  (bret (mk .non)))))
def m_p_farthest_pair : Fm := runDef 2 7 b_p_farthest_pair
theorem d_p_farthest_pair (B : Bl mg) (D : DefF K mg "farthest_pair" s_p_farthest_pair ["one", "other"]) (h_p_tables_apart : FnM P w K mg base 2 "tables_apart" m_p_tables_apart) (h_p_pairs_of : FnM P w K mg base 1 "pairs_of" m_p_pairs_of) (h_p_height_table : FnM P w K mg base 2 "height_table" m_p_height_table) : FnM P w K mg base 3 "farthest_pair" m_p_farthest_pair :=
  mk_def D sc_p_farthest_pair fun f cdv A outer s H E hr => (mss_cons (ms_par 2 3 sc_p_farthest_pair.nd (ma_cons (me_call h_p_height_table hr (by decide) rfl (ma_cons (mev 0) ma_nil)) (ma_cons (me_call h_p_height_table hr (by decide) rfl (ma_cons (mev 1) ma_nil)) ma_nil)))
  (mss_cons (ms_st 4 sc_p_farthest_pair.nd (me_call h_p_tables_apart hr (by decide) rfl (ma_cons (mev 2) (ma_cons (mev 3) ma_nil))))
  (mss_cons (ms_for PassesOwn.never rfl (mi_any (me_call h_p_pairs_of hr (by decide) rfl (ma_cons (mc_len B rfl (ma_cons (mev 0) ma_nil)) ma_nil))) (mg_tup rfl (mgs_cons (mgn 5 sc_p_farthest_pair.nd) (mgs_cons (mgn 6 sc_p_farthest_pair.nd) mgs_nil)))
  (mss_one (ms_if (mq_eq hr (mc_abs B rfl (ma_cons (me_sub (me_item (me_item (mev 2) (mev 5) (fun _ _ => rfl)) (mev 6) (fun _ _ => rfl)) (me_item (me_item (mev 3) (mev 5) (fun _ _ => rfl)) (mev 6) (fun _ _ => rfl))) ma_nil)) (mev 4)) (mss_one (ms_ret (me_tup (ma_cons (mev 5) (ma_cons (mev 6) ma_nil))))) mss_nil)))
  (mss_one (ms_ret me_non)))))
/-! path_height: 0 table, 1 a, 2 b -/
abbrev s_p_path_height : Stmt := topS 6
theorem sc_p_path_height : FnScope ["table", "a", "b"] ["table", "a", "b"] (defScope s_p_path_height) := ⟨rfl, rfl, rfl, by decide +kernel, rfl, by decide +kernel, by decide +kernel⟩
def b_p_path_height : Bm := (bret (prim fIx (acons (prim fIx (acons (mcall m_p_path_heights (acons (mv 0) anil)) (acons (mv 1) anil))) (acons (mv 2) anil))))
def m_p_path_height : Fm := runDef 3 3 b_p_path_height
theorem d_p_path_height (B : Bl mg) (D : DefF K mg "path_height" s_p_path_height ["table", "a", "b"]) (h_p_path_heights : FnM P w K mg base 1 "path_heights" m_p_path_heights) : FnM P w K mg base 2 "path_height" m_p_path_height :=
  mk_def D sc_p_path_height fun f cdv A outer s H E hr => (mss_one (ms_ret (me_item (me_item (me_call h_p_path_heights hr (by decide) rfl (ma_cons (mev 0) ma_nil)) (mev 1) (fun _ _ => rfl)) (mev 2) (fun _ _ => rfl))))
/-! _law_heights: 0 table, 1 n, 2 rows, 3 by, 4 a, 5 b, 6 row -/
abbrev s_heights : Stmt := topS 29
theorem sc_heights : FnScope ["table", "n", "rows", "by", "a", "b", "row"] ["table"] (defScope s_heights) := ⟨rfl, rfl, rfl, by decide +kernel, rfl, by decide +kernel, by decide +kernel⟩
def b_heights : Bm := (bseq (bset 1 (prim fLen (acons (mv 0) anil)))
  (bseq (bset 2 (thw (mcomp (isrc srcA (mv 0)) (gnm 6) tyes (thw (primF fList (acons (mv 6) anil))) [6])))
  (bseq (bfor (iargs rg1 (acons (mv 1) anil)) (gnm 3)
  (bfor (iargs rg1 (acons (mv 1) anil)) (gnm 4)
  (bfor (iargs rg1 (acons (mv 1) anil)) (gnm 5)
  (bsub (prim fMin2 (acons (prim fIx (acons (prim fIx (acons (mv 2) (acons (mv 4) anil))) (acons (mv 5) anil))) (acons (prim fMax2 (acons (prim fIx (acons (prim fIx (acons (mv 2) (acons (mv 4) anil))) (acons (mv 3) anil))) (acons (prim fIx (acons (prim fIx (acons (mv 2) (acons (mv 3) anil))) (acons (mv 5) anil))) anil))) anil))) (prim fIx (acons (mv 2) (acons (mv 4) anil))) (mv 5)))))
  (bret (mv 2)))))
def m_heights : Fm := runDef 1 7 b_heights
theorem d_heights (B : Bl mg) (D : DefF K mg "_law_heights" s_heights ["table"]) : FnM P w K mg base 1 "_law_heights" m_heights :=
  mk_def D sc_heights fun f cdv A outer s H E hr => (mss_cons (ms_st 1 sc_heights.nd (mc_len B rfl (ma_cons (mev 0) ma_nil)))
  (mss_cons (ms_setLc (i := 2) (own := [("row", 6)]) (fun h => thw_read h) rfl sc_heights.nd rfl rfl (sw_true rfl rfl rfl (by decide +kernel)) (mi_any (mev 0)) (blkOk_by (by rfl)) (by decide) (fun s H C cl fp => (mgn 6 sc_heights.nd)) (fun s H C cl fp => mts_nil) (fun s H C cl fp => (me_thw (mc_list B rfl (ma_cons (mev 6) ma_nil)))))
  (mss_cons (ms_for PassesOwn.never rfl (mi_range1 rfl B.range (ma_cons (mev 1) ma_nil)) (mgn 3 sc_heights.nd)
  (mss_one (ms_for PassesOwn.never rfl (mi_range1 rfl B.range (ma_cons (mev 1) ma_nil)) (mgn 4 sc_heights.nd)
  (mss_one (ms_for PassesOwn.never rfl (mi_range1 rfl B.range (ma_cons (mev 1) ma_nil)) (mgn 5 sc_heights.nd)
  (mss_one (ms_sub (mc_min2 B rfl (ma_cons (me_item (me_item (mev 2) (mev 4) (fun _ _ => rfl)) (mev 5) (fun _ _ => rfl)) (ma_cons (mc_max2 B rfl (ma_cons (me_item (me_item (mev 2) (mev 4) (fun _ _ => rfl)) (mev 3) (fun _ _ => rfl)) (ma_cons (me_item (me_item (mev 2) (mev 3) (fun _ _ => rfl)) (mev 5) (fun _ _ => rfl)) ma_nil))) ma_nil))) (me_item (mev 2) (mev 4) (fun _ _ => rfl)) (mev 5))))))))
  (mss_one (ms_ret (mev 2))))))
/-! _law_right: 0 draws, 1 one, 2 other, 3 n, 4 first, 5 second, 6 a, 7 b, 8 apart, 9 pairs, 10 row, 11 pair -/
abbrev s_right : Stmt := topS 34
theorem sc_right : FnScope ["draws", "one", "other", "n", "first", "second", "a", "b", "apart", "pairs", "row", "pair"] ["draws", "one", "other"] (defScope s_right) := ⟨rfl, rfl, rfl, by decide +kernel, rfl, by decide +kernel, by decide +kernel⟩
def b_right : Bm := (bseq (bset 3 (prim fLen (acons (mv 1) anil)))
  (bseq (bset 4 (prim fTuple (acons (frz (mcomp (isrc srcA (mcall m_heights (acons (mv 1) anil))) (gnm 10) tyes (prim fTuple (acons (mv 10) anil)) [10])) anil)))
  (bseq (bset 5 (prim fTuple (acons (frz (mcomp (isrc srcA (mcall m_heights (acons (mv 2) anil))) (gnm 10) tyes (prim fTuple (acons (mv 10) anil)) [10])) anil)))
  (bseq (bcond (tor (tnot (tst (mcall m_same (acons (mcall m_p_height_table (acons (mv 1) anil)) (acons (mv 4) anil))))) (tnot (tst (mcall m_same (acons (mcall m_p_height_table (acons (mv 5) anil)) (acons (mv 5) anil)))))) (bret (mk (.bl false))) bnil)
  (bseq (bset 6 (mcall m_take (acons (mv 0) (acons (mv 3) anil))))
  (bseq (bset 7 (mcall m_take (acons (mv 0) (acons (mv 3) anil))))
  (bseq (bcond (tnot (tst (mcall m_same (acons (mcall m_p_path_height (acons (mv 2) (acons (mv 6) (acons (mv 7) anil)))) (acons (prim fIx (acons (prim fIx (acons (mv 5) (acons (mv 6) anil))) (acons (mv 7) anil))) anil))))) (bret (mk (.bl false))) bnil)
  (bseq (bset 8 (mcall m_off (acons (mv 4) (acons (mv 5) anil))))
  (bseq (bcond (tor (tnot (tst (mcall m_same (acons (mcall m_p_tables_apart (acons (mv 1) (acons (mv 2) anil))) (acons (mcall m_off (acons (mv 1) (acons (mv 2) anil))) anil))))) (tst (prim fGt (acons (mv 8) (acons (mcall m_off (acons (mv 1) (acons (mv 2) anil))) anil))))) (bret (mk (.bl false))) bnil)
  (bseq (bcond (tor (tnot (tst (mcall m_same (acons (mcall m_p_trees_apart (acons (mv 1) (acons (mv 2) anil))) (acons (mv 8) anil))))) (tnot (tst (mcall m_same (acons (mcall m_p_tables_apart (acons (mv 4) (acons (mv 5) anil))) (acons (mv 8) anil)))))) (bret (mk (.bl false))) bnil)
  (bseq (bcond (tnot (tst (mcall m_same (acons (mcall m_p_trees_apart (acons (mv 5) (acons (mv 1) anil))) (acons (mv 8) anil))))) (bret (mk (.bl false))) bnil)
  (bseq (bset 9 (frz (mcomp (isrc srcA (mcall m_pairs (acons (mv 3) anil))) (gnm 11) (tst (prim fEq (acons (prim fAbs (acons (prim fSub (acons (prim fIx (acons (prim fIx (acons (mv 4) (acons (prim fIx (acons (mv 11) (acons (mk (.int 0)) anil))) anil))) (acons (prim fIx (acons (mv 11) (acons (mk (.int 1)) anil))) anil))) (acons (prim fIx (acons (prim fIx (acons (mv 5) (acons (prim fIx (acons (mv 11) (acons (mk (.int 0)) anil))) anil))) (acons (prim fIx (acons (mv 11) (acons (mk (.int 1)) anil))) anil))) anil))) anil)) (acons (mv 8) anil)))) (mv 11) [11])))
  (bret (mcall m_same (acons (mcall m_p_farthest_pair (acons (mv 1) (acons (mv 2) anil))) (acons (prim fIx (acons (prim fAdd (acons (mv 9) (acons (frz (primF fLst (acons (mk .non) anil))) anil))) (acons (mk (.int 0)) anil))) anil))))))))))))))))
def m_right : Fm := runDef 3 12 b_right
theorem d_right (B : Bl mg) (D : DefF K mg "_law_right" s_right ["draws", "one", "other"]) (h_take : FnM P w K mg base 1 "_law_take" m_take) (h_off : FnM P w K mg base 1 "_law_off" m_off) (h_same : FnM P w K mg base 9 "_law_same" m_same) (h_p_farthest_pair : FnM P w K mg base 3 "farthest_pair" m_p_farthest_pair) (h_p_path_height : FnM P w K mg base 2 "path_height" m_p_path_height) (h_p_trees_apart : FnM P w K mg base 3 "trees_apart" m_p_trees_apart) (h_pairs : FnM P w K mg base 1 "_law_pairs" m_pairs) (h_heights : FnM P w K mg base 1 "_law_heights" m_heights) (h_p_height_table : FnM P w K mg base 2 "height_table" m_p_height_table) (h_p_tables_apart : FnM P w K mg base 2 "tables_apart" m_p_tables_apart) : FnM P w K mg base 10 "_law_right" m_right :=
  mk_def D sc_right fun f cdv A outer s H E hr => (mss_cons (ms_st 3 sc_right.nd (mc_len B rfl (ma_cons (mev 1) ma_nil)))
  (mss_cons (ms_st 4 sc_right.nd (mc_tuple B rfl (ma_cons (me_frz (mf_comp (own := [("row", 10)]) rfl sc_right.nd (mi_any (me_call h_heights hr (by decide) rfl (ma_cons (mev 1) ma_nil))) (blkOk_by (by rfl)) (by decide) (fun s H C cl fp => (mgn 10 sc_right.nd)) (fun s H C cl fp => mts_nil) (fun s H C cl fp => (mc_tuple B rfl (ma_cons (mev 10) ma_nil))))) ma_nil)))
  (mss_cons (ms_st 5 sc_right.nd (mc_tuple B rfl (ma_cons (me_frz (mf_comp (own := [("row", 10)]) rfl sc_right.nd (mi_any (me_call h_heights hr (by decide) rfl (ma_cons (mev 2) ma_nil))) (blkOk_by (by rfl)) (by decide) (fun s H C cl fp => (mgn 10 sc_right.nd)) (fun s H C cl fp => mts_nil) (fun s H C cl fp => (mc_tuple B rfl (ma_cons (mev 10) ma_nil))))) ma_nil)))
  (mss_cons (ms_if (PW.pt (mw_or (mt_not (mt_val (me_call h_same hr (by decide) rfl (ma_cons (me_call h_p_height_table hr (by decide) rfl (ma_cons (mev 1) ma_nil)) (ma_cons (mev 4) ma_nil))))) (mw_one_or (mt_not (mt_val (me_call h_same hr (by decide) rfl (ma_cons (me_call h_p_height_table hr (by decide) rfl (ma_cons (mev 5) ma_nil)) (ma_cons (mev 5) ma_nil)))))))) (mss_one (ms_ret me_bl)) mss_nil)
  (mss_cons (ms_st 6 sc_right.nd (me_call h_take hr (by decide) rfl (ma_cons (mev 0) (ma_cons (mev 3) ma_nil))))
  (mss_cons (ms_st 7 sc_right.nd (me_call h_take hr (by decide) rfl (ma_cons (mev 0) (ma_cons (mev 3) ma_nil))))
  (mss_cons (ms_if (mt_not (mt_val (me_call h_same hr (by decide) rfl (ma_cons (me_call h_p_path_height hr (by decide) rfl (ma_cons (mev 2) (ma_cons (mev 6) (ma_cons (mev 7) ma_nil)))) (ma_cons (me_item (me_item (mev 5) (mev 6) (fun _ _ => rfl)) (mev 7) (fun _ _ => rfl)) ma_nil))))) (mss_one (ms_ret me_bl)) mss_nil)
  (mss_cons (ms_st 8 sc_right.nd (me_call h_off hr (by decide) rfl (ma_cons (mev 4) (ma_cons (mev 5) ma_nil))))
  (mss_cons (ms_if (PW.pt (mw_or (mt_not (mt_val (me_call h_same hr (by decide) rfl (ma_cons (me_call h_p_tables_apart hr (by decide) rfl (ma_cons (mev 1) (ma_cons (mev 2) ma_nil))) (ma_cons (me_call h_off hr (by decide) rfl (ma_cons (mev 1) (ma_cons (mev 2) ma_nil))) ma_nil))))) (mw_one_or (mq_gt (mev 8) (me_call h_off hr (by decide) rfl (ma_cons (mev 1) (ma_cons (mev 2) ma_nil))))))) (mss_one (ms_ret me_bl)) mss_nil)
  (mss_cons (ms_if (PW.pt (mw_or (mt_not (mt_val (me_call h_same hr (by decide) rfl (ma_cons (me_call h_p_trees_apart hr (by decide) rfl (ma_cons (mev 1) (ma_cons (mev 2) ma_nil))) (ma_cons (mev 8) ma_nil))))) (mw_one_or (mt_not (mt_val (me_call h_same hr (by decide) rfl (ma_cons (me_call h_p_tables_apart hr (by decide) rfl (ma_cons (mev 4) (ma_cons (mev 5) ma_nil))) (ma_cons (mev 8) ma_nil)))))))) (mss_one (ms_ret me_bl)) mss_nil)
  (mss_cons (ms_if (mt_not (mt_val (me_call h_same hr (by decide) rfl (ma_cons (me_call h_p_trees_apart hr (by decide) rfl (ma_cons (mev 5) (ma_cons (mev 1) ma_nil))) (ma_cons (mev 8) ma_nil))))) (mss_one (ms_ret me_bl)) mss_nil)
  (mss_cons (ms_setLc (i := 9) (own := [("pair", 11)]) (fun h => frz_read h) rfl sc_right.nd rfl rfl (sw_true rfl rfl rfl (by decide +kernel)) (mi_any (me_call h_pairs hr (by decide) rfl (ma_cons (mev 3) ma_nil))) (blkOk_by (by rfl)) (by decide) (fun s H C cl fp => (mgn 11 sc_right.nd)) (fun s H C cl fp => (mts_one (mq_eq hr (mc_abs B rfl (ma_cons (me_sub (me_item (me_item (mev 4) (me_item (mev 11) me_int (fun _ _ => rfl)) (fun _ _ => rfl)) (me_item (mev 11) me_int (fun _ _ => rfl)) (fun _ _ => rfl)) (me_item (me_item (mev 5) (me_item (mev 11) me_int (fun _ _ => rfl)) (fun _ _ => rfl)) (me_item (mev 11) me_int (fun _ _ => rfl)) (fun _ _ => rfl))) ma_nil)) (mev 8)))) (fun s H C cl fp => (mev 11)))
  (mss_one (ms_ret (me_call h_same hr (by decide) rfl (ma_cons (me_call h_p_farthest_pair hr (by decide) rfl (ma_cons (mev 1) (ma_cons (mev 2) ma_nil))) (ma_cons (me_item (me_add (mev 9) (me_frz (mf_lst (ma_cons me_non ma_nil)))) me_int (fun _ _ => rfl)) ma_nil)))))))))))))))))
/-! _law_shifted: 0 table, 1 e, 2 n, 3 pair -/
abbrev s_shifted : Stmt := topS 32
theorem sc_shifted : FnScope ["table", "e", "n", "pair"] ["table", "e"] (defScope s_shifted) := ⟨rfl, rfl, rfl, by decide +kernel, rfl, by decide +kernel, by decide +kernel⟩
def b_shifted : Bm := (bseq (bset 2 (prim fLen (acons (mv 0) anil)))
  (bret (mcall m_from_pairs (acons (mv 2) (acons (frz (mcomp (isrc srcA (mcall m_pairs (acons (mv 2) anil))) (gnm 3) tyes (prim fMax2 (acons (mk (.int 0)) (acons (prim fAdd (acons (prim fIx (acons (prim fIx (acons (mv 0) (acons (prim fIx (acons (mv 3) (acons (mk (.int 0)) anil))) anil))) (acons (prim fIx (acons (mv 3) (acons (mk (.int 1)) anil))) anil))) (acons (mv 1) anil))) anil))) [3])) anil)))))
def m_shifted : Fm := runDef 2 4 b_shifted
theorem d_shifted (B : Bl mg) (D : DefF K mg "_law_shifted" s_shifted ["table", "e"]) (h_from_pairs : FnM P w K mg base 2 "_law_from_pairs" m_from_pairs) (h_pairs : FnM P w K mg base 1 "_law_pairs" m_pairs) : FnM P w K mg base 3 "_law_shifted" m_shifted :=
  mk_def D sc_shifted fun f cdv A outer s H E hr => (mss_cons (ms_st 2 sc_shifted.nd (mc_len B rfl (ma_cons (mev 0) ma_nil)))
  (mss_one (ms_ret (me_call h_from_pairs hr (by decide) rfl (ma_cons (mev 2) (ma_cons (me_frz (mf_comp (own := [("pair", 3)]) rfl sc_shifted.nd (mi_any (me_call h_pairs hr (by decide) rfl (ma_cons (mev 2) ma_nil))) (blkOk_by (by rfl)) (by decide) (fun s H C cl fp => (mgn 3 sc_shifted.nd)) (fun s H C cl fp => mts_nil) (fun s H C cl fp => (mc_max2 B rfl (ma_cons me_int (ma_cons (me_add (me_item (me_item (mev 0) (me_item (mev 3) me_int (fun _ _ => rfl)) (fun _ _ => rfl)) (me_item (mev 3) me_int (fun _ _ => rfl)) (fun _ _ => rfl)) (mev 1)) ma_nil)))))) ma_nil))))))
/-! _law_far: 0 table, 1 a, 2 b, 3 distance, 4 rows, 5 row -/
abbrev s_far : Stmt := topS 30
theorem sc_far : FnScope ["table", "a", "b", "distance", "rows", "row"] ["table", "a", "b", "distance"] (defScope s_far) := ⟨rfl, rfl, rfl, by decide +kernel, rfl, by decide +kernel, by decide +kernel⟩
def b_far : Bm := (bseq (bset 4 (thw (mcomp (isrc srcA (mv 0)) (gnm 5) tyes (thw (primF fList (acons (mv 5) anil))) [5])))
  (bseq (bsub (mv 3) (prim fIx (acons (mv 4) (acons (mv 1) anil))) (mv 2))
  (bseq (bsub (mv 3) (prim fIx (acons (mv 4) (acons (mv 2) anil))) (mv 1))
  (bret (prim fTuple (acons (frz (mcomp (isrc srcA (mv 4)) (gnm 5) tyes (prim fTuple (acons (mv 5) anil)) [5])) anil))))))
def m_far : Fm := runDef 4 6 b_far
theorem d_far (B : Bl mg) (D : DefF K mg "_law_far" s_far ["table", "a", "b", "distance"]) : FnM P w K mg base 1 "_law_far" m_far :=
  mk_def D sc_far fun f cdv A outer s H E hr => (mss_cons (ms_setLc (i := 4) (own := [("row", 5)]) (fun h => thw_read h) rfl sc_far.nd rfl rfl (sw_true rfl rfl rfl (by decide +kernel)) (mi_any (mev 0)) (blkOk_by (by rfl)) (by decide) (fun s H C cl fp => (mgn 5 sc_far.nd)) (fun s H C cl fp => mts_nil) (fun s H C cl fp => (me_thw (mc_list B rfl (ma_cons (mev 5) ma_nil)))))
  (mss_cons (ms_sub (mev 3) (me_item (mev 4) (mev 1) (fun _ _ => rfl)) (mev 2))
  (mss_cons (ms_sub (mev 3) (me_item (mev 4) (mev 2) (fun _ _ => rfl)) (mev 1))
  (mss_one (ms_ret (mc_tuple B rfl (ma_cons (me_frz (mf_comp (own := [("row", 5)]) rfl sc_far.nd (mi_any (mev 4)) (blkOk_by (by rfl)) (by decide) (fun s H C cl fp => (mgn 5 sc_far.nd)) (fun s H C cl fp => mts_nil) (fun s H C cl fp => (mc_tuple B rfl (ma_cons (mev 5) ma_nil))))) ma_nil)))))))
/-! _law_changed: 0 draws, 1 table, 2 n, 3 turn, 4 a, 5 b, 6 far -/
abbrev s_changed : Stmt := topS 33
theorem sc_changed : FnScope ["draws", "table", "n", "turn", "a", "b", "far"] ["draws", "table"] (defScope s_changed) := ⟨rfl, rfl, rfl, by decide +kernel, rfl, by decide +kernel, by decide +kernel⟩
def b_changed : Bm := (bseq (bset 2 (prim fLen (acons (mv 1) anil)))
  (bseq (bcond (tor (tst (prim fEq (acons (mv 2) (acons (mk (.int 1)) anil)))) (tst (prim fEq (acons (mcall m_take (acons (mv 0) (acons (mk (.int 4)) anil))) (acons (mk (.int 0)) anil))))) (bret (mcall m_shifted (acons (mv 1) (acons (mcall m_pick (acons (mv 0) (acons (frz (primF fLst (acons (mk (.int 0)) (acons (mk (.int 1)) (acons (mk (.int 2)) (acons (prim fNeg (acons (mk (.int 1)) anil)) (acons (mk (.int 5)) anil))))))) anil))) anil)))) bnil)
  (bseq (bfor (iargs rg1 (acons (prim fAdd (acons (mk (.int 1)) (acons (mcall m_take (acons (mv 0) (acons (mk (.int 2)) anil))) anil))) anil)) (gnm 3)
  (bseq (bset 4 (mcall m_take (acons (mv 0) (acons (mv 2) anil))))
  (bseq (bset 5 (prim fMod (acons (prim fInt (acons (prim fAdd (acons (prim fAdd (acons (mv 4) (acons (mk (.int 1)) anil))) (acons (mcall m_take (acons (mv 0) (acons (prim fSub (acons (mv 2) (acons (mk (.int 1)) anil))) anil))) anil))) anil)) (acons (mv 2) anil))))
  (bseq (bset 6 (mcall m_pick (acons (mv 0) (acons (frz (primF fLst (acons (mk (.int 0)) (acons (mk (.int 1)) (acons (mk (.int 2)) (acons (prim fAdd (acons (prim fIx (acons (prim fIx (acons (mv 1) (acons (mv 4) anil))) (acons (mv 5) anil))) (acons (mk (.int 1)) anil))) (acons (prim fAdd (acons (prim fIx (acons (prim fIx (acons (mv 1) (acons (mv 4) anil))) (acons (mv 5) anil))) (acons (mk (.int 3)) anil))) (acons (prim fMax2 (acons (mk (.int 0)) (acons (prim fSub (acons (prim fIx (acons (prim fIx (acons (mv 1) (acons (mv 4) anil))) (acons (mv 5) anil))) (acons (mk (.int 1)) anil))) anil))) (acons (mk (.int 40)) anil))))))))) anil))))
  (bset 1 (mcall m_far (acons (mv 1) (acons (mv 4) (acons (mv 5) (acons (mv 6) anil))))))))))
  (bret (mv 1)))))
def m_changed : Fm := runDef 2 7 b_changed
theorem d_changed (B : Bl mg) (D : DefF K mg "_law_changed" s_changed ["draws", "table"]) (h_shifted : FnM P w K mg base 3 "_law_shifted" m_shifted) (h_take : FnM P w K mg base 1 "_law_take" m_take) (h_pick : FnM P w K mg base 2 "_law_pick" m_pick) (h_far : FnM P w K mg base 1 "_law_far" m_far) : FnM P w K mg base 4 "_law_changed" m_changed :=
  mk_def D sc_changed fun f cdv A outer s H E hr => (mss_cons (ms_st 2 sc_changed.nd (mc_len B rfl (ma_cons (mev 1) ma_nil)))
  (mss_cons (ms_if (PW.pt (mw_or (mq_eq hr (mev 2) me_int) (mw_one_or (mq_eq hr (me_call h_take hr (by decide) rfl (ma_cons (mev 0) (ma_cons me_int ma_nil))) me_int)))) (mss_one (ms_ret (me_call h_shifted hr (by decide) rfl (ma_cons (mev 1) (ma_cons (me_call h_pick hr (by decide) rfl (ma_cons (mev 0) (ma_cons (me_frz (mf_lst (ma_cons me_int (ma_cons me_int (ma_cons me_int (ma_cons (me_neg me_int) (ma_cons me_int ma_nil))))))) ma_nil))) ma_nil))))) mss_nil)
  (mss_cons (ms_for PassesOwn.never rfl (mi_range1 rfl B.range (ma_cons (me_add me_int (me_call h_take hr (by decide) rfl (ma_cons (mev 0) (ma_cons me_int ma_nil)))) ma_nil)) (mgn 3 sc_changed.nd)
  (mss_cons (ms_st 4 sc_changed.nd (me_call h_take hr (by decide) rfl (ma_cons (mev 0) (ma_cons (mev 2) ma_nil))))
  (mss_cons (ms_st 5 sc_changed.nd (me_mod (mc_int B rfl (ma_cons (me_add (me_add (mev 4) me_int) (me_call h_take hr (by decide) rfl (ma_cons (mev 0) (ma_cons (me_sub (mev 2) me_int) ma_nil)))) ma_nil)) (mev 2)))
  (mss_cons (ms_st 6 sc_changed.nd (me_call h_pick hr (by decide) rfl (ma_cons (mev 0) (ma_cons (me_frz (mf_lst (ma_cons me_int (ma_cons me_int (ma_cons me_int (ma_cons (me_add (me_item (me_item (mev 1) (mev 4) (fun _ _ => rfl)) (mev 5) (fun _ _ => rfl)) me_int) (ma_cons (me_add (me_item (me_item (mev 1) (mev 4) (fun _ _ => rfl)) (mev 5) (fun _ _ => rfl)) me_int) (ma_cons (mc_max2 B rfl (ma_cons me_int (ma_cons (me_sub (me_item (me_item (mev 1) (mev 4) (fun _ _ => rfl)) (mev 5) (fun _ _ => rfl)) me_int) ma_nil))) (ma_cons me_int ma_nil))))))))) ma_nil))))
  (mss_one (ms_st 1 sc_changed.nd (me_call h_far hr (by decide) rfl (ma_cons (mev 1) (ma_cons (mev 4) (ma_cons (mev 5) (ma_cons (mev 6) ma_nil)))))))))))
  (mss_one (ms_ret (mev 1))))))
/-! law: 0 script, 1 draws, 2 n, 3 one, 4 table -/
abbrev s_law : Stmt := topS 35
theorem sc_law : FnScope ["script", "draws", "n", "one", "table"] ["script"] (defScope s_law) := ⟨rfl, rfl, rfl, by decide +kernel, rfl, by decide +kernel, by decide +kernel⟩
def b_law : Bm := (bseq (bset 1 (thw (mcallF m_draws (acons (mv 0) (acons (mk (.int 900)) anil)))))
  (bseq (bfor (isrc srcA (frz (primF fLst (acons (prim fAdd (acons (mk (.int 2)) (acons (mcall m_take (acons (mv 1) (acons (mk (.int 7)) anil))) anil))) (acons (prim fAdd (acons (mk (.int 1)) (acons (mcall m_take (acons (mv 1) (acons (mk (.int 4)) anil))) anil))) (acons (prim fAdd (acons (mk (.int 3)) (acons (mcall m_take (acons (mv 1) (acons (mk (.int 4)) anil))) anil))) anil)))))) (gnm 2)
  (bseq (bset 3 (mcall m_table (acons (mv 1) (acons (mv 2) anil))))
  (bseq (bcond (tnot (tst (mcall m_right (acons (mv 1) (acons (mv 3) (acons (mcall m_table (acons (mv 1) (acons (mv 2) anil))) anil)))))) (bret (mk (.bl false))) bnil)
  (bcond (tnot (tst (mcall m_right (acons (mv 1) (acons (mv 3) (acons (mcall m_changed (acons (mv 1) (acons (mv 3) anil))) anil)))))) (bret (mk (.bl false))) bnil))))
  (bseq (bset 4 (mcall m_from_pairs (acons (mk (.int 3)) (acons (frz (primF fLst (acons (mk (.int 1)) (acons (mk (.int 8)) (acons (mk (.int 5)) anil))))) anil))))
  (bseq (bcond (tnot (tst (mcall m_same (acons (mcall m_p_farthest_pair (acons (mv 4) (acons (mcall m_from_pairs (acons (mk (.int 3)) (acons (frz (primF fLst (acons (mk (.int 1)) (acons (mk (.int 5)) (acons (mk (.int 2)) anil))))) anil))) anil))) (acons (prim fTup (acons (mk (.int 0)) (acons (mk (.int 2)) anil))) anil))))) (bret (mk (.bl false))) bnil)
  (bret (mcall m_same (acons (mcall m_p_trees_apart (acons (mv 4) (acons (mcall m_from_pairs (acons (mk (.int 3)) (acons (frz (primF fLst (acons (mk (.int 1)) (acons (mk (.int 9)) (acons (mk (.int 5)) anil))))) anil))) anil))) (acons (mk (.int 0)) anil))))))))
def m_law : Fm := runDef 1 5 b_law
theorem d_law (B : Bl mg) {f : Addr} {fd : FuncData} (F : Fun K "law" "law" s_law f fd) (h_draws : FnM P w K mg base 1 "_law_draws" m_draws) (h_from_pairs : FnM P w K mg base 2 "_law_from_pairs" m_from_pairs) (h_same : FnM P w K mg base 9 "_law_same" m_same) (h_table : FnM P w K mg base 5 "_law_table" m_table) (h_p_trees_apart : FnM P w K mg base 3 "trees_apart" m_p_trees_apart) (h_take : FnM P w K mg base 1 "_law_take" m_take) (h_right : FnM P w K mg base 10 "_law_right" m_right) (h_p_farthest_pair : FnM P w K mg base 3 "farthest_pair" m_p_farthest_pair) (h_changed : FnM P w K mg base 4 "_law_changed" m_changed) : FnOk P w K mg base CX0 11 f fd ["script"] (spM K m_law) :=
  mk_ok F sc_law fun f cdv A outer s H E hr => (mss_cons (ms_st 1 sc_law.nd (me_thw (mf_call h_draws hr (by decide) rfl (ma_cons (mev 0) (ma_cons me_int ma_nil)))))
  (mss_cons (ms_for PassesOwn.never rfl (mi_any (me_frz (mf_lst (ma_cons (me_add me_int (me_call h_take hr (by decide) rfl (ma_cons (mev 1) (ma_cons me_int ma_nil)))) (ma_cons (me_add me_int (me_call h_take hr (by decide) rfl (ma_cons (mev 1) (ma_cons me_int ma_nil)))) (ma_cons (me_add me_int (me_call h_take hr (by decide) rfl (ma_cons (mev 1) (ma_cons me_int ma_nil)))) ma_nil)))))) (mgn 2 sc_law.nd)
  (mss_cons (ms_st 3 sc_law.nd (me_call h_table hr (by decide) rfl (ma_cons (mev 1) (ma_cons (mev 2) ma_nil))))
  (mss_cons (ms_if (mt_not (mt_val (me_call h_right hr (by decide) rfl (ma_cons (mev 1) (ma_cons (mev 3) (ma_cons (me_call h_table hr (by decide) rfl (ma_cons (mev 1) (ma_cons (mev 2) ma_nil))) ma_nil)))))) (mss_one (ms_ret me_bl)) mss_nil)
  (mss_one (ms_if (mt_not (mt_val (me_call h_right hr (by decide) rfl (ma_cons (mev 1) (ma_cons (mev 3) (ma_cons (me_call h_changed hr (by decide) rfl (ma_cons (mev 1) (ma_cons (mev 3) ma_nil))) ma_nil)))))) (mss_one (ms_ret me_bl)) mss_nil)))))
  (mss_cons (ms_st 4 sc_law.nd (me_call h_from_pairs hr (by decide) rfl (ma_cons me_int (ma_cons (me_frz (mf_lst (ma_cons me_int (ma_cons me_int (ma_cons me_int ma_nil))))) ma_nil))))
  (mss_cons (ms_if (mt_not (mt_val (me_call h_same hr (by decide) rfl (ma_cons (me_call h_p_farthest_pair hr (by decide) rfl (ma_cons (mev 4) (ma_cons (me_call h_from_pairs hr (by decide) rfl (ma_cons me_int (ma_cons (me_frz (mf_lst (ma_cons me_int (ma_cons me_int (ma_cons me_int ma_nil))))) ma_nil))) ma_nil))) (ma_cons (me_tup (ma_cons me_int (ma_cons me_int ma_nil))) ma_nil))))) (mss_one (ms_ret me_bl)) mss_nil)
  (mss_one (ms_ret (me_call h_same hr (by decide) rfl (ma_cons (me_call h_p_trees_apart hr (by decide) rfl (ma_cons (mev 4) (ma_cons (me_call h_from_pairs hr (by decide) rfl (ma_cons me_int (ma_cons (me_frz (mf_lst (ma_cons me_int (ma_cons me_int (ma_cons me_int ma_nil))))) ma_nil))) ma_nil))) (ma_cons me_int ma_nil)))))))))
structure Ds (K : PySem.W.Frag) (mg : Str → Option Value) : Prop where
  b : Bl mg
  draws : DefF K mg "_law_draws" s_draws ["script", "many"]
  pairs : DefF K mg "_law_pairs" s_pairs ["n"]
  from_pairs : DefF K mg "_law_from_pairs" s_from_pairs ["n", "distances"]
  same : DefF K mg "_law_same" s_same ["actual", "due"]
  take : DefF K mg "_law_take" s_take ["draws", "many"]
  pick : DefF K mg "_law_pick" s_pick ["draws", "row"]
  scale : DefF K mg "_law_scale" s_scale ["draws"]
  any_table : DefF K mg "_law_any_table" s_any_table ["draws", "n"]
  line_table : DefF K mg "_law_line_table" s_line_table ["draws", "n"]
  plane_table : DefF K mg "_law_plane_table" s_plane_table ["draws", "n"]
  shuffled : DefF K mg "_law_shuffled" s_shuffled ["draws", "row"]
  plain_table : DefF K mg "_law_plain_table" s_plain_table ["draws", "n"]
  part : DefF K mg "_law_part" s_part ["table", "things"]
  named : DefF K mg "_law_named" s_named ["draws", "table"]
  even_table : DefF K mg "_law_even_table" s_even_table ["draws", "n"]
  table : DefF K mg "_law_table" s_table ["draws", "n"]
  p_pairs_of : DefF K mg "pairs_of" s_p_pairs_of ["n"]
  p_tables_apart : DefF K mg "tables_apart" s_p_tables_apart ["one", "other"]
  p_table_of_rows : DefF K mg "table_of_rows" s_p_table_of_rows ["rows"]
  p_path_heights : DefF K mg "path_heights" s_p_path_heights ["table"]
  p_height_table : DefF K mg "height_table" s_p_height_table ["table"]
  p_trees_apart : DefF K mg "trees_apart" s_p_trees_apart ["one", "other"]
  off : DefF K mg "_law_off" s_off ["one", "other"]
  p_farthest_pair : DefF K mg "farthest_pair" s_p_farthest_pair ["one", "other"]
  p_path_height : DefF K mg "path_height" s_p_path_height ["table", "a", "b"]
  heights : DefF K mg "_law_heights" s_heights ["table"]
  right : DefF K mg "_law_right" s_right ["draws", "one", "other"]
  shifted : DefF K mg "_law_shifted" s_shifted ["table", "e"]
  far : DefF K mg "_law_far" s_far ["table", "a", "b", "distance"]
  changed : DefF K mg "_law_changed" s_changed ["draws", "table"]
theorem d_all (D : Ds K mg) {f : Addr} {fd : FuncData} (F : Fun K "law" "law" s_law f fd) : FnOk P w K mg base CX0 11 f fd ["script"] (spM K m_law) :=
  have h_draws : FnM P w K mg base 1 "_law_draws" m_draws := d_draws D.b D.draws
  have h_pairs : FnM P w K mg base 1 "_law_pairs" m_pairs := d_pairs D.b D.pairs
  have h_from_pairs : FnM P w K mg base 2 "_law_from_pairs" m_from_pairs := d_from_pairs D.b D.from_pairs h_pairs
  have h_same : FnM P w K mg base 9 "_law_same" m_same := d_same D.b D.same
  have h_take : FnM P w K mg base 1 "_law_take" m_take := d_take D.b D.take
  have h_pick : FnM P w K mg base 2 "_law_pick" m_pick := d_pick D.b D.pick h_take
  have h_scale : FnM P w K mg base 3 "_law_scale" m_scale := d_scale D.b D.scale h_take h_pick
  have h_any_table : FnM P w K mg base 4 "_law_any_table" m_any_table := d_any_table D.b D.any_table h_scale h_pick h_from_pairs h_take h_pairs
  have h_line_table : FnM P w K mg base 4 "_law_line_table" m_line_table := d_line_table D.b D.line_table h_scale h_from_pairs h_take h_pairs
  have h_plane_table : FnM P w K mg base 3 "_law_plane_table" m_plane_table := d_plane_table D.b D.plane_table h_pairs h_from_pairs h_take
  have h_shuffled : FnM P w K mg base 2 "_law_shuffled" m_shuffled := d_shuffled D.b D.shuffled h_take
  have h_plain_table : FnM P w K mg base 3 "_law_plain_table" m_plain_table := d_plain_table D.b D.plain_table h_pairs h_from_pairs h_shuffled
  have h_part : FnM P w K mg base 1 "_law_part" m_part := d_part D.b D.part
  have h_named : FnM P w K mg base 3 "_law_named" m_named := d_named D.b D.named h_shuffled h_part
  have h_even_table : FnM P w K mg base 3 "_law_even_table" m_even_table := d_even_table D.b D.even_table h_from_pairs h_take h_pairs
  have h_table : FnM P w K mg base 5 "_law_table" m_table := d_table D.b D.table h_take h_any_table h_line_table h_plane_table h_plain_table h_named h_even_table
  have h_p_pairs_of : FnM P w K mg base 1 "pairs_of" m_p_pairs_of := d_p_pairs_of D.b D.p_pairs_of
  have h_p_tables_apart : FnM P w K mg base 2 "tables_apart" m_p_tables_apart := d_p_tables_apart D.b D.p_tables_apart h_p_pairs_of
  have h_p_table_of_rows : FnM P w K mg base 1 "table_of_rows" m_p_table_of_rows := d_p_table_of_rows D.b D.p_table_of_rows
  have h_p_path_heights : FnM P w K mg base 1 "path_heights" m_p_path_heights := d_p_path_heights D.b D.p_path_heights
  have h_p_height_table : FnM P w K mg base 2 "height_table" m_p_height_table := d_p_height_table D.b D.p_height_table h_p_table_of_rows h_p_path_heights
  have h_p_trees_apart : FnM P w K mg base 3 "trees_apart" m_p_trees_apart := d_p_trees_apart D.b D.p_trees_apart h_p_tables_apart h_p_height_table
  have h_off : FnM P w K mg base 1 "_law_off" m_off := d_off D.b D.off
  have h_p_farthest_pair : FnM P w K mg base 3 "farthest_pair" m_p_farthest_pair := d_p_farthest_pair D.b D.p_farthest_pair h_p_tables_apart h_p_pairs_of h_p_height_table
  have h_p_path_height : FnM P w K mg base 2 "path_height" m_p_path_height := d_p_path_height D.b D.p_path_height h_p_path_heights
  have h_heights : FnM P w K mg base 1 "_law_heights" m_heights := d_heights D.b D.heights
  have h_right : FnM P w K mg base 10 "_law_right" m_right := d_right D.b D.right h_take h_off h_same h_p_farthest_pair h_p_path_height h_p_trees_apart h_pairs h_heights h_p_height_table h_p_tables_apart
  have h_shifted : FnM P w K mg base 3 "_law_shifted" m_shifted := d_shifted D.b D.shifted h_from_pairs h_pairs
  have h_far : FnM P w K mg base 1 "_law_far" m_far := d_far D.b D.far
  have h_changed : FnM P w K mg base 4 "_law_changed" m_changed := d_changed D.b D.changed h_shifted h_take h_pick h_far
  d_law D.b F h_draws h_from_pairs h_same h_table h_p_trees_apart h_take h_right h_p_farthest_pair h_changed
theorem all_mk {l : PySem.W.OpenLaw} {w : World} {K : PySem.W.Frag} {h : Heap} {mg : Str → Option Value} {fa : Addr} (X : K.In h) (G : h.Ns mainGlobals mg) (hfa : mg "law" = some (.ref fa))
    {f0 : Addr} {od0 an0 : Option Addr} {sl0 : Array (Option Value)} {oc0 kV0 dc0 pm0 cd0 ct0 : Value} {f1 : Addr} {od1 an1 : Option Addr} {sl1 : Array (Option Value)} {oc1 kV1 dc1 pm1 cd1 ct1 : Value} {f2 : Addr} {od2 an2 : Option Addr} {sl2 : Array (Option Value)} {oc2 kV2 dc2 pm2 cd2 ct2 : Value} {f3 : Addr} {od3 an3 : Option Addr} {sl3 : Array (Option Value)} {oc3 kV3 dc3 pm3 cd3 ct3 : Value} {f4 : Addr} {od4 an4 : Option Addr} {sl4 : Array (Option Value)} {oc4 kV4 dc4 pm4 cd4 ct4 : Value} {f5 : Addr} {od5 an5 : Option Addr} {sl5 : Array (Option Value)} {oc5 kV5 dc5 pm5 cd5 ct5 : Value} {f6 : Addr} {od6 an6 : Option Addr} {sl6 : Array (Option Value)} {oc6 kV6 dc6 pm6 cd6 ct6 : Value} {f7 : Addr} {od7 an7 : Option Addr} {sl7 : Array (Option Value)} {oc7 kV7 dc7 pm7 cd7 ct7 : Value} {f8 : Addr} {od8 an8 : Option Addr} {sl8 : Array (Option Value)} {oc8 kV8 dc8 pm8 cd8 ct8 : Value} {f9 : Addr} {od9 an9 : Option Addr} {sl9 : Array (Option Value)} {oc9 kV9 dc9 pm9 cd9 ct9 : Value} {f10 : Addr} {od10 an10 : Option Addr} {sl10 : Array (Option Value)} {oc10 kV10 dc10 pm10 cd10 ct10 : Value} {f11 : Addr} {od11 an11 : Option Addr} {sl11 : Array (Option Value)} {oc11 kV11 dc11 pm11 cd11 ct11 : Value} {f12 : Addr} {od12 an12 : Option Addr} {sl12 : Array (Option Value)} {oc12 kV12 dc12 pm12 cd12 ct12 : Value} {f13 : Addr} {od13 an13 : Option Addr} {sl13 : Array (Option Value)} {oc13 kV13 dc13 pm13 cd13 ct13 : Value} {f14 : Addr} {od14 an14 : Option Addr} {sl14 : Array (Option Value)} {oc14 kV14 dc14 pm14 cd14 ct14 : Value} {f15 : Addr} {od15 an15 : Option Addr} {sl15 : Array (Option Value)} {oc15 kV15 dc15 pm15 cd15 ct15 : Value} {f16 : Addr} {od16 an16 : Option Addr} {sl16 : Array (Option Value)} {oc16 kV16 dc16 pm16 cd16 ct16 : Value} {f17 : Addr} {od17 an17 : Option Addr} {sl17 : Array (Option Value)} {oc17 kV17 dc17 pm17 cd17 ct17 : Value} {f18 : Addr} {od18 an18 : Option Addr} {sl18 : Array (Option Value)} {oc18 kV18 dc18 pm18 cd18 ct18 : Value} {f19 : Addr} {od19 an19 : Option Addr} {sl19 : Array (Option Value)} {oc19 kV19 dc19 pm19 cd19 ct19 : Value} {f20 : Addr} {od20 an20 : Option Addr} {sl20 : Array (Option Value)} {oc20 kV20 dc20 pm20 cd20 ct20 : Value} {f21 : Addr} {od21 an21 : Option Addr} {sl21 : Array (Option Value)} {oc21 kV21 dc21 pm21 cd21 ct21 : Value} {f22 : Addr} {od22 an22 : Option Addr} {sl22 : Array (Option Value)} {oc22 kV22 dc22 pm22 cd22 ct22 : Value} {f23 : Addr} {od23 an23 : Option Addr} {sl23 : Array (Option Value)} {oc23 kV23 dc23 pm23 cd23 ct23 : Value} {f24 : Addr} {od24 an24 : Option Addr} {sl24 : Array (Option Value)} {oc24 kV24 dc24 pm24 cd24 ct24 : Value} {f25 : Addr} {od25 an25 : Option Addr} {sl25 : Array (Option Value)} {oc25 kV25 dc25 pm25 cd25 ct25 : Value} {f26 : Addr} {od26 an26 : Option Addr} {sl26 : Array (Option Value)} {oc26 kV26 dc26 pm26 cd26 ct26 : Value} {f27 : Addr} {od27 an27 : Option Addr} {sl27 : Array (Option Value)} {oc27 kV27 dc27 pm27 cd27 ct27 : Value} {f28 : Addr} {od28 an28 : Option Addr} {sl28 : Array (Option Value)} {oc28 kV28 dc28 pm28 cd28 ct28 : Value} {f29 : Addr} {od29 an29 : Option Addr} {sl29 : Array (Option Value)} {oc29 kV29 dc29 pm29 cd29 ct29 : Value} {f30 : Addr} {od30 an30 : Option Addr} {sl30 : Array (Option Value)} {oc30 kV30 dc30 pm30 cd30 ct30 : Value}
    (a0 : PySem.W.nsIn K mainGlobals "_law_draws" = some (some (.ref f0))) (l0 : K.lookup f0 = some ⟨oc0, od0, .func (PySem.W.fnOf "_law_draws" "_law_draws" (defArgs s_draws) (defBody s_draws) (defScope s_draws) .none kV0 dc0 pm0 an0 cd0 ct0), sl0⟩) (c0 : PySem.W.codeIn K cd0 "_law_draws" = true) (k0 : PySem.W.keepIn K (.ref f0) = true)
    (a1 : PySem.W.nsIn K mainGlobals "_law_pairs" = some (some (.ref f1))) (l1 : K.lookup f1 = some ⟨oc1, od1, .func (PySem.W.fnOf "_law_pairs" "_law_pairs" (defArgs s_pairs) (defBody s_pairs) (defScope s_pairs) .none kV1 dc1 pm1 an1 cd1 ct1), sl1⟩) (c1 : PySem.W.codeIn K cd1 "_law_pairs" = true) (k1 : PySem.W.keepIn K (.ref f1) = true)
    (a2 : PySem.W.nsIn K mainGlobals "_law_from_pairs" = some (some (.ref f2))) (l2 : K.lookup f2 = some ⟨oc2, od2, .func (PySem.W.fnOf "_law_from_pairs" "_law_from_pairs" (defArgs s_from_pairs) (defBody s_from_pairs) (defScope s_from_pairs) .none kV2 dc2 pm2 an2 cd2 ct2), sl2⟩) (c2 : PySem.W.codeIn K cd2 "_law_from_pairs" = true) (k2 : PySem.W.keepIn K (.ref f2) = true)
    (a3 : PySem.W.nsIn K mainGlobals "_law_same" = some (some (.ref f3))) (l3 : K.lookup f3 = some ⟨oc3, od3, .func (PySem.W.fnOf "_law_same" "_law_same" (defArgs s_same) (defBody s_same) (defScope s_same) .none kV3 dc3 pm3 an3 cd3 ct3), sl3⟩) (c3 : PySem.W.codeIn K cd3 "_law_same" = true) (k3 : PySem.W.keepIn K (.ref f3) = true)
    (a4 : PySem.W.nsIn K mainGlobals "_law_take" = some (some (.ref f4))) (l4 : K.lookup f4 = some ⟨oc4, od4, .func (PySem.W.fnOf "_law_take" "_law_take" (defArgs s_take) (defBody s_take) (defScope s_take) .none kV4 dc4 pm4 an4 cd4 ct4), sl4⟩) (c4 : PySem.W.codeIn K cd4 "_law_take" = true) (k4 : PySem.W.keepIn K (.ref f4) = true)
    (a5 : PySem.W.nsIn K mainGlobals "_law_pick" = some (some (.ref f5))) (l5 : K.lookup f5 = some ⟨oc5, od5, .func (PySem.W.fnOf "_law_pick" "_law_pick" (defArgs s_pick) (defBody s_pick) (defScope s_pick) .none kV5 dc5 pm5 an5 cd5 ct5), sl5⟩) (c5 : PySem.W.codeIn K cd5 "_law_pick" = true) (k5 : PySem.W.keepIn K (.ref f5) = true)
    (a6 : PySem.W.nsIn K mainGlobals "_law_scale" = some (some (.ref f6))) (l6 : K.lookup f6 = some ⟨oc6, od6, .func (PySem.W.fnOf "_law_scale" "_law_scale" (defArgs s_scale) (defBody s_scale) (defScope s_scale) .none kV6 dc6 pm6 an6 cd6 ct6), sl6⟩) (c6 : PySem.W.codeIn K cd6 "_law_scale" = true) (k6 : PySem.W.keepIn K (.ref f6) = true)
    (a7 : PySem.W.nsIn K mainGlobals "_law_any_table" = some (some (.ref f7))) (l7 : K.lookup f7 = some ⟨oc7, od7, .func (PySem.W.fnOf "_law_any_table" "_law_any_table" (defArgs s_any_table) (defBody s_any_table) (defScope s_any_table) .none kV7 dc7 pm7 an7 cd7 ct7), sl7⟩) (c7 : PySem.W.codeIn K cd7 "_law_any_table" = true) (k7 : PySem.W.keepIn K (.ref f7) = true)
    (a8 : PySem.W.nsIn K mainGlobals "_law_line_table" = some (some (.ref f8))) (l8 : K.lookup f8 = some ⟨oc8, od8, .func (PySem.W.fnOf "_law_line_table" "_law_line_table" (defArgs s_line_table) (defBody s_line_table) (defScope s_line_table) .none kV8 dc8 pm8 an8 cd8 ct8), sl8⟩) (c8 : PySem.W.codeIn K cd8 "_law_line_table" = true) (k8 : PySem.W.keepIn K (.ref f8) = true)
    (a9 : PySem.W.nsIn K mainGlobals "_law_plane_table" = some (some (.ref f9))) (l9 : K.lookup f9 = some ⟨oc9, od9, .func (PySem.W.fnOf "_law_plane_table" "_law_plane_table" (defArgs s_plane_table) (defBody s_plane_table) (defScope s_plane_table) .none kV9 dc9 pm9 an9 cd9 ct9), sl9⟩) (c9 : PySem.W.codeIn K cd9 "_law_plane_table" = true) (k9 : PySem.W.keepIn K (.ref f9) = true)
    (a10 : PySem.W.nsIn K mainGlobals "_law_shuffled" = some (some (.ref f10))) (l10 : K.lookup f10 = some ⟨oc10, od10, .func (PySem.W.fnOf "_law_shuffled" "_law_shuffled" (defArgs s_shuffled) (defBody s_shuffled) (defScope s_shuffled) .none kV10 dc10 pm10 an10 cd10 ct10), sl10⟩) (c10 : PySem.W.codeIn K cd10 "_law_shuffled" = true) (k10 : PySem.W.keepIn K (.ref f10) = true)
    (a11 : PySem.W.nsIn K mainGlobals "_law_plain_table" = some (some (.ref f11))) (l11 : K.lookup f11 = some ⟨oc11, od11, .func (PySem.W.fnOf "_law_plain_table" "_law_plain_table" (defArgs s_plain_table) (defBody s_plain_table) (defScope s_plain_table) .none kV11 dc11 pm11 an11 cd11 ct11), sl11⟩) (c11 : PySem.W.codeIn K cd11 "_law_plain_table" = true) (k11 : PySem.W.keepIn K (.ref f11) = true)
    (a12 : PySem.W.nsIn K mainGlobals "_law_part" = some (some (.ref f12))) (l12 : K.lookup f12 = some ⟨oc12, od12, .func (PySem.W.fnOf "_law_part" "_law_part" (defArgs s_part) (defBody s_part) (defScope s_part) .none kV12 dc12 pm12 an12 cd12 ct12), sl12⟩) (c12 : PySem.W.codeIn K cd12 "_law_part" = true) (k12 : PySem.W.keepIn K (.ref f12) = true)
    (a13 : PySem.W.nsIn K mainGlobals "_law_named" = some (some (.ref f13))) (l13 : K.lookup f13 = some ⟨oc13, od13, .func (PySem.W.fnOf "_law_named" "_law_named" (defArgs s_named) (defBody s_named) (defScope s_named) .none kV13 dc13 pm13 an13 cd13 ct13), sl13⟩) (c13 : PySem.W.codeIn K cd13 "_law_named" = true) (k13 : PySem.W.keepIn K (.ref f13) = true)
    (a14 : PySem.W.nsIn K mainGlobals "_law_even_table" = some (some (.ref f14))) (l14 : K.lookup f14 = some ⟨oc14, od14, .func (PySem.W.fnOf "_law_even_table" "_law_even_table" (defArgs s_even_table) (defBody s_even_table) (defScope s_even_table) .none kV14 dc14 pm14 an14 cd14 ct14), sl14⟩) (c14 : PySem.W.codeIn K cd14 "_law_even_table" = true) (k14 : PySem.W.keepIn K (.ref f14) = true)
    (a15 : PySem.W.nsIn K mainGlobals "_law_table" = some (some (.ref f15))) (l15 : K.lookup f15 = some ⟨oc15, od15, .func (PySem.W.fnOf "_law_table" "_law_table" (defArgs s_table) (defBody s_table) (defScope s_table) .none kV15 dc15 pm15 an15 cd15 ct15), sl15⟩) (c15 : PySem.W.codeIn K cd15 "_law_table" = true) (k15 : PySem.W.keepIn K (.ref f15) = true)
    (a16 : PySem.W.nsIn K mainGlobals "pairs_of" = some (some (.ref f16))) (l16 : K.lookup f16 = some ⟨oc16, od16, .func (PySem.W.fnOf "pairs_of" "pairs_of" (defArgs s_p_pairs_of) (defBody s_p_pairs_of) (defScope s_p_pairs_of) .none kV16 dc16 pm16 an16 cd16 ct16), sl16⟩) (c16 : PySem.W.codeIn K cd16 "pairs_of" = true) (k16 : PySem.W.keepIn K (.ref f16) = true)
    (a17 : PySem.W.nsIn K mainGlobals "tables_apart" = some (some (.ref f17))) (l17 : K.lookup f17 = some ⟨oc17, od17, .func (PySem.W.fnOf "tables_apart" "tables_apart" (defArgs s_p_tables_apart) (defBody s_p_tables_apart) (defScope s_p_tables_apart) .none kV17 dc17 pm17 an17 cd17 ct17), sl17⟩) (c17 : PySem.W.codeIn K cd17 "tables_apart" = true) (k17 : PySem.W.keepIn K (.ref f17) = true)
    (a18 : PySem.W.nsIn K mainGlobals "table_of_rows" = some (some (.ref f18))) (l18 : K.lookup f18 = some ⟨oc18, od18, .func (PySem.W.fnOf "table_of_rows" "table_of_rows" (defArgs s_p_table_of_rows) (defBody s_p_table_of_rows) (defScope s_p_table_of_rows) .none kV18 dc18 pm18 an18 cd18 ct18), sl18⟩) (c18 : PySem.W.codeIn K cd18 "table_of_rows" = true) (k18 : PySem.W.keepIn K (.ref f18) = true)
    (a19 : PySem.W.nsIn K mainGlobals "path_heights" = some (some (.ref f19))) (l19 : K.lookup f19 = some ⟨oc19, od19, .func (PySem.W.fnOf "path_heights" "path_heights" (defArgs s_p_path_heights) (defBody s_p_path_heights) (defScope s_p_path_heights) .none kV19 dc19 pm19 an19 cd19 ct19), sl19⟩) (c19 : PySem.W.codeIn K cd19 "path_heights" = true) (k19 : PySem.W.keepIn K (.ref f19) = true)
    (a20 : PySem.W.nsIn K mainGlobals "height_table" = some (some (.ref f20))) (l20 : K.lookup f20 = some ⟨oc20, od20, .func (PySem.W.fnOf "height_table" "height_table" (defArgs s_p_height_table) (defBody s_p_height_table) (defScope s_p_height_table) .none kV20 dc20 pm20 an20 cd20 ct20), sl20⟩) (c20 : PySem.W.codeIn K cd20 "height_table" = true) (k20 : PySem.W.keepIn K (.ref f20) = true)
    (a21 : PySem.W.nsIn K mainGlobals "trees_apart" = some (some (.ref f21))) (l21 : K.lookup f21 = some ⟨oc21, od21, .func (PySem.W.fnOf "trees_apart" "trees_apart" (defArgs s_p_trees_apart) (defBody s_p_trees_apart) (defScope s_p_trees_apart) .none kV21 dc21 pm21 an21 cd21 ct21), sl21⟩) (c21 : PySem.W.codeIn K cd21 "trees_apart" = true) (k21 : PySem.W.keepIn K (.ref f21) = true)
    (a22 : PySem.W.nsIn K mainGlobals "_law_off" = some (some (.ref f22))) (l22 : K.lookup f22 = some ⟨oc22, od22, .func (PySem.W.fnOf "_law_off" "_law_off" (defArgs s_off) (defBody s_off) (defScope s_off) .none kV22 dc22 pm22 an22 cd22 ct22), sl22⟩) (c22 : PySem.W.codeIn K cd22 "_law_off" = true) (k22 : PySem.W.keepIn K (.ref f22) = true)
    (a23 : PySem.W.nsIn K mainGlobals "farthest_pair" = some (some (.ref f23))) (l23 : K.lookup f23 = some ⟨oc23, od23, .func (PySem.W.fnOf "farthest_pair" "farthest_pair" (defArgs s_p_farthest_pair) (defBody s_p_farthest_pair) (defScope s_p_farthest_pair) .none kV23 dc23 pm23 an23 cd23 ct23), sl23⟩) (c23 : PySem.W.codeIn K cd23 "farthest_pair" = true) (k23 : PySem.W.keepIn K (.ref f23) = true)
    (a24 : PySem.W.nsIn K mainGlobals "path_height" = some (some (.ref f24))) (l24 : K.lookup f24 = some ⟨oc24, od24, .func (PySem.W.fnOf "path_height" "path_height" (defArgs s_p_path_height) (defBody s_p_path_height) (defScope s_p_path_height) .none kV24 dc24 pm24 an24 cd24 ct24), sl24⟩) (c24 : PySem.W.codeIn K cd24 "path_height" = true) (k24 : PySem.W.keepIn K (.ref f24) = true)
    (a25 : PySem.W.nsIn K mainGlobals "_law_heights" = some (some (.ref f25))) (l25 : K.lookup f25 = some ⟨oc25, od25, .func (PySem.W.fnOf "_law_heights" "_law_heights" (defArgs s_heights) (defBody s_heights) (defScope s_heights) .none kV25 dc25 pm25 an25 cd25 ct25), sl25⟩) (c25 : PySem.W.codeIn K cd25 "_law_heights" = true) (k25 : PySem.W.keepIn K (.ref f25) = true)
    (a26 : PySem.W.nsIn K mainGlobals "_law_right" = some (some (.ref f26))) (l26 : K.lookup f26 = some ⟨oc26, od26, .func (PySem.W.fnOf "_law_right" "_law_right" (defArgs s_right) (defBody s_right) (defScope s_right) .none kV26 dc26 pm26 an26 cd26 ct26), sl26⟩) (c26 : PySem.W.codeIn K cd26 "_law_right" = true) (k26 : PySem.W.keepIn K (.ref f26) = true)
    (a27 : PySem.W.nsIn K mainGlobals "_law_shifted" = some (some (.ref f27))) (l27 : K.lookup f27 = some ⟨oc27, od27, .func (PySem.W.fnOf "_law_shifted" "_law_shifted" (defArgs s_shifted) (defBody s_shifted) (defScope s_shifted) .none kV27 dc27 pm27 an27 cd27 ct27), sl27⟩) (c27 : PySem.W.codeIn K cd27 "_law_shifted" = true) (k27 : PySem.W.keepIn K (.ref f27) = true)
    (a28 : PySem.W.nsIn K mainGlobals "_law_far" = some (some (.ref f28))) (l28 : K.lookup f28 = some ⟨oc28, od28, .func (PySem.W.fnOf "_law_far" "_law_far" (defArgs s_far) (defBody s_far) (defScope s_far) .none kV28 dc28 pm28 an28 cd28 ct28), sl28⟩) (c28 : PySem.W.codeIn K cd28 "_law_far" = true) (k28 : PySem.W.keepIn K (.ref f28) = true)
    (a29 : PySem.W.nsIn K mainGlobals "_law_changed" = some (some (.ref f29))) (l29 : K.lookup f29 = some ⟨oc29, od29, .func (PySem.W.fnOf "_law_changed" "_law_changed" (defArgs s_changed) (defBody s_changed) (defScope s_changed) .none kV29 dc29 pm29 an29 cd29 ct29), sl29⟩) (c29 : PySem.W.codeIn K cd29 "_law_changed" = true) (k29 : PySem.W.keepIn K (.ref f29) = true)
    (a30 : PySem.W.nsIn K mainGlobals "law" = some (some (.ref f30))) (l30 : K.lookup f30 = some ⟨oc30, od30, .func (PySem.W.fnOf "law" "law" (defArgs s_law) (defBody s_law) (defScope s_law) .none kV30 dc30 pm30 an30 cd30 ct30), sl30⟩) (c30 : PySem.W.codeIn K cd30 "law" = true) (k30 : PySem.W.keepIn K (.ref f30) = true)
    (z0 : PySem.W.nsIn K mainGlobals "range" = some none) (z1 : PySem.W.nsIn K mainGlobals "len" = some none) (z2 : PySem.W.nsIn K mainGlobals "int" = some none) (z3 : PySem.W.nsIn K mainGlobals "bool" = some none) (z4 : PySem.W.nsIn K mainGlobals "str" = some none) (z5 : PySem.W.nsIn K mainGlobals "tuple" = some none) (z6 : PySem.W.nsIn K mainGlobals "list" = some none) (z7 : PySem.W.nsIn K mainGlobals "set" = some none) (z8 : PySem.W.nsIn K mainGlobals "max" = some none) (z9 : PySem.W.nsIn K mainGlobals "min" = some none) (z10 : PySem.W.nsIn K mainGlobals "sum" = some none) (z11 : PySem.W.nsIn K mainGlobals "abs" = some none) (z12 : PySem.W.nsIn K mainGlobals "all" = some none) (z13 : PySem.W.nsIn K mainGlobals "any" = some none) (z14 : PySem.W.nsIn K mainGlobals "sorted" = some none) (z15 : PySem.W.nsIn K mainGlobals "isinstance" = some none) (z16 : PySem.W.nsIn K mainGlobals "enumerate" = some none) (z17 : PySem.W.nsIn K mainGlobals "zip" = some none) (z18 : PySem.W.nsIn K mainGlobals "reversed" = some none) :
    ∃ fd : FuncData, (∀ (s : Shared) (v : Value), BindsTo s fd ⟨[v], []⟩ [("script", v)]) ∧ ∀ base : Heap, K.In base → base.Ns mainGlobals mg → FnOk l.prog w K mg base CX0 11 fa fd ["script"] (spM K m_law) := by
  have e := hfa.symm.trans (PySem.W.mg_of X G a30)
  cases e
  have e0 : DefF K mg "_law_draws" s_draws ["script", "many"] := defF_mk X G a0 l0 c0 k0 fun _ _ _ _ _ _ us hl => match us, hl with | [_, _], _ => rfl
  have e1 : DefF K mg "_law_pairs" s_pairs ["n"] := defF_mk X G a1 l1 c1 k1 fun _ _ _ _ _ _ us hl => match us, hl with | [_], _ => rfl
  have e2 : DefF K mg "_law_from_pairs" s_from_pairs ["n", "distances"] := defF_mk X G a2 l2 c2 k2 fun _ _ _ _ _ _ us hl => match us, hl with | [_, _], _ => rfl
  have e3 : DefF K mg "_law_same" s_same ["actual", "due"] := defF_mk X G a3 l3 c3 k3 fun _ _ _ _ _ _ us hl => match us, hl with | [_, _], _ => rfl
  have e4 : DefF K mg "_law_take" s_take ["draws", "many"] := defF_mk X G a4 l4 c4 k4 fun _ _ _ _ _ _ us hl => match us, hl with | [_, _], _ => rfl
  have e5 : DefF K mg "_law_pick" s_pick ["draws", "row"] := defF_mk X G a5 l5 c5 k5 fun _ _ _ _ _ _ us hl => match us, hl with | [_, _], _ => rfl
  have e6 : DefF K mg "_law_scale" s_scale ["draws"] := defF_mk X G a6 l6 c6 k6 fun _ _ _ _ _ _ us hl => match us, hl with | [_], _ => rfl
  have e7 : DefF K mg "_law_any_table" s_any_table ["draws", "n"] := defF_mk X G a7 l7 c7 k7 fun _ _ _ _ _ _ us hl => match us, hl with | [_, _], _ => rfl
  have e8 : DefF K mg "_law_line_table" s_line_table ["draws", "n"] := defF_mk X G a8 l8 c8 k8 fun _ _ _ _ _ _ us hl => match us, hl with | [_, _], _ => rfl
  have e9 : DefF K mg "_law_plane_table" s_plane_table ["draws", "n"] := defF_mk X G a9 l9 c9 k9 fun _ _ _ _ _ _ us hl => match us, hl with | [_, _], _ => rfl
  have e10 : DefF K mg "_law_shuffled" s_shuffled ["draws", "row"] := defF_mk X G a10 l10 c10 k10 fun _ _ _ _ _ _ us hl => match us, hl with | [_, _], _ => rfl
  have e11 : DefF K mg "_law_plain_table" s_plain_table ["draws", "n"] := defF_mk X G a11 l11 c11 k11 fun _ _ _ _ _ _ us hl => match us, hl with | [_, _], _ => rfl
  have e12 : DefF K mg "_law_part" s_part ["table", "things"] := defF_mk X G a12 l12 c12 k12 fun _ _ _ _ _ _ us hl => match us, hl with | [_, _], _ => rfl
  have e13 : DefF K mg "_law_named" s_named ["draws", "table"] := defF_mk X G a13 l13 c13 k13 fun _ _ _ _ _ _ us hl => match us, hl with | [_, _], _ => rfl
  have e14 : DefF K mg "_law_even_table" s_even_table ["draws", "n"] := defF_mk X G a14 l14 c14 k14 fun _ _ _ _ _ _ us hl => match us, hl with | [_, _], _ => rfl
  have e15 : DefF K mg "_law_table" s_table ["draws", "n"] := defF_mk X G a15 l15 c15 k15 fun _ _ _ _ _ _ us hl => match us, hl with | [_, _], _ => rfl
  have e16 : DefF K mg "pairs_of" s_p_pairs_of ["n"] := defF_mk X G a16 l16 c16 k16 fun _ _ _ _ _ _ us hl => match us, hl with | [_], _ => rfl
  have e17 : DefF K mg "tables_apart" s_p_tables_apart ["one", "other"] := defF_mk X G a17 l17 c17 k17 fun _ _ _ _ _ _ us hl => match us, hl with | [_, _], _ => rfl
  have e18 : DefF K mg "table_of_rows" s_p_table_of_rows ["rows"] := defF_mk X G a18 l18 c18 k18 fun _ _ _ _ _ _ us hl => match us, hl with | [_], _ => rfl
  have e19 : DefF K mg "path_heights" s_p_path_heights ["table"] := defF_mk X G a19 l19 c19 k19 fun _ _ _ _ _ _ us hl => match us, hl with | [_], _ => rfl
  have e20 : DefF K mg "height_table" s_p_height_table ["table"] := defF_mk X G a20 l20 c20 k20 fun _ _ _ _ _ _ us hl => match us, hl with | [_], _ => rfl
  have e21 : DefF K mg "trees_apart" s_p_trees_apart ["one", "other"] := defF_mk X G a21 l21 c21 k21 fun _ _ _ _ _ _ us hl => match us, hl with | [_, _], _ => rfl
  have e22 : DefF K mg "_law_off" s_off ["one", "other"] := defF_mk X G a22 l22 c22 k22 fun _ _ _ _ _ _ us hl => match us, hl with | [_, _], _ => rfl
  have e23 : DefF K mg "farthest_pair" s_p_farthest_pair ["one", "other"] := defF_mk X G a23 l23 c23 k23 fun _ _ _ _ _ _ us hl => match us, hl with | [_, _], _ => rfl
  have e24 : DefF K mg "path_height" s_p_path_height ["table", "a", "b"] := defF_mk X G a24 l24 c24 k24 fun _ _ _ _ _ _ us hl => match us, hl with | [_, _, _], _ => rfl
  have e25 : DefF K mg "_law_heights" s_heights ["table"] := defF_mk X G a25 l25 c25 k25 fun _ _ _ _ _ _ us hl => match us, hl with | [_], _ => rfl
  have e26 : DefF K mg "_law_right" s_right ["draws", "one", "other"] := defF_mk X G a26 l26 c26 k26 fun _ _ _ _ _ _ us hl => match us, hl with | [_, _, _], _ => rfl
  have e27 : DefF K mg "_law_shifted" s_shifted ["table", "e"] := defF_mk X G a27 l27 c27 k27 fun _ _ _ _ _ _ us hl => match us, hl with | [_, _], _ => rfl
  have e28 : DefF K mg "_law_far" s_far ["table", "a", "b", "distance"] := defF_mk X G a28 l28 c28 k28 fun _ _ _ _ _ _ us hl => match us, hl with | [_, _, _, _], _ => rfl
  have e29 : DefF K mg "_law_changed" s_changed ["draws", "table"] := defF_mk X G a29 l29 c29 k29 fun _ _ _ _ _ _ us hl => match us, hl with | [_, _], _ => rfl
  have B : Bl mg := ⟨PySem.W.mg_none_of X G z0, PySem.W.mg_none_of X G z1, PySem.W.mg_none_of X G z2, PySem.W.mg_none_of X G z3, PySem.W.mg_none_of X G z4, PySem.W.mg_none_of X G z5, PySem.W.mg_none_of X G z6, PySem.W.mg_none_of X G z7, PySem.W.mg_none_of X G z8, PySem.W.mg_none_of X G z9, PySem.W.mg_none_of X G z10, PySem.W.mg_none_of X G z11, PySem.W.mg_none_of X G z12, PySem.W.mg_none_of X G z13, PySem.W.mg_none_of X G z14, PySem.W.mg_none_of X G z15, PySem.W.mg_none_of X G z16, PySem.W.mg_none_of X G z17, PySem.W.mg_none_of X G z18⟩
  have F := fun_mk (st := s_law) l30 c30 k30
  exact ⟨PySem.W.fnOf "law" "law" (defArgs s_law) (defBody s_law) (defScope s_law) .none kV30 dc30 pm30 an30 cd30 ct30, fun s v => .of_eq rfl, fun base _ _ => d_all ⟨B, e0, e1, e2, e3, e4, e5, e6, e7, e8, e9, e10, e11, e12, e13, e14, e15, e16, e17, e18, e19, e20, e21, e22, e23, e24, e25, e26, e27, e28, e29⟩ F⟩
end
end Kx

set_option Elab.async false
set_option linter.all false
set_option maxRecDepth 100000
set_option maxHeartbeats 4000000
set_option autoImplicit false
namespace Kx
open PySem L2 GM
theorem take_ok (ns : List Int) (T : Sto) (many : Int) (hm : 0 < many) : ∃ v ns', m_take [.ref 0, .d (.int many)] (C ns :: T) = some (.val (.d (.int v)), C ns' :: T) ∧ 0 ≤ v ∧ v < many := by
  rcases List.eq_nil_or_concat ns with rfl | ⟨l, a, rfl⟩
  · refine ⟨0, [], ?_, by omega, hm⟩
    simp [m_take, b_take, fLen, seqW, end_draw0]
  · refine ⟨a % many, l, ?_, Int.emod_nonneg _ (by omega), Int.emod_lt_of_pos _ hm⟩
    have h0 : ¬ ((l.length : Int) + 1 = 0) := by omega
    simp [m_take, b_take, fLen, seqW, h0, lstOf, tPop, mod_int hm, end_draw0, iws]
theorem pick_ok (ns : List Int) (T : Sto) (ds : List D) (hd : ds ≠ []) : ∃ d ns', m_pick [.ref 0, .d (.lst ds)] (C ns :: T) = some (.val (.d d), C ns' :: T) ∧ d ∈ ds := by
  obtain ⟨v, ns', h, h1, h2⟩ := take_ok ns T ds.length (by have := List.length_pos_iff.mpr hd; omega)
  obtain ⟨n, rfl⟩ := Int.eq_ofNat_of_zero_le h1
  have hn : n < ds.length := by omega
  refine ⟨ds[n], ns', ?_, List.getElem_mem hn⟩
  simp [m_pick, b_pick, h, ix_lst (List.getElem?_eq_getElem hn), end_draw0]
/-- the same from a tuple -/
theorem pick_tup (ns : List Int) (T : Sto) (ds : List D) (hd : ds ≠ []) : ∃ d ns', m_pick [.ref 0, .d (.tup ds)] (C ns :: T) = some (.val (.d d), C ns' :: T) ∧ d ∈ ds := by
  obtain ⟨v, ns', h, h1, h2⟩ := take_ok ns T ds.length (by have := List.length_pos_iff.mpr hd; omega)
  obtain ⟨n, rfl⟩ := Int.eq_ofNat_of_zero_le h1
  have hn : n < ds.length := by omega
  refine ⟨ds[n], ns', ?_, List.getElem_mem hn⟩
  simp [m_pick, b_pick, h, ix_tup (List.getElem?_eq_getElem hn), end_draw0]
theorem pick_int (ns : List Int) (T : Sto) (is : List Int) (hd : is ≠ []) : ∃ i ns', m_pick [.ref 0, .d (.lst (is.map D.int))] (C ns :: T) = some (.val (.d (.int i)), C ns' :: T) ∧ i ∈ is := by
  obtain ⟨d, ns', h, h1⟩ := pick_ok ns T (is.map D.int) (by simpa using hd)
  obtain ⟨i, hi, rfl⟩ := List.mem_map.mp h1
  exact ⟨i, ns', h, hi⟩
/-- a scale: at least 1, not great -/
def Sc (s : Int) : Prop := 1 ≤ s ∧ s ≤ 10 ^ 40 + 121
theorem scale_ok (ns : List Int) (T : Sto) : ∃ s ns', m_scale [.ref 0] (C ns :: T) = some (.val (.d (.int s)), C ns' :: T) ∧ Sc s := by
  obtain ⟨v, ns1, h, h1, h2⟩ := take_ok ns T 8 (by omega)
  by_cases hv : v = 0
  · obtain ⟨i, ns2, h3, h4⟩ := pick_int ns1 T [1000003, 10 ^ 15 + 37, 10 ^ 40 + 121] (by simp)
    refine ⟨i, ns2, ?_, ?_⟩
    · simp at h3
      simp [m_scale, b_scale, h, hv, h3, fPow, fI2, end_draw0]
    · simp at h4
      unfold Sc
      rcases h4 with rfl | rfl | rfl <;> decide
  · exact ⟨1, ns1, by simp [m_scale, b_scale, h, hv, end_draw0], by unfold Sc; decide⟩
end Kx

set_option Elab.async false
set_option linter.all false
set_option maxRecDepth 100000
set_option maxHeartbeats 4000000
set_option autoImplicit false
namespace GM
open PySem L2
theorem cloop_inv {ws : List W} {g : Gm} {e : Em} {ρ : Rho} (R : Nat → List W → Sto → Prop) (hs : ∀ i acc S w, ws[i]? = some w → R i acc S → ∃ ρ1 x S', g S w ρ = some ρ1 ∧ e ρ1 S = some (x, S') ∧ R (i + 1) (acc ++ [x]) S') :
    ∀ (n i : Nat) (acc : List W) (S : Sto), i + n = ws.length → R i acc S → ∃ r S', cloop (.its ws) g tyes e ρ n i S = some (r, S') ∧ R ws.length (acc ++ r) S' ∧ r.length = n
  | 0, i, acc, S, h, q => by
    refine ⟨[], S, ?_, by rw [List.append_nil, ← h]; exact q, rfl⟩
    unfold cloop
    rw [srcAt_its, List.getElem?_eq_none (by omega)]
    rfl
  | n + 1, i, acc, S, h, q => by
    have hi : i < ws.length := by omega
    obtain ⟨ρ1, x, S1, e1, e2, q2⟩ := hs i acc S ws[i] (List.getElem?_eq_getElem hi) q
    obtain ⟨r, S2, e3, q3, l3⟩ := cloop_inv R hs n (i + 1) (acc ++ [x]) S1 (by omega) q2
    refine ⟨x :: r, S2, ?_, by rw [List.append_assoc] at q3; exact q3, by rw [List.length_cons, l3]⟩
    unfold cloop
    rw [srcAt_its, List.getElem?_eq_getElem hi]
    show ((g _ ws[i] ρ).bind _) = _
    rw [e1]
    show ((e ρ1 _).bind _) = _
    rw [e2]
    show ((cloop _ g tyes e ρ n (i + 1) _).bind _) = _
    rw [e3]
    rfl
/-! ### pairs -/
def prN (n : Nat) : List (Nat × Nat) := (List.range n).flatMap fun a => (List.range (n - (a + 1))).map fun j => (a, a + 1 + j)
def pD (p : Nat × Nat) : D := .tup [.int (p.1 : Int), .int (p.2 : Int)]
theorem prN_mem {n : Nat} {p : Nat × Nat} : p ∈ prN n ↔ p.1 < p.2 ∧ p.2 < n := by
  unfold prN
  simp only [List.mem_flatMap, List.mem_range, List.mem_map]
  constructor
  · rintro ⟨a, ha, j, hj, rfl⟩
    exact ⟨by simp; omega, by simp; omega⟩
  · rintro ⟨h1, h2⟩
    exact ⟨p.1, by omega, p.2 - (p.1 + 1), by omega, by ext <;> simp <;> omega⟩
theorem prN_nodup (n : Nat) : (prN n).Nodup := by
  unfold prN
  rw [List.nodup_iff_pairwise_ne, List.pairwise_flatMap]
  refine ⟨fun a _ => ?_, ?_⟩
  · rw [List.pairwise_map]
    exact List.Pairwise.imp (fun {x y} h e => h (by simpa using e)) List.nodup_range
  · refine List.Pairwise.imp (fun {x y} h => ?_) List.nodup_range
    intro p hp q hq e
    subst e
    obtain ⟨_, _, rfl⟩ := List.mem_map.mp hp
    obtain ⟨_, _, e⟩ := List.mem_map.mp hq
    exact h (by simpa using (congrArg Prod.fst e).symm)
theorem flat_len (n m : Nat) : ((List.range m).flatMap fun a => (List.range (n - (a + 1))).map fun j => (a, a + 1 + j)).length ≤ m * n := by
  induction m with
  | zero => simp
  | succ m ih =>
    rw [List.range_succ, List.flatMap_append, List.length_append]
    simp only [List.flatMap_cons, List.flatMap_nil, List.append_nil, List.length_map, List.length_range]
    rw [Nat.succ_mul]
    omega
theorem prN_len (n : Nat) : (prN n).length ≤ n * n := flat_len n n
end GM
namespace GM
theorem bind_ex {α β : Type} {x : Option α} {E : α → Prop} {f : α → Option β} {r : Option β} (h : ∃ o, x = some o ∧ E o) (k : ∀ o, E o → f o = r) : x.bind f = r := by
  obtain ⟨o, rfl, q⟩ := h
  exact k o q
theorem bind_eq {α β : Type} {x : Option α} {a : α} {f : α → Option β} {r : Option β} (h : x = some a) (k : f a = r) : x.bind f = r := by
  subst h
  exact k
end GM
namespace GM
theorem add_lst {S : Sto} {a b c : List D} (h : a.length + b.length ≤ 1000000) (e : c = a ++ b) : fAdd S [.d (.lst a), .d (.lst b)] = some (.d (.lst c)) := by
  subst e
  show (some (a.map W.d)).bind (fun x => (some (b.map W.d)).bind fun y => if x.length + y.length ≤ 1000000 then (datas (x ++ y)).bind fun ds => some (W.d (.lst ds)) else none) = _
  simp only [Option.bind_some, List.length_map]
  rw [if_pos h, ← List.map_append, datas_map']
  rfl
end GM
namespace Kx
open PySem L2 GM
abbrev prT (n i : Nat) : List (Nat × Nat) := (List.range i).flatMap fun a => (List.range (n - (a + 1))).map fun j => (a, a + 1 + j)
theorem prT_succ (n i : Nat) : prT n (i + 1) = prT n i ++ (List.range (n - (i + 1))).map fun j => (i, i + 1 + j) := by
  unfold prT
  rw [List.range_succ, List.flatMap_append]
  simp
theorem pairs_ok (n : Nat) (hn : n ≤ 100) (S : Sto) : m_pairs [.d (.int (n : Int))] S = some (.val (.d (.lst ((prN n).map pD))), S) := by
  have hg : rg1 S [.d (.int (n : Int))] = some (.its (rngW 0 n)) := rg1_nat (by omega)
  simp [m_pairs, b_pairs, hg]
  refine bind_ex (E := fun o => o = .ret (.d (.lst ((prN n).map pD))) S) ?_ (fun o h => by rw [h, end_pure0])
  refine ⟨_, bind_ex (floop_inv (fun i ρ S' => S' = S ∧ ∃ x2 x3, ρ = [some (.d (.int (n : Int))), some (.d (.lst ((prT n i).map pD))), x2, x3]) (fun o => ∃ x2 x3, o = .nx [some (.d (.int (n : Int))), some (.d (.lst ((prN n).map pD))), x2, x3] S)
    ?_ ?_ n 0 _ _ (by simp) ⟨rfl, none, none, rfl⟩) ?_, rfl⟩
  · rintro i w ρ S' hw ⟨rfl, x2, x3, rfl⟩
    obtain ⟨hi, rfl⟩ := rngW_at0 hw
    refine ⟨_, .nx [some (.d (.int (n : Int))), some (.d (.lst ((prT n (i + 1)).map pD))), some (.d (.int (i : Int))), x3] S', rfl, ?_, rfl, _, _, rfl⟩
    have hr : rg2 S' [.d (.int ((i : Int) + 1)), .d (.int (n : Int))] = some (.its (rngW ((i : Int) + 1) (n - (i + 1)))) := rg2_nat (a := i + 1) (by omega) (by omega)
    have hl : (prT n i).length ≤ i * n := flat_len n i
    have hl2 : i * n ≤ 100 * 100 := Nat.mul_le_mul (by omega) hn
    have hc : cloop (.its (rngW ((i : Int) + 1) (n - (i + 1)))) (gnm 3) tyes (prim fTup (acons (mv 2) (acons (mv 3) anil))) [some (.d (.int (n : Int))), some (.d (.lst ((prT n i).map pD))), some (.d (.int (i : Int))), none] (n - (i + 1)) 0 S' = some ((List.range (n - (i + 1))).map fun j => W.d (pD (i, i + 1 + j)), S') := by
      refine cloop_fmap _ (by simp) fun x hx => ⟨_, rfl, ?_⟩
      simp [pD]
    have hm : lim ((List.range (n - (i + 1))).map (fun j => W.d (pD (i, i + 1 + j))), S') = some ((List.range (n - (i + 1))).map fun j => W.d (pD (i, i + 1 + j)), S') := lim_ap (by simp; omega)
    have ha : fAdd S' [.d (.lst ((prT n i).map pD)), .d (.lst ((List.range (n - (i + 1))).map fun j => pD (i, i + 1 + j)))] = some (.d (.lst ((prT n (i + 1)).map pD))) := by
      rw [prT_succ]
      refine add_lst ?_ ?_
      · rw [List.length_map, List.length_map, List.length_range]; omega
      · rw [List.map_append, List.map_map]; rfl
    simp [hr, hc, hm, datas_fmap, ha]
  · rintro ρ S' ⟨rfl, x2, x3, rfl⟩
    exact ⟨x2, x3, by rw [rngW_length]; rfl⟩
  · rintro o ⟨x2, x3, rfl⟩
    rfl
end Kx

set_option Elab.async false
set_option linter.all false
set_option maxRecDepth 100000
set_option maxHeartbeats 4000000
set_option autoImplicit false
namespace GM
open PySem L2
theorem cloop_src {α : Type} {src : Src} {l : List α} {k : α → W} {g : Gm} {e : Em} {ρ : Rho} {S : Sto} (f : α → W) (hsrc : ∀ i, srcAt src S i = some (l.map k)[i]?) (hs : ∀ x ∈ l, ∃ ρ1, g S (k x) ρ = some ρ1 ∧ e ρ1 S = some (f x, S)) :
    ∀ (n i : Nat), i + n = l.length → cloop src g tyes e ρ n i S = some ((l.drop i).map f, S)
  | 0, i, h => by
    unfold cloop
    rw [hsrc, List.getElem?_eq_none (by rw [List.length_map]; omega), List.drop_of_length_le (by omega)]
    rfl
  | n + 1, i, h => by
    have hi : i < l.length := by omega
    obtain ⟨ρ1, e1, e2⟩ := hs l[i] (List.getElem_mem hi)
    unfold cloop
    rw [hsrc, List.getElem?_map, List.getElem?_eq_getElem hi, List.drop_eq_getElem_cons hi]
    show ((g S (k l[i]) ρ).bind _) = _
    rw [e1]
    show ((e ρ1 S).bind _) = _
    rw [e2]
    show ((cloop _ g tyes e ρ n (i + 1) S).bind _) = _
    rw [cloop_src f hsrc hs n (i + 1) (by omega)]
    rfl
theorem cloop_cell {α : Type} {c : Nat} {l : List α} {k : α → W} {g : Gm} {e : Em} {ρ : Rho} {S : Sto} (f : α → W) (hc : S[c]? = some (.lst (l.map k))) (hs : ∀ x ∈ l, ∃ ρ1, g S (k x) ρ = some ρ1 ∧ e ρ1 S = some (f x, S)) :
    cloop (.cell c) g tyes e ρ (srcLen (.cell c) S) 0 S = some (l.map f, S) := by
  have hl := lstOf_eq hc
  have e1 : srcLen (.cell c) S = l.length := by
    show ((lstOf S c).getD []).length = _
    rw [hl]; simp
  rw [e1]
  have := cloop_src (src := .cell c) (k := k) f (fun i => by show (lstOf S c).bind _ = _; rw [hl]; rfl) hs l.length 0 (by omega)
  rwa [List.drop_zero] at this
theorem srcA_ref {S : Sto} {k : Nat} {ws : List W} (h : S[k]? = some (.lst ws)) : srcA S (.ref k) = some (.cell k) := by
  show (lstOf S k).bind _ = _
  rw [lstOf_eq h]; rfl
/-! ### rows in the making -/
abbrev row (n : Nat) (f : Nat → Int) : List W := (List.range n).map fun j => .d (.int (f j))
abbrev rowD (n : Nat) (f : Nat → Int) : List D := (List.range n).map fun j => .int (f j)
def cells (n : Nat) (M : Nat → Nat → Int) : Sto := (List.range n).map fun i => .lst (row n (M i))
def refs (s n : Nat) : List W := (List.range n).map fun i => .ref (s + i)
def XS (S : Sto) (n : Nat) (M : Nat → Nat → Int) : Sto := S ++ (cells n M ++ [.lst (refs S.length n)])
def put (M : Nat → Nat → Int) (a b : Nat) (v : Int) : Nat → Nat → Int := fun x y => if x = a ∧ y = b then v else M x y
theorem XS_rows {S : Sto} {n : Nat} {M : Nat → Nat → Int} : (XS S n M)[S.length + n]? = some (.lst (refs S.length n)) := by
  unfold XS
  rw [List.getElem?_append_right (by omega), List.getElem?_append_right (by simp [cells])]
  simp [cells]
theorem XS_row {S : Sto} {n : Nat} {M : Nat → Nat → Int} {a : Nat} (h : a < n) : (XS S n M)[S.length + a]? = some (.lst (row n (M a))) := by
  unfold XS
  rw [List.getElem?_append_right (by omega), List.getElem?_append_left (by simp [cells]; omega)]
  simp [cells, h]
theorem row_set {n : Nat} {f : Nat → Int} {b : Nat} {v : Int} : (row n f).set b (.d (.int v)) = row n fun y => if y = b then v else f y := by
  apply List.ext_getElem?
  intro i
  rw [List.getElem?_set]
  simp only [List.getElem?_map, List.length_map, List.length_range]
  by_cases hi : i < n
  · rw [List.getElem?_range hi]
    by_cases hb : b = i
    · subst hb; simp [hi]
    · simp [hb, Ne.symm hb]
  · rw [List.getElem?_eq_none (by simpa using hi)]
    by_cases hb : b = i
    · subst hb; simp [hi]
    · simp [hb]
theorem XS_set {S : Sto} {n : Nat} {M : Nat → Nat → Int} {a b : Nat} {v : Int} (h : a < n) : (XS S n M).set (S.length + a) (.lst ((row n (M a)).set b (.d (.int v)))) = XS S n (put M a b v) := by
  rw [row_set]
  unfold XS
  rw [List.set_append_right _ _ (by omega), Nat.add_sub_cancel_left, List.set_append_left _ _ (by simp [cells]; omega)]
  congr 2
  apply List.ext_getElem?
  intro i
  rw [List.getElem?_set]
  unfold cells
  simp only [List.getElem?_map, List.length_map, List.length_range]
  by_cases hi : i < n
  · rw [List.getElem?_range hi]
    by_cases hb : a = i
    · subst hb; simp [hi, put]
    · simp [hb, put, Ne.symm hb]
  · rw [List.getElem?_eq_none (by simpa using hi)]
    by_cases hb : a = i
    · subst hb; exact absurd h hi
    · simp [hb]
theorem ixN_nat {n b : Nat} (h : b < n) : ixN n (b : Int) = some b := by
  have : atI (List.range n) (b : Int) = some b := atI_nat (by rw [List.getElem?_range h])
  unfold atI at this
  obtain ⟨j, e1, e2⟩ := bind_some this
  rw [List.length_range] at e1
  have hj : j < n := by
    have := (List.getElem?_eq_some_iff.mp e2).1
    simpa using this
  rw [List.getElem?_range hj] at e2
  cases e2
  exact e1
def tab (n : Nat) (M : Nat → Nat → Int) : D := .tup ((List.range n).map fun a => .tup (rowD n (M a)))
/-- distances: none to itself, both ways the same -/
def Dist (M : Nat → Nat → Int) : Prop := (∀ a, M a a = 0) ∧ ∀ a b, M a b = M b a
theorem rep_row (n : Nat) (x : W) : (List.replicate n [x]).flatten = (List.range n).map fun _ => x := by
  induction n with
  | zero => rfl
  | succ n ih => rw [List.replicate_succ, List.flatten_cons, ih, List.range_succ_eq_map, List.map_cons, List.map_map]; rfl
theorem take_S (S X : Sto) : (S ++ X).take S.length = S := by simp
end GM
namespace Kx
open PySem L2 GM
/-- how the distances are given -/
def Given (S : Sto) (dist : W) (ds : List Int) : Prop := ∀ (X : Sto) (k : Nat) (v : Int), ds[k]? = some v → fIx (S ++ X) [dist, .d (.int (k : Int))] = some (.d (.int v))
theorem given_lst (S : Sto) (ds : List Int) : Given S (.d (.lst (ds.map D.int))) ds := fun X k v h => ix_lst (by rw [List.getElem?_map, h]; rfl)
theorem given_ref (S : Sto) (c : Nat) (ds : List Int) (h : S[c]? = some (C ds)) : Given S (.ref c) ds := fun X k v hk => by
  refine ix_ref (ws := iws ds) ?_ ?_
  · rw [List.getElem?_append_left (List.getElem?_eq_some_iff.mp h).1]; exact h
  · rw [List.getElem?_map, hk]; rfl
theorem from_pairs_ok (n : Nat) (hn : n ≤ 100) (S : Sto) (dist : W) (ds : List Int) (hd : Given S dist ds) (hl : ds.length = (prN n).length) :
    ∃ M, m_from_pairs [.d (.int (n : Int)), dist] S = some (.val (.d (tab n M)), S) ∧ Dist M ∧ ∀ (j : Nat) (p : Nat × Nat) (v : Int), (prN n)[j]? = some p → ds[j]? = some v → M p.1 p.2 = v := by
  have hg : ∀ S, rg1 S [.d (.int (n : Int))] = some (.its (rngW 0 n)) := fun S => rg1_nat (by omega)
  have hg2 : ∀ S, rg1 S [.d (.int (((prN n).map pD).length : Int))] = some (.its (rngW 0 (prN n).length)) := fun S => by
    rw [List.length_map]
    have h1 := prN_len n
    have h2 : n * n ≤ 100 * 100 := Nat.mul_le_mul hn hn
    exact rg1_nat (by omega)
  -- rows
  obtain ⟨r, S1, c1, ⟨c2, c3⟩, c4⟩ := cloop_inv (ws := rngW 0 n) (g := gnm 4) (e := thw (primF fRep (acons (frz (primF fLst (acons (mk (.int 0)) anil))) (acons (mv 0) anil)))) (ρ := [some (.d (.int (n : Int))), some dist, none, none, none, none, none, none])
    (fun i acc S' => acc = refs S.length i ∧ S' = S ++ (List.range i).map fun _ => .lst (row n fun _ => 0)) (fun i acc S' w hw ⟨h1, h2⟩ => by
      obtain ⟨hi, rfl⟩ := rngW_at0 hw
      subst h1 h2
      refine ⟨_, .ref (S.length + i), _, rfl, ?_, ?_, rfl⟩
      · have hr : ∀ S, fRep S [.d (.lst [.int 0]), .d (.int (n : Int))] = some (row n fun _ => 0) := fun S => by
          show (some [W.d (.int 0)]).bind (fun a => if (n : Int).natAbs ≤ 2000000 ∧ a.length * (n : Int).toNat ≤ 1000000 then some (List.replicate (n : Int).toNat a).flatten else none) = _
          rw [Option.bind_some, if_pos (by constructor <;> simp <;> omega)]
          show some (List.replicate n [W.d (.int 0)]).flatten = _
          rw [rep_row]
        simp [hr]
        rw [List.range_succ, List.map_append]
        rfl
      · unfold refs
        rw [List.range_succ, List.map_append]
        rfl) n 0 [] S (by simp) ⟨rfl, by simp⟩
  rw [List.nil_append, rngW_length] at c2
  rw [rngW_length] at c3
  subst c2
  have hX : S1 ++ [Cell.lst (refs S.length n)] = XS S n (fun _ _ => 0) := by
    rw [c3, List.append_assoc]
    rfl
  have hS1 : S1.length = S.length + n := by rw [c3]; simp
  have hlim : lim (refs S.length n, S1) = some (refs S.length n, S1) := lim_ap (by simp [refs]; omega)
  -- the loop
  obtain ⟨o, l1, M, l2, l3, l4⟩ := floop_inv (ws := rngW 0 (prN n).length) (g := gnm 4) (b := bseq (basg (gtp 2 (gcons (gnm 5) (gcons (gnm 6) gnil))) (prim fIx (acons (mv 3) (acons (mv 4) anil))))
  (bseq (bsub (prim fIx (acons (mv 1) (acons (mv 4) anil))) (prim fIx (acons (mv 2) (acons (mv 5) anil))) (mv 6))
  (bsub (prim fIx (acons (mv 1) (acons (mv 4) anil))) (prim fIx (acons (mv 2) (acons (mv 6) anil))) (mv 5))))
    (fun i ρ S' => ∃ M x4 x5 x6, S' = XS S n M ∧ ρ = [some (.d (.int (n : Int))), some dist, some (.ref (S.length + n)), some (.d (.lst ((prN n).map pD))), x4, x5, x6, none] ∧ Dist M ∧ ∀ (j : Nat) (p : Nat × Nat) (v : Int), j < i → (prN n)[j]? = some p → ds[j]? = some v → M p.1 p.2 = v)
    (fun o => ∃ M, (∃ x4 x5 x6, o = .nx [some (.d (.int (n : Int))), some dist, some (.ref (S.length + n)), some (.d (.lst ((prN n).map pD))), x4, x5, x6, none] (XS S n M)) ∧ Dist M ∧ ∀ (j : Nat) (p : Nat × Nat) (v : Int), (prN n)[j]? = some p → ds[j]? = some v → M p.1 p.2 = v)
    (fun i w ρ S' hw ⟨M, x4, x5, x6, h1, h2, h3, h4⟩ => by
      obtain ⟨hi, rfl⟩ := rngW_at0 hw
      subst h1 h2
      have hp := List.getElem?_eq_getElem hi
      have hv := List.getElem?_eq_getElem (show i < ds.length by omega)
      have hm := prN_mem.mp (List.getElem_mem hi)
      generalize (prN n)[i] = p at hp hm
      generalize ds[i] = v at hv
      obtain ⟨a, b⟩ := p
      have hab : a < b := hm.1
      have hbn : b < n := hm.2
      refine ⟨_, .nx [some (.d (.int (n : Int))), some dist, some (.ref (S.length + n)), some (.d (.lst ((prN n).map pD))), some (.d (.int (i : Int))), some (.d (.int (a : Int))), some (.d (.int (b : Int))), none] (XS S n (put (put M a b v) b a v)), rfl, ?_, put (put M a b v) b a v, _, _, _, rfl, rfl, ⟨fun x => ?_, fun x y => ?_⟩, fun j p u hj e1 e2 => ?_⟩
      · have q1 : fIx (XS S n M) [.d (.lst ((prN n).map pD)), .d (.int (i : Int))] = some (.d (pD (a, b))) := ix_lst (by rw [List.getElem?_map, hp]; rfl)
        have q2 : ∀ M, fIx (XS S n M) [dist, .d (.int (i : Int))] = some (.d (.int v)) := fun M => hd _ i v hv
        have q3 : ∀ M a, a < n → fIx (XS S n M) [.ref (S.length + n), .d (.int (a : Int))] = some (.ref (S.length + a)) := fun M a ha => ix_ref XS_rows (by unfold refs; rw [List.getElem?_map, List.getElem?_range ha]; rfl)
        have q4 : ∀ M a, a < n → lstOf (XS S n M) (S.length + a) = some (row n (M a)) := fun M a ha => lstOf_eq (XS_row ha)
        have q5 : ∀ M a b v, a < n → (XS S n M).set (S.length + a) (.lst ((row n (M a)).set b (.d (.int v)))) = XS S n (put M a b v) := fun M a b v ha => XS_set ha
        have r5 : ixN n (b : Int) = some b := ixN_nat hbn
        have r6 : ixN n (a : Int) = some a := ixN_nat (by omega)
        simp [q1, q2, q3 M a (by omega), q3 _ b hbn, q4 M a (by omega), q4 _ b hbn, pD, r5, r6]
        rw [q5 M a b v (by omega)]
        simp [q2, q3 _ b hbn, q4 _ b hbn, r6]
        rw [q5 _ b a v hbn]
      · unfold put
        rw [if_neg (by omega), if_neg (by omega)]
        exact h3.1 x
      · unfold put
        by_cases c1 : x = b ∧ y = a
        · rw [if_pos c1, if_neg (by omega), if_pos (by omega)]
        · rw [if_neg c1]
          by_cases c2 : x = a ∧ y = b
          · rw [if_pos c2, if_pos (by omega)]
          · rw [if_neg c2, if_neg (by omega), if_neg (by omega)]
            exact h3.2 x y
      · by_cases hji : j = i
        · subst hji
          rw [hp] at e1; cases e1
          rw [hv] at e2; cases e2
          unfold put
          rw [if_neg (by simp; omega), if_pos (by simp)]
        · have := h4 j p u (by omega) e1 e2
          have hpm := prN_mem.mp (List.mem_of_getElem? e1)
          have hne : p ≠ (a, b) := fun z => by
            subst z
            exact hji ((List.getElem?_inj (List.getElem?_eq_some_iff.mp e1).1 (prN_nodup n)).mp (e1.trans hp.symm))
          unfold put
          have hne2 : ¬ (p.1 = a ∧ p.2 = b) := fun z => hne (Prod.ext z.1 z.2)
          rw [if_neg (by omega), if_neg hne2]
          exact this)
    (fun ρ S' ⟨M, x4, x5, x6, h1, h2, h3, h4⟩ => ⟨M, ⟨x4, x5, x6, by rw [h1, h2]⟩, h3, fun j p v e1 e2 => h4 j p v (by rw [rngW_length]; exact (List.getElem?_eq_some_iff.mp e1).1) e1 e2⟩)
    (prN n).length 0 [some (.d (.int (n : Int))), some dist, some (.ref (S.length + n)), some (.d (.lst ((prN n).map pD))), none, none, none, none] (XS S n fun _ _ => 0) (by simp) ⟨_, none, none, none, rfl, rfl, ⟨fun _ => rfl, fun _ _ => rfl⟩, fun j _ _ hj => absurd hj (by omega)⟩
  obtain ⟨x4, x5, x6, rfl⟩ := l2
  refine ⟨M, ?_, l3, l4⟩
  have hA : srcA (XS S n M) (.ref (S.length + n)) = some (.cell (S.length + n)) := srcA_ref XS_rows
  have hT : cloop (.cell (S.length + n)) (gnm 7) tyes (prim fTuple (acons (mv 7) anil)) [some (.d (.int (n : Int))), some dist, some (.ref (S.length + n)), some (.d (.lst ((prN n).map pD))), x4, x5, x6, none] (srcLen (.cell (S.length + n)) (XS S n M)) 0 (XS S n M) = some ((List.range n).map fun a => W.d (.tup (rowD n (M a))), XS S n M) := by
    refine cloop_cell (l := List.range n) (k := fun i => W.ref (S.length + i)) _ XS_rows fun a ha => ⟨_, rfl, ?_⟩
    have ha' : a < n := List.mem_range.mp ha
    have : fTuple (XS S n M) [.ref (S.length + a)] = some (.d (.tup (rowD n (M a)))) := by
      show (lstOf (XS S n M) (S.length + a)).bind (fun ws => (datas ws).bind fun ds => some (W.d (.tup ds))) = _
      rw [lstOf_eq (XS_row ha')]
      show (datas (row n (M a))).bind _ = _
      rw [datas_fmap]
      rfl
    simp [this]
  have hlim2 : lim ((List.range n).map (fun a => W.d (.tup (rowD n (M a)))), XS S n M) = some ((List.range n).map (fun a => W.d (.tup (rowD n (M a)))), XS S n M) := lim_ap (by simp; omega)
  simp [m_from_pairs, b_from_pairs, hg, c1, hlim, hX, hS1, pairs_ok n hn]
  rw [List.length_map] at hg2
  simp [hg2, l1, hA, hT, hlim2, datas_fmap]
  exact end_pure
end Kx

set_option Elab.async false
set_option linter.all false
set_option maxRecDepth 100000
set_option maxHeartbeats 4000000
set_option autoImplicit false
namespace GM
open PySem L2
theorem ints_of {Q : Nat → Int → Prop} : ∀ (r : List W) (i : Nat), (∀ j x, r[j]? = some x → ∃ v, x = .d (.int v) ∧ Q (i + j) v) → ∃ vs, r = iws vs ∧ ∀ (j : Nat) (v : Int), vs[j]? = some v → Q (i + j) v
  | [], i, _ => ⟨[], rfl, fun j v h => by simp at h⟩
  | x :: r, i, h => by
    obtain ⟨v, rfl, q⟩ := h 0 x rfl
    obtain ⟨vs, rfl, q2⟩ := ints_of (Q := Q) r (i + 1) fun j y hj => by
      obtain ⟨u, e, q3⟩ := h (j + 1) y hj
      exact ⟨u, e, by rw [show i + 1 + j = i + (j + 1) by omega]; exact q3⟩
    refine ⟨v :: vs, rfl, fun j u hj => ?_⟩
    cases j with
    | zero => cases hj; exact q
    | succ j => rw [show i + (j + 1) = i + 1 + j by omega]; exact q2 j u hj
theorem draw_ints {ws : List W} {g : Gm} {e : Em} {ρ : Rho} {T : Sto} {n : Nat} (Q : Nat → Int → Prop) (ns : List Int) (hn : n = ws.length) (hs : ∀ i w ns, ws[i]? = some w → ∃ ρ1 v ns', g (C ns :: T) w ρ = some ρ1 ∧ e ρ1 (C ns :: T) = some (.d (.int v), C ns' :: T) ∧ Q i v) :
    ∃ vs ns', cloop (.its ws) g tyes e ρ n 0 (C ns :: T) = some (iws vs, C ns' :: T) ∧ vs.length = n ∧ ∀ (j : Nat) (v : Int), vs[j]? = some v → Q j v := by
  subst hn
  obtain ⟨r, ns', h1, h2, h3⟩ := cloop_draw (T := T) (e := e) (ρ := ρ) (g := g) (fun i x => ∃ v, x = .d (.int v) ∧ Q i v) (fun i w ns hw => by
    obtain ⟨ρ1, v, ns', a, b, c⟩ := hs i w ns hw
    exact ⟨ρ1, _, ns', a, b, v, rfl, c⟩) ws.length 0 ns (by omega)
  obtain ⟨vs, rfl, h4⟩ := ints_of (Q := Q) r 0 h3
  exact ⟨vs, ns', h1, by simpa using h2, fun j v hj => by have := h4 j v hj; rwa [Nat.zero_add] at this⟩
section
variable {c x y : Cell} {T : Sto}
theorem two1 : (c :: (T ++ [x, y]))[T.length + 1]? = some x := by simp
theorem two2 : (c :: (T ++ [x, y]))[T.length + 1 + 1]? = some y := by simp
theorem set1 {z : Cell} : (c :: (T ++ [x, y])).set (T.length + 1) z = c :: (T ++ [z, y]) := by simp
theorem set2 {z : Cell} : (c :: (T ++ [x, y])).set (T.length + 1 + 1) z = c :: (T ++ [x, z]) := by simp
theorem set1b {z : Cell} : (T ++ [x, y]).set T.length z = T ++ [z, y] := by simp
theorem set2b {z : Cell} : (T ++ [x, y]).set (T.length + 1) z = T ++ [x, z] := by simp
theorem set1c {z : Cell} : (T ++ [x]).set T.length z = T ++ [z] := by simp
theorem erase_map {α β : Type} (f : α → β) : ∀ (l : List α) (m : Nat), (l.map f).eraseIdx m = (l.eraseIdx m).map f
  | [], _ => rfl
  | _ :: _, 0 => rfl
  | a :: l, m + 1 => by
    show f a :: (l.map f).eraseIdx m = f a :: (l.eraseIdx m).map f
    rw [erase_map f l m]
theorem erase_perm {α : Type} : ∀ (l : List α) (m : Nat) (h : m < l.length), (l[m] :: l.eraseIdx m).Perm l
  | [], _, h => absurd h (by simp)
  | _ :: _, 0, _ => .refl _
  | a :: l, m + 1, h => by
    have hm : m < l.length := by simpa using h
    show (l[m] :: a :: l.eraseIdx m).Perm (a :: l)
    exact (List.Perm.swap ..).trans (List.Perm.cons a (erase_perm l m hm))
theorem one1 : (c :: (T ++ [x]))[T.length + 1]? = some x := by simp
theorem setone {z : Cell} : (c :: (T ++ [x])).set (T.length + 1) z = c :: (T ++ [z]) := by simp
end
end GM
namespace Kx
open PySem L2 GM
theorem chk_take {ns' : List Int} {T X : Sto} : (C ns' :: (T ++ X)).take (T.length + 1) = C ns' :: T := by simp
theorem shuffled_ok (ns : List Int) (T : Sto) (is : List Int) (hl : is.length ≤ 10000) : ∃ js ns', m_shuffled [.ref 0, .d (.lst (is.map D.int))] (C ns :: T) = some (.new (iws js), C ns' :: T) ∧ js.Perm is := by
  have hg : ∀ S, rg1 S [.d (.int (is.length : Int))] = some (.its (rngW 0 is.length)) := fun S => rg1_nat (by omega)
  obtain ⟨o, l1, ns', js, x4, rfl, hp⟩ := floop_inv (ws := rngW 0 is.length) (g := gnm 4) (b := bdrop (mmeth tAppend (mv 3) (acons (mmeth tPopAt (mv 2) (acons (mcall m_take (acons (mv 0) (acons (prim fLen (acons (mv 2) anil)) anil))) anil)) anil)))
    (fun i ρ S' => ∃ ns' l t x4, S' = C ns' :: (T ++ [C l, C t]) ∧ ρ = [some (.ref 0), some (.d (.lst (is.map D.int))), some (.ref (T.length + 1)), some (.ref (T.length + 1 + 1)), x4] ∧ (l ++ t).Perm is ∧ l.length + i = is.length)
    (fun o => ∃ ns' js x4, o = .nx [some (.ref 0), some (.d (.lst (is.map D.int))), some (.ref (T.length + 1)), some (.ref (T.length + 1 + 1)), x4] (C ns' :: (T ++ [C [], C js])) ∧ js.Perm is)
    (fun i w ρ S' hw ⟨ns1, l, t, x4, h1, h2, h3, h4⟩ => by
      obtain ⟨hi, rfl⟩ := rngW_at0 hw
      subst h1 h2
      have hll : 0 < l.length := by omega
      obtain ⟨v, ns2, e1, v1, v2⟩ := take_ok ns1 (T ++ [C l, C t]) l.length (by omega)
      obtain ⟨m, rfl⟩ := Int.eq_ofNat_of_zero_le v1
      have hm : m < l.length := by omega
      have ht : t.length ≤ 10000 := by
        have := h3.length_eq
        rw [List.length_append] at this
        omega
      refine ⟨_, .nx [some (.ref 0), some (.d (.lst (is.map D.int))), some (.ref (T.length + 1)), some (.ref (T.length + 1 + 1)), some (.d (.int (i : Int)))] (C ns2 :: (T ++ [C (l.eraseIdx m), C (t ++ [l[m]])])), rfl, ?_, ns2, l.eraseIdx m, t ++ [l[m]], _, rfl, rfl, ?_, ?_⟩
      · have q1 : ∀ ns l t, lstOf (C ns :: (T ++ [C l, C t])) (T.length + 1) = some (iws l) := fun ns l t => lstOf_eq two1
        have q2 : ∀ ns l t, lstOf (C ns :: (T ++ [C l, C t])) (T.length + 1 + 1) = some (iws t) := fun ns l t => lstOf_eq two2
        have q3 : fLen (C ns1 :: (T ++ [C l, C t])) [.ref (T.length + 1)] = some (.d (.int (l.length : Int))) := by
          have := len_ref (S := C ns1 :: (T ++ [C l, C t])) (ws := iws l) two1
          simpa using this
        have q4 : tPopAt (iws l) [.d (.int (m : Int))] = some (.d (.int l[m]), iws (l.eraseIdx m)) := by
          have hb : (0 : Int) ≤ m ∧ (m : Int) < (iws l).length ∧ (iws l).length ≤ 1000000 := by
            rw [List.length_map]
            omega
          show (if (0 : Int) ≤ m ∧ (m : Int) < (iws l).length ∧ (iws l).length ≤ 1000000 then (iws l)[(m : Int).toNat]?.bind fun w => some (w, (iws l).eraseIdx (m : Int).toNat) else none) = _
          rw [if_pos hb, Int.toNat_natCast, List.getElem?_map, List.getElem?_eq_getElem hm]
          show some (W.d (.int l[m]), (iws l).eraseIdx m) = _
          rw [erase_map]
        have q5 : tAppend (iws t) [.d (.int l[m])] = some (.d .non, iws (t ++ [l[m]])) := by
          show (if (iws t).length ≤ 1000000 then _ else none) = _
          rw [if_pos (by rw [List.length_map]; omega)]
          rw [show iws (t ++ [l[m]]) = iws t ++ [W.d (.int l[m])] from List.map_append]
        have q6 : ∀ ns l t, lstOf (C ns :: (T ++ [Cell.lst (iws l), C t])) (T.length + 1 + 1) = some (iws t) := fun ns l t => lstOf_eq two2
        simp [q1, q2, q3, e1, q4, q5, set1b, set2b, q6]
      · refine List.Perm.trans ?_ h3
        have e : l.Perm (l[m] :: l.eraseIdx m) := by
          have := erase_perm l m hm
          exact this.symm
        refine List.Perm.trans ?_ (List.Perm.append_right t e).symm
        rw [← List.append_assoc]
        exact List.perm_append_comm
      · rw [List.length_eraseIdx_of_lt hm]
        omega)
    (fun ρ S' ⟨ns1, l, t, x4, h1, h2, h3, h4⟩ => by
      have : l = [] := List.eq_nil_of_length_eq_zero (by rw [rngW_length] at h4; omega)
      subst this
      exact ⟨ns1, t, x4, by rw [h1, h2], h3⟩)
    is.length 0 [some (.ref 0), some (.d (.lst (is.map D.int))), some (.ref (T.length + 1)), some (.ref (T.length + 1 + 1)), none] (C ns :: (T ++ [C is, C []])) (by simp) ⟨ns, is, [], none, rfl, rfl, by rw [List.append_nil], by omega⟩
  refine ⟨js, ns', ?_, hp⟩
  have q0 : fList (C ns :: T) [.d (.lst (is.map D.int))] = some (iws is) := by
    show (some ((is.map D.int).map W.d)) = some (iws is)
    rw [List.map_map]; rfl
  have q3 : fLen (C ns :: (T ++ [C is, C []])) [.ref (T.length + 1)] = some (.d (.int (is.length : Int))) := by
    have := len_ref (S := C ns :: (T ++ [C is, C []])) (ws := iws is) two1
    simpa using this
  have r1 : endDef (C ns :: T) (.ret (.ref (T.length + 1 + 1)) (C ns' :: (T ++ [C [], C js]))) = some (.new (iws js), C ns' :: T) := by
    rw [endDef_ret, if_pos (chk_draw ns ns' T _)]
    have : retW (C ns :: T).length (C ns' :: (T ++ [C [], C js])) (.ref (T.length + 1 + 1)) = some (.new ((js.map D.int).map W.d)) := retW_new (by simp) (two2.trans (by rw [List.map_map]; rfl))
    rw [this]
    show some (RV.new ((js.map D.int).map W.d), (C ns' :: (T ++ _)).take (T.length + 1)) = _
    rw [chk_take, List.map_map]
    rfl
  have e0 : C ns :: T ++ [Cell.lst (iws is)] ++ [Cell.lst []] = C ns :: (T ++ [C is, C []]) := by simp
  have e1 : (C ns :: T).length = T.length + 1 := rfl
  have e2 : (C ns :: T ++ [Cell.lst (iws is)]).length = T.length + 1 + 1 := by simp
  simp only [m_shuffled, b_shuffled, runDef_ap, bseq_ap, bset_ap, thw_ap, primF_ap, acons_ap, anil_ap, mv_ap, List.length_cons, List.length_nil, List.map_cons, List.map_nil, List.cons_append, List.nil_append, List.replicate, List.getElem?_cons_succ, List.getElem?_cons_zero, Option.bind_some, q0]
  have z : C [] = Cell.lst [] := rfl
  rw [z] at q3 l1
  simp
  simp [q3, hg, l1]
  exact r1
end Kx

set_option Elab.async false
set_option linter.all false
set_option maxRecDepth 100000
set_option maxHeartbeats 4000000
set_option autoImplicit false
namespace GM
open PySem L2
section
variable {S : Sto}
theorem ix_p0 {p : Nat × Nat} : fIx S [.d (pD p), .d (.int 0)] = some (.d (.int (p.1 : Int))) := ix_tup (ds := [.int p.1, .int p.2]) (n := 0) rfl
theorem ix_p1 {p : Nat × Nat} : fIx S [.d (pD p), .d (.int 1)] = some (.d (.int (p.2 : Int))) := ix_tup (ds := [.int p.1, .int p.2]) (n := 1) rfl
theorem ix_t0 {a b : D} : fIx S [.d (.tup [a, b]), .d (.int 0)] = some (.d a) := ix_tup (n := 0) rfl
theorem ix_t1 {a b : D} : fIx S [.d (.tup [a, b]), .d (.int 1)] = some (.d b) := ix_tup (n := 1) rfl
end
theorem getD_at {vs : List Int} {k : Nat} (h : k < vs.length) : vs[k]? = some (vs.getD k 0) := by
  rw [List.getD_eq_getElem?_getD, List.getElem?_eq_getElem h]; rfl
theorem ix_ints {S : Sto} {vs : List Int} {k : Nat} (h : k < vs.length) : fIx S [.d (.lst (vs.map D.int)), .d (.int (k : Int))] = some (.d (.int (vs.getD k 0))) := ix_lst (by rw [List.getElem?_map, getD_at h]; rfl)
theorem prN_small {n : Nat} (hn : n ≤ 100) : (prN n).length ≤ 10000 := by
  have h1 := prN_len n
  have h2 : n * n ≤ 100 * 100 := Nat.mul_le_mul hn hn
  omega
theorem lim_iws {vs : List Int} {S : Sto} (h : vs.length ≤ 1000000) : lim (iws vs, S) = some (iws vs, S) := lim_ap (by rw [List.length_map]; exact h)
/-- what the pairs say, told by places -/
theorem M_of {n : Nat} {M : Nat → Nat → Int} {ds : List Int} (d : Nat × Nat → Int) (hd : ds = (prN n).map d) (h : ∀ (j : Nat) (p : Nat × Nat) (v : Int), (prN n)[j]? = some p → ds[j]? = some v → M p.1 p.2 = v) {a b : Nat} (hab : a < b) (hb : b < n) : M a b = d (a, b) := by
  obtain ⟨j, hj⟩ := List.getElem?_of_mem (prN_mem.mpr (show (a, b).1 < (a, b).2 ∧ (a, b).2 < n from ⟨hab, hb⟩))
  exact h j (a, b) _ hj (by rw [hd, List.getElem?_map, hj]; rfl)
def upF (lo : Int) (n : Nat) : List Int := (List.range n).map fun (i : Nat) => lo + (i : Int)
theorem upF_len {lo : Int} {n : Nat} : (upF lo n).length = n := by simp [upF]
theorem rngW_up {lo : Int} {n : Nat} : rngW lo n = iws (upF lo n) := by unfold rngW upF iws; rw [List.map_map]; rfl
/-- straight -/
def Tri (n : Nat) (M : Nat → Nat → Int) : Prop := ∀ a b c, a < n → b < n → c < n → M a c ≤ M a b + M b c
def ab (x : Int) : Int := if x < 0 then -x else x
def at2 (M : Nat → Nat → Int) (ts : List Nat) : D := .tup (ts.map fun a => .tup (ts.map fun b => .int (M a b)))
theorem at2_tab {M : Nat → Nat → Int} {ts : List Nat} : at2 M ts = tab ts.length fun i j => M (ts.getD i 0) (ts.getD j 0) := by
  have key : ∀ {β : Type} (f : Nat → β), ts.map f = (List.range ts.length).map fun i => f (ts.getD i 0) := fun f => by
    apply List.ext_getElem?
    intro i
    by_cases h : i < ts.length
    · rw [List.getElem?_map, List.getElem?_map, List.getElem?_range h, List.getElem?_eq_getElem h]
      simp [List.getD_eq_getElem?_getD, h]
    · rw [List.getElem?_eq_none (by simpa using h), List.getElem?_eq_none (by simpa using h)]
  unfold at2 tab
  rw [key]
  congr 2
  funext i
  rw [key]
theorem at2_range {M : Nat → Nat → Int} {n : Nat} : at2 M (List.range n) = tab n M := rfl
theorem tab_ix {S : Sto} {n : Nat} {M : Nat → Nat → Int} {a : Nat} (h : a < n) : fIx S [.d (tab n M), .d (.int (a : Int))] = some (.d (.tup (rowD n (M a)))) := ix_tup (by rw [List.getElem?_map, List.getElem?_range h]; rfl)
theorem row_ix {S : Sto} {n : Nat} {f : Nat → Int} {b : Nat} (h : b < n) : fIx S [.d (.tup (rowD n f)), .d (.int (b : Int))] = some (.d (.int (f b))) := ix_tup (by rw [List.getElem?_map, List.getElem?_range h]; rfl)
theorem tab_len {S : Sto} {n : Nat} {M : Nat → Nat → Int} : fLen S [.d (tab n M)] = some (.d (.int (n : Int))) := by
  unfold tab
  rw [len_tup]
  simp
/-- none below 0 -/
def NNn (n : Nat) (M : Nat → Nat → Int) : Prop := ∀ a b, a < n → b < n → 0 ≤ M a b
theorem nn_of {n : Nat} {M : Nat → Nat → Int} {ds : List Int} (d : Dist M) (hl : ds.length = (prN n).length) (hd : ∀ (j : Nat) (v : Int), ds[j]? = some v → 0 ≤ v) (h : ∀ (j : Nat) (p : Nat × Nat) (v : Int), (prN n)[j]? = some p → ds[j]? = some v → M p.1 p.2 = v) : NNn n M := by
  have lt : ∀ a b, a < b → b < n → 0 ≤ M a b := fun a b hab hb => by
    obtain ⟨j, hj⟩ := List.getElem?_of_mem (prN_mem.mpr (show (a, b).1 < (a, b).2 ∧ (a, b).2 < n from ⟨hab, hb⟩))
    have hjl := (List.getElem?_eq_some_iff.mp hj).1
    have hvj := List.getElem?_eq_getElem (show j < ds.length by omega)
    rw [h j (a, b) _ hj hvj]
    exact hd j _ hvj
  intro a b ha hb
  rcases Nat.lt_trichotomy a b with z | z | z
  · exact lt a b z hb
  · subst z; rw [d.1]; exact Int.le_refl 0
  · rw [d.2]; exact lt b a z ha
end GM
namespace Kx
open PySem L2 GM
/-- a table of n things -/
def TabOk (m : Fm) (n : Nat) (G : (Nat → Nat → Int) → Prop) : Prop := ∀ (ns : List Int) (T : Sto), ∃ M ns', m [.ref 0, .d (.int (n : Int))] (C ns :: T) = some (.val (.d (tab n M)), C ns' :: T) ∧ Dist M ∧ G M
theorem TabOk.any {m : Fm} {n : Nat} {G : (Nat → Nat → Int) → Prop} (h : TabOk m n G) : TabOk m n fun _ => True := fun ns T => by
  obtain ⟨M, ns', e, d, _⟩ := h ns T
  exact ⟨M, ns', e, d, trivial⟩
theorem part_ok (n : Nat) (M : Nat → Nat → Int) (things : W) (ts : List Nat) (S : Sto) (h1 : srcA S things = some (.its (ts.map fun (t : Nat) => W.d (.int (t : Int))))) (h2 : ∀ t ∈ ts, t < n) (h3 : ts.length ≤ 1000000) : m_part [.d (tab n M), things] S = some (.val (.d (at2 M ts)), S) := by
  have inner : ∀ a, a < n → cloop (.its (ts.map fun (t : Nat) => W.d (.int (t : Int)))) (gnm 3) tyes (prim fIx (acons (prim fIx (acons (mv 0) (acons (mv 2) anil))) (acons (mv 3) anil))) [some (.d (tab n M)), some things, some (.d (.int (a : Int))), none] ts.length 0 S = some (ts.map fun b => W.d (.int (M a b)), S) := fun a ha => by
    refine cloop_fmap _ rfl fun b hb => ⟨_, rfl, ?_⟩
    simp [tab_ix ha, row_ix (h2 b hb)]
  have hl : ∀ f : Nat → W, lim (ts.map f, S) = some (ts.map f, S) := fun f => lim_ap (by rw [List.length_map]; exact h3)
  have outer : cloop (.its (ts.map fun (t : Nat) => W.d (.int (t : Int)))) (gnm 2) tyes (prim fTuple (acons (frz (mcomp (isrc srcA (mv 1)) (gnm 3) tyes (prim fIx (acons (prim fIx (acons (mv 0) (acons (mv 2) anil))) (acons (mv 3) anil))) [3])) anil)) [some (.d (tab n M)), some things, none, none] ts.length 0 S = some (ts.map fun a => W.d (.tup (ts.map fun b => .int (M a b))), S) := by
    refine cloop_fmap _ rfl fun a ha => ⟨_, rfl, ?_⟩
    simp [h1, inner a (h2 a ha), hl, datas_fmap]
  simp [m_part, b_part, h1, outer, hl, datas_fmap]
  exact end_pure0
theorem any_table_ok (n : Nat) (hn : n ≤ 100) : TabOk m_any_table n (NNn n) := fun ns T => by
  obtain ⟨s, ns1, e1, hs⟩ := scale_ok ns T
  obtain ⟨top, ns2, e2, ht⟩ := pick_int ns1 T [2, 4, 4, 8, 30] (by simp)
  have ht2 : 0 < top ∧ top ≤ 30 := by simp at ht; omega
  obtain ⟨vs, ns3, e3, l3, hv⟩ := draw_ints (T := T) (ws := (prN n).map (W.d ∘ pD)) (g := gnm 4) (e := prim fMulX (acons (mv 2) (acons (mcall m_take (acons (mv 0) (acons (mv 3) anil))) anil))) (ρ := [some (.ref 0), some (.d (.int (n : Int))), some (.d (.int s)), some (.d (.int top)), none]) (n := (prN n).length) (fun _ v => 0 ≤ v) ns2 (by simp) (fun i w ns hw => by
    obtain ⟨v, ns', e, v1, v2⟩ := take_ok ns T top ht2.1
    refine ⟨_, s * v, ns', rfl, ?_, Int.mul_nonneg (by have := hs.1; omega) v1⟩
    simp [e, mul_int (mulOk_small (i := s) (j := v) (by omega))])
  obtain ⟨M, e4, d4, m4⟩ := from_pairs_ok n hn (C ns3 :: T) _ vs (given_lst _ vs) l3
  have hlm := prN_small hn
  simp at e2
  exact ⟨M, ns3, by simp [m_any_table, b_any_table, e1, e2, pairs_ok n hn, e3, lim_iws (vs := vs) (by omega), e4, end_draw0], d4, nn_of d4 l3 hv m4⟩
theorem plain_table_ok (n : Nat) (hn : n ≤ 100) : TabOk m_plain_table n (NNn n) := fun ns T => by
  have hlm := prN_small hn
  obtain ⟨js, ns1, e1, p1⟩ := shuffled_ok ns T (upF 1 (prN n).length) (by rw [upF_len]; omega)
  obtain ⟨M, e4, d4, m4⟩ := from_pairs_ok n hn (C ns1 :: T) _ js (given_lst _ js) (by rw [p1.length_eq, upF_len])
  have hc : rgC 1 (((prN n).length : Int) + 1) = true := by
    unfold rgC
    simp
    omega
  have h2 : ((((prN n).length : Int) + 1 - 1)).toNat = (prN n).length := by omega
  refine ⟨M, ns1, ?_, d4, nn_of d4 (by rw [p1.length_eq, upF_len]) (fun j v hv => ?_) m4⟩
  case refine_2 =>
    have := (p1.mem_iff).mp (List.mem_of_getElem? hv)
    unfold upF at this
    obtain ⟨i, _, rfl⟩ := List.mem_map.mp this
    omega
  simp only [m_plain_table, b_plain_table, runDef_ap, bseq_ap, bset_ap, bret_ap, mcall_ap, acons_ap, anil_ap, mv_ap, mk_ap, List.length_cons, List.length_nil, List.map_cons, List.map_nil]
  simp [pairs_ok n hn]
  simp [hc, h2, rngW_up, e1, e4, end_draw0]
end Kx

set_option Elab.async false
set_option linter.all false
set_option maxRecDepth 100000
set_option maxHeartbeats 4000000
set_option autoImplicit false
namespace GM
open PySem L2
theorem ab_nn (x : Int) : 0 ≤ ab x := by
  unfold ab
  split <;> omega
theorem dist_line {n : Nat} {M : Nat → Nat → Int} {P : Nat → Int} (d : Dist M) (h : ∀ a b, a < b → b < n → M a b = ab (P a - P b)) : ∀ a b, a < n → b < n → M a b = ab (P a - P b) := fun a b ha hb => by
  rcases Nat.lt_trichotomy a b with h1 | rfl | h1
  · exact h a b h1 hb
  · rw [d.1, Int.sub_self]; rfl
  · rw [d.2, h b a h1 ha]
    unfold ab
    split <;> split <;> omega
theorem tri_line {n : Nat} {M : Nat → Nat → Int} {P : Nat → Int} (h : ∀ a b, a < n → b < n → M a b = ab (P a - P b)) : Tri n M := fun a b c ha hb hc => by
  rw [h a c ha hc, h a b ha hb, h b c hb hc]
  unfold ab
  split <;> split <;> split <;> omega
theorem dist_plane {n : Nat} {M : Nat → Nat → Int} {P Q : Nat → Int} (d : Dist M) (h : ∀ a b, a < b → b < n → M a b = ab (P a - P b) + ab (Q a - Q b)) : Tri n M := by
  have key : ∀ a b, a < n → b < n → M a b = ab (P a - P b) + ab (Q a - Q b) := fun a b ha hb => by
    rcases Nat.lt_trichotomy a b with h1 | rfl | h1
    · exact h a b h1 hb
    · rw [d.1, Int.sub_self, Int.sub_self]; rfl
    · rw [d.2, h b a h1 ha]
      unfold ab
      split <;> split <;> split <;> split <;> omega
  intro a b c ha hb hc
  rw [key a c ha hc, key a b ha hb, key b c hb hc]
  unfold ab
  split <;> split <;> split <;> split <;> split <;> split <;> omega
theorem tups_of : ∀ (r : List W), (∀ (j : Nat) (x : W), r[j]? = some x → ∃ u v : Int, x = W.d (.tup [.int u, .int v])) → ∃ qs : List (Int × Int), r = qs.map fun q => W.d (.tup [.int q.1, .int q.2])
  | [], _ => ⟨[], rfl⟩
  | x :: r, h => by
    obtain ⟨u, v, rfl⟩ := h 0 x rfl
    obtain ⟨qs, rfl⟩ := tups_of r fun j y hj => h (j + 1) y hj
    exact ⟨(u, v) :: qs, rfl⟩
theorem cutW_map {α β : Type} (f : α → β) (xs : List α) (lo hi : Option Int) : cutW (xs.map f) lo hi = (cutW xs lo hi).map f := by
  unfold cutW
  rw [List.length_map, List.map_take, List.map_drop]
theorem cut_nat {α : Type} (xs : List α) (a b : Nat) (hb : b ≤ xs.length) (h : a < b) : cutW xs (some (a : Int)) (some (b : Int)) = (xs.drop a).take (b - a) := by
  unfold cutW
  rw [show HT.sIx xs.length 0 (some (a : Int)) = min a xs.length from HT.sIx_nat xs.length 0 a, show HT.sIx xs.length xs.length (some (b : Int)) = min b xs.length from HT.sIx_nat xs.length _ b]
  rw [show min a xs.length = a by omega, show min b xs.length = b by omega]
theorem max_some {zs : List Int} (h : zs ≠ []) : ∃ m, zs.max? = some m := by
  cases zs with
  | nil => exact absurd rfl h
  | cons a r => exact ⟨_, List.max?_cons'⟩
theorem intsW_iws : ∀ zs : List Int, intsW (iws zs) = some zs
  | [] => rfl
  | z :: r => by
    show (intsW (iws r)).bind _ = _
    rw [intsW_iws r]; rfl
end GM
namespace Kx
open PySem L2 GM
theorem line_table_ok (n : Nat) (hn : n ≤ 100) : TabOk m_line_table n (NNn n) := fun ns T => by
  have hlm := prN_small hn
  have hg : ∀ S, rg1 S [.d (.int (n : Int))] = some (.its (rngW 0 n)) := fun S => rg1_nat (by omega)
  obtain ⟨s, ns1, e1, hs⟩ := scale_ok ns T
  obtain ⟨vs, ns2, e2, l2, _⟩ := draw_ints (T := T) (ws := rngW 0 n) (g := gnm 4) (e := prim fMulX (acons (mv 2) (acons (mcall m_take (acons (mv 0) (acons (mk (.int 20)) anil))) anil))) (ρ := [some (.ref 0), some (.d (.int (n : Int))), some (.d (.int s)), none, none, none]) (n := n) (fun _ _ => True) ns1 (by simp) (fun i w ns hw => by
    obtain ⟨v, ns', e, v1, v2⟩ := take_ok ns T 20 (by omega)
    refine ⟨_, s * v, ns', rfl, ?_, trivial⟩
    simp [e, mul_int (mulOk_small (i := s) (j := v) (by omega))])
  have e3 : cloop (.its ((prN n).map (W.d ∘ pD))) (gnm 5) tyes (prim fAbs (acons (prim fSub (acons (prim fIx (acons (mv 3) (acons (prim fIx (acons (mv 5) (acons (mk (.int 0)) anil))) anil))) (acons (prim fIx (acons (mv 3) (acons (prim fIx (acons (mv 5) (acons (mk (.int 1)) anil))) anil))) anil))) anil)) [some (.ref 0), some (.d (.int (n : Int))), some (.d (.int s)), some (.d (.lst (vs.map D.int))), none, none] (prN n).length 0 (C ns2 :: T)
      = some (iws ((prN n).map fun p => ab (vs.getD p.1 0 - vs.getD p.2 0)), C ns2 :: T) := by
    rw [show iws ((prN n).map fun p => ab (vs.getD p.1 0 - vs.getD p.2 0)) = (prN n).map fun p => W.d (.int (ab (vs.getD p.1 0 - vs.getD p.2 0))) by unfold iws; rw [List.map_map]; rfl]
    refine cloop_fmap _ rfl fun p hp => ⟨_, rfl, ?_⟩
    have hm := prN_mem.mp hp
    have q1 : fIx (C ns2 :: T) [.d (.lst (vs.map D.int)), .d (.int (p.1 : Int))] = some (.d (.int (vs.getD p.1 0))) := ix_ints (by omega)
    have q2 : fIx (C ns2 :: T) [.d (.lst (vs.map D.int)), .d (.int (p.2 : Int))] = some (.d (.int (vs.getD p.2 0))) := ix_ints (by omega)
    simp [ix_p0, ix_p1, q1, q2, ab]
  have hl : ((prN n).map fun p => ab (vs.getD p.1 0 - vs.getD p.2 0)).length = (prN n).length := by simp
  generalize hds : ((prN n).map fun p => ab (vs.getD p.1 0 - vs.getD p.2 0)) = ds at e3 hl
  obtain ⟨M, e4, d4, m4⟩ := from_pairs_ok n hn (C ns2 :: T) _ ds (given_lst _ ds) hl
  refine ⟨M, ns2, by simp [m_line_table, b_line_table, e1, hg, e2, pairs_ok n hn, e3, lim_iws (vs := vs) (by omega), lim_iws (vs := ds) (by omega), e4, end_draw0], d4, ?_⟩
  refine nn_of d4 hl (fun j v hv => ?_) m4
  rw [← hds, List.getElem?_map] at hv
  obtain ⟨p, _, rfl⟩ := Option.map_eq_some_iff.mp hv
  exact ab_nn _
theorem plane_table_ok (n : Nat) (hn : n ≤ 100) : TabOk m_plane_table n (NNn n) := fun ns T => by
  have hlm := prN_small hn
  have hg : ∀ S, rg1 S [.d (.int (n : Int))] = some (.its (rngW 0 n)) := fun S => rg1_nat (by omega)
  obtain ⟨r, ns2, e2, l2, hr⟩ := cloop_draw (T := T) (ws := rngW 0 n) (g := gnm 6) (e := prim fTup (acons (mcall m_take (acons (mv 0) (acons (mk (.int 7)) anil))) (acons (mcall m_take (acons (mv 0) (acons (mk (.int 7)) anil))) anil))) (ρ := [some (.ref 0), some (.d (.int (n : Int))), none, none, none, none, none]) (fun _ x => ∃ u v : Int, x = W.d (.tup [.int u, .int v])) (fun i w ns hw => by
    obtain ⟨u, ns', e, v1, v2⟩ := take_ok ns T 7 (by omega)
    obtain ⟨v, ns'', e', v1', v2'⟩ := take_ok ns' T 7 (by omega)
    refine ⟨_, _, ns'', rfl, ?_, u, v, rfl⟩
    simp [e, e']) n 0 ns (by simp)
  obtain ⟨qs, rfl⟩ := tups_of r hr
  rw [List.length_map] at l2
  have ixq : ∀ S (k : Nat), k < n → fIx S [.d (.lst (qs.map fun q => D.tup [.int q.1, .int q.2])), .d (.int (k : Int))] = some (.d (.tup [.int (qs.getD k (0, 0)).1, .int (qs.getD k (0, 0)).2])) := fun S k hk => ix_lst (by
    rw [List.getElem?_map, List.getD_eq_getElem?_getD, List.getElem?_eq_getElem (by omega)]
    rfl)
  let d : Nat × Nat → Int := fun p => ab ((qs.getD p.1 (0, 0)).1 - (qs.getD p.2 (0, 0)).1) + ab ((qs.getD p.1 (0, 0)).2 - (qs.getD p.2 (0, 0)).2)
  have hloop := floop_inv (ws := (prN n).map (W.d ∘ pD)) (g := gtp 2 (gcons (gnm 4) (gcons (gnm 5) gnil))) (b := bdrop (mmeth tAppend (mv 3) (acons (prim fAdd (acons (prim fAbs (acons (prim fSub (acons (prim fIx (acons (prim fIx (acons (mv 2) (acons (mv 4) anil))) (acons (mk (.int 0)) anil))) (acons (prim fIx (acons (prim fIx (acons (mv 2) (acons (mv 5) anil))) (acons (mk (.int 0)) anil))) anil))) anil)) (acons (prim fAbs (acons (prim fSub (acons (prim fIx (acons (prim fIx (acons (mv 2) (acons (mv 4) anil))) (acons (mk (.int 1)) anil))) (acons (prim fIx (acons (prim fIx (acons (mv 2) (acons (mv 5) anil))) (acons (mk (.int 1)) anil))) anil))) anil)) anil))) anil)))
    (fun i ρ S' => ∃ x4 x5, S' = C ns2 :: (T ++ [C (((prN n).take i).map d)]) ∧ ρ = [some (.ref 0), some (.d (.int (n : Int))), some (.d (.lst (qs.map fun q => D.tup [.int q.1, .int q.2]))), some (.ref (T.length + 1)), x4, x5, none])
    (fun o => ∃ x4 x5, o = .nx [some (.ref 0), some (.d (.int (n : Int))), some (.d (.lst (qs.map fun q => D.tup [.int q.1, .int q.2]))), some (.ref (T.length + 1)), x4, x5, none] (C ns2 :: (T ++ [C ((prN n).map d)])))
    (fun i w ρ S' hw ⟨x4, x5, h1, h2⟩ => by
      subst h1 h2
      have hi : i < (prN n).length := by
        have := (List.getElem?_eq_some_iff.mp hw).1
        simpa using this
      rw [List.getElem?_map, List.getElem?_eq_getElem hi] at hw
      have hm := prN_mem.mp (List.getElem_mem hi)
      have ht : (prN n).take (i + 1) = (prN n).take i ++ [(prN n)[i]] := by rw [List.take_add_one, List.getElem?_eq_getElem hi]; rfl
      generalize (prN n)[i] = p at hw hm ht
      cases hw
      refine ⟨_, .nx [some (.ref 0), some (.d (.int (n : Int))), some (.d (.lst (qs.map fun q => D.tup [.int q.1, .int q.2]))), some (.ref (T.length + 1)), some (.d (.int (p.1 : Int))), some (.d (.int (p.2 : Int))), none] (C ns2 :: (T ++ [C (((prN n).take (i + 1)).map d)])), by simp [pD]; rfl, ?_, _, _, rfl, rfl⟩
      have q1 : ∀ l, lstOf (C ns2 :: (T ++ [C l])) (T.length + 1) = some (iws l) := fun l => lstOf_eq one1
      have q2 : tAppend (iws (((prN n).take i).map d)) [.d (.int (d p))] = some (.d .non, iws (((prN n).take (i + 1)).map d)) := by
        rw [ht, List.map_append]
        show (if (iws (((prN n).take i).map d)).length ≤ 1000000 then _ else none) = _
        rw [if_pos (by simp; omega)]
        rw [show iws (((prN n).take i).map d ++ [p].map d) = iws (((prN n).take i).map d) ++ [W.d (.int (d p))] from List.map_append]
      generalize ((prN n).take i).map d = l1 at q2
      generalize ((prN n).take (i + 1)).map d = l2' at q2
      have hd : d p = ab ((qs.getD p.1 (0, 0)).1 - (qs.getD p.2 (0, 0)).1) + ab ((qs.getD p.1 (0, 0)).2 - (qs.getD p.2 (0, 0)).2) := rfl
      rw [hd] at q2
      unfold ab at q2
      simp [q1, ixq _ p.1 (by omega), ixq _ p.2 (by omega), ix_t0, ix_t1]
      simp at q2
      simp [q2, set1c])
    (fun ρ S' ⟨x4, x5, h1, h2⟩ => ⟨x4, x5, by rw [h1, h2, List.length_map, List.take_length]⟩)
    (prN n).length 0 [some (.ref 0), some (.d (.int (n : Int))), some (.d (.lst (qs.map fun q => D.tup [.int q.1, .int q.2]))), some (.ref (T.length + 1)), none, none, none] (C ns2 :: (T ++ [C []])) (by simp) ⟨none, none, rfl, rfl⟩
  obtain ⟨o, l1, x4, x5, rfl⟩ := hloop
  have hl : ((prN n).map d).length = (prN n).length := by simp
  generalize hds : (prN n).map d = ds at l1 hl
  obtain ⟨M, e4, d4, m4⟩ := from_pairs_ok n hn (C ns2 :: (T ++ [C ds])) (.ref (T.length + 1)) ds (given_ref _ _ ds one1) hl
  refine ⟨M, ns2, ?_, d4, nn_of d4 hl (fun j v hv => ?_) m4⟩
  case refine_2 =>
    rw [← hds, List.getElem?_map] at hv
    obtain ⟨p, _, rfl⟩ := Option.map_eq_some_iff.mp hv
    exact Int.add_nonneg (ab_nn _) (ab_nn _)
  have z : C [] = Cell.lst [] := rfl
  rw [z] at l1
  have hlim : lim (qs.map (fun q => W.d (.tup [.int q.1, .int q.2])), C ns2 :: T) = some (qs.map (fun q => W.d (.tup [.int q.1, .int q.2])), C ns2 :: T) := lim_ap (by simp; omega)
  simp [m_plane_table, b_plane_table, hg, e2, hlim, datas_fmap, pairs_ok n hn, l1, e4]
  exact end_draw
end Kx

set_option Elab.async false
set_option linter.all false
set_option maxRecDepth 100000
set_option maxHeartbeats 4000000
set_option autoImplicit false
namespace GM
open PySem L2
theorem tab_dist_map {M : Nat → Nat → Int} {f : Nat → Nat} (d : Dist M) : Dist fun i j => M (f i) (f j) := ⟨fun a => d.1 _, fun a b => d.2 _ _⟩
theorem nats_of_perm {js : List Int} {n : Nat} (h : js.Perm (upF 0 n)) : ∃ ks : List Nat, js = ks.map (fun (k : Nat) => (k : Int)) ∧ ks.length = n ∧ ks.Perm (List.range n) := by
  refine ⟨js.map Int.toNat, ?_, by rw [List.length_map, h.length_eq, upF_len], ?_⟩
  · rw [List.map_map]
    have : ∀ x ∈ js, ((fun (k : Nat) => (k : Int)) ∘ Int.toNat) x = x := fun x hx => by
      have := (h.mem_iff).mp hx
      unfold upF at this
      obtain ⟨i, _, rfl⟩ := List.mem_map.mp this
      simp
    rw [List.map_congr_left this]
    simp
  · have := h.map Int.toNat
    unfold upF at this
    rw [List.map_map] at this
    have e : (Int.toNat ∘ fun (i : Nat) => (0 : Int) + (i : Int)) = id := by
      funext i
      simp
    rw [e, List.map_id] at this
    exact this
end GM
namespace Kx
open PySem L2 GM
theorem even_table_ok (n : Nat) (hn : n ≤ 100) : TabOk m_even_table n (NNn n) := fun ns T => by
  have hlm := prN_small hn
  have hg : ∀ S, rg1 S [.d (.int (n : Int))] = some (.its (rngW 0 n)) := fun S => rg1_nat (by omega)
  obtain ⟨vs, ns2, e2, l2, hvs⟩ := draw_ints (T := T) (ws := rngW 0 n) (g := gnm 3) (e := prim fAdd (acons (mk (.int 1)) (acons (mcall m_take (acons (mv 0) (acons (mk (.int 9)) anil))) anil))) (ρ := [some (.ref 0), some (.d (.int (n : Int))), none, none, none]) (n := n) (fun _ v => 0 ≤ v) ns (by simp) (fun i w ns hw => by
    obtain ⟨v, ns', e, v1, v2⟩ := take_ok ns T 9 (by omega)
    refine ⟨_, 1 + v, ns', rfl, ?_, by omega⟩
    simp [e])
  have e3 : cloop (.its ((prN n).map (W.d ∘ pD))) (gnm 4) tyes (prim fMaxL (acons (msl slX (mv 2) (osome (prim fIx (acons (mv 4) (acons (mk (.int 0)) anil)))) (osome (prim fIx (acons (mv 4) (acons (mk (.int 1)) anil))))) anil)) [some (.ref 0), some (.d (.int (n : Int))), some (.d (.lst (vs.map D.int))), none, none] (prN n).length 0 (C ns2 :: T)
      = some (iws ((prN n).map fun p => (((vs.drop p.1).take (p.2 - p.1)).max?).getD 0), C ns2 :: T) := by
    rw [show iws ((prN n).map fun p => (((vs.drop p.1).take (p.2 - p.1)).max?).getD 0) = (prN n).map fun p => W.d (.int ((((vs.drop p.1).take (p.2 - p.1)).max?).getD 0)) by unfold iws; rw [List.map_map]; rfl]
    refine cloop_fmap _ rfl fun p hp => ⟨_, rfl, ?_⟩
    have hm := prN_mem.mp hp
    have q1 : slX (C ns2 :: T) (.d (.lst (vs.map D.int))) (some (p.1 : Int)) (some (p.2 : Int)) = some (.d (.lst (((vs.drop p.1).take (p.2 - p.1)).map D.int))) := by
      show (some ((vs.map D.int).map W.d)).bind (fun ws => (datas (cutW ws _ _)).bind fun ds => some (W.d (.lst ds))) = _
      rw [Option.bind_some, cutW_map, datas_map', cutW_map, cut_nat _ _ _ (by omega) hm.1]
      rfl
    have hz : ((vs.drop p.1).take (p.2 - p.1)) ≠ [] := fun z => by
      have := congrArg List.length z
      simp at this
      omega
    obtain ⟨m, hm2⟩ := max_some hz
    have q2 : fMaxL (C ns2 :: T) [.d (.lst (((vs.drop p.1).take (p.2 - p.1)).map D.int))] = some (.d (.int ((((vs.drop p.1).take (p.2 - p.1)).max?).getD 0))) := by
      show (some ((((vs.drop p.1).take (p.2 - p.1)).map D.int).map W.d)).bind (fun ws => (intsW ws).bind fun ns => ns.max?.bind fun m => some (W.d (.int m))) = _
      rw [Option.bind_some, show ((((vs.drop p.1).take (p.2 - p.1)).map D.int).map W.d) = iws ((vs.drop p.1).take (p.2 - p.1)) by rw [List.map_map]; rfl, intsW_iws, Option.bind_some, hm2]
      rfl
    generalize ((vs.drop p.1).take (p.2 - p.1)) = zs at q1 q2
    simp [ix_p0, ix_p1, q1, q2]
  have hl : ((prN n).map fun p => (((vs.drop p.1).take (p.2 - p.1)).max?).getD 0).length = (prN n).length := by simp
  have hnn : ∀ (j : Nat) (v : Int), ((prN n).map fun p => (((vs.drop p.1).take (p.2 - p.1)).max?).getD 0)[j]? = some v → 0 ≤ v := fun j v hv => by
    rw [List.getElem?_map] at hv
    obtain ⟨p, _, rfl⟩ := Option.map_eq_some_iff.mp hv
    cases hq : ((vs.drop p.1).take (p.2 - p.1)).max? with
    | none => exact Int.le_refl 0
    | some u =>
      have h1 := (List.max?_eq_some_iff.mp hq).1
      have h2 := List.mem_of_mem_drop (List.mem_of_mem_take h1)
      obtain ⟨i, hi⟩ := List.getElem?_of_mem h2
      exact hvs i u hi
  generalize ((prN n).map fun p => (((vs.drop p.1).take (p.2 - p.1)).max?).getD 0) = ds at e3 hl hnn
  obtain ⟨M, e4, d4, m4⟩ := from_pairs_ok n hn (C ns2 :: T) _ ds (given_lst _ ds) hl
  exact ⟨M, ns2, by simp [m_even_table, b_even_table, hg, e2, pairs_ok n hn, e3, lim_iws (vs := vs) (by omega), lim_iws (vs := ds) (by omega), e4, end_draw0], d4, nn_of d4 hl hnn m4⟩
theorem named_ok (n : Nat) (hn : n ≤ 100) (ns : List Int) (T : Sto) (M : Nat → Nat → Int) (d : Dist M) (nn : NNn n M) : ∃ M' ns', m_named [.ref 0, .d (tab n M)] (C ns :: T) = some (.val (.d (tab n M')), C ns' :: T) ∧ Dist M' ∧ NNn n M' := by
  obtain ⟨js, ns1, e1, p1⟩ := shuffled_ok ns T (upF 0 n) (by rw [upF_len]; omega)
  obtain ⟨ks, rfl, lk, pk⟩ := nats_of_perm p1
  have hc : rgC 0 (n : Int) = true := by
    unfold rgC
    simp
    omega
  have hp := part_ok n M (.d (.lst ((ks.map fun (k : Nat) => (k : Int)).map D.int))) ks (C ns1 :: T) (by rw [srcA_lst, List.map_map, List.map_map]; rfl) (fun t ht => List.mem_range.mp ((pk.mem_iff).mp ht)) (by omega)
  rw [at2_tab, lk] at hp
  have hks : ∀ a, a < n → ks.getD a 0 < n := fun a ha => by
    rw [List.getD_eq_getElem?_getD, List.getElem?_eq_getElem (by omega)]
    exact List.mem_range.mp ((pk.mem_iff).mp (List.getElem_mem (by omega)))
  generalize (ks.map fun (k : Nat) => (k : Int)) = js at e1 hp
  refine ⟨_, ns1, ?_, tab_dist_map (f := fun i => ks.getD i 0) d, fun a b ha hb => nn _ _ (hks a ha) (hks b hb)⟩
  simp only [m_named, b_named, runDef_ap, bseq_ap, bset_ap, bret_ap, mcall_ap, acons_ap, anil_ap, mv_ap, List.length_cons, List.length_nil, List.map_cons, List.map_nil]
  simp [tab_len]
  simp [hc, rngW_up, e1, hp, end_draw0]
theorem table_ok (n : Nat) (hn : n ≤ 100) : TabOk m_table n (NNn n) := fun ns T => by
  obtain ⟨k, ns1, e1, h1, h2⟩ := take_ok ns T 7 (by omega)
  by_cases c0 : k = 0
  · obtain ⟨M, ns2, e2, d2, n2⟩ := line_table_ok n hn ns1 T
    exact ⟨M, ns2, by simp [m_table, b_table, e1, c0, e2, end_draw0], d2, n2⟩
  by_cases c1 : k = 1
  · obtain ⟨M, ns2, e2, d2, n2⟩ := plane_table_ok n hn ns1 T
    exact ⟨M, ns2, by simp [m_table, b_table, e1, c1, e2, end_draw0], d2, n2⟩
  by_cases c2 : k = 2
  · obtain ⟨M, ns2, e2, d2, n2⟩ := plain_table_ok n hn ns1 T
    exact ⟨M, ns2, by simp [m_table, b_table, e1, c2, e2, end_draw0], d2, n2⟩
  by_cases c3 : k = 3
  · obtain ⟨M, ns2, e2, d2, n2⟩ := even_table_ok n hn ns1 T
    obtain ⟨M', ns3, e3, d3, n3⟩ := named_ok n hn ns2 T M d2 n2
    exact ⟨M', ns3, by simp [m_table, b_table, e1, c3, e2, e3, end_draw0], d3, n3⟩
  · obtain ⟨M, ns2, e2, d2, n2⟩ := any_table_ok n hn ns1 T
    exact ⟨M, ns2, by simp [m_table, b_table, e1, c0, c1, c2, c3, e2, end_draw0], d2, n2⟩
end Kx

set_option Elab.async false
set_option linter.all false
set_option maxRecDepth 100000
set_option maxHeartbeats 4000000
set_option autoImplicit false
namespace GM
open PySem L2
/-- data that _law_same takes: not deeper than n -/
def okD : Nat → D → Prop
  | _, .non => True
  | _, .bl _ => True
  | _, .int _ => True
  | n + 1, .tup ds => ds.length ≤ 1000000 ∧ ∀ d ∈ ds, okD n d
  | n + 1, .lst ds => ds.length ≤ 1000000 ∧ ∀ d ∈ ds, okD n d
  | _, _ => False
section
variable {S : Sto}
theorem isi_d {x : D} {b : String} (h : b ∈ ["int", "bool", "tuple", "list", "str"]) : fIsi S [.d x, .op (.ty b)] = (isB (tyD x) b).bind fun r => some (.d (.bl r)) := by
  show (if _ then _ else none) = _
  rw [if_pos h]; rfl
theorem ne_bl {a : Bool} : fNe S [.d (.bl a), .d (.bl a)] = some (.d (.bl false)) := by
  cases a <;> simp [fNe, fEqB, view, sh, eqD, D.py, PyData.eqv]
theorem eq_same {x : D} (h : match x with | .non => True | .bl _ => True | .int _ => True | _ => False) : fEq S [.d x, .d x] = some (.d (.bl true)) := by
  cases x with
  | non => simp [fEq, fEqB, view, sh, eqD, D.py, PyData.eqv]
  | bl a => cases a <;> simp [fEq, fEqB, view, sh, eqD, D.py, PyData.eqv]
  | int i => simp
  | _ => exact h.elim
theorem notIn_trues {n : Nat} : fNotIn S [.d (.bl false), .d (.lst (List.replicate n (.bl true)))] = some (.d (.bl true)) := by
  have h1 : inD (.bl false) (List.replicate n (.bl true)) = false := by
    unfold inD
    rw [List.any_eq_false]
    intro x hx
    rw [List.eq_of_mem_replicate hx]
    simp [eqD, D.py, PyData.eqv]
  have h2 : (sh 40 (.bl false) && (List.replicate n (D.bl true)).all (sh 39)) = true := by
    rw [Bool.and_eq_true]
    refine ⟨rfl, List.all_eq_true.mpr fun x hx => ?_⟩
    rw [List.eq_of_mem_replicate hx]
    rfl
  show (if _ then _ else none) = _
  rw [if_pos h2, h1]
  rfl
end
end GM
namespace Kx
open PySem L2 GM
theorem sameF_ok : ∀ (n : Nat) (x : D) (S : Sto), okD n x → m_sameF (n + 1) [.d x, .d x] S = some (.val (.d (.bl true)), S) := by
  have flat : ∀ (n : Nat) (x : D) (S : Sto), (match x with | .non => True | .bl _ => True | .int _ => True | _ => False) → m_sameF (n + 1) [.d x, .d x] S = some (.val (.d (.bl true)), S) := fun n x S h => by
    have he := eq_same (S := S) h
    show runDef 2 3 (b_same (m_sameF n)) _ _ = _
    cases x with
    | non => simp [b_same, isi_d, tyW, tyD, isAny, isB, ne_bl, fIsN, he, end_pure0]
    | bl a => simp [b_same, isi_d, tyW, tyD, isAny, isB, ne_bl, fIsN, he, end_pure0]
    | int i => simp [b_same, isi_d, tyW, tyD, isAny, isB, ne_bl, fIsN, he, end_pure0]
    | _ => exact h.elim
  intro n
  induction n with
  | zero =>
    intro x S h
    cases x with
    | non => exact flat 0 _ S trivial
    | bl a => exact flat 0 _ S trivial
    | int i => exact flat 0 _ S trivial
    | _ => exact h.elim
  | succ n ih =>
    intro x S h
    have hrow : ∀ (v : W) (ds : List D), ds.length ≤ 1000000 → (∀ d ∈ ds, okD n d) → (∀ (k : Nat) (d : D), ds[k]? = some d → fIx S [v, .d (.int (k : Int))] = some (.d d)) → cloop (.its (rngW 0 ds.length)) (gnm 2) tyes (mcall (m_sameF (n + 1)) (acons (prim fIx (acons (mv 0) (acons (mv 2) anil))) (acons (prim fIx (acons (mv 1) (acons (mv 2) anil))) anil))) [some v, some v, none] ds.length 0 S = some ((List.range ds.length).map (fun _ => W.d (.bl true)), S) := fun v ds _ hd hx => by
      refine cloop_fmap (k := fun (i : Nat) => W.d (.int ((0 : Int) + (i : Int)))) (fun _ => W.d (.bl true)) (by simp) fun i hi => ⟨_, rfl, ?_⟩
      have hi' : i < ds.length := List.mem_range.mp hi
      have e1 := hx i ds[i] (List.getElem?_eq_getElem hi')
      have e2 := ih ds[i] S (hd _ (List.getElem_mem hi'))
      simp [e1, e2]
    have rep : ∀ m : Nat, (List.range m).map (fun _ => D.bl true) = List.replicate m (.bl true) := fun m => by rw [List.map_const', List.length_range]
    cases x with
    | non => exact flat _ _ S trivial
    | bl a => exact flat _ _ S trivial
    | int i => exact flat _ _ S trivial
    | tup ds =>
      have e1 := hrow (.d (.tup ds)) ds h.1 h.2 fun k d hk => ix_tup hk
      have hg : rg1 S [.d (.int (ds.length : Int))] = some (.its (rngW 0 ds.length)) := rg1_nat h.1
      have hl : lim ((List.range ds.length).map (fun _ => W.d (.bl true)), S) = some ((List.range ds.length).map (fun _ => W.d (.bl true)), S) := lim_ap (by simpa using h.1)
      have hd : datas ((List.range ds.length).map (fun _ => W.d (.bl true))) = some (List.replicate ds.length (.bl true)) := by rw [datas_fmap, rep]
      generalize (List.range ds.length).map (fun _ => W.d (.bl true)) = r at e1 hl hd
      show runDef 2 3 (b_same (m_sameF (n + 1))) _ _ = _
      simp [b_same, isi_d, tyW, tyD, isAny, isB, ne_bl, hg, e1, hl, hd, notIn_trues, end_pure0]
    | lst ds =>
      have e1 := hrow (.d (.lst ds)) ds h.1 h.2 fun k d hk => ix_lst hk
      have hg : rg1 S [.d (.int (ds.length : Int))] = some (.its (rngW 0 ds.length)) := rg1_nat h.1
      have hl : lim ((List.range ds.length).map (fun _ => W.d (.bl true)), S) = some ((List.range ds.length).map (fun _ => W.d (.bl true)), S) := lim_ap (by simpa using h.1)
      have hd : datas ((List.range ds.length).map (fun _ => W.d (.bl true))) = some (List.replicate ds.length (.bl true)) := by rw [datas_fmap, rep]
      generalize (List.range ds.length).map (fun _ => W.d (.bl true)) = r at e1 hl hd
      show runDef 2 3 (b_same (m_sameF (n + 1))) _ _ = _
      simp [b_same, isi_d, tyW, tyD, isAny, isB, ne_bl, hg, e1, hl, hd, notIn_trues, end_pure0]
    | _ => exact h.elim
theorem same_ok {x : D} {S : Sto} (h : okD 7 x) : m_same [.d x, .d x] S = some (.val (.d (.bl true)), S) := sameF_ok 7 x S h
theorem draws_ok (ns : List Int) (h : ns.length ≤ 63) : ∃ ms, m_draws [.d (.scr (ns.map D.int)), .d (.int 900)] [] = some (.new (iws ms), []) := by
  have hg : ∀ S, rg1 S [.d (.int 900)] = some (.its (rngW 0 900)) := fun S => rg1_nat (n := 900) (by omega)
  obtain ⟨q, hq0, hq⟩ : ∃ q : Int, 0 < q ∧ ∀ S, fShl S [.d (.int 1), .d (.int 7200)] = some (.d (.int q)) := ⟨_, Int.mul_pos (by omega) (Int.pow_pos (by omega)), fun S => shl_int (by omega) (by omega) (by omega)⟩
  obtain ⟨b18, hb⟩ : ∃ b : Int, ∀ S, fPow S [.d (.int 10), .d (.int 18)] = some (.d (.int b)) := ⟨_, fun S => pow_int (by omega) (by omega) (by omega)⟩
  -- script[:63]
  obtain ⟨n1, hn1, hs1⟩ : ∃ n1 : List Int, n1.length ≤ 63 ∧ slX [] (.d (.scr (ns.map D.int))) none (some 63) = some (.d (.lst (n1.map D.int))) := by
    refine ⟨cutW ns none (some 63), ?_, ?_⟩
    · unfold cutW
      rw [List.length_take, List.length_drop]
      omega
    · show (some ((ns.map D.int).map W.d)).bind (fun ws => (datas (cutW ws _ _)).bind fun ds => some (W.d (.lst ds))) = _
      rw [Option.bind_some, cutW_map, datas_map', cutW_map]
      rfl
  -- the cells
  have c1 : ∀ many : W, cloop (.its (n1.map fun i => W.d (.int i))) (gnm 8) tyes (prim fMod (acons (prim fInt (acons (mv 8) anil)) (acons (prim fShl (acons (mk (.int 1)) (acons (mk (.int 7200)) anil))) anil))) [some (.d (.scr (ns.map D.int))), some many, none, none, none, none, none, none, none] n1.length 0 [] = some (iws (n1.map fun i => i % q), []) := fun many => by
    rw [show iws (n1.map fun i => i % q) = n1.map fun i => W.d (.int (i % q)) by unfold iws; rw [List.map_map]; rfl]
    refine cloop_fmap _ rfl fun i hi => ⟨_, rfl, ?_⟩
    simp [hq, mod_int hq0]
  have l1 : (n1.map fun i => i % q).length = n1.length := by simp
  generalize (n1.map fun i => i % q) = cs at c1 l1
  have lm : lim (iws cs, []) = some (iws cs, []) := lim_iws (by omega)
  -- the rest, from cells that are not empty
  have rest : ∀ (c2 : List Int) (k8 : Option W), 0 < c2.length → c2.length ≤ 100 → ∃ ms,
      ((bseq (bset 3 (thw (primF fList (acons (mv 2) anil))))
  (bseq (bset 4 (thw (primF fLst anil)))
  (bseq (bfor (iargs rg1 (acons (mv 1) anil)) (gnm 5)
  (bseq (bset 6 (prim fMod (acons (prim fInt (acons (mv 5) anil)) (acons (prim fLen (acons (mv 2) anil)) anil))))
  (bcond (tand (tst (prim fGe (acons (prim fIx (acons (mv 2) (acons (mv 6) anil))) (acons (prim fPow (acons (mk (.int 10)) (acons (mk (.int 18)) anil))) anil)))) (tst (prim fGt (acons (prim fIx (acons (mv 3) (acons (mv 6) anil))) (acons (mk (.int 0)) anil))))) (bseq (bdrop (mmeth tAppend (mv 4) (acons (prim fMod (acons (prim fInt (acons (prim fIx (acons (mv 3) (acons (mv 6) anil))) anil)) (acons (mk (.int 1000)) anil))) anil)))
  (bsub (prim fDiv (acons (prim fIx (acons (mv 3) (acons (mv 6) anil))) (acons (mk (.int 1000)) anil))) (mv 3) (mv 6))) (bseq (bset 7 (prim fMod (acons (prim fInt (acons (prim fAdd (acons (prim fAdd (acons (prim fMulX (acons (prim fIx (acons (mv 2) (acons (mv 6) anil))) (acons (mk (.int 48271)) anil))) (acons (prim fMulX (acons (mv 5) (acons (mk (.int 69621)) anil))) anil))) (acons (mk (.int 11)) anil))) anil)) (acons (mk (.int 2147483647)) anil))))
  (bdrop (mmeth tAppend (mv 4) (acons (prim fMod (acons (prim fInt (acons (prim fAdd (acons (prim fAdd (acons (prim fMulX (acons (mv 7) (acons (mv 7) anil))) (acons (prim fMulX (acons (mk (.int 3)) (acons (mv 7) anil))) anil))) (acons (mv 5) anil))) anil)) (acons (mk (.int 1000003)) anil))) anil)))))))
  (bseq (bdrop (mmeth tReverse (mv 4) anil))
  (bret (mv 4)))))) [some (.d (.scr (ns.map D.int))), some (.d (.int 900)), some (.ref 0), none, none, none, none, none, k8] [C c2]).bind (endDef []) = some (.new (iws ms), []) := by
    intro c2 k8 h0 h100
    have hloop := floop_inv (ws := rngW 0 900) (g := gnm 5) (b := (bseq (bset 6 (prim fMod (acons (prim fInt (acons (mv 5) anil)) (acons (prim fLen (acons (mv 2) anil)) anil))))
  (bcond (tand (tst (prim fGe (acons (prim fIx (acons (mv 2) (acons (mv 6) anil))) (acons (prim fPow (acons (mk (.int 10)) (acons (mk (.int 18)) anil))) anil)))) (tst (prim fGt (acons (prim fIx (acons (mv 3) (acons (mv 6) anil))) (acons (mk (.int 0)) anil))))) (bseq (bdrop (mmeth tAppend (mv 4) (acons (prim fMod (acons (prim fInt (acons (prim fIx (acons (mv 3) (acons (mv 6) anil))) anil)) (acons (mk (.int 1000)) anil))) anil)))
  (bsub (prim fDiv (acons (prim fIx (acons (mv 3) (acons (mv 6) anil))) (acons (mk (.int 1000)) anil))) (mv 3) (mv 6))) (bseq (bset 7 (prim fMod (acons (prim fInt (acons (prim fAdd (acons (prim fAdd (acons (prim fMulX (acons (prim fIx (acons (mv 2) (acons (mv 6) anil))) (acons (mk (.int 48271)) anil))) (acons (prim fMulX (acons (mv 5) (acons (mk (.int 69621)) anil))) anil))) (acons (mk (.int 11)) anil))) anil)) (acons (mk (.int 2147483647)) anil))))
  (bdrop (mmeth tAppend (mv 4) (acons (prim fMod (acons (prim fInt (acons (prim fAdd (acons (prim fAdd (acons (prim fMulX (acons (mv 7) (acons (mv 7) anil))) (acons (prim fMulX (acons (mk (.int 3)) (acons (mv 7) anil))) anil))) (acons (mv 5) anil))) anil)) (acons (mk (.int 1000003)) anil))) anil)))))))
      (fun i ρ S' => ∃ ls ds x5 x6 x7, S' = [C c2, C ls, C ds] ∧ ls.length = c2.length ∧ ds.length = i ∧ ρ = [some (.d (.scr (ns.map D.int))), some (.d (.int 900)), some (.ref 0), some (.ref 1), some (.ref 2), x5, x6, x7, k8])
      (fun o => ∃ ls ds x5 x6 x7, o = .nx [some (.d (.scr (ns.map D.int))), some (.d (.int 900)), some (.ref 0), some (.ref 1), some (.ref 2), x5, x6, x7, k8] [C c2, C ls, C ds])
      (fun i w ρ S' hw ⟨ls, ds, x5, x6, x7, h1, h2, h3, h4⟩ => by
        obtain ⟨hi, rfl⟩ := rngW_at0 hw
        subst h1 h4
        obtain ⟨p, hp, hpe⟩ : ∃ p : Nat, p < c2.length ∧ (i : Int) % (c2.length : Int) = (p : Int) := ⟨i % c2.length, Nat.mod_lt _ h0, by omega⟩
        have a0 : ∀ S, fLen (C c2 :: S) [.ref 0] = some (.d (.int (c2.length : Int))) := fun S => by
          have := len_ref (S := C c2 :: S) (k := 0) (ws := iws c2) rfl
          rwa [List.length_map] at this
        have a1 : ∀ S, fMod S [.d (.int (i : Int)), .d (.int (c2.length : Int))] = some (.d (.int (p : Int))) := fun S => by rw [mod_int (by omega), hpe]
        have a2 : ∀ S, fIx (C c2 :: S) [.ref 0, .d (.int (p : Int))] = some (.d (.int (c2.getD p 0))) := fun S => ix_ref (ws := iws c2) rfl (by rw [List.getElem?_map, GM.getD_at hp]; rfl)
        have a3 : ∀ S, fIx (C c2 :: C ls :: S) [.ref 1, .d (.int (p : Int))] = some (.d (.int (ls.getD p 0))) := fun S => ix_ref (ws := iws ls) rfl (by rw [List.getElem?_map, GM.getD_at (by omega)]; rfl)
        have a4 : ∀ (z : Int), tAppend (iws ds) [.d (.int z)] = some (.d .non, iws (ds ++ [z])) := fun z => by
          show (if (iws ds).length ≤ 1000000 then _ else none) = _
          rw [if_pos (by rw [List.length_map]; omega), show iws (ds ++ [z]) = iws ds ++ [W.d (.int z)] from List.map_append]
        have a5 : ∀ l d, lstOf [C c2, C l, C d] 2 = some (iws d) := fun l d => rfl
        have a6 : ∀ l d, lstOf [C c2, C l, C d] 1 = some (iws l) := fun l d => rfl
        have a7 : ixN (iws ls).length (p : Int) = some p := ixN_nat (by rw [List.length_map]; omega)
        have a8 : ∀ S (x : Int), fMod S [.d (.int x), .d (.int 1000)] = some (.d (.int (x % 1000))) := fun S x => mod_int (by omega)
        have a9 : ∀ S (x : Int), fDiv S [.d (.int x), .d (.int 1000)] = some (.d (.int (x / 1000))) := fun S x => div_int (by omega) (Nat.lt_of_lt_of_le (show (1000 : Int).natAbs < 2 ^ 10 by decide) (Nat.pow_le_pow_right (by omega) (by omega)))
        have b1 : ∀ S (x : Int), fMod S [.d (.int x), .d (.int 2147483647)] = some (.d (.int (x % 2147483647))) := fun S x => mod_int (by omega)
        have b2 : ∀ S (x : Int), fMod S [.d (.int x), .d (.int 1000003)] = some (.d (.int (x % 1000003))) := fun S x => mod_int (by omega)
        have b3 : ∀ S (x : Int), fMulX S [.d (.int x), .d (.int 48271)] = some (.d (.int (x * 48271))) := fun S x => mul_int (mulOk_small (by omega))
        have b4 : ∀ S (x : Int), fMulX S [.d (.int x), .d (.int 69621)] = some (.d (.int (x * 69621))) := fun S x => mul_int (mulOk_small (by omega))
        have b5 : ∀ S (x : Int), fMulX S [.d (.int 3), .d (.int x)] = some (.d (.int (3 * x))) := fun S x => mul_int (mulOk_smallL (by omega))
        have b6 : ∀ S (x : Int), fMulX S [.d (.int (x % 2147483647)), .d (.int (x % 2147483647))] = some (.d (.int ((x % 2147483647) * (x % 2147483647)))) := fun S x => mul_int (mulOk_small (by
          have h1 := Int.emod_nonneg x (show (2147483647 : Int) ≠ 0 by omega)
          have h2 := Int.emod_lt_of_pos x (show (0 : Int) < 2147483647 by omega)
          omega))
        by_cases t : b18 ≤ c2.getD p 0 ∧ 0 < ls.getD p 0
        · refine ⟨_, .nx [some (.d (.scr (ns.map D.int))), some (.d (.int 900)), some (.ref 0), some (.ref 1), some (.ref 2), some (.d (.int (i : Int))), some (.d (.int (p : Int))), x7, k8] [C c2, C (ls.set p (ls.getD p 0 / 1000)), C (ds ++ [ls.getD p 0 % 1000])], rfl, ?_, _, _, _, _, _, rfl, by rw [List.length_set]; exact h2, by simp [h3], rfl⟩
          have b7 : (iws ls).set p (.d (.int (ls.getD p 0 / 1000))) = iws (ls.set p (ls.getD p 0 / 1000)) := List.map_set.symm
          obtain ⟨t1, t2⟩ := t
          generalize c2.getD p 0 = g1 at *
          generalize ls.getD p 0 = g2 at *
          simp [a0, a1, a2, a3, hb, t1, t2, a5, a8, a4, a9]
          have e6 : lstOf [C c2, C ls, C (ds ++ [g2 % 1000])] 1 = some (iws ls) := rfl
          have a7' : ixN ls.length (p : Int) = some p := ixN_nat (by omega)
          refine bind_eq (show lstOf _ 1 = some (iws ls) from rfl) (bind_eq a7 ?_)
          rw [b7, show C (ds ++ [g2 % 1000]) = Cell.lst (List.map (fun i => W.d (.int i)) ds ++ [W.d (.int (g2 % 1000))]) from congrArg Cell.lst List.map_append]
        · refine ⟨_, .nx [some (.d (.scr (ns.map D.int))), some (.d (.int 900)), some (.ref 0), some (.ref 1), some (.ref 2), some (.d (.int (i : Int))), some (.d (.int (p : Int))), some (.d (.int ((c2.getD p 0 * 48271 + (i : Int) * 69621 + 11) % 2147483647))), k8] [C c2, C ls, C (ds ++ [(((c2.getD p 0 * 48271 + (i : Int) * 69621 + 11) % 2147483647) * ((c2.getD p 0 * 48271 + (i : Int) * 69621 + 11) % 2147483647) + 3 * ((c2.getD p 0 * 48271 + (i : Int) * 69621 + 11) % 2147483647) + (i : Int)) % 1000003])], rfl, ?_, _, _, _, _, _, rfl, h2, by simp [h3], rfl⟩
          generalize c2.getD p 0 = g1 at *
          generalize ls.getD p 0 = g2 at *
          by_cases t1 : b18 ≤ g1
          · have t2 : ¬ 0 < g2 := fun z => t ⟨t1, z⟩
            simp [a0, a1, a2, a3, hb, t1, t2, a5, b1, b2, b3, b4, b5, b6, a4]
          · simp [a0, a1, a2, a3, hb, t1, a5, b1, b2, b3, b4, b5, b6, a4])
      (fun ρ S' ⟨ls, ds, x5, x6, x7, h1, h2, h3, h4⟩ => ⟨ls, ds, x5, x6, x7, by rw [h1, h4]⟩)
      900 0 [some (.d (.scr (ns.map D.int))), some (.d (.int 900)), some (.ref 0), some (.ref 1), some (.ref 2), none, none, none, k8] [C c2, C c2, C []] (by simp) ⟨c2, [], none, none, none, rfl, rfl, rfl, rfl⟩
    obtain ⟨o, e1, ls, ds, x5, x6, x7, rfl⟩ := hloop
    refine ⟨ds.reverse, ?_⟩
    have f1 : fList [C c2] [.ref 0] = some (iws c2) := rfl
    have z : C [] = Cell.lst [] := rfl
    rw [z] at e1
    have f2 : lstOf [C c2, C ls, C ds] 2 = some (iws ds) := rfl
    have f3 : tReverse (iws ds) [] = some (.d .non, iws ds.reverse) := by
      show some (W.d .non, (iws ds).reverse) = _
      rw [show (iws ds).reverse = iws ds.reverse from List.map_reverse.symm]
    have f4 : endDef [] (.ret (.ref 2) [C c2, C ls, C ds.reverse]) = some (.new (iws ds.reverse), []) := by
      rw [endDef_ret, if_pos (show chk [] [C c2, C ls, C ds.reverse] = true from rfl)]
      have : retW ([] : Sto).length [C c2, C ls, C ds.reverse] (.ref 2) = some (.new ((ds.reverse.map D.int).map W.d)) := retW_new (by simp) (by show some (C ds.reverse) = _; rw [List.map_map]; rfl)
      rw [this, List.map_map]
      rfl
    generalize ds.reverse = dr at f3 f4
    simp [f1, hg, e1, f2, f3, f4]
  have g1 : (n1.map D.int).map W.d = n1.map fun i => W.d (.int i) := by rw [List.map_map]; rfl
  have c1' := c1 (.d (.int 900))
  have hX : (bset 2 (thw (mcomp (isrc srcA (msl slX (mv 0) onone (osome (mk (.int 63))))) (gnm 8) tyes (prim fMod (acons (prim fInt (acons (mv 8) anil)) (acons (prim fShl (acons (mk (.int 1)) (acons (mk (.int 7200)) anil))) anil))) [8]))) [some (.d (.scr (ns.map D.int))), some (.d (.int 900)), none, none, none, none, none, none, none] [] = some (.nx [some (.d (.scr (ns.map D.int))), some (.d (.int 900)), some (.ref 0), none, none, none, none, none, none] [C cs]) := by
    have hs2 : slX [] (.d (.scr (ns.map D.int))) none (some 63) = some (.d (.lst (n1.map D.int))) := hs1
    have hA : srcA [] (.d (.lst (n1.map D.int))) = some (.its (n1.map fun i => W.d (.int i))) := by rw [srcA_lst, g1]
    simp only [bset_ap, thw_ap, mcomp_ap, isrc_ap, msl_ap, mv_ap, onone_ap, osome_ap, mk_ap, List.getElem?_cons_zero, Option.bind_some, hs2, hA, srcLen_its, List.length_map, mwipe_cons, mwipe_nil, List.set_cons_succ, List.set_cons_zero, c1', lm]
    rfl
  have hL : ∀ l : List Int, fLen [C l] [.ref 0] = some (.d (.int (l.length : Int))) := fun l => by
    have := len_ref (S := [C l]) (k := 0) (ws := iws l) rfl
    rwa [List.length_map] at this
  unfold m_draws b_draws
  rw [runDef_ap, if_pos (show [W.d (.scr (ns.map D.int)), W.d (.int 900)].length = 2 from rfl), bseq_ap]
  rw [show (List.map some [W.d (.scr (ns.map D.int)), .d (.int 900)] ++ List.replicate (9 - [W.d (.scr (ns.map D.int)), .d (.int 900)].length) none) = [some (.d (.scr (ns.map D.int))), some (.d (.int 900)), none, none, none, none, none, none, none] from rfl, hX, Option.bind_some]
  dsimp only
  rw [bseq_ap]
  by_cases hz : cs = []
  · subst hz
    obtain ⟨ms, hm⟩ := rest [0] none (by simp) (by simp)
    refine ⟨ms, ?_⟩
    have hY : bcond (tst (prim fEq (acons (prim fLen (acons (mv 2) anil)) (acons (mk (.int 0)) anil)))) (bdrop (mmeth tAppend (mv 2) (acons (mk (.int 0)) anil))) bnil [some (.d (.scr (ns.map D.int))), some (.d (.int 900)), some (.ref 0), none, none, none, none, none, none] [C []] = some (.nx [some (.d (.scr (ns.map D.int))), some (.d (.int 900)), some (.ref 0), none, none, none, none, none, none] [C [0]]) := by
      have h2 := hL []
      simp only [bcond_ap, bdrop_ap, mmeth_ap, tst_ap, prim_ap, acons_ap, anil_ap, mv_ap, mk_ap, List.getElem?_cons_succ, List.getElem?_cons_zero, Option.bind_some, h2, eq_int, wbl_ap]
      rfl
    rw [hY, Option.bind_some]
    exact hm
  · obtain ⟨ms, hm⟩ := rest cs none (List.length_pos_iff.mpr hz) (by omega)
    refine ⟨ms, ?_⟩
    have hne : ¬ ((cs.length : Int) = 0) := fun z => hz (List.eq_nil_of_length_eq_zero (by omega))
    have hY : bcond (tst (prim fEq (acons (prim fLen (acons (mv 2) anil)) (acons (mk (.int 0)) anil)))) (bdrop (mmeth tAppend (mv 2) (acons (mk (.int 0)) anil))) bnil [some (.d (.scr (ns.map D.int))), some (.d (.int 900)), some (.ref 0), none, none, none, none, none, none] [C cs] = some (.nx [some (.d (.scr (ns.map D.int))), some (.d (.int 900)), some (.ref 0), none, none, none, none, none, none] [C cs]) := by
      have h2 := hL cs
      simp only [bcond_ap, bdrop_ap, mmeth_ap, tst_ap, prim_ap, acons_ap, anil_ap, mv_ap, mk_ap, List.getElem?_cons_succ, List.getElem?_cons_zero, Option.bind_some, h2, eq_int, wbl_ap, bnil_ap]
      rw [decide_eq_false hne]
      rfl
    rw [hY, Option.bind_some]
    exact hm
end Kx

set_option Elab.async false
set_option linter.all false
set_option maxRecDepth 100000
set_option maxHeartbeats 4000000
set_option autoImplicit false
namespace GM
open PySem L2
theorem cloop2_go {α : Type} {l : List α} {k : α → W} {g g1 : Gm} {c1 : Tm} {mi1 : Im} {e : Em} {ρ : Rho} {vs1 : List Nat} {S : Sto} (f : α → List W)
    (hs : ∀ x ∈ l, ∃ ρ1 src1, g S (k x) ρ = some ρ1 ∧ mi1 ρ1 S = some (src1, S) ∧ cloop src1 g1 c1 e (mwipe ρ1 vs1) (srcLen src1 S) 0 S = some (f x, S)) :
    ∀ (n i : Nat), i + n = l.length → cloop2 (.its (l.map k)) g tyes mi1 g1 c1 e ρ vs1 n i S = some ((l.drop i).flatMap f, S)
  | 0, i, h => by
    unfold cloop2
    rw [srcAt_its, List.getElem?_eq_none (by rw [List.length_map]; omega), List.drop_of_length_le (by omega)]
    rfl
  | n + 1, i, h => by
    have hi : i < l.length := by omega
    obtain ⟨ρ1, src1, e1, e2, e3⟩ := hs l[i] (List.getElem_mem hi)
    unfold cloop2
    rw [srcAt_its, List.getElem?_map, List.getElem?_eq_getElem hi, List.drop_eq_getElem_cons hi]
    show ((g S (k l[i]) ρ).bind _) = _
    rw [e1]
    show ((mi1 ρ1 S).bind _) = _
    rw [e2]
    show ((cloop src1 g1 c1 e (mwipe ρ1 vs1) (srcLen src1 S) 0 S).bind _) = _
    rw [e3]
    show ((cloop2 _ g tyes mi1 g1 c1 e ρ vs1 n (i + 1) S).bind _) = _
    rw [cloop2_go f hs n (i + 1) (by omega)]
    rfl
theorem cloop2_flat {α : Type} {l : List α} {k : α → W} {g g1 : Gm} {c1 : Tm} {mi1 : Im} {e : Em} {ρ : Rho} {vs1 : List Nat} {S : Sto} {n : Nat} (f : α → List W) (hn : n = l.length)
    (hs : ∀ x ∈ l, ∃ ρ1 src1, g S (k x) ρ = some ρ1 ∧ mi1 ρ1 S = some (src1, S) ∧ cloop src1 g1 c1 e (mwipe ρ1 vs1) (srcLen src1 S) 0 S = some (f x, S)) :
    cloop2 (.its (l.map k)) g tyes mi1 g1 c1 e ρ vs1 n 0 S = some (l.flatMap f, S) := by
  subst hn
  have := cloop2_go f hs l.length 0 (by omega)
  rwa [List.drop_zero] at this
/-- with a test -/
theorem cloop_filt {α : Type} {l : List α} {k : α → W} {g : Gm} {c : Tm} {e : Em} {ρ : Rho} {S : Sto} (p : α → Bool) (f : α → W) (hs : ∀ x ∈ l, ∃ ρ1, g S (k x) ρ = some ρ1 ∧ c ρ1 S = some (p x, S) ∧ e ρ1 S = some (f x, S)) :
    ∀ (n i : Nat), i + n = l.length → cloop (.its (l.map k)) g c e ρ n i S = some (((l.drop i).filter p).map f, S)
  | 0, i, h => by
    unfold cloop
    rw [srcAt_its, List.getElem?_eq_none (by rw [List.length_map]; omega), List.drop_of_length_le (by omega)]
    rfl
  | n + 1, i, h => by
    have hi : i < l.length := by omega
    obtain ⟨ρ1, e1, e2, e3⟩ := hs l[i] (List.getElem_mem hi)
    unfold cloop
    rw [srcAt_its, List.getElem?_map, List.getElem?_eq_getElem hi, List.drop_eq_getElem_cons hi]
    show ((g S (k l[i]) ρ).bind _) = _
    rw [e1]
    show ((c ρ1 S).bind _) = _
    rw [e2]
    show (if p l[i] = true then _ else _) = _
    by_cases hp : p l[i] = true
    · rw [if_pos hp, e3, List.filter_cons_of_pos hp]
      show ((cloop _ g c e ρ n (i + 1) S).bind _) = _
      rw [cloop_filt p f hs n (i + 1) (by omega)]
      rfl
    · rw [if_neg hp, List.filter_cons_of_neg hp]
      exact cloop_filt p f hs n (i + 1) (by omega)
theorem cloop_filter {α : Type} {l : List α} {k : α → W} {g : Gm} {c : Tm} {e : Em} {ρ : Rho} {S : Sto} {n : Nat} (p : α → Bool) (f : α → W) (hn : n = l.length) (hs : ∀ x ∈ l, ∃ ρ1, g S (k x) ρ = some ρ1 ∧ c ρ1 S = some (p x, S) ∧ e ρ1 S = some (f x, S)) :
    cloop (.its (l.map k)) g c e ρ n 0 S = some ((l.filter p).map f, S) := by
  subst hn
  have := cloop_filt (k := k) p f hs l.length 0 (by omega)
  rwa [List.drop_zero] at this
end GM
namespace GM
open PySem L2
theorem maxL_of {S : Sto} {zs : List Int} {v : Int} (h : zs.max? = some v) : fMaxL S [.d (.lst (zs.map D.int))] = some (.d (.int v)) := by
  show (some ((zs.map D.int).map W.d)).bind (fun ws => (intsW ws).bind fun ns => ns.max?.bind fun m => some (W.d (.int m))) = _
  rw [Option.bind_some, show (zs.map D.int).map W.d = iws zs by rw [List.map_map]; rfl, intsW_iws, Option.bind_some, h]
  rfl
theorem iws_map {α : Type} (l : List α) (f : α → Int) : iws (l.map f) = l.map fun x => W.d (.int (f x)) := by unfold iws; rw [List.map_map]; rfl
theorem max_flat {α : Type} (l : List α) (f : α → List Int) (hf : ∀ x ∈ l, f x ≠ []) : (l.map fun x => (f x).max?.getD 0).max? = (l.flatMap f).max? := by
  have hm : ∀ x ∈ l, ∃ v, (f x).max? = some v := fun x hx => max_some (hf x hx)
  cases l with
  | nil => rfl
  | cons a r =>
    obtain ⟨v, hv⟩ := max_some (zs := (a :: r).flatMap f) (fun z => by
      rw [List.flatMap_cons, List.append_eq_nil_iff] at z
      exact hf a (List.mem_cons_self ..) z.1)
    rw [hv]
    rw [List.max?_eq_some_iff] at hv ⊢
    obtain ⟨h1, h2⟩ := hv
    obtain ⟨x, hx, hvx⟩ := List.mem_flatMap.mp h1
    have big : ∀ y ∈ (a :: r), (f y).max?.getD 0 ∈ f y ∧ ∀ z ∈ f y, z ≤ (f y).max?.getD 0 := fun y hy => by
      obtain ⟨u, hu⟩ := hm y hy
      rw [hu]
      exact List.max?_eq_some_iff.mp hu
    refine ⟨?_, ?_⟩
    · refine List.mem_map.mpr ⟨x, hx, ?_⟩
      have b1 := big x hx
      exact Int.le_antisymm (h2 _ (List.mem_flatMap.mpr ⟨x, hx, b1.1⟩)) (b1.2 v hvx)
    · intro z hz
      obtain ⟨y, hy, rfl⟩ := List.mem_map.mp hz
      exact h2 _ (List.mem_flatMap.mpr ⟨y, hy, (big y hy).1⟩)
end GM
namespace Kx
open PySem L2 GM
theorem pairs_of_ok (n : Nat) (hn : n ≤ 100) (S : Sto) : m_p_pairs_of [.d (.int (n : Int))] S = some (.val (.d (.lst ((prN n).map pD))), S) := by
  have hg : ∀ S, rg1 S [.d (.int (n : Int))] = some (.its (rngW 0 n)) := fun S => rg1_nat (by omega)
  have hr : rngW 0 n = (List.range n).map fun (i : Nat) => W.d (.int (i : Int)) := by
    unfold rngW
    apply List.map_congr_left
    intro i _
    rw [Int.zero_add]
  have e1 : cloop2 (.its (rngW 0 n)) (gnm 1) tyes (iargs rg2 (acons (prim fAdd (acons (mv 1) (acons (mk (.int 1)) anil))) (acons (mv 0) anil))) (gnm 2) tyes (prim fTup (acons (mv 1) (acons (mv 2) anil))) [some (.d (.int (n : Int))), none, none] [2] n 0 S = some ((prN n).map fun p => W.d (pD p), S) := by
    rw [hr]
    have : (prN n).map (fun p => W.d (pD p)) = (List.range n).flatMap fun a => (List.range (n - (a + 1))).map fun j => W.d (pD (a, a + 1 + j)) := by
      unfold prN
      rw [List.map_flatMap]
      congr 1
      funext a
      rw [List.map_map]
      rfl
    rw [this]
    refine cloop2_flat _ (by simp) fun a ha => ⟨_, .its (rngW ((a : Int) + 1) (n - (a + 1))), rfl, ?_, ?_⟩
    · have ha' := List.mem_range.mp ha
      have hq : rg2 S [.d (.int ((a : Int) + 1)), .d (.int (n : Int))] = some (.its (rngW ((a : Int) + 1) (n - (a + 1)))) := rg2_nat (a := a + 1) (by omega) (by omega)
      simp [hq]
    · refine cloop_fmap _ (by simp) fun j hj => ⟨_, rfl, ?_⟩
      simp [pD]
  have hl : lim ((prN n).map (fun p => W.d (pD p)), S) = some ((prN n).map (fun p => W.d (pD p)), S) := lim_ap (by rw [List.length_map]; have := prN_small hn; omega)
  simp [m_p_pairs_of, b_p_pairs_of, hg, e1, hl, datas_fmap, end_pure0]
theorem far_ok (n : Nat) (hn : n ≤ 100) (M : Nat → Nat → Int) (d : Dist M) (a b : Nat) (v : Int) (ha : a < n) (hb : b < n) (hab : a ≠ b) (S : Sto) : ∃ M', m_far [.d (tab n M), .d (.int (a : Int)), .d (.int (b : Int)), .d (.int v)] S = some (.val (.d (tab n M')), S) ∧ Dist M' ∧ (NNn n M → 0 ≤ v → NNn n M') := by
  obtain ⟨r, S1, c1, ⟨c2, c3⟩, c4⟩ := cloop_inv (ws := ((List.range n).map fun a => D.tup (rowD n (M a))).map W.d) (g := gnm 5) (e := thw (primF fList (acons (mv 5) anil))) (ρ := [some (.d (tab n M)), some (.d (.int (a : Int))), some (.d (.int (b : Int))), some (.d (.int v)), none, none])
    (fun i acc S' => acc = refs S.length i ∧ S' = S ++ (List.range i).map fun k => .lst (row n (M k))) (fun i acc S' w hw ⟨h1, h2⟩ => by
      subst h1 h2
      have hi : i < n := by
        have := (List.getElem?_eq_some_iff.mp hw).1
        simpa using this
      rw [List.getElem?_map, List.getElem?_map, List.getElem?_range hi] at hw
      cases hw
      refine ⟨_, .ref (S.length + i), _, rfl, ?_, ?_, rfl⟩
      · have hr : ∀ S, fList S [.d (.tup (rowD n (M i)))] = some (row n (M i)) := fun S => by
          show some ((rowD n (M i)).map W.d) = _
          rw [List.map_map]; rfl
        simp [hr]
        rw [List.range_succ, List.map_append]
        rfl
      · unfold refs
        rw [List.range_succ, List.map_append]
        rfl) n 0 [] S (by simp) ⟨rfl, by simp⟩
  have hlen : (((List.range n).map fun a => D.tup (rowD n (M a))).map W.d).length = n := by simp
  rw [List.nil_append, hlen] at c2
  rw [hlen] at c3
  subst c2
  have hX : S1 ++ [Cell.lst (refs S.length n)] = XS S n M := by
    rw [c3, List.append_assoc]
    rfl
  have hS1 : S1.length = S.length + n := by rw [c3]; simp
  have hlim : lim (refs S.length n, S1) = some (refs S.length n, S1) := lim_ap (by simp [refs]; omega)
  have q3 : ∀ M a, a < n → fIx (XS S n M) [.ref (S.length + n), .d (.int (a : Int))] = some (.ref (S.length + a)) := fun M a ha => ix_ref XS_rows (by unfold refs; rw [List.getElem?_map, List.getElem?_range ha]; rfl)
  have q4 : ∀ M a, a < n → lstOf (XS S n M) (S.length + a) = some (row n (M a)) := fun M a ha => lstOf_eq (XS_row ha)
  have q5 : ∀ M a b v, a < n → (XS S n M).set (S.length + a) (.lst ((row n (M a)).set b (.d (.int v)))) = XS S n (put M a b v) := fun M a b v ha => XS_set ha
  have r5 : ixN n (b : Int) = some b := ixN_nat hb
  have r6 : ixN n (a : Int) = some a := ixN_nat ha
  refine ⟨put (put M a b v) b a v, ?_, ⟨fun x => ?_, fun x y => ?_⟩, fun hnn hv x y hx hy => ?_⟩
  · have hA : srcA (XS S n (put (put M a b v) b a v)) (.ref (S.length + n)) = some (.cell (S.length + n)) := srcA_ref XS_rows
    have hT : cloop (.cell (S.length + n)) (gnm 5) tyes (prim fTuple (acons (mv 5) anil)) [some (.d (tab n M)), some (.d (.int (a : Int))), some (.d (.int (b : Int))), some (.d (.int v)), some (.ref (S.length + n)), none] (srcLen (.cell (S.length + n)) (XS S n (put (put M a b v) b a v))) 0 (XS S n (put (put M a b v) b a v)) = some ((List.range n).map fun k => W.d (.tup (rowD n ((put (put M a b v) b a v) k))), XS S n (put (put M a b v) b a v)) := by
      refine cloop_cell (l := List.range n) (k := fun i => W.ref (S.length + i)) _ XS_rows fun k hk => ⟨_, rfl, ?_⟩
      have hk' : k < n := List.mem_range.mp hk
      have : fTuple (XS S n (put (put M a b v) b a v)) [.ref (S.length + k)] = some (.d (.tup (rowD n ((put (put M a b v) b a v) k)))) := by
        show (lstOf (XS S n (put (put M a b v) b a v)) (S.length + k)).bind (fun ws => (datas ws).bind fun ds => some (W.d (.tup ds))) = _
        rw [lstOf_eq (XS_row hk')]
        show (datas (row n _)).bind _ = _
        rw [datas_fmap]
        rfl
      simp [this]
    have hlim2 : ∀ f : Nat → W, ∀ S', lim ((List.range n).map f, S') = some ((List.range n).map f, S') := fun f S' => lim_ap (by simp; omega)
    have hsrc : ∀ S', srcA S' (.d (tab n M)) = some (.its (((List.range n).map fun a => D.tup (rowD n (M a))).map W.d)) := fun S' => rfl
    have e1 : bset 4 (thw (mcomp (isrc srcA (mv 0)) (gnm 5) tyes (thw (primF fList (acons (mv 5) anil))) [5])) [some (.d (tab n M)), some (.d (.int (a : Int))), some (.d (.int (b : Int))), some (.d (.int v)), none, none] S = some (.nx [some (.d (tab n M)), some (.d (.int (a : Int))), some (.d (.int (b : Int))), some (.d (.int v)), some (.ref (S.length + n)), none] (XS S n M)) := by
      simp only [bset_ap, thw_ap, mcomp_ap, isrc_ap, mv_ap, List.getElem?_cons_zero, Option.bind_some, hsrc, srcLen_its, hlen, mwipe_cons, mwipe_nil, List.set_cons_succ, List.set_cons_zero, c1, hlim, hX, hS1]
    have e2 : bsub (mv 3) (prim fIx (acons (mv 4) (acons (mv 1) anil))) (mv 2) [some (.d (tab n M)), some (.d (.int (a : Int))), some (.d (.int (b : Int))), some (.d (.int v)), some (.ref (S.length + n)), none] (XS S n M) = some (.nx [some (.d (tab n M)), some (.d (.int (a : Int))), some (.d (.int (b : Int))), some (.d (.int v)), some (.ref (S.length + n)), none] (XS S n (put M a b v))) := by
      simp [q3 M a ha, q4 M a ha, r5]
      exact q5 M a b v ha
    have e3 : bsub (mv 3) (prim fIx (acons (mv 4) (acons (mv 2) anil))) (mv 1) [some (.d (tab n M)), some (.d (.int (a : Int))), some (.d (.int (b : Int))), some (.d (.int v)), some (.ref (S.length + n)), none] (XS S n (put M a b v)) = some (.nx [some (.d (tab n M)), some (.d (.int (a : Int))), some (.d (.int (b : Int))), some (.d (.int v)), some (.ref (S.length + n)), none] (XS S n (put (put M a b v) b a v))) := by
      simp [q3 _ b hb, q4 _ b hb, r6]
      exact q5 _ b a v hb
    unfold m_far b_far
    rw [runDef_ap, if_pos (show [W.d (tab n M), W.d (.int (a : Int)), W.d (.int (b : Int)), W.d (.int v)].length = 4 from rfl), bseq_ap]
    rw [show (List.map some [W.d (tab n M), W.d (.int (a : Int)), W.d (.int (b : Int)), W.d (.int v)] ++ List.replicate (6 - [W.d (tab n M), W.d (.int (a : Int)), W.d (.int (b : Int)), W.d (.int v)].length) none) = [some (.d (tab n M)), some (.d (.int (a : Int))), some (.d (.int (b : Int))), some (.d (.int v)), none, none] from rfl, e1, Option.bind_some]
    dsimp only
    rw [bseq_ap, e2, Option.bind_some]
    dsimp only
    rw [bseq_ap, e3, Option.bind_some]
    dsimp only
    simp [hA, hT, hlim2, datas_fmap]
    exact end_pure
  · unfold put
    rw [if_neg (by omega), if_neg (by omega)]
    exact d.1 x
  · unfold put
    by_cases c1 : x = b ∧ y = a
    · rw [if_pos c1, if_neg (by omega), if_pos (by omega)]
    · rw [if_neg c1]
      by_cases c2 : x = a ∧ y = b
      · rw [if_pos c2, if_pos (by omega)]
      · rw [if_neg c2, if_neg (by omega), if_neg (by omega)]
        exact d.2 x y
  · unfold put
    split
    · exact hv
    · split
      · exact hv
      · exact hnn x y hx hy
end Kx

set_option Elab.async false
set_option linter.all false
set_option maxRecDepth 100000
set_option maxHeartbeats 4000000
set_option autoImplicit false
namespace GM
open PySem L2
/-! ### path heights -/
def mn (x y : Int) : Int := if y < x then y else x
def mx (x y : Int) : Int := if y > x then y else x
def fw (M : Nat → Nat → Int) : Nat → Nat → Nat → Int
  | 0 => M
  | k + 1 => fun a b => mn (fw M k a b) (mx (fw M k a k) (fw M k k b))
theorem fw_col (M : Nat → Nat → Int) (k a : Nat) : fw M (k + 1) a k = fw M k a k := by
  show mn _ (mx _ _) = _
  unfold mn mx
  split <;> (try split at *) <;> omega
theorem fw_row (M : Nat → Nat → Int) (k b : Nat) : fw M (k + 1) k b = fw M k k b := by
  show mn _ (mx _ _) = _
  unfold mn mx
  split <;> (try split at *) <;> omega
theorem fw_tri (M : Nat → Nat → Int) : ∀ (k c a b : Nat), c < k → fw M k a b ≤ mx (fw M k a c) (fw M k c b)
  | 0, c, a, b, h => absurd h (by omega)
  | k + 1, c, a, b, h => by
    by_cases e : c = k
    · subst e
      rw [fw_col, fw_row]
      show mn _ (mx _ _) ≤ _
      unfold mn
      split <;> omega
    · have i1 := fw_tri M k c a b (by omega)
      have i2 := fw_tri M k c a k (by omega)
      have i3 := fw_tri M k c k b (by omega)
      show mn (fw M k a b) (mx (fw M k a k) (fw M k k b)) ≤ mx (mn (fw M k a c) (mx (fw M k a k) (fw M k k c))) (mn (fw M k c b) (mx (fw M k c k) (fw M k k b)))
      generalize fw M k a b = x1 at *
      generalize fw M k a k = x2 at *
      generalize fw M k k b = x3 at *
      generalize fw M k a c = x4 at *
      generalize fw M k k c = x5 at *
      generalize fw M k c b = x6 at *
      generalize fw M k c k = x7 at *
      unfold mn mx at *
      split at i1 <;> split at i2 <;> split at i3 <;> (repeat' split) <;> omega
theorem fw_sym {M : Nat → Nat → Int} (h : ∀ a b, M a b = M b a) : ∀ (k a b : Nat), fw M k a b = fw M k b a
  | 0, a, b => h a b
  | k + 1, a, b => by
    show mn _ (mx _ _) = mn _ (mx _ _)
    rw [fw_sym h k a b, fw_sym h k a k, fw_sym h k k b]
    unfold mn mx
    (repeat' split) <;> omega
theorem fw_nn {n : Nat} {M : Nat → Nat → Int} (h : NNn n M) : ∀ (k a b : Nat), k ≤ n → a < n → b < n → 0 ≤ fw M k a b
  | 0, a, b, _, ha, hb => h a b ha hb
  | k + 1, a, b, hk, ha, hb => by
    have h1 := fw_nn h k a b (by omega) ha hb
    have h2 := fw_nn h k a k (by omega) ha (by omega)
    show 0 ≤ mn _ (mx _ _)
    unfold mn mx
    (repeat' split) <;> omega
theorem fw_diag {n : Nat} {M : Nat → Nat → Int} (d : ∀ a, M a a = 0) (h : NNn n M) : ∀ (k a : Nat), k ≤ n → a < n → fw M k a a = 0
  | 0, a, _, _ => d a
  | k + 1, a, hk, ha => by
    have h1 := fw_diag d h k a (by omega) ha
    have h2 := fw_nn h k a k (by omega) ha (by omega)
    show mn _ (mx _ _) = 0
    rw [h1]
    unfold mn mx
    (repeat' split) <;> omega
/-- a second run changes nothing -/
theorem fw_fix {n : Nat} {M : Nat → Nat → Int} (h : ∀ c a b, c < n → M a b ≤ mx (M a c) (M c b)) : ∀ (k : Nat), k ≤ n → fw M k = M
  | 0, _ => rfl
  | k + 1, hk => by
    funext a b
    show mn (fw M k a b) (mx (fw M k a k) (fw M k k b)) = _
    rw [fw_fix h k (by omega)]
    have := h k a b (by omega)
    unfold mn
    rw [if_neg (by omega)]
/-- what two are apart does not grow -/
theorem fw_near {n : Nat} {M N : Nat → Nat → Int} {e : Int} (h : ∀ a b, a < n → b < n → M a b - N a b ≤ e ∧ N a b - M a b ≤ e) : ∀ (k a b : Nat), k ≤ n → a < n → b < n → fw M k a b - fw N k a b ≤ e ∧ fw N k a b - fw M k a b ≤ e
  | 0, a, b, _, ha, hb => h a b ha hb
  | k + 1, a, b, hk, ha, hb => by
    have h1 := fw_near h k a b (by omega) ha hb
    have h2 := fw_near h k a k (by omega) ha (by omega)
    have h3 := fw_near h k k b (by omega) (by omega) hb
    show mn (fw M k a b) (mx (fw M k a k) (fw M k k b)) - mn (fw N k a b) (mx (fw N k a k) (fw N k k b)) ≤ e ∧ mn (fw N k a b) (mx (fw N k a k) (fw N k k b)) - mn (fw M k a b) (mx (fw M k a k) (fw M k k b)) ≤ e
    generalize fw M k a b = x1 at *
    generalize fw M k a k = x2 at *
    generalize fw M k k b = x3 at *
    generalize fw N k a b = y1 at *
    generalize fw N k a k = y2 at *
    generalize fw N k k b = y3 at *
    unfold mn mx
    (repeat' split) <;> omega
/-- in the midst of round k: done before (a, i) -/
def mid (M : Nat → Nat → Int) (k a i : Nat) : Nat → Nat → Int := fun x y => if x < a ∨ (x = a ∧ y < i) then fw M (k + 1) x y else fw M k x y
theorem mid_step (M : Nat → Nat → Int) (k a i : Nat) : put (mid M k a i) a i (mn (mid M k a i a i) (mx (mid M k a i a k) (mid M k a i k i))) = mid M k a (i + 1) := by
  have e1 : mid M k a i a i = fw M k a i := by unfold mid; rw [if_neg (by omega)]
  have e2 : mid M k a i a k = fw M k a k := by
    unfold mid
    split
    · exact fw_col M k a
    · rfl
  have e3 : mid M k a i k i = fw M k k i := by
    unfold mid
    split
    · exact fw_row M k i
    · rfl
  rw [e1, e2, e3]
  funext x y
  unfold put
  by_cases c : x = a ∧ y = i
  · rw [if_pos c]
    obtain ⟨rfl, rfl⟩ := c
    unfold mid
    rw [if_pos (by omega)]
    rfl
  · rw [if_neg c]
    unfold mid
    by_cases c2 : x < a ∨ (x = a ∧ y < i)
    · rw [if_pos c2, if_pos (by omega)]
    · rw [if_neg c2, if_neg (by omega)]
theorem cells_congr {n : Nat} {M N : Nat → Nat → Int} (h : ∀ a b, a < n → b < n → M a b = N a b) : cells n M = cells n N := by
  unfold cells
  apply List.map_congr_left
  intro a ha
  congr 1
  apply List.map_congr_left
  intro b hb
  rw [h a b (List.mem_range.mp ha) (List.mem_range.mp hb)]
theorem XS_congr {S : Sto} {n : Nat} {M N : Nat → Nat → Int} (h : ∀ a b, a < n → b < n → M a b = N a b) : XS S n M = XS S n N := by
  unfold XS
  rw [cells_congr h]
theorem tab_congr {n : Nat} {M N : Nat → Nat → Int} (h : ∀ a b, a < n → b < n → M a b = N a b) : tab n M = tab n N := by
  unfold tab
  congr 1
  apply List.map_congr_left
  intro a ha
  congr 1
  apply List.map_congr_left
  intro b hb
  rw [h a b (List.mem_range.mp ha) (List.mem_range.mp hb)]
/-- rows in rows, handed out -/
theorem closeW_row {S : Sto} {n : Nat} {M : Nat → Nat → Int} {a : Nat} (ha : a < n) : closeW S.length (S.length + n) (XS S n M) 3 (.ref (S.length + a)) = some (.d (.lst (rowD n (M a)))) := by
  show (if S.length + a < S.length then _ else if S.length + a = S.length + n then none else (lstOf (XS S n M) (S.length + a)).bind fun ws => (ws.mapM (closeW S.length (S.length + n) (XS S n M) 2)).bind fun us => (datas us).bind fun ds => some (W.d (.lst ds))) = _
  rw [if_neg (by omega), if_neg (by omega), lstOf_eq (XS_row ha), Option.bind_some]
  have e : row n (M a) = (rowD n (M a)).map W.d := by rw [List.map_map]; rfl
  rw [e, closeW_map, Option.bind_some, datas_map']
  rfl
theorem mapM_map {α β γ : Type} (f : α → β) (g : β → Option γ) (h : α → γ) : ∀ (l : List α), (∀ a ∈ l, g (f a) = some (h a)) → (l.map f).mapM g = some (l.map h)
  | [], _ => rfl
  | a :: l, hh => by
    rw [List.map_cons, List.mapM_cons, hh a (List.mem_cons_self ..), mapM_map f g h l fun b hb => hh b (List.mem_cons_of_mem _ hb)]
    rfl
def rowsD (n : Nat) (M : Nat → Nat → Int) : List D := (List.range n).map fun a => .lst (rowD n (M a))
theorem end_rows {S : Sto} {n : Nat} {M : Nat → Nat → Int} : endDef S (.ret (.ref (S.length + n)) (XS S n M)) = some (.new ((rowsD n M).map W.d), S) := by
  have hc : chk S (XS S n M) = true := chk_pre S _
  rw [endDef_ret, if_pos hc]
  have h1 : lstOf (XS S n M) (S.length + n) = some (refs S.length n) := lstOf_eq XS_rows
  have h2 : retW S.length (XS S n M) (.ref (S.length + n)) = some (.new ((rowsD n M).map W.d)) := by
    show (if S.length + n < S.length then _ else (lstOf (XS S n M) (S.length + n)).bind fun ws => (ws.mapM (closeW S.length (S.length + n) (XS S n M) 3)).bind fun us => some (RV.new us)) = _
    rw [if_neg (by omega), h1, Option.bind_some]
    unfold refs rowsD
    rw [mapM_map _ _ (fun a => W.d (.lst (rowD n (M a)))) _ (fun a ha => closeW_row (List.mem_range.mp ha)), Option.bind_some, List.map_map]
    rfl
  rw [h2]
  show some (RV.new ((rowsD n M).map W.d), (S ++ _).take S.length) = _
  rw [take_S]
end GM

set_option Elab.async false
set_option linter.all false
set_option maxRecDepth 100000
set_option maxHeartbeats 4000000
set_option autoImplicit false
namespace GM
open PySem L2
theorem min2_mn {S : Sto} {i j : Int} : fMin2 S [.d (.int i), .d (.int j)] = some (.d (.int (mn i j))) := rfl
theorem max2_mx {S : Sto} {i j : Int} : fMax2 S [.d (.int i), .d (.int j)] = some (.d (.int (mx i j))) := rfl
theorem XS_ix {S : Sto} {n : Nat} {M : Nat → Nat → Int} {a : Nat} (ha : a < n) : fIx (XS S n M) [.ref (S.length + n), .d (.int (a : Int))] = some (.ref (S.length + a)) := ix_ref XS_rows (by unfold refs; rw [List.getElem?_map, List.getElem?_range ha]; rfl)
theorem XS_ix2 {S : Sto} {n : Nat} {M : Nat → Nat → Int} {a b : Nat} (ha : a < n) (hb : b < n) : fIx (XS S n M) [.ref (S.length + a), .d (.int (b : Int))] = some (.d (.int (M a b))) := ix_ref (XS_row ha) (by rw [List.getElem?_map, List.getElem?_range hb]; rfl)
theorem lsts_ix {S : Sto} {n : Nat} {M : Nat → Nat → Int} {a : Nat} (ha : a < n) : fIx S [.d (.lst (rowsD n M)), .d (.int (a : Int))] = some (.d (.lst (rowD n (M a)))) := ix_lst (by unfold rowsD; rw [List.getElem?_map, List.getElem?_range ha]; rfl)
theorem lst_ix {S : Sto} {n : Nat} {f : Nat → Int} {b : Nat} (hb : b < n) : fIx S [.d (.lst (rowD n f)), .d (.int (b : Int))] = some (.d (.int (f b))) := ix_lst (by rw [List.getElem?_map, List.getElem?_range hb]; rfl)
end GM
namespace Kx
open PySem L2 GM
/-- the heights -/
abbrev hts (n : Nat) (M : Nat → Nat → Int) : Nat → Nat → Int := fw M n
theorem path_heights_ok (n : Nat) (hn : n ≤ 100) (M : Nat → Nat → Int) (S : Sto) : m_p_path_heights [.d (tab n M)] S = some (.new ((rowsD n (hts n M)).map W.d), S) := by
  have hg : ∀ S, rg1 S [.d (.int (n : Int))] = some (.its (rngW 0 n)) := fun S => rg1_nat (by omega)
  -- rows
  obtain ⟨r, S1, c1, ⟨c2, c3⟩, c4⟩ := cloop_inv (ws := ((List.range n).map fun a => D.tup (rowD n (M a))).map W.d) (g := gnm 6) (e := thw (primF fList (acons (mv 6) anil))) (ρ := [some (.d (tab n M)), some (.d (.int (n : Int))), none, none, none, none, none])
    (fun i acc S' => acc = refs S.length i ∧ S' = S ++ (List.range i).map fun k => .lst (row n (M k))) (fun i acc S' w hw ⟨h1, h2⟩ => by
      subst h1 h2
      have hi : i < n := by
        have := (List.getElem?_eq_some_iff.mp hw).1
        simpa using this
      rw [List.getElem?_map, List.getElem?_map, List.getElem?_range hi] at hw
      cases hw
      refine ⟨_, .ref (S.length + i), _, rfl, ?_, ?_, rfl⟩
      · have hr : ∀ S, fList S [.d (.tup (rowD n (M i)))] = some (row n (M i)) := fun S => by
          show some ((rowD n (M i)).map W.d) = _
          rw [List.map_map]; rfl
        simp [hr]
        rw [List.range_succ, List.map_append]
        rfl
      · unfold refs
        rw [List.range_succ, List.map_append]
        rfl) n 0 [] S (by simp) ⟨rfl, by simp⟩
  have hlen : (((List.range n).map fun a => D.tup (rowD n (M a))).map W.d).length = n := by simp
  rw [List.nil_append, hlen] at c2
  rw [hlen] at c3
  subst c2
  have hX : S1 ++ [Cell.lst (refs S.length n)] = XS S n M := by
    rw [c3, List.append_assoc]
    rfl
  have hS1 : S1.length = S.length + n := by rw [c3]; simp
  have hlim : lim (refs S.length n, S1) = some (refs S.length n, S1) := lim_ap (by simp [refs]; omega)
  -- one row of a round
  have inner : ∀ (k a : Nat) (x5 : Option W), k < n → a < n → ∃ o, bfor (iargs rg1 (acons (mv 1) anil)) (gnm 5)
      (bsub (prim fMin2 (acons (prim fIx (acons (prim fIx (acons (mv 2) (acons (mv 4) anil))) (acons (mv 5) anil))) (acons (prim fMax2 (acons (prim fIx (acons (prim fIx (acons (mv 2) (acons (mv 4) anil))) (acons (mv 3) anil))) (acons (prim fIx (acons (prim fIx (acons (mv 2) (acons (mv 3) anil))) (acons (mv 5) anil))) anil))) anil))) (prim fIx (acons (mv 2) (acons (mv 4) anil))) (mv 5)) [some (.d (tab n M)), some (.d (.int (n : Int))), some (.ref (S.length + n)), some (.d (.int (k : Int))), some (.d (.int (a : Int))), x5, none] (XS S n (mid M k a 0)) = some o ∧ ∃ x5, o = .nx [some (.d (tab n M)), some (.d (.int (n : Int))), some (.ref (S.length + n)), some (.d (.int (k : Int))), some (.d (.int (a : Int))), x5, none] (XS S n (mid M k (a + 1) 0)) := fun k a x5 hk ha => by
    obtain ⟨o, e1, e2⟩ := floop_inv (ws := rngW 0 n) (g := gnm 5) (b := bsub (prim fMin2 (acons (prim fIx (acons (prim fIx (acons (mv 2) (acons (mv 4) anil))) (acons (mv 5) anil))) (acons (prim fMax2 (acons (prim fIx (acons (prim fIx (acons (mv 2) (acons (mv 4) anil))) (acons (mv 3) anil))) (acons (prim fIx (acons (prim fIx (acons (mv 2) (acons (mv 3) anil))) (acons (mv 5) anil))) anil))) anil))) (prim fIx (acons (mv 2) (acons (mv 4) anil))) (mv 5))
      (fun i ρ S' => ∃ x5, ρ = [some (.d (tab n M)), some (.d (.int (n : Int))), some (.ref (S.length + n)), some (.d (.int (k : Int))), some (.d (.int (a : Int))), x5, none] ∧ S' = XS S n (mid M k a i))
      (fun o => ∃ x5, o = .nx [some (.d (tab n M)), some (.d (.int (n : Int))), some (.ref (S.length + n)), some (.d (.int (k : Int))), some (.d (.int (a : Int))), x5, none] (XS S n (mid M k (a + 1) 0)))
      (fun i w ρ S' hw ⟨x5, h1, h2⟩ => by
        obtain ⟨hi, rfl⟩ := rngW_at0 hw
        subst h1 h2
        refine ⟨_, .nx [some (.d (tab n M)), some (.d (.int (n : Int))), some (.ref (S.length + n)), some (.d (.int (k : Int))), some (.d (.int (a : Int))), some (.d (.int (i : Int))), none] (XS S n (mid M k a (i + 1))), rfl, ?_, _, rfl, rfl⟩
        rw [← mid_step M k a i]
        generalize mid M k a i = N
        have q1 : fIx (XS S n N) [.ref (S.length + n), .d (.int (a : Int))] = _ := XS_ix ha
        have q2 : fIx (XS S n N) [.ref (S.length + n), .d (.int (k : Int))] = _ := XS_ix hk
        have q3 : fIx (XS S n N) [.ref (S.length + a), .d (.int (i : Int))] = _ := XS_ix2 ha hi
        have q4 : fIx (XS S n N) [.ref (S.length + a), .d (.int (k : Int))] = _ := XS_ix2 ha hk
        have q5 : fIx (XS S n N) [.ref (S.length + k), .d (.int (i : Int))] = _ := XS_ix2 hk hi
        have q6 : lstOf (XS S n N) (S.length + a) = some (row n (N a)) := lstOf_eq (XS_row ha)
        have q7 : ixN n (i : Int) = some i := ixN_nat hi
        have q8 : (XS S n N).set (S.length + a) (.lst ((row n (N a)).set i (.d (.int (mn (N a i) (mx (N a k) (N k i))))))) = _ := XS_set ha
        have q9 : (row n (N a)).length = n := by simp
        simp only [bsub_ap, prim_ap, acons_ap, anil_ap, mv_ap, gnm_ap, List.set_cons_succ, List.set_cons_zero, List.getElem?_cons_succ, List.getElem?_cons_zero, Option.bind_some, q1, q2, q3, q4, q5, min2_mn, max2_mx, q6, q9, q7, q8])
      (fun ρ S' ⟨x5, h1, h2⟩ => ⟨x5, by
        rw [h1, h2, rngW_length]
        congr 1
        apply XS_congr
        intro x y hx hy
        unfold mid
        by_cases c : x < a ∨ x = a
        · rw [if_pos (by omega), if_pos (by omega)]
        · rw [if_neg (by omega), if_neg (by omega)]⟩)
      n 0 [some (.d (tab n M)), some (.d (.int (n : Int))), some (.ref (S.length + n)), some (.d (.int (k : Int))), some (.d (.int (a : Int))), x5, none] (XS S n (mid M k a 0)) (by simp) ⟨x5, rfl, rfl⟩
    refine ⟨o, ?_, e2⟩
    rw [bfor_ap]
    simp only [iargs_ap, acons_ap, anil_ap, mv_ap, List.getElem?_cons_succ, List.getElem?_cons_zero, Option.bind_some, hg, srcLen_its, rngW_length, e1]
  -- a round
  have middle : ∀ (k : Nat) (x4 x5 : Option W), k < n → ∃ o, bfor (iargs rg1 (acons (mv 1) anil)) (gnm 4) (bfor (iargs rg1 (acons (mv 1) anil)) (gnm 5)
      (bsub (prim fMin2 (acons (prim fIx (acons (prim fIx (acons (mv 2) (acons (mv 4) anil))) (acons (mv 5) anil))) (acons (prim fMax2 (acons (prim fIx (acons (prim fIx (acons (mv 2) (acons (mv 4) anil))) (acons (mv 3) anil))) (acons (prim fIx (acons (prim fIx (acons (mv 2) (acons (mv 3) anil))) (acons (mv 5) anil))) anil))) anil))) (prim fIx (acons (mv 2) (acons (mv 4) anil))) (mv 5))) [some (.d (tab n M)), some (.d (.int (n : Int))), some (.ref (S.length + n)), some (.d (.int (k : Int))), x4, x5, none] (XS S n (fw M k)) = some o ∧ ∃ x4 x5, o = .nx [some (.d (tab n M)), some (.d (.int (n : Int))), some (.ref (S.length + n)), some (.d (.int (k : Int))), x4, x5, none] (XS S n (fw M (k + 1))) := fun k x4 x5 hk => by
    obtain ⟨o, e1, e2⟩ := floop_inv (ws := rngW 0 n) (g := gnm 4) (b := bfor (iargs rg1 (acons (mv 1) anil)) (gnm 5)
      (bsub (prim fMin2 (acons (prim fIx (acons (prim fIx (acons (mv 2) (acons (mv 4) anil))) (acons (mv 5) anil))) (acons (prim fMax2 (acons (prim fIx (acons (prim fIx (acons (mv 2) (acons (mv 4) anil))) (acons (mv 3) anil))) (acons (prim fIx (acons (prim fIx (acons (mv 2) (acons (mv 3) anil))) (acons (mv 5) anil))) anil))) anil))) (prim fIx (acons (mv 2) (acons (mv 4) anil))) (mv 5)))
      (fun i ρ S' => ∃ x4 x5, ρ = [some (.d (tab n M)), some (.d (.int (n : Int))), some (.ref (S.length + n)), some (.d (.int (k : Int))), x4, x5, none] ∧ S' = XS S n (mid M k i 0))
      (fun o => ∃ x4 x5, o = .nx [some (.d (tab n M)), some (.d (.int (n : Int))), some (.ref (S.length + n)), some (.d (.int (k : Int))), x4, x5, none] (XS S n (fw M (k + 1))))
      (fun i w ρ S' hw ⟨x4, x5, h1, h2⟩ => by
        obtain ⟨hi, rfl⟩ := rngW_at0 hw
        subst h1 h2
        obtain ⟨o, f1, x5', rfl⟩ := inner k i x5 hk hi
        exact ⟨_, _, rfl, f1, _, _, rfl, rfl⟩)
      (fun ρ S' ⟨x4, x5, h1, h2⟩ => ⟨x4, x5, by
        rw [h1, h2, rngW_length]
        congr 1
        apply XS_congr
        intro x y hx hy
        unfold mid
        rw [if_pos (by omega)]⟩)
      n 0 [some (.d (tab n M)), some (.d (.int (n : Int))), some (.ref (S.length + n)), some (.d (.int (k : Int))), x4, x5, none] (XS S n (fw M k)) (by simp) ⟨x4, x5, rfl, XS_congr fun x y _ _ => by unfold mid; rw [if_neg (by omega)]⟩
    refine ⟨o, ?_, e2⟩
    rw [bfor_ap]
    simp only [iargs_ap, acons_ap, anil_ap, mv_ap, List.getElem?_cons_succ, List.getElem?_cons_zero, Option.bind_some, hg, srcLen_its, rngW_length, e1]
  obtain ⟨o, l1, x3, x4, x5, rfl⟩ := floop_inv (ws := rngW 0 n) (g := gnm 3) (b := bfor (iargs rg1 (acons (mv 1) anil)) (gnm 4) (bfor (iargs rg1 (acons (mv 1) anil)) (gnm 5)
      (bsub (prim fMin2 (acons (prim fIx (acons (prim fIx (acons (mv 2) (acons (mv 4) anil))) (acons (mv 5) anil))) (acons (prim fMax2 (acons (prim fIx (acons (prim fIx (acons (mv 2) (acons (mv 4) anil))) (acons (mv 3) anil))) (acons (prim fIx (acons (prim fIx (acons (mv 2) (acons (mv 3) anil))) (acons (mv 5) anil))) anil))) anil))) (prim fIx (acons (mv 2) (acons (mv 4) anil))) (mv 5))))
      (fun i ρ S' => ∃ x3 x4 x5, ρ = [some (.d (tab n M)), some (.d (.int (n : Int))), some (.ref (S.length + n)), x3, x4, x5, none] ∧ S' = XS S n (fw M i))
      (fun o => ∃ x3 x4 x5, o = .nx [some (.d (tab n M)), some (.d (.int (n : Int))), some (.ref (S.length + n)), x3, x4, x5, none] (XS S n (fw M n)))
      (fun i w ρ S' hw ⟨x3, x4, x5, h1, h2⟩ => by
        obtain ⟨hi, rfl⟩ := rngW_at0 hw
        subst h1 h2
        obtain ⟨o, f1, x4', x5', rfl⟩ := middle i x4 x5 hi
        exact ⟨_, _, rfl, f1, _, _, _, rfl, rfl⟩)
      (fun ρ S' ⟨x3, x4, x5, h1, h2⟩ => ⟨x3, x4, x5, by rw [h1, h2, rngW_length]⟩)
      n 0 [some (.d (tab n M)), some (.d (.int (n : Int))), some (.ref (S.length + n)), none, none, none, none] (XS S n M) (by simp) ⟨none, none, none, rfl, rfl⟩
  have hsrc : ∀ S', srcA S' (.d (tab n M)) = some (.its (((List.range n).map fun a => D.tup (rowD n (M a))).map W.d)) := fun S' => rfl
  have e1 : bset 2 (thw (mcomp (isrc srcA (mv 0)) (gnm 6) tyes (thw (primF fList (acons (mv 6) anil))) [6])) [some (.d (tab n M)), some (.d (.int (n : Int))), none, none, none, none, none] S = some (.nx [some (.d (tab n M)), some (.d (.int (n : Int))), some (.ref (S.length + n)), none, none, none, none] (XS S n M)) := by
    simp only [bset_ap, thw_ap, mcomp_ap, isrc_ap, mv_ap, List.getElem?_cons_zero, Option.bind_some, hsrc, srcLen_its, hlen, mwipe_cons, mwipe_nil, List.set_cons_succ, List.set_cons_zero, c1, hlim, hX, hS1]
  unfold m_p_path_heights b_p_path_heights
  rw [runDef_ap, if_pos (show [W.d (tab n M)].length = 1 from rfl), bseq_ap]
  rw [show (bset 1 (prim fLen (acons (mv 0) anil))) (List.map some [W.d (tab n M)] ++ List.replicate (7 - [W.d (tab n M)].length) none) S = some (.nx [some (.d (tab n M)), some (.d (.int (n : Int))), none, none, none, none, none] S) by
    show (bset 1 (prim fLen (acons (mv 0) anil))) [some (.d (tab n M)), none, none, none, none, none, none] S = _
    simp only [bset_ap, prim_ap, acons_ap, anil_ap, mv_ap, List.getElem?_cons_zero, Option.bind_some, tab_len, List.set_cons_succ, List.set_cons_zero], Option.bind_some]
  dsimp only
  rw [bseq_ap, e1, Option.bind_some]
  dsimp only
  simp only [bseq_ap, bfor_ap, iargs_ap, acons_ap, anil_ap, mv_ap, List.getElem?_cons_succ, List.getElem?_cons_zero, Option.bind_some, hg, srcLen_its, rngW_length, bret_ap]
  rw [l1]
  simp only [Option.bind_some, List.getElem?_cons_succ, List.getElem?_cons_zero]
  exact end_rows
theorem heights_eq : m_heights = m_p_path_heights := rfl
end Kx

set_option Elab.async false
set_option linter.all false
set_option maxRecDepth 100000
set_option maxHeartbeats 4000000
set_option autoImplicit false
namespace Kx
open PySem L2 GM
theorem srcA_rowsD {S : Sto} {n : Nat} {M : Nat → Nat → Int} : srcA S (.d (.lst (rowsD n M))) = some (.its ((List.range n).map fun a => W.d (.lst (rowD n (M a))))) := by
  rw [srcA_lst]
  unfold rowsD
  rw [List.map_map]; rfl
theorem rowsD_datas {n : Nat} {M : Nat → Nat → Int} : datas ((rowsD n M).map W.d) = some (rowsD n M) := datas_map' _
/-- tuple([tuple(row) for row in rows]), whichever slots -/
theorem tup_rows (i : Nat) (ρ : Rho) (n : Nat) (M : Nat → Nat → Int) (S : Sto) (hi : ∀ w, (ρ.set i (some w))[i]? = some (some w)) : cloop (.its ((List.range n).map fun a => W.d (.lst (rowD n (M a))))) (gnm i) tyes (prim fTuple (acons (mv i) anil)) ρ n 0 S = some ((List.range n).map fun a => W.d (.tup (rowD n (M a))), S) := by
  refine cloop_fmap _ (by simp) fun a ha => ⟨_, rfl, ?_⟩
  simp [hi]
theorem table_of_rows_ok (n : Nat) (hn : n ≤ 100) (M : Nat → Nat → Int) (S : Sto) : m_p_table_of_rows [.d (.lst (rowsD n M))] S = some (.val (.d (tab n M)), S) := by
  have e1 := tup_rows 1 [some (.d (.lst (rowsD n M))), none] n M S (fun w => rfl)
  have hl : lim ((List.range n).map (fun a => W.d (.tup (rowD n (M a)))), S) = some ((List.range n).map (fun a => W.d (.tup (rowD n (M a)))), S) := lim_ap (by simp; omega)
  have hd : datas ((List.range n).map (fun a => W.d (.tup (rowD n (M a))))) = some ((List.range n).map fun a => D.tup (rowD n (M a))) := datas_fmap _ _
  have ht : D.tup ((List.range n).map fun a => D.tup (rowD n (M a))) = tab n M := rfl
  generalize (List.range n).map (fun a => W.d (.tup (rowD n (M a)))) = v1 at e1 hl hd
  generalize (List.range n).map (fun a => D.tup (rowD n (M a))) = v2 at hd ht
  have hr : (List.range n).map (fun a => W.d (.lst (rowD n (M a)))) = (rowsD n M).map W.d := by unfold rowsD; rw [List.map_map]; rfl
  have hlen : (rowsD n M).length = n := by simp [rowsD]
  rw [hr] at e1
  simp [m_p_table_of_rows, b_p_table_of_rows, hlen, e1, hl, hd, ht, end_pure0]
theorem height_table_ok (n : Nat) (hn : n ≤ 100) (M : Nat → Nat → Int) (S : Sto) : m_p_height_table [.d (tab n M)] S = some (.val (.d (tab n (hts n M))), S) := by
  have h1 := path_heights_ok n hn M S
  have h2 := rowsD_datas (n := n) (M := hts n M)
  have h3 := table_of_rows_ok n hn (hts n M) S
  generalize (rowsD n (hts n M)).map W.d = v1 at h1 h2
  generalize rowsD n (hts n M) = v2 at h2 h3
  simp [m_p_height_table, b_p_height_table, h1, h2, h3, end_pure0]
theorem path_height_ok (n : Nat) (hn : n ≤ 100) (M : Nat → Nat → Int) (a b : Nat) (ha : a < n) (hb : b < n) (S : Sto) : m_p_path_height [.d (tab n M), .d (.int (a : Int)), .d (.int (b : Int))] S = some (.val (.d (.int (hts n M a b))), S) := by
  have h1 := path_heights_ok n hn M S
  have h2 := rowsD_datas (n := n) (M := hts n M)
  have h3 : fIx S [.d (.lst (rowsD n (hts n M))), .d (.int (a : Int))] = _ := lsts_ix ha
  have h4 : fIx S [.d (.lst (rowD n (hts n M a))), .d (.int (b : Int))] = _ := lst_ix hb
  generalize (rowsD n (hts n M)).map W.d = v1 at h1 h2
  generalize rowsD n (hts n M) = v2 at h2 h3
  generalize rowD n (hts n M a) = v3 at h3 h4
  simp [m_p_path_height, b_p_path_height, h1, h2, h3, h4, end_pure0]
/-- what two tables are apart -/
def offs (n : Nat) (M N : Nat → Nat → Int) : List Int := (List.range n).flatMap fun a => (List.range n).map fun b => ab (M a b - N a b)
def off (n : Nat) (M N : Nat → Nat → Int) : Int := (offs n M N).max?.getD 0
theorem mem_offs {n : Nat} {M N : Nat → Nat → Int} {x : Int} : x ∈ offs n M N ↔ ∃ a b, a < n ∧ b < n ∧ x = ab (M a b - N a b) := by
  unfold offs
  simp only [List.mem_flatMap, List.mem_range, List.mem_map]
  constructor
  · rintro ⟨a, ha, b, hb, rfl⟩
    exact ⟨a, b, ha, hb, rfl⟩
  · rintro ⟨a, b, ha, hb, rfl⟩
    exact ⟨a, ha, b, hb, rfl⟩
theorem off_is {n : Nat} {M N : Nat → Nat → Int} (h0 : 0 < n) : (offs n M N).max? = some (off n M N) := by
  obtain ⟨v, hv⟩ := max_some (zs := offs n M N) (fun z => by
    have : ab (M 0 0 - N 0 0) ∈ offs n M N := mem_offs.mpr ⟨0, 0, h0, h0, rfl⟩
    rw [z] at this
    cases this)
  unfold off
  rw [hv]; rfl
theorem off_spec {n : Nat} {M N : Nat → Nat → Int} (h0 : 0 < n) {v : Int} : off n M N = v ↔ (∃ a b, a < n ∧ b < n ∧ v = ab (M a b - N a b)) ∧ ∀ a b, a < n → b < n → ab (M a b - N a b) ≤ v := by
  have e := off_is (M := M) (N := N) h0
  constructor
  · intro h
    subst h
    obtain ⟨h1, h2⟩ := List.max?_eq_some_iff.mp e
    exact ⟨mem_offs.mp h1, fun a b ha hb => h2 _ (mem_offs.mpr ⟨a, b, ha, hb, rfl⟩)⟩
  · rintro ⟨h1, h2⟩
    have : (offs n M N).max? = some v := List.max?_eq_some_iff.mpr ⟨mem_offs.mpr h1, fun x hx => by
      obtain ⟨a, b, ha, hb, rfl⟩ := mem_offs.mp hx
      exact h2 a b ha hb⟩
    rw [this] at e
    exact (Option.some.inj e).symm
theorem off_comm {n : Nat} {M N : Nat → Nat → Int} (h0 : 0 < n) : off n M N = off n N M := by
  rw [off_spec h0]
  obtain ⟨⟨a, b, ha, hb, e⟩, h2⟩ := (off_spec (M := N) (N := M) h0).mp rfl
  have key : ∀ a b, ab (M a b - N a b) = ab (N a b - M a b) := fun a b => by
    unfold ab
    split <;> split <;> omega
  exact ⟨⟨a, b, ha, hb, by rw [key]; exact e⟩, fun a b ha hb => by rw [key]; exact h2 a b ha hb⟩
/-- by the pairs alone -/
theorem off_pairs {n : Nat} {M N : Nat → Nat → Int} (h0 : 0 < n) (d1 : Dist M) (d2 : Dist N) : ((prN n).map fun p => ab (M p.1 p.2 - N p.1 p.2)).max?.getD 0 = off n M N := by
  symm
  rw [off_spec h0]
  have nn : 0 ≤ ((prN n).map fun p => ab (M p.1 p.2 - N p.1 p.2)).max?.getD 0 := by
    cases h : ((prN n).map fun p => ab (M p.1 p.2 - N p.1 p.2)).max? with
    | none => exact Int.le_refl 0
    | some v =>
      obtain ⟨p, _, e⟩ := List.mem_map.mp (List.max?_eq_some_iff.mp h).1
      show 0 ≤ v
      rw [← e]; exact ab_nn _
  have big : ∀ a b, a < b → b < n → ab (M a b - N a b) ≤ ((prN n).map fun p => ab (M p.1 p.2 - N p.1 p.2)).max?.getD 0 := fun a b hab hb => by
    have hm : ab (M a b - N a b) ∈ (prN n).map fun p => ab (M p.1 p.2 - N p.1 p.2) := List.mem_map.mpr ⟨(a, b), prN_mem.mpr ⟨hab, hb⟩, rfl⟩
    obtain ⟨v, hv⟩ := max_some (zs := (prN n).map fun p => ab (M p.1 p.2 - N p.1 p.2)) (fun z => by rw [z] at hm; cases hm)
    rw [hv]
    exact (List.max?_eq_some_iff.mp hv).2 _ hm
  refine ⟨?_, fun a b ha hb => ?_⟩
  · cases h : ((prN n).map fun p => ab (M p.1 p.2 - N p.1 p.2)).max? with
    | none => exact ⟨0, 0, h0, h0, by rw [d1.1, d2.1]; rfl⟩
    | some v =>
      obtain ⟨p, hp, e⟩ := List.mem_map.mp (List.max?_eq_some_iff.mp h).1
      have := prN_mem.mp hp
      exact ⟨p.1, p.2, by omega, this.2, e.symm⟩
  · rcases Nat.lt_trichotomy a b with z | z | z
    · exact big a b z hb
    · subst z; rw [d1.1, d2.1]; exact nn
    · rw [d1.2, d2.2]; exact big b a z ha
theorem tables_apart_ok (n : Nat) (h0 : 0 < n) (hn : n ≤ 100) (M N : Nat → Nat → Int) (d1 : Dist M) (d2 : Dist N) (S : Sto) : m_p_tables_apart [.d (tab n M), .d (tab n N)] S = some (.val (.d (.int (off n M N))), S) := by
  have e1 : cloop (.its ((prN n).map (W.d ∘ pD))) (gtp 2 (gcons (gnm 2) (gcons (gnm 3) gnil))) tyes (prim fAbs (acons (prim fSub (acons (prim fIx (acons (prim fIx (acons (mv 0) (acons (mv 2) anil))) (acons (mv 3) anil))) (acons (prim fIx (acons (prim fIx (acons (mv 1) (acons (mv 2) anil))) (acons (mv 3) anil))) anil))) anil)) [some (.d (tab n M)), some (.d (tab n N)), none, none] (prN n).length 0 S = some (iws ((prN n).map fun p => ab (M p.1 p.2 - N p.1 p.2)), S) := by
    rw [iws_map]
    refine cloop_fmap _ rfl fun p hp => ⟨[some (.d (tab n M)), some (.d (tab n N)), some (.d (.int (p.1 : Int))), some (.d (.int (p.2 : Int)))], by simp [pD], ?_⟩
    have hpm := prN_mem.mp hp
    have f1 : fIx S [.d (tab n M), .d (.int (p.1 : Int))] = _ := tab_ix (by omega)
    have f2 : fIx S [.d (.tup (rowD n (M p.1))), .d (.int (p.2 : Int))] = _ := row_ix hpm.2
    have f3 : fIx S [.d (tab n N), .d (.int (p.1 : Int))] = _ := tab_ix (by omega)
    have f4 : fIx S [.d (.tup (rowD n (N p.1))), .d (.int (p.2 : Int))] = _ := row_ix hpm.2
    generalize rowD n (M p.1) = r1 at f1 f2
    generalize rowD n (N p.1) = r2 at f3 f4
    simp [f1, f2, f3, f4, ab]
  have hl : lim (iws ((prN n).map fun p => ab (M p.1 p.2 - N p.1 p.2)), S) = some (iws ((prN n).map fun p => ab (M p.1 p.2 - N p.1 p.2)), S) := lim_iws (by rw [List.length_map]; have := prN_small hn; omega)
  have hm : fMaxLD 0 S [.d (.lst (((prN n).map fun p => ab (M p.1 p.2 - N p.1 p.2)).map D.int))] = some (.d (.int (off n M N))) := by
    rw [← off_pairs h0 d1 d2]
    generalize ((prN n).map fun p => ab (M p.1 p.2 - N p.1 p.2)) = zs
    show (some ((zs.map D.int).map W.d)).bind (fun ws => (intsW ws).bind fun ns => some (W.d (.int (ns.max?.getD 0)))) = _
    rw [Option.bind_some, show (zs.map D.int).map W.d = iws zs by rw [List.map_map]; rfl, intsW_iws, Option.bind_some]
  generalize ((prN n).map fun p => ab (M p.1 p.2 - N p.1 p.2)) = zs at e1 hl hm
  simp [m_p_tables_apart, b_p_tables_apart, tab_len, pairs_of_ok n hn, e1, hl, hm, end_pure0]
theorem off_ok (n : Nat) (h0 : 0 < n) (hn : n ≤ 100) (M N : Nat → Nat → Int) (S : Sto) : m_off [.d (tab n M), .d (tab n N)] S = some (.val (.d (.int (off n M N))), S) := by
  have hg : ∀ S, rg1 S [.d (.int (n : Int))] = some (.its (rngW 0 n)) := fun S => rg1_nat (by omega)
  have hr : rngW 0 n = (List.range n).map fun (i : Nat) => W.d (.int (i : Int)) := by
    unfold rngW
    apply List.map_congr_left
    intro i _
    rw [Int.zero_add]
  have inner : ∀ a, a < n → cloop (.its (rngW 0 n)) (gnm 3) tyes (prim fAbs (acons (prim fSub (acons (prim fIx (acons (prim fIx (acons (mv 0) (acons (mv 2) anil))) (acons (mv 3) anil))) (acons (prim fIx (acons (prim fIx (acons (mv 1) (acons (mv 2) anil))) (acons (mv 3) anil))) anil))) anil)) [some (.d (tab n M)), some (.d (tab n N)), some (.d (.int (a : Int))), none] n 0 S = some (iws ((List.range n).map fun b => ab (M a b - N a b)), S) := fun a ha => by
    rw [iws_map, hr]
    refine cloop_fmap _ (by simp) fun b hb => ⟨_, rfl, ?_⟩
    have hb' := List.mem_range.mp hb
    have f1 : fIx S [.d (tab n M), .d (.int (a : Int))] = _ := tab_ix ha
    have f2 : fIx S [.d (.tup (rowD n (M a))), .d (.int (b : Int))] = _ := row_ix hb'
    have f3 : fIx S [.d (tab n N), .d (.int (a : Int))] = _ := tab_ix ha
    have f4 : fIx S [.d (.tup (rowD n (N a))), .d (.int (b : Int))] = _ := row_ix hb'
    generalize rowD n (M a) = r1 at f1 f2
    generalize rowD n (N a) = r2 at f3 f4
    simp [f1, f2, f3, f4, ab]
  have outer : cloop (.its (rngW 0 n)) (gnm 2) tyes (prim fMaxL (acons (frz (mcomp (iargs rg1 (acons (prim fLen (acons (mv 0) anil)) anil)) (gnm 3) tyes (prim fAbs (acons (prim fSub (acons (prim fIx (acons (prim fIx (acons (mv 0) (acons (mv 2) anil))) (acons (mv 3) anil))) (acons (prim fIx (acons (prim fIx (acons (mv 1) (acons (mv 2) anil))) (acons (mv 3) anil))) anil))) anil)) [3])) anil)) [some (.d (tab n M)), some (.d (tab n N)), none, none] n 0 S = some (iws ((List.range n).map fun a => ((List.range n).map fun b => ab (M a b - N a b)).max?.getD 0), S) := by
    rw [iws_map]
    conv => lhs; rw [hr]
    refine cloop_fmap _ (by simp) fun a ha => ⟨_, rfl, ?_⟩
    have e := inner a (List.mem_range.mp ha)
    obtain ⟨v, hv⟩ := max_some (zs := (List.range n).map fun b => ab (M a b - N a b)) (by simp; omega)
    have hm := maxL_of (S := S) hv
    have hl : lim (iws ((List.range n).map fun b => ab (M a b - N a b)), S) = some (iws ((List.range n).map fun b => ab (M a b - N a b)), S) := lim_iws (by simp; omega)
    rw [hv]
    generalize ((List.range n).map fun b => ab (M a b - N a b)) = zs at e hm hl
    simp [tab_len, hg, e, hl, hm]
  have hmx : ((List.range n).map fun a => ((List.range n).map fun b => ab (M a b - N a b)).max?.getD 0).max? = some (off n M N) := by
    rw [max_flat (List.range n) (fun a => (List.range n).map fun b => ab (M a b - N a b)) (fun a _ => by simp; omega)]
    exact off_is h0
  have hm := maxL_of (S := S) hmx
  have hl : lim (iws ((List.range n).map fun a => ((List.range n).map fun b => ab (M a b - N a b)).max?.getD 0), S) = some (iws ((List.range n).map fun a => ((List.range n).map fun b => ab (M a b - N a b)).max?.getD 0), S) := lim_iws (by simp; omega)
  generalize ((List.range n).map fun a => ((List.range n).map fun b => ab (M a b - N a b)).max?.getD 0) = zs at outer hm hl
  simp [m_off, b_off, tab_len, hg, outer, hl, hm, end_pure0]
theorem hts_dist {n : Nat} {M : Nat → Nat → Int} (d : Dist M) (nn : NNn n M) : ∃ H, Dist H ∧ NNn n H ∧ tab n (hts n M) = tab n H ∧ (∀ a b, a < n → b < n → H a b = hts n M a b) := by
  refine ⟨fun a b => if a = b then 0 else hts n M a b, ⟨fun a => if_pos rfl, fun a b => ?_⟩, fun a b ha hb => ?_, tab_congr fun a b ha hb => ?_, fun a b ha hb => ?_⟩
  · by_cases e : a = b
    · subst e; rfl
    · show (if a = b then 0 else _) = if b = a then 0 else _
      rw [if_neg e, if_neg (Ne.symm e)]
      exact fw_sym d.2 n a b
  · show 0 ≤ if a = b then 0 else _
    split
    · exact Int.le_refl 0
    · exact fw_nn nn n a b (Nat.le_refl n) ha hb
  · show _ = if a = b then 0 else _
    split
    · rename_i e
      subst e
      exact fw_diag d.1 nn n a (Nat.le_refl n) ha
    · rfl
  · show (if a = b then 0 else _) = _
    split
    · rename_i e
      subst e
      exact (fw_diag d.1 nn n a (Nat.le_refl n) ha).symm
    · rfl
end Kx

set_option Elab.async false
set_option linter.all false
set_option maxRecDepth 100000
set_option maxHeartbeats 4000000
set_option autoImplicit false
namespace Kx
open PySem L2 GM
/-- a table of distances, none below 0 -/
structure Tb (n : Nat) (M : Nat → Nat → Int) : Prop where
  d : Dist M
  nn : NNn n M
/-- its heights, as a table -/
theorem Tb.h {n : Nat} {M : Nat → Nat → Int} (t : Tb n M) : ∃ H, Tb n H ∧ tab n (hts n M) = tab n H ∧ (∀ a b, a < n → b < n → H a b = hts n M a b) := by
  obtain ⟨H, h1, h2, h3, h4⟩ := hts_dist t.d t.nn
  exact ⟨H, ⟨h1, h2⟩, h3, h4⟩
theorem fw_congr {n : Nat} {M N : Nat → Nat → Int} (h : ∀ a b, a < n → b < n → M a b = N a b) : ∀ (k a b : Nat), k ≤ n → a < n → b < n → fw M k a b = fw N k a b
  | 0, a, b, _, ha, hb => h a b ha hb
  | k + 1, a, b, hk, ha, hb => by
    show mn _ (mx _ _) = mn _ (mx _ _)
    rw [fw_congr h k a b (by omega) ha hb, fw_congr h k a k (by omega) ha (by omega), fw_congr h k k b (by omega) (by omega) hb]
/-- heights of heights -/
theorem hts_hts {n : Nat} {M H : Nat → Nat → Int} (h : ∀ a b, a < n → b < n → H a b = hts n M a b) : ∀ a b, a < n → b < n → hts n H a b = H a b := fun a b ha hb => by
  show fw H n a b = H a b
  rw [fw_congr h n a b (Nat.le_refl n) ha hb]
  have : fw (hts n M) n = hts n M := fw_fix (n := n) (fun c a b hc => fw_tri M n c a b hc) n (Nat.le_refl n)
  rw [this, h a b ha hb]
theorem off_congr {n : Nat} {M N M' N' : Nat → Nat → Int} (h1 : ∀ a b, a < n → b < n → M a b = M' a b) (h2 : ∀ a b, a < n → b < n → N a b = N' a b) : off n M N = off n M' N' := by
  have : offs n M N = offs n M' N' := by
    unfold offs
    rw [List.flatMap_def, List.flatMap_def]
    congr 1
    apply List.map_congr_left
    intro a ha
    apply List.map_congr_left
    intro b hb
    rw [h1 a b (List.mem_range.mp ha) (List.mem_range.mp hb), h2 a b (List.mem_range.mp ha) (List.mem_range.mp hb)]
  unfold off
  rw [this]
theorem off_hts {n : Nat} {M N : Nat → Nat → Int} (h0 : 0 < n) : off n (hts n M) (hts n N) ≤ off n M N := by
  obtain ⟨_, h2⟩ := (off_spec (M := M) (N := N) h0).mp rfl
  obtain ⟨⟨a, b, ha, hb, e⟩, _⟩ := (off_spec (M := hts n M) (N := hts n N) h0).mp rfl
  rw [e]
  have := fw_near (n := n) (M := M) (N := N) (e := off n M N) (fun a b ha hb => by
    have := h2 a b ha hb
    unfold ab at this
    split at this <;> omega) n a b (Nat.le_refl n) ha hb
  show ab (fw M n a b - fw N n a b) ≤ _
  unfold ab
  split <;> omega
theorem trees_apart_ok (n : Nat) (h0 : 0 < n) (hn : n ≤ 100) (M N : Nat → Nat → Int) (t1 : Tb n M) (t2 : Tb n N) (S : Sto) : m_p_trees_apart [.d (tab n M), .d (tab n N)] S = some (.val (.d (.int (off n (hts n M) (hts n N)))), S) := by
  obtain ⟨H, tH, e1, c1⟩ := t1.h
  obtain ⟨G, tG, e2, c2⟩ := t2.h
  have h1 := height_table_ok n hn M S
  have h2 := height_table_ok n hn N S
  rw [e1] at h1
  rw [e2] at h2
  have h3 := tables_apart_ok n h0 hn H G tH.d tG.d S
  rw [off_congr c1 c2] at h3
  simp [m_p_trees_apart, b_p_trees_apart, h1, h2, h3, end_pure0]
/-- the first pair that is so far apart -/
def farD (n : Nat) (H G : Nat → Nat → Int) (v : Int) : D := match (prN n).find? (fun p => decide (ab (H p.1 p.2 - G p.1 p.2) = v)) with
  | some p => pD p
  | none => .non
theorem farthest_ok (n : Nat) (h0 : 0 < n) (hn : n ≤ 100) (M N H G : Nat → Nat → Int) (t1 : Tb n M) (t2 : Tb n N) (e1 : tab n (hts n M) = tab n H) (e2 : tab n (hts n N) = tab n G) (tH : Tb n H) (tG : Tb n G) (S : Sto) :
    m_p_farthest_pair [.d (tab n M), .d (tab n N)] S = some (.val (.d (farD n H G (off n H G))), S) := by
  have h1 := height_table_ok n hn M S
  have h2 := height_table_ok n hn N S
  rw [e1] at h1
  rw [e2] at h2
  have h3 := tables_apart_ok n h0 hn H G tH.d tG.d S
  generalize off n H G = v at h3
  obtain ⟨o, l1, l2⟩ := floop_inv (ws := (prN n).map (W.d ∘ pD)) (g := gtp 2 (gcons (gnm 5) (gcons (gnm 6) gnil))) (b := bcond (tst (prim fEq (acons (prim fAbs (acons (prim fSub (acons (prim fIx (acons (prim fIx (acons (mv 2) (acons (mv 5) anil))) (acons (mv 6) anil))) (acons (prim fIx (acons (prim fIx (acons (mv 3) (acons (mv 5) anil))) (acons (mv 6) anil))) anil))) anil)) (acons (mv 4) anil)))) (bret (prim fTup (acons (mv 5) (acons (mv 6) anil)))) bnil)
    (fun i ρ S' => ∃ x5 x6, S' = S ∧ ρ = [some (.d (tab n M)), some (.d (tab n N)), some (.d (tab n H)), some (.d (tab n G)), some (.d (.int v)), x5, x6] ∧ ((prN n).take i).find? (fun p => decide (ab (H p.1 p.2 - G p.1 p.2) = v)) = none)
    (fun o => (∃ x5 x6, o = .nx [some (.d (tab n M)), some (.d (tab n N)), some (.d (tab n H)), some (.d (tab n G)), some (.d (.int v)), x5, x6] S ∧ farD n H G v = .non) ∨ (o = .ret (.d (farD n H G v)) S))
    (fun i w ρ S' hw ⟨x5, x6, q1, q2, q3⟩ => by
      subst q1 q2
      have hi : i < (prN n).length := by
        have := (List.getElem?_eq_some_iff.mp hw).1
        simpa using this
      rw [List.getElem?_map, List.getElem?_eq_getElem hi] at hw
      have hm := prN_mem.mp (List.getElem_mem hi)
      have ht : (prN n).take (i + 1) = (prN n).take i ++ [(prN n)[i]] := by rw [List.take_add_one, List.getElem?_eq_getElem hi]; rfl
      have hsp : prN n = (prN n).take i ++ (prN n)[i] :: (prN n).drop (i + 1) := by rw [← List.drop_eq_getElem_cons hi, List.take_append_drop]
      generalize (prN n)[i] = p at hw hm ht hsp
      cases hw
      have f1 : fIx S' [.d (tab n H), .d (.int (p.1 : Int))] = _ := tab_ix (by omega)
      have f2 : fIx S' [.d (.tup (rowD n (H p.1))), .d (.int (p.2 : Int))] = _ := row_ix hm.2
      have f3 : fIx S' [.d (tab n G), .d (.int (p.1 : Int))] = _ := tab_ix (by omega)
      have f4 : fIx S' [.d (.tup (rowD n (G p.1))), .d (.int (p.2 : Int))] = _ := row_ix hm.2
      have f5 : fAbs S' [.d (.int (H p.1 p.2 - G p.1 p.2))] = some (.d (.int (ab (H p.1 p.2 - G p.1 p.2)))) := rfl
      by_cases c : ab (H p.1 p.2 - G p.1 p.2) = v
      · have hf : farD n H G v = pD p := by
          unfold farD
          have : (prN n).find? (fun p => decide (ab (H p.1 p.2 - G p.1 p.2) = v)) = some p := by
            rw [hsp, List.find?_append, q3]
            rw [List.find?_cons_of_pos (by simp [c])]
            rfl
          rw [this]
        refine ⟨[some (.d (tab n M)), some (.d (tab n N)), some (.d (tab n H)), some (.d (tab n G)), some (.d (.int v)), some (.d (.int (p.1 : Int))), some (.d (.int (p.2 : Int)))], .ret (.d (farD n H G v)) S', by simp [pD], ?_, .inr rfl⟩
        rw [hf]
        generalize rowD n (H p.1) = r1 at f1 f2
        generalize rowD n (G p.1) = r2 at f3 f4
        simp only [bcond_ap, tst_ap, prim_ap, acons_ap, anil_ap, mv_ap, bret_ap, List.getElem?_cons_succ, List.getElem?_cons_zero, Option.bind_some, f1, f2, f3, f4, sub_int, f5, eq_int, wbl_ap, c, decide_true, if_true, tup2]
        rfl
      · refine ⟨[some (.d (tab n M)), some (.d (tab n N)), some (.d (tab n H)), some (.d (tab n G)), some (.d (.int v)), some (.d (.int (p.1 : Int))), some (.d (.int (p.2 : Int)))], .nx [some (.d (tab n M)), some (.d (tab n N)), some (.d (tab n H)), some (.d (tab n G)), some (.d (.int v)), some (.d (.int (p.1 : Int))), some (.d (.int (p.2 : Int)))] S', by simp [pD], ?_, _, _, rfl, rfl, ?_⟩
        · generalize rowD n (H p.1) = r1 at f1 f2
          generalize rowD n (G p.1) = r2 at f3 f4
          simp only [bcond_ap, tst_ap, prim_ap, acons_ap, anil_ap, mv_ap, bret_ap, bnil_ap, List.getElem?_cons_succ, List.getElem?_cons_zero, Option.bind_some, f1, f2, f3, f4, sub_int, f5, eq_int, wbl_ap, c, decide_false, Bool.false_eq_true, if_false]
        · rw [ht, List.find?_append, q3, List.find?_cons_of_neg (by simp [c])]
          rfl)
    (fun ρ S' ⟨x5, x6, q1, q2, q3⟩ => by
      subst q1 q2
      refine .inl ⟨x5, x6, rfl, ?_⟩
      rw [List.length_map, List.take_length] at q3
      unfold farD
      rw [q3])
    (prN n).length 0 [some (.d (tab n M)), some (.d (tab n N)), some (.d (tab n H)), some (.d (tab n G)), some (.d (.int v)), none, none] S (by simp) ⟨none, none, rfl, rfl, rfl⟩
  rcases l2 with ⟨x5, x6, rfl, hf⟩ | rfl
  · rw [hf]
    simp [m_p_farthest_pair, b_p_farthest_pair, h1, h2, h3, tab_len, pairs_of_ok n hn, l1, end_pure0]
  · simp [m_p_farthest_pair, b_p_farthest_pair, h1, h2, h3, tab_len, pairs_of_ok n hn, l1, end_pure0]
end Kx

set_option Elab.async false
set_option linter.all false
set_option maxRecDepth 100000
set_option maxHeartbeats 4000000
set_option autoImplicit false
namespace Kx
open PySem L2 GM
theorem tab_okD (n : Nat) (hn : n ≤ 1000) (M : Nat → Nat → Int) : okD 7 (tab n M) := by
  refine ⟨by simp; omega, fun d hd => ?_⟩
  obtain ⟨a, _, rfl⟩ := List.mem_map.mp hd
  refine ⟨by simp; omega, fun e he => ?_⟩
  obtain ⟨b, _, rfl⟩ := List.mem_map.mp he
  trivial
theorem pD_okD (p : Nat × Nat) : okD 7 (pD p) := by
  refine ⟨by simp, fun d hd => ?_⟩
  simp at hd
  rcases hd with rfl | rfl <;> trivial
theorem far_head (n : Nat) (H G : Nat → Nat → Int) (v : Int) (S : Sto) : fIx S [.d (.lst ((((prN n).filter fun p => decide (ab (H p.1 p.2 - G p.1 p.2) = v)).map pD) ++ [.non])), .d (.int 0)] = some (.d (farD n H G v)) := by
  refine ix_lst (n := 0) ?_
  unfold farD
  rw [← List.head?_filter]
  cases (prN n).filter (fun p => decide (ab (H p.1 p.2 - G p.1 p.2) = v)) with
  | nil => rfl
  | cons p r => rfl
theorem right_ok (n : Nat) (h0 : 0 < n) (hn : n ≤ 100) (M N : Nat → Nat → Int) (t1 : Tb n M) (t2 : Tb n N) (ns : List Int) (T : Sto) : ∃ ns', m_right [.ref 0, .d (tab n M), .d (tab n N)] (C ns :: T) = some (.val (.d (.bl true)), C ns' :: T) := by
  obtain ⟨H, tH, eH, cH⟩ := t1.h
  obtain ⟨G, tG, eG, cG⟩ := t2.h
  obtain ⟨a, ns1, k1, a1, a2⟩ := take_ok ns T n (by omega)
  obtain ⟨b, ns2, k2, b1, b2⟩ := take_ok ns1 T n (by omega)
  obtain ⟨a, rfl⟩ := Int.eq_ofNat_of_zero_le a1
  obtain ⟨b, rfl⟩ := Int.eq_ofNat_of_zero_le b1
  have ha : a < n := by omega
  have hb : b < n := by omega
  have sm : ∀ (S : Sto) (K : Nat → Nat → Int), m_same [.d (tab n K), .d (tab n K)] S = some (.val (.d (.bl true)), S) := fun S K => same_ok (tab_okD n (by omega) K)
  have si : ∀ (S : Sto) (v : Int), m_same [.d (.int v), .d (.int v)] S = some (.val (.d (.bl true)), S) := fun S v => same_ok (x := .int v) trivial
  -- the two tables of heights, by the law
  have tups : ∀ (S : Sto) (ρ : Rho) (K L : Nat → Nat → Int) (hL : tab n (hts n K) = tab n L) (hi : ∀ w, (ρ.set 10 (some w))[10]? = some (some w)), True := fun _ _ _ _ _ _ => trivial
  have hw : ∀ (S : Sto) (K : Nat → Nat → Int), m_heights [.d (tab n K)] S = some (.new ((rowsD n (hts n K)).map W.d), S) := fun S K => path_heights_ok n hn K S
  have e1 := tup_rows 10 [some (.ref 0), some (.d (tab n M)), some (.d (tab n N)), some (.d (.int (n : Int))), none, none, none, none, none, none, none, none] n (hts n M) (C ns :: T) (fun w => rfl)
  have e2 := tup_rows 10 [some (.ref 0), some (.d (tab n M)), some (.d (tab n N)), some (.d (.int (n : Int))), some (.d (tab n H)), none, none, none, none, none, none, none] n (hts n N) (C ns :: T) (fun w => rfl)
  have rr : ∀ K : Nat → Nat → Int, (List.range n).map (fun a => W.d (.lst (rowD n (K a)))) = (rowsD n K).map W.d := fun K => by unfold rowsD; rw [List.map_map]; rfl
  have rl : ∀ K : Nat → Nat → Int, (rowsD n K).length = n := fun K => by simp [rowsD]
  rw [rr] at e1 e2
  have rlim : ∀ (K : Nat → Nat → Int) (S : Sto), lim ((List.range n).map (fun a => W.d (.tup (rowD n (K a)))), S) = some ((List.range n).map (fun a => W.d (.tup (rowD n (K a)))), S) := fun K S => lim_ap (by simp; omega)
  have rdat : ∀ K : Nat → Nat → Int, datas ((List.range n).map (fun a => W.d (.tup (rowD n (K a))))) = some ((List.range n).map fun a => D.tup (rowD n (K a))) := fun K => datas_fmap _ _
  have rtab : ∀ K : Nat → Nat → Int, D.tup ((List.range n).map fun a => D.tup (rowD n (K a))) = tab n K := fun K => rfl
  have set4 : bset 4 (prim fTuple (acons (frz (mcomp (isrc srcA (mcall m_heights (acons (mv 1) anil))) (gnm 10) tyes (prim fTuple (acons (mv 10) anil)) [10])) anil)) [some (.ref 0), some (.d (tab n M)), some (.d (tab n N)), some (.d (.int (n : Int))), none, none, none, none, none, none, none, none] (C ns :: T) = some (.nx [some (.ref 0), some (.d (tab n M)), some (.d (tab n N)), some (.d (.int (n : Int))), some (.d (tab n H)), none, none, none, none, none, none, none] (C ns :: T)) := by
    rw [← eH, ← rtab (hts n M)]
    have q1 := rlim (hts n M) (C ns :: T)
    have q2 := rdat (hts n M)
    have q3 := hw (C ns :: T) M
    have q4 := rl (hts n M)
    generalize (List.range n).map (fun a => W.d (.tup (rowD n (hts n M a)))) = v1 at e1 q1 q2
    generalize (List.range n).map (fun a => D.tup (rowD n (hts n M a))) = v2 at q2
    have q5 := rowsD_datas (n := n) (M := hts n M)
    generalize rowsD n (hts n M) = v3 at e1 q3 q4 q5
    simp [q3, q4, e1, q1, q2]
  have set5 : bset 5 (prim fTuple (acons (frz (mcomp (isrc srcA (mcall m_heights (acons (mv 2) anil))) (gnm 10) tyes (prim fTuple (acons (mv 10) anil)) [10])) anil)) [some (.ref 0), some (.d (tab n M)), some (.d (tab n N)), some (.d (.int (n : Int))), some (.d (tab n H)), none, none, none, none, none, none, none] (C ns :: T) = some (.nx [some (.ref 0), some (.d (tab n M)), some (.d (tab n N)), some (.d (.int (n : Int))), some (.d (tab n H)), some (.d (tab n G)), none, none, none, none, none, none] (C ns :: T)) := by
    rw [← eG, ← rtab (hts n N)]
    have q1 := rlim (hts n N) (C ns :: T)
    have q2 := rdat (hts n N)
    have q3 := hw (C ns :: T) N
    have q4 := rl (hts n N)
    generalize (List.range n).map (fun a => W.d (.tup (rowD n (hts n N a)))) = v1 at e2 q1 q2
    generalize (List.range n).map (fun a => D.tup (rowD n (hts n N a))) = v2 at q2
    have q5 := rowsD_datas (n := n) (M := hts n N)
    generalize rowsD n (hts n N) = v3 at e2 q3 q4 q5
    simp [q3, q4, e2, q1, q2]
  have g1 : m_p_height_table [.d (tab n M)] (C ns :: T) = some (.val (.d (tab n H)), C ns :: T) := by rw [← eH]; exact height_table_ok n hn M _
  have g2 : m_p_height_table [.d (tab n G)] (C ns :: T) = some (.val (.d (tab n G)), C ns :: T) := by
    have := height_table_ok n hn G (C ns :: T)
    rw [tab_congr (hts_hts cG)] at this
    exact this
  have g3 : m_p_path_height [.d (tab n N), .d (.int (a : Int)), .d (.int (b : Int))] (C ns2 :: T) = some (.val (.d (.int (G a b))), C ns2 :: T) := by
    rw [cG a b ha hb]
    exact path_height_ok n hn N a b ha hb _
  have g4 : fIx (C ns2 :: T) [.d (tab n G), .d (.int (a : Int))] = _ := tab_ix ha
  have g5 : fIx (C ns2 :: T) [.d (.tup (rowD n (G a))), .d (.int (b : Int))] = _ := row_ix hb
  have oHG : off n (hts n M) (hts n N) = off n H G := off_congr (fun a b ha hb => (cH a b ha hb).symm) (fun a b ha hb => (cG a b ha hb).symm)
  have g6 := off_ok n h0 hn H G (C ns2 :: T)
  have g7 := tables_apart_ok n h0 hn M N t1.d t2.d (C ns2 :: T)
  have g8 := off_ok n h0 hn M N (C ns2 :: T)
  have g9 := trees_apart_ok n h0 hn M N t1 t2 (C ns2 :: T)
  have g10 := tables_apart_ok n h0 hn H G tH.d tG.d (C ns2 :: T)
  have g11 := trees_apart_ok n h0 hn G M tG t1 (C ns2 :: T)
  have oGM : off n (hts n G) (hts n M) = off n H G := by
    rw [off_congr (hts_hts cG) (fun a b ha hb => (cH a b ha hb).symm)]
    exact off_comm h0
  rw [oGM] at g11
  rw [oHG] at g9
  have g12 : ¬ off n M N < off n H G := by
    have := off_hts (M := M) (N := N) h0
    rw [oHG] at this
    omega
  have g13 := farthest_ok n h0 hn M N H G t1 t2 eH eG tH tG (C ns2 :: T)
  have g14 := far_head n H G (off n H G) (C ns2 :: T)
  have g15 : m_same [.d (farD n H G (off n H G)), .d (farD n H G (off n H G))] (C ns2 :: T) = some (.val (.d (.bl true)), C ns2 :: T) := same_ok (by
    unfold farD
    split
    · exact pD_okD _
    · trivial)
  generalize farD n H G (off n H G) = fd at g13 g14 g15
  generalize off n H G = v at *
  have g16 : cloop (.its ((prN n).map (W.d ∘ pD))) (gnm 11) (tst (prim fEq (acons (prim fAbs (acons (prim fSub (acons (prim fIx (acons (prim fIx (acons (mv 4) (acons (prim fIx (acons (mv 11) (acons (mk (.int 0)) anil))) anil))) (acons (prim fIx (acons (mv 11) (acons (mk (.int 1)) anil))) anil))) (acons (prim fIx (acons (prim fIx (acons (mv 5) (acons (prim fIx (acons (mv 11) (acons (mk (.int 0)) anil))) anil))) (acons (prim fIx (acons (mv 11) (acons (mk (.int 1)) anil))) anil))) anil))) anil)) (acons (mv 8) anil)))) (mv 11) [some (.ref 0), some (.d (tab n M)), some (.d (tab n N)), some (.d (.int (n : Int))), some (.d (tab n H)), some (.d (tab n G)), some (.d (.int (a : Int))), some (.d (.int (b : Int))), some (.d (.int v)), none, none, none] (prN n).length 0 (C ns2 :: T) = some (((prN n).filter fun p => decide (ab (H p.1 p.2 - G p.1 p.2) = v)).map fun p => W.d (pD p), C ns2 :: T) := by
    refine cloop_filter _ _ rfl fun p hp => ⟨_, rfl, ?_, ?_⟩
    · have hm := prN_mem.mp hp
      have f1 : fIx (C ns2 :: T) [.d (tab n H), .d (.int (p.1 : Int))] = _ := tab_ix (by omega)
      have f2 : fIx (C ns2 :: T) [.d (.tup (rowD n (H p.1))), .d (.int (p.2 : Int))] = _ := row_ix hm.2
      have f3 : fIx (C ns2 :: T) [.d (tab n G), .d (.int (p.1 : Int))] = _ := tab_ix (by omega)
      have f4 : fIx (C ns2 :: T) [.d (.tup (rowD n (G p.1))), .d (.int (p.2 : Int))] = _ := row_ix hm.2
      have f5 : fAbs (C ns2 :: T) [.d (.int (H p.1 p.2 - G p.1 p.2))] = some (.d (.int (ab (H p.1 p.2 - G p.1 p.2)))) := rfl
      generalize rowD n (H p.1) = r1 at f1 f2
      generalize rowD n (G p.1) = r2 at f3 f4
      simp only [tst_ap, prim_ap, acons_ap, anil_ap, mv_ap, mk_ap, gnm_ap, List.set_cons_succ, List.set_cons_zero, List.getElem?_cons_succ, List.getElem?_cons_zero, Option.bind_some, Function.comp_apply, ix_p0, ix_p1, f1, f2, f3, f4, sub_int, f5, eq_int, wbl_ap]
    · simp
  have g17 : lim (((prN n).filter fun p => decide (ab (H p.1 p.2 - G p.1 p.2) = v)).map (fun p => W.d (pD p)), C ns2 :: T) = some (((prN n).filter fun p => decide (ab (H p.1 p.2 - G p.1 p.2) = v)).map (fun p => W.d (pD p)), C ns2 :: T) := lim_ap (by
    rw [List.length_map]
    have := List.length_filter_le (fun p => decide (ab (H p.1 p.2 - G p.1 p.2) = v)) (prN n)
    have := prN_small hn
    omega)
  have g18 : datas (((prN n).filter fun p => decide (ab (H p.1 p.2 - G p.1 p.2) = v)).map (fun p => W.d (pD p))) = some (((prN n).filter fun p => decide (ab (H p.1 p.2 - G p.1 p.2) = v)).map pD) := datas_fmap _ _
  have g19 : fAdd (C ns2 :: T) [.d (.lst (((prN n).filter fun p => decide (ab (H p.1 p.2 - G p.1 p.2) = v)).map pD)), .d (.lst [.non])] = some (.d (.lst ((((prN n).filter fun p => decide (ab (H p.1 p.2 - G p.1 p.2) = v)).map pD) ++ [.non]))) := add_lst (by
    rw [List.length_map]
    have := List.length_filter_le (fun p => decide (ab (H p.1 p.2 - G p.1 p.2) = v)) (prN n)
    have := prN_small hn
    simp
    omega) rfl
  generalize ((prN n).filter fun p => decide (ab (H p.1 p.2 - G p.1 p.2) = v)).map (fun p => W.d (pD p)) = v1 at g16 g17 g18
  generalize ((prN n).filter fun p => decide (ab (H p.1 p.2 - G p.1 p.2) = v)).map pD = v2 at g18 g19 g14
  generalize (v2 ++ [D.non]) = v3 at g19 g14
  generalize rowD n (G a) = rG at g4 g5
  refine ⟨ns2, ?_⟩
  unfold m_right b_right
  rw [runDef_ap, if_pos (show [W.ref 0, W.d (tab n M), W.d (tab n N)].length = 3 from rfl), bseq_ap]
  rw [show (bset 3 (prim fLen (acons (mv 1) anil))) (List.map some [W.ref 0, W.d (tab n M), W.d (tab n N)] ++ List.replicate (12 - [W.ref 0, W.d (tab n M), W.d (tab n N)].length) none) (C ns :: T) = some (.nx [some (.ref 0), some (.d (tab n M)), some (.d (tab n N)), some (.d (.int (n : Int))), none, none, none, none, none, none, none, none] (C ns :: T)) by
    show (bset 3 (prim fLen (acons (mv 1) anil))) [some (.ref 0), some (.d (tab n M)), some (.d (tab n N)), none, none, none, none, none, none, none, none, none] (C ns :: T) = _
    simp only [bset_ap, prim_ap, acons_ap, anil_ap, mv_ap, List.getElem?_cons_succ, List.getElem?_cons_zero, Option.bind_some, tab_len, List.set_cons_succ, List.set_cons_zero], Option.bind_some]
  dsimp only
  rw [bseq_ap, set4, Option.bind_some]
  dsimp only
  rw [bseq_ap, set5, Option.bind_some]
  dsimp only
  simp [g1, sm, g2, k1, k2, g3, g4, g5, si, g6, g7, g8, g12, g9, g10, g11, pairs_ok n hn, g16, g17, g18, g13, g19, g14, g15]
  exact end_draw0
end Kx

set_option Elab.async false
set_option linter.all false
set_option maxRecDepth 100000
set_option maxHeartbeats 4000000
set_option autoImplicit false
namespace Kx
open PySem L2 GM
theorem shifted_ok (n : Nat) (hn : n ≤ 100) (M : Nat → Nat → Int) (e : Int) (S : Sto) : ∃ M', m_shifted [.d (tab n M), .d (.int e)] S = some (.val (.d (tab n M')), S) ∧ Tb n M' := by
  have hlm := prN_small hn
  have e1 : cloop (.its ((prN n).map (W.d ∘ pD))) (gnm 3) tyes (prim fMax2 (acons (mk (.int 0)) (acons (prim fAdd (acons (prim fIx (acons (prim fIx (acons (mv 0) (acons (prim fIx (acons (mv 3) (acons (mk (.int 0)) anil))) anil))) (acons (prim fIx (acons (mv 3) (acons (mk (.int 1)) anil))) anil))) (acons (mv 1) anil))) anil))) [some (.d (tab n M)), some (.d (.int e)), some (.d (.int (n : Int))), none] (prN n).length 0 S = some (iws ((prN n).map fun p => mx 0 (M p.1 p.2 + e)), S) := by
    rw [iws_map]
    refine cloop_fmap _ rfl fun p hp => ⟨_, rfl, ?_⟩
    have hm := prN_mem.mp hp
    have f1 : fIx S [.d (tab n M), .d (.int (p.1 : Int))] = _ := tab_ix (by omega)
    have f2 : fIx S [.d (.tup (rowD n (M p.1))), .d (.int (p.2 : Int))] = _ := row_ix hm.2
    generalize rowD n (M p.1) = r1 at f1 f2
    simp only [prim_ap, acons_ap, anil_ap, mv_ap, mk_ap, gnm_ap, List.set_cons_succ, List.set_cons_zero, List.getElem?_cons_succ, List.getElem?_cons_zero, Option.bind_some, Function.comp_apply, ix_p0, ix_p1, f1, f2, add_int, max2_mx]
  have hl : ((prN n).map fun p => mx 0 (M p.1 p.2 + e)).length = (prN n).length := by simp
  have hv : ∀ (j : Nat) (v : Int), ((prN n).map fun p => mx 0 (M p.1 p.2 + e))[j]? = some v → 0 ≤ v := fun j v h => by
    rw [List.getElem?_map] at h
    obtain ⟨p, _, rfl⟩ := Option.map_eq_some_iff.mp h
    unfold mx
    split <;> omega
  generalize ((prN n).map fun p => mx 0 (M p.1 p.2 + e)) = ds at e1 hl hv
  obtain ⟨M', e4, d4, m4⟩ := from_pairs_ok n hn S _ ds (given_lst _ ds) hl
  exact ⟨M', by simp [m_shifted, b_shifted, tab_len, pairs_ok n hn, e1, lim_iws (vs := ds) (by omega), e4, end_pure0], d4, nn_of d4 hl hv m4⟩
theorem changed_ok (n : Nat) (h0 : 0 < n) (hn : n ≤ 100) (M : Nat → Nat → Int) (t : Tb n M) (ns : List Int) (T : Sto) : ∃ M' ns', m_changed [.ref 0, .d (tab n M)] (C ns :: T) = some (.val (.d (tab n M')), C ns' :: T) ∧ Tb n M' := by
  by_cases h1 : n = 1
  · have hc : ((n : Int) = 1) := by omega
    obtain ⟨i, ns1, e1, _⟩ := pick_int ns T [0, 1, 2, -1, 5] (by simp)
    obtain ⟨M', e2, t2⟩ := shifted_ok n hn M i (C ns1 :: T)
    simp at e1
    exact ⟨M', ns1, by simp [m_changed, b_changed, tab_len, hc, e1, e2, end_draw0], t2⟩
  · have hc : ¬ ((n : Int) = 1) := by omega
    obtain ⟨v, ns1, e1, v1, v2⟩ := take_ok ns T 4 (by omega)
    by_cases hv : v = 0
    · obtain ⟨i, ns2, e2, _⟩ := pick_int ns1 T [0, 1, 2, -1, 5] (by simp)
      obtain ⟨M', e3, t3⟩ := shifted_ok n hn M i (C ns2 :: T)
      simp at e2
      exact ⟨M', ns2, by simp [m_changed, b_changed, tab_len, hc, e1, hv, e2, e3, end_draw0], t3⟩
    · obtain ⟨u, ns2, e2, u1, u2⟩ := take_ok ns1 T 2 (by omega)
      obtain ⟨u, rfl⟩ := Int.eq_ofNat_of_zero_le u1
      have hg : ∀ S, rg1 S [.d (.int (1 + (u : Int)))] = some (.its (rngW 0 (u + 1))) := fun S => by
        rw [show (1 + (u : Int)) = ((u + 1 : Nat) : Int) by omega]
        exact rg1_nat (by omega)
      obtain ⟨o, l1, M', ns', x3, x4, x5, x6, rfl, t'⟩ := floop_inv (ws := rngW 0 (u + 1)) (g := gnm 3) (b := bseq (bset 4 (mcall m_take (acons (mv 0) (acons (mv 2) anil))))
  (bseq (bset 5 (prim fMod (acons (prim fInt (acons (prim fAdd (acons (prim fAdd (acons (mv 4) (acons (mk (.int 1)) anil))) (acons (mcall m_take (acons (mv 0) (acons (prim fSub (acons (mv 2) (acons (mk (.int 1)) anil))) anil))) anil))) anil)) (acons (mv 2) anil))))
  (bseq (bset 6 (mcall m_pick (acons (mv 0) (acons (frz (primF fLst (acons (mk (.int 0)) (acons (mk (.int 1)) (acons (mk (.int 2)) (acons (prim fAdd (acons (prim fIx (acons (prim fIx (acons (mv 1) (acons (mv 4) anil))) (acons (mv 5) anil))) (acons (mk (.int 1)) anil))) (acons (prim fAdd (acons (prim fIx (acons (prim fIx (acons (mv 1) (acons (mv 4) anil))) (acons (mv 5) anil))) (acons (mk (.int 3)) anil))) (acons (prim fMax2 (acons (mk (.int 0)) (acons (prim fSub (acons (prim fIx (acons (prim fIx (acons (mv 1) (acons (mv 4) anil))) (acons (mv 5) anil))) (acons (mk (.int 1)) anil))) anil))) (acons (mk (.int 40)) anil))))))))) anil))))
  (bset 1 (mcall m_far (acons (mv 1) (acons (mv 4) (acons (mv 5) (acons (mv 6) anil)))))))))
        (fun i ρ S' => ∃ M' ns' x3 x4 x5 x6, S' = C ns' :: T ∧ ρ = [some (.ref 0), some (.d (tab n M')), some (.d (.int (n : Int))), x3, x4, x5, x6] ∧ Tb n M')
        (fun o => ∃ M' ns' x3 x4 x5 x6, o = .nx [some (.ref 0), some (.d (tab n M')), some (.d (.int (n : Int))), x3, x4, x5, x6] (C ns' :: T) ∧ Tb n M')
        (fun i w ρ S' hw ⟨N, nsa, x3, x4, x5, x6, q1, q2, tN⟩ => by
          obtain ⟨hi, rfl⟩ := rngW_at0 hw
          subst q1 q2
          obtain ⟨a, ns5, e7, a1, a2⟩ := take_ok nsa T n (by omega)
          obtain ⟨a, rfl⟩ := Int.eq_ofNat_of_zero_le a1
          obtain ⟨v, ns6, e8, v1, v2⟩ := take_ok ns5 T ((n : Int) - 1) (by omega)
          obtain ⟨v, rfl⟩ := Int.eq_ofNat_of_zero_le v1
          obtain ⟨b, hb, hbn, hab⟩ : ∃ b : Nat, ((a : Int) + 1 + (v : Int)) % (n : Int) = (b : Int) ∧ b < n ∧ a ≠ b := by
            have hlt' : (a + 1 + v) % n < n := Nat.mod_lt _ h0
            refine ⟨(a + 1 + v) % n, by rw [Int.natCast_emod]; rfl, hlt', ?_⟩
            by_cases hc : a + 1 + v < n
            · rw [Nat.mod_eq_of_lt hc]; omega
            · rw [Nat.mod_eq_sub_mod (by omega), Nat.mod_eq_of_lt (by omega)]; omega
          have han : a < n := by omega
          have ht0 := tN.nn a b han hbn
          have f1 : fIx (C ns6 :: T) [.d (tab n N), .d (.int (a : Int))] = _ := tab_ix han
          have f2 : fIx (C ns6 :: T) [.d (.tup (rowD n (N a))), .d (.int (b : Int))] = _ := row_ix hbn
          obtain ⟨z, hz0, hz⟩ : ∃ z, 0 ≤ z ∧ ∀ S, fMax2 S [.d (.int 0), .d (.int (N a b - 1))] = some (.d (.int z)) := ⟨mx 0 (N a b - 1), by unfold mx; split <;> omega, fun S => rfl⟩
          obtain ⟨dst, ns7, e9, hd⟩ := pick_int ns6 T [0, 1, 2, N a b + 1, N a b + 3, z, 40] (by simp)
          have hd0 : 0 ≤ dst := by
            simp at hd
            rcases hd with rfl | rfl | rfl | rfl | rfl | rfl | rfl <;> omega
          have hmod : ∀ S, fMod S [.d (.int ((a : Int) + 1 + (v : Int))), .d (.int (n : Int))] = some (.d (.int (b : Int))) := fun S => by rw [mod_int (by omega), hb]
          obtain ⟨N', e10, d10, n10⟩ := far_ok n hn N tN.d a b dst han hbn hab (C ns7 :: T)
          simp only [List.map_cons, List.map_nil] at e9
          refine ⟨_, .nx [some (.ref 0), some (.d (tab n N')), some (.d (.int (n : Int))), some (.d (.int (i : Int))), some (.d (.int (a : Int))), some (.d (.int (b : Int))), some (.d (.int dst))] (C ns7 :: T), rfl, ?_, N', ns7, _, _, _, _, rfl, rfl, d10, n10 tN.nn hd0⟩
          generalize N a b = tt at *
          generalize rowD n (N a) = r1 at f1 f2
          simp only [bseq_ap, bset_ap, mcall_ap, acons_ap, anil_ap, mv_ap, mk_ap, prim_ap, frz_ap, primF_ap, gnm_ap, List.set_cons_succ, List.set_cons_zero, List.getElem?_cons_succ, List.getElem?_cons_zero, Option.bind_some, e7, rvW_val, add_int, sub_int, e8, int_int, hmod, f1, f2, hz]
          simp [e9, e10])
        (fun ρ S' ⟨N, nsa, x3, x4, x5, x6, q1, q2, tN⟩ => ⟨N, nsa, x3, x4, x5, x6, by rw [q1, q2], tN⟩)
        (u + 1) 0 [some (.ref 0), some (.d (tab n M)), some (.d (.int (n : Int))), none, none, none, none] (C ns2 :: T) (by simp) ⟨M, ns2, none, none, none, none, rfl, rfl, t⟩
      exact ⟨M', ns', by simp [m_changed, b_changed, tab_len, hc, e1, hv, e2, hg, l1, end_draw0], t'⟩
/-- a table of three things -/
theorem three (x y z : Int) (hx : 0 ≤ x) (hy : 0 ≤ y) (hz : 0 ≤ z) (S : Sto) : ∃ M, m_from_pairs [.d (.int 3), .d (.lst [.int x, .int y, .int z])] S = some (.val (.d (tab 3 M)), S) ∧ Tb 3 M ∧ M 0 1 = x ∧ M 0 2 = y ∧ M 1 2 = z := by
  have hp : prN 3 = [(0, 1), (0, 2), (1, 2)] := by decide
  obtain ⟨M, e, d, m⟩ := from_pairs_ok 3 (by omega) S _ [x, y, z] (given_lst _ [x, y, z]) (by rw [hp]; rfl)
  refine ⟨M, e, ⟨d, nn_of d (by rw [hp]; rfl) (fun j v h => ?_) m⟩, ?_, ?_, ?_⟩
  · have := List.mem_of_getElem? h
    simp at this
    rcases this with rfl | rfl | rfl <;> assumption
  · exact m 0 (0, 1) x (by rw [hp]; rfl) rfl
  · exact m 1 (0, 2) y (by rw [hp]; rfl) rfl
  · exact m 2 (1, 2) z (by rw [hp]; rfl) rfl
theorem three_at {M : Nat → Nat → Int} {x y z : Int} (t : Tb 3 M) (h1 : M 0 1 = x) (h2 : M 0 2 = y) (h3 : M 1 2 = z) : M 0 0 = 0 ∧ M 1 1 = 0 ∧ M 2 2 = 0 ∧ M 1 0 = x ∧ M 2 0 = y ∧ M 2 1 = z :=
  ⟨t.d.1 0, t.d.1 1, t.d.1 2, by rw [t.d.2, h1], by rw [t.d.2, h2], by rw [t.d.2, h3]⟩
theorem three_a {M : Nat → Nat → Int} (t : Tb 3 M) (h1 : M 0 1 = 1) (h2 : M 0 2 = 8) (h3 : M 1 2 = 5) : hts 3 M 0 1 = 1 ∧ hts 3 M 0 2 = 5 ∧ hts 3 M 1 2 = 5 := by
  obtain ⟨z0, z1, z2, s1, s2, s3⟩ := three_at t h1 h2 h3
  simp only [hts, fw, z0, z1, z2, h1, h2, h3, s1, s2, s3]
  decide
theorem three_b {M : Nat → Nat → Int} (t : Tb 3 M) (h1 : M 0 1 = 1) (h2 : M 0 2 = 5) (h3 : M 1 2 = 2) : hts 3 M 0 1 = 1 ∧ hts 3 M 0 2 = 2 ∧ hts 3 M 1 2 = 2 := by
  obtain ⟨z0, z1, z2, s1, s2, s3⟩ := three_at t h1 h2 h3
  simp only [hts, fw, z0, z1, z2, h1, h2, h3, s1, s2, s3]
  decide
theorem three_c {M : Nat → Nat → Int} (t : Tb 3 M) (h1 : M 0 1 = 1) (h2 : M 0 2 = 9) (h3 : M 1 2 = 5) : hts 3 M 0 1 = 1 ∧ hts 3 M 0 2 = 5 ∧ hts 3 M 1 2 = 5 := by
  obtain ⟨z0, z1, z2, s1, s2, s3⟩ := three_at t h1 h2 h3
  simp only [hts, fw, z0, z1, z2, h1, h2, h3, s1, s2, s3]
  decide
end Kx

set_option Elab.async false
set_option linter.all false
set_option maxRecDepth 100000
set_option maxHeartbeats 4000000
set_option autoImplicit false
namespace Kx
open PySem L2 GM
theorem spots (S : Sto) : ∃ A B E, m_from_pairs [.d (.int 3), .d (.lst [.int 1, .int 8, .int 5])] S = some (.val (.d (tab 3 A)), S) ∧ m_from_pairs [.d (.int 3), .d (.lst [.int 1, .int 5, .int 2])] S = some (.val (.d (tab 3 B)), S) ∧ m_from_pairs [.d (.int 3), .d (.lst [.int 1, .int 9, .int 5])] S = some (.val (.d (tab 3 E)), S)
    ∧ m_p_farthest_pair [.d (tab 3 A), .d (tab 3 B)] S = some (.val (.d (.tup [.int 0, .int 2])), S) ∧ m_p_trees_apart [.d (tab 3 A), .d (tab 3 E)] S = some (.val (.d (.int 0)), S) := by
  obtain ⟨A, a1, tA, a2, a3, a4⟩ := three 1 8 5 (by omega) (by omega) (by omega) S
  obtain ⟨B, b1, tB, b2, b3, b4⟩ := three 1 5 2 (by omega) (by omega) (by omega) S
  obtain ⟨E, c1, tE, c2, c3, c4⟩ := three 1 9 5 (by omega) (by omega) (by omega) S
  refine ⟨A, B, E, a1, b1, c1, ?_, ?_⟩
  · obtain ⟨H, tH, eH, cH⟩ := tA.h
    obtain ⟨G, tG, eG, cG⟩ := tB.h
    have h := farthest_ok 3 (by omega) (by omega) A B H G tA tB eH eG tH tG S
    obtain ⟨p1, p2, p3⟩ := three_a tA a2 a3 a4
    obtain ⟨q1, q2, q3⟩ := three_b tB b2 b3 b4
    rw [← cH 0 1 (by omega) (by omega)] at p1
    rw [← cH 0 2 (by omega) (by omega)] at p2
    rw [← cH 1 2 (by omega) (by omega)] at p3
    rw [← cG 0 1 (by omega) (by omega)] at q1
    rw [← cG 0 2 (by omega) (by omega)] at q2
    rw [← cG 1 2 (by omega) (by omega)] at q3
    have hp : prN 3 = [(0, 1), (0, 2), (1, 2)] := by decide
    have ho : off 3 H G = 3 := by
      rw [← off_pairs (by omega) tH.d tG.d, hp]
      simp only [List.map_cons, List.map_nil, p1, p2, p3, q1, q2, q3]
      decide
    have hf : farD 3 H G 3 = .tup [.int 0, .int 2] := by
      unfold farD
      have : (prN 3).find? (fun p => decide (ab (H p.1 p.2 - G p.1 p.2) = 3)) = some (0, 2) := by
        rw [hp]
        rw [List.find?_cons_of_neg (by simp only [p1, q1]; decide), List.find?_cons_of_pos (by simp only [p2, q2]; decide)]
      rw [this]
      rfl
    rw [ho, hf] at h
    exact h
  · have h := trees_apart_ok 3 (by omega) (by omega) A E tA tE S
    obtain ⟨H, tH, eH, cH⟩ := tA.h
    obtain ⟨G, tG, eG, cG⟩ := tE.h
    obtain ⟨p1, p2, p3⟩ := three_a tA a2 a3 a4
    obtain ⟨q1, q2, q3⟩ := three_c tE c2 c3 c4
    rw [← cH 0 1 (by omega) (by omega)] at p1
    rw [← cH 0 2 (by omega) (by omega)] at p2
    rw [← cH 1 2 (by omega) (by omega)] at p3
    rw [← cG 0 1 (by omega) (by omega)] at q1
    rw [← cG 0 2 (by omega) (by omega)] at q2
    rw [← cG 1 2 (by omega) (by omega)] at q3
    have hp : prN 3 = [(0, 1), (0, 2), (1, 2)] := by decide
    have ho : off 3 H G = 0 := by
      rw [← off_pairs (by omega) tH.d tG.d, hp]
      simp only [List.map_cons, List.map_nil, p1, p2, p3, q1, q2, q3]
      decide
    have e : off 3 (hts 3 A) (hts 3 E) = off 3 H G := off_congr (fun a b ha hb => (cH a b ha hb).symm) (fun a b ha hb => (cG a b ha hb).symm)
    rw [e, ho] at h
    exact h
theorem plain (ns : List Int) (h : ns.length ≤ 63) : m_law [.d (.scr (ns.map D.int))] [] = some (.val (.d (.bl true)), []) := by
  obtain ⟨ms, e0⟩ := draws_ok ns h
  obtain ⟨v1, n1, k1, a1, a2⟩ := take_ok ms [] 7 (by omega)
  obtain ⟨v2, n2, k2, b1, b2⟩ := take_ok n1 [] 4 (by omega)
  obtain ⟨v3, n3, k3, c1, c2⟩ := take_ok n2 [] 4 (by omega)
  have hsz : ∀ x ∈ [2 + v1, 1 + v2, 3 + v3], 1 ≤ x ∧ x ≤ 100 := fun x hx => by
    simp at hx
    omega
  generalize hL : [2 + v1, 1 + v2, 3 + v3] = L at hsz
  obtain ⟨o, l1, ns', x2, x3, rfl⟩ := floop_inv (ws := iws L) (g := gnm 2) (b := bseq (bset 3 (mcall m_table (acons (mv 1) (acons (mv 2) anil))))
  (bseq (bcond (tnot (tst (mcall m_right (acons (mv 1) (acons (mv 3) (acons (mcall m_table (acons (mv 1) (acons (mv 2) anil))) anil)))))) (bret (mk (.bl false))) bnil)
  (bcond (tnot (tst (mcall m_right (acons (mv 1) (acons (mv 3) (acons (mcall m_changed (acons (mv 1) (acons (mv 3) anil))) anil)))))) (bret (mk (.bl false))) bnil)))
    (fun i ρ S' => ∃ ns' x2 x3, S' = [C ns'] ∧ ρ = [some (.d (.scr (ns.map D.int))), some (.ref 0), x2, x3, none])
    (fun o => ∃ ns' x2 x3, o = .nx [some (.d (.scr (ns.map D.int))), some (.ref 0), x2, x3, none] [C ns'])
    (fun i w ρ S' hw ⟨nsa, x2, x3, q1, q2⟩ => by
      subst q1 q2
      generalize D.scr (ns.map D.int) = script
      rw [List.getElem?_map] at hw
      obtain ⟨x, hx, rfl⟩ := Option.map_eq_some_iff.mp hw
      have hb := hsz x (List.mem_of_getElem? hx)
      obtain ⟨n, rfl⟩ := Int.eq_ofNat_of_zero_le (show 0 ≤ x by omega)
      have hn0 : 0 < n := by omega
      have hn : n ≤ 100 := by omega
      obtain ⟨M, m1, e1, d1, g1⟩ := table_ok n hn nsa []
      obtain ⟨N, m2, e2, d2, g2⟩ := table_ok n hn m1 []
      obtain ⟨m3, e3⟩ := right_ok n hn0 hn M N ⟨d1, g1⟩ ⟨d2, g2⟩ m2 []
      obtain ⟨M', m4, e4, t4⟩ := changed_ok n hn0 hn M ⟨d1, g1⟩ m3 []
      obtain ⟨m5, e5⟩ := right_ok n hn0 hn M M' ⟨d1, g1⟩ t4 m4 []
      exact ⟨_, .nx [some (.d script), some (.ref 0), some (.d (.int (n : Int))), some (.d (tab n M)), none] [C m5], rfl, by simp [e1, e2, e3, e4, e5], m5, _, _, rfl, rfl⟩)
    (fun ρ S' ⟨nsa, x2, x3, q1, q2⟩ => ⟨nsa, x2, x3, by rw [q1, q2]⟩)
    L.length 0 [some (.d (.scr (ns.map D.int))), some (.ref 0), none, none, none] [C n3] (by simp) ⟨n3, none, none, rfl, rfl⟩
  obtain ⟨A, B, E, s1, s2, s3, s4, s5⟩ := spots [C ns']
  have s6 : m_same [.d (.tup [.int 0, .int 2]), .d (.tup [.int 0, .int 2])] [C ns'] = some (.val (.d (.bl true)), [C ns']) := same_ok (pD_okD (0, 2))
  have s7 : m_same [.d (.int 0), .d (.int 0)] [C ns'] = some (.val (.d (.bl true)), [C ns']) := same_ok (x := .int 0) trivial
  have hend : endDef [] (.ret (.d (.bl true)) [C ns']) = some (.val (.d (.bl true)), []) := rfl
  have hLl : L.length = 3 := by rw [← hL]; rfl
  have hLw : iws L = [W.d (.int (2 + v1)), W.d (.int (1 + v2)), W.d (.int (3 + v3))] := by rw [← hL]; rfl
  rw [hLl, hLw] at l1
  simp [m_law, b_law, e0, k1, k2, k3, l1, s1, s2, s3, s4, s5, s6, s7, hend]
end Kx

open PySem PySem.W PyProof.Rows
set_option maxHeartbeats 0 in
theorem PySem.Challenge.cw_groupsnear_k73_trees_apart_holds : PySem.Challenge.rw_groupsnear_k73_trees_apart.Holds := by
  w_on; o_law; k_head; (case hw => w_witness2)
  k_fill
  refine L2.walk_of (l := PySem.Challenge.rw_groupsnear_k73_trees_apart) (n := 63) (k := 11) (x := "script") (CX := fun _ => L2.CX0) (sp := fun w => GM.spM _ Kx.m_law) rfl (by decide) rfl ⟨rfl, by decide, by decide⟩ (fun w h Y => PySem.W.kIn_of Y) ?F (fun _ H a ns hl hO hS => GM.law_end (Kx.plain ns hl) hO hS) (fun _ _ _ _ _ h => h)
  case F =>
    intro w mg fa h KX G hmg
    refine' Kx.all_mk KX G hmg ?a0 ?l0 ?c0 ?k0 ?a1 ?l1 ?c1 ?k1 ?a2 ?l2 ?c2 ?k2 ?a3 ?l3 ?c3 ?k3 ?a4 ?l4 ?c4 ?k4 ?a5 ?l5 ?c5 ?k5 ?a6 ?l6 ?c6 ?k6 ?a7 ?l7 ?c7 ?k7 ?a8 ?l8 ?c8 ?k8 ?a9 ?l9 ?c9 ?k9 ?a10 ?l10 ?c10 ?k10 ?a11 ?l11 ?c11 ?k11 ?a12 ?l12 ?c12 ?k12 ?a13 ?l13 ?c13 ?k13 ?a14 ?l14 ?c14 ?k14 ?a15 ?l15 ?c15 ?k15 ?a16 ?l16 ?c16 ?k16 ?a17 ?l17 ?c17 ?k17 ?a18 ?l18 ?c18 ?k18 ?a19 ?l19 ?c19 ?k19 ?a20 ?l20 ?c20 ?k20 ?a21 ?l21 ?c21 ?k21 ?a22 ?l22 ?c22 ?k22 ?a23 ?l23 ?c23 ?k23 ?a24 ?l24 ?c24 ?k24 ?a25 ?l25 ?c25 ?k25 ?a26 ?l26 ?c26 ?k26 ?a27 ?l27 ?c27 ?k27 ?a28 ?l28 ?c28 ?k28 ?a29 ?l29 ?c29 ?k29 ?a30 ?l30 ?c30 ?k30 ?z0 ?z1 ?z2 ?z3 ?z4 ?z5 ?z6 ?z7 ?z8 ?z9 ?z10 ?z11 ?z12 ?z13 ?z14 ?z15 ?z16 ?z17 ?z18
    (case a0 => k_is); (case l0 => k_is); (case c0 => k_is); (case k0 => k_is); (case a1 => k_is); (case l1 => k_is); (case c1 => k_is); (case k1 => k_is); (case a2 => k_is); (case l2 => k_is); (case c2 => k_is); (case k2 => k_is); (case a3 => k_is); (case l3 => k_is); (case c3 => k_is); (case k3 => k_is); (case a4 => k_is); (case l4 => k_is); (case c4 => k_is); (case k4 => k_is); (case a5 => k_is); (case l5 => k_is); (case c5 => k_is); (case k5 => k_is); (case a6 => k_is); (case l6 => k_is); (case c6 => k_is); (case k6 => k_is); (case a7 => k_is); (case l7 => k_is); (case c7 => k_is); (case k7 => k_is); (case a8 => k_is); (case l8 => k_is); (case c8 => k_is); (case k8 => k_is); (case a9 => k_is); (case l9 => k_is); (case c9 => k_is); (case k9 => k_is); (case a10 => k_is); (case l10 => k_is); (case c10 => k_is); (case k10 => k_is); (case a11 => k_is); (case l11 => k_is); (case c11 => k_is); (case k11 => k_is); (case a12 => k_is); (case l12 => k_is); (case c12 => k_is); (case k12 => k_is); (case a13 => k_is); (case l13 => k_is); (case c13 => k_is); (case k13 => k_is); (case a14 => k_is); (case l14 => k_is); (case c14 => k_is); (case k14 => k_is); (case a15 => k_is); (case l15 => k_is); (case c15 => k_is); (case k15 => k_is); (case a16 => k_is); (case l16 => k_is); (case c16 => k_is); (case k16 => k_is); (case a17 => k_is); (case l17 => k_is); (case c17 => k_is); (case k17 => k_is); (case a18 => k_is); (case l18 => k_is); (case c18 => k_is); (case k18 => k_is); (case a19 => k_is); (case l19 => k_is); (case c19 => k_is); (case k19 => k_is); (case a20 => k_is); (case l20 => k_is); (case c20 => k_is); (case k20 => k_is); (case a21 => k_is); (case l21 => k_is); (case c21 => k_is); (case k21 => k_is); (case a22 => k_is); (case l22 => k_is); (case c22 => k_is); (case k22 => k_is); (case a23 => k_is); (case l23 => k_is); (case c23 => k_is); (case k23 => k_is); (case a24 => k_is); (case l24 => k_is); (case c24 => k_is); (case k24 => k_is); (case a25 => k_is); (case l25 => k_is); (case c25 => k_is); (case k25 => k_is); (case a26 => k_is); (case l26 => k_is); (case c26 => k_is); (case k26 => k_is); (case a27 => k_is); (case l27 => k_is); (case c27 => k_is); (case k27 => k_is); (case a28 => k_is); (case l28 => k_is); (case c28 => k_is); (case k28 => k_is); (case a29 => k_is); (case l29 => k_is); (case c29 => k_is); (case k29 => k_is); (case a30 => k_is); (case l30 => k_is); (case c30 => k_is); (case k30 => k_is); (case z0 => k_is); (case z1 => k_is); (case z2 => k_is); (case z3 => k_is); (case z4 => k_is); (case z5 => k_is); (case z6 => k_is); (case z7 => k_is); (case z8 => k_is); (case z9 => k_is); (case z10 => k_is); (case z11 => k_is); (case z12 => k_is); (case z13 => k_is); (case z14 => k_is); (case z15 => k_is); (case z16 => k_is); (case z17 => k_is); (case z18 => k_is)
