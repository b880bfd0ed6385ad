import PyProof.Rows.All
import HandS.ForMost
import HandS.Deep
import HandS.Conv
import HandS.Rev
import HandS.RevRange
import HandS.Zip
import HandS.SortInts
import HandS.SortRule
import HandS.TupLe
import HandS.TupAny
import HandS.TupMul
import HandS.Wide
import HandS.WideBits
import HandS.Gcd
import HandS.IsInst
import HandS.Style
import HandS.Flow
import HandS.Strs
import KE.GoesMore
import KE.GoesEnum
import HandS.SortKw
import KE.DataMinMax
import HandS.SetKeys
import HandS.Iter
import HandS.SetFor
import KE.SortData
import PyProof.Rows.RowBridgeK
import KE.KTupSum
import HandS.SetBool
import PySem.Challenge.RW_groupsnear_k43_weights_and_least_cuts
set_option Elab.async false
set_option linter.all false
set_option maxRecDepth 100000
set_option maxHeartbeats 4000000
set_option autoImplicit false
/-! The M-layer: pure mirrors of defs over data and a store of mutable cells, and their judgements over HandS. -/
namespace GM
open PySem L2

/-- data: no identity, never changed -/
inductive D where
  | non | bl (b : Bool) | int (i : Int) | str (x : Str) | tup (ds : List D) | lst (ds : List D) | scr (ds : List D)
/-- what a slot, an argument, a cell's item holds: data, the cell k of the store, or a value of its own -/
inductive W where
  | d (x : D) | ref (k : Nat) | op (v : V)
/-- a cell of the store: a list, a dict; dead: it is not changed any more -/
inductive Cell where
  | lst (ws : List W) | dct (kvs : List (D × W)) | dead
abbrev Sto := List Cell
abbrev Rho := List (Option W)

/-! ### how data lies in the heap; N: the addresses that may still change -/
section
variable (K : PySem.W.Frag) (N : Addr → Prop) (H : Hp)
def Kl (a : Addr) (xs : List V) : Prop := ∃ (o : Obj) (its : Array Value) (n : Nat), K.lookup a = some o ∧ o.cls = .type "list" ∧ o.dict = none ∧ o.data = .seq its n ∧ its.size ≤ sizeLine ∧ Vals xs its.toList
def LstAt (a : Addr) (xs : List V) : Prop := H a = some (.lst xs) ∧ ¬ N a
/-- a list that is locked throughout: the script -/
def FrzAt (a : Addr) (xs : List V) : Prop := (∃ o, H a = some (.frz o (.lst xs))) ∨ Kl K a xs
mutual
def RepD : D → V → Prop
  | .non, v => v = .non
  | .bl b, v => v = .bl b
  | .int i, v => v = .int i
  | .str x, v => v = .str x
  | .tup ds, v => ∃ a vs, v = .ref a ∧ SqT K H a vs ∧ RepDs ds vs
  | .lst ds, v => ∃ a vs, v = .ref a ∧ LstAt N H a vs ∧ RepDs ds vs
  | .scr ds, v => ∃ a vs, v = .ref a ∧ FrzAt K H a vs ∧ RepDs ds vs
def RepDs : List D → List V → Prop
  | [], vs => vs = []
  | d :: ds, vs => ∃ v r, vs = v :: r ∧ RepD d v ∧ RepDs ds r
end
end
section
variable {K : PySem.W.Frag} {N N' : Addr → Prop} {H H' : Hp}
theorem repDs_iff : ∀ {ds : List D} {vs : List V}, RepDs K N H ds vs ↔ Paired (RepD K N H) ds vs
  | [], vs => by
    constructor
    · intro h; rw [RepDs] at h; subst h; exact .nil
    · intro h; cases h; rw [RepDs]
  | d :: ds, vs => by
    constructor
    · intro h
      rw [RepDs] at h
      obtain ⟨v, r, rfl, h1, h2⟩ := h
      exact .cons h1 (repDs_iff.mp h2)
    · intro h
      cases h with
      | cons h1 h2 => rw [RepDs]; exact ⟨_, _, rfl, h1, repDs_iff.mpr h2⟩
theorem LstAt.sq {a : Addr} {xs : List V} (h : LstAt N H a xs) : SqL K H a xs := .inl (.inl h.1)
theorem FrzAt.sq {a : Addr} {xs : List V} (h : FrzAt K H a xs) : SqL K H a xs := by
  rcases h with h | h
  · exact .inl (.inr h)
  · exact .inr h
/-- the heap has gone on: all but M stands as it was; N is what data does not lean on, before, N' behind -/
structure Go (M N N' : Addr → Prop) (H H' : Hp) : Prop where
  ext : ∀ a o, H a = some o → ¬ M a → H' a = some o
  new : ∀ a, N' a → N a ∨ H a = none
  mu : ∀ a, M a → Mut (H a)
  sub : ∀ a, M a → N a
section
variable {M : Addr → Prop}
theorem Go.tup (g : Go M N N' H H') {a : Addr} {xs : List V} (h : SqT K H a xs) : SqT K H' a xs := by
  rcases h with (h | ⟨o, h⟩) | h
  · refine .inl (.inl (g.ext _ _ h fun n => ?_))
    have := g.mu a n
    rw [h] at this; exact this
  · refine .inl (.inr ⟨o, g.ext _ _ h fun n => ?_⟩)
    have := g.mu a n
    rw [h] at this; exact this
  · exact .inr h
theorem Go.lst (g : Go M N N' H H') {a : Addr} {xs : List V} (h : LstAt N H a xs) : LstAt N' H' a xs := by
  obtain ⟨h, n⟩ := h
  have nm : ¬ M a := fun z => n (g.sub a z)
  exact ⟨g.ext _ _ h nm, fun z => by rcases g.new a z with z | z; exact n z; rw [h] at z; cases z⟩
theorem Go.frz (g : Go M N N' H H') {a : Addr} {xs : List V} (h : FrzAt K H a xs) : FrzAt K H' a xs := by
  rcases h with ⟨o, h⟩ | h
  · refine .inl ⟨o, g.ext _ _ h fun n => ?_⟩
    have := g.mu a n
    rw [h] at this; exact this
  · exact .inr h
mutual
theorem RepD.mono (g : Go M N N' H H') : ∀ {d : D} {v : V}, RepD K N H d v → RepD K N' H' d v
  | .non, v, h => by rw [RepD] at h ⊢; exact h
  | .bl b, v, h => by rw [RepD] at h ⊢; exact h
  | .int i, v, h => by rw [RepD] at h ⊢; exact h
  | .str x, v, h => by rw [RepD] at h ⊢; exact h
  | .tup ds, v, h => by
    rw [RepD] at h ⊢
    obtain ⟨a, vs, e, h1, h2⟩ := h
    exact ⟨a, vs, e, g.tup h1, RepDs.mono g h2⟩
  | .lst ds, v, h => by
    rw [RepD] at h ⊢
    obtain ⟨a, vs, e, h1, h2⟩ := h
    exact ⟨a, vs, e, g.lst h1, RepDs.mono g h2⟩
  | .scr ds, v, h => by
    rw [RepD] at h ⊢
    obtain ⟨a, vs, e, h1, h2⟩ := h
    exact ⟨a, vs, e, g.frz h1, RepDs.mono g h2⟩
theorem RepDs.mono (g : Go M N N' H H') : ∀ {ds : List D} {vs : List V}, RepDs K N H ds vs → RepDs K N' H' ds vs
  | [], vs, h => by rw [RepDs] at h ⊢; exact h
  | d :: ds, vs, h => by
    rw [RepDs] at h ⊢
    obtain ⟨v, r, e, h1, h2⟩ := h
    exact ⟨v, r, e, RepD.mono g h1, RepDs.mono g h2⟩
end
end
end

/-! ### the store -/
/-- the addresses of the store's cells -/
def NA (μ : List Addr) (S : Sto) (a : Addr) : Prop := ∃ (k : Nat) (c : Cell), μ[k]? = some a ∧ S[k]? = some c ∧ c ≠ Cell.dead
/-- .. and lists that are being made by others -/
def NF (F : Addr → Prop) (μ : List Addr) (S : Sto) (a : Addr) : Prop := NA μ S a ∨ F a
def RepW (K : PySem.W.Frag) (μ : List Addr) (N : Addr → Prop) (H : Hp) : W → V → Prop
  | .d x, v => RepD K N H x v
  | .ref k, v => ∃ a, μ[k]? = some a ∧ v = .ref a
  | .op u, v => v = u
abbrev RepWs (K : PySem.W.Frag) (μ : List Addr) (N : Addr → Prop) (H : Hp) : List W → List V → Prop := Paired (RepW K μ N H)
/-- a key of a dict: an int, a text -/
def keyD : D → Option Key
  | .int i => some (.inl i)
  | .str x => some (.inr x)
  | _ => none
def CellOk (K : PySem.W.Frag) (μ : List Addr) (N : Addr → Prop) (H : Hp) (a : Addr) : Cell → Prop
  | .dead => True
  | .lst ws => ∃ vs, H a = some (.lst vs) ∧ RepWs K μ N H ws vs
  | .dct kvs => ∃ es : List (Key × V), H a = some (.dK es) ∧ Paired (fun (p : D × W) (q : Key × V) => keyD p.1 = some q.1 ∧ RepW K μ N H p.2 q.2) kvs es
structure RS (K : PySem.W.Frag) (F : Addr → Prop) (μ : List Addr) (S : Sto) (H : Hp) : Prop where
  len : μ.length = S.length
  inj : ∀ (j k : Nat) (a : Addr) (c c' : Cell), μ[j]? = some a → μ[k]? = some a → S[j]? = some c → S[k]? = some c' → c ≠ Cell.dead → c' ≠ Cell.dead → j = k
  at_ : ∀ (k : Nat) (a : Addr) (c : Cell), μ[k]? = some a → S[k]? = some c → CellOk K μ (NF F μ S) H a c
  fm : ∀ a, F a → Mut (H a)
  fd : ∀ a, F a → ¬ NA μ S a
structure RSt (K : PySem.W.Frag) (μ : List Addr) (N : Addr → Prop) (H : Hp) (σ : L2.St) (ρ : Rho) : Prop where
  len : σ.length = ρ.length
  at_ : ∀ (i : Nat) (w : W), ρ[i]? = some (some w) → ∃ v, σ[i]? = some (some v) ∧ RepW K μ N H w v
/-- the state has gone on -/
structure Gs (K : PySem.W.Frag) (F : Addr → Prop) (μ : List Addr) (S : Sto) (H : Hp) (μ' : List Addr) (S' : Sto) (H' : Hp) : Prop where
  pre : ∃ ν, μ' = μ ++ ν
  go : Go (NA μ S) (NF F μ S) (NF F μ' S') H H'
  na : ∀ a, NA μ' S' a → NA μ S a ∨ H a = none
  rs : RS K F μ' S' H'
section
variable {K : PySem.W.Frag} {F : Addr → Prop} {μ μ' μ2 : List Addr} {M N N' : Addr → Prop} {S S' S2 : Sto} {H H' H2 : Hp} {σ : L2.St} {ρ : Rho}
theorem RS.mut (r : RS K F μ S H) : ∀ a, NA μ S a → Mut (H a) := fun a ⟨k, c, h1, h2, h3⟩ => by
  have q := r.at_ k a c h1 h2
  cases c with
  | dead => exact absurd rfl h3
  | lst ws => obtain ⟨vs, e, _⟩ := q; rw [e]; trivial
  | dct kvs => obtain ⟨es, e, _⟩ := q; rw [e]; trivial
theorem mut_there {a : Addr} (h : Mut (H a)) : H a ≠ none := fun e => by rw [e] at h; exact h
theorem RS.there (r : RS K F μ S H) {a : Addr} (h : NF F μ S a) : H a ≠ none := by
  rcases h with h | h
  · exact mut_there (r.mut a h)
  · exact mut_there (r.fm a h)
theorem RepW.mono (g : Go M N N' H H') (p : ∃ ν, μ' = μ ++ ν) : ∀ {w : W} {v : V}, RepW K μ N H w v → RepW K μ' N' H' w v
  | .d x, v, h => RepD.mono g h
  | .ref k, v, h => by
    obtain ⟨a, h1, h2⟩ := h
    obtain ⟨ν, rfl⟩ := p
    refine ⟨a, ?_, h2⟩
    rw [List.getElem?_append_left (by rw [List.getElem?_eq_some_iff] at h1; exact h1.1)]; exact h1
  | .op u, v, h => h
theorem pairedMono {α β : Type} {F G : α → β → Prop} (f : ∀ a b, F a b → G a b) : ∀ {l : List α} {m : List β}, Paired F l m → Paired G l m
  | _, _, .nil => .nil
  | _, _, .cons r t => .cons (f _ _ r) (pairedMono f t)
theorem RepWs.mono (g : Go M N N' H H') (p : ∃ ν, μ' = μ ++ ν) {ws : List W} {vs : List V} (h : RepWs K μ N H ws vs) : RepWs K μ' N' H' ws vs :=
  pairedMono (fun _ _ q => RepW.mono g p q) h
theorem CellOk.mono (g : Go M N N' H H') (p : ∃ ν, μ' = μ ++ ν) {a : Addr} : ∀ {c : Cell}, CellOk K μ N H a c → (∀ o, H a = some o → H' a = some o) → CellOk K μ' N' H' a c
  | .dead, _, _ => trivial
  | .lst ws, h, e => by obtain ⟨vs, h1, h2⟩ := h; exact ⟨vs, e _ h1, RepWs.mono g p h2⟩
  | .dct kvs, h, e => by obtain ⟨es, h1, h2⟩ := h; exact ⟨es, e _ h1, pairedMono (fun _ _ ⟨q1, q2⟩ => ⟨q1, RepW.mono g p q2⟩) h2⟩
theorem RSt.mono (g : Go M N N' H H') (p : ∃ ν, μ' = μ ++ ν) (h : RSt K μ N H σ ρ) : RSt K μ' N' H' σ ρ :=
  ⟨h.len, fun i w e => by obtain ⟨v, e1, r⟩ := h.at_ i w e; exact ⟨v, e1, r.mono g p⟩⟩
theorem Gs.refl (r : RS K F μ S H) : Gs K F μ S H μ S H := ⟨⟨[], by simp⟩, ⟨fun _ _ h _ => h, fun _ h => .inl h, r.mut, fun _ h => .inl h⟩, fun _ h => .inl h, r⟩
theorem Gs.trans (a : Gs K F μ S H μ' S' H') (b : Gs K F μ' S' H' μ2 S2 H2) : Gs K F μ S H μ2 S2 H2 := by
  obtain ⟨⟨ν, rfl⟩, ga, na, ra⟩ := a
  obtain ⟨⟨ν', rfl⟩, gb, nb, rb⟩ := b
  have hn : ∀ c, H c = none ∨ (∃ o, H c = some o ∧ ¬ NA μ S c ∧ H' c = some o) ∨ NA μ S c := fun c => by
    cases q : H c with
    | none => exact .inl rfl
    | some o =>
      by_cases z : NA μ S c
      · exact .inr (.inr z)
      · exact .inr (.inl ⟨o, rfl, z, ga.ext c o q z⟩)
  have hna : ∀ c, NA (μ ++ ν ++ ν') S2 c → NA μ S c ∨ H c = none := fun c n => by
    rcases nb c n with n | n
    · exact na c n
    · rcases hn c with z | ⟨o, _, _, z⟩ | z
      · exact .inr z
      · rw [z] at n; cases n
      · exact .inl z
  refine ⟨⟨ν ++ ν', by rw [List.append_assoc]⟩, ⟨fun a o e n => ?_, fun a n => ?_, ga.mu, ga.sub⟩, hna, rb⟩
  · refine gb.ext a o (ga.ext a o e n) fun n' => ?_
    rcases na a n' with z | z
    · exact n z
    · rw [e] at z; cases z
  · rcases n with n | n
    · rcases hna a n with n | n
      · exact .inl (.inl n)
      · exact .inr n
    · exact .inl (.inr n)
/-- new objects that nothing tracks as changing: the store as it is -/
def Fr (H H' : Hp) : Prop := ∀ a o, H a = some o → H' a = some o
theorem Fr.refl : Fr H H := fun _ _ h => h
theorem Fr.trans (a : Fr H H') (b : Fr H' H2) : Fr H H2 := fun c o h => b c o (a c o h)
theorem Fr.upd {p : Addr} {o : HO} (h : H p = none) : Fr H (upd H p o) := fun b u e => by rw [upd_ne (ne_of_none e h)]; exact e
theorem Fr.mut (f : Fr H H') {a : Addr} (h : Mut (H a)) : Mut (H' a) := by
  cases q : H a with
  | none => rw [q] at h; exact h.elim
  | some o => rw [f a o q, ← q]; exact h
theorem Fr.gs (r : RS K F μ S H) (f : Fr H H') : Gs K F μ S H μ S H' := by
  have g : Go (NA μ S) (NF F μ S) (NF F μ S) H H' := ⟨fun a o e _ => f a o e, fun a h => .inl h, r.mut, fun _ h => .inl h⟩
  exact ⟨⟨[], by simp⟩, g, fun _ h => .inl h, r.len, r.inj, fun k a c h1 h2 => (r.at_ k a c h1 h2).mono g ⟨[], by simp⟩ fun o e => f a o e, fun a h => f.mut (r.fm a h), r.fd⟩
theorem na_append {p : Addr} {c : Cell} (hl : μ.length = S.length) {a : Addr} : NA (μ ++ [p]) (S ++ [c]) a ↔ NA μ S a ∨ (a = p ∧ c ≠ Cell.dead) := by
  constructor
  · rintro ⟨k, c', h1, h2, h3⟩
    by_cases hk : k < μ.length
    · rw [List.getElem?_append_left hk] at h1
      rw [List.getElem?_append_left (by omega)] at h2
      exact .inl ⟨k, c', h1, h2, h3⟩
    · have e : k = μ.length := by
        have := (List.getElem?_eq_some_iff.mp h1).1
        rw [List.length_append, List.length_singleton] at this
        omega
      subst e
      rw [List.getElem?_append_right (Nat.le_refl _), Nat.sub_self] at h1
      rw [List.getElem?_append_right (by omega), hl, Nat.sub_self] at h2
      simp at h1 h2
      subst h1 h2
      exact .inr ⟨rfl, h3⟩
  · rintro (⟨k, c', h1, h2, h3⟩ | ⟨rfl, h3⟩)
    · have l1 := (List.getElem?_eq_some_iff.mp h1).1
      refine ⟨k, c', ?_, ?_, h3⟩
      · rw [List.getElem?_append_left l1]; exact h1
      · rw [List.getElem?_append_left (by omega)]; exact h2
    · refine ⟨μ.length, c, ?_, ?_, h3⟩
      · rw [List.getElem?_append_right (Nat.le_refl _), Nat.sub_self]; rfl
      · rw [List.getElem?_append_right (by omega), hl, Nat.sub_self]; rfl
/-- a new cell -/
theorem Gs.cell {p : Addr} {o : HO} {c : Cell} (r : RS K F μ S H) (hp : H p = none) (hc : c ≠ Cell.dead)
    (ok : ∀ {N'}, Go (NA μ S) (NF F μ S) N' H (upd H p o) → CellOk K (μ ++ [p]) N' (upd H p o) p c) : Gs K F μ S H (μ ++ [p]) (S ++ [c]) (upd H p o) := by
  have hna : ∀ a, NA (μ ++ [p]) (S ++ [c]) a → NA μ S a ∨ H a = none := fun a h => by
    rcases (na_append r.len).mp h with h | ⟨rfl, _⟩
    · exact .inl h
    · exact .inr hp
  have g : Go (NA μ S) (NF F μ S) (NF F (μ ++ [p]) (S ++ [c])) H (upd H p o) := ⟨fun a u e _ => Fr.upd hp a u e, fun a h => by
    rcases h with h | h
    · rcases hna a h with h | h
      · exact .inl (.inl h)
      · exact .inr h
    · exact .inl (.inr h), r.mut, fun _ h => .inl h⟩
  have np : ∀ (k : Nat) c', μ[k]? = some p → S[k]? = some c' → c' = .dead := fun k c' h1 h2 => by
    cases c' with
    | dead => rfl
    | lst ws => exact absurd hp (r.there (.inl ⟨k, _, h1, h2, fun z => nomatch z⟩))
    | dct ws => exact absurd hp (r.there (.inl ⟨k, _, h1, h2, fun z => nomatch z⟩))
  have sp : ∀ (k : Nat) (a : Addr) (c' : Cell), (μ ++ [p])[k]? = some a → (S ++ [c])[k]? = some c' → (μ[k]? = some a ∧ S[k]? = some c') ∨ (k = μ.length ∧ a = p ∧ c' = c) := fun k a c' h1 h2 => by
    by_cases hk : k < μ.length
    · rw [List.getElem?_append_left hk] at h1
      rw [List.getElem?_append_left (by have := r.len; omega)] at h2
      exact .inl ⟨h1, h2⟩
    · have e : k = μ.length := by
        have := (List.getElem?_eq_some_iff.mp h1).1
        rw [List.length_append, List.length_singleton] at this
        omega
      subst e
      rw [List.getElem?_append_right (Nat.le_refl _), Nat.sub_self] at h1
      rw [List.getElem?_append_right (by have := r.len; omega), r.len, Nat.sub_self] at h2
      simp at h1 h2
      exact .inr ⟨rfl, h1.symm, h2.symm⟩
  refine ⟨⟨[p], rfl⟩, g, hna, by rw [List.length_append, List.length_append, r.len]; rfl, fun j k a c1 c2 h1 h2 h3 h4 n1 n2 => ?_, fun k a c' h1 h2 => ?_, fun a h => (Fr.upd hp).mut (r.fm a h), fun a h z => ?_⟩
  · rcases sp j a c1 h1 h3 with ⟨a1, a2⟩ | ⟨a1, a2, a3⟩ <;> rcases sp k a c2 h2 h4 with ⟨b1, b2⟩ | ⟨b1, b2, b3⟩
    · exact r.inj j k a c1 c2 a1 b1 a2 b2 n1 n2
    · subst b2; exact absurd (np j c1 a1 a2) n1
    · subst a2; exact absurd (np k c2 b1 b2) n2
    · rw [a1, b1]
  · rcases sp k a c' h1 h2 with ⟨a1, a2⟩ | ⟨_, rfl, rfl⟩
    · exact (r.at_ k a c' a1 a2).mono g ⟨[p], rfl⟩ fun o e => Fr.upd hp a o e
    · exact ok g
  · rcases hna a z with z | z
    · exact r.fd a h z
    · exact mut_there (r.fm a h) z
theorem na_set {k : Nat} {c c' : Cell} (h : S[k]? = some c) (n : c ≠ Cell.dead) (n' : c' ≠ Cell.dead) {a : Addr} : NA μ (S.set k c') a ↔ NA μ S a := by
  have hk := (List.getElem?_eq_some_iff.mp h).1
  constructor
  · rintro ⟨j, x, h1, h2, h3⟩
    by_cases e : k = j
    · subst e; exact ⟨k, c, h1, h, n⟩
    · rw [List.getElem?_set_ne e] at h2; exact ⟨j, x, h1, h2, h3⟩
  · rintro ⟨j, x, h1, h2, h3⟩
    by_cases e : k = j
    · subst e; exact ⟨k, c', h1, List.getElem?_set_self hk, n'⟩
    · exact ⟨j, x, h1, by rw [List.getElem?_set_ne e]; exact h2, h3⟩
/-- a cell is written -/
theorem Gs.write {k : Nat} {a : Addr} {c c' : Cell} {o : HO} (r : RS K F μ S H) (hk : μ[k]? = some a) (hc : S[k]? = some c) (n : c ≠ Cell.dead) (n' : c' ≠ Cell.dead)
    (ok : ∀ {N'}, Go (NA μ S) (NF F μ S) N' H (upd H a o) → CellOk K μ N' (upd H a o) a c') : Gs K F μ S H μ (S.set k c') (upd H a o) := by
  have hN : NA μ S a := ⟨k, c, hk, hc, n⟩
  have hna : ∀ b, NA μ (S.set k c') b → NA μ S b ∨ H b = none := fun b h => .inl ((na_set hc n n').mp h)
  have g : Go (NA μ S) (NF F μ S) (NF F μ (S.set k c')) H (upd H a o) := ⟨fun b u e nb => by rw [upd_ne (fun z => nb (by rw [z]; exact hN))]; exact e, fun b h => by
    rcases h with h | h
    · exact .inl (.inl ((na_set hc n n').mp h))
    · exact .inl (.inr h), r.mut, fun _ h => .inl h⟩
  have hl := (List.getElem?_eq_some_iff.mp hc).1
  have live : ∀ (j : Nat) (b : Addr) (x : Cell), μ[j]? = some b → (S.set k c')[j]? = some x → x ≠ .dead → ∃ y, S[j]? = some y ∧ y ≠ .dead := fun j b x h1 h2 h3 => by
    by_cases e : k = j
    · subst e; exact ⟨c, hc, n⟩
    · rw [List.getElem?_set_ne e] at h2; exact ⟨x, h2, h3⟩
  have fne : ∀ b, F b → b ≠ a := fun b h z => r.fd b h (by rw [z]; exact hN)
  refine ⟨⟨[], by simp⟩, g, hna, by rw [List.length_set]; exact r.len, fun i j b x y h1 h2 h3 h4 n1 n2 => ?_, fun j b x h1 h2 => ?_, fun b h => by rw [upd_ne (fne b h)]; exact r.fm b h, fun b h z => r.fd b h ((na_set hc n n').mp z)⟩
  · obtain ⟨x', h3', n1'⟩ := live i b x h1 h3 n1
    obtain ⟨y', h4', n2'⟩ := live j b y h2 h4 n2
    exact r.inj i j b x' y' h1 h2 h3' h4' n1' n2'
  · by_cases e : k = j
    · subst e
      rw [List.getElem?_set_self hl] at h2
      rw [hk] at h1
      cases h1; cases h2
      exact ok g
    · rw [List.getElem?_set_ne e] at h2
      cases x with
      | dead => trivial
      | lst ws =>
        refine (r.at_ j b _ h1 h2).mono g ⟨[], by simp⟩ fun u q => ?_
        rw [upd_ne fun z => ?_]; exact q
        subst z
        exact e (r.inj k j b c _ hk h1 hc h2 n (fun z => nomatch z))
      | dct ws =>
        refine (r.at_ j b _ h1 h2).mono g ⟨[], by simp⟩ fun u q => ?_
        rw [upd_ne fun z => ?_]; exact q
        subst z
        exact e (r.inj k j b c _ hk h1 hc h2 n (fun z => nomatch z))
/-! ### a list in the making at p -/
abbrev Fp (F : Addr → Prop) (p : Addr) : Addr → Prop := fun a => F a ∨ a = p
def less (H : Hp) (p : Addr) : Hp := fun b => if b = p then none else H b
theorem less_self {p : Addr} : less H p p = none := if_pos rfl
theorem less_ne {p b : Addr} (h : b ≠ p) : less H p b = H b := if_neg h
theorem upd_less {p : Addr} {o : HO} (h : H p = some o) : upd (less H p) p o = H := by
  funext b
  by_cases e : b = p
  · subst e; rw [upd_same, h]
  · rw [upd_ne e, less_ne e]
/-- it begins -/
theorem RS.open_ {p : Addr} {xs : List V} (r : RS K F μ S H) (hp : H p = none) : RS K (Fp F p) μ S (upd H p (.lst xs)) ∧ Go (NA μ S) (NF F μ S) (NF (Fp F p) μ S) H (upd H p (.lst xs)) := by
  have g : Go (NA μ S) (NF F μ S) (NF (Fp F p) μ S) H (upd H p (.lst xs)) := ⟨fun a o e _ => Fr.upd hp a o e, fun a h => by
    rcases h with h | h | h
    · exact .inl (.inl h)
    · exact .inl (.inr h)
    · rw [h]; exact .inr hp, r.mut, fun _ h => .inl h⟩
  refine ⟨⟨r.len, r.inj, fun k a c h1 h2 => (r.at_ k a c h1 h2).mono g ⟨[], by simp⟩ fun o e => Fr.upd hp a o e, fun a h => ?_, fun a h z => ?_⟩, g⟩
  · rcases h with h | h
    · exact (Fr.upd hp).mut (r.fm a h)
    · subst h; rw [upd_same]; trivial
  · rcases h with h | h
    · exact r.fd a h z
    · subst h; exact mut_there (r.mut _ z) hp
/-- it grows -/
theorem RS.grow {p : Addr} {xs : List V} (r : RS K (Fp F p) μ S H) : RS K (Fp F p) μ S (upd H p (.lst xs)) ∧ Go (fun a => a = p) (NF (Fp F p) μ S) (NF (Fp F p) μ S) H (upd H p (.lst xs)) := by
  have g : Go (fun a => a = p) (NF (Fp F p) μ S) (NF (Fp F p) μ S) H (upd H p (.lst xs)) := ⟨fun a o e n => by rw [upd_ne n]; exact e, fun a h => .inl h, fun a h => by subst h; exact r.fm _ (.inr rfl), fun a h => .inr (.inr h)⟩
  refine ⟨⟨r.len, r.inj, fun k a c h1 h2 => ?_, fun a h => ?_, r.fd⟩, g⟩
  · cases c with
    | dead => trivial
    | lst ws => exact (r.at_ k a _ h1 h2).mono g ⟨[], by simp⟩ fun o e => by rw [upd_ne (fun z => r.fd p (.inr rfl) (by rw [← z]; exact ⟨k, _, h1, h2, fun z => nomatch z⟩))]; exact e
    | dct ws => exact (r.at_ k a _ h1 h2).mono g ⟨[], by simp⟩ fun o e => by rw [upd_ne (fun z => r.fd p (.inr rfl) (by rw [← z]; exact ⟨k, _, h1, h2, fun z => nomatch z⟩))]; exact e
  · by_cases e : a = p
    · subst e; rw [upd_same]; trivial
    · rw [upd_ne e]; exact r.fm a h
/-- it is done: the heap without it -/
theorem RS.close {p : Addr} (r : RS K (Fp F p) μ S H) (hF : ¬ F p) : RS K F μ S (less H p) ∧ Go (fun a => a = p) (NF (Fp F p) μ S) (NF F μ S) H (less H p) := by
  have g : Go (fun a => a = p) (NF (Fp F p) μ S) (NF F μ S) H (less H p) := ⟨fun a o e n => by rw [less_ne n]; exact e, fun a h => .inl (by
    rcases h with h | h
    · exact .inl h
    · exact .inr (.inl h)), fun a h => by subst h; exact r.fm _ (.inr rfl), fun a h => .inr (.inr h)⟩
  refine ⟨⟨r.len, r.inj, fun k a c h1 h2 => ?_, fun a h => ?_, fun a h => r.fd a (.inl h)⟩, g⟩
  · cases c with
    | dead => trivial
    | lst ws => exact (r.at_ k a _ h1 h2).mono g ⟨[], by simp⟩ fun o e => by rw [less_ne (fun z => r.fd p (.inr rfl) (by rw [← z]; exact ⟨k, _, h1, h2, fun z => nomatch z⟩))]; exact e
    | dct ws => exact (r.at_ k a _ h1 h2).mono g ⟨[], by simp⟩ fun o e => by rw [less_ne (fun z => r.fd p (.inr rfl) (by rw [← z]; exact ⟨k, _, h1, h2, fun z => nomatch z⟩))]; exact e
  · rw [less_ne (fun z => hF (by rw [← z]; exact h))]; exact r.fm a (.inl h)
/-- the state has gone on, lists in the making beside it -/
structure Gx (K : PySem.W.Frag) (F : Addr → Prop) (μ : List Addr) (S : Sto) (H : Hp) (F' : Addr → Prop) (μ' : List Addr) (S' : Sto) (H' : Hp) : Prop where
  pre : ∃ ν, μ' = μ ++ ν
  go : Go (NA μ S) (NF F μ S) (NF F' μ' S') H H'
  na : ∀ a, NA μ' S' a → NA μ S a ∨ H a = none
  rs : RS K F' μ' S' H'
structure Gz (K : PySem.W.Frag) (F : Addr → Prop) (μ : List Addr) (S : Sto) (H : Hp) (F' : Addr → Prop) (μ' : List Addr) (S' : Sto) (H' : Hp) : Prop where
  pre : ∃ ν, μ' = μ ++ ν
  sub : ∀ a, F a → F' a
  go : Go (NF F μ S) (NF F μ S) (NF F' μ' S') H H'
  rs : RS K F' μ' S' H'
theorem Gs.gz (r : RS K F μ S H) (g : Gs K F μ S H μ' S' H') : Gz K F μ S H F μ' S' H' :=
  ⟨g.pre, fun _ h => h, ⟨fun a o e n => g.go.ext a o e fun z => n (.inl z), g.go.new, fun a h => by
    rcases h with h | h
    · exact r.mut a h
    · exact r.fm a h, fun _ h => h⟩, g.rs⟩
theorem Gz.trans {F1 F2 : Addr → Prop} (a : Gz K F μ S H F1 μ' S' H') (b : Gz K F1 μ' S' H' F2 μ2 S2 H2) : Gz K F μ S H F2 μ2 S2 H2 := by
  obtain ⟨⟨ν, rfl⟩, sa, ga, ra⟩ := a
  obtain ⟨⟨ν', rfl⟩, sb, gb, rb⟩ := b
  refine ⟨⟨ν ++ ν', by rw [List.append_assoc]⟩, fun a h => sb a (sa a h), ⟨fun a o e n => gb.ext a o (ga.ext a o e n) fun z => ?_, fun a n => ?_, ga.mu, fun _ h => h⟩, rb⟩
  · rcases ga.new a z with z | z
    · exact n z
    · rw [e] at z; cases z
  · rcases gb.new a n with n | n
    · exact ga.new a n
    · cases q : H a with
      | none => exact .inr rfl
      | some o =>
        by_cases z : NF F μ S a
        · exact .inl z
        · have := ga.ext a o q z
          rw [this] at n; cases n
theorem Gx.step {F' : Addr → Prop} (a : Gx K F μ S H F' μ' S' H') (b : Gs K F' μ' S' H' μ2 S2 H2) : Gx K F μ S H F' μ2 S2 H2 := by
  obtain ⟨⟨ν, rfl⟩, ga, na, ra⟩ := a
  obtain ⟨⟨ν', rfl⟩, gb, nb, rb⟩ := b
  have hna : ∀ c, NA (μ ++ ν ++ ν') S2 c → NA μ S c ∨ H c = none := fun c n => by
    rcases nb c n with n | n
    · exact na c n
    · cases q : H c with
      | none => exact .inr rfl
      | some o =>
        by_cases z : NA μ S c
        · exact .inl z
        · have := ga.ext c o q z
          rw [this] at n; cases n
  refine ⟨⟨ν ++ ν', by rw [List.append_assoc]⟩, ⟨fun a o e n => gb.ext a o (ga.ext a o e n) fun z => ?_, fun a n => ?_, ga.mu, ga.sub⟩, hna, rb⟩
  · rcases na a z with z | z
    · exact n z
    · rw [e] at z; cases z
  · rcases n with n | n
    · rcases hna a n with n | n
      · exact .inl (.inl n)
      · exact .inr n
    · exact ga.new a (.inr n)
theorem Gs.gx (g : Gs K F μ S H μ' S' H') : Gx K F μ S H F μ' S' H' := ⟨g.pre, g.go, g.na, g.rs⟩
theorem Gx.gs (g : Gx K F μ S H F μ' S' H') : Gs K F μ S H μ' S' H' := ⟨g.pre, g.go, g.na, g.rs⟩
theorem Gx.opened {p : Addr} {xs : List V} (r : RS K F μ S H) (hp : H p = none) : Gx K F μ S H (Fp F p) μ S (upd H p (.lst xs)) :=
  ⟨⟨[], by simp⟩, (r.open_ hp).2, fun _ h => .inl h, (r.open_ hp).1⟩
theorem Gz.opened {p : Addr} {xs : List V} (r : RS K F μ S H) (hp : H p = none) : Gz K F μ S H (Fp F p) μ S (upd H p (.lst xs)) :=
  ⟨⟨[], by simp⟩, fun _ h => .inl h, ⟨fun a o e _ => Fr.upd hp a o e, (r.open_ (xs := xs) hp).2.new, fun a h => by
    rcases h with h | h
    · exact r.mut a h
    · exact r.fm a h, fun _ h => h⟩, (r.open_ hp).1⟩
theorem Gz.grown {p : Addr} {xs : List V} (r : RS K (Fp F p) μ S H) : Gz K (Fp F p) μ S H (Fp F p) μ S (upd H p (.lst xs)) :=
  ⟨⟨[], by simp⟩, fun _ h => h, ⟨fun a o e n => (r.grow (xs := xs)).2.ext a o e fun z => n (.inr (.inr z)), fun _ h => .inl h, fun a h => by
    rcases h with h | h
    · exact r.mut a h
    · exact r.fm a h, fun _ h => h⟩, r.grow.1⟩
theorem Gx.grown {p : Addr} {xs : List V} (g : Gx K F μ S H (Fp F p) μ' S' H') (hp : H p = none) : Gx K F μ S H (Fp F p) μ' S' (upd H' p (.lst xs)) :=
  ⟨g.pre, ⟨fun a o e n => by rw [upd_ne (ne_of_none e hp)]; exact g.go.ext a o e n, g.go.new, g.go.mu, g.go.sub⟩, g.na, g.rs.grow.1⟩
theorem Gx.closed {p : Addr} (r : RS K F μ S H) (g : Gx K F μ S H (Fp F p) μ' S' H') (hp : H p = none) : Gs K F μ S H μ' S' (less H' p) := by
  have hF : ¬ F p := fun z => mut_there (r.fm p z) hp
  refine ⟨g.pre, ⟨fun a o e n => by rw [less_ne (ne_of_none e hp)]; exact g.go.ext a o e n, fun a h => g.go.new a (by
    rcases h with h | h
    · exact .inl h
    · exact .inr (.inl h)), g.go.mu, g.go.sub⟩, g.na, (g.rs.close hF).1⟩
end
end GM

set_option Elab.async false
set_option linter.all false
set_option maxRecDepth 100000
set_option maxHeartbeats 4000000
set_option autoImplicit false
namespace GM
open PySem L2
/-! ### mirrors -/
abbrev Em := Rho → Sto → Option (W × Sto)
abbrev Am := Rho → Sto → Option (List W × Sto)
abbrev Tm := Rho → Sto → Option (Bool × Sto)
def datas : List W → Option (List D)
  | [] => some []
  | .d x :: r => (datas r).bind fun ds => some (x :: ds)
  | _ :: _ => none
def mv (i : Nat) : Em := fun ρ S => match ρ[i]? with
  | some (some w) => some (w, S)
  | _ => none
def mk (x : D) : Em := fun _ S => some (.d x, S)
def mop (v : V) : Em := fun _ S => some (.op v, S)
def anil : Am := fun _ S => some ([], S)
def acons (a : Em) (r : Am) : Am := fun ρ S => (a ρ S).bind fun p => (r ρ p.2).bind fun q => some (p.1 :: q.1, q.2)
def prim (f : Sto → List W → Option W) (a : Am) : Em := fun ρ S => (a ρ S).bind fun p => (f p.2 p.1).bind fun w => some (w, p.2)
def primF (f : Sto → List W → Option (List W)) (a : Am) : Am := fun ρ S => (a ρ S).bind fun p => (f p.2 p.1).bind fun w => some (w, p.2)
def thw (m : Am) : Em := fun ρ S => (m ρ S).bind fun p => some (.ref p.2.length, p.2 ++ [.lst p.1])
def frz (m : Am) : Em := fun ρ S => (m ρ S).bind fun p => (datas p.1).bind fun ds => some (.d (.lst ds), p.2)
def mif (c : Tm) (a b : Em) : Em := fun ρ S => (c ρ S).bind fun q => if q.1 = true then a ρ q.2 else b ρ q.2
def wbl : W → Option Bool
  | .d (.bl b) => some b
  | _ => none
def tst (m : Em) : Tm := fun ρ S => (m ρ S).bind fun p => (wbl p.1).bind fun b => some (b, p.2)
def tand (a b : Tm) : Tm := fun ρ S => (a ρ S).bind fun q => if q.1 = true then b ρ q.2 else some (false, q.2)
def tor (a b : Tm) : Tm := fun ρ S => (a ρ S).bind fun q => if q.1 = true then some (true, q.2) else b ρ q.2
def tnot (a : Tm) : Tm := fun ρ S => (a ρ S).bind fun q => some (!q.1, q.2)
def mand (a b : Em) : Em := fun ρ S => (a ρ S).bind fun p => (wbl p.1).bind fun c => if c = true then b ρ p.2 else some (.d (.bl false), p.2)
def mor (a b : Em) : Em := fun ρ S => (a ρ S).bind fun p => (wbl p.1).bind fun c => if c = true then some (.d (.bl true), p.2) else b ρ p.2
def mnot (a : Em) : Em := fun ρ S => (a ρ S).bind fun p => (wbl p.1).bind fun c => some (.d (.bl (!c)), p.2)

/-! ### readings -/
section
variable (K : PySem.W.Frag)
def LE (m : Em) : TE := fun σ H Q => ∃ (F : Addr → Prop) (μ : List Addr) (ρ : Rho) (S : Sto) (w : W) (S' : Sto), RS K F μ S H ∧ RSt K μ (NF F μ S) H σ ρ ∧ m ρ S = some (w, S') ∧
  ∀ μ' v H', Gs K F μ S H μ' S' H' → RepW K μ' (NF F μ' S') H' w v → Q v H'
/-- a new list -/
def LF (m : Am) : TE := fun σ H Q => ∃ (F : Addr → Prop) (μ : List Addr) (ρ : Rho) (S : Sto) (ws : List W) (S' : Sto), RS K F μ S H ∧ RSt K μ (NF F μ S) H σ ρ ∧ m ρ S = some (ws, S') ∧
  ∀ μ' H' p vs, Gs K F μ S H μ' S' H' → H' p = none → RepWs K μ' (NF F μ' S') H' ws vs → Q (.ref p) (upd H' p (.lst vs))
def LT (m : Tm) : TT := fun σ H Q => ∃ (F : Addr → Prop) (μ : List Addr) (ρ : Rho) (S : Sto) (b : Bool) (S' : Sto), RS K F μ S H ∧ RSt K μ (NF F μ S) H σ ρ ∧ m ρ S = some (b, S') ∧
  ∀ μ' H', Gs K F μ S H μ' S' H' → Q b H'
def LA (m : Am) : TA := fun σ H Q => ∃ (F : Addr → Prop) (μ : List Addr) (ρ : Rho) (S : Sto) (ws : List W) (S' : Sto), RS K F μ S H ∧ RSt K μ (NF F μ S) H σ ρ ∧ m ρ S = some (ws, S') ∧
  ∀ μ' vs H', Gs K F μ S H μ' S' H' → RepWs K μ' (NF F μ' S') H' ws vs → Q vs H'
end
abbrev ME (X : Cx) (e : Expr) (m : Em) : Prop := PE X e (LE X.K m)
abbrev MF (X : Cx) (e : Expr) (m : Am) : Prop := PE X e (LF X.K m)
abbrev MT (X : Cx) (e : Expr) (m : Tm) : Prop := PT X e (LT X.K m)
abbrev MW (X : Cx) (e : Expr) (m : Tm) : Prop := PW X e (LT X.K m)
abbrev MA (X : Cx) (es : List Expr) (m : Am) : Prop := PA X es (LA X.K m)
theorem PE.cons {X : Cx} {e : Expr} {t t' : TE} (h : PE X e t) (f : ∀ σ H Q, t' σ H Q → t σ H Q) : PE X e t' := ⟨fun pins s σ H Q I q => h.run pins s σ H Q I (f _ _ _ q)⟩
theorem PT.cons {X : Cx} {e : Expr} {t t' : TT} (h : PT X e t) (f : ∀ σ H Q, t' σ H Q → t σ H Q) : PT X e t' := ⟨fun pins s σ H Q I q => h.run pins s σ H Q I (f _ _ _ q)⟩
theorem PW.cons {X : Cx} {e : Expr} {t t' : TT} (h : PW X e t) (f : ∀ σ H Q, t' σ H Q → t σ H Q) : PW X e t' := ⟨fun wh pins s σ H Q I q => h.run wh pins s σ H Q I (f _ _ _ q)⟩
theorem PA.cons {X : Cx} {e : List Expr} {t t' : TA} (h : PA X e t) (f : ∀ σ H Q, t' σ H Q → t σ H Q) : PA X e t' := ⟨fun pos pins s σ H Q I q => h.run pos pins s σ H Q I (f _ _ _ q)⟩

/-! ### what a primitive must keep -/
def POk (K : PySem.W.Frag) (r : List V → Hp → VK → Prop) (f : Sto → List W → Option W) : Prop :=
  ∀ (F : Addr → Prop) (μ : List Addr) (S : Sto) (H : Hp) (ws : List W) (vs : List V) (w : W) (Q : VK), RS K F μ S H → f S ws = some w → RepWs K μ (NF F μ S) H ws vs →
    (∀ v H', Fr H H' → RepW K μ (NF F μ S) H' w v → Q v H') → r vs H Q
def POkF (K : PySem.W.Frag) (r : List V → Hp → VK → Prop) (f : Sto → List W → Option (List W)) : Prop :=
  ∀ (F : Addr → Prop) (μ : List Addr) (S : Sto) (H : Hp) (ws : List W) (vs : List V) (ws' : List W) (Q : VK), RS K F μ S H → f S ws = some ws' → RepWs K μ (NF F μ S) H ws vs →
    (∀ p vs', H p = none → RepWs K μ (NF F μ S) H ws' vs' → Q (.ref p) (upd H p (.lst vs'))) → r vs H Q
def r1 (r : V → Hp → VK → Prop) : List V → Hp → VK → Prop := fun vs H Q => ∃ x, vs = [x] ∧ r x H Q
def r2 (r : R2) : List V → Hp → VK → Prop := fun vs H Q => ∃ x y, vs = [x, y] ∧ r x y H Q

section
variable {X : Cx} {a b c e : Expr} {es : List Expr} {ma mb me : Em} {ms : Am} {pos p : Pos} {x : Str}
theorem bind_some {α β : Type} {o : Option α} {f : α → Option β} {r : β} (h : o.bind f = some r) : ∃ a, o = some a ∧ f a = some r := by
  cases o with
  | none => cases h
  | some a => exact ⟨a, rfl, h⟩
theorem me_var {i : Nat} (hN : X.N[i]? = some x) (hv : Vis X.env.scope x) (hd : (x == ("__debug__" : Str)) = false := by decide) (hcd : (x == ("__classdict__" : Str)) = false := by decide) : ME X (.Name x pos) (mv i) :=
  PE.cons (pe_var hN hv hd hcd) fun σ H Q ⟨F, μ, ρ, S, w, S', rs, rst, h, k⟩ => by
    unfold mv at h
    split at h
    · rename_i w' e
      cases h
      obtain ⟨v, e1, r⟩ := rst.at_ i w e
      exact ⟨v, e1, k μ v H (Gs.refl rs) r⟩
    · cases h
theorem me_const {v : V} {d : D} (h : PE X e (tC v)) (r : ∀ K N H, RepD K N H d v) : ME X e (mk d) :=
  PE.cons h fun σ H Q ⟨F, μ, ρ, S, w, S', rs, rst, h, k⟩ => by
    cases h
    exact k μ v H (Gs.refl rs) (r _ _ _)
theorem me_int {i : Int} {j : Nat} : ME X (.Constant (.int i) j pos) (mk (.int i)) := me_const pe_int fun _ _ _ => by rw [RepD]
theorem me_bl {b : Bool} {j : Nat} : ME X (.Constant (.bool b) j pos) (mk (.bl b)) := me_const pe_bl fun _ _ _ => by rw [RepD]
theorem me_non {j : Nat} : ME X (.Constant .none j pos) (mk .non) := me_const pe_non fun _ _ _ => by rw [RepD]
theorem me_str {y : Str} {j : Nat} : ME X (.Constant (.str y) j pos) (mk (.str y)) := me_const pe_str fun _ _ _ => by rw [RepD]
theorem me_op {v : V} (h : PE X e (tC v)) : ME X e (mop v) :=
  PE.cons h fun σ H Q ⟨F, μ, ρ, S, w, S', rs, rst, h, k⟩ => by
    cases h
    exact k μ v H (Gs.refl rs) rfl

/-! ### arguments -/
theorem ma_nil : MA X [] anil := PA.cons pa_nil fun σ H Q ⟨F, μ, ρ, S, ws, S', rs, rst, h, k⟩ => by
  cases h
  exact k μ [] H (Gs.refl rs) .nil
theorem ma_cons (he : ME X e me) (hr : MA X es ms) (hs : starEach (e :: es) X.env = (false, eval e X.env) :: starEach es X.env := by rfl) : MA X (e :: es) (acons me ms) :=
  PA.cons (pa_cons he hr hs) fun σ H Q ⟨F, μ, ρ, S, ws, S', rs, rst, h, k⟩ => by
    obtain ⟨⟨w1, S1⟩, e1, h⟩ := bind_some h
    obtain ⟨⟨w2, S2⟩, e2, h⟩ := bind_some h
    cases h
    exact ⟨F, μ, ρ, S, w1, S1, rs, rst, e1, fun μ1 v1 H1 g1 q1 => ⟨F, μ1, ρ, S1, w2, S2, g1.rs, rst.mono g1.go g1.pre, e2, fun μ2 v2 H2 g2 q2 =>
      k μ2 _ H2 (g1.trans g2) (.cons (q1.mono g2.go g2.pre) q2)⟩⟩

/-! ### primitives -/
theorem prim_args {r : List V → Hp → VK → Prop} {f : Sto → List W → Option W} {σ : L2.St} {H : Hp} {Q : VK} (hf : POk X.K r f) (h : LE X.K (prim f ms) σ H Q) : LA X.K ms σ H fun vs H1 => r vs H1 Q := by
  obtain ⟨F, μ, ρ, S, w, S', rs, rst, h, k⟩ := h
  obtain ⟨⟨ws, S1⟩, e1, h⟩ := bind_some h
  obtain ⟨w', e2, h⟩ := bind_some h
  cases h
  exact ⟨F, μ, ρ, S, ws, S1, rs, rst, e1, fun μ1 vs H1 g1 q1 => hf F μ1 S1 H1 ws vs w Q g1.rs e2 q1 fun v H' f' q => k μ1 v H' (g1.trans (f'.gs g1.rs)) q⟩
theorem prim_argsF {r : List V → Hp → VK → Prop} {f : Sto → List W → Option (List W)} {σ : L2.St} {H : Hp} {Q : VK} (hf : POkF X.K r f) (h : LF X.K (primF f ms) σ H Q) : LA X.K ms σ H fun vs H1 => r vs H1 Q := by
  obtain ⟨F, μ, ρ, S, w, S', rs, rst, h, k⟩ := h
  obtain ⟨⟨ws, S1⟩, e1, h⟩ := bind_some h
  obtain ⟨w', e2, h⟩ := bind_some h
  cases h
  exact ⟨F, μ, ρ, S, ws, S1, rs, rst, e1, fun μ1 vs H1 g1 q1 => hf F μ1 S1 H1 ws vs w Q g1.rs e2 q1 fun p vs' hp q => k μ1 H1 p vs' g1 hp q⟩
theorem args2 {σ : L2.St} {H : Hp} {R : List V → Hp → Prop} (h : LA X.K (acons ma (acons mb anil)) σ H R) : LE X.K ma σ H fun x H1 => LE X.K mb σ H1 fun y H2 => R [x, y] H2 := by
  obtain ⟨F, μ, ρ, S, ws, S', rs, rst, h, k⟩ := h
  obtain ⟨⟨w1, S1⟩, e1, h⟩ := bind_some h
  obtain ⟨⟨ws2, S2⟩, h, h'⟩ := bind_some h
  obtain ⟨⟨w2, S3⟩, e2, h⟩ := bind_some h
  cases h
  cases h'
  exact ⟨F, μ, ρ, S, w1, S1, rs, rst, e1, fun μ1 v1 H1 g1 q1 => ⟨F, μ1, ρ, S1, w2, S3, g1.rs, rst.mono g1.go g1.pre, e2, fun μ2 v2 H2 g2 q2 =>
      k μ2 _ H2 (g1.trans g2) (.cons (q1.mono g2.go g2.pre) (.cons q2 .nil))⟩⟩
theorem args1 {σ : L2.St} {H : Hp} {R : List V → Hp → Prop} (h : LA X.K (acons ma anil) σ H R) : LE X.K ma σ H fun x H1 => R [x] H1 := by
  obtain ⟨F, μ, ρ, S, ws, S', rs, rst, h, k⟩ := h
  obtain ⟨⟨w1, S1⟩, e1, h⟩ := bind_some h
  cases h
  exact ⟨F, μ, ρ, S, w1, S1, rs, rst, e1, fun μ1 v1 H1 g1 q1 => k μ1 _ H1 g1 (.cons q1 .nil)⟩
theorem LE.imp {K : PySem.W.Frag} {m : Em} {σ : L2.St} {H : Hp} {Q Q' : VK} (h : LE K m σ H Q) (f : ∀ v H', Q v H' → Q' v H') : LE K m σ H Q' := by
  obtain ⟨F, μ, ρ, S, w, S', rs, rst, h, k⟩ := h
  exact ⟨F, μ, ρ, S, w, S', rs, rst, h, fun μ' v H' g q => f _ _ (k μ' v H' g q)⟩
theorem two_r {r : R2} {σ : L2.St} {H : Hp} {Q : VK} (h : LE X.K ma σ H fun x H1 => LE X.K mb σ H1 fun y H2 => r2 r [x, y] H2 Q) : tOp r (LE X.K ma) (LE X.K mb) σ H Q :=
  h.imp fun v H1 h => h.imp fun u H2 ⟨x, y, e, q⟩ => by cases e; exact q
theorem me_bin {op : Operator} {r : R2} {f : Sto → List W → Option W} (hf : POk X.K (r2 r) f) (ho : OpR X (binaryOp op) r) (ha : ME X a ma) (hb : ME X b mb) : ME X (.BinOp a op b pos) (prim f (acons ma (acons mb anil))) :=
  PE.cons (pe_op ho ha hb) fun σ H Q h => two_r (args2 (prim_args hf h))
theorem mf_bin {op : Operator} {r : R2} {f : Sto → List W → Option (List W)} (hf : POkF X.K (r2 r) f) (ho : OpR X (binaryOp op) r) (ha : ME X a ma) (hb : ME X b mb) : MF X (.BinOp a op b pos) (primF f (acons ma (acons mb anil))) :=
  PE.cons (pe_op ho ha hb) fun σ H Q h => two_r (args2 (prim_argsF hf h))
theorem me_cmp {op : CmpOp} {r : R2} {f : Sto → List W → Option W} (hf : POk X.K (r2 r) f) (ho : OpR X (compareOp op) r) (ha : ME X a ma) (hb : ME X b mb) (hm : behindInMarks op b = false) : ME X (.Compare a [op] [b] pos) (prim f (acons ma (acons mb anil))) :=
  PE.cons (pe_cmpR ho ha hb hm) fun σ H Q h => two_r (args2 (prim_args hf h))
theorem me_ix {r : R2} {f : Sto → List W → Option W} (hf : POk X.K (r2 r) f) (ho : IxR X r) (ha : ME X a ma) (hb : ME X b mb) (hs : PlainIx b) : ME X (.Subscript a b pos) (prim f (acons ma (acons mb anil))) :=
  PE.cons (pe_ix ho ha hb hs) fun σ H Q h => two_r (args2 (prim_args hf h))
theorem me_un {op : UnaryOp} {r : V → Hp → VK → Prop} {f : Sto → List W → Option W} (hf : POk X.K (r1 r) f) (ho : UnR X (unaryOp op) r) (ha : ME X a ma) : ME X (.UnaryOp op a pos) (prim f (acons ma anil)) :=
  PE.cons (pe_un ho ha) fun σ H Q h => (args1 (prim_args hf h)).imp fun v H1 ⟨x, e, q⟩ => by cases e; exact q
theorem me_callB {id : String} {r : List V → Hp → VK → Prop} {f : Sto → List W → Option W} (hf : POk X.K r f) (hc : CallR X (.builtin id) r) (hg : Gl X x) (hm : X.mg x = none) (hv : bootBuiltins x = some (.builtin id)) (ha : MA X (e :: es) ms) (hn : x ≠ "__name__" := by decide) (hdb : (x == ("__debug__" : Str)) = false := by decide)
    (he : starEach (e :: es) X.env = (false, eval e X.env) :: starEach es X.env := by rfl) (hpl : (backTo pos (starEach es X.env)).any (·.1) = false := by rfl) : ME X (.Call (.Name x p) (e :: es) [] pos) (prim f ms) :=
  PE.cons (pe_callB hc hg hm hv ha hn hdb he hpl) fun σ H Q h => prim_args hf h
theorem mf_callB {id : String} {r : List V → Hp → VK → Prop} {f : Sto → List W → Option (List W)} (hf : POkF X.K r f) (hc : CallR X (.builtin id) r) (hg : Gl X x) (hm : X.mg x = none) (hv : bootBuiltins x = some (.builtin id)) (ha : MA X (e :: es) ms) (hn : x ≠ "__name__" := by decide) (hdb : (x == ("__debug__" : Str)) = false := by decide)
    (he : starEach (e :: es) X.env = (false, eval e X.env) :: starEach es X.env := by rfl) (hpl : (backTo pos (starEach es X.env)).any (·.1) = false := by rfl) : MF X (.Call (.Name x p) (e :: es) [] pos) (primF f ms) :=
  PE.cons (pe_callB hc hg hm hv ha hn hdb he hpl) fun σ H Q h => prim_argsF hf h
theorem me_callTy {T : String} {r : List V → Hp → VK → Prop} {f : Sto → List W → Option W} (hf : POk X.K r f) (hc : CallR X (.type T) r) (hg : Gl X x) (hm : X.mg x = none) (hv : bootBuiltins x = some (.type T)) (ha : MA X (e :: es) ms) (hn : x ≠ "__name__" := by decide) (hdb : (x == ("__debug__" : Str)) = false := by decide)
    (he : starEach (e :: es) X.env = (false, eval e X.env) :: starEach es X.env := by rfl) (hpl : (backTo pos (starEach es X.env)).any (·.1) = false := by rfl) : ME X (.Call (.Name x p) (e :: es) [] pos) (prim f ms) :=
  PE.cons (pe_callTy hc hg hm hv ha hn hdb he hpl) fun σ H Q h => prim_args hf h
theorem mf_callTy {T : String} {r : List V → Hp → VK → Prop} {f : Sto → List W → Option (List W)} (hf : POkF X.K r f) (hc : CallR X (.type T) r) (hg : Gl X x) (hm : X.mg x = none) (hv : bootBuiltins x = some (.type T)) (ha : MA X (e :: es) ms) (hn : x ≠ "__name__" := by decide) (hdb : (x == ("__debug__" : Str)) = false := by decide)
    (he : starEach (e :: es) X.env = (false, eval e X.env) :: starEach es X.env := by rfl) (hpl : (backTo pos (starEach es X.env)).any (·.1) = false := by rfl) : MF X (.Call (.Name x p) (e :: es) [] pos) (primF f ms) :=
  PE.cons (pe_callTy hc hg hm hv ha hn hdb he hpl) fun σ H Q h => prim_argsF hf h

/-! ### thaw and freeze -/
theorem datas_rep {K : PySem.W.Frag} {μ : List Addr} {N : Addr → Prop} {H : Hp} : ∀ {ws : List W} {vs : List V} {ds : List D}, datas ws = some ds → RepWs K μ N H ws vs → RepDs K N H ds vs
  | [], _, _, h, .nil => by cases h; rw [RepDs]
  | .d x :: r, _, ds, h, .cons q t => by
    obtain ⟨ds', e, h⟩ := bind_some h
    cases h
    rw [RepDs]
    exact ⟨_, _, rfl, q, datas_rep e t⟩
  | .ref _ :: _, _, _, h, .cons _ _ => by cases h
  | .op _ :: _, _, _, h, .cons _ _ => by cases h
theorem me_thw {m : Am} (h : MF X e m) : ME X e (thw m) := PE.cons h fun σ H Q ⟨F, μ, ρ, S, w, S', rs, rst, h, k⟩ => by
  obtain ⟨⟨ws, S1⟩, e1, h⟩ := bind_some h
  cases h
  refine ⟨F, μ, ρ, S, ws, S1, rs, rst, e1, fun μ' H' p vs g hp q => ?_⟩
  have g2 := Gs.cell (p := p) (o := .lst vs) (c := .lst ws) g.rs hp (fun z => nomatch z) fun {N'} gg => ⟨vs, upd_same, q.mono gg ⟨[p], rfl⟩⟩
  refine k _ _ _ (g.trans g2) ⟨p, ?_, rfl⟩
  rw [← g.rs.len, List.getElem?_append_right (Nat.le_refl _), Nat.sub_self]
  rfl
theorem me_frz {m : Am} (h : MF X e m) : ME X e (frz m) := PE.cons h fun σ H Q ⟨F, μ, ρ, S, w, S', rs, rst, h, k⟩ => by
  obtain ⟨⟨ws, S1⟩, e1, h⟩ := bind_some h
  obtain ⟨ds, e2, h⟩ := bind_some h
  cases h
  refine ⟨F, μ, ρ, S, ws, S1, rs, rst, e1, fun μ' H' p vs g hp q => ?_⟩
  have f : Fr H' (upd H' p (.lst vs)) := Fr.upd hp
  have g2 := f.gs g.rs
  refine k μ' _ _ (g.trans g2) ?_
  show RepD _ _ _ _ _
  rw [RepD]
  exact ⟨p, vs, rfl, ⟨upd_same, fun z => g.rs.there z hp⟩, (datas_rep e2 q).mono g2.go⟩

/-! ### tests, and, or, not, if -/
theorem mt_val (h : ME X e me) (he : ∀ whole, isTrue e X.env whole = (do let v ← whole; standAt e.pos; holding [v] (truthy v)) := by intro _; rfl) : MT X e (tst me) :=
  PT.cons (pt_val h he) fun σ H Q ⟨F, μ, ρ, S, b, S', rs, rst, h, k⟩ => by
    obtain ⟨⟨w, S1⟩, e1, h⟩ := bind_some h
    obtain ⟨b', e2, h⟩ := bind_some h
    cases h
    refine ⟨F, μ, ρ, S, w, S1, rs, rst, e1, fun μ' v H' g q => ?_⟩
    cases w with
    | d x =>
      cases x <;> cases e2
      have q' : RepD _ _ _ _ _ := q
      rw [RepD] at q'
      exact ⟨b, q', k μ' H' g⟩
    | ref _ => cases e2
    | op _ => cases e2
theorem mt_cmp {op : CmpOp} {r : R2} {f : Sto → List W → Option W} (hf : POk X.K (r2 r) f) (ho : OpR X (compareOp op) r) (ha : ME X a ma) (hb : ME X b mb) (hm : behindInMarks op b = false) : MT X (.Compare a [op] [b] pos) (tst (prim f (acons ma (acons mb anil)))) :=
  PT.cons (pt_cmpR ho ha hb hm) fun σ H Q ⟨F, μ, ρ, S, b, S', rs, rst, h, k⟩ => by
    obtain ⟨⟨w, S1⟩, e1, h⟩ := bind_some h
    obtain ⟨b', e2, h⟩ := bind_some h
    cases h
    refine two_r (args2 (prim_args hf ⟨F, μ, ρ, S, w, S1, rs, rst, e1, fun μ' v H' g q => ?_⟩))
    cases w with
    | d x =>
      cases x <;> cases e2
      have q' : RepD _ _ _ _ _ := q
      rw [RepD] at q'
      exact ⟨b, q', k μ' H' g⟩
    | ref _ => cases e2
    | op _ => cases e2
theorem mt_not {tm : Tm} (h : MT X a tm) : MT X (.UnaryOp .Not a pos) (tnot tm) := PT.cons (pt_not h) fun σ H Q ⟨F, μ, ρ, S, b, S', rs, rst, h, k⟩ => by
  obtain ⟨⟨b', S1⟩, e1, h⟩ := bind_some h
  cases h
  exact ⟨F, μ, ρ, S, b', S1, rs, rst, e1, fun μ' H' g => k μ' H' g⟩
theorem mw_one_and {tm : Tm} (h : MT X a tm) : MW X (.BoolOp .And [a] pos) tm := pw_and1 h
theorem mw_one_or {tm : Tm} (h : MT X a tm) : MW X (.BoolOp .Or [a] pos) tm := pw_or1 h
theorem mw_and {ta tb : Tm} (h : MT X a ta) (h2 : MW X (.BoolOp .And (b :: es) pos) tb) : MW X (.BoolOp .And (a :: b :: es) pos) (tand ta tb) :=
  PW.cons (pw_and h h2) fun σ H Q ⟨F, μ, ρ, S, c, S', rs, rst, h, k⟩ => by
    obtain ⟨⟨c', S1⟩, e1, h⟩ := bind_some h
    refine ⟨F, μ, ρ, S, c', S1, rs, rst, e1, fun μ1 H1 g => ?_⟩
    cases c' with
    | true => exact ⟨F, μ1, ρ, S1, c, S', g.rs, rst.mono g.go g.pre, h, fun μ2 H2 g2 => k μ2 H2 (g.trans g2)⟩
    | false => cases h; exact k μ1 H1 g
theorem mw_or {ta tb : Tm} (h : MT X a ta) (h2 : MW X (.BoolOp .Or (b :: es) pos) tb) : MW X (.BoolOp .Or (a :: b :: es) pos) (tor ta tb) :=
  PW.cons (pw_or h h2) fun σ H Q ⟨F, μ, ρ, S, c, S', rs, rst, h, k⟩ => by
    obtain ⟨⟨c', S1⟩, e1, h⟩ := bind_some h
    refine ⟨F, μ, ρ, S, c', S1, rs, rst, e1, fun μ1 H1 g => ?_⟩
    cases c' with
    | false => exact ⟨F, μ1, ρ, S1, c, S', g.rs, rst.mono g.go g.pre, h, fun μ2 H2 g2 => k μ2 H2 (g.trans g2)⟩
    | true => cases h; exact k μ1 H1 g
theorem wbl_rep {K : PySem.W.Frag} {μ : List Addr} {N : Addr → Prop} {H : Hp} {w : W} {v : V} {b : Bool} (h : wbl w = some b) (q : RepW K μ N H w v) : v = .bl b := by
  cases w with
  | d x =>
    cases x <;> cases h
    have q' : RepD _ _ _ _ _ := q
    rw [RepD] at q'
    exact q'
  | ref _ => cases h
  | op _ => cases h
theorem me_one {op : BoolOp} (h : ME X a ma) : ME X (.BoolOp op [a] pos) ma := pe_one h
theorem me_and (h : ME X a ma) (h2 : ME X (.BoolOp .And (b :: es) pos) mb) : ME X (.BoolOp .And (a :: b :: es) pos) (mand ma mb) :=
  PE.cons (pe_and h h2) fun σ H Q ⟨F, μ, ρ, S, w, S', rs, rst, h, k⟩ => by
    obtain ⟨⟨w', S1⟩, e1, h⟩ := bind_some h
    obtain ⟨c, e2, h⟩ := bind_some h
    refine ⟨F, μ, ρ, S, w', S1, rs, rst, e1, fun μ1 v H1 g q => ⟨c, wbl_rep e2 q, ?_⟩⟩
    cases c with
    | true => exact ⟨F, μ1, ρ, S1, w, S', g.rs, rst.mono g.go g.pre, h, fun μ2 v2 H2 g2 q2 => k μ2 v2 H2 (g.trans g2) q2⟩
    | false => cases h; exact k μ1 _ H1 g (by show RepD _ _ _ _ _; rw [RepD])
theorem me_or (h : ME X a ma) (h2 : ME X (.BoolOp .Or (b :: es) pos) mb) : ME X (.BoolOp .Or (a :: b :: es) pos) (mor ma mb) :=
  PE.cons (pe_or h h2) fun σ H Q ⟨F, μ, ρ, S, w, S', rs, rst, h, k⟩ => by
    obtain ⟨⟨w', S1⟩, e1, h⟩ := bind_some h
    obtain ⟨c, e2, h⟩ := bind_some h
    refine ⟨F, μ, ρ, S, w', S1, rs, rst, e1, fun μ1 v H1 g q => ⟨c, wbl_rep e2 q, ?_⟩⟩
    cases c with
    | false => exact ⟨F, μ1, ρ, S1, w, S', g.rs, rst.mono g.go g.pre, h, fun μ2 v2 H2 g2 q2 => k μ2 v2 H2 (g.trans g2) q2⟩
    | true => cases h; exact k μ1 _ H1 g (by show RepD _ _ _ _ _; rw [RepD])
theorem me_not (h : ME X a ma) : ME X (.UnaryOp .Not a pos) (mnot ma) := PE.cons (pe_not h) fun σ H Q ⟨F, μ, ρ, S, w, S', rs, rst, h, k⟩ => by
  obtain ⟨⟨w', S1⟩, e1, h⟩ := bind_some h
  obtain ⟨c, e2, h⟩ := bind_some h
  cases h
  exact ⟨F, μ, ρ, S, w', S1, rs, rst, e1, fun μ1 v H1 g q => ⟨c, wbl_rep e2 q, k μ1 _ H1 g (by show RepD _ _ _ _ _; rw [RepD])⟩⟩
theorem me_if {tm : Tm} (hc : MT X c tm) (ha : ME X a ma) (hb : ME X b mb) : ME X (.IfExp c a b pos) (mif tm ma mb) :=
  PE.cons (pe_ifExp hc ha hb) fun σ H Q ⟨F, μ, ρ, S, w, S', rs, rst, h, k⟩ => by
    obtain ⟨⟨c', S1⟩, e1, h⟩ := bind_some h
    refine ⟨F, μ, ρ, S, c', S1, rs, rst, e1, fun μ1 H1 g => ?_⟩
    cases c' with
    | true => exact ⟨F, μ1, ρ, S1, w, S', g.rs, rst.mono g.go g.pre, h, fun μ2 v2 H2 g2 q2 => k μ2 v2 H2 (g.trans g2) q2⟩
    | false => exact ⟨F, μ1, ρ, S1, w, S', g.rs, rst.mono g.go g.pre, h, fun μ2 v2 H2 g2 q2 => k μ2 v2 H2 (g.trans g2) q2⟩
/-! ### displays -/
def fTup (_ : Sto) (ws : List W) : Option W := if ws.length ≤ 1000000 then (datas ws).bind fun ds => some (.d (.tup ds)) else none
def fLst (_ : Sto) (ws : List W) : Option (List W) := if ws.length ≤ 1000000 then some ws else none
theorem lim_line {n : Nat} (h : n ≤ 1000000) : n < sizeLine := Nat.lt_of_le_of_lt h (by decide)
theorem RepWs.length {K : PySem.W.Frag} {μ : List Addr} {N : Addr → Prop} {H : Hp} {ws : List W} {vs : List V} (h : RepWs K μ N H ws vs) : ws.length = vs.length := Paired.length h
theorem tup_ok {K : PySem.W.Frag} : POk K (fun xs H Q => xs.length ≤ sizeLine ∧ ∀ p, H p = none → Q (.ref p) (upd H p (.tup xs))) fTup := fun F μ S H ws vs w Q rs h q k => by
  unfold fTup at h
  split at h
  · rename_i hl
    obtain ⟨ds, e, h⟩ := bind_some h
    cases h
    refine ⟨by rw [← RepWs.length q]; exact Nat.le_of_lt (lim_line hl), fun p hp => k _ _ (Fr.upd hp) ?_⟩
    show RepD _ _ _ _ _
    rw [RepD]
    exact ⟨p, vs, rfl, .inl (.inl upd_same), (datas_rep e q).mono ((Fr.upd hp).gs rs).go⟩
  · cases h
theorem lst_ok {K : PySem.W.Frag} : POkF K (fun xs H Q => xs.length ≤ sizeLine ∧ ∀ p, H p = none → Q (.ref p) (upd H p (.lst xs))) fLst := fun F μ S H ws vs w Q rs h q k => by
  unfold fLst at h
  split at h
  · rename_i hl
    cases h
    exact ⟨by rw [← RepWs.length q]; exact Nat.le_of_lt (lim_line hl), fun p hp => k _ _ hp q⟩
  · cases h
theorem me_tup {k : Nat} (h : MA X es ms) : ME X (.Tuple es k pos) (prim fTup ms) := PE.cons (pe_tup h) fun σ H Q h => prim_args tup_ok h
theorem mf_lst (h : MA X es ms) : MF X (.List es pos) (primF fLst ms) := PE.cons (pe_lst h) fun σ H Q h => prim_argsF lst_ok h
end
end GM

set_option Elab.async false
set_option linter.all false
set_option maxRecDepth 100000
set_option maxHeartbeats 4000000
set_option autoImplicit false
namespace GM
open PySem L2
/-! ### what is walked -/
inductive ZS where
  | its (ds : List D) | cell (k : Nat)
inductive Src where
  | its (ws : List W) | cell (k : Nat) | ecell (k : Nat) | rcell (k n : Nat) | zip (a b : ZS)
abbrev Im := Rho → Sto → Option (Src × Sto)
def lstOf (S : Sto) (k : Nat) : Option (List W) := match S[k]? with
  | some (.lst ws) => some ws
  | _ => none
theorem lstOf_some {S : Sto} {k : Nat} {ws : List W} (h : lstOf S k = some ws) : S[k]? = some (.lst ws) := by
  unfold lstOf at h
  split at h
  · rename_i e; cases h; exact e
  · cases h
def zsAt : ZS → Sto → Nat → Option (Option D)
  | .its ds, _, i => some ds[i]?
  | .cell k, S, i => (lstOf S k).bind fun ws => match ws[i]? with
    | none => some none
    | some (.d x) => some (some x)
    | some _ => none
def zsLen : ZS → Sto → Nat
  | .its ds, _ => ds.length
  | .cell k, S => ((lstOf S k).getD []).length
def srcAt : Src → Sto → Nat → Option (Option W)
  | .its ws, _, i => some ws[i]?
  | .cell k, S, i => (lstOf S k).bind fun ws => some ws[i]?
  | .ecell k, S, i => (lstOf S k).bind fun ws => match ws[i]? with
    | none => some none
    | some (.d x) => some (some (.d (.tup [.int (i : Nat), x])))
    | some _ => none
  | .rcell k n, S, i => if i < n then (lstOf S k).bind fun ws => ws[n - 1 - i]?.bind fun w => some (some w) else some none
  | .zip a b, S, i => (zsAt a S i).bind fun x => (zsAt b S i).bind fun y => match x, y with
    | some x, some y => some (some (.d (.tup [x, y])))
    | _, _ => some none
def srcLen : Src → Sto → Nat
  | .its ws, _ => ws.length
  | .cell k, S => ((lstOf S k).getD []).length
  | .ecell k, S => ((lstOf S k).getD []).length
  | .rcell _ n, _ => n
  | .zip a b, S => min (zsLen a S) (zsLen b S)
/-- the items of a list or tuple -/
def seqW (S : Sto) : W → Option (List W)
  | .d (.tup ds) => some (ds.map W.d)
  | .d (.lst ds) => some (ds.map W.d)
  | .d (.scr ds) => some (ds.map W.d)
  | .ref k => lstOf S k
  | _ => none
def srcL (S : Sto) : W → Option Src
  | .d (.lst ds) => some (.its (ds.map W.d))
  | .ref k => (lstOf S k).bind fun _ => some (.cell k)
  | _ => none
def srcT (_ : Sto) : W → Option Src
  | .d (.tup ds) => some (.its (ds.map W.d))
  | _ => none
def ItOk (K : PySem.W.Frag) (F : Addr → Prop) (μ : List Addr) (S : Sto) (H : Hp) (J : It) (src : Src) : Prop :=
  ∀ F2 μ2 S2 H2, Gz K F μ S H F2 μ2 S2 H2 → ∀ (i : Nat) r, srcAt src S2 i = some r → match r with
    | none => J.stop i H2
    | some w => J.go i H2 ∧ ∀ x H3, J.yld i H2 x H3 → Fr H2 H3 ∧ RepW K μ2 (NF F2 μ2 S2) H3 w x
def LI (K : PySem.W.Frag) (m : Im) : TI := fun σ H R => ∃ (F : Addr → Prop) (μ : List Addr) (ρ : Rho) (S : Sto) (src : Src) (S' : Sto), RS K F μ S H ∧ RSt K μ (NF F μ S) H σ ρ ∧ m ρ S = some (src, S') ∧
  ∀ μ' J H', Gs K F μ S H μ' S' H' → ItOk K F μ' S' H' J src → R J H'
abbrev MI (X : Cx) (tg iter : Expr) (m : Im) : Prop := PI X tg iter (LI X.K m)
theorem PI.cons {X : Cx} {tg iter : Expr} {t t' : TI} (h : PI X tg iter t) (f : ∀ σ H R, t' σ H R → t σ H R) : PI X tg iter t' := ⟨fun pins s σ H R I q => h.run pins s σ H R I (f _ _ _ q)⟩
def isrc (f : Sto → W → Option Src) (m : Em) : Im := fun ρ S => (m ρ S).bind fun p => (f p.2 p.1).bind fun s => some (s, p.2)

/-! ### lists and tuples in the heap -/
theorem rep_map {K : PySem.W.Frag} {μ : List Addr} {N : Addr → Prop} {H : Hp} : ∀ {ds : List D} {vs : List V}, RepDs K N H ds vs → RepWs K μ N H (ds.map W.d) vs
  | [], vs, h => by rw [RepDs] at h; subst h; exact .nil
  | d :: ds, vs, h => by
    rw [RepDs] at h
    obtain ⟨v, r, rfl, h1, h2⟩ := h
    exact .cons h1 (rep_map h2)
theorem RepWs.get {K : PySem.W.Frag} {μ : List Addr} {N : Addr → Prop} {H : Hp} : ∀ {ws : List W} {vs : List V} {i : Nat} {w : W}, RepWs K μ N H ws vs → ws[i]? = some w → ∃ v, vs[i]? = some v ∧ RepW K μ N H w v
  | _, _, _, _, .nil, e => by simp at e
  | _, _, 0, _, .cons r _, e => by simp at e; subst e; exact ⟨_, rfl, r⟩
  | _, _, i + 1, x, .cons _ t, e => by
    obtain ⟨u, h1, h2⟩ := RepWs.get (i := i) t (by simpa using e)
    exact ⟨u, by simpa using h1, h2⟩
theorem RepWs.append {K : PySem.W.Frag} {μ : List Addr} {N : Addr → Prop} {H : Hp} : ∀ {ws us : List W} {vs zs : List V}, RepWs K μ N H ws vs → RepWs K μ N H us zs → RepWs K μ N H (ws ++ us) (vs ++ zs)
  | _, _, _, _, .nil, q => q
  | _, _, _, _, .cons r t, q => .cons r (RepWs.append t q)
theorem seq_rep {K : PySem.W.Frag} {F : Addr → Prop} {μ : List Addr} {S : Sto} {H : Hp} {w : W} {v : V} {ws : List W} (rs : RS K F μ S H) (h : seqW S w = some ws) (q : RepW K μ (NF F μ S) H w v) :
    ∃ a vs, v = .ref a ∧ (SqL K H a vs ∨ SqT K H a vs) ∧ RepWs K μ (NF F μ S) H ws vs := by
  cases w with
  | d x =>
    cases x with
    | tup ds =>
      cases h
      have q' : RepD _ _ _ _ _ := q
      rw [RepD] at q'
      obtain ⟨a, vs, e, h1, h2⟩ := q'
      exact ⟨a, vs, e, .inr h1, rep_map h2⟩
    | lst ds =>
      cases h
      have q' : RepD _ _ _ _ _ := q
      rw [RepD] at q'
      obtain ⟨a, vs, e, h1, h2⟩ := q'
      exact ⟨a, vs, e, .inl h1.sq, rep_map h2⟩
    | scr ds =>
      cases h
      have q' : RepD _ _ _ _ _ := q
      rw [RepD] at q'
      obtain ⟨a, vs, e, h1, h2⟩ := q'
      exact ⟨a, vs, e, .inl h1.sq, rep_map h2⟩
    | _ => cases h
  | ref k =>
    obtain ⟨a, h1, e⟩ := q
    have hc := lstOf_some h
    obtain ⟨vs, h2, h3⟩ := rs.at_ k a _ h1 hc
    exact ⟨a, vs, e, .inl (.inl (.inl h2)), h3⟩
  | op _ => cases h
theorem its_ok {K : PySem.W.Frag} {F : Addr → Prop} {μ : List Addr} {S : Sto} {H : Hp} {a : Addr} {vs : List V} {ws : List W} (h1 : LstAt (NF F μ S) H a vs) (h2 : RepWs K μ (NF F μ S) H ws vs) : ItOk K F μ S H (Itl K a) (.its ws) := fun F2 μ2 S2 H2 gz i r hr => by
  obtain ⟨p, _, g, rs⟩ := gz
  cases hr
  have l2 : SqL K H2 a vs := (g.lst h1).sq
  have r2 : RepWs K μ2 (NF F2 μ2 S2) H2 ws vs := h2.mono g p
  cases e : ws[i]? with
  | none => exact ⟨vs, l2, by rw [← r2.length]; exact List.getElem?_eq_none_iff.mp e⟩
  | some w =>
    obtain ⟨v, e1, e2⟩ := r2.get e
    refine ⟨⟨vs, v, l2, e1⟩, fun x H3 ⟨y1, y2⟩ => ?_⟩
    subst y1
    have := y2 vs l2
    rw [e1] at this; cases this
    exact ⟨Fr.refl, e2⟩
theorem itt_ok {K : PySem.W.Frag} {F : Addr → Prop} {μ : List Addr} {S : Sto} {H : Hp} {a : Addr} {vs : List V} {ws : List W} (h1 : SqT K H a vs) (h2 : RepWs K μ (NF F μ S) H ws vs) : ItOk K F μ S H (Itt K a) (.its ws) := fun F2 μ2 S2 H2 gz i r hr => by
  obtain ⟨p, _, g, rs⟩ := gz
  cases hr
  have l2 := g.tup h1
  have r2 : RepWs K μ2 (NF F2 μ2 S2) H2 ws vs := h2.mono g p
  cases e : ws[i]? with
  | none => exact ⟨vs, l2, by rw [← r2.length]; exact List.getElem?_eq_none_iff.mp e⟩
  | some w =>
    obtain ⟨v, e1, e2⟩ := r2.get e
    refine ⟨⟨vs, v, l2, e1⟩, fun x H3 ⟨y1, y2⟩ => ?_⟩
    subst y1
    have := y2 vs l2
    rw [e1] at this; cases this
    exact ⟨Fr.refl, e2⟩
theorem cell_ok {K : PySem.W.Frag} {F : Addr → Prop} {μ : List Addr} {S : Sto} {H : Hp} {a : Addr} {k : Nat} (h1 : μ[k]? = some a) : ItOk K F μ S H (Itl K a) (.cell k) := fun F2 μ2 S2 H2 gz i r hr => by
  obtain ⟨p, _, g, rs⟩ := gz
  obtain ⟨ws, e, hr⟩ := bind_some (show (lstOf S2 k).bind (fun ws => some ws[i]?) = some r from hr)
  cases hr
  have h2 : μ2[k]? = some a := by
    obtain ⟨ν, rfl⟩ := p
    rw [List.getElem?_append_left (List.getElem?_eq_some_iff.mp h1).1]; exact h1
  obtain ⟨vs, e1, e2⟩ := rs.at_ k a _ h2 (lstOf_some e)
  have l2 : SqL K H2 a vs := .inl (.inl e1)
  cases e : ws[i]? with
  | none => exact ⟨vs, l2, by rw [← e2.length]; exact List.getElem?_eq_none_iff.mp e⟩
  | some w =>
    obtain ⟨v, e3, e4⟩ := e2.get e
    refine ⟨⟨vs, v, l2, e3⟩, fun x H3 ⟨y1, y2⟩ => ?_⟩
    subst y1
    have := y2 vs l2
    rw [e3] at this; cases this
    exact ⟨Fr.refl, e4⟩
section
variable {X : Cx} {tg iter : Expr} {me : Em}
theorem mi_list (h : ME X iter me) : MI X tg iter (isrc srcL me) := PI.cons (pi_list h) fun σ H R ⟨F, μ, ρ, S, src, S', rs, rst, h, k⟩ => by
  obtain ⟨⟨w, S1⟩, e1, h⟩ := bind_some h
  obtain ⟨s, e2, h⟩ := bind_some h
  cases h
  refine ⟨F, μ, ρ, S, w, S1, rs, rst, e1, fun μ1 v H1 g q => ?_⟩
  cases w with
  | d x =>
    cases x with
    | lst ds =>
      cases e2
      have q' : RepD _ _ _ _ _ := q
      rw [RepD] at q'
      obtain ⟨a, vs, e, h1, h2⟩ := q'
      exact ⟨a, e, ⟨vs, h1.sq⟩, k μ1 _ H1 g (its_ok h1 (rep_map h2))⟩
    | _ => cases e2
  | ref kk =>
    obtain ⟨ws, e3, e4⟩ := bind_some (show (lstOf S1 kk).bind (fun _ => some (Src.cell kk)) = some src from e2)
    cases e4
    obtain ⟨a, h1, e⟩ := q
    obtain ⟨vs, h2, h3⟩ := g.rs.at_ kk a _ h1 (lstOf_some e3)
    exact ⟨a, e, ⟨vs, .inl (.inl h2)⟩, k μ1 _ H1 g (cell_ok h1)⟩
  | op _ => cases e2
theorem mi_tup (h : ME X iter me) : MI X tg iter (isrc srcT me) := PI.cons (pi_tup h) fun σ H R ⟨F, μ, ρ, S, src, S', rs, rst, h, k⟩ => by
  obtain ⟨⟨w, S1⟩, e1, h⟩ := bind_some h
  obtain ⟨s, e2, h⟩ := bind_some h
  cases h
  refine ⟨F, μ, ρ, S, w, S1, rs, rst, e1, fun μ1 v H1 g q => ?_⟩
  cases w with
  | d x =>
    cases x with
    | tup ds =>
      cases e2
      have q' : RepD _ _ _ _ _ := q
      rw [RepD] at q'
      obtain ⟨a, vs, e, h1, h2⟩ := q'
      exact ⟨a, e, ⟨vs, h1⟩, k μ1 _ H1 g (itt_ok h1 (rep_map h2))⟩
    | _ => cases e2
  | ref kk => cases e2
  | op _ => cases e2
end
/-! ### ranges -/
def rngW (lo : Int) (n : Nat) : List W := (List.range n).map fun i => W.d (.int (lo + (i : Nat)))
theorem range_ok {K : PySem.W.Frag} {F : Addr → Prop} {μ : List Addr} {S : Sto} {H : Hp} {lo : Int} {n : Nat} : ItOk K F μ S H (Itr lo n) (.its (rngW lo n)) := fun F2 μ2 S2 H2 gz i r hr => by
  obtain ⟨p, _, g, rs⟩ := gz
  cases hr
  by_cases h : i < n
  · have e : (rngW lo n)[i]? = some (W.d (.int (lo + (i : Nat)))) := by
      unfold rngW
      rw [List.getElem?_map, List.getElem?_range h]
      rfl
    rw [e]
    refine ⟨h, fun x H3 ⟨y1, y2⟩ => ?_⟩
    subst y1
    refine ⟨Fr.refl, ?_⟩
    show RepD _ _ _ _ _
    rw [RepD]; exact y2
  · have e : (rngW lo n)[i]? = none := by
      rw [List.getElem?_eq_none_iff]
      unfold rngW
      rw [List.length_map, List.length_range]
      omega
    rw [e]
    exact Nat.le_of_not_lt h
def rg1 : Sto → List W → Option Src
  | _, [.d (.int j)] => if j.natAbs ≤ 2000000 then some (.its (rngW 0 j.toNat)) else none
  | _, _ => none
def rg2 : Sto → List W → Option Src
  | _, [.d (.int i), .d (.int j)] => if i.natAbs ≤ 2000000 ∧ j.natAbs ≤ 2000000 then some (.its (rngW i (j - i).toNat)) else none
  | _, _ => none
def iargs (f : Sto → List W → Option Src) (m : Am) : Im := fun ρ S => (m ρ S).bind fun p => (f p.2 p.1).bind fun s => some (s, p.2)
theorem int_rep {K : PySem.W.Frag} {μ : List Addr} {N : Addr → Prop} {H : Hp} {i : Int} {v : V} (q : RepW K μ N H (.d (.int i)) v) : v = .int i := by
  have q' : RepD _ _ _ _ _ := q
  rw [RepD] at q'; exact q'
section
variable {X : Cx} {tg a b : Expr} {ms : Am} {p pos : Pos}
theorem rg1_some {S : Sto} {ws : List W} {s : Src} (h : rg1 S ws = some s) : ∃ j : Int, ws = [.d (.int j)] ∧ (-(2 ^ 62) ≤ j ∧ j < 2 ^ 62) ∧ s = .its (rngW 0 j.toNat) := by
  unfold rg1 at h
  split at h
  · split at h
    · rename_i hb; cases h; exact ⟨_, rfl, by omega, rfl⟩
    · cases h
  · cases h
theorem rg2_some {S : Sto} {ws : List W} {s : Src} (h : rg2 S ws = some s) : ∃ i j : Int, ws = [.d (.int i), .d (.int j)] ∧ (-(2 ^ 62) ≤ i ∧ i < 2 ^ 62 ∧ -(2 ^ 62) ≤ j ∧ j < 2 ^ 62) ∧ s = .its (rngW i (j - i).toNat) := by
  unfold rg2 at h
  split at h
  · split at h
    · rename_i hb; cases h; exact ⟨_, _, rfl, by omega, rfl⟩
    · cases h
  · cases h
theorem rep1 {K : PySem.W.Frag} {μ : List Addr} {N : Addr → Prop} {H : Hp} {w : W} {vs : List V} (q : RepWs K μ N H [w] vs) : ∃ v, vs = [v] ∧ RepW K μ N H w v := by
  cases q with
  | cons q1 q2 => cases q2; exact ⟨_, rfl, q1⟩
theorem rep2 {K : PySem.W.Frag} {μ : List Addr} {N : Addr → Prop} {H : Hp} {w u : W} {vs : List V} (q : RepWs K μ N H [w, u] vs) : ∃ v z, vs = [v, z] ∧ RepW K μ N H w v ∧ RepW K μ N H u z := by
  cases q with
  | cons q1 q2 =>
    obtain ⟨z, rfl, q3⟩ := rep1 q2
    exact ⟨_, _, rfl, q1, q3⟩
theorem mi_range1 (hg : Gl X "range") (hm : X.mg "range" = none) (ha : MA X [a] ms) (hs : starEach [a] X.env = [(false, eval a X.env)] := by rfl) : MI X tg (.Call (.Name "range" p) [a] [] pos) (iargs rg1 ms) :=
  PI.cons (pi_range1 hg hm ha hs) fun σ H R ⟨F, μ, ρ, S, src, S', rs, rst, h, k⟩ => by
    obtain ⟨⟨ws, S1⟩, e1, h⟩ := bind_some h
    obtain ⟨s, e2, h⟩ := bind_some h
    cases h
    obtain ⟨j, rfl, hb, rfl⟩ := rg1_some e2
    refine ⟨F, μ, ρ, S, _, S1, rs, rst, e1, fun μ1 vs H1 g q => ?_⟩
    obtain ⟨v, rfl, q1⟩ := rep1 q
    cases int_rep q1
    exact ⟨_, rfl, hb.1, hb.2, k μ1 _ H1 g range_ok⟩
theorem mi_range2 (hg : Gl X "range") (hm : X.mg "range" = none) (ha : MA X [a, b] ms) (hs : starEach [a, b] X.env = [(false, eval a X.env), (false, eval b X.env)] := by rfl) (hs2 : starEach [b] X.env = [(false, eval b X.env)] := by rfl) : MI X tg (.Call (.Name "range" p) [a, b] [] pos) (iargs rg2 ms) :=
  PI.cons (pi_range2 hg hm ha hs hs2) fun σ H R ⟨F, μ, ρ, S, src, S', rs, rst, h, k⟩ => by
    obtain ⟨⟨ws, S1⟩, e1, h⟩ := bind_some h
    obtain ⟨s, e2, h⟩ := bind_some h
    cases h
    obtain ⟨i, j, rfl, hb, rfl⟩ := rg2_some e2
    refine ⟨F, μ, ρ, S, _, S1, rs, rst, e1, fun μ1 vs H1 g q => ?_⟩
    obtain ⟨v, u, rfl, q1, q2⟩ := rep2 q
    cases int_rep q1
    cases int_rep q2
    exact ⟨_, _, rfl, hb, k μ1 _ H1 g range_ok⟩
end

/-! ### targets -/
abbrev Gm := Sto → W → Rho → Option Rho
abbrev Gsm := Sto → List W → Rho → Option Rho
def gnm (i : Nat) : Gm := fun _ w ρ => some (ρ.set i (some w))
def gnil : Gsm := fun _ ws ρ => match ws with
  | [] => some ρ
  | _ => none
def gcons (g : Gm) (r : Gsm) : Gsm := fun S ws ρ => match ws with
  | w :: us => (g S w ρ).bind fun ρ1 => r S us ρ1
  | [] => none
def gtp (n : Nat) (r : Gsm) : Gm := fun S w ρ => match w with
  | .d (.tup ds) => if ds.length = n then r S (ds.map W.d) ρ else none
  | _ => none
section
variable (K : PySem.W.Frag)
def LG (g : Gm) (T : List Nat) : TG := fun v σ H Q => ∃ (F : Addr → Prop) (μ : List Addr) (ρ : Rho) (S : Sto) (w : W) (ρ' : Rho), RS K F μ S H ∧ RSt K μ (NF F μ S) H σ ρ ∧ RepW K μ (NF F μ S) H w v ∧ g S w ρ = some ρ' ∧
  ∀ σ', RSt K μ (NF F μ S) H σ' ρ' → σ'.length = σ.length → (∀ i, i ∉ T → σ'[i]? = σ[i]?) → Q σ' H
def LGs (g : Gsm) (T : List Nat) : TGs := fun vs σ H Q => ∃ (F : Addr → Prop) (μ : List Addr) (ρ : Rho) (S : Sto) (ws : List W) (ρ' : Rho), RS K F μ S H ∧ RSt K μ (NF F μ S) H σ ρ ∧ RepWs K μ (NF F μ S) H ws vs ∧ g S ws ρ = some ρ' ∧
  ∀ σ', RSt K μ (NF F μ S) H σ' ρ' → σ'.length = σ.length → (∀ i, i ∉ T → σ'[i]? = σ[i]?) → Q σ' H
end
theorem PG.cons {X : Cx} {e : Expr} {t t' : TG} (h : PG X e t) (f : ∀ v σ H Q, t' v σ H Q → t v σ H Q) : PG X e t' := ⟨fun pins s σ H v u Q I r q => h.run pins s σ H v u Q I r (f _ _ _ _ q)⟩
theorem PGs.cons {X : Cx} {e : List Expr} {t t' : TGs} (h : PGs X e t) (f : ∀ v σ H Q, t' v σ H Q → t v σ H Q) : PGs X e t' := ⟨fun pins s σ H v u Q I r q => h.run pins s σ H v u Q I r (f _ _ _ _ q)⟩
theorem RSt.set {K : PySem.W.Frag} {μ : List Addr} {N : Addr → Prop} {H : Hp} {σ : L2.St} {ρ : Rho} {i : Nat} {w : W} {v : V} (r : RSt K μ N H σ ρ) (q : RepW K μ N H w v) : RSt K μ N H (σ.set i (some v)) (ρ.set i (some w)) := by
  refine ⟨by rw [List.length_set, List.length_set]; exact r.len, fun j w' e => ?_⟩
  by_cases hj : i = j
  · subst hj
    by_cases hl : i < ρ.length
    · rw [List.getElem?_set_self hl] at e
      cases e
      exact ⟨v, List.getElem?_set_self (by rw [r.len]; exact hl), q⟩
    · rw [List.getElem?_eq_none (by simpa using hl)] at e; cases e
  · rw [List.getElem?_set_ne hj] at e ⊢
    exact r.at_ j w' e
section
variable {X : Cx} {x : Str} {pos : Pos} {e : Expr} {es : List Expr}
theorem mg_name {i : Nat} (hN : X.N.Nodup) (hi : X.N[i]? = some x) (hx : Loc X.env.scope x) (hf : X.fn x = true ∨ X.env.scope.names.lookup x = some .local := by first | exact .inl rfl | exact .inr rfl | assumption) : PG X (.Name x pos) (LG X.K (gnm i) [i]) :=
  PG.cons (pg_name hN hi hx hf) fun v σ H Q ⟨F, μ, ρ, S, w, ρ', rs, rst, q, h, k⟩ => by
    cases h
    exact k _ (rst.set q) (List.length_set ..) fun j hj => List.getElem?_set_ne (fun z => hj (by rw [z]; exact List.mem_singleton.mpr rfl))
theorem mgs_nil : PGs X [] (LGs X.K gnil []) := PGs.cons pgs_nil fun vs σ H Q ⟨F, μ, ρ, S, ws, ρ', rs, rst, q, h, k⟩ => by
  cases q with
  | nil => cases h; exact ⟨rfl, k σ rst rfl fun _ _ => rfl⟩
  | cons _ _ => cases h
theorem mgs_cons {g : Gm} {gs : Gsm} {T U : List Nat} (h1 : PG X e (LG X.K g T)) (h2 : PGs X es (LGs X.K gs U)) (hs : (assignEach (e :: es) X.env).map (·.2) = assign e X.env :: (assignEach es X.env).map (·.2) := by rfl) : PGs X (e :: es) (LGs X.K (gcons g gs) (T ++ U)) :=
  PGs.cons (pgs_cons h1 h2 hs) fun vs σ H Q ⟨F, μ, ρ, S, ws, ρ', rs, rst, q, h, k⟩ => by
    cases q with
    | nil => cases h
    | cons q1 q2 =>
      obtain ⟨ρ1, e1, h⟩ := bind_some h
      refine ⟨_, _, rfl, F, μ, ρ, S, _, ρ1, rs, rst, q1, e1, fun σ1 r1 l1 o1 => ⟨F, μ, ρ1, S, _, ρ', rs, r1, q2, h, fun σ2 r2 l2 o2 => k σ2 r2 (l2.trans l1) fun i hi => ?_⟩⟩
      rw [o2 i (fun z => hi (List.mem_append_right _ z)), o1 i (fun z => hi (List.mem_append_left _ z))]
theorem mg_tup {gs : Gsm} {T : List Nat} {k n : Nat} (hc : X.calm = true) (h : PGs X es (LGs X.K gs T)) (hn : (assignEach es X.env).length = n := by rfl) (hst : (assignEach es X.env).findIdx? (·.1) = none := by rfl) : PG X (.Tuple es k pos) (LG X.K (gtp n gs) T) :=
  PG.cons (pg_tup hc h hn hst) fun v σ H Q ⟨F, μ, ρ, S, w, ρ', rs, rst, q, h, k⟩ => by
    cases w with
    | d x =>
      cases x with
      | tup ds =>
        have h' : (if ds.length = n then gs S (ds.map W.d) ρ else none) = some ρ' := h
        split at h'
        · rename_i hl
          have q' : RepD _ _ _ _ _ := q
          rw [RepD] at q'
          obtain ⟨a, vs, e, h1, h2⟩ := q'
          have h3 := rep_map (μ := μ) h2
          exact ⟨a, vs, e, h1, by rw [← h3.length, List.length_map]; exact hl, F, μ, ρ, S, _, ρ', rs, rst, h3, h', k⟩
        · cases h'
      | _ => cases h
    | ref kk => cases h
    | op _ => cases h
end
end GM

set_option Elab.async false
set_option linter.all false
set_option maxRecDepth 100000
set_option maxHeartbeats 4000000
set_option autoImplicit false
namespace GM
open PySem L2
/-! ### list comprehensions -/
def mwipe (ρ : Rho) : List Nat → Rho
  | [] => ρ
  | v :: vs => (mwipe ρ vs).set v none
def cloop (src : Src) (g : Gm) (c : Tm) (e : Em) (ρ : Rho) : Nat → Nat → Sto → Option (List W × Sto)
  | 0, i, S => (srcAt src S i).bind fun r => match r with
    | none => some ([], S)
    | some _ => none
  | n + 1, i, S => (srcAt src S i).bind fun r => match r with
    | none => some ([], S)
    | some w => (g S w ρ).bind fun ρ1 => (c ρ1 S).bind fun q => if q.1 = true then (e ρ1 q.2).bind fun p => (cloop src g c e ρ n (i + 1) p.2).bind fun r => some (p.1 :: r.1, r.2) else cloop src g c e ρ n (i + 1) q.2
def tyes : Tm := fun _ S => some (true, S)
def lim (r : List W × Sto) : Option (List W × Sto) := if r.1.length ≤ 1000000 then some r else none
def mcomp (mi : Im) (g : Gm) (c : Tm) (e : Em) (vs : List Nat) : Am := fun ρ S => (mi ρ S).bind fun p => (cloop p.1 g c e (mwipe ρ vs) (srcLen p.1 p.2) 0 p.2).bind lim
def cloop2 (src : Src) (g : Gm) (c : Tm) (mi1 : Im) (g1 : Gm) (c1 : Tm) (e : Em) (ρ : Rho) (vs1 : List Nat) : Nat → Nat → Sto → Option (List W × Sto)
  | 0, i, S => (srcAt src S i).bind fun r => match r with
    | none => some ([], S)
    | some _ => none
  | n + 1, i, S => (srcAt src S i).bind fun r => match r with
    | none => some ([], S)
    | some w => (g S w ρ).bind fun ρ1 => (c ρ1 S).bind fun q => if q.1 = true then (mi1 ρ1 q.2).bind fun p1 => (cloop p1.1 g1 c1 e (mwipe ρ1 vs1) (srcLen p1.1 p1.2) 0 p1.2).bind fun r1 => (cloop2 src g c mi1 g1 c1 e ρ vs1 n (i + 1) r1.2).bind fun r => some (r1.1 ++ r.1, r.2) else cloop2 src g c mi1 g1 c1 e ρ vs1 n (i + 1) q.2
def mcomp2 (mi : Im) (g : Gm) (c : Tm) (mi1 : Im) (g1 : Gm) (c1 : Tm) (e : Em) (vs vs1 : List Nat) : Am := fun ρ S => (mi ρ S).bind fun p => (cloop2 p.1 g c mi1 g1 c1 e (mwipe ρ vs) vs1 (srcLen p.1 p.2) 0 p.2).bind lim
theorem lim_some {r r' : List W × Sto} (h : lim r = some r') : r' = r ∧ r.1.length ≤ 1000000 := by
  unfold lim at h
  split at h
  · rename_i hl; cases h; exact ⟨rfl, hl⟩
  · cases h
theorem mwipe_length (ρ : Rho) : ∀ vs : List Nat, (mwipe ρ vs).length = ρ.length
  | [] => rfl
  | v :: vs => by unfold mwipe; rw [List.length_set, mwipe_length ρ vs]
theorem mwipe_some {ρ : Rho} {i : Nat} {x : W} : ∀ {vs : List Nat}, (mwipe ρ vs)[i]? = some (some x) → ρ[i]? = some (some x) ∧ i ∉ vs
  | [], h => ⟨h, by simp⟩
  | v :: vs, h => by
    unfold mwipe at h
    by_cases hi : v = i
    · subst hi
      by_cases hv : v < (mwipe ρ vs).length
      · rw [List.getElem?_set_self hv] at h; cases h
      · rw [List.getElem?_eq_none (by simpa using hv)] at h; cases h
    · rw [List.getElem?_set_ne hi] at h
      obtain ⟨h1, h2⟩ := mwipe_some h
      exact ⟨h1, by simp only [List.mem_cons, not_or]; exact ⟨fun e => hi e.symm, h2⟩⟩
theorem RSt.wipe {K : PySem.W.Frag} {μ : List Addr} {N : Addr → Prop} {H : Hp} {σ : L2.St} {ρ : Rho} (r : RSt K μ N H σ ρ) (vs : List Nat) : RSt K μ N H (L2.wipe σ vs) (mwipe ρ vs) := by
  refine ⟨by rw [wipe_length, mwipe_length]; exact r.len, fun i w e => ?_⟩
  obtain ⟨e1, e2⟩ := mwipe_some e
  obtain ⟨v, e3, q⟩ := r.at_ i w e1
  exact ⟨v, by rw [wipe_out e2]; exact e3, q⟩
theorem wipe_in {σ : L2.St} {i : Nat} (hl : i < σ.length) : ∀ {vs : List Nat}, i ∈ vs → (wipe σ vs)[i]? = some none
  | v :: vs, h => by
    unfold wipe
    by_cases hi : v = i
    · subst hi
      rw [List.getElem?_set_self (by rw [wipe_length]; exact hl)]
    · rw [List.getElem?_set_ne hi]
      refine wipe_in hl ?_
      rcases List.mem_cons.mp h with z | z
      · exact absurd z.symm hi
      · exact z
theorem wipe_eq {σ σ' : L2.St} {vs : List Nat} (hl : σ'.length = (wipe σ vs).length) (ho : ∀ i, i ∉ vs → σ'[i]? = (wipe σ vs)[i]?) : wipe σ' vs = wipe σ vs := by
  apply List.ext_getElem?
  intro i
  by_cases hi : i ∈ vs
  · by_cases h : i < σ.length
    · rw [wipe_in h hi, wipe_in (by rw [hl, wipe_length]; exact h) hi]
    · rw [List.getElem?_eq_none (by rw [wipe_length, hl, wipe_length]; omega), List.getElem?_eq_none (by rw [wipe_length]; omega)]
  · rw [wipe_out hi, ho i hi]
section
variable {K : PySem.W.Frag}
/-- a comprehension's clause, run within: P what is known of the state throughout; D the list in the making -/
theorem clause {F : Addr → Prop} {D : Addr} {J : It} {src : Src} {g : Gm} {T vs : List Nat} {c : Tm} {e : Em} {ρ : Rho} {σ : L2.St} {Sf : Sto} {total : List W} {Fin : Hp → Prop} (P : List Addr → Sto → Hp → Prop)
    (hT : ∀ i ∈ T, i ∈ vs) (hr : ∀ μ S H, P μ S H → RS K (Fp F D) μ S H) (hs : ∀ μ S H μ' S' H', P μ S H → Gs K (Fp F D) μ S H μ' S' H' → P μ' S' H') (hg : ∀ μ S H xs, P μ S H → P μ S (upd H D (.lst xs)))
    (hj : ∀ μ S H, P μ S H → ∀ (i : Nat) r, srcAt src S i = some r → match r with
      | none => J.stop i H
      | some w => J.go i H ∧ ∀ x H3, J.yld i H x H3 → Fr H H3 ∧ RepW K μ (NF (Fp F D) μ S) H3 w x)
    (hst : ∀ μ S H, P μ S H → RSt K μ (NF (Fp F D) μ S) H (wipe σ vs) (mwipe ρ vs)) (hl : total.length ≤ 1000000)
    (hf : ∀ μ H vs', P μ Sf H → H D = some (.lst vs') → RepWs K μ (NF (Fp F D) μ Sf) H total vs' → Fin H)
    {μ : List Addr} {S : Sto} {H : Hp} {acc : List V} {done rest : List W} {n : Nat} (p : P μ S H) (hD : H D = some (.lst acc)) (q : RepWs K μ (NF (Fp F D) μ S) H done acc) (hc : cloop src g c e (mwipe ρ vs) n 0 S = some (rest, Sf)) (ht : done ++ rest = total) :
    ∃ W : Nat → Nat → Hp → Prop, (∃ m, W 0 m H) ∧ ∀ i m H, W i m H →
      (J.stop i H ∧ Fin H) ∨ (J.go i H ∧ ∃ Nx : Hp → Prop, (∀ H', Nx H' → ∃ m', m' < m ∧ W (i + 1) m' H') ∧ ∀ x H', J.yld i H x H' → LG K g T x (wipe σ vs) H' fun σ2 H2 => wipe σ2 vs = wipe σ vs ∧ LT K c σ2 H2 fun b H3 =>
        if b = true then LE K e σ2 H3 fun y H4 => ∃ acc, H4 D = some (.lst acc) ∧ acc.length < sizeLine ∧ Nx (upd H4 D (.lst (acc ++ [y]))) else Nx H3) := by
  refine ⟨fun i m H => ∃ μ S acc done rest, P μ S H ∧ H D = some (.lst acc) ∧ RepWs K μ (NF (Fp F D) μ S) H done acc ∧ cloop src g c e (mwipe ρ vs) m i S = some (rest, Sf) ∧ done ++ rest = total, ⟨n, μ, S, acc, done, rest, p, hD, q, hc, ht⟩, ?_⟩
  clear p hD q hc ht μ S H acc done rest n
  rintro i m H ⟨μ, S, acc, done, rest, p, hD, q, hc, ht⟩
  have rs := hr μ S H p
  -- the end
  have fin : rest = [] → S = Sf → srcAt src S i = some none → J.stop i H ∧ Fin H := fun e1 e2 e3 => by
    subst e1 e2
    rw [List.append_nil] at ht
    subst ht
    exact ⟨hj μ S H p i none e3, hf μ H acc p hD q⟩
  cases m with
  | zero =>
    unfold cloop at hc
    obtain ⟨r, e1, hc⟩ := bind_some hc
    cases r with
    | none => cases hc; exact .inl (fin rfl rfl e1)
    | some w => cases hc
  | succ m =>
    unfold cloop at hc
    obtain ⟨r, e1, hc⟩ := bind_some hc
    cases r with
    | none => cases hc; exact .inl (fin rfl rfl e1)
    | some w =>
      obtain ⟨go, yl⟩ := hj μ S H p i (some w) e1
      obtain ⟨ρ1, e2, hc⟩ := bind_some hc
      obtain ⟨⟨b, S1⟩, e3, hc⟩ := bind_some hc
      refine .inr ⟨go, fun H' => ∃ μ S acc done rest, P μ S H' ∧ H' D = some (.lst acc) ∧ RepWs K μ (NF (Fp F D) μ S) H' done acc ∧ cloop src g c e (mwipe ρ vs) m (i + 1) S = some (rest, Sf) ∧ done ++ rest = total, fun H' z => ⟨m, Nat.lt_succ_self m, z⟩, fun x H' y => ?_⟩
      obtain ⟨fr, rw'⟩ := yl x H' y
      have g1 := fr.gs rs
      have p1 := hs _ _ _ _ _ _ p g1
      refine ⟨Fp F D, μ, mwipe ρ vs, S, w, ρ1, g1.rs, hst _ _ _ p1, rw', e2, fun σ2 st2 l2 o2 => ⟨wipe_eq l2 fun j hj => o2 j fun z => hj (hT j z), ?_⟩⟩
      refine ⟨Fp F D, μ, ρ1, S, b, S1, g1.rs, st2, e3, fun μ3 H3 g3 => ?_⟩
      have p3 := hs _ _ _ _ _ _ p1 g3
      have g13 := g1.trans g3
      have nD : ∀ {μ S H}, P μ S H → ¬ NA μ S D := fun {μ S H} p z => (hr μ S H p).fd D (.inr rfl) z
      have hD3 : H3 D = some (.lst acc) := g13.go.ext D _ hD (nD p)
      have q3 : RepWs K μ3 (NF (Fp F D) μ3 S1) H3 done acc := q.mono g13.go g13.pre
      cases b with
      | false =>
        rw [if_neg Bool.false_ne_true] at hc
        refine iteF ?_
        exact ⟨μ3, S1, acc, done, rest, p3, hD3, q3, hc, ht⟩
      | true =>
        rw [if_pos rfl] at hc
        refine iteT ?_
        obtain ⟨⟨w4, S4⟩, e4, hc⟩ := bind_some hc
        obtain ⟨⟨rest', S5⟩, e5, hc⟩ := bind_some hc
        cases hc
        refine ⟨Fp F D, μ3, ρ1, S1, w4, S4, g3.rs, st2.mono g3.go g3.pre, e4, fun μ4 y H4 g4 q4 => ?_⟩
        have p4 := hs _ _ _ _ _ _ p3 g4
        have hD4 : H4 D = some (.lst acc) := g4.go.ext D _ hD3 (nD p3)
        have q5 : RepWs K μ4 (NF (Fp F D) μ4 S4) H4 done acc := q3.mono g4.go g4.pre
        have la : acc.length ≤ 1000000 := by
          have h1 := q.length
          have h2 := congrArg List.length ht
          rw [List.length_append] at h2
          omega
        have gr := (RS.grow (xs := acc ++ [y]) (hr _ _ _ p4)).2
        refine ⟨acc, hD4, lim_line la, μ4, S4, acc ++ [y], done ++ [w4], rest', hg _ _ _ _ p4, upd_same, ?_, e5, by rw [List.append_assoc]; exact ht⟩
        exact (q5.append (.cons q4 .nil)).mono gr ⟨[], by simp⟩
/-- a comprehension's reading -/
theorem lc_read {mi : Im} {g : Gm} {T vs : List Nat} {c : Tm} {e : Em} {σ : L2.St} {H : Hp} {Q : VK} (hT : ∀ i ∈ T, i ∈ vs) (h : LF K (mcomp mi g c e vs) σ H Q) : tLc (LI K mi) (LG K g T) (LT K c) (LE K e) vs σ H Q := by
  obtain ⟨F, μ, ρ, S, ws, S', rs, rst, h, k⟩ := h
  obtain ⟨⟨src, S1⟩, e1, h⟩ := bind_some h
  obtain ⟨⟨rest, Sf⟩, e2, h⟩ := bind_some h
  obtain ⟨e3, hl⟩ := lim_some h
  cases e3
  refine ⟨F, μ, ρ, S, src, S1, rs, rst, e1, fun μ1 J H1 g1 ito D hD => ?_⟩
  refine clause (K := K) (F := F) (D := D) (src := src) (ρ := ρ) (total := ws) (Sf := S') (fun μ2 S2 H2 => Gx K F μ1 S1 H1 (Fp F D) μ2 S2 H2 ∧ Gz K F μ1 S1 H1 (Fp F D) μ2 S2 H2) hT (fun _ _ _ p => p.1.rs) (fun μ2 S2 H2 μ3 S3 H3 p gs => ⟨p.1.step gs, p.2.trans (gs.gz p.1.rs)⟩) (fun μ2 S2 H2 xs p => ⟨p.1.grown hD, p.2.trans (Gz.grown p.1.rs)⟩)
    (fun μ2 S2 H2 p => ito _ _ _ _ p.2) (fun μ2 S2 H2 p => ((rst.mono g1.go g1.pre).wipe vs).mono p.1.go p.1.pre) hl (fun μ2 H2 vs' p hD2 q => ?_) (μ := μ1) (S := S1) (acc := []) (done := []) ⟨Gx.opened g1.rs hD, Gz.opened g1.rs hD⟩ upd_same .nil e2 rfl
  have gc := Gx.closed g1.rs p.1 hD
  have hF : ¬ F D := fun z => mut_there (g1.rs.fm D z) hD
  have := k μ2 (less H2 D) D vs' (g1.trans gc) less_self (q.mono (p.1.rs.close hF).2 ⟨[], by simp⟩)
  rw [upd_less hD2] at this
  exact this
end
section
variable {K : PySem.W.Frag}
theorem lc_read2 {mi mi1 : Im} {g g1 : Gm} {T T1 vs vs1 : List Nat} {c c1 : Tm} {e : Em} {σ : L2.St} {H : Hp} {Q : VK} (hT : ∀ i ∈ T, i ∈ vs) (hT1 : ∀ i ∈ T1, i ∈ vs1) (h : LF K (mcomp2 mi g c mi1 g1 c1 e vs vs1) σ H Q) :
    tLc2 (LI K mi) (LG K g T) (LT K c) (LI K mi1) (LG K g1 T1) (LT K c1) (LE K e) vs vs1 σ H Q := by
  obtain ⟨F, μ, ρ, S, ws, S', rs, rst, h, k⟩ := h
  obtain ⟨⟨src, S1⟩, e1, h⟩ := bind_some h
  obtain ⟨⟨rest, Sf⟩, e2, h⟩ := bind_some h
  obtain ⟨e3, hl⟩ := lim_some h
  cases e3
  refine ⟨F, μ, ρ, S, src, S1, rs, rst, e1, fun μ1 J H1 g1' ito D hD => ?_⟩
  have rst1 := (rst.mono g1'.go g1'.pre).wipe vs
  let P : List Addr → Sto → Hp → Prop := fun μ2 S2 H2 => Gx K F μ1 S1 H1 (Fp F D) μ2 S2 H2 ∧ Gz K F μ1 S1 H1 (Fp F D) μ2 S2 H2
  have Ps : ∀ {μ2 S2 H2 μ3 S3 H3}, P μ2 S2 H2 → Gs K (Fp F D) μ2 S2 H2 μ3 S3 H3 → P μ3 S3 H3 := fun p gs => ⟨p.1.step gs, p.2.trans (gs.gz p.1.rs)⟩
  have Pg : ∀ {μ2 S2 H2 xs}, P μ2 S2 H2 → P μ2 S2 (upd H2 D (.lst xs)) := fun p => ⟨p.1.grown hD, p.2.trans (Gz.grown p.1.rs)⟩
  have nD : ∀ {μ S H}, P μ S H → ¬ NA μ S D := fun p z => p.1.rs.fd D (.inr rfl) z
  let WW : Nat → Nat → Hp → Prop := fun i m H => ∃ μ S acc done rest, P μ S H ∧ H D = some (.lst acc) ∧ RepWs K μ (NF (Fp F D) μ S) H done acc ∧ cloop2 src g c mi1 g1 c1 e (mwipe ρ vs) vs1 m i S = some (rest, S') ∧ done ++ rest = ws
  refine ⟨WW, ⟨_, μ1, S1, [], [], ws, ⟨Gx.opened g1'.rs hD, Gz.opened g1'.rs hD⟩, upd_same, .nil, e2, rfl⟩, ?_⟩
  rintro i m H2 ⟨μ2, S2, acc, done, rest, p, hD2, q, hc, ht⟩
  have rs2 := p.1.rs
  have fin : rest = [] → S2 = S' → srcAt src S2 i = some none → J.stop i H2 ∧ Q (.ref D) H2 := fun e1 e2 e3 => by
    subst e1 e2
    rw [List.append_nil] at ht
    subst ht
    refine ⟨ito _ _ _ _ p.2 i none e3, ?_⟩
    have gc := Gx.closed g1'.rs p.1 hD
    have hF : ¬ F D := fun z => mut_there (g1'.rs.fm D z) hD
    have := k μ2 (less H2 D) D acc (g1'.trans gc) less_self (q.mono (p.1.rs.close hF).2 ⟨[], by simp⟩)
    rw [upd_less hD2] at this
    exact this
  cases m with
  | zero =>
    unfold cloop2 at hc
    obtain ⟨r, e1, hc⟩ := bind_some hc
    cases r with
    | none => cases hc; exact .inl (fin rfl rfl e1)
    | some w => cases hc
  | succ m =>
    unfold cloop2 at hc
    obtain ⟨r, e1, hc⟩ := bind_some hc
    cases r with
    | none => cases hc; exact .inl (fin rfl rfl e1)
    | some w =>
      obtain ⟨go, yl⟩ := ito _ _ _ _ p.2 i (some w) e1
      obtain ⟨ρ1, e2, hc⟩ := bind_some hc
      obtain ⟨⟨b, S3⟩, e3, hc⟩ := bind_some hc
      refine .inr ⟨go, fun H' => WW (i + 1) m H', fun H' z => ⟨m, Nat.lt_succ_self m, z⟩, fun x H' y => ?_⟩
      obtain ⟨fr, rw'⟩ := yl x H' y
      have g2 := fr.gs rs2
      have p2 := Ps p g2
      refine ⟨Fp F D, μ2, mwipe ρ vs, S2, w, ρ1, g2.rs, rst1.mono p2.1.go p2.1.pre, rw', e2, fun σ2 st2 l2 o2 => ⟨wipe_eq l2 fun j hj => o2 j fun z => hj (hT j z), ?_⟩⟩
      refine ⟨Fp F D, μ2, ρ1, S2, b, S3, g2.rs, st2, e3, fun μ3 H3 g3 => ?_⟩
      have p3 := Ps p2 g3
      have g23 := g2.trans g3
      have hD3 : H3 D = some (.lst acc) := g23.go.ext D _ hD2 (nD p)
      have q3 : RepWs K μ3 (NF (Fp F D) μ3 S3) H3 done acc := q.mono g23.go g23.pre
      cases b with
      | false =>
        rw [if_neg Bool.false_ne_true] at hc
        refine iteF ?_
        exact ⟨μ3, S3, acc, done, rest, p3, hD3, q3, hc, ht⟩
      | true =>
        rw [if_pos rfl] at hc
        refine iteT ?_
        obtain ⟨⟨src1, S4⟩, e4, hc⟩ := bind_some hc
        obtain ⟨⟨r1, S5⟩, e5, hc⟩ := bind_some hc
        obtain ⟨⟨rest', S6⟩, e6, hc⟩ := bind_some hc
        cases hc
        refine ⟨Fp F D, μ3, ρ1, S3, src1, S4, g3.rs, st2.mono g3.go g3.pre, e4, fun μ4 J1 H4 g4 ito1 => ?_⟩
        have p4 := Ps p3 g4
        have hD4 : H4 D = some (.lst acc) := g4.go.ext D _ hD3 (nD p3)
        have q4 : RepWs K μ4 (NF (Fp F D) μ4 S4) H4 done acc := q3.mono g4.go g4.pre
        have st4 : RSt K μ4 (NF (Fp F D) μ4 S4) H4 (wipe σ2 vs1) (mwipe ρ1 vs1) := ((st2.mono g3.go g3.pre).mono g4.go g4.pre).wipe vs1
        have hl1 : (done ++ r1).length ≤ 1000000 := by
          have h2 := congrArg List.length ht
          have h3 : ws.length ≤ 1000000 := hl
          simp only [List.length_append] at h2 ⊢
          omega
        refine clause (K := K) (F := F) (D := D) (src := src1) (ρ := ρ1) (total := done ++ r1) (Sf := S5) (fun μ S H => P μ S H ∧ Gz K (Fp F D) μ4 S4 H4 (Fp F D) μ S H) hT1 (fun _ _ _ p => p.1.1.rs) (fun μ2 S2 H2 μ3 S3 H3 p gs => ⟨Ps p.1 gs, p.2.trans (gs.gz p.1.1.rs)⟩) (fun μ2 S2 H2 xs p => ⟨Pg p.1, p.2.trans (Gz.grown p.1.1.rs)⟩)
          (fun μ2 S2 H2 p => ito1 _ _ _ _ p.2) (fun μ2 S2 H2 p => st4.mono p.2.go p.2.pre) hl1 (fun μ2 H2 vs' p hD2 q => ⟨μ2, S5, vs', done ++ r1, rest', p.1, hD2, q, e6, by rw [List.append_assoc]; exact ht⟩) (μ := μ4) (S := S4) (acc := acc) (done := done) (rest := r1) ⟨p4, (Gs.refl p4.1.rs).gz p4.1.rs⟩ hD4 q4 e5 rfl
end
section
variable {X : Cx} {elt tg iter tg1 iter1 : Expr} {ifs ifs1 : List Expr} {scope : Scope} {own : List (Str × Nat)} {pos : Pos} {mi mi1 : Im} {g g1 : Gm} {T T1 : List Nat} {c c1 : Tm} {e : Em}
abbrev MTs (X : Cx) (ifs : List Expr) (m : Tm) : Prop := PTs X ifs (LT X.K m)
theorem PTs.cons {X : Cx} {ifs : List Expr} {t t' : TT} (h : PTs X ifs t) (f : ∀ σ H Q, t' σ H Q → t σ H Q) : PTs X ifs t' := ⟨fun pins s σ H Q I q => h.run pins s σ H Q I (f _ _ _ q)⟩
theorem mts_nil : MTs X [] tyes := PTs.cons pts_nil fun σ H Q ⟨F, μ, ρ, S, b, S', rs, rst, h, k⟩ => by
  cases h
  exact k μ H (Gs.refl rs)
theorem mts_one {x : Expr} {m : Tm} (h : MT X x m) : MTs X [x] m := pts_one h
abbrev blkX (X : Cx) (s : Shared) (H : Hp) (scope : Scope) (cl : List (Str × Addr)) (C : Addr) (fp : List Addr) : Cx := X.blk s H scope (compEnvC scope cl C X.env) fp
theorem mf_comp (hc : X.calm = true) (hN : X.N.Nodup) (hi : MI X tg iter mi) (ok : BlkOk X.N X.env.scope scope own) (hT : ∀ i ∈ T, i ∈ own.map (·.2))
    (hg : ∀ (s : Shared) (H : Hp) (C : Addr) (cl : List (Str × Addr)) (fp : List Addr), PG (X.blk s H scope (compEnvC scope cl C X.env) fp) tg (LG X.K g T)) (ht : ∀ (s : Shared) (H : Hp) (C : Addr) (cl : List (Str × Addr)) (fp : List Addr), PTs (X.blk s H scope (compEnvC scope cl C X.env) fp) ifs (LT X.K c))
    (he : ∀ (s : Shared) (H : Hp) (C : Addr) (cl : List (Str × Addr)) (fp : List Addr), PE (X.blk s H scope (compEnvC scope cl C X.env) fp) elt (LE X.K e)) (hs : ∀ x, foldedSetIterable iter X.env x = pure x := by intro _; rfl) :
    MF X (.ListComp elt [⟨tg, iter, ifs, 0⟩] scope pos) (mcomp mi g c e (own.map (·.2))) :=
  PE.cons (pe_lc hc hN hi ok hg ht he hs) fun σ H Q h => lc_read hT h
theorem mf_comp2 {vs1 : List Nat} (hc : X.calm = true) (hN : X.N.Nodup) (hi : MI X tg iter mi) (ok : BlkOk X.N X.env.scope scope own) (hv : ∀ i ∈ vs1, i ∈ own.map (·.2)) (hT : ∀ i ∈ T, i ∈ own.map (·.2)) (hT1 : ∀ i ∈ T1, i ∈ vs1)
    (hg : ∀ (s : Shared) (H : Hp) (C : Addr) (cl : List (Str × Addr)) (fp : List Addr), PG (X.blk s H scope (compEnvC scope cl C X.env) fp) tg (LG X.K g T)) (ht : ∀ (s : Shared) (H : Hp) (C : Addr) (cl : List (Str × Addr)) (fp : List Addr), PTs (X.blk s H scope (compEnvC scope cl C X.env) fp) ifs (LT X.K c))
    (hi1 : ∀ (s : Shared) (H : Hp) (C : Addr) (cl : List (Str × Addr)) (fp : List Addr), PI (X.blk s H scope (compEnvC scope cl C X.env) fp) tg1 iter1 (LI X.K mi1))
    (hg1 : ∀ (s : Shared) (H : Hp) (C : Addr) (cl : List (Str × Addr)) (fp : List Addr), PG (X.blk s H scope (compEnvC scope cl C X.env) fp) tg1 (LG X.K g1 T1)) (ht1 : ∀ (s : Shared) (H : Hp) (C : Addr) (cl : List (Str × Addr)) (fp : List Addr), PTs (X.blk s H scope (compEnvC scope cl C X.env) fp) ifs1 (LT X.K c1))
    (he : ∀ (s : Shared) (H : Hp) (C : Addr) (cl : List (Str × Addr)) (fp : List Addr), PE (X.blk s H scope (compEnvC scope cl C X.env) fp) elt (LE X.K e)) (hs : ∀ x, foldedSetIterable iter X.env x = pure x := by intro _; rfl) (hs1 : ∀ env x, foldedSetIterable iter1 env x = pure x := by intro _ _; rfl) :
    MF X (.ListComp elt [⟨tg, iter, ifs, 0⟩, ⟨tg1, iter1, ifs1, 0⟩] scope pos) (mcomp2 mi g c mi1 g1 c1 e (own.map (·.2)) vs1) :=
  PE.cons (pe_lc2 hc hN hi ok hv hg ht hi1 hg1 ht1 he hs hs1) fun σ H Q h => lc_read2 hT hT1 h
end
end GM

set_option Elab.async false
set_option linter.all false
set_option maxRecDepth 100000
set_option maxHeartbeats 4000000
set_option autoImplicit false
namespace GM
open PySem L2
/-! ### statements -/
inductive Out where
  | nx (ρ : Rho) (S : Sto) | ret (w : W) (S : Sto) | bk (ρ : Rho) (S : Sto) | ct (ρ : Rho) (S : Sto)
abbrev Bm := Rho → Sto → Option Out
def OutOk (K : PySem.W.Frag) (F : Addr → Prop) (D : Ends) (μ : List Addr) (S : Sto) (H : Hp) : Out → Prop
  | .nx ρ' S' => ∀ μ' σ' H', Gs K F μ S H μ' S' H' → RSt K μ' (NF F μ' S') H' σ' ρ' → D.nx σ' H'
  | .bk ρ' S' => ∀ μ' σ' H', Gs K F μ S H μ' S' H' → RSt K μ' (NF F μ' S') H' σ' ρ' → D.bk σ' H'
  | .ct ρ' S' => ∀ μ' σ' H', Gs K F μ S H μ' S' H' → RSt K μ' (NF F μ' S') H' σ' ρ' → D.ct σ' H'
  | .ret w S' => ∀ μ' v H', Gs K F μ S H μ' S' H' → RepW K μ' (NF F μ' S') H' w v → D.rt v H'
def LS (K : PySem.W.Frag) (m : Bm) : TS := fun D σ H => ∃ (F : Addr → Prop) (μ : List Addr) (ρ : Rho) (S : Sto) (o : Out), RS K F μ S H ∧ RSt K μ (NF F μ S) H σ ρ ∧ m ρ S = some o ∧ OutOk K F D μ S H o
abbrev MS (X : Cx) (st : Stmt) (m : Bm) : Prop := PS X st (LS X.K m)
abbrev MSs (X : Cx) (st : List Stmt) (m : Bm) : Prop := PSs X st (LS X.K m)
theorem PS.cons {X : Cx} {e : Stmt} {t t' : TS} (h : PS X e t) (f : ∀ D σ H, t' D σ H → t D σ H) : PS X e t' := ⟨fun pins s σ H D I q => h.run pins s σ H D I (f _ _ _ q)⟩
theorem PSs.cons {X : Cx} {e : List Stmt} {t t' : TS} (h : PSs X e t) (f : ∀ D σ H, t' D σ H → t D σ H) : PSs X e t' := ⟨fun pins s σ H D I q => h.run pins s σ H D I (f _ _ _ q)⟩
theorem OutOk.go {K : PySem.W.Frag} {F : Addr → Prop} {D : Ends} {μ μ1 : List Addr} {S S1 : Sto} {H H1 : Hp} (g : Gs K F μ S H μ1 S1 H1) : ∀ {o : Out}, OutOk K F D μ S H o → OutOk K F D μ1 S1 H1 o
  | .nx _ _, h => fun μ' σ' H' g' r => h μ' σ' H' (g.trans g') r
  | .bk _ _, h => fun μ' σ' H' g' r => h μ' σ' H' (g.trans g') r
  | .ct _ _, h => fun μ' σ' H' g' r => h μ' σ' H' (g.trans g') r
  | .ret _ _, h => fun μ' v H' g' r => h μ' v H' (g.trans g') r
def bnil : Bm := fun ρ S => some (.nx ρ S)
def bseq (a b : Bm) : Bm := fun ρ S => (a ρ S).bind fun o => match o with
  | .nx ρ1 S1 => b ρ1 S1
  | .ret w S1 => some (.ret w S1)
  | .bk ρ1 S1 => some (.bk ρ1 S1)
  | .ct ρ1 S1 => some (.ct ρ1 S1)
def bset (i : Nat) (m : Em) : Bm := fun ρ S => (m ρ S).bind fun p => some (.nx (ρ.set i (some p.1)) p.2)
def basg (g : Gm) (m : Em) : Bm := fun ρ S => (m ρ S).bind fun p => (g p.2 p.1 ρ).bind fun ρ1 => some (.nx ρ1 p.2)
def bret (m : Em) : Bm := fun ρ S => (m ρ S).bind fun p => some (.ret p.1 p.2)
def bdrop (m : Em) : Bm := fun ρ S => (m ρ S).bind fun p => some (.nx ρ p.2)
def bcond (c : Tm) (a b : Bm) : Bm := fun ρ S => (c ρ S).bind fun q => if q.1 = true then a ρ q.2 else b ρ q.2
def bbrk : Bm := fun ρ S => some (.bk ρ S)
def bcnt : Bm := fun ρ S => some (.ct ρ S)
def baug (i : Nat) (f : Int → Int → Int) (m : Em) : Bm := fun ρ S => match ρ[i]? with
  | some (some (.d (.int a))) => (m ρ S).bind fun p => match p.1 with
    | .d (.int b) => some (.nx (ρ.set i (some (.d (.int (f a b))))) p.2)
    | _ => none
  | _ => none
def floop (src : Src) (g : Gm) (b : Bm) : Nat → Nat → Rho → Sto → Option Out
  | 0, i, ρ, S => (srcAt src S i).bind fun r => match r with
    | none => some (.nx ρ S)
    | some _ => none
  | n + 1, i, ρ, S => (srcAt src S i).bind fun r => match r with
    | none => some (.nx ρ S)
    | some w => (g S w ρ).bind fun ρ1 => (b ρ1 S).bind fun o => match o with
      | .nx ρ2 S2 => floop src g b n (i + 1) ρ2 S2
      | .ct ρ2 S2 => floop src g b n (i + 1) ρ2 S2
      | .bk ρ2 S2 => some (.nx ρ2 S2)
      | .ret w S2 => some (.ret w S2)
def bfor (mi : Im) (g : Gm) (b : Bm) : Bm := fun ρ S => (mi ρ S).bind fun p => floop p.1 g b (srcLen p.1 p.2) 0 ρ p.2
def wloop (c : Tm) (b : Bm) : Nat → Rho → Sto → Option Out
  | 0, _, _ => none
  | n + 1, ρ, S => (c ρ S).bind fun q => if q.1 = true then (b ρ q.2).bind fun o => match o with
      | .nx ρ2 S2 => wloop c b n ρ2 S2
      | .ct ρ2 S2 => wloop c b n ρ2 S2
      | .bk ρ2 S2 => some (.nx ρ2 S2)
      | .ret w S2 => some (.ret w S2) else some (.nx ρ q.2)
def bwhile (n : Nat) (c : Tm) (b : Bm) : Bm := wloop c b n
section
variable {K : PySem.W.Frag} {D : Ends} {σ : L2.St} {H : Hp}
theorem thw_read {m : Am} {Q : VK} (h : LE K (thw m) σ H Q) : LF K m σ H Q := by
  obtain ⟨F, μ, ρ, S, w, S', rs, rst, h, k⟩ := h
  obtain ⟨⟨ws, S1⟩, e1, h⟩ := bind_some h
  cases h
  refine ⟨F, μ, ρ, S, ws, S1, rs, rst, e1, fun μ' H' p vs g hp q => ?_⟩
  have g2 := Gs.cell (p := p) (o := .lst vs) (c := .lst ws) g.rs hp (fun z => nomatch z) fun {N'} gg => ⟨vs, upd_same, q.mono gg ⟨[p], rfl⟩⟩
  refine k _ _ _ (g.trans g2) ⟨p, ?_, rfl⟩
  rw [← g.rs.len, List.getElem?_append_right (Nat.le_refl _), Nat.sub_self]
  rfl
theorem frz_read {m : Am} {Q : VK} (h : LE K (frz m) σ H Q) : LF K m σ H Q := by
  obtain ⟨F, μ, ρ, S, w, S', rs, rst, h, k⟩ := h
  obtain ⟨⟨ws, S1⟩, e1, h⟩ := bind_some h
  obtain ⟨ds, e2, h⟩ := bind_some h
  cases h
  refine ⟨F, μ, ρ, S, ws, S1, rs, rst, e1, fun μ' H' p vs g hp q => ?_⟩
  have f : Fr H' (upd H' p (.lst vs)) := Fr.upd hp
  have g2 := f.gs g.rs
  refine k μ' _ _ (g.trans g2) ?_
  show RepD _ _ _ _ _
  rw [RepD]
  exact ⟨p, vs, rfl, ⟨upd_same, fun z => g.rs.there z hp⟩, (datas_rep e2 q).mono g2.go⟩
theorem bset_read {i : Nat} {m : Em} (h : LS K (bset i m) D σ H) : LE K m σ H fun x H1 => gName i x σ H1 D.nx := by
  obtain ⟨F, μ, ρ, S, o, rs, rst, h, k⟩ := h
  obtain ⟨⟨w, S1⟩, e1, h⟩ := bind_some h
  cases h
  exact ⟨F, μ, ρ, S, w, S1, rs, rst, e1, fun μ' v H' g q => k μ' _ H' g ((rst.mono g.go g.pre).set q)⟩
end
section
variable {X : Cx} {st : Stmt} {rest : List Stmt} {e : Expr} {pos : Pos} {m : Em} {a b : Bm} {x : Str} {c : Tm}
theorem mss_nil : MSs X [] bnil := PSs.cons pss_nil fun D σ H ⟨F, μ, ρ, S, o, rs, rst, h, k⟩ => by
  cases h
  exact k μ σ H (Gs.refl rs) rst
theorem mss_cons (h1 : MS X st a) (h2 : MSs X rest b) : MSs X (st :: rest) (bseq a b) := PSs.cons (pss_cons h1 h2) fun D σ H ⟨F, μ, ρ, S, o, rs, rst, h, k⟩ => by
  obtain ⟨o1, e1, h⟩ := bind_some h
  refine ⟨F, μ, ρ, S, o1, rs, rst, e1, ?_⟩
  cases o1 with
  | nx ρ1 S1 => exact fun μ' σ' H' g r => ⟨F, μ', ρ1, S1, o, g.rs, r, h, k.go g⟩
  | ret w S1 => cases h; exact k
  | bk ρ1 S1 => cases h; exact k
  | ct ρ1 S1 => cases h; exact k
theorem mss_one (h1 : MS X st a) : MSs X [st] a := pss_one h1
theorem ms_pass : MS X (.Pass pos) bnil := PS.cons ps_pass fun D σ H ⟨F, μ, ρ, S, o, rs, rst, h, k⟩ => by
  cases h
  exact k μ σ H (Gs.refl rs) rst
theorem ms_break : MS X (.Break pos) bbrk := PS.cons ps_break fun D σ H ⟨F, μ, ρ, S, o, rs, rst, h, k⟩ => by
  cases h
  exact k μ σ H (Gs.refl rs) rst
theorem ms_continue : MS X (.Continue pos) bcnt := PS.cons ps_continue fun D σ H ⟨F, μ, ρ, S, o, rs, rst, h, k⟩ => by
  cases h
  exact k μ σ H (Gs.refl rs) rst
theorem ms_set {i : Nat} {pos' : Pos} (hN : X.N.Nodup) (hi : X.N[i]? = some x) (hx : Loc X.env.scope x) (he : ME X e m) (hs : swapsWith e (some (.Name x pos')) pos.line X.env = pure false := by rfl) (hf : X.fn x = true ∨ X.env.scope.names.lookup x = some .local := by first | exact .inl rfl | exact .inr rfl | assumption) :
    MS X (.Assign [.Name x pos'] e pos) (bset i m) := PS.cons (ps_set hN hi hx he hs hf) fun D σ H h => bset_read h
theorem ms_asg {tg : Expr} {g : Gm} {T : List Nat} (he : ME X e m) (hg : PG X tg (LG X.K g T)) (hs : swapsWithSole [tg] e pos.line X.env = pure false := by rfl) (hw : swappedStores [tg] e X.env = pure none := by rfl)
    (h1 : (assignEach [tg] X.env).map (·.2) = [assign tg X.env] := by rfl) : MS X (.Assign [tg] e pos) (basg g m) := PS.cons (ps_asg he hg hs hw h1) fun D σ H ⟨F, μ, ρ, S, o, rs, rst, h, k⟩ => by
  obtain ⟨⟨w, S1⟩, e1, h⟩ := bind_some h
  obtain ⟨ρ1, e2, h⟩ := bind_some h
  cases h
  exact ⟨F, μ, ρ, S, w, S1, rs, rst, e1, fun μ' v H' gg q => ⟨F, μ', ρ, S1, w, ρ1, gg.rs, rst.mono gg.go gg.pre, q, e2, fun σ' r _ _ => k μ' σ' H' gg r⟩⟩
theorem ms_ret (he : ME X e m) : MS X (.Return (some e) pos) (bret m) := PS.cons (ps_ret he) fun D σ H ⟨F, μ, ρ, S, o, rs, rst, h, k⟩ => by
  obtain ⟨⟨w, S1⟩, e1, h⟩ := bind_some h
  cases h
  exact ⟨F, μ, ρ, S, w, S1, rs, rst, e1, k⟩
theorem ms_retN : MS X (.Return none pos) (bret (mk .non)) := PS.cons ps_retN fun D σ H ⟨F, μ, ρ, S, o, rs, rst, h, k⟩ => by
  cases h
  exact k μ _ H (Gs.refl rs) (by show RepD _ _ _ _ _; rw [RepD])
theorem ms_expr (he : ME X e m) (hs : swapsWith e none pos.line X.env = pure false := by rfl) : MS X (.Expr e pos) (bdrop m) := PS.cons (ps_expr he hs) fun D σ H ⟨F, μ, ρ, S, o, rs, rst, h, k⟩ => by
  obtain ⟨⟨w, S1⟩, e1, h⟩ := bind_some h
  cases h
  exact ⟨F, μ, ρ, S, w, S1, rs, rst, e1, fun μ' v H' g q => k μ' σ H' g (rst.mono g.go g.pre)⟩
theorem ms_if {t : Expr} {sa sb : List Stmt} (hc : MT X t c) (ha : MSs X sa a) (hb : MSs X sb b) : MS X (.If t sa sb pos) (bcond c a b) := PS.cons (ps_if hc ha hb) fun D σ H ⟨F, μ, ρ, S, o, rs, rst, h, k⟩ => by
  obtain ⟨⟨d, S1⟩, e1, h⟩ := bind_some h
  refine ⟨F, μ, ρ, S, d, S1, rs, rst, e1, fun μ' H' g => ?_⟩
  cases d with
  | true => exact ⟨F, μ', ρ, S1, o, g.rs, rst.mono g.go g.pre, h, k.go g⟩
  | false => exact ⟨F, μ', ρ, S1, o, g.rs, rst.mono g.go g.pre, h, k.go g⟩
theorem ms_aug {i : Nat} {op : Operator} {f : Int → Int → Int} {pos' : Pos} (hN : X.N.Nodup) (hi : X.N[i]? = some x) (hx : Loc X.env.scope x) (he : ME X e m) (ho : PIp X op (ipI f)) (hf : X.fn x = true ∨ X.env.scope.names.lookup x = some .local := by first | exact .inl rfl | exact .inr rfl | assumption) :
    MS X (.AugAssign (.Name x pos') op e pos) (baug i f m) := PS.cons (ps_aug hN hi hx he ho hf) fun D σ H ⟨F, μ, ρ, S, o, rs, rst, h, k⟩ => by
  unfold baug at h
  split at h
  · rename_i a' ea
    obtain ⟨⟨w, S1⟩, e1, h⟩ := bind_some h
    obtain ⟨v0, ev, qv⟩ := rst.at_ i _ ea
    cases int_rep qv
    refine ⟨_, ev, F, μ, ρ, S, w, S1, rs, rst, e1, fun μ' v H' g q => ?_⟩
    cases w with
    | d y =>
      cases y with
      | int b' =>
        cases h
        cases int_rep q
        exact ⟨a', b', rfl, rfl, k μ' _ H' g ((rst.mono g.go g.pre).set (by show RepD _ _ _ _ _; rw [RepD]))⟩
      | _ => cases h
    | _ => cases h
  · cases h
theorem ms_for {iter : Expr} {tg : Expr} {body : List Stmt} {mi : Im} {g : Gm} {T : List Nat} (hp : PassesOwn (model X.prog X.w) X.A X.env X.xe) (hc : X.calm = true) (hi : MI X tg iter mi) (hg : PG X tg (LG X.K g T)) (hb : MSs X body b)
    (hs : ∀ x, foldedSetIterable iter X.env x = pure x := by intro _; rfl) : MS X (.For tg iter body [] pos) (bfor mi g b) := PS.cons (ps_for hp hc hi hg hb hs) fun D σ H ⟨F, μ, ρ, S, o, rs, rst, h, k⟩ => by
  obtain ⟨⟨src, S1⟩, e1, h⟩ := bind_some h
  refine ⟨F, μ, ρ, S, src, S1, rs, rst, e1, fun μ1 J H1 g1 ito => ?_⟩
  refine ⟨fun i m σ2 H2 => ∃ μ2 ρ2 S2, Gs X.K F μ1 S1 H1 μ2 S2 H2 ∧ RSt X.K μ2 (NF F μ2 S2) H2 σ2 ρ2 ∧ floop src g b m i ρ2 S2 = some o, ⟨_, μ1, ρ, S1, Gs.refl g1.rs, rst.mono g1.go g1.pre, h⟩, ?_⟩
  rintro i m σ2 H2 ⟨μ2, ρ2, S2, g2, st2, h⟩
  have ok2 := (k.go g1).go g2
  have fin : some (Out.nx ρ2 S2) = some o → srcAt src S2 i = some none → J.stop i H2 ∧ D.nx σ2 H2 := fun e ea => by
    cases e
    exact ⟨ito _ _ _ _ (g2.gz g1.rs) i none ea, ok2 μ2 σ2 H2 (Gs.refl g2.rs) st2⟩
  cases m with
  | zero =>
    unfold floop at h
    obtain ⟨r, ea, h⟩ := bind_some h
    cases r with
    | none => exact .inl (fin h ea)
    | some w => cases h
  | succ m =>
    unfold floop at h
    obtain ⟨r, ea, h⟩ := bind_some h
    cases r with
    | none => exact .inl (fin h ea)
    | some w =>
      obtain ⟨go, yl⟩ := ito _ _ _ _ (g2.gz g1.rs) i (some w) ea
      obtain ⟨ρ3, e3, h⟩ := bind_some h
      obtain ⟨o4, e4, h⟩ := bind_some h
      refine .inr ⟨go, fun σ3 H3 => ∃ μ2 ρ2 S2, Gs X.K F μ1 S1 H1 μ2 S2 H3 ∧ RSt X.K μ2 (NF F μ2 S2) H3 σ3 ρ2 ∧ floop src g b m (i + 1) ρ2 S2 = some o, fun σ' H' z => ⟨m, Nat.lt_succ_self m, z⟩, fun v H' y => ?_⟩
      obtain ⟨fr, q⟩ := yl v H' y
      have g3 := fr.gs g2.rs
      refine ⟨F, μ2, ρ2, S2, w, ρ3, g3.rs, st2.mono g3.go g3.pre, q, e3, fun σ3 st3 _ _ => ⟨F, μ2, ρ3, S2, o4, g3.rs, st3, e4, ?_⟩⟩
      have g23 := g2.trans g3
      cases o4 with
      | nx ρ5 S5 => exact fun μ' σ' H' g' r => ⟨μ', ρ5, S5, g23.trans g', r, h⟩
      | ct ρ5 S5 => exact fun μ' σ' H' g' r => ⟨μ', ρ5, S5, g23.trans g', r, h⟩
      | bk ρ5 S5 => cases h; exact (ok2.go g3)
      | ret w5 S5 => cases h; exact (ok2.go g3)
theorem ms_while {t : Expr} {body : List Stmt} (n : Nat) (hp : PassesOwn (model X.prog X.w) X.A X.env X.xe) (hc : MT X t c) (hb : MSs X body b) : MS X (.While t body [] pos) (bwhile n c b) := PS.cons (ps_while hp hc hb) fun D σ H ⟨F, μ, ρ, S, o, rs, rst, h, k⟩ => by
  refine ⟨fun m σ2 H2 => ∃ μ2 ρ2 S2, Gs X.K F μ S H μ2 S2 H2 ∧ RSt X.K μ2 (NF F μ2 S2) H2 σ2 ρ2 ∧ wloop c b m ρ2 S2 = some o, ⟨_, μ, ρ, S, Gs.refl rs, rst, h⟩, ?_⟩
  rintro m σ2 H2 ⟨μ2, ρ2, S2, g2, st2, h⟩
  cases m with
  | zero => cases h
  | succ m =>
    unfold wloop at h
    obtain ⟨⟨d, S3⟩, e3, h⟩ := bind_some h
    refine ⟨F, μ2, ρ2, S2, d, S3, g2.rs, st2, e3, fun μ3 H3 g3 => ?_⟩
    have g23 := g2.trans g3
    have st3 := st2.mono g3.go g3.pre
    cases d with
    | false =>
      rw [if_neg Bool.false_ne_true] at h
      refine iteF ?_
      cases h
      exact (k.go g23) μ3 σ2 H3 (Gs.refl g3.rs) st3
    | true =>
      rw [if_pos rfl] at h
      refine iteT ?_
      obtain ⟨o4, e4, h⟩ := bind_some h
      refine ⟨fun σ3 H3 => ∃ μ2 ρ2 S2, Gs X.K F μ S H μ2 S2 H3 ∧ RSt X.K μ2 (NF F μ2 S2) H3 σ3 ρ2 ∧ wloop c b m ρ2 S2 = some o, fun σ' H' z => ⟨m, Nat.lt_succ_self m, z⟩, F, μ3, ρ2, S3, o4, g3.rs, st3, e4, ?_⟩
      have ok3 := k.go g23
      cases o4 with
      | nx ρ5 S5 => exact fun μ' σ' H' g' r => ⟨μ', ρ5, S5, g23.trans g', r, h⟩
      | ct ρ5 S5 => exact fun μ' σ' H' g' r => ⟨μ', ρ5, S5, g23.trans g', r, h⟩
      | bk ρ5 S5 => cases h; exact ok3
      | ret w5 S5 => cases h; exact ok3
end
section
variable {X : Cx} {elt tg iter tg1 iter1 : Expr} {ifs ifs1 : List Expr} {scope : Scope} {own : List (Str × Nat)} {pos spos py : Pos} {y : Str} {i : Nat} {mi mi1 : Im} {g g1 : Gm} {T T1 : List Nat} {c c1 : Tm} {e : Em} {m : Em}
/-- name = [..]: r says that m is the new list, thawed or frozen -/
theorem ms_setLc (hr : ∀ {σ H Q}, LE X.K m σ H Q → LF X.K (mcomp mi g c e (own.map (·.2))) σ H Q) (hc : X.calm = true) (hN : X.N.Nodup) (hy : X.N[i]? = some y) (hyl : X.env.scope.names.lookup y = some .local)
    (hsw : swapsWith (.ListComp elt [⟨tg, iter, ifs, 0⟩] scope pos) (some (.Name y py)) spos.line X.env = pure true) (hi : MI X tg iter mi) (ok : BlkOk X.N X.env.scope scope own) (hT : ∀ i ∈ T, i ∈ own.map (·.2))
    (hg : ∀ (s : Shared) (H : Hp) (C : Addr) (cl : List (Str × Addr)) (fp : List Addr), PG (X.blk s H scope (compEnvC scope cl C X.env) fp) tg (LG X.K g T)) (ht : ∀ (s : Shared) (H : Hp) (C : Addr) (cl : List (Str × Addr)) (fp : List Addr), PTs (X.blk s H scope (compEnvC scope cl C X.env) fp) ifs (LT X.K c))
    (he : ∀ (s : Shared) (H : Hp) (C : Addr) (cl : List (Str × Addr)) (fp : List Addr), PE (X.blk s H scope (compEnvC scope cl C X.env) fp) elt (LE X.K e)) (hs : ∀ x, foldedSetIterable iter X.env x = pure x := by intro _; rfl) :
    MS X (.Assign [.Name y py] (.ListComp elt [⟨tg, iter, ifs, 0⟩] scope pos) spos) (bset i m) :=
  PS.cons (ps_setLc hc hN hy hyl hsw hi ok hg ht he hs) fun D σ H h => lc_read hT (hr (bset_read h))
theorem ms_setLc2 {vs1 : List Nat} (hr : ∀ {σ H Q}, LE X.K m σ H Q → LF X.K (mcomp2 mi g c mi1 g1 c1 e (own.map (·.2)) vs1) σ H Q) (hc : X.calm = true) (hN : X.N.Nodup) (hy : X.N[i]? = some y) (hyl : X.env.scope.names.lookup y = some .local)
    (hsw : swapsWith (.ListComp elt [⟨tg, iter, ifs, 0⟩, ⟨tg1, iter1, ifs1, 0⟩] scope pos) (some (.Name y py)) spos.line X.env = pure true) (hi : MI X tg iter mi) (ok : BlkOk X.N X.env.scope scope own) (hv : ∀ i ∈ vs1, i ∈ own.map (·.2)) (hT : ∀ i ∈ T, i ∈ own.map (·.2)) (hT1 : ∀ i ∈ T1, i ∈ vs1)
    (hg : ∀ (s : Shared) (H : Hp) (C : Addr) (cl : List (Str × Addr)) (fp : List Addr), PG (X.blk s H scope (compEnvC scope cl C X.env) fp) tg (LG X.K g T)) (ht : ∀ (s : Shared) (H : Hp) (C : Addr) (cl : List (Str × Addr)) (fp : List Addr), PTs (X.blk s H scope (compEnvC scope cl C X.env) fp) ifs (LT X.K c))
    (hi1 : ∀ (s : Shared) (H : Hp) (C : Addr) (cl : List (Str × Addr)) (fp : List Addr), PI (X.blk s H scope (compEnvC scope cl C X.env) fp) tg1 iter1 (LI X.K mi1))
    (hg1 : ∀ (s : Shared) (H : Hp) (C : Addr) (cl : List (Str × Addr)) (fp : List Addr), PG (X.blk s H scope (compEnvC scope cl C X.env) fp) tg1 (LG X.K g1 T1)) (ht1 : ∀ (s : Shared) (H : Hp) (C : Addr) (cl : List (Str × Addr)) (fp : List Addr), PTs (X.blk s H scope (compEnvC scope cl C X.env) fp) ifs1 (LT X.K c1))
    (he : ∀ (s : Shared) (H : Hp) (C : Addr) (cl : List (Str × Addr)) (fp : List Addr), PE (X.blk s H scope (compEnvC scope cl C X.env) fp) elt (LE X.K e)) (hs : ∀ x, foldedSetIterable iter X.env x = pure x := by intro _; rfl) (hs1 : ∀ env x, foldedSetIterable iter1 env x = pure x := by intro _ _; rfl) :
    MS X (.Assign [.Name y py] (.ListComp elt [⟨tg, iter, ifs, 0⟩, ⟨tg1, iter1, ifs1, 0⟩] scope pos) spos) (bset i m) :=
  PS.cons (ps_setLc2 hc hN hy hyl hsw hi ok hv hg ht hi1 hg1 ht1 he hs hs1) fun D σ H h => lc_read2 hT hT1 (hr (bset_read h))
end
end GM

set_option Elab.async false
set_option linter.all false
set_option maxRecDepth 100000
set_option maxHeartbeats 4000000
set_option autoImplicit false
namespace GM
open PySem L2
/-! ### equality of data -/
mutual
def D.beq : D → D → Bool
  | .non, .non => true
  | .bl a, .bl b => decide (a = b)
  | .int a, .int b => decide (a = b)
  | .str a, .str b => decide (a = b)
  | .tup a, .tup b => D.beqs a b
  | .lst a, .lst b => D.beqs a b
  | .scr a, .scr b => D.beqs a b
  | _, _ => false
def D.beqs : List D → List D → Bool
  | [], [] => true
  | a :: r, b :: t => D.beq a b && D.beqs r t
  | _, _ => false
end
mutual
theorem D.beq_eq : ∀ {a b : D}, D.beq a b = true → a = b
  | .non, b, h => by cases b <;> first | rfl | (simp [D.beq] at h)
  | .bl x, b, h => by cases b <;> first | (simp [D.beq] at h; done) | (simp [D.beq] at h; rw [h])
  | .int x, b, h => by cases b <;> first | (simp [D.beq] at h; done) | (simp [D.beq] at h; rw [h])
  | .str x, b, h => by cases b <;> first | (simp [D.beq] at h; done) | (simp [D.beq] at h; rw [h])
  | .tup x, b, h => by
    cases b with
    | tup y => rw [D.beq] at h; rw [D.beqs_eq h]
    | _ => simp [D.beq] at h
  | .lst x, b, h => by
    cases b with
    | lst y => rw [D.beq] at h; rw [D.beqs_eq h]
    | _ => simp [D.beq] at h
  | .scr x, b, h => by
    cases b with
    | scr y => rw [D.beq] at h; rw [D.beqs_eq h]
    | _ => simp [D.beq] at h
theorem D.beqs_eq : ∀ {a b : List D}, D.beqs a b = true → a = b
  | [], b, h => by cases b with
    | nil => rfl
    | cons _ _ => simp [D.beqs] at h
  | a :: r, b, h => by
    cases b with
    | nil => simp [D.beqs] at h
    | cons b t =>
      rw [D.beqs, Bool.and_eq_true] at h
      rw [D.beq_eq h.1, D.beqs_eq h.2]
end
mutual
theorem D.beq_refl : ∀ a : D, D.beq a a = true
  | .non => rfl
  | .bl x => by simp [D.beq]
  | .int x => by simp [D.beq]
  | .str x => by simp [D.beq]
  | .tup x => by rw [D.beq]; exact D.beqs_refl x
  | .lst x => by rw [D.beq]; exact D.beqs_refl x
  | .scr x => by rw [D.beq]; exact D.beqs_refl x
theorem D.beqs_refl : ∀ a : List D, D.beqs a a = true
  | [] => by simp [D.beqs]
  | a :: r => by rw [D.beqs, D.beq_refl a, D.beqs_refl r]; rfl
end
instance : DecidableEq D := fun a b => if h : D.beq a b = true then isTrue (D.beq_eq h) else isFalse fun e => h (by rw [e]; exact D.beq_refl b)
instance : DecidableEq W
  | .d a, .d b => if h : a = b then isTrue (by rw [h]) else isFalse fun e => h (by cases e; rfl)
  | .ref a, .ref b => if h : a = b then isTrue (by rw [h]) else isFalse fun e => h (by cases e; rfl)
  | .op a, .op b => if h : a = b then isTrue (by rw [h]) else isFalse fun e => h (by cases e; rfl)
  | .d _, .ref _ => isFalse fun e => nomatch e
  | .d _, .op _ => isFalse fun e => nomatch e
  | .ref _, .d _ => isFalse fun e => nomatch e
  | .ref _, .op _ => isFalse fun e => nomatch e
  | .op _, .d _ => isFalse fun e => nomatch e
  | .op _, .ref _ => isFalse fun e => nomatch e
instance : DecidableEq Cell
  | .lst a, .lst b => if h : a = b then isTrue (by rw [h]) else isFalse fun e => h (by cases e; rfl)
  | .dct a, .dct b => if h : a = b then isTrue (by rw [h]) else isFalse fun e => h (by cases e; rfl)
  | .dead, .dead => isTrue rfl
  | .lst _, .dct _ => isFalse fun e => nomatch e
  | .lst _, .dead => isFalse fun e => nomatch e
  | .dct _, .lst _ => isFalse fun e => nomatch e
  | .dct _, .dead => isFalse fun e => nomatch e
  | .dead, .lst _ => isFalse fun e => nomatch e
  | .dead, .dct _ => isFalse fun e => nomatch e

/-! ### leaving a def: its own cells are dropped -/
def ltW (n : Nat) : W → Bool
  | .ref k => decide (k < n)
  | _ => true
def closedC (n : Nat) : Cell → Bool
  | .dead => false
  | .lst ws => ws.all (ltW n)
  | .dct kvs => kvs.all fun p => ltW n p.2
/-- the caller's cells: as they were, or without cells of the def's own -/
def chk (S S1 : Sto) : Bool := (List.range S.length).all fun j => decide (S1[j]? = S[j]?) || (match S1[j]? with
  | some c => closedC S.length c
  | none => false)
def closeW (n k0 : Nat) (S1 : Sto) : Nat → W → Option W
  | _, .d x => some (.d x)
  | _, .op v => some (.op v)
  | 0, .ref k => if k < n then some (.ref k) else none
  | f + 1, .ref k => if k < n then some (.ref k) else if k = k0 then none else (lstOf S1 k).bind fun ws => (ws.mapM (closeW n k0 S1 f)).bind fun us => (datas us).bind fun ds => some (.d (.lst ds))
inductive RV where
  | val (w : W) | new (ws : List W)
def retW (n : Nat) (S1 : Sto) : W → Option RV
  | .d x => some (.val (.d x))
  | .op v => some (.val (.op v))
  | .ref k => if k < n then some (.val (.ref k)) else (lstOf S1 k).bind fun ws => (ws.mapM (closeW n k S1 3)).bind fun us => some (.new us)
abbrev Fm := List W → Sto → Option (RV × Sto)
def endDef (S : Sto) (o : Out) : Option (RV × Sto) := match o with
  | .nx _ S1 => if chk S S1 = true then some (.val (.d .non), S1.take S.length) else none
  | .ret w S1 => if chk S S1 = true then (retW S.length S1 w).bind fun r => some (r, S1.take S.length) else none
  | _ => none
def runDef (np nN : Nat) (b : Bm) : Fm := fun ws S => if ws.length = np then (b (ws.map some ++ List.replicate (nN - ws.length) none) S).bind (endDef S) else none

section
variable {K : PySem.W.Frag} {F F2 : Addr → Prop} {μ ν : List Addr} {S S1 : Sto} {H H1 : Hp}
theorem na_take (hl : μ.length = S.length) {a : Addr} (h : NA μ (S1.take S.length) a) : NA (μ ++ ν) S1 a := by
  obtain ⟨k, c, h1, h2, h3⟩ := h
  have hk := (List.getElem?_eq_some_iff.mp h1).1
  refine ⟨k, c, by rw [List.getElem?_append_left hk]; exact h1, ?_, h3⟩
  rw [List.getElem?_take_of_lt (by omega)] at h2
  exact h2
theorem closed_rep {N N' : Addr → Prop} {n : Nat} (hn : n = μ.length) (hN : ∀ a, N' a → N a) : ∀ {w : W} {v : V}, ltW n w = true → RepW K (μ ++ ν) N H w v → RepW K μ N' H w v
  | .d x, v, _, h => RepD.mono (M := fun _ => False) ⟨fun a o e _ => e, fun a h => .inl (hN a h), fun a h => h.elim, fun a h => h.elim⟩ h
  | .ref k, v, hl, h => by
    obtain ⟨a, h1, h2⟩ := h
    have : k < n := of_decide_eq_true hl
    rw [List.getElem?_append_left (by omega)] at h1
    exact ⟨a, h1, h2⟩
  | .op u, v, _, h => h
theorem lt_of_rep {N : Addr → Prop} {n : Nat} (hn : n = μ.length) : ∀ {w : W} {v : V}, RepW K μ N H w v → ltW n w = true
  | .d x, v, _ => rfl
  | .ref k, v, h => by
    obtain ⟨a, h1, _⟩ := h
    exact decide_eq_true (by rw [hn]; exact (List.getElem?_eq_some_iff.mp h1).1)
  | .op u, v, _ => rfl
theorem pairedAll {α β : Type} {R R' : α → β → Prop} {p : α → Bool} (f : ∀ a b, p a = true → R a b → R' a b) : ∀ {l : List α} {m : List β}, l.all p = true → Paired R l m → Paired R' l m
  | _, _, _, .nil => .nil
  | _, _, h, .cons r t => by
    rw [List.all_cons, Bool.and_eq_true] at h
    exact .cons (f _ _ h.1 r) (pairedAll f h.2 t)
theorem allOf {α β : Type} {R : α → β → Prop} {p : α → Bool} (f : ∀ a b, R a b → p a = true) : ∀ {l : List α} {m : List β}, Paired R l m → l.all p = true
  | _, _, .nil => rfl
  | _, _, .cons r t => by rw [List.all_cons, f _ _ r, allOf f t]; rfl
/-- every cell of the caller holds what may be told without the def's own cells -/
theorem chk_cell (rs : RS K F μ S H) (g : Gs K F μ S H (μ ++ ν) S1 H1) (hc : chk S S1 = true) {j : Nat} {a : Addr} {c : Cell} (hj : μ[j]? = some a) (e : (S1.take S.length)[j]? = some c) : c = .dead ∧ S[j]? = some .dead ∨ closedC S.length c = true := by
  have hjl := (List.getElem?_eq_some_iff.mp hj).1
  have hjs : j < S.length := by have := rs.len; omega
  rw [List.getElem?_take_of_lt hjs] at e
  have q := List.all_eq_true.mp hc j (List.mem_range.mpr hjs)
  rw [e, Bool.or_eq_true] at q
  rcases q with q | q
  · have q : S[j]? = some c := (of_decide_eq_true q).symm
    have ok := rs.at_ j a c hj q
    cases c with
    | dead => exact .inl ⟨rfl, q⟩
    | lst ws =>
      obtain ⟨vs, _, h⟩ := ok
      exact .inr (allOf (fun w v z => lt_of_rep rs.len.symm z) h)
    | dct kvs =>
      obtain ⟨es, _, h⟩ := ok
      exact .inr (allOf (p := fun p : D × W => ltW S.length p.2) (fun w v z => lt_of_rep rs.len.symm z.2) h)
  · exact .inr q
theorem RS.take (rs : RS K F μ S H) (g : Gs K F μ S H (μ ++ ν) S1 H1) (hc : chk S S1 = true) (h2 : ∀ a, F2 a → NF F (μ ++ ν) S1 a) (hd : ∀ a, F2 a → ¬ NA μ (S1.take S.length) a) : RS K F2 μ (S1.take S.length) H1 := by
  have hN : ∀ a, NF F2 μ (S1.take S.length) a → NF F (μ ++ ν) S1 a := fun a h => by
    rcases h with h | h
    · exact .inl (na_take rs.len h)
    · exact h2 a h
  have up : ∀ {k : Nat} {a : Addr}, μ[k]? = some a → (μ ++ ν)[k]? = some a := fun {k a} h => by rw [List.getElem?_append_left (List.getElem?_eq_some_iff.mp h).1]; exact h
  have dn : ∀ {k : Nat} {a : Addr} {c : Cell}, μ[k]? = some a → (S1.take S.length)[k]? = some c → S1[k]? = some c := fun {k a c} h h' => by
    rw [List.getElem?_take_of_lt (by rw [← rs.len]; exact (List.getElem?_eq_some_iff.mp h).1)] at h'; exact h'
  refine ⟨?_, fun j k a c c' e1 e2 e3 e4 n1 n2 => g.rs.inj j k a c c' (up e1) (up e2) (dn e1 e3) (dn e2 e4) n1 n2, fun k a c e1 e2 => ?_, fun a h => ?_, hd⟩
  · have := g.rs.len
    rw [List.length_append] at this
    rw [List.length_take, rs.len]
    have := rs.len
    omega
  · have ok := g.rs.at_ k a c (up e1) (dn e1 e2)
    rcases chk_cell rs g hc e1 e2 with ⟨rfl, _⟩ | q
    · trivial
    · cases c with
      | dead => trivial
      | lst ws =>
        obtain ⟨vs, h1, h3⟩ := ok
        exact ⟨vs, h1, pairedAll (p := ltW S.length) (fun w v z z' => closed_rep rs.len.symm hN z z') q h3⟩
      | dct kvs =>
        obtain ⟨es, h1, h3⟩ := ok
        exact ⟨es, h1, pairedAll (p := fun p : D × W => ltW S.length p.2) (fun w v z z' => ⟨z'.1, closed_rep rs.len.symm hN z z'.2⟩) q h3⟩
  · rcases h2 a h with z | z
    · exact g.rs.mut a z
    · exact g.rs.fm a z
theorem Gs.take (rs : RS K F μ S H) (g : Gs K F μ S H (μ ++ ν) S1 H1) (hc : chk S S1 = true) : Gs K F μ S H μ (S1.take S.length) H1 := by
  have hn : ∀ a, NA μ (S1.take S.length) a → NA (μ ++ ν) S1 a := fun a h => na_take rs.len h
  exact ⟨⟨[], by simp⟩, ⟨g.go.ext, fun a h => by
    rcases h with h | h
    · exact g.go.new a (.inl (hn a h))
    · exact .inl (.inr h), g.go.mu, g.go.sub⟩, fun a h => g.na a (hn a h), rs.take g hc (fun a h => .inr h) fun a h z => g.rs.fd a h (hn a z)⟩
theorem mapM_cons_some {α β : Type} {f : α → Option β} {a : α} {l : List α} {r : List β} (h : (a :: l).mapM f = some r) : ∃ b t, f a = some b ∧ l.mapM f = some t ∧ r = b :: t := by
  rw [List.mapM_cons] at h
  obtain ⟨b, e1, h⟩ := bind_some h
  obtain ⟨t, e2, h⟩ := bind_some h
  cases h
  exact ⟨b, t, e1, e2, rfl⟩
theorem paired_mapM {α β γ : Type} {R : α → γ → Prop} {R' : β → γ → Prop} {f : α → Option β} (hf : ∀ a b c, f a = some b → R a c → R' b c) : ∀ {l : List α} {r : List β} {m : List γ}, l.mapM f = some r → Paired R l m → Paired R' r m
  | [], r, _, h, .nil => by cases h; exact .nil
  | a :: l, r, _, h, .cons q t => by
    obtain ⟨b, u, e1, e2, rfl⟩ := mapM_cons_some h
    exact .cons (hf _ _ _ e1 q) (paired_mapM hf e2 t)
/-- the def's own lists within a result become data -/
theorem close_rep {k0 : Nat} {p : Addr} {cc : Cell} (rs : RS K F μ S H) (g : Gs K F μ S H (μ ++ ν) S1 H1) (hp : (μ ++ ν)[k0]? = some p) (hpc : S1[k0]? = some cc) (hcc : cc ≠ Cell.dead) (h2 : ∀ a, F2 a → F a ∨ a = p) :
    ∀ (f : Nat) {w w' : W} {v : V}, closeW S.length k0 S1 f w = some w' → RepW K (μ ++ ν) (NF F (μ ++ ν) S1) H1 w v → RepW K μ (NF F2 μ (S1.take S.length)) H1 w' v := by
  have hN : ∀ a, NF F2 μ (S1.take S.length) a → NF F (μ ++ ν) S1 a := fun a h => by
    rcases h with h | h
    · exact .inl (na_take rs.len h)
    · rcases h2 a h with z | z
      · exact .inr z
      · rw [z]; exact .inl ⟨k0, cc, hp, hpc, hcc⟩
  have base : ∀ {w : W} {v : V}, ltW S.length w = true → RepW K (μ ++ ν) (NF F (μ ++ ν) S1) H1 w v → RepW K μ (NF F2 μ (S1.take S.length)) H1 w v := fun z q => closed_rep rs.len.symm hN z q
  intro f
  induction f with
  | zero =>
    intro w w' v h q
    cases w with
    | d x => cases h; exact base rfl q
    | op u => cases h; exact base rfl q
    | ref k =>
      have h' : (if k < S.length then some (W.ref k) else none) = some w' := h
      split at h'
      · rename_i hk
        cases h'
        exact base (decide_eq_true hk) q
      · cases h'
  | succ f ih =>
    intro w w' v h q
    cases w with
    | d x => cases h; exact base rfl q
    | op u => cases h; exact base rfl q
    | ref k =>
      unfold closeW at h
      split at h
      · rename_i hk
        cases h
        exact base (decide_eq_true hk) q
      · rename_i hk
        split at h
        · cases h
        · rename_i hk0
          obtain ⟨ws, e1, h⟩ := bind_some h
          obtain ⟨us, e2, h⟩ := bind_some h
          obtain ⟨ds, e3, h⟩ := bind_some h
          cases h
          have e1' := lstOf_some e1
          obtain ⟨a, ha, rfl⟩ := q
          obtain ⟨vs, q1, q2⟩ := g.rs.at_ k a _ ha e1'
          show RepD _ _ _ _ _
          rw [RepD]
          refine ⟨a, vs, rfl, ⟨q1, fun z => ?_⟩, datas_rep (μ := μ) e3 (paired_mapM (R' := RepW K μ (NF F2 μ (S1.take S.length)) H1) (fun _ _ _ e r => ih e r) e2 q2)⟩
          rcases z with ⟨j, c, j1, j2, j3⟩ | z
          · have hj := (List.getElem?_eq_some_iff.mp j1).1
            rw [List.getElem?_take_of_lt (by rw [← rs.len]; exact hj)] at j2
            have := g.rs.inj j k a c _ (by rw [List.getElem?_append_left hj]; exact j1) ha j2 e1' j3 (fun z => nomatch z)
            have := rs.len
            omega
          · rcases h2 a z with z | z
            · exact g.rs.fd a z ⟨k, _, ha, e1', fun z => nomatch z⟩
            · subst z
              exact hk0 (g.rs.inj k k0 a _ cc ha hp e1' hpc (fun z => nomatch z) hcc)
end

/-! ### calls and defs -/
def RvOk (K : PySem.W.Frag) (F : Addr → Prop) (μ : List Addr) (S : Sto) (H : Hp) (S' : Sto) (Q : VK) : RV → Prop
  | .val w => ∀ v H', Gs K F μ S H μ S' H' → RepW K μ (NF F μ S') H' w v → Q v H'
  | .new ws => ∀ p vs H', Gs K F μ S H μ S' H' → H' p = none → RepWs K μ (NF F μ S') H' ws vs → Q (.ref p) (upd H' p (.lst vs))
def spM (K : PySem.W.Frag) (m : Fm) : Sp := fun vs H Q _ => ∃ (F : Addr → Prop) (μ : List Addr) (S : Sto) (ws : List W) (r : RV) (S' : Sto), RS K F μ S H ∧ RepWs K μ (NF F μ S) H ws vs ∧ m ws S = some (r, S') ∧ RvOk K F μ S H S' Q r
structure FnM (P : Program) (w : World) (K : PySem.W.Frag) (mg : Str → Option Value) (base : Heap) (k : Nat) (x : Str) (m : Fm) : Prop where
  ex : ∃ (f : Addr) (fd : FuncData) (ps : List Str), FnOk P w K mg base CX0 k f fd ps (spM K m) ∧ mg x = some (.ref f) ∧ PySem.W.keepIn K (.ref f) = true ∧ Binds K fd ps []
theorem FnM.mono {P : Program} {w : World} {K : PySem.W.Frag} {mg : Str → Option Value} {base : Heap} {j k : Nat} {x : Str} {m : Fm} (h : FnM P w K mg base j x m) (l : j ≤ k) : FnM P w K mg base k x m := by
  obtain ⟨f, fd, ps, F, r⟩ := h.ex
  exact ⟨f, fd, ps, F.mono l, r⟩
/-- another mirror that tells no more -/
theorem FnM.imp {P : Program} {w : World} {K : PySem.W.Frag} {mg : Str → Option Value} {base : Heap} {k : Nat} {x : Str} {m m' : Fm} (h : FnM P w K mg base k x m) (e : ∀ ws S r, m' ws S = some r → m ws S = some r) : FnM P w K mg base k x m' := by
  obtain ⟨f, fd, ps, F, r⟩ := h.ex
  exact ⟨f, fd, ps, F.imp (fun vs H Q E ⟨F, μ, S, ws, r, S', h1, h2, h3, h4⟩ => ⟨F, μ, S, ws, r, S', h1, h2, e _ _ _ h3, h4⟩), r⟩
theorem spM_len {K : PySem.W.Frag} {np nN : Nat} {b : Bm} {vs : List V} {H : Hp} {Q : VK} {E : XK} (h : spM K (runDef np nN b) vs H Q E) : vs.length = np := by
  obtain ⟨F, μ, S, ws, r, S', rs, q, h, _⟩ := h
  unfold runDef at h
  split at h
  · rename_i e
    rw [← q.length]; exact e
  · cases h
theorem start_rep {K : PySem.W.Frag} {μ : List Addr} {N : Addr → Prop} {H : Hp} {ws : List W} {vs : List V} (NN : List Str) (q : RepWs K μ N H ws vs) : RSt K μ N H (L2.start NN vs) (ws.map some ++ List.replicate (NN.length - ws.length) none) := by
  have hl := q.length
  unfold L2.start
  refine ⟨by simp [hl], fun i w e => ?_⟩
  by_cases hi : i < ws.length
  · rw [List.getElem?_append_left (by simpa using hi), List.getElem?_map] at e
    obtain ⟨w', e1, e2⟩ := Option.map_eq_some_iff.mp e
    cases e2
    obtain ⟨v, e3, r⟩ := q.get e1
    exact ⟨v, by rw [List.getElem?_append_left (by simpa using (by omega : i < vs.length)), List.getElem?_map, e3]; rfl, r⟩
  · rw [List.getElem?_append_right (by simpa using hi), List.getElem?_replicate] at e
    split at e <;> cases e
theorem end_read {K : PySem.W.Frag} {F : Addr → Prop} {μ : List Addr} {S : Sto} {H : Hp} {Q : VK} {o : Out} {r : RV} {S' : Sto} (rs : RS K F μ S H) (h : endDef S o = some (r, S')) (k : RvOk K F μ S H S' Q r) : OutOk K F { nx := fun _ H' => Q .non H', rt := Q } μ S H o := by
  cases o with
  | nx ρ S1 =>
    unfold endDef at h
    dsimp only at h
    split at h
    · rename_i hc
      cases h
      intro μ' σ' H' g _
      obtain ⟨ν, rfl⟩ := g.pre
      exact k .non H' (g.take rs hc) (by show RepD _ _ _ _ _; rw [RepD])
    · cases h
  | bk ρ S1 => cases h
  | ct ρ S1 => cases h
  | ret w S1 =>
    unfold endDef at h
    dsimp only at h
    split at h
    · rename_i hc
      obtain ⟨r', e1, h⟩ := bind_some h
      cases h
      intro μ' v H' g q
      obtain ⟨ν, rfl⟩ := g.pre
      have gt := g.take rs hc
      have nn : ∀ a, NF F μ (S1.take S.length) a → NF F (μ ++ ν) S1 a := fun a h => by
        rcases h with h | h
        · exact .inl (na_take rs.len h)
        · exact .inr h
      cases w with
      | d x =>
        cases e1
        exact k v H' gt (closed_rep (n := S.length) rs.len.symm nn rfl q)
      | op u =>
        cases e1
        exact k v H' gt (closed_rep (n := S.length) rs.len.symm nn rfl q)
      | ref kk =>
        unfold retW at e1
        dsimp only at e1
        split at e1
        · rename_i hk
          cases e1
          exact k v H' gt (closed_rep (n := S.length) rs.len.symm nn (decide_eq_true hk) q)
        · rename_i hk
          obtain ⟨ws, e2, e1⟩ := bind_some e1
          obtain ⟨us, e3, e1⟩ := bind_some e1
          cases e1
          have e2' := lstOf_some e2
          obtain ⟨p, hp, rfl⟩ := q
          obtain ⟨vs, q1, q2⟩ := g.rs.at_ kk p _ hp e2'
          have ndd : Cell.lst ws ≠ Cell.dead := fun z => nomatch z
          have npt : ¬ NA μ (S1.take S.length) p := fun ⟨j, c, j1, j2, j3⟩ => by
            have hj := (List.getElem?_eq_some_iff.mp j1).1
            rw [List.getElem?_take_of_lt (by rw [← rs.len]; exact hj)] at j2
            have := g.rs.inj j kk p c _ (by rw [List.getElem?_append_left hj]; exact j1) hp j2 e2' j3 ndd
            have := rs.len
            omega
          have hH : H p = none := by
            rcases g.na p ⟨kk, _, hp, e2', ndd⟩ with ⟨j, c, j1, j2, j3⟩ | z
            · have hj := (List.getElem?_eq_some_iff.mp j1).1
              have hjs : j < S.length := by have := rs.len; omega
              have hc1 : ∃ c1, (S1.take S.length)[j]? = some c1 := by
                have l2 := gt.rs.len
                exact ⟨_, List.getElem?_eq_getElem (by omega)⟩
              obtain ⟨c1, hc1⟩ := hc1
              rcases chk_cell rs g hc j1 hc1 with ⟨_, z⟩ | z
              · rw [j2] at z; cases z; exact absurd rfl j3
              · exact absurd ⟨j, c1, j1, hc1, fun z' => by rw [z'] at z; cases z⟩ npt
            · exact z
          have nF : ¬ F p := fun z => g.rs.fd p z ⟨kk, _, hp, e2', ndd⟩
          have r2 : RS K (Fp F p) μ (S1.take S.length) H' := rs.take g hc (fun a h => by
            rcases h with h | h
            · exact .inr h
            · rw [h]; exact .inl ⟨kk, _, hp, e2', ndd⟩) fun a h => by
            rcases h with h | h
            · exact fun z => g.rs.fd a h (na_take rs.len z)
            · rw [h]; exact npt
          have q3 : RepWs K μ (NF (Fp F p) μ (S1.take S.length)) H' us vs := paired_mapM (R' := RepW K μ (NF (Fp F p) μ (S1.take S.length)) H') (fun _ _ _ e r => close_rep rs g hp e2' ndd (fun a h => h) 3 e r) e3 q2
          have gg : Gs K F μ S H μ (S1.take S.length) (less H' p) := Gx.closed rs ⟨gt.pre, ⟨gt.go.ext, fun a h => by
            rcases h with h | h | h
            · exact gt.go.new a (.inl h)
            · exact .inl (.inr h)
            · rw [h]; exact .inr hH, gt.go.mu, gt.go.sub⟩, gt.na, r2⟩ hH
          have := k p vs (less H' p) gg less_self (q3.mono (r2.close nF).2 ⟨[], by simp⟩)
          rw [upd_less q1] at this
          exact this
    · cases h
section
variable {P : Program} {w : World} {K : PySem.W.Frag} {mg : Str → Option Value} {base : Heap}
theorem mk_fn {x : Str} {st : Stmt} {f : Addr} {fd : FuncData} {N ps : List Str} {k : Nat} {b : Bm} (FF : Fun K x x st f fd) (gx : mg x = some (.ref f)) (bd : Binds K fd ps []) (sc : FnScope N ps (defScope st))
    (hb : ∀ (cdv : Value) (A : Around) (outer : List Env) (s : Shared) (H : Hp) (E : XK), Room k (A.deeper (PyProof.Rows.envOfC x (defScope st) s.heap.objs.size f cdv)) → MSs (cxOf CX0 P w K mg base N x (defScope st) f cdv A outer s H E).nox (defBody st) b) :
    FnM P w K mg base (k + 1) x (runDef ps.length N.length b) := by
  refine ⟨f, fd, ps, FF.ok sc (fun vs H Q E h => spM_len h) (fun cdv A outer s H vs Q E hr h => ⟨LS K b, hb cdv A outer s H E hr, ?_⟩), gx, FF.kp, bd⟩
  obtain ⟨F, μ, S, ws, r, S', rs, q, h, kk⟩ := h
  unfold runDef at h
  split at h
  · obtain ⟨o, e1, h⟩ := bind_some h
    exact ⟨F, μ, _, S, o, rs, start_rep N q, e1, end_read rs h kk⟩
  · cases h
end
def rvW : RV → Option W
  | .val w => some w
  | .new ws => (datas ws).bind fun ds => some (.d (.lst ds))
def mcall (m : Fm) (a : Am) : Em := fun ρ S => (a ρ S).bind fun p => (m p.1 p.2).bind fun q => (rvW q.1).bind fun w => some (w, q.2)
def mcallF (m : Fm) (a : Am) : Am := fun ρ S => (a ρ S).bind fun p => (m p.1 p.2).bind fun q => match q.1 with
  | .new ws => some (ws, q.2)
  | .val _ => none
section
variable {X : Cx} {k j : Nat} {x : Str} {m : Fm} {p pos : Pos} {e : Expr} {es : List Expr} {ms : Am}
theorem me_call (c : FnM X.prog X.w X.K X.mg X.base k x m) (hr : Room j X.A) (hk : k ≤ j) (hg : Gl X x) (ha : MA X (e :: es) ms)
    (hdb : (x == ("__debug__" : Str)) = false := by decide) (he : starEach (e :: es) X.env = (false, eval e X.env) :: starEach es X.env := by rfl) (hpl : (backTo pos (starEach es X.env)).any (·.1) = false := by rfl) :
    ME X (.Call (.Name x p) (e :: es) [] pos) (mcall m ms) := by
  obtain ⟨f, fd, ps, F, hm, kp, b⟩ := c.ex
  refine PE.cons (pe_call F (hr.mono hk) hg hm kp b .nil pass0 ha hdb he hpl) fun σ H Q ⟨F, μ, ρ, S, w, S', rs, rst, h, k⟩ => ?_
  obtain ⟨⟨ws, S1⟩, e1, h⟩ := bind_some h
  obtain ⟨⟨r, S2⟩, e2, h⟩ := bind_some h
  obtain ⟨w', e3, h⟩ := bind_some h
  cases h
  refine ⟨F, μ, ρ, S, ws, S1, rs, rst, e1, fun μ1 vs H1 g1 q1 => ?_⟩
  show spM X.K m (vs ++ []) H1 Q E0
  rw [List.append_nil]
  refine ⟨F, μ1, S1, ws, r, S2, g1.rs, q1, e2, ?_⟩
  cases r with
  | val u => cases e3; exact fun v H' g q => k μ1 v H' (g1.trans g) q
  | new us =>
    obtain ⟨ds, e4, e3⟩ := bind_some e3
    cases e3
    intro p vs' H' g hp q
    have f : Fr H' (upd H' p (.lst vs')) := Fr.upd hp
    have g2 := f.gs g.rs
    refine k μ1 _ _ ((g1.trans g).trans g2) ?_
    show RepD _ _ _ _ _
    rw [RepD]
    exact ⟨p, vs', rfl, ⟨upd_same, fun z => g.rs.there z hp⟩, (datas_rep e4 q).mono g2.go⟩
theorem mf_call (c : FnM X.prog X.w X.K X.mg X.base k x m) (hr : Room j X.A) (hk : k ≤ j) (hg : Gl X x) (ha : MA X (e :: es) ms)
    (hdb : (x == ("__debug__" : Str)) = false := by decide) (he : starEach (e :: es) X.env = (false, eval e X.env) :: starEach es X.env := by rfl) (hpl : (backTo pos (starEach es X.env)).any (·.1) = false := by rfl) :
    MF X (.Call (.Name x p) (e :: es) [] pos) (mcallF m ms) := by
  obtain ⟨f, fd, ps, F, hm, kp, b⟩ := c.ex
  refine PE.cons (pe_call F (hr.mono hk) hg hm kp b .nil pass0 ha hdb he hpl) fun σ H Q ⟨F, μ, ρ, S, w, S', rs, rst, h, k⟩ => ?_
  obtain ⟨⟨ws, S1⟩, e1, h⟩ := bind_some h
  obtain ⟨⟨r, S2⟩, e2, h⟩ := bind_some h
  refine ⟨F, μ, ρ, S, ws, S1, rs, rst, e1, fun μ1 vs H1 g1 q1 => ?_⟩
  show spM X.K m (vs ++ []) H1 Q E0
  rw [List.append_nil]
  refine ⟨F, μ1, S1, ws, r, S2, g1.rs, q1, e2, ?_⟩
  cases r with
  | val u => cases h
  | new us =>
    cases h
    exact fun p vs' H' g hp q => k μ1 H' p vs' (g1.trans g) hp q
end
end GM

set_option Elab.async false
set_option linter.all false
set_option maxRecDepth 100000
set_option maxHeartbeats 4000000
set_option autoImplicit false
namespace GM
open PySem L2
section
variable {K : PySem.W.Frag} {F : Addr → Prop} {μ : List Addr} {N : Addr → Prop} {S : Sto} {H : Hp} {X : Cx}
/-! ### readings of values -/
theorem dint {i : Int} {v : V} : RepW K μ N H (.d (.int i)) v ↔ v = .int i := by show RepD _ _ _ _ _ ↔ _; rw [RepD]
theorem dbl {b : Bool} {v : V} : RepW K μ N H (.d (.bl b)) v ↔ v = .bl b := by show RepD _ _ _ _ _ ↔ _; rw [RepD]
theorem dnon {v : V} : RepW K μ N H (.d .non) v ↔ v = .non := by show RepD _ _ _ _ _ ↔ _; rw [RepD]
theorem dstr {x : Str} {v : V} : RepW K μ N H (.d (.str x)) v ↔ v = .str x := by show RepD _ _ _ _ _ ↔ _; rw [RepD]
theorem dtup {ds : List D} {v : V} : RepW K μ N H (.d (.tup ds)) v ↔ ∃ a vs, v = .ref a ∧ SqT K H a vs ∧ RepDs K N H ds vs := by show RepD _ _ _ _ _ ↔ _; rw [RepD]
theorem dlst {ds : List D} {v : V} : RepW K μ N H (.d (.lst ds)) v ↔ ∃ a vs, v = .ref a ∧ LstAt N H a vs ∧ RepDs K N H ds vs := by show RepD _ _ _ _ _ ↔ _; rw [RepD]
/-- a result that is a flat value, the heap as it is -/
theorem pk_int {i : Int} {Q : VK} (k : ∀ v H', Fr H H' → RepW K μ N H' (.d (.int i)) v → Q v H') : Q (.int i) H := k _ _ Fr.refl (dint.mpr rfl)
theorem pk_bl {b : Bool} {Q : VK} (k : ∀ v H', Fr H H' → RepW K μ N H' (.d (.bl b)) v → Q v H') : Q (.bl b) H := k _ _ Fr.refl (dbl.mpr rfl)

/-! ### ints -/
def fI2 (c : Int → Int → Bool) (g : Int → Int → Int) : Sto → List W → Option W
  | _, [.d (.int i), .d (.int j)] => if c i j = true then some (.d (.int (g i j))) else none
  | _, _ => none
def fI2b (g : Int → Int → Bool) : Sto → List W → Option W
  | _, [.d (.int i), .d (.int j)] => some (.d (.bl (g i j)))
  | _, _ => none
theorem i2_ok {c : Int → Int → Bool} {g : Int → Int → Int} {C : Int → Int → Prop} (hc : ∀ i j, c i j = true → C i j) : POk K (r2 (rI C fun i j => .int (g i j))) (fI2 c g) := fun F μ S H ws vs w Q rs h q k => by
  unfold fI2 at h
  split at h
  · rename_i i j
    split at h
    · rename_i e
      cases h
      obtain ⟨v, u, rfl, q1, q2⟩ := rep2 q
      cases dint.mp q1; cases dint.mp q2
      exact ⟨_, _, rfl, i, j, rfl, rfl, hc i j e, pk_int k⟩
    · cases h
  · cases h
theorem i20_ok {g : Int → Int → Int} : POk K (r2 (rI0 fun i j => .int (g i j))) (fI2 (fun _ _ => true) g) := fun F μ S H ws vs w Q rs h q k => by
  obtain ⟨x, y, e, i, j, e1, e2, _, e3⟩ := i2_ok (C := fun _ _ => True) (fun _ _ _ => trivial) F μ S H ws vs w Q rs h q k
  exact ⟨x, y, e, i, j, e1, e2, e3⟩
theorem i2b_ok {g : Int → Int → Bool} : POk K (r2 (rI0 fun i j => .bl (g i j))) (fI2b g) := fun F μ S H ws vs w Q rs h q k => by
  unfold fI2b at h
  split at h
  · rename_i i j
    cases h
    obtain ⟨v, u, rfl, q1, q2⟩ := rep2 q
    cases dint.mp q1; cases dint.mp q2
    exact ⟨_, _, rfl, i, j, rfl, rfl, pk_bl k⟩
  · cases h
def mulOk (i j : Int) : Bool := decide (i.natAbs < 2 ^ 64) || decide (j.natAbs < 2 ^ 64) || (decide (i.natAbs < 2 ^ 400000) && decide (j.natAbs < 2 ^ 400000))
def cMul (i j : Int) : Prop := CMul i j ∨ CMulW i j
theorem mulOk_ok {i j : Int} (h : mulOk i j = true) : cMul i j := by
  unfold mulOk at h
  simp only [Bool.or_eq_true, Bool.and_eq_true, decide_eq_true_eq] at h
  rcases h with (h | h) | ⟨h1, h2⟩
  · exact .inl (.inl (by omega))
  · exact .inl (.inr (by omega))
  · exact .inr (wide_mul h1 h2 (by decide) (by decide) (by decide))
theorem op_mulC : OpR X (binaryOp .Mult) (rI cMul fun i j => .int (i * j)) := fun pins s σ H x y v u Q I rx ry ⟨i, j, e1, e2, hc, q⟩ => by
  rcases hc with hc | hc
  · exact op_mul pins s σ H x y v u Q I rx ry ⟨i, j, e1, e2, hc, q⟩
  · exact op_mulW pins s σ H x y v u Q I rx ry ⟨i, j, e1, e2, hc, q⟩
def fSub := fI2 (fun _ _ => true) fun i j => i - j
def fMul := fI2 mulOk fun i j => i * j
def fDiv := fI2 (fun _ j => decide (0 < j) && decide (j.natAbs < 2 ^ 8000)) fun i j => i / j
def fMod := fI2 (fun _ j => decide (0 < j)) fun i j => i % j
def fPow := fI2 (fun i j => decide (0 ≤ j) && decide (j ≤ 1000000) && decide (i.natAbs < 2 ^ 64)) fun i j => i ^ j.toNat
def fShl := fI2 (fun i j => decide (0 ≤ j) && decide (j ≤ 1000000) && decide (i.natAbs < 2 ^ 64)) fun i j => i * 2 ^ j.toNat
def fShr := fI2 (fun _ j => decide (0 ≤ j)) fun i j => i / 2 ^ j.toNat
def fAnd := fI2 (fun _ _ => true) Builtin.bitAnd
def fOr := fI2 (fun _ _ => true) Builtin.bitOr
def fXor := fI2 (fun _ _ => true) Builtin.bitXor
def fLt := fI2b fun i j => decide (i < j)
def fLe := fI2b fun i j => decide (i ≤ j)
def fGt := fI2b fun i j => decide (j < i)
def fGe := fI2b fun i j => decide (j ≤ i)
section
variable {a b : Expr} {ma mb : Em} {pos : Pos}
theorem me_sub (ha : ME X a ma) (hb : ME X b mb) : ME X (.BinOp a .Sub b pos) (prim fSub (acons ma (acons mb anil))) := me_bin i20_ok op_sub ha hb
theorem me_mul (ha : ME X a ma) (hb : ME X b mb) : ME X (.BinOp a .Mult b pos) (prim fMul (acons ma (acons mb anil))) := me_bin (i2_ok fun _ _ h => mulOk_ok h) op_mulC ha hb
theorem me_fdiv (ha : ME X a ma) (hb : ME X b mb) : ME X (.BinOp a .FloorDiv b pos) (prim fDiv (acons ma (acons mb anil))) := me_bin (i2_ok fun i j h => by
  simp only [Bool.and_eq_true, decide_eq_true_eq] at h
  exact wide_div (i := i) h.1 h.2 (by decide) (by decide)) op_fdivW ha hb
theorem me_mod (ha : ME X a ma) (hb : ME X b mb) : ME X (.BinOp a .Mod b pos) (prim fMod (acons ma (acons mb anil))) := me_bin (i2_ok fun _ _ h => of_decide_eq_true h) op_mod ha hb
theorem cpow_ok {i j : Int} (h : (decide (0 ≤ j) && decide (j ≤ 1000000) && decide (i.natAbs < 2 ^ 64)) = true) : CPow i j := by
  simp only [Bool.and_eq_true, decide_eq_true_eq] at h
  exact ⟨h.1.1, h.1.2, h.2⟩
theorem me_pow (ha : ME X a ma) (hb : ME X b mb) : ME X (.BinOp a .Pow b pos) (prim fPow (acons ma (acons mb anil))) := me_bin (i2_ok fun _ _ h => cpow_ok h) op_pow ha hb
theorem me_shl (ha : ME X a ma) (hb : ME X b mb) : ME X (.BinOp a .LShift b pos) (prim fShl (acons ma (acons mb anil))) := me_bin (i2_ok fun _ _ h => cpow_ok h) op_shl ha hb
theorem me_shr (ha : ME X a ma) (hb : ME X b mb) : ME X (.BinOp a .RShift b pos) (prim fShr (acons ma (acons mb anil))) := me_bin (i2_ok fun _ _ h => of_decide_eq_true h) op_shr ha hb
theorem me_band (ha : ME X a ma) (hb : ME X b mb) : ME X (.BinOp a .BitAnd b pos) (prim fAnd (acons ma (acons mb anil))) := me_bin i20_ok op_and ha hb
theorem me_bor (ha : ME X a ma) (hb : ME X b mb) : ME X (.BinOp a .BitOr b pos) (prim fOr (acons ma (acons mb anil))) := me_bin i20_ok op_or ha hb
theorem me_bxor (ha : ME X a ma) (hb : ME X b mb) : ME X (.BinOp a .BitXor b pos) (prim fXor (acons ma (acons mb anil))) := me_bin i20_ok op_xor ha hb
end
def fNeg : Sto → List W → Option W
  | _, [.d (.int i)] => some (.d (.int (-i)))
  | _, _ => none
theorem neg_ok : POk K (r1 (rU fun i => .int (-i))) fNeg := fun F μ S H ws vs w Q rs h q k => by
  unfold fNeg at h
  split at h
  · rename_i i
    cases h
    obtain ⟨v, rfl, q1⟩ := rep1 q
    cases dint.mp q1
    exact ⟨_, rfl, i, rfl, pk_int k⟩
  · cases h
theorem me_neg {a : Expr} {ma : Em} {pos : Pos} (ha : ME X a ma) : ME X (.UnaryOp .USub a pos) (prim fNeg (acons ma anil)) := me_un neg_ok un_neg ha

/-! ### lists that are tracked: +, * -/
def lsW (S : Sto) : W → Option (List W)
  | .d (.lst ds) => some (ds.map W.d)
  | .ref k => lstOf S k
  | _ => none
theorem ls_rep {F : Addr → Prop} {w : W} {v : V} {ws : List W} (rs : RS K F μ S H) (h : lsW S w = some ws) (q : RepW K μ (NF F μ S) H w v) : ∃ a vs, v = .ref a ∧ H a = some (.lst vs) ∧ RepWs K μ (NF F μ S) H ws vs := by
  cases w with
  | d x =>
    cases x with
    | lst ds =>
      cases h
      obtain ⟨a, vs, e, h1, h2⟩ := dlst.mp q
      exact ⟨a, vs, e, h1.1, rep_map h2⟩
    | _ => cases h
  | ref k =>
    obtain ⟨a, h1, e⟩ := q
    have hc := lstOf_some h
    obtain ⟨vs, h2, h3⟩ := rs.at_ k a _ h1 hc
    exact ⟨a, vs, e, h2, h3⟩
  | op _ => cases h
/-! ### + : ints, tuples -/
def fAdd : Sto → List W → Option W
  | _, [.d (.int i), .d (.int j)] => some (.d (.int (i + j)))
  | _, [.d (.tup a), .d (.tup b)] => if a.length + b.length ≤ 1000000 then some (.d (.tup (a ++ b))) else none
  | S, [x, y] => (lsW S x).bind fun a => (lsW S y).bind fun b => if a.length + b.length ≤ 1000000 then (datas (a ++ b)).bind fun ds => some (.d (.lst ds)) else none
  | _, _ => none
theorem RepDs.length : ∀ {ds : List D} {vs : List V}, RepDs K N H ds vs → ds.length = vs.length := fun h => Paired.length (repDs_iff.mp h)
theorem pairedAppend {α β : Type} {R : α → β → Prop} : ∀ {a b : List α} {c d : List β}, Paired R a c → Paired R b d → Paired R (a ++ b) (c ++ d)
  | _, _, _, _, .nil, q => q
  | _, _, _, _, .cons r t, q => .cons r (pairedAppend t q)
theorem RepDs.append {a b : List D} {c d : List V} (h : RepDs K N H a c) (h2 : RepDs K N H b d) : RepDs K N H (a ++ b) (c ++ d) := repDs_iff.mpr (pairedAppend (repDs_iff.mp h) (repDs_iff.mp h2))
theorem fr_rep {F : Addr → Prop} {H' : Hp} (rs : RS K F μ S H) (f : Fr H H') {ds : List D} {vs : List V} (h : RepDs K (NF F μ S) H ds vs) : RepDs K (NF F μ S) H' ds vs := h.mono (f.gs rs).go
theorem add_ok : POk K (r2 fun x y H Q => (rI0 (fun i j => .int (i + j)) x y H Q ∨ rCatA K x y H Q) ∨ rCat x y H Q) fAdd := fun F μ S H ws vs w Q rs h q k => by
  unfold fAdd at h
  split at h
  · rename_i i j
    cases h
    obtain ⟨v, u, rfl, q1, q2⟩ := rep2 q
    cases dint.mp q1; cases dint.mp q2
    exact ⟨_, _, rfl, .inl (.inl ⟨i, j, rfl, rfl, pk_int k⟩)⟩
  · rename_i da db
    split at h
    · rename_i hl
      cases h
      obtain ⟨v, u, rfl, q1, q2⟩ := rep2 q
      obtain ⟨a, xs, rfl, h1, h2⟩ := dtup.mp q1
      obtain ⟨b, ys, rfl, h3, h4⟩ := dtup.mp q2
      have l1 := h2.length
      have l2 := h4.length
      refine ⟨_, _, rfl, .inl (.inr ⟨a, b, xs, ys, rfl, rfl, h1, h3, Nat.le_of_lt (lim_line (by omega)), fun e => ?_, fun _ e => ?_, fun _ _ p hp => ?_⟩)⟩
      · subst e
        have : da = [] := List.eq_nil_of_length_eq_zero (by simpa using l1)
        subst this
        exact k _ _ Fr.refl (dtup.mpr ⟨b, ys, rfl, h3, h4⟩)
      · subst e
        have : db = [] := List.eq_nil_of_length_eq_zero (by simpa using l2)
        subst this
        exact k _ _ Fr.refl (dtup.mpr ⟨a, xs, rfl, h1, by rw [List.append_nil]; exact h2⟩)
      · exact k _ _ (Fr.upd hp) (dtup.mpr ⟨p, xs ++ ys, rfl, .inl (.inl upd_same), (fr_rep rs (Fr.upd hp) h2).append (fr_rep rs (Fr.upd hp) h4)⟩)
    · cases h
  · obtain ⟨a, e1, h⟩ := bind_some h
    obtain ⟨b, e2, h⟩ := bind_some h
    split at h
    · rename_i hl
      obtain ⟨ds, e3, h⟩ := bind_some h
      cases h
      obtain ⟨v, u, rfl, q1, q2⟩ := rep2 q
      obtain ⟨l, xs, rfl, h1, h2⟩ := ls_rep rs e1 q1
      obtain ⟨l', ys, rfl, h3, h4⟩ := ls_rep rs e2 q2
      have l1 := h2.length
      have l2 := h4.length
      refine ⟨_, _, rfl, .inr ⟨l, l', xs, ys, rfl, rfl, h1, h3, Nat.le_of_lt (lim_line (by omega)), fun p hp => ?_⟩⟩
      exact k _ _ (Fr.upd hp) (dlst.mpr ⟨p, _, rfl, ⟨upd_same, fun z => rs.there z hp⟩, fr_rep rs (Fr.upd hp) (datas_rep e3 (h2.append h4))⟩)
    · cases h
  · cases h
theorem me_add {a b : Expr} {ma mb : Em} {pos : Pos} (ha : ME X a ma) (hb : ME X b mb) : ME X (.BinOp a .Add b pos) (prim fAdd (acons ma (acons mb anil))) := me_bin add_ok (OpR.or (OpR.or op_add op_catA) op_cat) ha hb
def fCat (S : Sto) : List W → Option (List W)
  | [x, y] => (lsW S x).bind fun a => (lsW S y).bind fun b => if a.length + b.length ≤ 1000000 then some (a ++ b) else none
  | _ => none
theorem cat_ok : POkF K (r2 rCat) fCat := fun F μ S H ws vs w Q rs h q k => by
  unfold fCat at h
  split at h
  · obtain ⟨a, e1, h⟩ := bind_some h
    obtain ⟨b, e2, h⟩ := bind_some h
    split at h
    · rename_i hl
      cases h
      obtain ⟨v, u, rfl, q1, q2⟩ := rep2 q
      obtain ⟨l, xs, rfl, h1, h2⟩ := ls_rep rs e1 q1
      obtain ⟨l', ys, rfl, h3, h4⟩ := ls_rep rs e2 q2
      have l1 := h2.length
      have l2 := h4.length
      exact ⟨_, _, rfl, l, l', xs, ys, rfl, rfl, h1, h3, Nat.le_of_lt (lim_line (by omega)), fun p hp => k p _ hp (h2.append h4)⟩
    · cases h
  · cases h
theorem mf_cat {a b : Expr} {ma mb : Em} {pos : Pos} (ha : ME X a ma) (hb : ME X b mb) : MF X (.BinOp a .Add b pos) (primF fCat (acons ma (acons mb anil))) := mf_bin cat_ok op_cat ha hb
def fRep (S : Sto) : List W → Option (List W)
  | [x, .d (.int k)] => (lsW S x).bind fun a => if k.natAbs ≤ 2000000 ∧ a.length * k.toNat ≤ 1000000 then some (List.replicate k.toNat a).flatten else none
  | _ => none
theorem pairedFlat {α β : Type} {R : α → β → Prop} {a : List α} {b : List β} (h : Paired R a b) : ∀ n : Nat, Paired R (List.replicate n a).flatten (List.replicate n b).flatten
  | 0 => .nil
  | n + 1 => by
    rw [List.replicate_succ, List.replicate_succ, List.flatten_cons, List.flatten_cons]
    exact pairedAppend h (pairedFlat h n)
theorem rep_ok : POkF K (r2 rRep) fRep := fun F μ S H ws vs w Q rs h q k => by
  unfold fRep at h
  split at h
  · rename_i x j
    obtain ⟨a, e1, h⟩ := bind_some h
    split at h
    · rename_i hl
      cases h
      obtain ⟨v, u, rfl, q1, q2⟩ := rep2 q
      cases dint.mp q2
      obtain ⟨l, xs, rfl, h1, h2⟩ := ls_rep rs e1 q1
      have l1 := h2.length
      refine ⟨_, _, rfl, l, j, xs, rfl, rfl, h1, by omega, by omega, Nat.le_of_lt (lim_line (by rw [← l1]; exact hl.2)), fun p hp => k p _ hp (pairedFlat h2 j.toNat)⟩
    · cases h
  · cases h
def fMulX : Sto → List W → Option W
  | _, [.d (.int i), .d (.int j)] => if mulOk i j = true then some (.d (.int (i * j))) else none
  | _, [.d (.tup ds), .d (.int k)] => if ds ≠ [] ∧ 2 ≤ k ∧ k ≤ 1000 ∧ ds.length ≤ 1000 then some (.d (.tup (List.replicate k.toNat ds).flatten)) else none
  | S, [x, .d (.int k)] => (lsW S x).bind fun a => if k.natAbs ≤ 2000000 ∧ a.length * k.toNat ≤ 1000000 then (datas (List.replicate k.toNat a).flatten).bind fun ds => some (.d (.lst ds)) else none
  | _, _ => none
theorem mulX_ok : POk K (r2 fun x y H Q => (rI cMul (fun i j => .int (i * j)) x y H Q ∨ rRepT K x y H Q) ∨ rRep x y H Q) fMulX := fun F μ S H ws vs w Q rs h q k => by
  unfold fMulX at h
  split at h
  · rename_i i j
    split at h
    · rename_i e
      cases h
      obtain ⟨v, u, rfl, q1, q2⟩ := rep2 q
      cases dint.mp q1; cases dint.mp q2
      exact ⟨_, _, rfl, .inl (.inl ⟨i, j, rfl, rfl, mulOk_ok e, pk_int k⟩)⟩
    · cases h
  · rename_i ds j
    split at h
    · rename_i e
      cases h
      obtain ⟨v, u, rfl, q1, q2⟩ := rep2 q
      cases dint.mp q2
      obtain ⟨a, xs, rfl, h1, h2⟩ := dtup.mp q1
      have l1 := h2.length
      refine ⟨_, _, rfl, .inl (.inr ⟨a, j, xs, rfl, rfl, h1, fun z => e.1 (List.eq_nil_of_length_eq_zero (by rw [l1, z]; rfl)), e.2.1, e.2.2.1, by omega, fun p hp => ?_⟩)⟩
      exact k _ _ (Fr.upd hp) (dtup.mpr ⟨p, _, rfl, .inl (.inl upd_same), fr_rep rs (Fr.upd hp) (repDs_iff.mpr (pairedFlat (repDs_iff.mp h2) j.toNat))⟩)
    · cases h
  · rename_i x j _ _
    obtain ⟨a, e1, h⟩ := bind_some h
    split at h
    · rename_i hl
      obtain ⟨ds, e2, h⟩ := bind_some h
      cases h
      obtain ⟨v, u, rfl, q1, q2⟩ := rep2 q
      cases dint.mp q2
      obtain ⟨l, xs, rfl, h1, h2⟩ := ls_rep rs e1 q1
      have l1 := h2.length
      refine ⟨_, _, rfl, .inr ⟨l, j, xs, rfl, rfl, h1, by omega, by omega, Nat.le_of_lt (lim_line (by rw [← l1]; exact hl.2)), fun p hp => ?_⟩⟩
      exact k _ _ (Fr.upd hp) (dlst.mpr ⟨p, _, rfl, ⟨upd_same, fun z => rs.there z hp⟩, fr_rep rs (Fr.upd hp) (datas_rep e2 (pairedFlat h2 j.toNat))⟩)
    · cases h
  · cases h
theorem me_mulX {a b : Expr} {ma mb : Em} {pos : Pos} (ha : ME X a ma) (hb : ME X b mb) : ME X (.BinOp a .Mult b pos) (prim fMulX (acons ma (acons mb anil))) := me_bin mulX_ok (OpR.or (OpR.or op_mulC op_repT) op_rep) ha hb
theorem mf_rep {a b : Expr} {ma mb : Em} {pos : Pos} (ha : ME X a ma) (hb : ME X b mb) : MF X (.BinOp a .Mult b pos) (primF fRep (acons ma (acons mb anil))) := mf_bin rep_ok op_rep ha hb
end
end GM

set_option Elab.async false
set_option linter.all false
set_option maxRecDepth 100000
set_option maxHeartbeats 4000000
set_option autoImplicit false
namespace GM
open PySem L2
/-! ### == of data -/
mutual
def D.py : D → PyData
  | .non => .none
  | .bl b => .bool b
  | .int i => .int i
  | .str x => .str x
  | .tup ds => .tuple (D.pys ds)
  | .lst ds => .list (D.pys ds)
  | .scr ds => .list (D.pys ds)
def D.pys : List D → List PyData
  | [] => []
  | d :: ds => D.py d :: D.pys ds
end
theorem pys_map : ∀ ds : List D, D.pys ds = ds.map D.py
  | [] => by rw [D.pys]; rfl
  | d :: ds => by rw [D.pys, pys_map ds]; rfl
/-- of a form that == takes: not deeper than n -/
def sh : Nat → D → Bool
  | _, .non => true
  | _, .bl _ => true
  | _, .int _ => true
  | _, .str x => PyData.strOk x
  | 0, _ => false
  | n + 1, .tup ds => ds.all (sh n)
  | n + 1, .lst ds => ds.all (sh n)
  | n + 1, .scr ds => ds.all (sh n)
def eqD (a b : D) : Bool := PyData.eqv a.py b.py
theorem sh_py : ∀ (n : Nat) (d : D), sh n d = true → PyData.canLay0 d.py = true ∧ PyData.depth d.py ≤ n + 1 := by
  intro n
  have flat : ∀ n : Nat, ∀ d : D, (match d with | .tup _ => False | .lst _ => False | .scr _ => False | _ => True) → sh n d = true → PyData.canLay0 d.py = true ∧ PyData.depth d.py ≤ n + 1 := by
    intro n d hd h
    cases d with
    | non => rw [D.py]; exact ⟨by rw [PyData.canLay0], by simp [PyData.depth]⟩
    | bl b => rw [D.py]; exact ⟨by rw [PyData.canLay0], by simp [PyData.depth]⟩
    | int i => rw [D.py]; exact ⟨by rw [PyData.canLay0], by simp [PyData.depth]⟩
    | str x =>
      rw [D.py]
      have hx : PyData.strOk x = true := by cases n <;> exact h
      exact ⟨by rw [PyData.canLay0]; exact hx, by simp [PyData.depth]⟩
    | _ => exact hd.elim
  induction n with
  | zero =>
    intro d h
    cases d <;> first | exact flat 0 _ trivial h | cases h
  | succ n ih =>
    have all : ∀ ds : List D, ds.all (sh n) = true → PyData.canLayAll0 (D.pys ds) = true ∧ PyData.depthAll (D.pys ds) ≤ n + 1 := by
      intro ds
      induction ds with
      | nil => intro _; rw [D.pys]; exact ⟨by rw [PyData.canLayAll0], by simp [PyData.depthAll]⟩
      | cons d ds ihd =>
        intro h
        rw [List.all_cons, Bool.and_eq_true] at h
        obtain ⟨h1, h2⟩ := ih d h.1
        obtain ⟨h3, h4⟩ := ihd h.2
        rw [D.pys]
        exact ⟨by rw [PyData.canLayAll0, h1, h3]; rfl, by simp only [PyData.depthAll]; omega⟩
    intro d h
    cases d with
    | tup ds =>
      obtain ⟨h1, h2⟩ := all ds h
      rw [D.py]
      exact ⟨by rw [PyData.canLay0]; exact h1, by simp only [PyData.depth]; omega⟩
    | lst ds =>
      obtain ⟨h1, h2⟩ := all ds h
      rw [D.py]
      exact ⟨by rw [PyData.canLay0]; exact h1, by simp only [PyData.depth]; omega⟩
    | scr ds =>
      obtain ⟨h1, h2⟩ := all ds h
      rw [D.py]
      exact ⟨by rw [PyData.canLay0]; exact h1, by simp only [PyData.depth]; omega⟩
    | _ => exact flat (n + 1) _ trivial h
theorem shaped_of {n : Nat} {d : D} (h : sh n d = true) (hn : n ≤ 60) : SeqAt.shaped d.py = true := by
  obtain ⟨h1, h2⟩ := sh_py n d h
  unfold SeqAt.shaped
  rw [h1, decide_eq_true (by omega)]
  rfl
/-- a cell that holds data alone, or data, as data -/
def view (S : Sto) : W → Option D
  | .d d => some d
  | .ref k => (lstOf S k).bind fun ws => (datas ws).bind fun ds => some (.lst ds)
  | .op _ => none
section
variable {K : PySem.W.Frag} {F : Addr → Prop} {μ : List Addr} {N : Addr → Prop} {S : Sto} {H : Hp} {X : Cx}
mutual
theorem dp_of : ∀ {d : D} {v : V}, RepD K N H d v → Dp K H v d.py
  | .non, v, h => by rw [RepD] at h; subst h; rw [D.py]; exact .non
  | .bl b, v, h => by rw [RepD] at h; subst h; rw [D.py]; exact .bl b
  | .int b, v, h => by rw [RepD] at h; subst h; rw [D.py]; exact .int b
  | .str b, v, h => by rw [RepD] at h; subst h; rw [D.py]; exact .str b
  | .tup ds, v, h => by
    rw [RepD] at h
    obtain ⟨a, vs, rfl, h1, h2⟩ := h
    rw [D.py]
    exact .tup h1 (dp_all h2)
  | .lst ds, v, h => by
    rw [RepD] at h
    obtain ⟨a, vs, rfl, h1, h2⟩ := h
    rw [D.py]
    exact .lst h1.sq (dp_all h2)
  | .scr ds, v, h => by
    rw [RepD] at h
    obtain ⟨a, vs, rfl, h1, h2⟩ := h
    rw [D.py]
    exact .lst h1.sq (dp_all h2)
theorem dp_all : ∀ {ds : List D} {vs : List V}, RepDs K N H ds vs → DpAll K H vs (D.pys ds)
  | [], vs, h => by rw [RepDs] at h; subst h; rw [D.pys]; exact .nil
  | d :: ds, vs, h => by
    rw [RepDs] at h
    obtain ⟨v, r, rfl, h1, h2⟩ := h
    rw [D.pys]
    exact .cons (dp_of h1) (dp_all h2)
end
theorem view_dp {w : W} {v : V} {d : D} (rs : RS K F μ S H) (h : view S w = some d) (q : RepW K μ (NF F μ S) H w v) : Dp K H v d.py := by
  cases w with
  | d x => cases h; exact dp_of q
  | ref k =>
    obtain ⟨ws, e1, h⟩ := bind_some (show (lstOf S k).bind _ = some d from h)
    obtain ⟨ds, e2, h⟩ := bind_some h
    cases h
    obtain ⟨a, h1, rfl⟩ := q
    obtain ⟨vs, h2, h3⟩ := rs.at_ k a _ h1 (lstOf_some e1)
    rw [D.py]
    exact .lst (.inl (.inl h2)) (dp_all (datas_rep e2 h3))
  | op _ => cases h
def fEqB (g : Bool → Bool) (S : Sto) : List W → Option W
  | [x, y] => (view S x).bind fun a => (view S y).bind fun b => if (sh 40 a && sh 40 b) = true then some (.d (.bl (g (eqD a b)))) else none
  | _ => none
def fEq := fEqB id
def fNe := fEqB not
theorem eq_ok : POk K (r2 (rEqD K)) fEq := fun F μ S H ws vs w Q rs h q k => by
  unfold fEq fEqB at h
  split at h
  · obtain ⟨a, e1, h⟩ := bind_some h
    obtain ⟨b, e2, h⟩ := bind_some h
    split at h
    · rename_i hs
      cases h
      rw [Bool.and_eq_true] at hs
      obtain ⟨v, u, rfl, q1, q2⟩ := rep2 q
      exact ⟨_, _, rfl, _, _, view_dp rs e1 q1, view_dp rs e2 q2, shaped_of hs.1 (by decide), shaped_of hs.2 (by decide), pk_bl k⟩
    · cases h
  · cases h
theorem ne_ok : POk K (r2 (rNeD K)) fNe := fun F μ S H ws vs w Q rs h q k => by
  unfold fNe fEqB at h
  split at h
  · obtain ⟨a, e1, h⟩ := bind_some h
    obtain ⟨b, e2, h⟩ := bind_some h
    split at h
    · rename_i hs
      cases h
      rw [Bool.and_eq_true] at hs
      obtain ⟨v, u, rfl, q1, q2⟩ := rep2 q
      exact ⟨_, _, rfl, _, _, view_dp rs e1 q1, view_dp rs e2 q2, shaped_of hs.1 (by decide), shaped_of hs.2 (by decide), pk_bl k⟩
    · cases h
  · cases h
/-! ### is None -/
def fIsN : Sto → List W → Option W
  | _, [.d x, .d .non] => some (.d (.bl (decide (x = .non))))
  | _, [.ref _, .d .non] => some (.d (.bl false))
  | _, _ => none
def fNotN : Sto → List W → Option W
  | _, [.d x, .d .non] => some (.d (.bl (!decide (x = .non))))
  | _, [.ref _, .d .non] => some (.d (.bl true))
  | _, _ => none
theorem non_iff {x : D} {v : V} (q : RepD K N H x v) : decide (v = .non) = decide (x = .non) := by
  cases x with
  | non => rw [RepD] at q; subst q; rfl
  | bl b => rw [RepD] at q; subst q; rfl
  | int b => rw [RepD] at q; subst q; rfl
  | str b => rw [RepD] at q; subst q; rfl
  | tup b => rw [RepD] at q; obtain ⟨a, vs, rfl, _⟩ := q; rfl
  | lst b => rw [RepD] at q; obtain ⟨a, vs, rfl, _⟩ := q; rfl
  | scr b => rw [RepD] at q; obtain ⟨a, vs, rfl, _⟩ := q; rfl
theorem isN_ok : POk K (r2 fun x y H Q => y = .non ∧ Q (.bl (decide (x = .non))) H) fIsN := fun F μ S H ws vs w Q rs h q k => by
  unfold fIsN at h
  split at h
  · cases h
    obtain ⟨v, u, rfl, q1, q2⟩ := rep2 q
    exact ⟨_, _, rfl, dnon.mp q2, by rw [non_iff q1]; exact pk_bl k⟩
  · cases h
    obtain ⟨v, u, rfl, q1, q2⟩ := rep2 q
    obtain ⟨a, _, rfl⟩ := q1
    exact ⟨_, _, rfl, dnon.mp q2, pk_bl k⟩
  · cases h
theorem notN_ok : POk K (r2 fun x y H Q => y = .non ∧ Q (.bl (!decide (x = .non))) H) fNotN := fun F μ S H ws vs w Q rs h q k => by
  unfold fNotN at h
  split at h
  · cases h
    obtain ⟨v, u, rfl, q1, q2⟩ := rep2 q
    exact ⟨_, _, rfl, dnon.mp q2, by rw [non_iff q1]; exact pk_bl k⟩
  · cases h
    obtain ⟨v, u, rfl, q1, q2⟩ := rep2 q
    obtain ⟨a, _, rfl⟩ := q1
    exact ⟨_, _, rfl, dnon.mp q2, pk_bl k⟩
  · cases h
/-! ### in -/
def flatD : D → Bool
  | .non => true
  | .bl _ => true
  | .int _ => true
  | .str _ => true
  | _ => false
def inD (x : D) (ds : List D) : Bool := ds.any fun y => eqD y x
def fInB (g : Bool → Bool) (S : Sto) : List W → Option W
  | [x, y] => (view S x).bind fun a => (view S y).bind fun b => match b with
    | .tup ds => if (flatD a && ds.all flatD) = true then some (.d (.bl (g (inD a ds)))) else if (sh 40 a && ds.all (sh 39)) = true then some (.d (.bl (g (inD a ds)))) else none
    | .lst ds => if (sh 40 a && ds.all (sh 39)) = true then some (.d (.bl (g (inD a ds)))) else none
    | _ => none
  | _ => none
def fIn := fInB id
def fNotIn := fInB not
theorem flat_v {x : D} {v : V} (h : flatD x = true) (q : RepD K N H x v) : flatV v = true := by
  cases x <;> first | cases h; done | (rw [RepD] at q; subst q; rfl)
theorem eqV_D {x y : D} {v u : V} (h : flatD x = true) (h' : flatD y = true) (q : RepD K N H x v) (q' : RepD K N H y u) : eqV v u = eqD x y := by
  unfold eqD
  cases x <;> first | cases h; done | skip
  all_goals (cases y <;> first | cases h'; done | (rw [RepD] at q; rw [RepD] at q'; subst q; subst q'; simp only [D.py, PyData.eqv, eqV]))
theorem inV_D {x : D} {v : V} (h : flatD x = true) (q : RepD K N H x v) : ∀ {ds : List D} {vs : List V}, ds.all flatD = true → RepDs K N H ds vs → inV v vs = inD x ds ∧ vs.all flatV = true
  | [], vs, _, r => by rw [RepDs] at r; subst r; exact ⟨rfl, rfl⟩
  | d :: ds, vs, h', r => by
    rw [RepDs] at r
    obtain ⟨u, us, rfl, r1, r2⟩ := r
    rw [List.all_cons, Bool.and_eq_true] at h'
    obtain ⟨e1, e2⟩ := inV_D h q h'.2 r2
    refine ⟨?_, by rw [List.all_cons, flat_v h'.1 r1, e2]; rfl⟩
    show (u :: us).any _ = (d :: ds).any _
    rw [List.any_cons, List.any_cons, eqV_D h'.1 h r1 q]
    congr 1
theorem any_py {x : D} (ds : List D) : (D.pys ds).any (fun z => PyData.eqv z x.py) = inD x ds := by
  rw [pys_map, List.any_map]
  rfl
theorem in_core {neg : Bool} {g : Bool → Bool} (hg : ∀ b, g b = if neg then !b else b) : POk K (r2 fun x y H Q => rIn K neg x y H Q ∨ (∃ d ds, Dp K H x d ∧ Dp K H y (.list ds) ∧ SeqAt.shaped d = true ∧ SeqAt.shaped (.list ds) = true ∧ Q (.bl (g (ds.any fun z => PyData.eqv z d))) H) ∨ (∃ d ds, Dp K H x d ∧ Dp K H y (.tuple ds) ∧ SeqAt.shaped d = true ∧ SeqAt.shaped (.tuple ds) = true ∧ Q (.bl (g (ds.any fun z => PyData.eqv z d))) H)) (fInB g) := fun F μ S H ws vs w Q rs h q k => by
  unfold fInB at h
  split at h
  · rename_i x y
    obtain ⟨a, e1, h⟩ := bind_some h
    obtain ⟨b, e2, h⟩ := bind_some h
    obtain ⟨v, u, rfl, q1, q2⟩ := rep2 q
    split at h
    · rename_i ds
      split at h
      · rename_i hs
        cases h
        rw [Bool.and_eq_true] at hs
        cases y with
        | d z =>
          cases e2
          obtain ⟨t, xs, rfl, h1, h2⟩ := dtup.mp q2
          cases x with
          | d z =>
            cases e1
            obtain ⟨i1, i2⟩ := inV_D hs.1 q1 hs.2 h2
            refine ⟨_, _, rfl, .inl ⟨t, xs, rfl, .inr h1, flat_v hs.1 q1, i2, ?_⟩⟩
            rw [i1, ← hg]
            have e : (if neg = true then !inD a ds else inD a ds) = g (inD a ds) := (hg _).symm
            exact pk_bl k
          | ref kk =>
            obtain ⟨ws, e3, e1⟩ := bind_some (show (lstOf S kk).bind _ = some a from e1)
            obtain ⟨ds', e4, e1⟩ := bind_some e1
            cases e1
            cases hs.1
          | op _ => cases e1
        | ref kk =>
          obtain ⟨ws, e3, e2⟩ := bind_some (show (lstOf S kk).bind _ = some (D.tup ds) from e2)
          obtain ⟨ds', e4, e2⟩ := bind_some e2
          cases e2
        | op _ => cases e2
      · split at h
        · rename_i hs
          cases h
          rw [Bool.and_eq_true] at hs
          have hd := view_dp rs e2 q2
          rw [D.py] at hd
          refine ⟨_, _, rfl, .inr (.inr ⟨_, _, view_dp rs e1 q1, hd, shaped_of hs.1 (by decide), ?_, ?_⟩)⟩
          · have := shaped_of (n := 40) (d := .tup ds) hs.2 (by decide)
            rw [D.py] at this
            exact this
          · rw [any_py]
            exact pk_bl k
        · cases h
    · rename_i ds
      split at h
      · rename_i hs
        cases h
        rw [Bool.and_eq_true] at hs
        have hd := view_dp rs e2 q2
        rw [D.py] at hd
        refine ⟨_, _, rfl, .inr (.inl ⟨_, _, view_dp rs e1 q1, hd, shaped_of hs.1 (by decide), ?_, ?_⟩)⟩
        · have := shaped_of (n := 40) (d := .lst ds) hs.2 (by decide)
          rw [D.py] at this
          exact this
        · rw [any_py]
          exact pk_bl k
      · cases h
    · cases h
  · cases h
def rInU (K : PySem.W.Frag) (g : Bool → Bool) : R2 := fun x y H Q => ∃ d ds, Dp K H x d ∧ Dp K H y (.tuple ds) ∧ SeqAt.shaped d = true ∧ SeqAt.shaped (.tuple ds) = true ∧ Q (.bl (g (ds.any fun z => PyData.eqv z d))) H
theorem in_ok : POk K (r2 fun x y H Q => rIn K false x y H Q ∨ rInD K x y H Q ∨ rInU K id x y H Q) fIn := in_core fun b => rfl
theorem notIn_ok : POk K (r2 fun x y H Q => rIn K true x y H Q ∨ rNotInD K x y H Q ∨ rInU K not x y H Q) fNotIn := in_core fun b => rfl
/-! ### a[i] -/
def fIx (S : Sto) : List W → Option W
  | [x, .d (.int i)] => (seqW S x).bind fun ws => atI ws i
  | _ => none
theorem ix_ok : POk K (r2 (rIx K)) fIx := fun F μ S H ws vs w Q rs h q k => by
  unfold fIx at h
  split at h
  · rename_i x i
    obtain ⟨us, e1, h⟩ := bind_some h
    obtain ⟨v, u, rfl, q1, q2⟩ := rep2 q
    cases dint.mp q2
    obtain ⟨a, xs, rfl, hs, r⟩ := seq_rep rs e1 q1
    have at_ : ∃ z, atI xs i = some z ∧ RepW K μ (NF F μ S) H w z := by
      unfold atI at h ⊢
      obtain ⟨j, e2, h⟩ := bind_some h
      rw [← r.length, e2]
      exact r.get h
    obtain ⟨z, e2, q3⟩ := at_
    rcases hs with hs | hs
    · exact ⟨_, _, rfl, .inl ⟨a, xs, i, z, rfl, rfl, hs, e2, k z H Fr.refl q3⟩⟩
    · exact ⟨_, _, rfl, .inr (.inl ⟨a, xs, i, z, rfl, rfl, hs, e2, k z H Fr.refl q3⟩)⟩
  · cases h
theorem me_item {a b : Expr} {ma mb : Em} {pos : Pos} (ha : ME X a ma) (hb : ME X b mb) (hs : PlainIx b) : ME X (.Subscript a b pos) (prim fIx (acons ma (acons mb anil))) := me_ix ix_ok ix_seq ha hb hs
/-! ### slices -/
def cutW {α : Type} (xs : List α) (lo hi : Option Int) : List α := (xs.drop (HT.sIx xs.length 0 lo)).take (HT.sIx xs.length xs.length hi - HT.sIx xs.length 0 lo)
abbrev Om := Rho → Sto → Option (Option Int × Sto)
def onone : Om := fun _ S => some (none, S)
def osome (m : Em) : Om := fun ρ S => (m ρ S).bind fun p => match p.1 with
  | .d (.int i) => some (some i, p.2)
  | _ => none
def msl (f : Sto → W → Option Int → Option Int → Option W) (ma : Em) (ml mh : Om) : Em := fun ρ S => (ma ρ S).bind fun p => (ml ρ p.2).bind fun q => (mh ρ q.2).bind fun r => (f r.2 p.1 q.1 r.1).bind fun w => some (w, r.2)
def mslF (f : Sto → W → Option Int → Option Int → Option (List W)) (ma : Em) (ml mh : Om) : Am := fun ρ S => (ma ρ S).bind fun p => (ml ρ p.2).bind fun q => (mh ρ q.2).bind fun r => (f r.2 p.1 q.1 r.1).bind fun w => some (w, r.2)
def slT (_ : Sto) : W → Option Int → Option Int → Option W
  | .d (.tup ds), lo, hi => some (.d (.tup (cutW ds lo hi)))
  | _, _, _ => none
def slL (S : Sto) : W → Option Int → Option Int → Option (List W)
  | .d (.tup _), _, _ => none
  | x, lo, hi => (seqW S x).bind fun ws => some (cutW ws lo hi)
def LO (K : PySem.W.Frag) (m : Om) : TO := fun σ H Q => ∃ (F : Addr → Prop) (μ : List Addr) (ρ : Rho) (S : Sto) (o : Option Int) (S' : Sto), RS K F μ S H ∧ RSt K μ (NF F μ S) H σ ρ ∧ m ρ S = some (o, S') ∧
  ∀ μ' H', Gs K F μ S H μ' S' H' → Q o H'
theorem PO.cons {X : Cx} {e : Option Expr} {t t' : TO} (h : PO X e t) (f : ∀ σ H Q, t' σ H Q → t σ H Q) : PO X e t' := ⟨fun pins s σ H Q I q => h.run pins s σ H Q I (f _ _ _ q)⟩
abbrev MO (X : Cx) (e : Option Expr) (m : Om) : Prop := PO X e (LO X.K m)
theorem mo_none : MO X none onone := PO.cons po_none fun σ H Q ⟨F, μ, ρ, S, o, S', rs, rst, h, k⟩ => by
  cases h
  exact k μ H (Gs.refl rs)
theorem mo_some {e : Expr} {m : Em} (h : ME X e m) : MO X (some e) (osome m) := PO.cons (po_some h) fun σ H Q ⟨F, μ, ρ, S, o, S', rs, rst, h, k⟩ => by
  obtain ⟨⟨w, S1⟩, e1, h⟩ := bind_some h
  refine ⟨F, μ, ρ, S, w, S1, rs, rst, e1, fun μ' v H' g q => ?_⟩
  cases w with
  | d x =>
    cases x with
    | int i => cases h; exact ⟨i, dint.mp q, k μ' H' g⟩
    | _ => cases h
  | _ => cases h
theorem pairedDrop {α β : Type} {R : α → β → Prop} : ∀ {a : List α} {b : List β} (n : Nat), Paired R a b → Paired R (a.drop n) (b.drop n)
  | _, _, 0, r => r
  | _, _, _ + 1, .nil => .nil
  | _, _, n + 1, .cons _ t => pairedDrop n t
theorem pairedTake {α β : Type} {R : α → β → Prop} : ∀ {a : List α} {b : List β} (n : Nat), Paired R a b → Paired R (a.take n) (b.take n)
  | _, _, 0, _ => .nil
  | _, _, _ + 1, .nil => .nil
  | _, _, n + 1, .cons r t => .cons r (pairedTake n t)
theorem cut_rep {ws : List W} {vs : List V} {lo hi : Option Int} (q : RepWs K μ N H ws vs) : RepWs K μ N H (cutW ws lo hi) (cutV vs lo hi) := by
  unfold cutW cutV
  rw [Paired.length q]
  exact pairedTake _ (pairedDrop _ q)
theorem cut_map {α β : Type} (f : α → β) (xs : List α) (lo hi : Option Int) : (cutW xs lo hi).map f = cutW (xs.map f) lo hi := by
  unfold cutW
  rw [List.map_take, List.map_drop, List.length_map]
theorem me_slT {a : Expr} {lo hi : Option Expr} {ma : Em} {ml mh : Om} {p2 pos : Pos} (ha : ME X a ma) (hl : MO X lo ml) (hh : MO X hi mh) : ME X (.Subscript a (.Slice lo hi none p2) pos) (msl slT ma ml mh) :=
  PE.cons (pe_slice sl_tupA ha hl hh) fun σ H Q ⟨F, μ, ρ, S, w, S', rs, rst, h, k⟩ => by
    obtain ⟨⟨w1, S1⟩, e1, h⟩ := bind_some h
    obtain ⟨⟨l, S2⟩, e2, h⟩ := bind_some h
    obtain ⟨⟨u, S3⟩, e3, h⟩ := bind_some h
    obtain ⟨w2, e4, h⟩ := bind_some h
    cases h
    refine ⟨F, μ, ρ, S, w1, S1, rs, rst, e1, fun μ1 v H1 g1 q1 => ⟨F, μ1, ρ, S1, l, S2, g1.rs, rst.mono g1.go g1.pre, e2, fun μ2 H2 g2 => ⟨F, μ2, ρ, S2, u, S3, g2.rs, (rst.mono g1.go g1.pre).mono g2.go g2.pre, e3, fun μ3 H3 g3 => ?_⟩⟩⟩
    have g23 := g2.trans g3
    have q3 : RepW X.K μ3 (NF F μ3 S3) H3 w1 v := q1.mono g23.go g23.pre
    cases w1 with
    | d x =>
      cases x with
      | tup ds =>
        cases e4
        obtain ⟨a, xs, rfl, h1, h2⟩ := dtup.mp q3
        have hl := h2.length
        have kk := fun v H' g q => k μ3 v H' ((g1.trans g23).trans g) q
        refine ⟨a, xs, rfl, h1, fun ⟨c1, c2⟩ => ?_, fun _ p hp => ?_⟩
        · refine kk _ H3 (Gs.refl g3.rs) (dtup.mpr ⟨a, xs, rfl, h1, ?_⟩)
          have : cutW ds l u = ds := by
            unfold cutW
            rw [hl, c1, c2, List.drop_zero, Nat.sub_zero, ← hl, List.take_length]
          show RepDs _ _ _ (cutW ds l u) xs
          rw [this]; exact h2
        · refine kk _ _ ((Fr.upd hp).gs g3.rs) (dtup.mpr ⟨p, _, rfl, .inl (.inl upd_same), ?_⟩)
          refine fr_rep g3.rs (Fr.upd hp) (datas_rep (μ := μ3) (ws := (cutW ds l u).map W.d) ?_ (by rw [cut_map]; exact cut_rep (rep_map h2)))
          have dm : ∀ l : List D, datas (l.map W.d) = some l := fun l => by
            induction l with
            | nil => rfl
            | cons d ds ih => show (datas (ds.map W.d)).bind _ = _; rw [ih]; rfl
          exact dm _
      | _ => cases e4
    | _ => cases e4
theorem datas_map : ∀ l : List D, datas (l.map W.d) = some l
  | [] => rfl
  | d :: ds => by show (datas (ds.map W.d)).bind _ = _; rw [datas_map ds]; rfl
theorem mf_slL {a : Expr} {lo hi : Option Expr} {ma : Em} {ml mh : Om} {p2 pos : Pos} (ha : ME X a ma) (hl : MO X lo ml) (hh : MO X hi mh) : MF X (.Subscript a (.Slice lo hi none p2) pos) (mslF slL ma ml mh) :=
  PE.cons (pe_slice sl_list ha hl hh) fun σ H Q ⟨F, μ, ρ, S, w, S', rs, rst, h, k⟩ => by
    obtain ⟨⟨w1, S1⟩, e1, h⟩ := bind_some h
    obtain ⟨⟨l, S2⟩, e2, h⟩ := bind_some h
    obtain ⟨⟨u, S3⟩, e3, h⟩ := bind_some h
    obtain ⟨w2, e4, h⟩ := bind_some h
    cases h
    refine ⟨F, μ, ρ, S, w1, S1, rs, rst, e1, fun μ1 v H1 g1 q1 => ⟨F, μ1, ρ, S1, l, S2, g1.rs, rst.mono g1.go g1.pre, e2, fun μ2 H2 g2 => ⟨F, μ2, ρ, S2, u, S3, g2.rs, (rst.mono g1.go g1.pre).mono g2.go g2.pre, e3, fun μ3 H3 g3 => ?_⟩⟩⟩
    have g23 := g2.trans g3
    have q3 : RepW X.K μ3 (NF F μ3 S3) H3 w1 v := q1.mono g23.go g23.pre
    unfold slL at e4
    split at e4
    · cases e4
    · rename_i hn
      obtain ⟨ws, e5, e4⟩ := bind_some e4
      cases e4
      obtain ⟨a, xs, rfl, h1, h2⟩ := seq_rep g3.rs e5 q3
      rcases h1 with h1 | h1
      · exact ⟨a, xs, rfl, h1, fun p hp => k μ3 H3 p _ (g1.trans g23) hp (cut_rep h2)⟩
      · -- a tuple is no list
        cases w1 with
        | d x =>
          cases x with
          | tup ds => exact absurd rfl (hn ds)
          | lst ds => obtain ⟨a', xs', e, h3, h4⟩ := dlst.mp q3; cases e; exact ⟨a, xs', rfl, h3.sq, fun p hp => k μ3 H3 p _ (g1.trans g23) hp (by cases e5; exact cut_rep (rep_map h4))⟩
          | scr ds =>
            have q4 : RepD _ _ _ _ _ := q3
            rw [RepD] at q4
            obtain ⟨a', xs', e, h3, h4⟩ := q4
            cases e
            exact ⟨a, xs', rfl, h3.sq, fun p hp => k μ3 H3 p _ (g1.trans g23) hp (by cases e5; exact cut_rep (rep_map h4))⟩
          | _ => cases e5
        | ref kk =>
          obtain ⟨a', b1, b2⟩ := q3
          cases b2
          obtain ⟨xs', b3, b4⟩ := g3.rs.at_ kk a _ b1 (lstOf_some e5)
          exact ⟨a, xs', rfl, .inl (.inl b3), fun p hp => k μ3 H3 p _ (g1.trans g23) hp (cut_rep b4)⟩
        | op _ => cases e5
/-- a slice of a tuple or of a list (frozen) -/
def slX (S : Sto) : W → Option Int → Option Int → Option W
  | .d (.tup ds), lo, hi => some (.d (.tup (cutW ds lo hi)))
  | x, lo, hi => (seqW S x).bind fun ws => (datas (cutW ws lo hi)).bind fun ds => some (.d (.lst ds))
theorem me_sl {a : Expr} {lo hi : Option Expr} {ma : Em} {ml mh : Om} {p2 pos : Pos} (ha : ME X a ma) (hl : MO X lo ml) (hh : MO X hi mh) : ME X (.Subscript a (.Slice lo hi none p2) pos) (msl slX ma ml mh) :=
  PE.cons (pe_slice (SlR.or sl_tupA sl_list) ha hl hh) fun σ H Q ⟨F, μ, ρ, S, w, S', rs, rst, h, k⟩ => by
    obtain ⟨⟨w1, S1⟩, e1, h⟩ := bind_some h
    obtain ⟨⟨l, S2⟩, e2, h⟩ := bind_some h
    obtain ⟨⟨u, S3⟩, e3, h⟩ := bind_some h
    obtain ⟨w2, e4, h⟩ := bind_some h
    cases h
    refine ⟨F, μ, ρ, S, w1, S1, rs, rst, e1, fun μ1 v H1 g1 q1 => ⟨F, μ1, ρ, S1, l, S2, g1.rs, rst.mono g1.go g1.pre, e2, fun μ2 H2 g2 => ⟨F, μ2, ρ, S2, u, S3, g2.rs, (rst.mono g1.go g1.pre).mono g2.go g2.pre, e3, fun μ3 H3 g3 => ?_⟩⟩⟩
    have g23 := g2.trans g3
    have q3 : RepW X.K μ3 (NF F μ3 S3) H3 w1 v := q1.mono g23.go g23.pre
    have kk := fun v H' g q => k μ3 v H' ((g1.trans g23).trans g) q
    have lst : ∀ a xs ws, SqL X.K H3 a xs → RepWs X.K μ3 (NF F μ3 S3) H3 ws xs → (datas (cutW ws l u)).bind (fun ds => some (W.d (.lst ds))) = some w → rSlL X.K (.ref a) l u H3 Q := fun a xs ws h1 h2 e => by
      obtain ⟨ds, e6, e⟩ := bind_some e
      cases e
      exact ⟨a, xs, rfl, h1, fun p hp => kk _ _ ((Fr.upd hp).gs g3.rs) (dlst.mpr ⟨p, _, rfl, ⟨upd_same, fun z => g3.rs.there z hp⟩, fr_rep g3.rs (Fr.upd hp) (datas_rep e6 (cut_rep h2))⟩)⟩
    cases w1 with
    | d x =>
      cases x with
      | tup ds =>
        cases e4
        obtain ⟨a, xs, rfl, h1, h2⟩ := dtup.mp q3
        have hl := h2.length
        refine .inl ⟨a, xs, rfl, h1, fun ⟨c1, c2⟩ => ?_, fun _ p hp => ?_⟩
        · refine kk _ H3 (Gs.refl g3.rs) (dtup.mpr ⟨a, xs, rfl, h1, ?_⟩)
          have : cutW ds l u = ds := by
            unfold cutW
            rw [hl, c1, c2, List.drop_zero, Nat.sub_zero, ← hl, List.take_length]
          show RepDs _ _ _ (cutW ds l u) xs
          rw [this]; exact h2
        · refine kk _ _ ((Fr.upd hp).gs g3.rs) (dtup.mpr ⟨p, _, rfl, .inl (.inl upd_same), ?_⟩)
          exact fr_rep g3.rs (Fr.upd hp) (datas_rep (μ := μ3) (ws := (cutW ds l u).map W.d) (datas_map _) (by rw [cut_map]; exact cut_rep (rep_map h2)))
      | lst ds =>
        obtain ⟨a, xs, rfl, h3, h4⟩ := dlst.mp q3
        exact .inr (lst a xs _ h3.sq (rep_map h4) e4)
      | scr ds =>
        have q4 : RepD _ _ _ _ _ := q3
        rw [RepD] at q4
        obtain ⟨a, xs, rfl, h3, h4⟩ := q4
        exact .inr (lst a xs _ h3.sq (rep_map h4) e4)
      | _ => cases e4
    | ref kk' =>
      obtain ⟨ws, e5, e4⟩ := bind_some (show (lstOf S3 kk').bind _ = some w from e4)
      obtain ⟨a, b1, rfl⟩ := q3
      obtain ⟨xs, b3, b4⟩ := g3.rs.at_ kk' a _ b1 (lstOf_some e5)
      exact .inr (lst a xs _ (.inl (.inl b3)) b4 e4)
    | op _ => cases e4
end
end GM

set_option Elab.async false
set_option linter.all false
set_option maxRecDepth 100000
set_option maxHeartbeats 4000000
set_option autoImplicit false
namespace GM
open PySem L2
/-! ### built-in calls -/
section
variable {K : PySem.W.Frag} {F : Addr → Prop} {μ : List Addr} {N : Addr → Prop} {S : Sto} {H : Hp} {X : Cx}
def fLen (S : Sto) : List W → Option W
  | [x] => (seqW S x).bind fun ws => some (.d (.int ws.length))
  | _ => none
theorem len_ok : POk K (fun xs H Q => ∃ p ys, xs = [.ref p] ∧ (SqL K H p ys ∨ SqT K H p ys) ∧ Q (.int ys.length) H) fLen := fun F μ S H ws vs w Q rs h q k => by
  unfold fLen at h
  split at h
  · obtain ⟨us, e1, h⟩ := bind_some h
    cases h
    obtain ⟨v, rfl, q1⟩ := rep1 q
    obtain ⟨a, xs, rfl, hs, r⟩ := seq_rep rs e1 q1
    exact ⟨a, xs, rfl, hs, by rw [← r.length]; exact pk_int k⟩
  · cases h
def fInt : Sto → List W → Option W
  | _, [.d (.int i)] => some (.d (.int i))
  | _, [.d (.bl b)] => some (.d (.int (if b then 1 else 0)))
  | _, _ => none
theorem int_ok : POk K (fun xs H Q => (∃ i, xs = [.int i] ∧ Q (.int i) H) ∨ ∃ k, xs = [.bl k] ∧ Q (.int (if k then 1 else 0)) H) fInt := fun F μ S H ws vs w Q rs h q k => by
  unfold fInt at h
  split at h
  · cases h
    obtain ⟨v, rfl, q1⟩ := rep1 q
    cases dint.mp q1
    exact .inl ⟨_, rfl, pk_int k⟩
  · cases h
    obtain ⟨v, rfl, q1⟩ := rep1 q
    cases dbl.mp q1
    exact .inr ⟨_, rfl, pk_int k⟩
  · cases h
def fAbs : Sto → List W → Option W
  | _, [.d (.int i)] => some (.d (.int (if i < 0 then -i else i)))
  | _, _ => none
theorem abs_ok : POk K (fun xs H Q => ∃ i, xs = [.int i] ∧ Q (.int (if i < 0 then -i else i)) H) fAbs := fun F μ S H ws vs w Q rs h q k => by
  unfold fAbs at h
  split at h
  · cases h
    obtain ⟨v, rfl, q1⟩ := rep1 q
    cases dint.mp q1
    exact ⟨_, rfl, pk_int k⟩
  · cases h
def fMax2 : Sto → List W → Option W
  | _, [.d (.int i), .d (.int j)] => some (.d (.int (if j > i then j else i)))
  | _, _ => none
theorem max2_ok : POk K (fun xs H Q => ∃ i j, xs = [.int i, .int j] ∧ Q (.int (if j > i then j else i)) H) fMax2 := fun F μ S H ws vs w Q rs h q k => by
  unfold fMax2 at h
  split at h
  · cases h
    obtain ⟨v, u, rfl, q1, q2⟩ := rep2 q
    cases dint.mp q1; cases dint.mp q2
    exact ⟨_, _, rfl, pk_int k⟩
  · cases h
def fMin2 : Sto → List W → Option W
  | _, [.d (.int i), .d (.int j)] => some (.d (.int (if j < i then j else i)))
  | _, _ => none
theorem min2_ok : POk K (fun xs H Q => ∃ i j, xs = [.int i, .int j] ∧ Q (.int (if j < i then j else i)) H) fMin2 := fun F μ S H ws vs w Q rs h q k => by
  unfold fMin2 at h
  split at h
  · cases h
    obtain ⟨v, u, rfl, q1, q2⟩ := rep2 q
    cases dint.mp q1; cases dint.mp q2
    exact ⟨_, _, rfl, pk_int k⟩
  · cases h
/-- the ints of a list -/
def intsW : List W → Option (List Int)
  | [] => some []
  | .d (.int i) :: r => (intsW r).bind fun l => some (i :: l)
  | _ :: _ => none
def blsW : List W → Option (List Bool)
  | [] => some []
  | .d (.bl i) :: r => (blsW r).bind fun l => some (i :: l)
  | _ :: _ => none
/-- the items of a value that is a list (no tuple) -/
def listW (S : Sto) : W → Option (List W)
  | .d (.lst ds) => some (ds.map W.d)
  | .d (.scr ds) => some (ds.map W.d)
  | .ref k => lstOf S k
  | _ => none
theorem list_rep {w : W} {v : V} {ws : List W} (rs : RS K F μ S H) (h : listW S w = some ws) (q : RepW K μ (NF F μ S) H w v) : ∃ a vs, v = .ref a ∧ SqL K H a vs ∧ RepWs K μ (NF F μ S) H ws vs := by
  cases w with
  | d x =>
    cases x with
    | lst ds =>
      cases h
      obtain ⟨a, vs, e, h1, h2⟩ := dlst.mp q
      exact ⟨a, vs, e, h1.sq, rep_map h2⟩
    | scr ds =>
      cases h
      have q' : RepD _ _ _ _ _ := q
      rw [RepD] at q'
      obtain ⟨a, vs, e, h1, h2⟩ := q'
      exact ⟨a, vs, e, h1.sq, rep_map h2⟩
    | _ => cases h
  | ref k =>
    obtain ⟨a, h1, e⟩ := q
    obtain ⟨vs, h2, h3⟩ := rs.at_ k a _ h1 (lstOf_some h)
    exact ⟨a, vs, e, .inl (.inl h2), h3⟩
  | op _ => cases h
theorem ints_rep : ∀ {ws : List W} {ns : List Int} {vs : List V}, intsW ws = some ns → RepWs K μ N H ws vs → vs = ns.map V.int
  | [], ns, _, h, .nil => by cases h; rfl
  | .d (.int i) :: r, ns, _, h, .cons q t => by
    obtain ⟨l, e, h⟩ := bind_some (show (intsW r).bind (fun l => some (i :: l)) = some ns from h)
    cases h
    rw [dint.mp q, ints_rep e t]
    rfl
  | .d .non :: r, ns, _, h, .cons q t => by cases h
  | .d (.bl _) :: r, ns, _, h, .cons q t => by cases h
  | .d (.str _) :: r, ns, _, h, .cons q t => by cases h
  | .d (.tup _) :: r, ns, _, h, .cons q t => by cases h
  | .d (.lst _) :: r, ns, _, h, .cons q t => by cases h
  | .d (.scr _) :: r, ns, _, h, .cons q t => by cases h
  | .ref _ :: r, ns, _, h, .cons q t => by cases h
  | .op _ :: r, ns, _, h, .cons q t => by cases h
theorem bls_rep : ∀ {ws : List W} {ns : List Bool} {vs : List V}, blsW ws = some ns → RepWs K μ N H ws vs → vs = ns.map V.bl
  | [], ns, _, h, .nil => by cases h; rfl
  | .d (.bl i) :: r, ns, _, h, .cons q t => by
    obtain ⟨l, e, h⟩ := bind_some (show (blsW r).bind (fun l => some (i :: l)) = some ns from h)
    cases h
    rw [dbl.mp q, bls_rep e t]
    rfl
  | .d .non :: r, ns, _, h, .cons q t => by cases h
  | .d (.int _) :: r, ns, _, h, .cons q t => by cases h
  | .d (.str _) :: r, ns, _, h, .cons q t => by cases h
  | .d (.tup _) :: r, ns, _, h, .cons q t => by cases h
  | .d (.lst _) :: r, ns, _, h, .cons q t => by cases h
  | .d (.scr _) :: r, ns, _, h, .cons q t => by cases h
  | .ref _ :: r, ns, _, h, .cons q t => by cases h
  | .op _ :: r, ns, _, h, .cons q t => by cases h
/-- f of the ints of one list -/
def fInts (g : List Int → Option W) (S : Sto) : List W → Option W
  | [x] => (listW S x).bind fun ws => (intsW ws).bind fun ns => g ns
  | _ => none
theorem fInts_inv {g : List Int → Option W} {ws : List W} {vs : List V} {w : W} (rs : RS K F μ S H) (h : fInts g S ws = some w) (q : RepWs K μ (NF F μ S) H ws vs) : ∃ a ns, vs = [.ref a] ∧ SqL K H a (ns.map V.int) ∧ g ns = some w := by
  unfold fInts at h
  split at h
  · obtain ⟨us, e1, h⟩ := bind_some h
    obtain ⟨ns, e2, h⟩ := bind_some h
    obtain ⟨v, rfl, q1⟩ := rep1 q
    obtain ⟨a, xs, rfl, hs, r⟩ := list_rep rs e1 q1
    exact ⟨a, ns, rfl, by rw [← ints_rep e2 r]; exact hs, h⟩
  · cases h
def fSum := fInts fun ns => some (.d (.int ns.sum))
def fMaxL := fInts fun ns => ns.max?.bind fun m => some (.d (.int m))
def fMinL := fInts fun ns => ns.min?.bind fun m => some (.d (.int m))
theorem sum_ok : POk K (rSum K) fSum := fun F μ S H ws vs w Q rs h q k => by
  obtain ⟨a, ns, e, hs, h⟩ := fInts_inv rs h q
  cases h
  exact ⟨a, ns, e, hs, pk_int k⟩
theorem maxL_ok : POk K (rMax K) fMaxL := fun F μ S H ws vs w Q rs h q k => by
  obtain ⟨a, ns, e, hs, h⟩ := fInts_inv rs h q
  obtain ⟨m, e1, h⟩ := bind_some h
  cases h
  obtain ⟨h1, h2⟩ := List.max?_eq_some_iff.mp e1
  refine ⟨a, ns, e, hs, List.length_pos_of_mem h1, fun m' g1 g2 => ?_⟩
  have : m' = m := Int.le_antisymm (h2 m' g1) (g2 m h1)
  rw [this]
  exact pk_int k
theorem minL_ok : POk K (rMin K) fMinL := fun F μ S H ws vs w Q rs h q k => by
  obtain ⟨a, ns, e, hs, h⟩ := fInts_inv rs h q
  obtain ⟨m, e1, h⟩ := bind_some h
  cases h
  obtain ⟨h1, h2⟩ := List.min?_eq_some_iff.mp e1
  refine ⟨a, ns, e, hs, List.length_pos_of_mem h1, fun m' g1 g2 => ?_⟩
  have : m' = m := Int.le_antisymm (g2 m h1) (h2 m' g1)
  rw [this]
  exact pk_int k
def fBls (g : List Bool → Bool) (S : Sto) : List W → Option W
  | [x] => (listW S x).bind fun ws => (blsW ws).bind fun ns => some (.d (.bl (g ns)))
  | _ => none
def fAll := fBls fun bs => bs.all id
def fAny := fBls fun bs => bs.any id
theorem bls_core {g : List Bool → Bool} : POk K (fun vs H Q => ∃ (a : Addr) (bs : List Bool), vs = [V.ref a] ∧ SqL K H a (bs.map V.bl) ∧ Q (.bl (g bs)) H) (fBls g) := fun F μ S H ws vs w Q rs h q k => by
  unfold fBls at h
  split at h
  · obtain ⟨us, e1, h⟩ := bind_some h
    obtain ⟨ns, e2, h⟩ := bind_some h
    cases h
    obtain ⟨v, rfl, q1⟩ := rep1 q
    obtain ⟨a, xs, rfl, hs, r⟩ := list_rep rs e1 q1
    exact ⟨a, ns, rfl, by rw [← bls_rep e2 r]; exact hs, pk_bl k⟩
  · cases h
theorem all_ok : POk K (rAll K) fAll := bls_core
theorem any_ok : POk K (rAny K) fAny := bls_core
/-! ### sorted, tuple, list -/
def insI (x : Int) : List Int → List Int
  | [] => [x]
  | y :: r => if x ≤ y then x :: y :: r else y :: insI x r
def sortI : List Int → List Int
  | [] => []
  | x :: r => insI x (sortI r)
theorem insI_perm (x : Int) : ∀ l : List Int, (insI x l).Perm (x :: l)
  | [] => .refl _
  | y :: r => by
    unfold insI
    split
    · exact .refl _
    · exact ((insI_perm x r).cons y).trans (.swap x y r)
theorem sortI_perm : ∀ l : List Int, (sortI l).Perm l
  | [] => .refl _
  | x :: r => (insI_perm x _).trans ((sortI_perm r).cons x)
theorem insI_sorted (x : Int) : ∀ l : List Int, l.Pairwise (· ≤ ·) → (insI x l).Pairwise (· ≤ ·)
  | [], _ => by simp [insI]
  | y :: r, h => by
    unfold insI
    rw [List.pairwise_cons] at h
    split
    · rename_i e
      rw [List.pairwise_cons]
      refine ⟨fun z hz => ?_, List.pairwise_cons.mpr h⟩
      rcases List.mem_cons.mp hz with z' | z'
      · rw [z']; exact e
      · exact Int.le_trans e (h.1 z z')
    · rename_i e
      rw [List.pairwise_cons]
      refine ⟨fun z hz => ?_, insI_sorted x r h.2⟩
      rcases List.mem_cons.mp ((insI_perm x r).mem_iff.mp hz) with z' | z'
      · rw [z']; omega
      · exact h.1 z z'
theorem sortI_sorted : ∀ l : List Int, (sortI l).Pairwise (· ≤ ·)
  | [] => .nil
  | x :: r => insI_sorted x _ (sortI_sorted r)
theorem sorted_unique {a b : List Int} (p : a.Perm b) (ha : a.Pairwise (· ≤ ·)) (hb : b.Pairwise (· ≤ ·)) : a = b :=
  p.eq_of_pairwise (fun x y _ _ h1 h2 => Int.le_antisymm h1 h2) ha hb
def fSorted (S : Sto) : List W → Option (List W)
  | [x] => (listW S x).bind fun ws => (intsW ws).bind fun ns => some ((sortI ns).map fun i => W.d (.int i))
  | _ => none
theorem intsRep {ns : List Int} : RepWs K μ N H (ns.map fun i => W.d (.int i)) (ns.map V.int) := by
  induction ns with
  | nil => exact .nil
  | cons x r ih => exact .cons (dint.mpr rfl) ih
theorem sorted_ok : POkF K (rSortedI K) fSorted := fun F μ S H ws vs w Q rs h q k => by
  unfold fSorted at h
  split at h
  · obtain ⟨us, e1, h⟩ := bind_some h
    obtain ⟨ns, e2, h⟩ := bind_some h
    cases h
    obtain ⟨v, rfl, q1⟩ := rep1 q
    obtain ⟨a, xs, rfl, hs, r⟩ := list_rep rs e1 q1
    refine ⟨a, ns, rfl, by rw [← ints_rep e2 r]; exact hs, fun ns' p g1 g2 hp => ?_⟩
    have : ns' = sortI ns := sorted_unique (g1.trans (sortI_perm ns).symm) g2 (sortI_sorted ns)
    rw [this]
    exact k p _ hp intsRep
  · cases h
def fTuple (S : Sto) : List W → Option W
  | [.d (.tup ds)] => some (.d (.tup ds))
  | [x] => (listW S x).bind fun ws => (datas ws).bind fun ds => some (.d (.tup ds))
  | _ => none
theorem tuple_ok : POk K (fun xs H Q => ∃ p ys, xs = [.ref p] ∧ ((SqL K H p ys ∧ ∀ l, H l = none → Q (.ref l) (upd H l (.tup ys))) ∨ (SqT K H p ys ∧ Q (.ref p) H))) fTuple := fun F μ S H ws vs w Q rs h q k => by
  unfold fTuple at h
  split at h
  · cases h
    obtain ⟨v, rfl, q1⟩ := rep1 q
    obtain ⟨a, xs, rfl, h1, h2⟩ := dtup.mp q1
    exact ⟨a, xs, rfl, .inr ⟨h1, k _ H Fr.refl (dtup.mpr ⟨a, xs, rfl, h1, h2⟩)⟩⟩
  · obtain ⟨us, e1, h⟩ := bind_some h
    obtain ⟨ds, e2, h⟩ := bind_some h
    cases h
    obtain ⟨v, rfl, q1⟩ := rep1 q
    obtain ⟨a, xs, rfl, hs, r⟩ := list_rep rs e1 q1
    exact ⟨a, xs, rfl, .inl ⟨hs, fun p hp => k _ _ (Fr.upd hp) (dtup.mpr ⟨p, xs, rfl, .inl (.inl upd_same), fr_rep rs (Fr.upd hp) (datas_rep e2 r)⟩)⟩⟩
  · cases h
def fList (S : Sto) : List W → Option (List W)
  | [x] => seqW S x
  | _ => none
theorem list_ok : POkF K (fun xs H Q => ∃ p ys, xs = [.ref p] ∧ (SqL K H p ys ∨ SqT K H p ys) ∧ ∀ l, H l = none → Q (.ref l) (upd H l (.lst ys))) fList := fun F μ S H ws vs w Q rs h q k => by
  unfold fList at h
  split at h
  · obtain ⟨v, rfl, q1⟩ := rep1 q
    obtain ⟨a, xs, rfl, hs, r⟩ := seq_rep rs h q1
    exact ⟨a, xs, rfl, hs, fun p hp => k p _ hp r⟩
  · cases h
/-! ### isinstance -/
def tyD : D → String
  | .non => "NoneType"
  | .bl _ => "bool"
  | .int _ => "int"
  | .str _ => "str"
  | .tup _ => "tuple"
  | .lst _ => "list"
  | .scr _ => "list"
/-- isinstance of a kind and one of the four -/
def isB : String → String → Option Bool
  | a, "int" => some (a == "int" || a == "bool")
  | a, "bool" => some (a == "bool")
  | a, "tuple" => some (a == "tuple")
  | a, "list" => some (a == "list")
  | a, "str" => some (a == "str")
  | _, _ => none
def tyW (S : Sto) : W → Option String
  | .d x => some (tyD x)
  | .ref k => (lstOf S k).bind fun _ => some "list"
  | .op _ => none
theorem tyX_of {w : W} {v : V} {T : String} (rs : RS K F μ S H) (h : tyW S w = some T) (q : RepW K μ (NF F μ S) H w v) : TyX K H v (.type T) := by
  cases w with
  | d x =>
    cases h
    cases x with
    | non => cases dnon.mp q; exact .base .non
    | bl b => cases dbl.mp q; exact .base (.bl b)
    | int b => cases dint.mp q; exact .base (.int b)
    | str b => cases dstr.mp q; exact .base (.str b)
    | tup ds =>
      obtain ⟨a, vs, rfl, h1, _⟩ := dtup.mp q
      rcases h1 with (h1 | ⟨o, h1⟩) | ⟨o, its, n, h1, h2, _⟩
      · exact .base (.tup h1)
      · exact .fTuple h1
      · exact .kTuple h1 h2
    | lst ds =>
      obtain ⟨a, vs, rfl, h1, _⟩ := dlst.mp q
      exact .base (.lst h1.1)
    | scr ds =>
      have q' : RepD _ _ _ _ _ := q
      rw [RepD] at q'
      obtain ⟨a, vs, rfl, h1, _⟩ := q'
      rcases h1 with ⟨o, h1⟩ | ⟨o, its, n, h1, h2, _⟩
      · exact .base (.frz h1)
      · exact .kList h1 h2
  | ref k =>
    obtain ⟨us, e1, h⟩ := bind_some (show (lstOf S k).bind _ = some T from h)
    cases h
    obtain ⟨a, h1, rfl⟩ := q
    obtain ⟨vs, h2, h3⟩ := rs.at_ k a _ h1 (lstOf_some e1)
    exact .base (.lst h2)
  | op _ => cases h
def kinds : List String := ["NoneType", "bool", "int", "str", "tuple", "list"]
theorem isB_kit : ∀ a ∈ kinds, ∀ b ∈ ["int", "bool", "tuple", "list", "str"], kitB a b = isB a b := by decide +kernel
theorem tyW_kind {w : W} {T : String} (h : tyW S w = some T) : T ∈ kinds := by
  cases w with
  | d x => cases h; cases x <;> simp [tyD, kinds]
  | ref k =>
    obtain ⟨us, e1, h⟩ := bind_some (show (lstOf S k).bind _ = some T from h)
    cases h
    decide
  | op _ => cases h
def fIsi (S : Sto) : List W → Option W
  | [x, .op (.ty b)] => if b ∈ ["int", "bool", "tuple", "list", "str"] then (tyW S x).bind fun a => (isB a b).bind fun r => some (.d (.bl r)) else none
  | _ => none
theorem isi_ok : POk K (rIsi K) fIsi := fun F μ S H ws vs w Q rs h q k => by
  unfold fIsi at h
  split at h
  · rename_i x b
    split at h
    · rename_i hb
      obtain ⟨a, e1, h⟩ := bind_some h
      obtain ⟨r, e2, h⟩ := bind_some h
      cases h
      obtain ⟨v, u, rfl, q1, q2⟩ := rep2 q
      have q2 : u = V.ty b := q2
      subst q2
      exact ⟨v, _, _, _, r, rfl, .ty b, tyX_of rs e1 q1, kit_ty ((isB_kit a (tyW_kind e1) b hb).trans e2), pk_bl k⟩
    · cases h
  · cases h
end
end GM

set_option Elab.async false
set_option linter.all false
set_option maxRecDepth 100000
set_option maxHeartbeats 4000000
set_option autoImplicit false
namespace GM
open PySem L2
section
variable {K : PySem.W.Frag} {F : Addr → Prop} {μ : List Addr} {N : Addr → Prop} {S : Sto} {H : Hp} {X : Cx}
/-! ### isinstance(x, (tuple, list)) -/
def isAny (a : String) : List String → Option Bool
  | [] => some false
  | b :: r => if b ∈ ["int", "bool", "tuple", "list", "str"] then (isB a b).bind fun c => (isAny a r).bind fun d => some (c || d) else none
def misiT (bs : List String) (m : Em) : Em := fun ρ S => (m ρ S).bind fun p => (tyW p.2 p.1).bind fun a => (isAny a bs).bind fun r => some (.d (.bl r), p.2)
/-- types as values -/
inductive TyNames (X : Cx) : List Expr → List String → Prop where
  | nil : TyNames X [] []
  | cons {x : Str} {pos : Pos} {b : String} {es : List Expr} {bs : List String} (h : PE X (.Name x pos) (tC (.ty b))) (hs : starEach (.Name x pos :: es) X.env = (false, eval (.Name x pos) X.env) :: starEach es X.env) (t : TyNames X es bs) : TyNames X (.Name x pos :: es) (b :: bs)
theorem tyNames_pa : ∀ {es : List Expr} {bs : List String}, TyNames X es bs → PA X es (fun _ H Q => Q (bs.map V.ty) H)
  | _, _, .nil => PA.cons pa_nil fun σ H Q h => h
  | _, _, .cons h hs t => PA.cons (pa_cons h (tyNames_pa t) hs) fun σ H Q q => q
theorem kitAny_is {a : String} (ha : a ∈ kinds) : ∀ {bs : List String} {r : Bool}, isAny a bs = some r → PySem.W.kitAny K (.type a) (bs.map Value.type) = some r
  | [], r, h => by cases h; rfl
  | b :: bs, r, h => by
    unfold isAny at h
    split at h
    · rename_i hb
      obtain ⟨c, e1, h⟩ := bind_some h
      obtain ⟨d, e2, h⟩ := bind_some h
      cases h
      have q := kit_ty (K := K) ((isB_kit a ha b hb).trans e1)
      have ih := kitAny_is ha e2
      exact kitAny_cons q (fun z => by subst z; rw [Bool.false_or]; exact ih) (fun z => by subst z; rfl)
    · cases h
theorem tys_paired : ∀ bs : List String, Paired ClsV (bs.map V.ty) (bs.map Value.type)
  | [] => .nil
  | b :: bs => .cons (.ty b) (tys_paired bs)
theorem me_isiT {e : Expr} {es : List Expr} {bs : List String} {m : Em} {p pos tpos : Pos} {k : Nat} (hg : Gl X "isinstance") (hm : X.mg "isinstance" = none) (he : ME X e m) (ht : TyNames X es bs) (hl : bs.length ≤ 1000000 := by decide)
    (hs : starEach [e, .Tuple es k tpos] X.env = (false, eval e X.env) :: starEach [.Tuple es k tpos] X.env := by rfl) (hs2 : starEach [.Tuple es k tpos] X.env = (false, eval (.Tuple es k tpos) X.env) :: starEach [] X.env := by rfl)
    (hpl : (backTo pos (starEach [.Tuple es k tpos] X.env)).any (·.1) = false := by rfl) :
    ME X (.Call (.Name "isinstance" p) [e, .Tuple es k tpos] [] pos) (misiT bs m) :=
  PE.cons (pe_callB call_isiT hg hm (by decide +kernel) (pa_cons he (pa_cons (pe_tup (tyNames_pa ht)) pa_nil hs2) hs) (by decide) (by decide) hs hpl) fun σ H Q ⟨F, μ, ρ, S, w, S', rs, rst, h, k⟩ => by
    obtain ⟨⟨w1, S1⟩, e1, h⟩ := bind_some h
    obtain ⟨a, e2, h⟩ := bind_some h
    obtain ⟨r, e3, h⟩ := bind_some h
    cases h
    refine ⟨F, μ, ρ, S, w1, S1, rs, rst, e1, fun μ1 v H1 g1 q1 => ?_⟩
    refine ⟨Nat.le_of_lt (by rw [List.length_map]; exact lim_line hl), fun t ht => ?_⟩
    have f : Fr H1 (upd H1 t (.tup (bs.map V.ty))) := Fr.upd ht
    have g2 := f.gs g1.rs
    refine ⟨v, t, _, _, _, r, rfl, upd_same, tys_paired bs, tyX_of g2.rs e2 (q1.mono g2.go g2.pre), kitAny_is (tyW_kind e2) e3, k μ1 _ _ (g1.trans g2) (dbl.mpr rfl)⟩
/-! ### methods of lists that change them -/
def MtOk (K : PySem.W.Frag) (r : V → List V → Hp → VK → Prop) (f : List W → List W → Option (W × List W)) : Prop :=
  ∀ (F : Addr → Prop) (μ : List Addr) (S : Sto) (H : Hp) (a : Addr) (ws as : List W) (xs vs : List V) (w : W) (ws' : List W) (Q : VK), RS K F μ S H → H a = some (.lst xs) → RepWs K μ (NF F μ S) H ws xs → RepWs K μ (NF F μ S) H as vs → f ws as = some (w, ws') →
    (∀ v xs', RepW K μ (NF F μ S) H w v → RepWs K μ (NF F μ S) H ws' xs' → Q v (upd H a (.lst xs'))) → r (.ref a) vs H Q
def mmeth (f : List W → List W → Option (W × List W)) (mo : Em) (ms : Am) : Em := fun ρ S => (mo ρ S).bind fun p => match p.1 with
  | .ref k => (lstOf p.2 k).bind fun _ => (ms ρ p.2).bind fun q => (lstOf q.2 k).bind fun ws => (f ws q.1).bind fun r => some (r.1, q.2.set k (.lst r.2))
  | _ => none
theorem mmeth_read {r : V → List V → Hp → VK → Prop} {f : List W → List W → Option (W × List W)} {mo : Em} {ms : Am} {σ : L2.St} {H : Hp} {Q : VK} (hf : MtOk K r f) (h : LE K (mmeth f mo ms) σ H Q) : LE K mo σ H fun x H1 => tyV K "list" x H1 ∧ LA K ms σ H1 fun xs H2 => r x xs H2 Q := by
  obtain ⟨F, μ, ρ, S, w, S', rs, rst, h, k⟩ := h
  obtain ⟨⟨w1, S1⟩, e1, h⟩ := bind_some h
  refine ⟨F, μ, ρ, S, w1, S1, rs, rst, e1, fun μ1 v H1 g1 q1 => ?_⟩
  cases w1 with
  | ref kk =>
    obtain ⟨ws0, e2, h⟩ := bind_some (show (lstOf S1 kk).bind _ = some (w, S') from h)
    obtain ⟨⟨as, S2⟩, e3, h⟩ := bind_some h
    obtain ⟨ws, e4, h⟩ := bind_some h
    obtain ⟨⟨w', ws'⟩, e5, h⟩ := bind_some h
    cases h
    obtain ⟨a, h1, rfl⟩ := q1
    obtain ⟨xs0, h2, _⟩ := g1.rs.at_ kk a _ h1 (lstOf_some e2)
    refine ⟨.inl ⟨rfl, _, SqL.of h2⟩, F, μ1, ρ, S1, as, S2, g1.rs, rst.mono g1.go g1.pre, e3, fun μ2 vs H2 g2 q2 => ?_⟩
    have h3 : μ2[kk]? = some a := by
      obtain ⟨ν, rfl⟩ := g2.pre
      rw [List.getElem?_append_left (List.getElem?_eq_some_iff.mp h1).1]; exact h1
    have e4' := lstOf_some e4
    obtain ⟨xs, h4, h5⟩ := g2.rs.at_ kk a _ h3 e4'
    refine hf F μ2 S2 H2 a ws as xs vs _ ws' Q g2.rs h4 h5 q2 e5 fun v' xs' r1 r2 => ?_
    have g3 := Gs.write (o := .lst xs') (c' := .lst ws') g2.rs h3 e4' (fun z => nomatch z) (fun z => nomatch z) fun {N'} gg => ⟨xs', upd_same, r2.mono gg ⟨[], by simp⟩⟩
    exact k μ2 v' _ ((g1.trans g2).trans g3) (r1.mono g3.go g3.pre)
  | d _ => cases h
  | op _ => cases h
def tAppend : List W → List W → Option (W × List W)
  | ws, [x] => if ws.length ≤ 1000000 then some (.d .non, ws ++ [x]) else none
  | _, _ => none
theorem append_ok : MtOk K rAppend tAppend := fun F μ S H a ws as xs vs w ws' Q rs hH h1 h2 h k => by
  unfold tAppend at h
  split at h
  · split at h
    · rename_i hl
      cases h
      obtain ⟨v, rfl, q⟩ := rep1 h2
      exact ⟨a, xs, v, rfl, rfl, hH, lim_line (by rw [← h1.length]; exact hl), k _ _ (dnon.mpr rfl) (h1.append (.cons q .nil))⟩
    · cases h
  · cases h
def tPop : List W → List W → Option (W × List W)
  | ws, [] => ws[ws.length - 1]?.bind fun w => some (w, ws.dropLast)
  | _, _ => none
theorem pairedLen {α β : Type} {R : α → β → Prop} {a : List α} {b : List β} (h : Paired R a b) : a.length = b.length := Paired.length h
theorem pop_ok : MtOk K rPop tPop := fun F μ S H a ws as xs vs w ws' Q rs hH h1 h2 h k => by
  unfold tPop at h
  split at h
  · obtain ⟨w0, e1, h⟩ := bind_some h
    cases h
    cases h2
    obtain ⟨v, e2, q⟩ := h1.get e1
    refine ⟨a, xs, v, rfl, rfl, hH, by rw [← h1.length]; exact e2, k _ _ q ?_⟩
    rw [List.dropLast_eq_take, List.dropLast_eq_take, h1.length]
    exact pairedTake _ h1
  · cases h
def tPopAt : List W → List W → Option (W × List W)
  | ws, [.d (.int i)] => if 0 ≤ i ∧ i < ws.length ∧ ws.length ≤ 1000000 then ws[i.toNat]?.bind fun w => some (w, ws.eraseIdx i.toNat) else none
  | _, _ => none
theorem pairedErase {α β : Type} {R : α → β → Prop} : ∀ {a : List α} {b : List β} (n : Nat), Paired R a b → Paired R (a.eraseIdx n) (b.eraseIdx n)
  | _, _, _, .nil => by simp; exact .nil
  | _, _, 0, .cons _ t => t
  | _, _, n + 1, .cons r t => .cons r (pairedErase n t)
theorem popAt_ok : MtOk K rPopAt tPopAt := fun F μ S H a ws as xs vs w ws' Q rs hH h1 h2 h k => by
  unfold tPopAt at h
  split at h
  · rename_i i
    split at h
    · rename_i hl
      obtain ⟨w0, e1, h⟩ := bind_some h
      cases h
      obtain ⟨v, rfl, q⟩ := rep1 h2
      cases dint.mp q
      obtain ⟨u, e2, q'⟩ := h1.get e1
      have l1 := h1.length
      refine ⟨a, xs, i, i.toNat, u, rfl, rfl, hH, by omega, by omega, ?_, e2, k _ _ q' (pairedErase _ h1)⟩
      exact StrLaws.seqIndex_nonneg hl.1 (by omega)
    · cases h
  · cases h
def tReverse : List W → List W → Option (W × List W)
  | ws, [] => some (.d .non, ws.reverse)
  | _, _ => none
theorem pairedRev {α β : Type} {R : α → β → Prop} : ∀ {a : List α} {b : List β}, Paired R a b → Paired R a.reverse b.reverse
  | _, _, .nil => .nil
  | _, _, .cons r t => by
    rw [List.reverse_cons, List.reverse_cons]
    exact pairedAppend (pairedRev t) (.cons r .nil)
theorem reverse_ok : MtOk K rReverse tReverse := fun F μ S H a ws as xs vs w ws' Q rs hH h1 h2 h k => by
  unfold tReverse at h
  split at h
  · cases h
    cases h2
    exact ⟨a, xs, rfl, rfl, hH, k _ _ (dnon.mpr rfl) (pairedRev h1)⟩
  · cases h
section
variable {o e : Expr} {es : List Expr} {mo : Em} {ms : Am} {name : Str} {apos cpos : Pos} {id : String} {r : V → List V → Hp → VK → Prop} {f : List W → List W → Option (W × List W)}
theorem LA_nil {σ : L2.St} {H : Hp} {R : List V → Hp → Prop} (h : LA K anil σ H R) : R [] H := by
  obtain ⟨F, μ, ρ, S, ws, S', rs, rst, h, k⟩ := h
  cases h
  exact k μ [] H (Gs.refl rs) .nil
theorem me_meth0 (hf : MtOk X.K r f) (slot : PySem.Slot "list" name id) (hty : typeOf (.builtin id) = pure (.type "method_descriptor")) (hm : MtR X id r) (ho : ME X o mo)
    (hbase : attributeBase o name X.env (eval o X.env) = eval o X.env := by rfl) (hline : (apos.endLine == cpos.line) = true := by rfl) : ME X (.Call (.Attribute o name apos) [] [] cpos) (mmeth f mo anil) :=
  PE.cons (pe_bm0 PySem.F.plainAttrs_list slot hty hm ho hbase hline) fun σ H Q h => (mmeth_read hf h).imp fun v H1 ⟨t, q⟩ => ⟨t, LA_nil q⟩
theorem me_meth (hf : MtOk X.K r f) (slot : PySem.Slot "list" name id) (hty : typeOf (.builtin id) = pure (.type "method_descriptor")) (hm : MtR X id r) (ho : ME X o mo) (ha : MA X (e :: es) ms)
    (hbase : attributeBase o name X.env (eval o X.env) = eval o X.env := by rfl)
    (hfew : ((backTo cpos (starEach (e :: es) X.env)).all (fun x => !x.1) && (backToKw cpos (keywordEach [] X.env)).all (fun x => x.1.isSome)
      && decide ((e :: es).length + ([] : List Keyword).length + (if ([] : List Keyword).isEmpty then 0 else 1) < 30)) = true := by rfl)
    (hline : (apos.endLine == cpos.line) = true := by rfl) (hs : starEach (e :: es) X.env = (false, eval e X.env) :: starEach es X.env := by rfl) (hplain : (backTo cpos (starEach es X.env)).any (·.1) = false := by rfl) : ME X (.Call (.Attribute o name apos) (e :: es) [] cpos) (mmeth f mo ms) :=
  PE.cons (pe_bm PySem.F.plainAttrs_list slot hty hm ho ha hbase hfew hline hs hplain) fun σ H Q h => mmeth_read hf h
end
/-! ### o[i] = e -/
def bsub (m mo mi : Em) : Bm := fun ρ S => (m ρ S).bind fun p => (mo ρ p.2).bind fun q => (mi ρ q.2).bind fun r => match q.1, r.1 with
  | .ref k, .d (.int i) => (lstOf r.2 k).bind fun ws => (ixN ws.length i).bind fun j => some (.nx ρ (r.2.set k (.lst (ws.set j p.1))))
  | _, _ => none
theorem pairedSet {α β : Type} {R : α → β → Prop} {x : α} {y : β} (h : R x y) : ∀ {a : List α} {b : List β} (n : Nat), Paired R a b → Paired R (a.set n x) (b.set n y)
  | _, _, _, .nil => .nil
  | _, _, 0, .cons _ t => .cons h t
  | _, _, n + 1, .cons r t => .cons r (pairedSet h n t)
theorem ms_sub {o i e : Expr} {m mo mi : Em} {pos tpos : Pos} (he : ME X e m) (ho : ME X o mo) (hi : ME X i mi)
    (ha : ∀ v, assign (.Subscript o i tpos) X.env v = (do
      let ov ← holding [v] (eval o X.env)
      let iv ← holding [v, ov] (eval i X.env)
      standAt tpos
      holding [v, ov, iv] (setItem ov iv v)
      release [v, ov, iv] []) := by intro _; rfl)
    (hs : swapsWithSole [.Subscript o i tpos] e pos.line X.env = pure false := by rfl) (hw : swappedStores [.Subscript o i tpos] e X.env = pure none := by rfl)
    (h1 : (assignEach [.Subscript o i tpos] X.env).map (·.2) = [assign (.Subscript o i tpos) X.env] := by rfl) :
    MS X (.Assign [.Subscript o i tpos] e pos) (bsub m mo mi) := PS.cons (ps_asg he (pg_sub ho hi set_list ha) hs hw h1) fun D σ H ⟨F, μ, ρ, S, oo, rs, rst, h, k⟩ => by
  obtain ⟨⟨w1, S1⟩, e1, h⟩ := bind_some h
  obtain ⟨⟨w2, S2⟩, e2, h⟩ := bind_some h
  obtain ⟨⟨w3, S3⟩, e3, h⟩ := bind_some h
  refine ⟨F, μ, ρ, S, w1, S1, rs, rst, e1, fun μ1 v1 H1 g1 q1 => ⟨F, μ1, ρ, S1, w2, S2, g1.rs, rst.mono g1.go g1.pre, e2, fun μ2 v2 H2 g2 q2 => ⟨F, μ2, ρ, S2, w3, S3, g2.rs, (rst.mono g1.go g1.pre).mono g2.go g2.pre, e3, fun μ3 v3 H3 g3 q3 => ?_⟩⟩⟩
  have g12 := g1.trans g2
  have g13 := g12.trans g3
  have g23 := g2.trans g3
  cases w2 with
  | ref kk =>
    cases w3 with
    | d x =>
      cases x with
      | int j =>
        obtain ⟨ws, e4, h⟩ := bind_some (show (lstOf S3 kk).bind _ = some oo from h)
        obtain ⟨jj, e5, h⟩ := bind_some h
        cases h
        cases dint.mp q3
        obtain ⟨a, h2, rfl⟩ := q2
        have h3 : μ3[kk]? = some a := by
          obtain ⟨ν, rfl⟩ := g3.pre
          rw [List.getElem?_append_left (List.getElem?_eq_some_iff.mp h2).1]; exact h2
        have e4' := lstOf_some e4
        obtain ⟨xs, h4, h5⟩ := g3.rs.at_ kk a _ h3 e4'
        have q1' : RepW X.K μ3 (NF F μ3 S3) H3 w1 v1 := q1.mono g23.go g23.pre
        refine ⟨a, xs, j, jj, rfl, rfl, h4, by rw [← h5.length]; exact e5, ?_⟩
        have g4 := Gs.write (o := .lst (xs.set jj v1)) (c' := .lst (ws.set jj w1)) g3.rs h3 e4' (fun z => nomatch z) (fun z => nomatch z) fun {N'} gg => ⟨_, upd_same, RepWs.mono gg ⟨[], by simp⟩ (pairedSet q1' jj h5)⟩
        have g14 := g13.trans g4
        exact k μ3 σ _ g14 (rst.mono g14.go g14.pre)
      | _ => cases h
    | _ => cases h
  | _ => cases h
/-! ### ranges as lists and tuples -/
abbrev Pm := Rho → Sto → Option ((Int × Int) × Sto)
def LP (K : PySem.W.Frag) (m : Pm) : L2.St → Hp → (Int → Int → Hp → Prop) → Prop := fun σ H Q => ∃ (F : Addr → Prop) (μ : List Addr) (ρ : Rho) (S : Sto) (p : Int × Int) (S' : Sto), RS K F μ S H ∧ RSt K μ (NF F μ S) H σ ρ ∧ m ρ S = some (p, S') ∧
  ∀ μ' H', Gs K F μ S H μ' S' H' → Q p.1 p.2 H'
theorem PRg.cons {e : Expr} {t t' : L2.St → Hp → (Int → Int → Hp → Prop) → Prop} (h : PRg X e t) (f : ∀ σ H Q, t' σ H Q → t σ H Q) : PRg X e t' := fun pins s σ H Q I q => h pins s σ H Q I (f _ _ _ q)
def prg1 (m : Em) : Pm := fun ρ S => (m ρ S).bind fun p => match p.1 with
  | .d (.int j) => some ((0, j), p.2)
  | _ => none
def prg2 (m m' : Em) : Pm := fun ρ S => (m ρ S).bind fun p => (m' ρ p.2).bind fun q => match p.1, q.1 with
  | .d (.int i), .d (.int j) => some ((i, j), q.2)
  | _, _ => none
def rgC (a b : Int) : Bool := decide (a.natAbs ≤ 2000000) && decide (b.natAbs ≤ 2000000) && decide ((b - a).toNat ≤ 1000000)
theorem rgC_ok {a b : Int} (h : rgC a b = true) : RgOk a b := by
  unfold rgC at h
  simp only [Bool.and_eq_true, decide_eq_true_eq] at h
  exact ⟨by omega, by omega, by omega, by omega, Nat.le_trans h.2 (by decide)⟩
def mlrg (m : Pm) : Am := fun ρ S => (m ρ S).bind fun p => if rgC p.1.1 p.1.2 = true then some (rngW p.1.1 (p.1.2 - p.1.1).toNat, p.2) else none
def mtrg (m : Pm) : Em := fun ρ S => (m ρ S).bind fun p => if rgC p.1.1 p.1.2 = true then some (.d (.tup ((List.range (p.1.2 - p.1.1).toNat).map fun i => .int (p.1.1 + (i : Nat)))), p.2) else none
theorem rng_rep {a : Int} : ∀ l : List Nat, RepWs K μ N H (l.map fun i => W.d (.int (a + (i : Nat)))) (l.map fun i => V.int (a + (i : Nat)))
  | [] => .nil
  | x :: r => .cons (dint.mpr rfl) (rng_rep r)
theorem rng_repD {a : Int} : ∀ l : List Nat, RepDs K N H (l.map fun i => D.int (a + (i : Nat))) (l.map fun i => V.int (a + (i : Nat)))
  | [] => by rw [List.map_nil, List.map_nil, RepDs]
  | x :: r => by rw [List.map_cons, List.map_cons, RepDs]; exact ⟨_, _, rfl, by rw [RepD], rng_repD r⟩
section
variable {a b e : Expr} {m m' : Em} {mp : Pm} {p pos : Pos}
theorem mp_1 (hg : Gl X "range") (hm : X.mg "range" = none) (ha : ME X a m) (na : starEach [a] X.env = (false, eval a X.env) :: starEach [] X.env := by rfl) : PRg X (.Call (.Name "range" p) [a] [] pos) (LP X.K (prg1 m)) :=
  PRg.cons (prg_1 hg hm ha na) fun σ H Q ⟨F, μ, ρ, S, pp, S', rs, rst, h, k⟩ => by
    obtain ⟨⟨w, S1⟩, e1, h⟩ := bind_some h
    refine ⟨F, μ, ρ, S, w, S1, rs, rst, e1, fun μ1 v H1 g q => ?_⟩
    cases w with
    | d x =>
      cases x with
      | int j => cases h; exact ⟨j, dint.mp q, k μ1 H1 g⟩
      | _ => cases h
    | _ => cases h
theorem mp_2 (hg : Gl X "range") (hm : X.mg "range" = none) (ha : ME X a m) (hb : ME X b m') (na : starEach [a, b] X.env = (false, eval a X.env) :: starEach [b] X.env := by rfl) (nb : starEach [b] X.env = (false, eval b X.env) :: starEach [] X.env := by rfl) (hpl : (backTo pos (starEach [b] X.env)).any (·.1) = false := by rfl) : PRg X (.Call (.Name "range" p) [a, b] [] pos) (LP X.K (prg2 m m')) :=
  PRg.cons (prg_2 hg hm ha hb na nb (hp := hpl)) fun σ H Q ⟨F, μ, ρ, S, pp, S', rs, rst, h, k⟩ => by
    obtain ⟨⟨w, S1⟩, e1, h⟩ := bind_some h
    obtain ⟨⟨w', S2⟩, e2, h⟩ := bind_some h
    refine ⟨F, μ, ρ, S, w, S1, rs, rst, e1, fun μ1 v H1 g q => ⟨F, μ1, ρ, S1, w', S2, g.rs, rst.mono g.go g.pre, e2, fun μ2 v2 H2 g2 q2 => ?_⟩⟩
    cases w with
    | d x =>
      cases x with
      | int i =>
        cases w' with
        | d y =>
          cases y with
          | int j => cases h; exact ⟨i, j, dint.mp q, dint.mp q2, k μ2 H2 (g.trans g2)⟩
          | _ => cases h
        | _ => cases h
      | _ => cases h
    | _ => cases h
theorem mf_listRg (hc : X.calm = true) (hg : Gl X "list") (hm : X.mg "list" = none) (he : PRg X e (LP X.K mp)) (na : starEach [e] X.env = (false, eval e X.env) :: starEach [] X.env := by rfl) : MF X (.Call (.Name "list" p) [e] [] pos) (mlrg mp) :=
  PE.cons (pe_listRg hc hg hm he na) fun σ H Q ⟨F, μ, ρ, S, ws, S', rs, rst, h, k⟩ => by
    obtain ⟨⟨pp, S1⟩, e1, h⟩ := bind_some h
    split at h
    · rename_i hc
      cases h
      exact ⟨F, μ, ρ, S, pp, S1, rs, rst, e1, fun μ1 H1 g => ⟨rgC_ok hc, fun q hq => k μ1 H1 q _ g hq (rng_rep _)⟩⟩
    · cases h
theorem me_tupRg (hc : X.calm = true) (hg : Gl X "tuple") (hm : X.mg "tuple" = none) (he : PRg X e (LP X.K mp)) (na : starEach [e] X.env = (false, eval e X.env) :: starEach [] X.env := by rfl) : ME X (.Call (.Name "tuple" p) [e] [] pos) (mtrg mp) :=
  PE.cons (pe_tupRg hc hg hm he na) fun σ H Q ⟨F, μ, ρ, S, ws, S', rs, rst, h, k⟩ => by
    obtain ⟨⟨pp, S1⟩, e1, h⟩ := bind_some h
    split at h
    · rename_i hc
      cases h
      exact ⟨F, μ, ρ, S, pp, S1, rs, rst, e1, fun μ1 H1 g => ⟨rgC_ok hc, fun q hq => k μ1 _ _ (g.trans ((Fr.upd hq).gs g.rs)) (dtup.mpr ⟨q, _, rfl, .inl (.inl upd_same), rng_repD _⟩)⟩⟩
    · cases h
end
end
end GM

set_option Elab.async false
set_option linter.all false
set_option maxRecDepth 100000
set_option maxHeartbeats 4000000
set_option autoImplicit false
namespace GM
open PySem L2
/-! ### what the printed derivations use -/
structure Bl (mg : Str → Option Value) : Prop where
  range : mg "range" = none
  len : mg "len" = none
  int : mg "int" = none
  bool : mg "bool" = none
  str : mg "str" = none
  tuple : mg "tuple" = none
  list : mg "list" = none
  set : mg "set" = none
  max : mg "max" = none
  min : mg "min" = none
  sum : mg "sum" = none
  abs : mg "abs" = none
  all : mg "all" = none
  any : mg "any" = none
  sorted : mg "sorted" = none
  isinstance : mg "isinstance" = none
  enumerate : mg "enumerate" = none
  zip : mg "zip" = none
  reversed : mg "reversed" = none
/-- a def as it stands behind the top -/
structure DefF (K : PySem.W.Frag) (mg : Str → Option Value) (x : Str) (st : Stmt) (ps : List Str) : Prop where
  ex : ∃ (f : Addr) (fd : FuncData), Fun K x x st f fd ∧ mg x = some (.ref f) ∧ Binds K fd ps []
section
variable {P : Program} {w : World} {K : PySem.W.Frag} {mg : Str → Option Value} {base : Heap}
theorem mk_def {x : Str} {st : Stmt} {N ps : List Str} {k : Nat} {b : Bm} (D : DefF K mg x st ps) (sc : FnScope N ps (defScope st))
    (hb : ∀ (f : Addr) (cdv : Value) (A : Around) (outer : List Env) (s : Shared) (H : Hp) (E : XK), Room k (cxOf CX0 P w K mg base N x (defScope st) f cdv A outer s H E).nox.A → MSs (cxOf CX0 P w K mg base N x (defScope st) f cdv A outer s H E).nox (defBody st) b) :
    FnM P w K mg base (k + 1) x (runDef ps.length N.length b) := by
  obtain ⟨f, fd, F, g, bd⟩ := D.ex
  exact mk_fn F g bd sc (hb f)
end
section
variable {X : Cx}
theorem mev (i : Nat) {x : Str} {pos : Pos} (hN : X.N[i]? = some x := by rfl) (hv : Vis X.env.scope x := by first | exact Or.inl rfl | exact Or.inr (Or.inl rfl) | exact Or.inr (Or.inr rfl)) (hd : (x == ("__debug__" : Str)) = false := by decide) (hcd : (x == ("__classdict__" : Str)) = false := by decide) : ME X (.Name x pos) (mv i) := me_var hN hv hd hcd
theorem mc_len {e : Expr} {es : List Expr} {ms : Am} {p pos : Pos} (B : Bl X.mg) (hc : X.calm = true) (ha : MA X (e :: es) ms) (hg : Gl X "len" := by rfl)
    (he : starEach (e :: es) X.env = (false, eval e X.env) :: starEach es X.env := by rfl) (hpl : (backTo pos (starEach es X.env)).any (·.1) = false := by rfl) : ME X (.Call (.Name "len" p) (e :: es) [] pos) (prim fLen ms) :=
  me_callB len_ok call_len_seq hg B.len (by decide +kernel) ha (by decide) (by decide) he hpl
theorem mc_int {e : Expr} {es : List Expr} {ms : Am} {p pos : Pos} (B : Bl X.mg) (hc : X.calm = true) (ha : MA X (e :: es) ms) (hg : Gl X "int" := by rfl)
    (he : starEach (e :: es) X.env = (false, eval e X.env) :: starEach es X.env := by rfl) (hpl : (backTo pos (starEach es X.env)).any (·.1) = false := by rfl) : ME X (.Call (.Name "int" p) (e :: es) [] pos) (prim fInt ms) :=
  me_callTy int_ok call_int1 hg B.int (by decide +kernel) ha (by decide) (by decide) he hpl
theorem mc_abs {e : Expr} {es : List Expr} {ms : Am} {p pos : Pos} (B : Bl X.mg) (hc : X.calm = true) (ha : MA X (e :: es) ms) (hg : Gl X "abs" := by rfl)
    (he : starEach (e :: es) X.env = (false, eval e X.env) :: starEach es X.env := by rfl) (hpl : (backTo pos (starEach es X.env)).any (·.1) = false := by rfl) : ME X (.Call (.Name "abs" p) (e :: es) [] pos) (prim fAbs ms) :=
  me_callB abs_ok call_abs hg B.abs (by decide +kernel) ha (by decide) (by decide) he hpl
theorem mc_max2 {e : Expr} {es : List Expr} {ms : Am} {p pos : Pos} (B : Bl X.mg) (hc : X.calm = true) (ha : MA X (e :: es) ms) (hg : Gl X "max" := by rfl)
    (he : starEach (e :: es) X.env = (false, eval e X.env) :: starEach es X.env := by rfl) (hpl : (backTo pos (starEach es X.env)).any (·.1) = false := by rfl) : ME X (.Call (.Name "max" p) (e :: es) [] pos) (prim fMax2 ms) :=
  me_callB max2_ok (call_max2 hc) hg B.max (by decide +kernel) ha (by decide) (by decide) he hpl
theorem mc_min2 {e : Expr} {es : List Expr} {ms : Am} {p pos : Pos} (B : Bl X.mg) (hc : X.calm = true) (ha : MA X (e :: es) ms) (hg : Gl X "min" := by rfl)
    (he : starEach (e :: es) X.env = (false, eval e X.env) :: starEach es X.env := by rfl) (hpl : (backTo pos (starEach es X.env)).any (·.1) = false := by rfl) : ME X (.Call (.Name "min" p) (e :: es) [] pos) (prim fMin2 ms) :=
  me_callB min2_ok (call_min2 hc) hg B.min (by decide +kernel) ha (by decide) (by decide) he hpl
theorem mc_maxL {e : Expr} {es : List Expr} {ms : Am} {p pos : Pos} (B : Bl X.mg) (hc : X.calm = true) (ha : MA X (e :: es) ms) (hg : Gl X "max" := by rfl)
    (he : starEach (e :: es) X.env = (false, eval e X.env) :: starEach es X.env := by rfl) (hpl : (backTo pos (starEach es X.env)).any (·.1) = false := by rfl) : ME X (.Call (.Name "max" p) (e :: es) [] pos) (prim fMaxL ms) :=
  me_callB maxL_ok (cr_max hc) hg B.max (by decide +kernel) ha (by decide) (by decide) he hpl
theorem mc_minL {e : Expr} {es : List Expr} {ms : Am} {p pos : Pos} (B : Bl X.mg) (hc : X.calm = true) (ha : MA X (e :: es) ms) (hg : Gl X "min" := by rfl)
    (he : starEach (e :: es) X.env = (false, eval e X.env) :: starEach es X.env := by rfl) (hpl : (backTo pos (starEach es X.env)).any (·.1) = false := by rfl) : ME X (.Call (.Name "min" p) (e :: es) [] pos) (prim fMinL ms) :=
  me_callB minL_ok (cr_min hc) hg B.min (by decide +kernel) ha (by decide) (by decide) he hpl
theorem mc_sum {e : Expr} {es : List Expr} {ms : Am} {p pos : Pos} (B : Bl X.mg) (hc : X.calm = true) (ha : MA X (e :: es) ms) (hg : Gl X "sum" := by rfl)
    (he : starEach (e :: es) X.env = (false, eval e X.env) :: starEach es X.env := by rfl) (hpl : (backTo pos (starEach es X.env)).any (·.1) = false := by rfl) : ME X (.Call (.Name "sum" p) (e :: es) [] pos) (prim fSum ms) :=
  me_callB sum_ok (cr_sum hc) hg B.sum (by decide +kernel) ha (by decide) (by decide) he hpl
theorem mc_all {e : Expr} {es : List Expr} {ms : Am} {p pos : Pos} (B : Bl X.mg) (hc : X.calm = true) (ha : MA X (e :: es) ms) (hg : Gl X "all" := by rfl)
    (he : starEach (e :: es) X.env = (false, eval e X.env) :: starEach es X.env := by rfl) (hpl : (backTo pos (starEach es X.env)).any (·.1) = false := by rfl) : ME X (.Call (.Name "all" p) (e :: es) [] pos) (prim fAll ms) :=
  me_callB all_ok (cr_all hc) hg B.all (by decide +kernel) ha (by decide) (by decide) he hpl
theorem mc_any {e : Expr} {es : List Expr} {ms : Am} {p pos : Pos} (B : Bl X.mg) (hc : X.calm = true) (ha : MA X (e :: es) ms) (hg : Gl X "any" := by rfl)
    (he : starEach (e :: es) X.env = (false, eval e X.env) :: starEach es X.env := by rfl) (hpl : (backTo pos (starEach es X.env)).any (·.1) = false := by rfl) : ME X (.Call (.Name "any" p) (e :: es) [] pos) (prim fAny ms) :=
  me_callB any_ok (cr_any hc) hg B.any (by decide +kernel) ha (by decide) (by decide) he hpl
theorem mc_sorted {e : Expr} {es : List Expr} {ms : Am} {p pos : Pos} (B : Bl X.mg) (hc : X.calm = true) (ha : MA X (e :: es) ms) (hg : Gl X "sorted" := by rfl)
    (he : starEach (e :: es) X.env = (false, eval e X.env) :: starEach es X.env := by rfl) (hpl : (backTo pos (starEach es X.env)).any (·.1) = false := by rfl) : MF X (.Call (.Name "sorted" p) (e :: es) [] pos) (primF fSorted ms) :=
  mf_callB sorted_ok cr_sortedI hg B.sorted (by decide +kernel) ha (by decide) (by decide) he hpl
theorem mc_tuple {e : Expr} {es : List Expr} {ms : Am} {p pos : Pos} (B : Bl X.mg) (hc : X.calm = true) (ha : MA X (e :: es) ms) (hg : Gl X "tuple" := by rfl)
    (he : starEach (e :: es) X.env = (false, eval e X.env) :: starEach es X.env := by rfl) (hpl : (backTo pos (starEach es X.env)).any (·.1) = false := by rfl) : ME X (.Call (.Name "tuple" p) (e :: es) [] pos) (prim fTuple ms) :=
  me_callTy tuple_ok call_tuple_of hg B.tuple (by decide +kernel) ha (by decide) (by decide) he hpl
theorem mc_list {e : Expr} {es : List Expr} {ms : Am} {p pos : Pos} (B : Bl X.mg) (hc : X.calm = true) (ha : MA X (e :: es) ms) (hg : Gl X "list" := by rfl)
    (he : starEach (e :: es) X.env = (false, eval e X.env) :: starEach es X.env := by rfl) (hpl : (backTo pos (starEach es X.env)).any (·.1) = false := by rfl) : MF X (.Call (.Name "list" p) (e :: es) [] pos) (primF fList ms) :=
  mf_callTy list_ok call_list_of hg B.list (by decide +kernel) ha (by decide) (by decide) he hpl
theorem mc_isi {e : Expr} {es : List Expr} {ms : Am} {p pos : Pos} (B : Bl X.mg) (hc : X.calm = true) (ha : MA X (e :: es) ms) (hg : Gl X "isinstance" := by rfl)
    (he : starEach (e :: es) X.env = (false, eval e X.env) :: starEach es X.env := by rfl) (hpl : (backTo pos (starEach es X.env)).any (·.1) = false := by rfl) : ME X (.Call (.Name "isinstance" p) (e :: es) [] pos) (prim fIsi ms) :=
  me_callB isi_ok call_isi hg B.isinstance (by decide +kernel) ha (by decide) (by decide) he hpl

/-- a built-in type as a value -/
theorem me_ty {x : Str} {T : String} {pos : Pos} (hm : X.mg x = none) (hv : bootBuiltins x = some (.type T)) (hg : Gl X x := by rfl) (hn : x ≠ "__name__" := by decide) (hdb : (x == ("__debug__" : Str)) = false := by decide) : ME X (.Name x pos) (mop (.ty T)) := me_op (pe_bltn hg hm hv rfl hn hdb)
theorem ty_name {x : Str} {T : String} {pos : Pos} {es : List Expr} {bs : List String} (hm : X.mg x = none) (hv : bootBuiltins x = some (.type T)) (t : TyNames X es bs) (hg : Gl X x := by rfl) (hs : starEach (.Name x pos :: es) X.env = (false, eval (.Name x pos) X.env) :: starEach es X.env := by rfl) (hn : x ≠ "__name__" := by decide) (hdb : (x == ("__debug__" : Str)) = false := by decide) : TyNames X (.Name x pos :: es) (T :: bs) := .cons (pe_bltn hg hm hv rfl hn hdb) hs t
section
variable {a b o e : Expr} {ma mb mo : Em} {es : List Expr} {ms : Am} {pos apos cpos : Pos}
theorem mc_lt (ha : ME X a ma) (hb : ME X b mb) : ME X (.Compare a [.Lt] [b] pos) (prim fLt (acons ma (acons mb anil))) := me_cmp i2b_ok op_lt ha hb (nomark _)
theorem mc_le (ha : ME X a ma) (hb : ME X b mb) : ME X (.Compare a [.LtE] [b] pos) (prim fLe (acons ma (acons mb anil))) := me_cmp i2b_ok op_le ha hb (nomark _)
theorem mc_gt (ha : ME X a ma) (hb : ME X b mb) : ME X (.Compare a [.Gt] [b] pos) (prim fGt (acons ma (acons mb anil))) := me_cmp i2b_ok op_gt ha hb (nomark _)
theorem mc_ge (ha : ME X a ma) (hb : ME X b mb) : ME X (.Compare a [.GtE] [b] pos) (prim fGe (acons ma (acons mb anil))) := me_cmp i2b_ok op_ge ha hb (nomark _)
theorem mc_eq {j : Nat} (hr : Room j X.A) (ha : ME X a ma) (hb : ME X b mb) : ME X (.Compare a [.Eq] [b] pos) (prim fEq (acons ma (acons mb anil))) := me_cmp eq_ok (op_eqD hr.units) ha hb (nomark _)
theorem mc_ne {j : Nat} (hr : Room j X.A) (ha : ME X a ma) (hb : ME X b mb) : ME X (.Compare a [.NotEq] [b] pos) (prim fNe (acons ma (acons mb anil))) := me_cmp ne_ok (op_neD hr.units) ha hb (nomark _)
theorem room65 {j : Nat} (hr : Room j X.A) : X.A.units + 65 < cLine := by have := hr.un; omega
theorem op_inU (hu : X.A.units + 65 < cLine) : OpR X (compareOp .In) (rInU X.K id) := by
  intro pins s σ H x y v u Q I rx ry h
  obtain ⟨d, ds, hd, he, sd, se, q⟩ := h
  obtain ⟨as, r1⟩ := Dp.reads I d x v hd rx
  obtain ⟨bs, r2⟩ := Dp.reads I (.tuple ds) y u he ry
  exact SeqAt.in_tuple_reads r2 r1 (SeqAt.canLay_of_shaped se) (SeqAt.canLay_of_shaped sd) (PyProof.Rows.room_in_shaped sd hu) ⟨.bl _, H, I, rfl, q⟩
theorem op_notInU (hu : X.A.units + 65 < cLine) : OpR X (compareOp .NotIn) (rInU X.K not) := by
  intro pins s σ H x y v u Q I rx ry h
  obtain ⟨d, ds, hd, he, sd, se, q⟩ := h
  obtain ⟨as, r1⟩ := Dp.reads I d x v hd rx
  obtain ⟨bs, r2⟩ := Dp.reads I (.tuple ds) y u he ry
  exact SeqAt.notIn_tuple_reads r2 r1 (SeqAt.canLay_of_shaped se) (SeqAt.canLay_of_shaped sd) (PyProof.Rows.room_in_shaped sd hu) ⟨.bl _, H, I, rfl, q⟩
theorem mc_in {j : Nat} (hr : Room j X.A) (ha : ME X a ma) (hb : ME X b mb) (hm : behindInMarks .In b = false := by rfl) : ME X (.Compare a [.In] [b] pos) (prim fIn (acons ma (acons mb anil))) := me_cmp in_ok (OpR.or op_in_seq (OpR.or (op_inD (room65 hr)) (op_inU (room65 hr)))) ha hb hm
theorem mc_notIn {j : Nat} (hr : Room j X.A) (ha : ME X a ma) (hb : ME X b mb) (hm : behindInMarks .NotIn b = false := by rfl) : ME X (.Compare a [.NotIn] [b] pos) (prim fNotIn (acons ma (acons mb anil))) := me_cmp notIn_ok (OpR.or op_notIn_seq (OpR.or (op_notInD (room65 hr)) (op_notInU (room65 hr)))) ha hb hm
theorem mc_is (ha : ME X a ma) (hb : ME X b mb) : ME X (.Compare a [.Is] [b] pos) (prim fIsN (acons ma (acons mb anil))) := me_cmp isN_ok op_isN ha hb (nomark _)
theorem mc_isNot (ha : ME X a ma) (hb : ME X b mb) : ME X (.Compare a [.IsNot] [b] pos) (prim fNotN (acons ma (acons mb anil))) := me_cmp notN_ok op_notN ha hb (nomark _)
theorem mq_lt (ha : ME X a ma) (hb : ME X b mb) : MT X (.Compare a [.Lt] [b] pos) (tst (prim fLt (acons ma (acons mb anil)))) := mt_cmp i2b_ok op_lt ha hb (nomark _)
theorem mq_le (ha : ME X a ma) (hb : ME X b mb) : MT X (.Compare a [.LtE] [b] pos) (tst (prim fLe (acons ma (acons mb anil)))) := mt_cmp i2b_ok op_le ha hb (nomark _)
theorem mq_gt (ha : ME X a ma) (hb : ME X b mb) : MT X (.Compare a [.Gt] [b] pos) (tst (prim fGt (acons ma (acons mb anil)))) := mt_cmp i2b_ok op_gt ha hb (nomark _)
theorem mq_ge (ha : ME X a ma) (hb : ME X b mb) : MT X (.Compare a [.GtE] [b] pos) (tst (prim fGe (acons ma (acons mb anil)))) := mt_cmp i2b_ok op_ge ha hb (nomark _)
theorem mq_eq {j : Nat} (hr : Room j X.A) (ha : ME X a ma) (hb : ME X b mb) : MT X (.Compare a [.Eq] [b] pos) (tst (prim fEq (acons ma (acons mb anil)))) := mt_cmp eq_ok (op_eqD hr.units) ha hb (nomark _)
theorem mq_ne {j : Nat} (hr : Room j X.A) (ha : ME X a ma) (hb : ME X b mb) : MT X (.Compare a [.NotEq] [b] pos) (tst (prim fNe (acons ma (acons mb anil)))) := mt_cmp ne_ok (op_neD hr.units) ha hb (nomark _)
theorem mq_in {j : Nat} (hr : Room j X.A) (ha : ME X a ma) (hb : ME X b mb) (hm : behindInMarks .In b = false := by rfl) : MT X (.Compare a [.In] [b] pos) (tst (prim fIn (acons ma (acons mb anil)))) := mt_cmp in_ok (OpR.or op_in_seq (OpR.or (op_inD (room65 hr)) (op_inU (room65 hr)))) ha hb hm
theorem mq_notIn {j : Nat} (hr : Room j X.A) (ha : ME X a ma) (hb : ME X b mb) (hm : behindInMarks .NotIn b = false := by rfl) : MT X (.Compare a [.NotIn] [b] pos) (tst (prim fNotIn (acons ma (acons mb anil)))) := mt_cmp notIn_ok (OpR.or op_notIn_seq (OpR.or (op_notInD (room65 hr)) (op_notInU (room65 hr)))) ha hb hm
theorem mq_is (ha : ME X a ma) (hb : ME X b mb) : MT X (.Compare a [.Is] [b] pos) (tst (prim fIsN (acons ma (acons mb anil)))) := mt_cmp isN_ok op_isN ha hb (nomark _)
theorem mq_isNot (ha : ME X a ma) (hb : ME X b mb) : MT X (.Compare a [.IsNot] [b] pos) (tst (prim fNotN (acons ma (acons mb anil)))) := mt_cmp notN_ok op_notN ha hb (nomark _)
theorem mc_pop0 (ho : ME X o mo) (hbase : attributeBase o "pop" X.env (eval o X.env) = eval o X.env := by rfl) (hline : (apos.endLine == cpos.line) = true := by rfl) : ME X (.Call (.Attribute o "pop" apos) [] [] cpos) (mmeth tPop mo anil) := me_meth0 pop_ok PySem.F.slot_list_pop PySem.F.type_list_pop mt_pop ho hbase hline
theorem mc_rev0 (ho : ME X o mo) (hbase : attributeBase o "reverse" X.env (eval o X.env) = eval o X.env := by rfl) (hline : (apos.endLine == cpos.line) = true := by rfl) : ME X (.Call (.Attribute o "reverse" apos) [] [] cpos) (mmeth tReverse mo anil) := me_meth0 reverse_ok PySem.F.slot_list_reverse PySem.F.type_list_reverse mt_reverse ho hbase hline
theorem mc_append (ho : ME X o mo) (ha : MA X (e :: es) ms) (hbase : attributeBase o "append" X.env (eval o X.env) = eval o X.env := by rfl)
    (hfew : ((backTo cpos (starEach (e :: es) X.env)).all (fun x => !x.1) && (backToKw cpos (keywordEach [] X.env)).all (fun x => x.1.isSome)
      && decide ((e :: es).length + ([] : List Keyword).length + (if ([] : List Keyword).isEmpty then 0 else 1) < 30)) = true := by rfl)
    (hline : (apos.endLine == cpos.line) = true := by rfl) (hs : starEach (e :: es) X.env = (false, eval e X.env) :: starEach es X.env := by rfl) (hplain : (backTo cpos (starEach es X.env)).any (·.1) = false := by rfl) :
    ME X (.Call (.Attribute o "append" apos) (e :: es) [] cpos) (mmeth tAppend mo ms) := me_meth append_ok PySem.F.slot_list_append PySem.F.type_list_append mt_append ho ha hbase hfew hline hs hplain
theorem mc_popAt (ho : ME X o mo) (ha : MA X (e :: es) ms) (hbase : attributeBase o "pop" X.env (eval o X.env) = eval o X.env := by rfl)
    (hfew : ((backTo cpos (starEach (e :: es) X.env)).all (fun x => !x.1) && (backToKw cpos (keywordEach [] X.env)).all (fun x => x.1.isSome)
      && decide ((e :: es).length + ([] : List Keyword).length + (if ([] : List Keyword).isEmpty then 0 else 1) < 30)) = true := by rfl)
    (hline : (apos.endLine == cpos.line) = true := by rfl) (hs : starEach (e :: es) X.env = (false, eval e X.env) :: starEach es X.env := by rfl) (hplain : (backTo cpos (starEach es X.env)).any (·.1) = false := by rfl) :
    ME X (.Call (.Attribute o "pop" apos) (e :: es) [] cpos) (mmeth tPopAt mo ms) := me_meth popAt_ok PySem.F.slot_list_pop PySem.F.type_list_pop mt_popAt ho ha hbase hfew hline hs hplain
end
end

/-! ### walking a list or a tuple, whichever it is -/
section
variable {X : Cx} {tg iter : Expr} {me : Em}
theorem pi_any {l : Expr} {tl : TE} (hl : PE X l tl) : PI X tg l (fun σ H R => tl σ H fun x H1 => ∃ a, x = .ref a ∧ (((∃ xs, SqL X.K H1 a xs) ∧ R (Itl X.K a) H1) ∨ ((∃ xs, SqT X.K H1 a xs) ∧ R (Itt X.K a) H1))) := by
  refine ⟨fun pins s σ H R I h => ?_⟩
  refine thn (hl.run pins s σ H _ I h) fun v s1 ⟨x, H1, I1, r1, q1⟩ => ?_
  obtain ⟨a, e, q⟩ := q1
  subst e
  cases r1
  rcases q with ⟨⟨xs, hq⟩, q⟩ | ⟨⟨xs, hq⟩, q⟩
  · obtain ⟨its, rv, p, hz⟩ := I1.list hq
    refine wpAny_pyIter_list p.isList ?_
    refine ⟨s1.heap.objs.size, [s1.heap.objs.size], _, _, H1, rfl, I1.kept (t' := s1.toks) fun b o e => Heap.get?_push_of_some _ e, turn_list a _, ⟨_, Heap.get?_push_size _ rfl, rfl, rfl⟩, fun b hb => ?_, q⟩
    have e : b = s1.heap.objs.size := by simpa using hb
    subst e
    exact I1.fpOk (Nat.le_refl _) (I1.hok.fresh (Nat.le_refl _))
  · obtain ⟨its, rv, p, hz⟩ := I1.tuple hq
    refine wpAny_pyIter_tuple (show s1.heap.IsTuple a its.toArray from p) ?_
    refine ⟨s1.heap.objs.size, [s1.heap.objs.size], _, _, H1, rfl, I1.kept (t' := s1.toks) fun b o e => Heap.get?_push_of_some _ e, turn_tuple a _, ⟨_, Heap.get?_push_size _ rfl, rfl, rfl⟩, fun b hb => ?_, q⟩
    have e : b = s1.heap.objs.size := by simpa using hb
    subst e
    exact I1.fpOk (Nat.le_refl _) (I1.hok.fresh (Nat.le_refl _))
def srcA (S : Sto) : W → Option Src
  | .d (.tup ds) => some (.its (ds.map W.d))
  | .d (.lst ds) => some (.its (ds.map W.d))
  | .d (.scr ds) => some (.its (ds.map W.d))
  | .ref k => (lstOf S k).bind fun _ => some (.cell k)
  | _ => none
theorem itf_ok {K : PySem.W.Frag} {F : Addr → Prop} {μ : List Addr} {S : Sto} {H : Hp} {a : Addr} {vs : List V} {ws : List W} (h1 : FrzAt K H a vs) (h2 : RepWs K μ (NF F μ S) H ws vs) : ItOk K F μ S H (Itl K a) (.its ws) := fun F2 μ2 S2 H2 gz i r hr => by
  obtain ⟨p, _, g, rs⟩ := gz
  cases hr
  have l2 : SqL K H2 a vs := (g.frz h1).sq
  have r2 : RepWs K μ2 (NF F2 μ2 S2) H2 ws vs := h2.mono g p
  cases e : ws[i]? with
  | none => exact ⟨vs, l2, by rw [← r2.length]; exact List.getElem?_eq_none_iff.mp e⟩
  | some w =>
    obtain ⟨v, e1, e2⟩ := r2.get e
    refine ⟨⟨vs, v, l2, e1⟩, fun x H3 ⟨y1, y2⟩ => ?_⟩
    subst y1
    have := y2 vs l2
    rw [e1] at this; cases this
    exact ⟨Fr.refl, e2⟩
theorem mi_any (h : ME X iter me) : MI X tg iter (isrc srcA me) := PI.cons (pi_any h) fun σ H R ⟨F, μ, ρ, S, src, S', rs, rst, h, k⟩ => by
  obtain ⟨⟨w, S1⟩, e1, h⟩ := bind_some h
  obtain ⟨s, e2, h⟩ := bind_some h
  cases h
  refine ⟨F, μ, ρ, S, w, S1, rs, rst, e1, fun μ1 v H1 g q => ?_⟩
  cases w with
  | d x =>
    cases x with
    | lst ds =>
      cases e2
      obtain ⟨a, vs, e, h1, h2⟩ := dlst.mp q
      exact ⟨a, e, .inl ⟨⟨vs, h1.sq⟩, k μ1 _ H1 g (its_ok h1 (rep_map h2))⟩⟩
    | scr ds =>
      cases e2
      have q' : RepD _ _ _ _ _ := q
      rw [RepD] at q'
      obtain ⟨a, vs, e, h1, h2⟩ := q'
      exact ⟨a, e, .inl ⟨⟨vs, h1.sq⟩, k μ1 _ H1 g (itf_ok h1 (rep_map h2))⟩⟩
    | tup ds =>
      cases e2
      obtain ⟨a, vs, e, h1, h2⟩ := dtup.mp q
      exact ⟨a, e, .inr ⟨⟨vs, h1⟩, k μ1 _ H1 g (itt_ok h1 (rep_map h2))⟩⟩
    | _ => cases e2
  | ref kk =>
    obtain ⟨ws, e3, e4⟩ := bind_some (show (lstOf S1 kk).bind (fun _ => some (Src.cell kk)) = some src from e2)
    cases e4
    obtain ⟨a, h1, e⟩ := q
    obtain ⟨vs, h2, h3⟩ := g.rs.at_ kk a _ h1 (lstOf_some e3)
    exact ⟨a, e, .inl ⟨⟨vs, .inl (.inl h2)⟩, k μ1 _ H1 g (cell_ok h1)⟩⟩
  | op _ => cases e2
end
section
variable {X : Cx} {x : Str} {e : Expr} {m : Em} {pos : Pos}
theorem ms_st (i : Nat) {pos' : Pos} (hN : X.N.Nodup) (he : ME X e m) (hi : X.N[i]? = some x := by rfl) (hx : Loc X.env.scope x := by first | exact Or.inl rfl | exact Or.inr rfl) (hs : swapsWith e (some (.Name x pos')) pos.line X.env = pure false := by rfl) (hf : X.fn x = true ∨ X.env.scope.names.lookup x = some .local := by first | exact .inl rfl | exact .inr rfl) :
    MS X (.Assign [.Name x pos'] e pos) (bset i m) := ms_set hN hi hx he hs hf
theorem mgn (i : Nat) (hN : X.N.Nodup) (hi : X.N[i]? = some x := by rfl) (hx : Loc X.env.scope x := by first | exact Or.inl rfl | exact Or.inr rfl) (hf : X.fn x = true ∨ X.env.scope.names.lookup x = some .local := by first | exact .inl rfl | exact .inr rfl) : PG X (.Name x pos) (LG X.K (gnm i) [i]) := mg_name hN hi hx hf
theorem ms_ag (i : Nat) {op : Operator} {f : Int → Int → Int} {pos' : Pos} (hN : X.N.Nodup) (he : ME X e m) (ho : PIp X op (ipI f)) (hi : X.N[i]? = some x := by rfl) (hx : Loc X.env.scope x := by first | exact Or.inl rfl | exact Or.inr rfl) (hf : X.fn x = true ∨ X.env.scope.names.lookup x = some .local := by first | exact .inl rfl | exact .inr rfl) :
    MS X (.AugAssign (.Name x pos') op e pos) (baug i f m) := ms_aug hN hi hx he ho hf
end
/-! ### a op b op c -/
def mchain (f g : Int → Int → Bool) (ma mb mc : Em) : Em := fun ρ S => (ma ρ S).bind fun p => (mb ρ p.2).bind fun q => match p.1, q.1 with
  | .d (.int i), .d (.int j) => if f i j = true then (mc ρ q.2).bind fun r => match r.1 with
    | .d (.int l) => some (.d (.bl (g j l)), r.2)
    | _ => none else some (.d (.bl false), q.2)
  | _, _ => none
section
variable {X : Cx} {a b c : Expr} {ma mb mc : Em} {pos : Pos} {op op' : CmpOp} {f g : Int → Int → Bool}
theorem chain_read {σ : L2.St} {H : Hp} {Q : VK} (h : LE X.K (mchain f g ma mb mc) σ H Q) : tChain (rI0 fun i j => .bl (f i j)) (rI0 fun i j => .bl (g i j)) (LE X.K ma) (LE X.K mb) (LE X.K mc) σ H Q := by
  obtain ⟨F, μ, ρ, S, w, S', rs, rst, h, k⟩ := h
  obtain ⟨⟨w1, S1⟩, e1, h⟩ := bind_some h
  obtain ⟨⟨w2, S2⟩, e2, h⟩ := bind_some h
  refine ⟨F, μ, ρ, S, w1, S1, rs, rst, e1, fun μ1 v1 H1 g1 q1 => ⟨F, μ1, ρ, S1, w2, S2, g1.rs, rst.mono g1.go g1.pre, e2, fun μ2 v2 H2 g2 q2 => ?_⟩⟩
  have g12 := g1.trans g2
  cases w1 with
  | d x =>
    cases x with
    | int i =>
      cases w2 with
      | d y =>
        cases y with
        | int j =>
          cases dint.mp q1
          cases dint.mp q2
          refine ⟨i, j, rfl, rfl, f i j, rfl, ?_⟩
          have h' : (if f i j = true then (mc ρ S2).bind (fun r => match r.1 with | .d (.int l) => some (W.d (.bl (g j l)), r.2) | _ => none) else some (.d (.bl false), S2)) = some (w, S') := h
          split at h'
          · rename_i hf
            rw [if_pos hf]
            obtain ⟨⟨w3, S3⟩, e3, h'⟩ := bind_some h'
            refine ⟨F, μ2, ρ, S2, w3, S3, g2.rs, (rst.mono g1.go g1.pre).mono g2.go g2.pre, e3, fun μ3 v3 H3 g3 q3 => ?_⟩
            cases w3 with
            | d z =>
              cases z with
              | int l =>
                cases h'
                cases dint.mp q3
                exact ⟨j, l, rfl, rfl, k μ3 _ H3 (g12.trans g3) (dbl.mpr rfl)⟩
              | _ => cases h'
            | _ => cases h'
          · rename_i hf
            cases h'
            rw [if_neg hf]
            exact k μ2 _ H2 g12 (dbl.mpr rfl)
        | _ => cases h
      | _ => cases h
    | _ => cases h
  | _ => cases h
theorem me_chain (ho : OpR X (compareOp op) (rI0 fun i j => .bl (f i j))) (ho' : OpR X (compareOp op') (rI0 fun i j => .bl (g i j))) (ha : ME X a ma) (hb : ME X b mb) (hc : ME X c mc) (hm : lastMarks [op, op'] [b, c] = false := by with_unfolding_all rfl) :
    ME X (.Compare a [op, op'] [b, c] pos) (mchain f g ma mb mc) := PE.cons (pe_chain ho ho' ha hb hc hm) fun σ H Q h => chain_read h
theorem mt_chain (ho : OpR X (compareOp op) (rI0 fun i j => .bl (f i j))) (ho' : OpR X (compareOp op') (rI0 fun i j => .bl (g i j))) (ha : ME X a ma) (hb : ME X b mb) (hc : ME X c mc) (hm : lastMarks [op, op'] [b, c] = false := by with_unfolding_all rfl) :
    MT X (.Compare a [op, op'] [b, c] pos) (tst (mchain f g ma mb mc)) := PT.cons (pt_chain ho ho' ha hb hc hm) fun σ H Q ⟨F, μ, ρ, S, b, S', rs, rst, h, k⟩ => by
  obtain ⟨⟨w, S1⟩, e1, h⟩ := bind_some h
  obtain ⟨b', e2, h⟩ := bind_some h
  cases h
  exact chain_read ⟨F, μ, ρ, S, w, S1, rs, rst, e1, fun μ' v H' g q => ⟨b, wbl_rep e2 q, k μ' H' g⟩⟩
end
end GM

set_option Elab.async false
set_option linter.all false
set_option maxRecDepth 100000
set_option maxHeartbeats 4000000
set_option autoImplicit false
namespace GM
open PySem L2
theorem mss_none {X : Cx} {ss : List Stmt} : MSs X ss (fun _ _ => none) := ⟨fun pins s σ H D I q => by
  obtain ⟨F, μ, ρ, S, o, rs, rst, h, k⟩ := q
  cases h⟩
section
variable {P : Program} {w : World} {K : PySem.W.Frag} {mg : Str → Option Value} {base : Heap}
theorem fn_none {x : Str} {st : Stmt} {N ps : List Str} {k : Nat} (D : DefF K mg x st ps) (sc : FnScope N ps (defScope st)) : FnM P w K mg base (k + 1) x (fun _ _ => none) :=
  FnM.imp (mk_def D sc (fun _ _ _ _ _ _ _ _ => mss_none)) fun ws S r h => nomatch h
theorem mk_ok {x : Str} {st : Stmt} {f : Addr} {fd : FuncData} {N ps : List Str} {k : Nat} {b : Bm} (FF : Fun K x x st f fd) (sc : FnScope N ps (defScope st))
    (hb : ∀ (f : Addr) (cdv : Value) (A : Around) (outer : List Env) (s : Shared) (H : Hp) (E : XK), Room k (cxOf CX0 P w K mg base N x (defScope st) f cdv A outer s H E).nox.A → MSs (cxOf CX0 P w K mg base N x (defScope st) f cdv A outer s H E).nox (defBody st) b) :
    FnOk P w K mg base CX0 (k + 1) f fd ps (spM K (runDef ps.length N.length b)) :=
  FF.ok sc (fun vs H Q E h => spM_len h) (fun cdv A outer s H vs Q E hr h => ⟨LS K b, hb f cdv A outer s H E hr, by
    obtain ⟨F, μ, S, ws, r, S', rs, q, h, kk⟩ := h
    unfold runDef at h
    split at h
    · obtain ⟨o, e1, h⟩ := bind_some h
      exact ⟨F, μ, _, S, o, rs, start_rep N q, e1, end_read rs h kk⟩
    · cases h⟩)
theorem defF_mk {h : Heap} {x : Str} {st : Stmt} {ps : List Str} {f : Addr} {oc : Value} {od an : Option Addr} {osl : Array (Option Value)} {kV doc pm cdv ct : Value} (X : K.In h) (G : h.Ns mainGlobals mg) (a : PySem.W.nsIn K mainGlobals x = some (some (.ref f)))
    (l : K.lookup f = some ⟨oc, od, .func (PySem.W.fnOf x x (defArgs st) (defBody st) (defScope st) .none kV doc pm an cdv ct), osl⟩) (c : PySem.W.codeIn K cdv x = true) (k : PySem.W.keepIn K (.ref f) = true)
    (hb : ∀ (kV doc pm : Value) (an : Option Addr) (cdv ct : Value) (us : List Value), us.length = ps.length → bindArgs (PySem.W.fnOf x x (defArgs st) (defBody st) (defScope st) .none kV doc pm an cdv ct) ⟨us, []⟩ = pure (ps.zip us)) : DefF K mg x st ps :=
  ⟨⟨f, _, fun_mk l c k, PySem.W.mg_of X G a, (fun_mk l c k).binds hb⟩⟩
theorem law_end {m : Fm} {H : Hp} {a : Addr} {ns : List Int} (hm : m [.d (.scr (ns.map D.int))] [] = some (.val (.d (.bl true)), [])) (hO : Only H) (hS : SqL K H a (ns.map V.int)) : spM K m [.ref a] H (fun v _ => v = .bl true) fun _ _ _ => False := by
  have rs : RS K (fun _ => False) [] [] H := ⟨rfl, fun j k a c c' h => (by simp at h), fun k a c h => (by simp at h), fun a h => h.elim, fun a h => h.elim⟩
  refine ⟨fun _ => False, [], [], [.d (.scr (ns.map D.int))], .val (.d (.bl true)), [], rs, .cons ?_ .nil, hm, fun v H' g q => dbl.mp q⟩
  show RepD _ _ _ _ _
  rw [RepD]
  refine ⟨a, ns.map V.int, rfl, ?_, ?_⟩
  · rcases hS with (h | ⟨o, h⟩) | h
    · rcases hO a with z | ⟨o, xs, z⟩
      · rw [z] at h; cases h
      · rw [z] at h; cases h
    · exact .inl ⟨o, h⟩
    · exact .inr h
  · clear hS hm
    induction ns with
    | nil => rw [List.map_nil, List.map_nil, RepDs]
    | cons i r ih => rw [List.map_cons, List.map_cons, RepDs]; exact ⟨_, _, rfl, by rw [RepD], ih⟩
end
end GM

set_option Elab.async false
set_option linter.all false
set_option maxRecDepth 100000
set_option maxHeartbeats 4000000
set_option autoImplicit false
namespace GM
open PySem L2
/-- so that simp keeps a proof of the step, and the kernel need not reckon it again -/
theorem nr {α : Sort _} {a b : α} (h : a = b) : a = b := h
/-! ### the mirrors, to be reckoned with simp -/
section
variable {ρ : Rho} {S : Sto}
@[simp] theorem mv_ap {i : Nat} : mv i ρ S = (match ρ[i]? with | some (some w) => some (w, S) | _ => none) := nr rfl
@[simp] theorem mk_ap {x : D} : mk x ρ S = some (.d x, S) := nr rfl
@[simp] theorem mop_ap {x : V} : mop x ρ S = some (.op x, S) := nr rfl
@[simp] theorem anil_ap : anil ρ S = some ([], S) := nr rfl
@[simp] theorem acons_ap {a : Em} {r : Am} : acons a r ρ S = (a ρ S).bind fun p => (r ρ p.2).bind fun q => some (p.1 :: q.1, q.2) := nr rfl
@[simp] theorem prim_ap {f : Sto → List W → Option W} {a : Am} : prim f a ρ S = (a ρ S).bind fun p => (f p.2 p.1).bind fun w => some (w, p.2) := nr rfl
@[simp] theorem primF_ap {f : Sto → List W → Option (List W)} {a : Am} : primF f a ρ S = (a ρ S).bind fun p => (f p.2 p.1).bind fun w => some (w, p.2) := nr rfl
@[simp] theorem thw_ap {a : Am} : thw a ρ S = (a ρ S).bind fun p => some (.ref p.2.length, p.2 ++ [.lst p.1]) := nr rfl
@[simp] theorem frz_ap {a : Am} : frz a ρ S = (a ρ S).bind fun p => (datas p.1).bind fun ds => some (.d (.lst ds), p.2) := nr rfl
@[simp] theorem mif_ap {c : Tm} {a b : Em} : mif c a b ρ S = (c ρ S).bind fun q => if q.1 = true then a ρ q.2 else b ρ q.2 := nr rfl
@[simp] theorem wbl_ap {b : Bool} : wbl (.d (.bl b)) = some b := nr rfl
@[simp] theorem tst_ap {m : Em} : tst m ρ S = (m ρ S).bind fun p => (wbl p.1).bind fun b => some (b, p.2) := nr rfl
@[simp] theorem tand_ap {a b : Tm} : tand a b ρ S = (a ρ S).bind fun q => if q.1 = true then b ρ q.2 else some (false, q.2) := nr rfl
@[simp] theorem tor_ap {a b : Tm} : tor a b ρ S = (a ρ S).bind fun q => if q.1 = true then some (true, q.2) else b ρ q.2 := nr rfl
@[simp] theorem tnot_ap {a : Tm} : tnot a ρ S = (a ρ S).bind fun q => some (!q.1, q.2) := nr rfl
@[simp] theorem mand_ap {a b : Em} : mand a b ρ S = (a ρ S).bind fun p => (wbl p.1).bind fun c => if c = true then b ρ p.2 else some (.d (.bl false), p.2) := nr rfl
@[simp] theorem mor_ap {a b : Em} : mor a b ρ S = (a ρ S).bind fun p => (wbl p.1).bind fun c => if c = true then some (.d (.bl true), p.2) else b ρ p.2 := nr rfl
@[simp] theorem mnot_ap {a : Em} : mnot a ρ S = (a ρ S).bind fun p => (wbl p.1).bind fun c => some (.d (.bl (!c)), p.2) := nr rfl
@[simp] theorem isrc_ap {f : Sto → W → Option Src} {m : Em} : isrc f m ρ S = (m ρ S).bind fun p => (f p.2 p.1).bind fun s => some (s, p.2) := nr rfl
@[simp] theorem iargs_ap {f : Sto → List W → Option Src} {m : Am} : iargs f m ρ S = (m ρ S).bind fun p => (f p.2 p.1).bind fun s => some (s, p.2) := nr rfl
@[simp] theorem bnil_ap : bnil ρ S = some (.nx ρ S) := nr rfl
@[simp] theorem bseq_ap {a b : Bm} : bseq a b ρ S = (a ρ S).bind fun o => match o with
  | .nx ρ1 S1 => b ρ1 S1
  | .ret w S1 => some (.ret w S1)
  | .bk ρ1 S1 => some (.bk ρ1 S1)
  | .ct ρ1 S1 => some (.ct ρ1 S1) := nr rfl
@[simp] theorem bset_ap {i : Nat} {m : Em} : bset i m ρ S = (m ρ S).bind fun p => some (.nx (ρ.set i (some p.1)) p.2) := nr rfl
@[simp] theorem basg_ap {g : Gm} {m : Em} : basg g m ρ S = (m ρ S).bind fun p => (g p.2 p.1 ρ).bind fun ρ1 => some (.nx ρ1 p.2) := nr rfl
@[simp] theorem bret_ap {m : Em} : bret m ρ S = (m ρ S).bind fun p => some (.ret p.1 p.2) := nr rfl
@[simp] theorem bdrop_ap {m : Em} : bdrop m ρ S = (m ρ S).bind fun p => some (.nx ρ p.2) := nr rfl
@[simp] theorem bcond_ap {c : Tm} {a b : Bm} : bcond c a b ρ S = (c ρ S).bind fun q => if q.1 = true then a ρ q.2 else b ρ q.2 := nr rfl
@[simp] theorem bfor_ap {mi : Im} {g : Gm} {b : Bm} : bfor mi g b ρ S = (mi ρ S).bind fun p => floop p.1 g b (srcLen p.1 p.2) 0 ρ p.2 := nr rfl
@[simp] theorem mcomp_ap {mi : Im} {g : Gm} {c : Tm} {e : Em} {vs : List Nat} : mcomp mi g c e vs ρ S = (mi ρ S).bind fun p => (cloop p.1 g c e (mwipe ρ vs) (srcLen p.1 p.2) 0 p.2).bind lim := nr rfl
@[simp] theorem mcomp2_ap {mi mi1 : Im} {g g1 : Gm} {c c1 : Tm} {e : Em} {vs vs1 : List Nat} : mcomp2 mi g c mi1 g1 c1 e vs vs1 ρ S = (mi ρ S).bind fun p => (cloop2 p.1 g c mi1 g1 c1 e (mwipe ρ vs) vs1 (srcLen p.1 p.2) 0 p.2).bind lim := nr rfl
@[simp] theorem mwipe_nil : mwipe ρ [] = ρ := nr rfl
@[simp] theorem mwipe_cons {v : Nat} {vs : List Nat} : mwipe ρ (v :: vs) = (mwipe ρ vs).set v none := nr rfl
@[simp] theorem tyes_ap : tyes ρ S = some (true, S) := nr rfl
@[simp] theorem gnm_ap {i : Nat} {w : W} : gnm i S w ρ = some (ρ.set i (some w)) := nr rfl
@[simp] theorem gnil_ap : gnil S [] ρ = some ρ := nr rfl
@[simp] theorem gcons_ap {g : Gm} {r : Gsm} {w : W} {ws : List W} : gcons g r S (w :: ws) ρ = (g S w ρ).bind fun ρ1 => r S ws ρ1 := nr rfl
@[simp] theorem gtp_ap {n : Nat} {r : Gsm} {ds : List D} : gtp n r S (.d (.tup ds)) ρ = if ds.length = n then r S (ds.map W.d) ρ else none := nr rfl
@[simp] theorem mcall_ap {m : Fm} {a : Am} : mcall m a ρ S = (a ρ S).bind fun p => (m p.1 p.2).bind fun q => (rvW q.1).bind fun w => some (w, q.2) := nr rfl
@[simp] theorem mcallF_ap {m : Fm} {a : Am} : mcallF m a ρ S = (a ρ S).bind fun p => (m p.1 p.2).bind fun q => match q.1 with
  | .new ws => some (ws, q.2)
  | .val _ => none := nr rfl
@[simp] theorem rvW_val {w : W} : rvW (.val w) = some w := nr rfl
@[simp] theorem rvW_new {ws : List W} : rvW (.new ws) = (datas ws).bind fun ds => some (.d (.lst ds)) := nr rfl
@[simp] theorem mmeth_ap {f : List W → List W → Option (W × List W)} {mo : Em} {ms : Am} : mmeth f mo ms ρ S = (mo ρ S).bind fun p => match p.1 with
  | .ref k => (lstOf p.2 k).bind fun _ => (ms ρ p.2).bind fun q => (lstOf q.2 k).bind fun ws => (f ws q.1).bind fun r => some (r.1, q.2.set k (.lst r.2))
  | _ => none := nr rfl
@[simp] theorem bsub_ap {m mo mi : Em} : bsub m mo mi ρ S = (m ρ S).bind fun p => (mo ρ p.2).bind fun q => (mi ρ q.2).bind fun r => match q.1, r.1 with
  | .ref k, .d (.int i) => (lstOf r.2 k).bind fun ws => (ixN ws.length i).bind fun j => some (.nx ρ (r.2.set k (.lst (ws.set j p.1))))
  | _, _ => none := nr rfl
@[simp] theorem misiT_ap {bs : List String} {m : Em} : misiT bs m ρ S = (m ρ S).bind fun p => (tyW p.2 p.1).bind fun a => (isAny a bs).bind fun r => some (.d (.bl r), p.2) := nr rfl
@[simp] theorem msl_ap {f : Sto → W → Option Int → Option Int → Option W} {ma : Em} {ml mh : Om} : msl f ma ml mh ρ S = (ma ρ S).bind fun p => (ml ρ p.2).bind fun q => (mh ρ q.2).bind fun r => (f r.2 p.1 q.1 r.1).bind fun w => some (w, r.2) := nr rfl
@[simp] theorem onone_ap : onone ρ S = some (none, S) := nr rfl
@[simp] theorem osome_ap {m : Em} : osome m ρ S = (m ρ S).bind fun p => match p.1 with
  | .d (.int i) => some (some i, p.2)
  | _ => none := nr rfl
@[simp] theorem prg1_ap {m : Em} : prg1 m ρ S = (m ρ S).bind fun p => match p.1 with
  | .d (.int j) => some (((0 : Int), j), p.2)
  | _ => none := nr rfl
@[simp] theorem mlrg_ap {m : Pm} : mlrg m ρ S = (m ρ S).bind fun p => if rgC p.1.1 p.1.2 = true then some (rngW p.1.1 (p.1.2 - p.1.1).toNat, p.2) else none := nr rfl
@[simp] theorem mtrg_ap {m : Pm} : mtrg m ρ S = (m ρ S).bind fun p => if rgC p.1.1 p.1.2 = true then some (.d (.tup ((List.range (p.1.2 - p.1.1).toNat).map fun i => .int (p.1.1 + (i : Nat)))), p.2) else none := nr rfl
@[simp] theorem prg2_ap {m m' : Em} : prg2 m m' ρ S = (m ρ S).bind fun p => (m' ρ p.2).bind fun q => match p.1, q.1 with
  | .d (.int i), .d (.int j) => some ((i, j), q.2)
  | _, _ => none := nr rfl
@[simp] theorem srcAt_its {ws : List W} {i : Nat} : srcAt (.its ws) S i = some ws[i]? := nr rfl
@[simp] theorem srcLen_its {ws : List W} : srcLen (.its ws) S = ws.length := nr rfl
@[simp] theorem mchain_ap {f g : Int → Int → Bool} {ma mb mc : Em} : mchain f g ma mb mc ρ S = (ma ρ S).bind fun p => (mb ρ p.2).bind fun q => match p.1, q.1 with
  | .d (.int i), .d (.int j) => if f i j = true then (mc ρ q.2).bind fun r => match r.1 with
    | .d (.int l) => some (.d (.bl (g j l)), r.2)
    | _ => none else some (.d (.bl false), q.2)
  | _, _ => none := nr rfl
@[simp] theorem runDef_ap {np nN : Nat} {b : Bm} {ws : List W} : runDef np nN b ws S = if ws.length = np then (b (ws.map some ++ List.replicate (nN - ws.length) none) S).bind (endDef S) else none := nr rfl
theorem endDef_ret {w : W} {S1 : Sto} : endDef S (.ret w S1) = if chk S S1 = true then (retW S.length S1 w).bind fun r => some (r, S1.take S.length) else none := rfl
theorem endDef_nx {S1 : Sto} : endDef S (.nx ρ S1) = if chk S S1 = true then some (.val (.d .non), S1.take S.length) else none := rfl
end
/-! ### iws and data -/
abbrev iws (ns : List Int) : List W := ns.map fun i => W.d (.int i)
abbrev C (ns : List Int) : Cell := .lst (iws ns)
@[simp] theorem datas_map' (ds : List D) : datas (ds.map W.d) = some ds := by
  induction ds with
  | nil => rfl
  | cons d r ih => show (datas (r.map W.d)).bind _ = _; rw [ih]; rfl
theorem datas_fmap {α : Type} (l : List α) (f : α → D) : datas (l.map fun x => W.d (f x)) = some (l.map f) := by
  rw [show (l.map fun x => W.d (f x)) = (l.map f).map W.d by rw [List.map_map]; rfl]
  exact datas_map' _
@[simp] theorem datas_nil : datas [] = some [] := nr rfl
@[simp] theorem datas_cons {d : D} {r : List W} : datas (.d d :: r) = (datas r).bind fun ds => some (d :: ds) := nr rfl
@[simp] theorem datas_iws (ns : List Int) : datas (iws ns) = some (ns.map D.int) := datas_fmap _ _
@[simp] theorem lstOf_zero {ws : List W} {T : Sto} : lstOf (.lst ws :: T) 0 = some ws := nr rfl
theorem lstOf_eq {S : Sto} {k : Nat} {ws : List W} (h : S[k]? = some (.lst ws)) : lstOf S k = some ws := by unfold lstOf; rw [h]
@[simp] theorem lstOf_last {S : Sto} {ws : List W} : lstOf (S ++ [.lst ws]) S.length = some ws := lstOf_eq (by simp)
/-! ### leaving a def -/
theorem chk_pre (S T : Sto) : chk S (S ++ T) = true := by
  unfold chk
  rw [List.all_eq_true]
  intro j hj
  rw [List.mem_range] at hj
  rw [List.getElem?_append_left hj, decide_eq_true rfl, Bool.true_or]
theorem closed_iws (n : Nat) (ns : List Int) : closedC n (C ns) = true := by
  unfold closedC
  simp [iws, ltW]
theorem chk_draw (ns ns' : List Int) (T X : Sto) : chk (C ns :: T) (C ns' :: (T ++ X)) = true := by
  unfold chk
  rw [List.all_eq_true]
  intro j hj
  rw [List.mem_range] at hj
  cases j with
  | zero =>
    show (_ || closedC _ (C ns')) = true
    rw [closed_iws, Bool.or_true]
  | succ j =>
    have : j < T.length := by simpa using hj
    rw [List.getElem?_cons_succ, List.getElem?_cons_succ, List.getElem?_append_left this, decide_eq_true rfl, Bool.true_or]
@[simp] theorem retW_d {n : Nat} {S1 : Sto} {x : D} : retW n S1 (.d x) = some (.val (.d x)) := nr rfl
theorem closeW_map (n k0 : Nat) (S1 : Sto) (f : Nat) (ds : List D) : (ds.map W.d).mapM (closeW n k0 S1 f) = some (ds.map W.d) := by
  induction ds with
  | nil => rfl
  | cons d r ih =>
    rw [List.map_cons, List.mapM_cons, ih]
    cases f <;> rfl
theorem retW_new {n k : Nat} {S1 : Sto} {ds : List D} (hk : ¬ k < n) (h : S1[k]? = some (.lst (ds.map W.d))) : retW n S1 (.ref k) = some (.new (ds.map W.d)) := by
  unfold retW
  dsimp only
  rw [if_neg hk, lstOf_eq h]
  show ((ds.map W.d).mapM (closeW n k S1 3)).bind _ = _
  rw [closeW_map]
  rfl
/-- the end of a def that returns data -/
theorem end_pure {S X : Sto} {x : D} : endDef S (.ret (.d x) (S ++ X)) = some (.val (.d x), S) := by
  rw [endDef_ret, if_pos (chk_pre S X), retW_d]
  simp
theorem end_pure0 {S : Sto} {x : D} : endDef S (.ret (.d x) S) = some (.val (.d x), S) := by
  have := end_pure (S := S) (X := []) (x := x)
  rwa [List.append_nil] at this
theorem end_draw {ns ns' : List Int} {T X : Sto} {x : D} : endDef (C ns :: T) (.ret (.d x) (C ns' :: (T ++ X))) = some (.val (.d x), C ns' :: T) := by
  rw [endDef_ret, if_pos (chk_draw ns ns' T X), retW_d]
  simp
theorem end_draw0 {ns ns' : List Int} {T : Sto} {x : D} : endDef (C ns :: T) (.ret (.d x) (C ns' :: T)) = some (.val (.d x), C ns' :: T) := by
  have := end_draw (ns := ns) (ns' := ns') (T := T) (X := []) (x := x)
  rwa [List.append_nil] at this
/-! ### loops -/
/-- a loop over given items: I at each beginning, E at each end -/
theorem floop_inv {ws : List W} {g : Gm} {b : Bm} (I : Nat → Rho → Sto → Prop) (E : Out → Prop)
    (hs : ∀ i w ρ S, ws[i]? = some w → I i ρ S → ∃ ρ1 o, g S w ρ = some ρ1 ∧ b ρ1 S = some o ∧ (match o with
      | .nx ρ2 S2 => I (i + 1) ρ2 S2
      | .ct ρ2 S2 => I (i + 1) ρ2 S2
      | .bk ρ2 S2 => E (.nx ρ2 S2)
      | .ret w S2 => E (.ret w S2)))
    (he : ∀ ρ S, I ws.length ρ S → E (.nx ρ S)) : ∀ (n i : Nat) (ρ : Rho) (S : Sto), i + n = ws.length → I i ρ S → ∃ o, floop (.its ws) g b n i ρ S = some o ∧ E o
  | 0, i, ρ, S, e, h => by
    have e' : ws[i]? = none := List.getElem?_eq_none (by omega)
    refine ⟨.nx ρ S, ?_, he ρ S (by rw [← e]; exact h)⟩
    unfold floop
    rw [srcAt_its, e']
    rfl
  | n + 1, i, ρ, S, e, h => by
    have hi : i < ws.length := by omega
    obtain ⟨ρ1, o, e1, e2, q⟩ := hs i ws[i] ρ S (List.getElem?_eq_getElem hi) h
    unfold floop
    rw [srcAt_its, List.getElem?_eq_getElem hi]
    show ∃ o', ((g S ws[i] ρ).bind fun ρ1 => _) = some o' ∧ E o'
    rw [e1]
    show ∃ o', ((b ρ1 S).bind _) = some o' ∧ E o'
    rw [e2]
    cases o with
    | nx ρ2 S2 => exact floop_inv I E hs he n (i + 1) ρ2 S2 (by omega) q
    | ct ρ2 S2 => exact floop_inv I E hs he n (i + 1) ρ2 S2 (by omega) q
    | bk ρ2 S2 => exact ⟨_, rfl, q⟩
    | ret w S2 => exact ⟨_, rfl, q⟩
/-- a comprehension that leaves the cells as they are -/
theorem cloop_pure {ws : List W} {g : Gm} {c : Tm} {e : Em} {ρ : Rho} {S : Sto} (p : W → Bool) (f : W → W)
    (hs : ∀ w ∈ ws, ∃ ρ1, g S w ρ = some ρ1 ∧ c ρ1 S = some (p w, S) ∧ (p w = true → e ρ1 S = some (f w, S))) : ∀ (n i : Nat), i + n = ws.length → cloop (.its ws) g c e ρ n i S = some (((ws.drop i).filter p).map f, S)
  | 0, i, h => by
    have e' : ws[i]? = none := List.getElem?_eq_none (by omega)
    unfold cloop
    rw [srcAt_its, e', List.drop_of_length_le (by omega)]
    rfl
  | n + 1, i, h => by
    have hi : i < ws.length := by omega
    obtain ⟨ρ1, e1, e2, e3⟩ := hs ws[i] (List.getElem_mem hi)
    have ih := cloop_pure p f hs n (i + 1) (by omega)
    unfold cloop
    rw [srcAt_its, List.getElem?_eq_getElem hi, List.drop_eq_getElem_cons hi]
    show ((g S ws[i] ρ).bind _) = _
    rw [e1]
    show ((c ρ1 S).bind _) = _
    rw [e2]
    show (if p ws[i] = true then _ else _) = _
    by_cases hp : p ws[i] = true
    · rw [if_pos hp, e3 hp, List.filter_cons_of_pos hp]
      show ((cloop _ g c e ρ n (i + 1) S).bind _) = _
      rw [ih]
      rfl
    · rw [if_neg hp, List.filter_cons_of_neg hp]
      exact ih
theorem cloop_map {ws : List W} {g : Gm} {e : Em} {ρ : Rho} {S : Sto} (f : W → W) (hs : ∀ w ∈ ws, ∃ ρ1, g S w ρ = some ρ1 ∧ e ρ1 S = some (f w, S)) : cloop (.its ws) g tyes e ρ ws.length 0 S = some (ws.map f, S) := by
  have := cloop_pure (c := tyes) (fun _ => true) f (fun w hw => by
    obtain ⟨ρ1, e1, e2⟩ := hs w hw
    exact ⟨ρ1, e1, rfl, fun _ => e2⟩) ws.length 0 (by omega)
  rw [this, List.drop_zero, List.filter_eq_self.mpr (fun _ _ => rfl)]
/-- the same over any source of data, told by index -/
theorem cloop_fmap {α : Type} {l : List α} {k : α → W} {g : Gm} {e : Em} {ρ : Rho} {S : Sto} {n : Nat} (f : α → W) (hn : n = l.length) (hs : ∀ x ∈ l, ∃ ρ1, g S (k x) ρ = some ρ1 ∧ e ρ1 S = some (f x, S)) : cloop (.its (l.map k)) g tyes e ρ n 0 S = some (l.map f, S) := by
  subst hn
  induction l with
  | nil => rfl
  | cons x r ih => ?_
  clear ih
  have gen : ∀ (n i : Nat) (l : List α), (∀ x ∈ l, ∃ ρ1, g S (k x) ρ = some ρ1 ∧ e ρ1 S = some (f x, S)) → i + n = l.length → cloop (.its (l.map k)) g tyes e ρ n i S = some ((l.drop i).map f, S) := by
    intro n
    induction n with
    | zero =>
      intro i l hs h
      unfold cloop
      rw [srcAt_its, List.getElem?_eq_none (by rw [List.length_map]; omega), List.drop_of_length_le (by omega)]
      rfl
    | succ n ih =>
      intro i l hs h
      have hi : i < l.length := by omega
      obtain ⟨ρ1, e1, e2⟩ := hs l[i] (List.getElem_mem hi)
      unfold cloop
      rw [srcAt_its, List.getElem?_map, List.getElem?_eq_getElem hi, List.drop_eq_getElem_cons hi]
      show ((g S (k l[i]) ρ).bind _) = _
      rw [e1]
      show ((e ρ1 S).bind _) = _
      rw [e2]
      show ((cloop _ g tyes e ρ n (i + 1) S).bind _) = _
      rw [ih (i + 1) l hs (by omega)]
      rfl
  have := gen (x :: r).length 0 (x :: r) hs (by omega)
  rwa [List.drop_zero] at this
/-- a comprehension that draws: each item as R says -/
theorem cloop_draw {ws : List W} {g : Gm} {e : Em} {ρ : Rho} {T : Sto} (R : Nat → W → Prop) (hs : ∀ i w ns, ws[i]? = some w → ∃ ρ1 x ns', g (C ns :: T) w ρ = some ρ1 ∧ e ρ1 (C ns :: T) = some (x, C ns' :: T) ∧ R i x) :
    ∀ (n i : Nat) (ns : List Int), i + n = ws.length → ∃ r ns', cloop (.its ws) g tyes e ρ n i (C ns :: T) = some (r, C ns' :: T) ∧ r.length = n ∧ ∀ j x, r[j]? = some x → R (i + j) x
  | 0, i, ns, h => by
    refine ⟨[], ns, ?_, rfl, fun j x h => by simp at h⟩
    unfold cloop
    rw [srcAt_its, List.getElem?_eq_none (by omega)]
    rfl
  | n + 1, i, ns, h => by
    have hi : i < ws.length := by omega
    obtain ⟨ρ1, x, ns1, e1, e2, q⟩ := hs i ws[i] ns (List.getElem?_eq_getElem hi)
    obtain ⟨r, ns2, e3, l3, q3⟩ := cloop_draw R hs n (i + 1) ns1 (by omega)
    refine ⟨x :: r, ns2, ?_, by rw [List.length_cons, l3], fun j y hj => ?_⟩
    · unfold cloop
      rw [srcAt_its, List.getElem?_eq_getElem hi]
      show ((g _ ws[i] ρ).bind _) = _
      rw [e1]
      show ((e ρ1 _).bind _) = _
      rw [e2]
      show ((cloop _ g tyes e ρ n (i + 1) _).bind _) = _
      rw [e3]
      rfl
    · cases j with
      | zero => cases hj; exact q
      | succ j => rw [show i + (j + 1) = i + 1 + j by omega]; exact q3 j y hj
@[simp] theorem lim_ap {r : List W} {S : Sto} (h : r.length ≤ 1000000) : lim (r, S) = some (r, S) := if_pos h
end GM

set_option Elab.async false
set_option linter.all false
set_option maxRecDepth 100000
set_option maxHeartbeats 4000000
set_option autoImplicit false
namespace GM
open PySem L2
theorem eqv_int (i j : Int) : PyData.eqv (.int i) (.int j) = decide (i = j) := by
  have : PyData.eqv (.int i) (.int j) = (i == j) := by simp [PyData.eqv]
  rw [this]; rfl
section
variable {S : Sto} {i j : Int}
@[simp] theorem eq_int : fEq S [.d (.int i), .d (.int j)] = some (.d (.bl (decide (i = j)))) := by
  simp [fEq, fEqB, view, sh, eqD, D.py, eqv_int]
@[simp] theorem ne_int : fNe S [.d (.int i), .d (.int j)] = some (.d (.bl (!decide (i = j)))) := by
  simp [fNe, fEqB, view, sh, eqD, D.py, eqv_int]
@[simp] theorem add_int : fAdd S [.d (.int i), .d (.int j)] = some (.d (.int (i + j))) := nr rfl
@[simp] theorem sub_int : fSub S [.d (.int i), .d (.int j)] = some (.d (.int (i - j))) := nr rfl
theorem mul_int (h : mulOk i j = true) : fMulX S [.d (.int i), .d (.int j)] = some (.d (.int (i * j))) := by unfold fMulX; dsimp only; rw [if_pos h]
@[simp] theorem lt_int : fLt S [.d (.int i), .d (.int j)] = some (.d (.bl (decide (i < j)))) := nr rfl
@[simp] theorem le_int : fLe S [.d (.int i), .d (.int j)] = some (.d (.bl (decide (i ≤ j)))) := nr rfl
@[simp] theorem gt_int : fGt S [.d (.int i), .d (.int j)] = some (.d (.bl (decide (j < i)))) := nr rfl
@[simp] theorem ge_int : fGe S [.d (.int i), .d (.int j)] = some (.d (.bl (decide (j ≤ i)))) := nr rfl
@[simp] theorem int_int : fInt S [.d (.int i)] = some (.d (.int i)) := nr rfl
@[simp] theorem int_bl {b : Bool} : fInt S [.d (.bl b)] = some (.d (.int (if b then 1 else 0))) := nr rfl
@[simp] theorem abs_int : fAbs S [.d (.int i)] = some (.d (.int (if i < 0 then -i else i))) := nr rfl
@[simp] theorem max2_int : fMax2 S [.d (.int i), .d (.int j)] = some (.d (.int (if j > i then j else i))) := nr rfl
@[simp] theorem neg_int : fNeg S [.d (.int i)] = some (.d (.int (-i))) := nr rfl
theorem mod_int (h : 0 < j) : fMod S [.d (.int i), .d (.int j)] = some (.d (.int (i % j))) := by
  unfold fMod fI2; simp [h]
theorem div_int (h : 0 < j) (h2 : j.natAbs < 2 ^ 8000) : fDiv S [.d (.int i), .d (.int j)] = some (.d (.int (i / j))) := by
  unfold fDiv fI2; simp [h, h2]
theorem pow_int (h : 0 ≤ j) (h1 : j ≤ 1000000) (h2 : i.natAbs < 2 ^ 64) : fPow S [.d (.int i), .d (.int j)] = some (.d (.int (i ^ j.toNat))) := by
  unfold fPow fI2; simp [h, h1]; omega
theorem shl_int (h : 0 ≤ j) (h1 : j ≤ 1000000) (h2 : i.natAbs < 2 ^ 64) : fShl S [.d (.int i), .d (.int j)] = some (.d (.int (i * 2 ^ j.toNat))) := by
  unfold fShl fI2; simp [h, h1]; omega
@[simp] theorem lst_ok1 {ws : List W} (h : ws.length ≤ 1000000) : fLst S ws = some ws := if_pos h
theorem tup_ok' {ws : List W} {ds : List D} (h : ws.length ≤ 1000000) (e : datas ws = some ds) : fTup S ws = some (.d (.tup ds)) := by
  unfold fTup; rw [if_pos h, e]; rfl
@[simp] theorem tup2 {a b : D} : fTup S [.d a, .d b] = some (.d (.tup [a, b])) := nr rfl
@[simp] theorem tup3 {a b c : D} : fTup S [.d a, .d b, .d c] = some (.d (.tup [a, b, c])) := nr rfl
@[simp] theorem tup1 {a : D} : fTup S [.d a] = some (.d (.tup [a])) := nr rfl
@[simp] theorem seqW_tup {ds : List D} : seqW S (.d (.tup ds)) = some (ds.map W.d) := nr rfl
@[simp] theorem seqW_lst {ds : List D} : seqW S (.d (.lst ds)) = some (ds.map W.d) := nr rfl
@[simp] theorem len_tup {ds : List D} : fLen S [.d (.tup ds)] = some (.d (.int ds.length)) := by simp [fLen]
@[simp] theorem len_lst {ds : List D} : fLen S [.d (.lst ds)] = some (.d (.int ds.length)) := by simp [fLen]
theorem len_ref {k : Nat} {ws : List W} (h : S[k]? = some (.lst ws)) : fLen S [.ref k] = some (.d (.int ws.length)) := by
  show (seqW S (.ref k)).bind _ = _
  rw [show seqW S (.ref k) = lstOf S k from rfl, lstOf_eq h]
  rfl
theorem atI_ok {α : Type} {l : List α} {n : Nat} {x : α} (h : l[n]? = some x) : atI l (n : Int) = some x := by
  exact atI_nat h
theorem ix_tup {ds : List D} {n : Nat} {d : D} (h : ds[n]? = some d) : fIx S [.d (.tup ds), .d (.int (n : Int))] = some (.d d) := by
  show atI (ds.map W.d) (n : Int) = _
  exact atI_ok (by rw [List.getElem?_map, h]; rfl)
theorem ix_lst {ds : List D} {n : Nat} {d : D} (h : ds[n]? = some d) : fIx S [.d (.lst ds), .d (.int (n : Int))] = some (.d d) := by
  show atI (ds.map W.d) (n : Int) = _
  exact atI_ok (by rw [List.getElem?_map, h]; rfl)
theorem ix_ref {k n : Nat} {ws : List W} {w : W} (h : S[k]? = some (.lst ws)) (h2 : ws[n]? = some w) : fIx S [.ref k, .d (.int (n : Int))] = some w := by
  show (seqW S (.ref k)).bind _ = _
  rw [show seqW S (.ref k) = lstOf S k from rfl, lstOf_eq h]
  exact atI_ok h2
@[simp] theorem srcA_tup {ds : List D} : srcA S (.d (.tup ds)) = some (.its (ds.map W.d)) := nr rfl
@[simp] theorem srcA_lst {ds : List D} : srcA S (.d (.lst ds)) = some (.its (ds.map W.d)) := nr rfl
@[simp] theorem srcA_scr {ds : List D} : srcA S (.d (.scr ds)) = some (.its (ds.map W.d)) := nr rfl
@[simp] theorem tuple_tup {ds : List D} : fTuple S [.d (.tup ds)] = some (.d (.tup ds)) := nr rfl
@[simp] theorem tuple_lst {ds : List D} : fTuple S [.d (.lst ds)] = some (.d (.tup ds)) := by
  show (some (ds.map W.d)).bind (fun ws => (datas ws).bind _) = _
  simp
theorem rg1_nat {n : Nat} (h : n ≤ 1000000) : rg1 S [.d (.int (n : Int))] = some (.its (rngW 0 n)) := by
  unfold rg1
  dsimp only
  rw [if_pos (by omega)]
  rfl
theorem rg2_nat {a n : Nat} (ha : a ≤ 1000000) (h : n ≤ 1000000) : rg2 S [.d (.int (a : Int)), .d (.int (n : Int))] = some (.its (rngW a (n - a))) := by
  unfold rg2
  dsimp only
  rw [if_pos (by omega)]
  rw [show ((n : Int) - (a : Int)).toNat = n - a by omega]
@[simp] theorem rngW_length {lo : Int} {n : Nat} : (rngW lo n).length = n := by simp [rngW]
theorem rngW_at {lo : Int} {n k : Nat} (h : k < n) : (rngW lo n)[k]? = some (.d (.int (lo + k))) := by simp [rngW, h]
theorem rngW_at0 {n k : Nat} {w : W} (h : (rngW 0 n)[k]? = some w) : k < n ∧ w = .d (.int (k : Int)) := by
  have hk : k < n := by
    have := (List.getElem?_eq_some_iff.mp h).1
    simpa using this
  rw [rngW_at hk] at h
  cases h
  exact ⟨hk, by rw [Int.zero_add]⟩
end
theorem mulOk_small {i j : Int} (h : j.natAbs < 2 ^ 64) : mulOk i j = true := by unfold mulOk; simp [h]
theorem mulOk_smallL {i j : Int} (h : i.natAbs < 2 ^ 64) : mulOk i j = true := by unfold mulOk; simp [h]
end GM

set_option Elab.async false
set_option linter.all false
set_option maxRecDepth 100000
set_option maxHeartbeats 4000000
set_option autoImplicit false
namespace GM
open PySem L2 PyProof.Rows
/-! ### enumerate over a tuple -/
set_option maxHeartbeats 1000000 in
theorem new_enum1 {v : Value} {ob : Obj} {HH : Heap → Prop} (B : Begins v ob HH) :
    Meets (Builtin.«enumerate.__new__» ⟨[.type "enumerate", v], []⟩) (fun _ R s => HH s.heap ∧ R (.ok (.ret (.ref (s.heap.push ob).objs.size)))
      { s with heap := (s.heap.push ob).push { cls := .type "enumerate", data := .fields #[.none, .bool false, .ref s.heap.objs.size, rawInt 0, .none, .none] } }) :=
  .of_wp fun prog w A R s h => by
    obtain ⟨hp, gg, dd, tk, os⟩ := s
    obtain ⟨hb, h⟩ := h
    have hsub := sub_enumerate
    have q1 : ∀ {A' : Around} {E : Value → Shared → Prop} {Q : Value → Shared → Prop}, Q (.ref hp.objs.size) ⟨hp.push ob, gg, dd, tk, os⟩ → wpAny (model prog w) A' (pyIter v) Q E ⟨hp, gg, dd, tk, os⟩ :=
      fun q => B.iter prog w _ _ ⟨hp, gg, dd, tk, os⟩ _ hb q
    wp_walk
    refine wpAny_stack_any fun st => wpAny_pure ?_
    split
    · rename_i c _ _ _ _ _
      cases (c == Value.type "enumerate")
      · wp_walk using q1
        exact ⟨_, rfl, h⟩
      · wp_walk using q1
        exact ⟨_, rfl, h⟩
    · wp_walk using q1
      exact ⟨_, rfl, h⟩
theorem call_enum1 {prog : Program} {w : World} {A : Around} {E : Value → Shared → Prop} {s : Shared} {v : Value} {ob : Obj} {HH : Heap → Prop} {Q : Value → Shared → Prop} (B : Begins v ob HH) (hh : HH s.heap)
    (h : ∀ h', IsEnum h' (s.heap.objs.size + 1) s.heap.objs.size 0 .none → h'.get? s.heap.objs.size = some ob → (∀ b o, s.heap.get? b = some o → h'.get? b = some o) → Q (.ref (s.heap.objs.size + 1)) { s with heap := h' }) :
    wpAny (model prog w) A (call (.type "enumerate") [v]) Q E s := by
  refine callType_new F.called_enumerate (by decide) (F.typeCall_enumerate_1 _) (F.newCall_enumerate_1 _) (fun obj => F.args_object_init_2 obj _) F.entry_enumerate_new (new_enum1 B) ⟨hh, ?_⟩
  have hz : (s.heap.push ob).objs.size = s.heap.objs.size + 1 := Heap.size_push ..
  show _ ∧ _
  rw [hz]
  have he : IsEnum ((s.heap.push ob).push { cls := .type "enumerate", data := .fields #[.none, .bool false, .ref s.heap.objs.size, rawInt 0, .none, .none] }) (s.heap.objs.size + 1) s.heap.objs.size 0 .none := by
    have := Heap.get?_push_size (s.heap.push ob) (o := { cls := .type "enumerate", data := .fields #[.none, .bool false, .ref s.heap.objs.size, rawInt 0, .none, .none] }) rfl
    rw [hz] at this; exact this
  exact ⟨⟨_, he, rfl⟩, h _ he (Heap.get?_push_of_some _ (Heap.get?_push_size _ B.free)) fun b o y => Heap.get?_push_of_some _ (Heap.get?_push_of_some _ y)⟩
/-- the tuple at a, each item in a new pair -/
def Jte (K : PySem.W.Frag) (a : Addr) : It :=
  ⟨fun i H => ∃ (xs : List V) (x : V), SqT K H a xs ∧ xs[i]? = some x, fun i H v H' => ∃ T x, v = .ref T ∧ H T = none ∧ H' = upd H T (.tup [.int (i : Nat), x]) ∧ ∀ xs, SqT K H a xs → xs[i]? = some x, fun i H => ∃ xs : List V, SqT K H a xs ∧ xs.length ≤ i⟩
theorem turn_jte {P : Program} {w : World} {K : PySem.W.Frag} {elts : List Expr} {kk : Nat} {tpos : Pos} (a e it : Addr) :
    Turn P w K (.Tuple elts kk tpos) (Jte K a) [e, it] e (fun i h => (∃ old, IsEnum h e it ((i : Nat) : Int) old) ∧ h.IsTupleIter it a i ∧ e ≠ it) where
  mem := by simp
  obj := fun i h st b hb => by
    obtain ⟨⟨old, he⟩, ⟨o, ho, hc, hd⟩, _⟩ := st
    have e' : b = e ∨ b = it := by simpa using hb
    rcases e' with z | z
    · rw [z]; exact ⟨_, he, fun v q => nomatch q⟩
    · rw [z]; exact ⟨o, ho, fun v q => by rw [hd] at q; cases q⟩
  keep := fun i h h' st k => let ⟨⟨old, he⟩, hi, hne⟩ := st; ⟨⟨old, k e (by simp) _ he⟩, hi.at fun o q => k it (by simp) o q, hne⟩
  item := by
    intro X hP hw hK hc i pins s σ H E I hf st hg
    subst hP hw hK
    obtain ⟨⟨old, he⟩, hit, hne⟩ := st
    obtain ⟨xs, x, hq, hx⟩ := hg
    obtain ⟨its, rv, p, hz⟩ := I.tuple hq
    obtain ⟨u, hu, ru⟩ := rv.get hx
    have p' : s.heap.IsTuple a its.toArray := p
    have hel : e < s.heap.objs.size := Heap.lt_size he
    have hil : it < s.heap.objs.size := by obtain ⟨_, q, _⟩ := hit; exact Heap.lt_size q
    have nea : a ≠ e := fun z => by
      obtain ⟨o, q, _, n, d⟩ := p'
      rw [z, he] at q
      cases q
      cases d
    have nia : a ≠ it := fun z => by
      obtain ⟨o, q, c, n, d⟩ := p'
      obtain ⟨o2, q2, c2, d2⟩ := hit
      rw [z, q2] at q
      cases q
      rw [d2] at d
      cases d
    have hlt : i < its.toArray.size := by
      have := (List.getElem?_eq_some_iff.mp hu).1
      simpa using this
    refine wpAny_pyNext_enum_itemD (Draws.tuple (A := X.A.in1) (I.ok.hd hc) it a nia its.toArray) he ⟨hit, p'⟩ hlt hne (by simp [hne, Ne.symm nea]) fun y h' tk hy ho st' hT hsz hk => ?_
    have hyu : y = u := by
      have : its.toArray[i]? = some u := by simpa using hu
      rw [this] at hy
      cases hy; rfl
    subst hyu
    refine ⟨_, rfl, wpAny_letOwnedTupleGo_enum (s := { s with heap := h', toks := tk + 1 }) ho fun h'' he' sb => ?_⟩
    have hT2 : h''.get? s.heap.objs.size = some { cls := .type "tuple", data := .seq #[.int i tk, y] } := (sb.2 _ (Nat.ne_of_gt hel)).trans hT
    have new : ObjOk X.prog X.w (upd H s.heap.objs.size (.tup [.int (i : Nat), x])) h'' s.heap.objs.size (.tup [.int (i : Nat), x]) :=
      ⟨by show 2 ≤ sizeLine; decide, [.int i tk, y], .cons ⟨_, rfl⟩ (.cons ru .nil), ⟨_, hT2, rfl, _, rfl⟩⟩
    have I1 : Inv X pins σ (upd H s.heap.objs.size (.tup [.int (i : Nat), x])) { s with heap := h'', toks := tk + 1 } :=
      I.turnedNew (ch := [e, it]) (fun b ob hb q => (sb.2 b (fun z => hb (by simp [z]))).trans (hk b ob (fun z => hb (by simp [z])) (fun z => hb (by simp [z])) q)) hf (Nat.le_refl _) new
    refine ⟨.ref s.heap.objs.size, _, I1, rfl, ⟨_, x, rfl, I.hok.fresh (Nat.le_refl _), rfl, fun ys hy => by rw [I.tuple_inj hy hq]; exact hx⟩, ⟨⟨y, ?_⟩, st'.1.at fun o q => (sb.2 it (Ne.symm hne)).trans q, hne⟩, fun b hb => ?_⟩
    · have e1 : ((i + 1 : Nat) : Int) = (i : Int) + 1 := by omega
      rw [e1]; exact he'
    · have hb' : b < s.heap.objs.size := by
        have e' : b = e ∨ b = it := by simpa using hb
        rcases e' with z | z
        · rw [z]; exact hel
        · rw [z]; exact hil
      rw [upd_ne (Nat.ne_of_lt hb')]
      exact (hf b hb).1
  done := by
    intro X hP hw hK hc i pins s σ H E I hf st hg
    subst hP hw hK
    obtain ⟨⟨old, he⟩, hit, hne⟩ := st
    obtain ⟨xs, hq, hx⟩ := hg
    obtain ⟨its, rv, p, hz⟩ := I.tuple hq
    have p' : s.heap.IsTuple a its.toArray := p
    have nia : a ≠ it := fun z => by
      obtain ⟨o, q, c, n, d⟩ := p'
      obtain ⟨o2, q2, c2, d2⟩ := hit
      rw [z, q2] at q
      cases q
      rw [d2] at d
      cases d
    obtain ⟨f0, f1, f2, f3, f4, f5⟩ := hf it (by simp)
    have hl := rv.length
    have D0 : Draws X.prog X.w X.A.in1 it [it, a] i (fun _ _ => True) (fun j h => j = i ∧ h.IsTupleIter it a i ∧ h.IsTuple a its.toArray) := {
      live := fun _ _ st => let ⟨o, ho, _⟩ := st.2.1; ⟨o, ho⟩
      frame := fun _ _ _ st hk => ⟨st.1, st.2.1.at fun o e => hk it (by simp) o e, st.2.2.at fun o e => hk a (by simp) o e⟩
      item := fun j s Q E hi st hQ => absurd st.1 (by omega)
      done := fun s Q E st hE => wpAny_nextOf_tuple_end (A := X.A.in1) (I.ok.hd hc) st.2.1 st.2.2 (by simp; omega) hE }
    exact wpAny_pyNext_enum_endD D0 he ⟨rfl, hit, p'⟩ fun h' eb => ⟨rfl, I.turned (t' := s.toks) (fun b o hb q => eb b o hb q) f0 f1 f3 f4 f5⟩
  self := fun A i s Q E st h => let ⟨⟨_, he⟩, _⟩ := st; wpAny_pyIter_enum he h

theorem pi_jte {X : Cx} {e : Expr} {ta : TA} {p pos tpos : Pos} {elts : List Expr} {kk : Nat} (hg : Gl X "enumerate") (hm : X.mg "enumerate" = none) (ha : PA X [e] ta) (hs : starEach [e] X.env = [(false, eval e X.env)] := by rfl) :
    PI X (.Tuple elts kk tpos) (.Call (.Name "enumerate" p) [e] [] pos) (fun σ H R => ta σ H fun vs H1 => ∃ a xs, vs = [.ref a] ∧ SqT X.K H1 a xs ∧ R (Jte X.K a) H1) := by
  refine ⟨fun pins s σ H R I h => ?_⟩
  refine Call_ (ld_blt I hg hm boot_enumerate (PyProof.Rows.callWith_type1 (thn (ha.run pos pins s σ H _ I h) fun us s1 ⟨vs, H1, I1, r1, q1⟩ => ?_) hs rfl))
  obtain ⟨a, xs, ex, hq, q⟩ := q1
  subst ex
  cases r1 with
  | cons r rr =>
    cases rr
    cases r
    obtain ⟨its, rv, p', hz⟩ := I1.tuple hq
    refine call_enum1 (begins_tuple a its.toArray) (show s1.heap.IsTuple a its.toArray from p') fun h' he hit hk => wpAny_pyIter_enum he ?_
    have I2 : Inv X pins σ H1 { s1 with heap := h' } := I1.kept (t' := s1.toks) hk
    refine ⟨s1.heap.objs.size + 1, [s1.heap.objs.size + 1, s1.heap.objs.size], _, _, H1, rfl, I2, turn_jte a (s1.heap.objs.size + 1) s1.heap.objs.size, ⟨⟨.none, he⟩, ⟨_, hit, rfl, rfl⟩, Nat.succ_ne_self _⟩, fun b hb => ?_, q⟩
    have e' : b = s1.heap.objs.size + 1 ∨ b = s1.heap.objs.size := by simpa using hb
    have hle : s1.heap.objs.size ≤ b := by
      rcases e' with z | z
      · rw [z]; exact Nat.le_add_right _ _
      · rw [z]; exact Nat.le_refl _
    exact I1.fpOk hle (I1.hok.fresh hle)
def enumD (ds : List D) : List D := (List.range ds.length).map fun (i : Nat) => .tup [.int (i : Int), ds.getD i .non]
def srcE (_ : Sto) : W → Option Src
  | .d (.tup ds) => some (.its ((enumD ds).map W.d))
  | _ => none
theorem jte_ok {K : PySem.W.Frag} {F : Addr → Prop} {μ : List Addr} {S : Sto} {H : Hp} {a : Addr} {vs : List V} {ds : List D} (h1 : SqT K H a vs) (h2 : RepDs K (NF F μ S) H ds vs) : ItOk K F μ S H (Jte K a) (.its ((enumD ds).map W.d)) := fun F2 μ2 S2 H2 gz i r hr => by
  obtain ⟨p, _, g, rs⟩ := gz
  cases hr
  have l2 := g.tup h1
  have r2 : RepWs K μ2 (NF F2 μ2 S2) H2 (ds.map W.d) vs := (rep_map h2).mono g p
  have hl := r2.length
  rw [List.length_map] at hl
  by_cases hi : i < ds.length
  · have e : (ds.map W.d)[i]? = some (W.d (ds.getD i .non)) := by
      rw [List.getElem?_map, List.getD_eq_getElem?_getD, List.getElem?_eq_getElem hi]; rfl
    obtain ⟨v, e1, e2⟩ := r2.get e
    have ee : ((enumD ds).map W.d)[i]? = some (W.d (.tup [.int (i : Int), ds.getD i .non])) := by
      unfold enumD
      rw [List.getElem?_map, List.getElem?_map, List.getElem?_range hi]; rfl
    rw [ee]
    refine ⟨⟨vs, v, l2, e1⟩, fun x H3 ⟨T, y, hx, hn, hu, hy⟩ => ?_⟩
    subst hx hu
    have := hy vs l2
    rw [e1] at this
    cases this
    have f : Fr H2 (upd H2 T (.tup [.int (i : Nat), v])) := Fr.upd hn
    refine ⟨f, dtup.mpr ⟨T, _, rfl, .inl (.inl upd_same), ?_⟩⟩
    rw [RepDs]
    refine ⟨_, _, rfl, by rw [RepD], ?_⟩
    rw [RepDs]
    refine ⟨_, _, rfl, ?_, by rw [RepDs]⟩
    exact (e2.mono (f.gs rs).go (f.gs rs).pre : RepW K μ2 (NF F2 μ2 S2) _ (W.d (ds.getD i .non)) v)
  · rw [List.getElem?_eq_none (by rw [List.length_map]; unfold enumD; rw [List.length_map, List.length_range]; omega)]
    exact ⟨vs, l2, by omega⟩
theorem mi_enum {X : Cx} {e : Expr} {me : Em} {p pos tpos : Pos} {elts : List Expr} {kk : Nat} (hg : Gl X "enumerate") (hm : X.mg "enumerate" = none) (h : ME X e me) (hs : starEach [e] X.env = [(false, eval e X.env)] := by rfl) :
    MI X (.Tuple elts kk tpos) (.Call (.Name "enumerate" p) [e] [] pos) (isrc srcE me) := PI.cons (pi_jte hg hm (ma_cons h ma_nil hs) hs) fun σ H R ⟨F, μ, ρ, S, src, S', rs, rst, h, k⟩ => by
  obtain ⟨⟨w, S1⟩, e1, h⟩ := bind_some h
  obtain ⟨s, e2, h⟩ := bind_some h
  cases h
  refine ⟨F, μ, ρ, S, [w], S1, rs, rst, by show (me ρ S).bind _ = _; rw [e1]; rfl, fun μ1 vs H1 g q => ?_⟩
  obtain ⟨v, rfl, q1⟩ := rep1 q
  cases w with
  | d x =>
    cases x with
    | tup ds =>
      cases e2
      obtain ⟨a, us, e, h1, h2⟩ := dtup.mp q1
      exact ⟨a, us, by rw [e], h1, k μ1 _ H1 g (jte_ok h1 h2)⟩
    | _ => cases e2
  | ref kk => cases e2
  | op _ => cases e2
/-! ### o.index(x), ints -/
def idxI (y : Int) : List Int → Option Nat
  | [] => none
  | x :: r => if x = y then some 0 else (idxI y r).map (· + 1)
theorem idxI_ok {y : Int} : ∀ {ns : List Int} {j : Nat}, idxI y ns = some j → ns[j]? = some y ∧ ∀ m z, m < j → ns[m]? = some z → z ≠ y
  | [], j, h => by cases h
  | x :: r, j, h => by
    unfold idxI at h
    split at h
    · rename_i e
      cases h
      exact ⟨by rw [e]; rfl, fun m z hm => absurd hm (by omega)⟩
    · rename_i e
      obtain ⟨i, e1, rfl⟩ := Option.map_eq_some_iff.mp h
      obtain ⟨q1, q2⟩ := idxI_ok e1
      refine ⟨q1, fun m z hm hz => ?_⟩
      cases m with
      | zero => cases hz; exact e
      | succ m => exact q2 m z (by omega) hz
def midx (mo : Em) (ms : Am) : Em := fun ρ S => (mo ρ S).bind fun p => (listW p.2 p.1).bind fun _ => (ms ρ p.2).bind fun q => match q.1 with
  | [.d (.int y)] => (listW q.2 p.1).bind fun ws => (intsW ws).bind fun ns => (idxI y ns).bind fun j => some (.d (.int (j : Int)), q.2)
  | _ => none
theorem me_index {X : Cx} {o e : Expr} {es : List Expr} {mo : Em} {ms : Am} {apos cpos : Pos} (ho : ME X o mo) (ha : MA X (e :: es) ms)
    (hbase : attributeBase o "index" X.env (eval o X.env) = eval o X.env := by rfl)
    (hfew : ((backTo cpos (starEach (e :: es) X.env)).all (fun x => !x.1) && (backToKw cpos (keywordEach [] X.env)).all (fun x => x.1.isSome)
      && decide ((e :: es).length + ([] : List Keyword).length + (if ([] : List Keyword).isEmpty then 0 else 1) < 30)) = true := by rfl)
    (hline : (apos.endLine == cpos.line) = true := by rfl) (hs : starEach (e :: es) X.env = (false, eval e X.env) :: starEach es X.env := by rfl) (hplain : (backTo cpos (starEach es X.env)).any (·.1) = false := by rfl) : ME X (.Call (.Attribute o "index" apos) (e :: es) [] cpos) (midx mo ms) :=
  PE.cons (pe_bm PySem.F.plainAttrs_list PySem.F.slot_list_index PySem.F.type_list_index mt_index ho ha hbase hfew hline hs hplain) fun σ H Q ⟨F, μ, ρ, S, w, S', rs, rst, h, k⟩ => by
    obtain ⟨⟨w1, S1⟩, e1, h⟩ := bind_some h
    obtain ⟨ws0, e2, h⟩ := bind_some h
    obtain ⟨⟨as, S2⟩, e3, h⟩ := bind_some h
    refine ⟨F, μ, ρ, S, w1, S1, rs, rst, e1, fun μ1 v H1 g1 q1 => ?_⟩
    obtain ⟨a, xs0, rfl, hq0, _⟩ := list_rep g1.rs e2 q1
    refine ⟨.inl ⟨rfl, _, hq0⟩, F, μ1, ρ, S1, as, S2, g1.rs, rst.mono g1.go g1.pre, e3, fun μ2 vs H2 g2 q2 => ?_⟩
    dsimp only at h
    split at h
    · rename_i y
      obtain ⟨ws, e4, h⟩ := bind_some h
      obtain ⟨ns, e5, h⟩ := bind_some h
      obtain ⟨j, e6, h⟩ := bind_some h
      cases h
      obtain ⟨u, rfl, q3⟩ := rep1 q2
      cases dint.mp q3
      obtain ⟨a', xs, ea, hq, hr⟩ := list_rep g2.rs e4 (q1.mono g2.go g2.pre)
      cases ea
      have hx := ints_rep e5 hr
      subst hx
      obtain ⟨i1, i2⟩ := idxI_ok e6
      refine ⟨a, _, .int y, j, .int y, rfl, rfl, hq, rfl, ?_, by rw [List.getElem?_map, i1]; rfl, by simp [eqV], fun m z hm hz => ?_, k μ2 _ H2 (g1.trans g2) (dint.mpr rfl)⟩
      · rw [List.all_map, List.all_eq_true]
        exact fun _ _ => rfl
      · rw [List.getElem?_map] at hz
        obtain ⟨t, t1, rfl⟩ := Option.map_eq_some_iff.mp hz
        have := i2 m t hm t1
        simp [eqV, this]
    · cases h
@[simp] theorem midx_ap {ρ : Rho} {S : Sto} {mo : Em} {ms : Am} : midx mo ms ρ S = (mo ρ S).bind fun p => (listW p.2 p.1).bind fun _ => (ms ρ p.2).bind fun q => match q.1 with
  | [.d (.int y)] => (listW q.2 p.1).bind fun ws => (intsW ws).bind fun ns => (idxI y ns).bind fun j => some (.d (.int (j : Int)), q.2)
  | _ => none := nr rfl
end GM

set_option Elab.async false
set_option linter.all false
set_option maxRecDepth 100000
set_option maxHeartbeats 4000000
set_option autoImplicit false
namespace GM
open PySem L2 PyProof.Rows
/-! ### max(xs, default=d), ints -/
def rMxD (K : PySem.W.Frag) (d : Int) : List V → List V → Hp → VK → Prop := fun vs zs H Q => ∃ (a : Addr) (ns : List Int), vs = [V.ref a] ∧ zs = [.int d] ∧ SqL K H a (ns.map V.int) ∧ Q (.int (ns.max?.getD d)) H
theorem alike_iws (ns : List Int) : PySem.W.AlikeAll (ns.map PyData.int) := ⟨fun x hx y hy => by
  obtain ⟨i, _, rfl⟩ := List.mem_map.mp hx
  obtain ⟨j, _, rfl⟩ := List.mem_map.mp hy
  rfl, fun x hx => by
  obtain ⟨i, _, rfl⟩ := List.mem_map.mp hx
  exact fun z => nomatch z⟩
theorem dpAll_iws {K : PySem.W.Frag} {H : Hp} : ∀ ns : List Int, DpAll K H (ns.map V.int) (ns.map PyData.int)
  | [] => .nil
  | i :: r => .cons (.int i) (dpAll_iws r)
theorem cr_mxD {X : Cx} {d : Int} {j : Nat} (hr : Room j X.A) (hc : X.calm = true) : CallRK X (.builtin "max") [Str.ofString "default"] (rMxD X.K d) := by
  intro pins s σ H vs zs us ws Q I r rz h
  obtain ⟨a, ns, rfl, rfl, hs, q⟩ := h
  obtain rfl := Vals.ref1 r
  obtain ⟨w1, rfl, t, rfl⟩ := vals1 rz
  obtain ⟨its, rv, hl, hz⟩ := I.list hs
  obtain ⟨as, rd⟩ := Dp.readsAll I _ _ _ (dpAll_iws ns) rv
  refine PySem.W.max_list_default (I.ok.hd hc) hl.isList (xs := ns.map PyData.int) (as := as) (by simpa using rd) (alike_iws ns) ?_ (fun he h' tk hk => ?_) (fun y ys i v h' tk bs he hv hrd hk => ?_)
  · have := hr.un
    have e : PyData.depthAll (ns.map PyData.int) = 0 := by
      clear rd rv hs q r hz
      induction ns with
      | nil => simp [PyData.depthAll]
      | cons x r ih => rw [List.map_cons, PyData.depthAll, ih]; simp [PyData.depth]
    rw [e]
    omega
  · have : ns = [] := by simpa using he
    subst this
    exact ⟨.int d, H, I.kept (t' := tk) hk, ⟨_, rfl⟩, q⟩
  · cases ns with
    | nil => cases he
    | cons n r =>
      have e1 : y = .int n := (List.cons.inj he).1.symm
      have e2 : ys = r.map PyData.int := (List.cons.inj he).2.symm
      subst e1 e2
      rw [PySem.W.maxD_ints] at hrd
      cases hrd with
      | int _ t => exact ⟨.int (r.foldl max n), H, I.kept (t' := tk) hk, ⟨_, rfl⟩, by
          have : (n :: r).max?.getD d = r.foldl max n := by rw [List.max?_cons']; rfl
          rw [← this]; exact q⟩
def fMaxLD (d : Int) := fInts fun ns => some (.d (.int (ns.max?.getD d)))
theorem mc_maxD {X : Cx} {e : Expr} {m : Em} {p pos kp cp : Pos} {d : Int} {j c : Nat} (B : Bl X.mg) (hr : Room j X.A) (hc : X.calm = true) (h : ME X e m) (hg : Gl X "max" := by rfl)
    (hs : starEach [e] X.env = (false, eval e X.env) :: starEach [] X.env := by rfl) (he : backTo pos (starEach [e] X.env) = (false, eval e X.env) :: backTo pos (starEach [] X.env) := by rfl) (hpl : (backTo pos (starEach [e] X.env)).any (·.1) = false := by rfl)
    (hall : (backToKw pos (keywordEach [⟨some "default", .Constant (.int d) c cp, kp⟩] X.env)).all (·.1.isSome) = true := by rfl) (hnone : (backToKw pos (keywordEach [⟨some "default", .Constant (.int d) c cp, kp⟩] X.env)).any (·.1.isNone) = false := by rfl) (hks : (backToKw pos (keywordEach [⟨some "default", .Constant (.int d) c cp, kp⟩] X.env)).filterMap (·.1) = [Str.ofString "default"] := by rfl) :
    ME X (.Call (.Name "max" p) [e] [⟨some "default", .Constant (.int d) c cp, kp⟩] pos) (prim (fMaxLD d) (acons m anil)) :=
  PE.cons (pe_callBK (cr_mxD hr hc) hg B.max (by decide +kernel) (ma_cons h ma_nil hs) (pk_cons pe_int pk_nil) (by decide) (by decide) he hpl hall hnone hks) fun σ H Q ⟨F, μ, ρ, S, w, S', rs, rst, h, k⟩ => by
    obtain ⟨⟨ws, S1⟩, e1, h⟩ := bind_some h
    obtain ⟨w', e2, h⟩ := bind_some h
    cases h
    refine ⟨F, μ, ρ, S, ws, S1, rs, rst, e1, fun μ1 vs H1 g q => ?_⟩
    obtain ⟨a, ns, rfl, hs, h3⟩ := fInts_inv g.rs e2 q
    cases h3
    exact ⟨a, ns, rfl, rfl, hs, k μ1 _ H1 g (dint.mpr rfl)⟩
/-! ### a, b = x, y -/
def bpar (i j : Nat) (ms : Am) : Bm := fun ρ S => (ms ρ S).bind fun p => match p.1 with
  | [v, w] => some (.nx ((ρ.set i (some v)).set j (some w)) p.2)
  | _ => none
theorem ms_par (i j : Nat) {X : Cx} {x y : Str} {a b : Expr} {ms : Am} {px py pt pt2 pos : Pos} {kt k2 : Nat} (hN : X.N.Nodup) (ha : MA X [a, b] ms) (hc : X.calm = true := by rfl) (hi : X.N[i]? = some x := by rfl) (hj : X.N[j]? = some y := by rfl) (hij : i ≠ j := by decide)
    (hx : X.env.scope.names.lookup x = some .local := by rfl) (hy : X.env.scope.names.lookup y = some .local := by rfl)
    (hw : swappedStores [.Tuple [.Name x px, .Name y py] kt pt] (.Tuple [a, b] k2 pt2) X.env = pure (some [x, y]) := by rfl)
    (hs : swapsWithSole [.Tuple [.Name x px, .Name y py] kt pt] (.Tuple [a, b] k2 pt2) pos.line X.env = pure false := by rfl) :
    MS X (.Assign [.Tuple [.Name x px, .Name y py] kt pt] (.Tuple [a, b] k2 pt2) pos) (bpar i j ms) := PS.cons (ps_par hc hN hi hj hij hx hy ha hw hs) fun D σ H ⟨F, μ, ρ, S, o, rs, rst, h, k⟩ => by
  obtain ⟨⟨ws, S1⟩, e1, h⟩ := bind_some h
  refine ⟨F, μ, ρ, S, ws, S1, rs, rst, e1, fun μ' vs H' g q => ?_⟩
  dsimp only at h
  split at h
  · rename_i v w
    cases h
    obtain ⟨v1, w1, rfl, q1, q2⟩ := rep2 q
    exact ⟨v1, w1, rfl, k μ' _ H' g (((rst.mono g.go g.pre).set q1).set q2)⟩
  · cases h
@[simp] theorem bpar_ap {i j : Nat} {ms : Am} {ρ : Rho} {S : Sto} : bpar i j ms ρ S = (ms ρ S).bind fun p => match p.1 with
  | [v, w] => some (.nx ((ρ.set i (some v)).set j (some w)) p.2)
  | _ => none := nr rfl
end GM

set_option Elab.async false
set_option linter.all false
set_option maxRecDepth 100000
set_option maxHeartbeats 4000000
set_option autoImplicit false
namespace GM
open PySem L2
/-! ### dicts: {}, setdefault, a comprehension over values() -/
def dctOf (S : Sto) (k : Nat) : Option (List (D × W)) := match S[k]? with
  | some (.dct kvs) => some kvs
  | _ => none
theorem dctOf_some {S : Sto} {k : Nat} {kvs : List (D × W)} (h : dctOf S k = some kvs) : S[k]? = some (.dct kvs) := by
  unfold dctOf at h
  split at h
  · rename_i e; cases h; exact e
  · cases h
theorem dctOf_eq {S : Sto} {k : Nat} {kvs : List (D × W)} (h : S[k]? = some (.dct kvs)) : dctOf S k = some kvs := by unfold dctOf; rw [h]
def dget (kvs : List (D × W)) (k : D) : Option W := (kvs.find? fun p => decide (keyD p.1 = keyD k)).map (·.2)
def mdnew : Em := fun _ S => some (.ref S.length, S ++ [.dct []])
def mdsetd (mo my mx : Em) : Em := fun ρ S => (mo ρ S).bind fun p => match p.1 with
  | .ref k => (dctOf p.2 k).bind fun _ => (my ρ p.2).bind fun q => (mx ρ q.2).bind fun r => match q.1 with
    | .d key => (keyD key).bind fun _ => (dctOf r.2 k).bind fun kvs => if kvs.length ≤ 1000000 then (match dget kvs key with
      | some w => some (w, r.2)
      | none => some (r.1, r.2.set k (.dct (kvs ++ [(key, r.1)])))) else none
    | _ => none
  | _ => none
def mcompV (i : Nat) (g : Gm) (c : Tm) (e : Em) (vs : List Nat) : Am := fun ρ S => match ρ[i]? with
  | some (some (.ref k)) => (dctOf S k).bind fun kvs => (cloop (.its (kvs.map (·.2))) g c e (mwipe ρ vs) (kvs.map (·.2)).length 0 (S.set k .dead)).bind fun r => (lim r).bind fun q => some (q.1, q.2.set k (.dct kvs))
  | _ => none
section
variable {X : Cx} {K : PySem.W.Frag} {F : Addr → Prop} {μ μ' : List Addr} {N N' : Addr → Prop} {S S' : Sto} {H H' : Hp} {pos : Pos}
theorem me_dnew : ME X (.Dict [] [] pos) mdnew := PE.cons pe_dnewK fun σ H Q ⟨F, μ, ρ, S, w, S', rs, rst, h, k⟩ p hp => by
  cases h
  have g := Gs.cell (p := p) (o := .dK []) (c := .dct []) rs hp (fun z => nomatch z) fun {N'} gg => ⟨[], upd_same, .nil⟩
  refine k _ _ _ g ⟨p, ?_, rfl⟩
  rw [← rs.len, List.getElem?_append_right (Nat.le_refl _), Nat.sub_self]
  rfl
theorem key_rep {d : D} {k : Key} {v : V} (h : keyD d = some k) (q : RepW K μ N H (.d d) v) : v = kV k := by
  have q' : RepD K N H d v := q
  cases d with
  | int i => cases h; rw [RepD] at q'; exact q'
  | str x => cases h; rw [RepD] at q'; exact q'
  | _ => cases h
/-- what a dict of the store says at a key -/
theorem dget_rep {R : W → V → Prop} : ∀ {kvs : List (D × W)} {es : List (Key × V)} {key : D} {k : Key}, Paired (fun (p : D × W) (q : Key × V) => keyD p.1 = some q.1 ∧ R p.2 q.2) kvs es → keyD key = some k →
    (∀ w, dget kvs key = some w → ∃ v, valV es k = some v ∧ R w v) ∧ (dget kvs key = none → valV es k = none)
  | _, _, key, k, .nil, hk => ⟨fun w h => (nomatch h), fun _ => rfl⟩
  | _, _, key, k, .cons (a := p) (b := q) ⟨h1, h2⟩ t, hk => by
    obtain ⟨i1, i2⟩ := dget_rep t hk
    by_cases e : q.1 = k
    · have e2 : keyD p.1 = keyD key := by rw [h1, hk, e]
      rw [valV_pos e]
      constructor
      · intro w hw
        unfold dget at hw
        rw [List.find?_cons_of_pos (by simpa using e2)] at hw
        cases hw
        exact ⟨_, rfl, h2⟩
      · intro hw
        unfold dget at hw
        rw [List.find?_cons_of_pos (by simpa using e2)] at hw
        cases hw
    · have e2 : ¬ keyD p.1 = keyD key := by rw [h1, hk]; exact fun z => e (by injection z)
      rw [valV_neg e]
      have e3 : ∀ l : List (D × W), dget (p :: l) key = dget l key := fun l => by unfold dget; rw [List.find?_cons_of_neg (by simpa using e2)]
      rw [e3]
      exact ⟨i1, i2⟩
theorem pairedSnoc {α β : Type} {R : α → β → Prop} {a : List α} {b : List β} {x : α} {y : β} (h : Paired R a b) (r : R x y) : Paired R (a ++ [x]) (b ++ [y]) := pairedAppend h (.cons r .nil)
theorem me_dsetd {o e f : Expr} {mo my mx : Em} {apos cpos : Pos} (ho : ME X o mo) (he : ME X e my) (hf : ME X f mx)
    (hbase : attributeBase o "setdefault" X.env (eval o X.env) = eval o X.env := by rfl)
    (hfew : ((backTo cpos (starEach [e, f] X.env)).all (fun x => !x.1) && (backToKw cpos (keywordEach [] X.env)).all (fun x => x.1.isSome)
      && decide (([e, f] : List Expr).length + ([] : List Keyword).length + (if ([] : List Keyword).isEmpty then 0 else 1) < 30)) = true := by rfl)
    (hline : (apos.endLine == cpos.line) = true := by rfl) (htr : backTo cpos (starEach [e, f] X.env) = [(false, eval e X.env), (false, eval f X.env)] := by rfl) :
    ME X (.Call (.Attribute o "setdefault" apos) [e, f] [] cpos) (mdsetd mo my mx) := PE.cons (pe_dsetd ho he hf ⟨hbase, hfew, hline, htr⟩) fun σ H Q ⟨F, μ, ρ, S, w, S', rs, rst, h, k⟩ => by
  obtain ⟨⟨w1, S1⟩, e1, h⟩ := bind_some h
  refine ⟨F, μ, ρ, S, w1, S1, rs, rst, e1, fun μ1 v H1 g1 q1 => ?_⟩
  cases w1 with
  | ref kk =>
    obtain ⟨kvs0, e2, h⟩ := bind_some (show (dctOf S1 kk).bind _ = some (w, S') from h)
    obtain ⟨⟨wk, S2⟩, e3, h⟩ := bind_some h
    obtain ⟨⟨wx, S3⟩, e4, h⟩ := bind_some h
    obtain ⟨a, h1, rfl⟩ := q1
    obtain ⟨es0, h2, _⟩ := g1.rs.at_ kk a _ h1 (dctOf_some e2)
    refine ⟨a, rfl, .inl ⟨es0, .inl h2⟩, F, μ1, ρ, S1, wk, S2, g1.rs, rst.mono g1.go g1.pre, e3, fun μ2 vk H2 g2 q2 => ⟨F, μ2, ρ, S2, wx, S3, g2.rs, (rst.mono g1.go g1.pre).mono g2.go g2.pre, e4, fun μ3 vx H3 g3 q3 => ?_⟩⟩
    cases wk with
    | d key =>
      obtain ⟨ky, e5, h⟩ := bind_some (show (keyD key).bind _ = some (w, S') from h)
      obtain ⟨kvs, e6, h⟩ := bind_some h
      have g23 := g2.trans g3
      have h3 : μ3[kk]? = some a := by
        obtain ⟨ν, rfl⟩ := g23.pre
        rw [List.getElem?_append_left (List.getElem?_eq_some_iff.mp h1).1]; exact h1
      obtain ⟨es, h4, h5⟩ := g3.rs.at_ kk a _ h3 (dctOf_some e6)
      have hkv := key_rep e5 (q2.mono g3.go g3.pre)
      split at h
      · rename_i hl
        obtain ⟨d1, d2⟩ := dget_rep h5 e5
        refine ⟨es, ky, h4, hkv, ?_, fun v hv => ?_, fun hv => ?_⟩
        · rw [← Paired.length h5]; exact lim_line hl
        · cases hd : dget kvs key with
          | some w' =>
            rw [hd] at h
            cases h
            obtain ⟨v', e7, q7⟩ := d1 _ hd
            rw [hv] at e7; cases e7
            exact k μ3 v H3 ((g1.trans g2).trans g3) q7
          | none => rw [d2 hd] at hv; cases hv
        · cases hd : dget kvs key with
          | some w' =>
            obtain ⟨v', e7, _⟩ := d1 w' hd
            rw [hv] at e7; cases e7
          | none =>
            rw [hd] at h
            cases h
            have p0 : ∃ ν, μ3 = μ3 ++ ν := ⟨[], (List.append_nil _).symm⟩
            have gw := Gs.write (o := .dK (putK es ky vx)) (c' := .dct (kvs ++ [(key, wx)])) g3.rs h3 (dctOf_some e6) (fun z => nomatch z) (fun z => nomatch z) fun {N'} gg => by
              refine ⟨es ++ [(ky, vx)], by rw [upd_same, putK_new vx hv], ?_⟩
              exact pairedSnoc (pairedMono (fun _ _ ⟨z1, z2⟩ => ⟨z1, RepW.mono gg p0 z2⟩) h5) ⟨e5, RepW.mono gg p0 q3⟩
            exact k μ3 vx _ (((g1.trans g2).trans g3).trans gw) (q3.mono gw.go gw.pre)
      · cases h
    | ref _ => cases h
    | op _ => cases h
  | d _ => cases h
  | op _ => cases h
/-! ### a locked dict -/
section
variable {d : Addr} {od : Obj} {es : List (Key × V)}
mutual
theorem RepD.relock (hd : H d = some (.frz od (.dK es))) (he : ∀ a o, H a = some o → a ≠ d → H' a = some o) (hN : ∀ a, N' a → N a ∨ a = d) : ∀ {x : D} {v : V}, RepD K N H x v → RepD K N' H' x v
  | .non, v, h => by rw [RepD] at h ⊢; exact h
  | .bl _, v, h => by rw [RepD] at h ⊢; exact h
  | .int _, v, h => by rw [RepD] at h ⊢; exact h
  | .str _, v, h => by rw [RepD] at h ⊢; exact h
  | .tup ds, v, h => by
    rw [RepD] at h ⊢
    obtain ⟨a, vs, e, h1, h2⟩ := h
    refine ⟨a, vs, e, ?_, RepDs.relock hd he hN h2⟩
    rcases h1 with (h1 | ⟨o, h1⟩) | h1
    · exact .inl (.inl (he _ _ h1 fun z => by rw [z, hd] at h1; cases h1))
    · exact .inl (.inr ⟨o, he _ _ h1 fun z => by rw [z, hd] at h1; cases h1⟩)
    · exact .inr h1
  | .lst ds, v, h => by
    rw [RepD] at h ⊢
    obtain ⟨a, vs, e, ⟨h1, n⟩, h2⟩ := h
    have ne : a ≠ d := fun z => by rw [z, hd] at h1; cases h1
    exact ⟨a, vs, e, ⟨he _ _ h1 ne, fun z => by rcases hN a z with z | z; exact n z; exact ne z⟩, RepDs.relock hd he hN h2⟩
  | .scr ds, v, h => by
    rw [RepD] at h ⊢
    obtain ⟨a, vs, e, h1, h2⟩ := h
    refine ⟨a, vs, e, ?_, RepDs.relock hd he hN h2⟩
    rcases h1 with ⟨o, h1⟩ | h1
    · exact .inl ⟨o, he _ _ h1 fun z => by rw [z, hd] at h1; cases h1⟩
    · exact .inr h1
theorem RepDs.relock (hd : H d = some (.frz od (.dK es))) (he : ∀ a o, H a = some o → a ≠ d → H' a = some o) (hN : ∀ a, N' a → N a ∨ a = d) : ∀ {xs : List D} {vs : List V}, RepDs K N H xs vs → RepDs K N' H' xs vs
  | [], vs, h => by rw [RepDs] at h ⊢; exact h
  | x :: xs, vs, h => by
    rw [RepDs] at h ⊢
    obtain ⟨v, r, e, h1, h2⟩ := h
    exact ⟨v, r, e, RepD.relock hd he hN h1, RepDs.relock hd he hN h2⟩
end
theorem RepW.relock (hd : H d = some (.frz od (.dK es))) (he : ∀ a o, H a = some o → a ≠ d → H' a = some o) (hN : ∀ a, N' a → N a ∨ a = d) : ∀ {w : W} {v : V}, RepW K μ N H w v → RepW K μ N' H' w v
  | .d x, v, h => RepD.relock hd he hN h
  | .ref _, v, h => h
  | .op _, v, h => h
end
theorem na_dead {k : Nat} {a : Addr} : NA μ (S.set k .dead) a → NA μ S a := fun ⟨j, c, h1, h2, h3⟩ => by
  by_cases e : k = j
  · subst e
    by_cases hl : k < S.length
    · rw [List.getElem?_set_self hl] at h2; cases h2; exact absurd rfl h3
    · rw [List.getElem?_eq_none (by simpa using hl)] at h2; cases h2
  · rw [List.getElem?_set_ne e] at h2; exact ⟨j, c, h1, h2, h3⟩
/-- a dict is locked -/
theorem RS.lock {k : Nat} {d : Addr} {od : Obj} {es : List (Key × V)} {kvs : List (D × W)} (r : RS K F μ S H) (hk : μ[k]? = some d) (hc : S[k]? = some (.dct kvs)) (hd : H d = some (.dK es)) :
    RS K F μ (S.set k .dead) (upd H d (.frz od (.dK es))) ∧ Go (fun a => a = d) (NF F μ S) (NF F μ (S.set k .dead)) H (upd H d (.frz od (.dK es))) := by
  have hN : NA μ S d := ⟨k, _, hk, hc, fun z => nomatch z⟩
  have nF : ∀ b, F b → b ≠ d := fun b h z => r.fd b h (z ▸ hN)
  have g : Go (fun a => a = d) (NF F μ S) (NF F μ (S.set k .dead)) H (upd H d (.frz od (.dK es))) := ⟨fun a o e n => by rw [upd_ne n]; exact e, fun a h => .inl (h.imp na_dead id), fun a h => by subst h; exact r.mut _ hN, fun a h => by subst h; exact .inl hN⟩
  have old : ∀ {j : Nat} {c : Cell}, (S.set k .dead)[j]? = some c → c ≠ .dead → j ≠ k ∧ S[j]? = some c := fun {j c} h n => by
    by_cases e : k = j
    · subst e
      rw [List.getElem?_set_self (List.getElem?_eq_some_iff.mp hc).1] at h; cases h; exact absurd rfl n
    · rw [List.getElem?_set_ne e] at h; exact ⟨Ne.symm e, h⟩
  refine ⟨⟨by rw [List.length_set]; exact r.len, fun i j a c c' h1 h2 h3 h4 n1 n2 => r.inj i j a c c' h1 h2 (old h3 n1).2 (old h4 n2).2 n1 n2, fun j a c h1 h2 => ?_, fun a h => by rw [upd_ne (nF a h)]; exact r.fm a h, fun a h z => r.fd a h (na_dead z)⟩, g⟩
  by_cases n : c = .dead
  · subst n; trivial
  · obtain ⟨jk, h2⟩ := old h2 n
    have na : a ≠ d := fun z => by subst z; exact jk (r.inj j k a _ _ h1 hk h2 hc n (fun z => nomatch z))
    exact (r.at_ j a c h1 h2).mono g ⟨[], by simp⟩ fun o e => by rw [upd_ne na]; exact e
/-- .. and what was done meanwhile stands when it is open again -/
theorem Gs.locked {k : Nat} {d : Addr} {od : Obj} {es : List (Key × V)} {kvs : List (D × W)} {S2 : Sto} {H2 : Hp} (r : RS K F μ S H) (hk : μ[k]? = some d) (hc : S[k]? = some (.dct kvs)) (hd : H d = some (.dK es)) (hp : Paired (fun (p : D × W) (q : Key × V) => keyD p.1 = some q.1 ∧ RepW K μ (NF F μ S) H p.2 q.2) kvs es)
    (g : Gs K F μ (S.set k .dead) (upd H d (.frz od (.dK es))) μ' S2 H2) : H2 d = some (.frz od (.dK es)) ∧ Gs K F μ S H μ' (S2.set k (.dct kvs)) (upd H2 d (.dK es)) ∧ ∀ w v, RepW K μ' (NF F μ' S2) H2 w v → RepW K μ' (NF F μ' (S2.set k (.dct kvs))) (upd H2 d (.dK es)) w v := by
  obtain ⟨rl, gl⟩ := RS.lock (od := od) r hk hc hd
  have hN : NA μ S d := ⟨k, _, hk, hc, fun z => nomatch z⟩
  have nF : ∀ b, F b → b ≠ d := fun b h z => r.fd b h (z ▸ hN)
  have ndl : ¬ NA μ (S.set k .dead) d := fun ⟨j, c, h1, h2, h3⟩ => by
    by_cases e : k = j
    · subst e
      rw [List.getElem?_set_self (List.getElem?_eq_some_iff.mp hc).1] at h2; cases h2; exact h3 rfl
    · rw [List.getElem?_set_ne e] at h2
      exact e (r.inj k j d _ _ hk h1 hc h2 (fun z => nomatch z) h3)
  have h2d : H2 d = some (.frz od (.dK es)) := g.go.ext d _ upd_same ndl
  have hk2 : μ'[k]? = some d := by
    obtain ⟨ν, rfl⟩ := g.pre
    rw [List.getElem?_append_left (List.getElem?_eq_some_iff.mp hk).1]; exact hk
  have hl2 : k < S2.length := by rw [← g.rs.len]; exact (List.getElem?_eq_some_iff.mp hk2).1
  have nd2 : ∀ {j : Nat} {c : Cell}, μ'[j]? = some d → S2[j]? = some c → c = .dead := fun {j c} h1 h2 => by
    by_cases n : c = .dead
    · exact n
    · rcases g.na d ⟨j, c, h1, h2, n⟩ with z | z
      · exact absurd z ndl
      · rw [upd_same] at z; cases z
  have at2 : ∀ {j : Nat} {c : Cell}, (S2.set k (.dct kvs))[j]? = some c → (j = k ∧ c = .dct kvs) ∨ (j ≠ k ∧ S2[j]? = some c) := fun {j c} h => by
    by_cases e : k = j
    · subst e; rw [List.getElem?_set_self hl2] at h; cases h; exact .inl ⟨rfl, rfl⟩
    · rw [List.getElem?_set_ne e] at h; exact .inr ⟨Ne.symm e, h⟩
  have na2 : ∀ a, NA μ' (S2.set k (.dct kvs)) a → NA μ' S2 a ∨ a = d := fun a ⟨j, c, h1, h2, h3⟩ => by
    rcases at2 h2 with ⟨rfl, rfl⟩ | ⟨_, h2⟩
    · rw [hk2] at h1; cases h1; exact .inr rfl
    · exact .inl ⟨j, c, h1, h2, h3⟩
  have he : ∀ a o, H2 a = some o → a ≠ d → upd H2 d (.dK es) a = some o := fun a o e n => by rw [upd_ne n]; exact e
  have hNN : ∀ a, NF F μ' (S2.set k (.dct kvs)) a → NF F μ' S2 a ∨ a = d := fun a h => by
    rcases h with h | h
    · exact (na2 a h).imp .inl id
    · exact .inl (.inr h)
  have rw_ : ∀ w v, RepW K μ' (NF F μ' S2) H2 w v → RepW K μ' (NF F μ' (S2.set k (.dct kvs))) (upd H2 d (.dK es)) w v := fun w v q => q.relock h2d he hNN
  have hna : ∀ a, NA μ' (S2.set k (.dct kvs)) a → NA μ S a ∨ H a = none := fun a h => by
    rcases na2 a h with h | rfl
    · rcases g.na a h with z | z
      · exact .inl (na_dead z)
      · by_cases e : a = d
        · subst e; exact .inl hN
        · rw [upd_ne e] at z; exact .inr z
    · exact .inl hN
  refine ⟨h2d, ⟨g.pre, ⟨fun a o e n => ?_, fun a h => ?_, r.mut, fun a h => .inl h⟩, hna, ?_⟩, rw_⟩
  · have ne : a ≠ d := fun z => n (z ▸ hN)
    exact he a o (g.go.ext a o (by rw [upd_ne ne]; exact e) fun z => n (na_dead z)) ne
  · rcases h with h | h
    · exact (hna a h).imp .inl id
    · exact .inl (.inr h)
  · refine ⟨by rw [List.length_set]; exact g.rs.len, fun i j a c c' h1 h2 h3 h4 n1 n2 => ?_, fun j a c h1 h2 => ?_, fun a h => by rw [upd_ne (nF a h)]; exact g.rs.fm a h, fun a h z => ?_⟩
    · rcases at2 h3 with ⟨rfl, rfl⟩ | ⟨a1, a2⟩ <;> rcases at2 h4 with ⟨rfl, rfl⟩ | ⟨b1, b2⟩
      · rfl
      · rw [hk2] at h1; cases h1; exact absurd (nd2 h2 b2) n2
      · rw [hk2] at h2; cases h2; exact absurd (nd2 h1 a2) n1
      · exact g.rs.inj i j a c c' h1 h2 a2 b2 n1 n2
    · rcases at2 h2 with ⟨rfl, rfl⟩ | ⟨jk, h2⟩
      · rw [hk2] at h1; cases h1
        refine ⟨es, upd_same, pairedMono (fun p q ⟨z1, z2⟩ => ⟨z1, ?_⟩) hp⟩
        exact rw_ _ _ ((z2.mono gl ⟨[], by simp⟩).mono g.go g.pre)
      · have q := g.rs.at_ j a c h1 h2
        cases c with
        | dead => trivial
        | lst ws =>
          obtain ⟨vs, q1, q2⟩ := q
          exact ⟨vs, he a _ q1 fun z => (by rw [z, h2d] at q1; cases q1), pairedMono (fun _ _ z => rw_ _ _ z) q2⟩
        | dct kk =>
          obtain ⟨vs, q1, q2⟩ := q
          exact ⟨vs, he a _ q1 fun z => (by rw [z, h2d] at q1; cases q1), pairedMono (fun _ _ ⟨z1, z2⟩ => ⟨z1, rw_ _ _ z2⟩) q2⟩
    · rcases na2 a z with z | z
      · exact g.rs.fd a h z
      · exact nF a h z
/-- the values of a locked dict, walked -/
theorem vals_ok {d : Addr} {od : Obj} {es : List (Key × V)} {ws : List W} (nd : ¬ NF F μ S d) (hd : H d = some (.frz od (.dK es))) (hp : RepWs K μ (NF F μ S) H ws (es.map (·.2))) : ItOk K F μ S H (Itd d od es) (.its ws) := fun F2 μ2 S2 H2 gz i r hr => by
  obtain ⟨p, _, g, rs⟩ := gz
  cases hr
  have h2 : H2 d = some (.frz od (.dK es)) := g.ext d _ hd nd
  have r2 : RepWs K μ2 (NF F2 μ2 S2) H2 ws (es.map (·.2)) := hp.mono g p
  cases e : ws[i]? with
  | none => exact ⟨h2, by have := r2.length; rw [List.length_map] at this; rw [← this]; exact List.getElem?_eq_none_iff.mp e⟩
  | some w =>
    obtain ⟨v, e1, e2⟩ := r2.get e
    rw [List.getElem?_map] at e1
    obtain ⟨⟨ky, v'⟩, e3, rfl⟩ := Option.map_eq_some_iff.mp e1
    refine ⟨⟨h2, (List.getElem?_eq_some_iff.mp e3).1⟩, fun x H3 ⟨y1, ky', y2⟩ => ?_⟩
    subst y1
    rw [e3] at y2; cases y2
    exact ⟨Fr.refl, e2⟩
theorem mf_compV {i : Nat} {x : Str} {elt tg : Expr} {ifs : List Expr} {scope : Scope} {own : List (Str × Nat)} {px apos cpos : Pos} {g : Gm} {T : List Nat} {c : Tm} {e : Em} (hc : X.calm = true) (hN : X.N.Nodup) (hx : PE X (.Name x px) (fun σ H Q => ∃ v, σ[i]? = some (some v) ∧ Q v H)) (ok : BlkOk X.N X.env.scope scope own) (hT : ∀ i ∈ T, i ∈ own.map (·.2))
    (hg : ∀ (s : Shared) (H : Hp) (C : Addr) (cl : List (Str × Addr)) (fp : List Addr), PG (X.blk s H scope (compEnvC scope cl C X.env) fp) tg (LG X.K g T)) (ht : ∀ (s : Shared) (H : Hp) (C : Addr) (cl : List (Str × Addr)) (fp : List Addr), PTs (X.blk s H scope (compEnvC scope cl C X.env) fp) ifs (LT X.K c))
    (he : ∀ (s : Shared) (H : Hp) (C : Addr) (cl : List (Str × Addr)) (fp : List Addr), PE (X.blk s H scope (compEnvC scope cl C X.env) fp) elt (LE X.K e))
    (hbase : attributeBase (.Name x px) "values" X.env (eval (.Name x px) X.env) = eval (.Name x px) X.env := by rfl) (hline : (apos.endLine == cpos.line) = true := by rfl)
    (hs : ∀ y, foldedSetIterable (.Call (.Attribute (.Name x px) "values" apos) [] [] cpos) X.env y = pure y := by intro _; rfl) :
    MF X (.ListComp elt [⟨tg, .Call (.Attribute (.Name x px) "values" apos) [] [] cpos, ifs, 0⟩] scope pos) (mcompV i g c e (own.map (·.2))) :=
  PE.cons (pe_lock (pe_lc hc hN (pi_values hx hbase hline) ok hg ht he hs)) fun σ H Q ⟨F, μ, ρ, S, ws, S', rs, rst, h, kq⟩ => by
    unfold mcompV at h
    split at h
    · rename_i k ek
      obtain ⟨kvs, e1, ha⟩ := bind_some h
      obtain ⟨r0, e2, hb⟩ := bind_some ha
      obtain ⟨q0, e3, hcc⟩ := bind_some hb
      obtain ⟨e4, hl⟩ := lim_some e3
      subst e4
      cases hcc
      obtain ⟨v0, ev, qv⟩ := rst.at_ i _ ek
      obtain ⟨d, hk, rfl⟩ := qv
      have hc' := dctOf_some e1
      obtain ⟨es, hd, hp⟩ := rs.at_ k d _ hk hc'
      refine ⟨d, .dK es, hd, trivial, fun od => ⟨.ref d, ev, d, od, es, rfl, upd_same, ?_⟩⟩
      obtain ⟨rl, gl⟩ := RS.lock (od := od) rs hk hc' hd
      have hNd : NA μ S d := ⟨k, _, hk, hc', fun z => nomatch z⟩
      have ndl : ¬ NF F μ (S.set k .dead) d := fun z => by
        rcases z with ⟨j, c', h1, h2, h3⟩ | z
        · by_cases e : k = j
          · subst e
            rw [List.getElem?_set_self (List.getElem?_eq_some_iff.mp hc').1] at h2; cases h2; exact h3 rfl
          · rw [List.getElem?_set_ne e] at h2
            exact e (rs.inj k j d _ _ hk h1 hc' h2 (fun z => nomatch z) h3)
        · exact rs.fd d z hNd
      have vals : RepWs X.K μ (NF F μ (S.set k .dead)) (upd H d (.frz od (.dK es))) (kvs.map (·.2)) (es.map (·.2)) := by
        have : ∀ {a : List (D × W)} {b : List (Key × V)}, Paired (fun (p : D × W) (q : Key × V) => keyD p.1 = some q.1 ∧ RepW X.K μ (NF F μ S) H p.2 q.2) a b → RepWs X.K μ (NF F μ (S.set k .dead)) (upd H d (.frz od (.dK es))) (a.map (·.2)) (b.map (·.2)) := by
          intro a b z
          induction z with
          | nil => exact .nil
          | cons z t ih => exact .cons (z.2.mono gl ⟨[], by simp⟩) ih
        exact this hp
      have ito : ItOk X.K F μ (S.set k .dead) (upd H d (.frz od (.dK es))) (Itd d od es) (.its (kvs.map (·.2))) := vals_ok ndl upd_same vals
      intro Dl hD
      have rstl : RSt X.K μ (NF F μ (S.set k .dead)) (upd H d (.frz od (.dK es))) σ ρ := rst.mono gl ⟨[], by simp⟩
      refine clause (K := X.K) (F := F) (D := Dl) (src := .its (kvs.map (·.2))) (ρ := ρ) (total := q0.1) (Sf := q0.2) (fun μ2 S2 H2 => Gx X.K F μ (S.set k .dead) (upd H d (.frz od (.dK es))) (Fp F Dl) μ2 S2 H2 ∧ Gz X.K F μ (S.set k .dead) (upd H d (.frz od (.dK es))) (Fp F Dl) μ2 S2 H2) hT (fun _ _ _ p => p.1.rs) (fun μ2 S2 H2 μ3 S3 H3 p gs => ⟨p.1.step gs, p.2.trans (gs.gz p.1.rs)⟩) (fun μ2 S2 H2 xs p => ⟨p.1.grown hD, p.2.trans (Gz.grown p.1.rs)⟩)
        (fun μ2 S2 H2 p => ito _ _ _ _ p.2) (fun μ2 S2 H2 p => (rstl.wipe _).mono p.1.go p.1.pre) hl (fun μ2 H2 vs' p hD2 q => ?_) (μ := μ) (S := S.set k .dead) (acc := []) (done := []) ⟨Gx.opened rl hD, Gz.opened rl hD⟩ upd_same .nil e2 rfl
      have gc := Gx.closed rl p.1 hD
      have hF : ¬ F Dl := fun z => mut_there (rl.fm Dl z) hD
      obtain ⟨f1, f2, f3⟩ := Gs.locked rs hk hc' hd hp gc
      have nDd : d ≠ Dl := fun z => by rw [z, less_self] at f1; cases f1
      refine ⟨by rw [← less_ne (H := H2) nDd]; exact f1, ?_⟩
      have qq : RepWs X.K μ2 (NF F μ2 q0.2) (less H2 Dl) q0.1 vs' := q.mono (p.1.rs.close hF).2 ⟨[], by simp⟩
      have fin := kq μ2 (upd (less H2 Dl) d (.dK es)) Dl vs' f2 (by rw [upd_ne (Ne.symm nDd)]; exact less_self) (pairedMono (fun _ _ z => f3 _ _ z) qq)
      have eH : upd (upd (less H2 Dl) d (.dK es)) Dl (.lst vs') = upd H2 d (.dK es) := by
        funext b
        by_cases b1 : b = Dl
        · subst b1; rw [upd_same, upd_ne (Ne.symm nDd)]; exact hD2.symm
        · rw [upd_ne b1]
          by_cases b2 : b = d
          · subst b2; rw [upd_same, upd_same]
          · rw [upd_ne b2, upd_ne b2, less_ne b1]
      rw [eH] at fin
      exact fin
    · cases h
end
end GM

set_option Elab.async false
set_option linter.all false
set_option maxRecDepth 100000
set_option maxHeartbeats 4000000
set_option autoImplicit false
/-! ### sorted(set(xs)), ints, any number of them -/
namespace GM
open PySem PySem.Spec PyProof.Rows L2
abbrev emptyS (w : World) : Obj := { cls := .type "set", dict := none, data := .set #[] 0 (.fresh 0 0 (!w.params.followText "set-order")) }
section
variable {P : Program} {w : World} {A : Around} {E : Value → Shared → Prop} {s : Shared}
set_option maxHeartbeats 3200000 in
theorem set_made {l : Addr} {xs : Array Value} (ns : List Int) {Q : Value → Shared → Prop} (noexc : A.handled = none) (isl : s.heap.IsList l xs) (are : IntsAre xs.toList ns) (few : ns.length + 1 < scanBound)
    (q : ∀ (g : Heap) (tk c : Nat), SetR w g s.heap.objs.size (fun j => decide (j ∈ ns)) c → c ≤ ns.length → (∀ b o, s.heap.get? b = some o → g.get? b = some o) → Q (.ref s.heap.objs.size) { s with heap := g, toks := tk }) :
    wpAny (model P w) A (call (.type "set") [.ref l]) Q E s := by
  have len : xs.size = ns.length := (Array.length_toList (xs := xs)).symm.trans are.length
  have C := F.called_set
  obtain ⟨c, tl, mr⟩ := C.mro
  have p1 := C.made; have p2 := C.sub; have p3 := C.notType; have p4 := C.canCreate
  have p5 := F.typeCall_set_1 (.ref l)
  refine wpAny_call (codeAny_of_tree (show wpAny _ _ (callAny (.type "set") _) _ _ _ from wpAny_pure ⟨Code.quiet_builtin _ (by decide +kernel), codeAny_builtin F.entry_type_call ?_⟩))
  rw [Around.under_plain (weight_type_call_type "set" [.ref l] []) rfl]
  repeat (any_goals (first | assumption | wp_step))
  refine codeAny_mono (code_set_led1 (.ref l) (E := E) (Q₁ := fun v s₁ => v = .ref s.heap.objs.size ∧ s₁ = { s with heap := s.heap.push (emptyS w) }) ⟨rfl, rfl⟩) fun r s₁ got => ?_
  cases r with
  | error e => exact got
  | ok fl => cases fl with
    | ret v =>
      obtain ⟨rfl, rfl⟩ := got
      have at0 : (s.heap.push (emptyS w)).get? s.heap.objs.size = some (emptyS w) := Heap.get?_push_size _ rfl
      have ty0 : Shared.TypeIs { s with heap := s.heap.push (emptyS w) } (.ref s.heap.objs.size) "set" := ⟨_, at0, rfl⟩
      have i1 := C.init.lookup
      have i2 := C.init.bind (.ref s.heap.objs.size)
      repeat (any_goals (first | assumption | wp_step))
      refine codeAny_mono (codeAny_call_builtin (R := wants (fun v s₂ => v = .none ∧ ∃ g tk c, s₂ = { s with heap := g, toks := tk } ∧ SetR w g s.heap.objs.size (fun j => decide (j ∈ ns)) c ∧ c ≤ ns.length ∧ ∀ b o, s.heap.get? b = some o → g.get? b = some o) E) C.init.plain F.entry_set_init (check_set_init_1 ty0 ?_)) fun r₂ s₂ got₂ => ?_
      · obtain ⟨⟨cl, di, da, sl⟩, ol, cll, nl, dal⟩ := isl
        dsimp only at cll dal
        subst cll dal
        have lt : l < s.heap.objs.size := Heap.lt_size ol
        have ol1 := Heap.get?_push_of_some (emptyS w) ol
        have il1 : (s.heap.push (emptyS w)).IsList l xs := ⟨_, ol1, rfl, nl, rfl⟩
        have u1 := PySem.F.sub_list_set
        have u2 := PySem.F.sub_list_frozenset
        have u3 : (Value.type "list" == Value.type "dict") = false := by decide
        unfold Builtin.«set.__init__» noKeywords Builtin.Frozenset.updateFrom
        generalize hPI : pyIter = PI
        wp_walk
        subst hPI
        have nx : A.in1.in1.in1.handled = none := by simp [noexc]
        have sz : (s.heap.push (emptyS w)).objs.size = s.heap.objs.size + 1 := Heap.size_push ..
        refine wpAny_pyIter_list il1 (wpAny_bind (wpAny_runValue ?_))
        have ne : l ≠ (s.heap.push (emptyS w)).objs.size := Nat.ne_of_lt (by rw [sz]; exact Nat.lt_succ_of_lt lt)
        refine set_update_ints ((Walks.list nx _ l ne xs).toS) s.heap.objs.size (by simp only [List.mem_cons, List.not_mem_nil, or_false, not_or]; exact ⟨by rw [sz]; exact Nat.ne_of_lt (Nat.lt_succ_self _), Nat.ne_of_gt lt⟩) ns len few (fun i v hv => ?_) (xs.size - 0) 0 _ (by omega) (Nat.zero_le _) ⟨⟨_, Heap.get?_push_size _ rfl, rfl, rfl⟩, il1.push _⟩ ⟨0, Nat.le_refl 0, setR_new_at (Heap.get?_push_of_some _ at0)⟩ fun u c mv cn su => ?_
        · have hi : i < ns.length := by have := (Array.getElem?_eq_some_iff.mp hv).1; omega
          obtain ⟨t, e⟩ := IntsAre.int_at are i v (by rw [Array.getElem?_toList]; exact hv)
          exact ⟨ns[i], t, List.getElem?_eq_getElem hi, by rw [e, List.getD_eq_getElem?_getD, List.getElem?_eq_getElem hi]; rfl⟩
        · have keep : ∀ b o, s.heap.get? b = some o → u.heap.get? b = some o := fun b o e => by
            have bl := Heap.lt_size e
            exact mv.heap b o (by simp only [List.mem_cons, List.not_mem_nil, or_false, not_or]; exact ⟨Nat.ne_of_lt bl, by rw [sz]; exact Nat.ne_of_lt (Nat.lt_succ_of_lt bl)⟩) (Heap.get?_push_of_some _ (Heap.get?_push_of_some _ e))
          have m1 := mv.gens; have m2 := mv.drawn; have m3 := mv.os
          obtain ⟨uh, ug, ud, ut, uo⟩ := u
          dsimp only at m1 m2 m3
          subst m1 m2 m3
          refine wpAny_pure (show wpAny _ _ (ret Value.none) _ _ _ from wpAny_pure ⟨rfl, uh, ut, c, rfl, su, ?_, keep⟩)
          omega
      · cases r₂ with
        | error e => exact got₂
        | ok f₂ => cases f₂ with
          | ret v =>
            obtain ⟨rfl, g, tk, c, rfl, z1, z2, z3⟩ := got₂
            repeat (any_goals (first | assumption | wp_step))
            exact q g tk c z1 z2 z3
          | _ => exact got₂.elim
    | _ => exact got.elim
/-- sorted(s) of such a set -/
theorem set_sorted {a : Addr} {S : Int → Bool} {n : Nat} {Q : Value → Shared → Prop} (R : SetR w s.heap a S n) (noexc : A.handled = none)
    (q : ∀ u p (out : Array Value) (c : Nat) (ns : List Int), (∀ b o, s.heap.get? b = some o → u.heap.get? b = some o) → u.gens = s.gens → u.os = s.os → s.heap.objs.size ≤ p → u.heap.get? p = some (seqObj "list" out c) → IntsAre out.toList ns → ns.Pairwise (· ≤ ·) → ns.Nodup → (∀ k, k ∈ ns ↔ S k = true) → Q (.ref p) u) :
    wpAny (model P w) A (call (.builtin "sorted") [.ref a]) Q E s := by
  obtain ⟨o, es, ep, t, r1, r2, r3, good, nod, mem, r7, r8, r9, r10, r11⟩ := R
  refine Calls.call_function_entry kind_sorted plain_sorted entry_sorted (args_sorted1 _) ?_
  unfold Builtin.«sorted»
  refine wpAny_bind (m := checkCount "sorted" 1 1 _) (wpAny_pure (wpAny_bind (collect_set (A := A.in1) noexc ⟨o, r1, r2.1, r3⟩ r8 r7 r10 r11 fun u vs k1 sz g1 o1 pm => ?_)))
  have iar : IntsAre vs (vs.map Builtin.Re.reRawOf) := ints_of vs fun v hv => by
    obtain ⟨e, he, z⟩ := List.mem_map.mp (pm.mem_iff.mp hv)
    obtain ⟨k, tk, z1, _⟩ := good e he
    exact ⟨k, tk, z ▸ z1⟩
  have len : vs.length = es.size := by rw [pm.length_eq, List.length_map, Array.length_toList]
  have fits : vs.length ≤ sizeLine := by rw [len]; exact fits_of_scanBound r7
  refine wpAny_bind (wpAny_newList ?_ fits)
  have lo : (u.heap.push (seqObj "list" vs.toArray 0)).get? u.heap.objs.size = some (seqObj "list" vs.toArray 0) := Heap.get?_push_size _ rfl
  refine wpAny_bind (wpAny_holding (wpAny_call_entry slot_list_sort ⟨_, lo, rfl⟩ entry_list_sort (SrtO.list_sort_ord SrtO.swo_int lo fits (fun two => SrtO.ints_sortable iar two) fun out z1 z2 => ⟨_, rfl, ?_⟩) (args_list_sort _)))
  obtain ⟨k2, k3, k4⟩ := SrtO.ints_out iar z1 z2
  obtain ⟨c, hc⟩ := sortedHeap_at (vs := vs) (out := out.toArray) lo
  have perm : (out.map SrtO.iv).Perm (es.toList.map keyOf) := k3.trans (by have := pm.map Builtin.Re.reRawOf; rw [List.map_map] at this; exact this)
  refine wpAny_pure ⟨_, rfl, q _ u.heap.objs.size out.toArray c (out.map SrtO.iv) (fun b v e => ?_) g1 o1 sz hc (by simpa using k2) k4 (perm.nodup_iff.mpr nod) fun k => by rw [perm.mem_iff, ← mem k]⟩
  have e1 := k1 b v e
  have bl := Heap.lt_size e1
  show (sortedHeap (u.heap.push (seqObj "list" vs.toArray 0)) u.heap.objs.size vs out.toArray).get? b = some v
  rw [sortedHeap_old (Nat.ne_of_lt bl) (by rw [size_push']; exact Nat.lt_succ_of_lt bl)]
  exact Heap.get?_push_of_some _ e1
end
end GM

set_option Elab.async false
set_option linter.all false
set_option maxRecDepth 100000
set_option maxHeartbeats 4000000
set_option autoImplicit false
namespace GM
open PySem PySem.Spec PyProof.Rows L2
section
variable {X : Cx}
def rSetI (X : Cx) : List V → Hp → VK → Prop := fun vs H Q => ∃ (a : Addr) (ns : List Int), vs = [V.ref a] ∧ SqL X.K H a (ns.map V.int) ∧ ns.length ≤ 4000 ∧ ∀ (S : Int → Bool) (n : Nat) (p : Addr), (∀ k, S k = true ↔ k ∈ ns) → H p = none → Q (.ref p) (upd H p (SetO X.w p S n))
theorem cr_setI (hc : X.calm = true) : CallR X (.type "set") (rSetI X) := by
  intro pins s σ H vs us Q I r ⟨a, ns, e, hs, few, q⟩
  subst e
  rw [Vals.ref1 r]
  obtain ⟨its, rv, hl, hz⟩ := I.list hs
  refine set_made ns (I.ok.hd hc) hl.isList (by simpa using rv.ints) (by rw [show scanBound = 4096 from rfl]; omega) fun g tk c R le keep => ?_
  exact ⟨.ref _, upd H s.heap.objs.size (SetO X.w s.heap.objs.size (fun j => decide (j ∈ ns)) c), I.laid (t' := tk) keep (Nat.le_refl _) (setO_new R), rfl, q _ _ _ (fun k => by simp) (I.hok.fresh (Nat.le_refl _))⟩
def rSortedS (X : Cx) : List V → Hp → VK → Prop := fun vs H Q => ∃ (a : Addr) (S : Int → Bool) (n : Nat), vs = [V.ref a] ∧ H a = some (SetO X.w a S n) ∧
  ∀ (ns : List Int) (p : Addr), ns.Pairwise (· ≤ ·) → ns.Nodup → (∀ k, k ∈ ns ↔ S k = true) → H p = none → Q (.ref p) (upd H p (.lst (ns.map V.int)))
theorem cr_sortedS (hc : X.calm = true) : CallR X (.builtin "sorted") (rSortedS X) := by
  intro pins s σ H vs us Q I r ⟨a, S, n, e, ha, q⟩
  subst e
  rw [Vals.ref1 r]
  have R := setO_get I ha
  refine set_sorted R (I.ok.hd hc) fun u p out c ns keep g o sz at_ iar srt nod mem => ?_
  have free : H p = none := I.hok.fresh sz
  have few : ns.length ≤ sizeLine := by
    obtain ⟨o', es, ep, t, r1, r2, r3, good, nod', mem', r7, _⟩ := R
    have perm : ns.Perm (es.toList.map keyOf) := (List.perm_ext_iff_of_nodup nod nod').mpr fun k => by rw [mem k, mem' k]
    have e1 : ns.length = es.size := by rw [perm.length_eq, List.length_map]; exact Array.length_toList
    rw [e1]
    exact fits_of_scanBound r7
  have J : Inv X pins σ (upd H p (.lst (ns.map V.int))) { s with heap := u.heap, gens := u.gens, drawn := u.drawn, toks := u.toks } :=
    I.call (ch := []) (Un.laid keep sz free) (I.hok.laid keep sz ⟨by rw [List.length_map]; exact few, out.toList, c, vals_of_ints iar, at_⟩) (by rw [g]; exact I.bare) (fun _ z => nomatch z)
  have eu : u = { s with heap := u.heap, gens := u.gens, drawn := u.drawn, toks := u.toks } := by
    cases u; cases s; cases o; rfl
  rw [eu]
  exact ⟨.ref p, _, J, rfl, q ns p srt nod mem free⟩
end
/-! ### over the mirrors -/
def ddI : List Int → List Int
  | [] => []
  | x :: r => if x ∈ r then ddI r else x :: ddI r
theorem ddI_mem (k : Int) : ∀ l : List Int, k ∈ ddI l ↔ k ∈ l
  | [] => Iff.rfl
  | x :: r => by
    unfold ddI
    split
    · rename_i h
      rw [ddI_mem k r, List.mem_cons]
      exact ⟨.inr, fun z => z.elim (fun e => e ▸ h) id⟩
    · rw [List.mem_cons, ddI_mem k r, List.mem_cons]
theorem ddI_nodup : ∀ l : List Int, (ddI l).Nodup
  | [] => List.nodup_nil
  | x :: r => by
    unfold ddI
    split
    · exact ddI_nodup r
    · rename_i h
      exact List.nodup_cons.mpr ⟨fun z => h ((ddI_mem x r).mp z), ddI_nodup r⟩
/-- the different ints, ascending -/
def sortU (l : List Int) : List Int := sortI (ddI l)
theorem sortU_mem {k : Int} {l : List Int} : k ∈ sortU l ↔ k ∈ l := by
  unfold sortU
  rw [(sortI_perm _).mem_iff, ddI_mem]
theorem sortU_nodup (l : List Int) : (sortU l).Nodup := (sortI_perm _).nodup_iff.mpr (ddI_nodup l)
theorem sortU_sorted (l : List Int) : (sortU l).Pairwise (· ≤ ·) := sortI_sorted _
theorem sortU_only {ns l : List Int} (h : ns.Pairwise (· ≤ ·)) (n : ns.Nodup) (m : ∀ k, k ∈ ns ↔ k ∈ l) : ns = sortU l :=
  sorted_unique ((List.perm_ext_iff_of_nodup n (sortU_nodup l)).mpr fun k => by rw [m k, sortU_mem]) h (sortU_sorted l)
def fSortU (S : Sto) : List W → Option (List W)
  | [x] => (listW S x).bind fun ws => (intsW ws).bind fun ns => if ns.length ≤ 4000 then some ((sortU ns).map fun i => W.d (.int i)) else none
  | _ => none
theorem mf_sortU {X : Cx} {e : Expr} {es : List Expr} {ms : Am} {p p2 pos pos2 : Pos} (B : Bl X.mg) (hc : X.calm = true) (ha : MA X (e :: es) ms) (hg : Gl X "sorted" := by rfl) (hg2 : Gl X "set" := by rfl)
    (he : starEach (e :: es) X.env = (false, eval e X.env) :: starEach es X.env := by rfl) (hpl : (backTo pos2 (starEach es X.env)).any (·.1) = false := by rfl)
    (he2 : starEach [.Call (.Name "set" p2) (e :: es) [] pos2] X.env = (false, eval (.Call (.Name "set" p2) (e :: es) [] pos2) X.env) :: starEach [] X.env := by rfl) (hpl2 : (backTo pos (starEach [] X.env)).any (·.1) = false := by rfl) :
    MF X (.Call (.Name "sorted" p) [.Call (.Name "set" p2) (e :: es) [] pos2] [] pos) (primF fSortU ms) :=
  PE.cons (pe_callB (cr_sortedS hc) hg B.sorted (by decide +kernel) (pa_cons (pe_callTy (cr_setI hc) hg2 B.set (by decide +kernel) ha (by decide) (by decide) he hpl) pa_nil he2) (by decide) (by decide) he2 hpl2) fun σ H Q ⟨F, μ, ρ, S, w, S', rs, rst, h, k⟩ => by
    obtain ⟨⟨ws, S1⟩, e1, h1⟩ := bind_some h
    obtain ⟨w', e2, h2⟩ := bind_some h1
    cases h2
    refine ⟨F, μ, ρ, S, ws, S1, rs, rst, e1, fun μ1 vs H1 g1 q1 => ?_⟩
    unfold fSortU at e2
    dsimp only at e2
    split at e2
    · obtain ⟨us, e3, h3⟩ := bind_some e2
      obtain ⟨ns, e4, h4⟩ := bind_some h3
      obtain ⟨few, e5⟩ := (show ns.length ≤ 4000 ∧ ((sortU ns).map fun i => W.d (.int i)) = w from by
        by_cases c : ns.length ≤ 4000
        · rw [if_pos c] at h4; cases h4; exact ⟨c, rfl⟩
        · rw [if_neg c] at h4; cases h4)
      subst e5
      obtain ⟨v, rfl, q2⟩ := rep1 q1
      obtain ⟨a, xs, rfl, hs, r⟩ := list_rep g1.rs e3 q2
      have hx := ints_rep e4 r
      subst hx
      refine ⟨a, ns, rfl, hs, few, fun S2 n p' mem free => ⟨p', S2, n, rfl, upd_same, fun ns' p2 srt nod mem2 free2 => ?_⟩⟩
      have e : ns' = sortU ns := sortU_only srt nod fun z => by rw [mem2 z, mem z]
      subst e
      have fr : Fr H1 (upd H1 p' (SetO X.w p' S2 n)) := Fr.upd free
      exact k μ1 _ p2 _ (g1.trans (fr.gs g1.rs)) free2 intsRep
    · cases e2
end GM
namespace GM
open PySem L2
theorem hxv (i : Nat) {X : Cx} {x : Str} {pos : Pos} (hN : X.N[i]? = some x := by rfl) (hv : Vis X.env.scope x := by first | exact Or.inl rfl | exact Or.inr (Or.inl rfl) | exact Or.inr (Or.inr rfl)) (hd : (x == ("__debug__" : Str)) = false := by decide) (hcd : (x == ("__classdict__" : Str)) = false := by decide) :
    PE X (.Name x pos) (fun σ H Q => ∃ v, σ[i]? = some (some v) ∧ Q v H) := pe_var hN hv hd hcd
@[simp] theorem mdnew_ap {ρ : Rho} {S : Sto} : mdnew ρ S = some (.ref S.length, S ++ [.dct []]) := nr rfl
end GM

set_option Elab.async false
set_option linter.all false
set_option maxRecDepth 100000
set_option maxHeartbeats 4000000
set_option autoImplicit false
namespace GM
open PySem L2
/-! ### enumerate of a list -/
def srcEL (S : Sto) : W → Option Src
  | .d (.lst ds) => some (.its ((enumD ds).map W.d))
  | .ref k => (lstOf S k).bind fun _ => some (.ecell k)
  | _ => none
section
variable {K : PySem.W.Frag} {F : Addr → Prop} {μ : List Addr} {S : Sto} {H : Hp}
/-- one turn: the pair is new -/
theorem pair_new {F2 : Addr → Prop} {μ2 : List Addr} {S2 : Sto} {H2 : Hp} {T : Addr} {i : Nat} {x : D} {v : V} (rs : RS K F2 μ2 S2 H2) (hn : H2 T = none) (q : RepD K (NF F2 μ2 S2) H2 x v) :
    Fr H2 (upd H2 T (.tup [.int (i : Nat), v])) ∧ RepW K μ2 (NF F2 μ2 S2) (upd H2 T (.tup [.int (i : Nat), v])) (.d (.tup [.int (i : Nat), x])) (.ref T) := by
  have f : Fr H2 (upd H2 T (.tup [.int (i : Nat), v])) := Fr.upd hn
  refine ⟨f, dtup.mpr ⟨T, _, rfl, .inl (.inl upd_same), ?_⟩⟩
  rw [RepDs]
  refine ⟨_, _, rfl, by rw [RepD], ?_⟩
  rw [RepDs]
  exact ⟨_, _, rfl, RepD.mono (f.gs rs).go q, by rw [RepDs]⟩
theorem iteL_ok {a : Addr} {vs : List V} {ds : List D} (h1 : LstAt (NF F μ S) H a vs) (h2 : RepDs K (NF F μ S) H ds vs) : ItOk K F μ S H (Ite K a) (.its ((enumD ds).map W.d)) := fun F2 μ2 S2 H2 gz i r hr => by
  obtain ⟨p, _, g, rs⟩ := gz
  cases hr
  have l2 : SqL K H2 a vs := (g.lst h1).sq
  have r2 : RepWs K μ2 (NF F2 μ2 S2) H2 (ds.map W.d) vs := (rep_map h2).mono g p
  have hl := r2.length
  rw [List.length_map] at hl
  by_cases hi : i < ds.length
  · have e : (ds.map W.d)[i]? = some (W.d (ds.getD i .non)) := by
      rw [List.getElem?_map, List.getD_eq_getElem?_getD, List.getElem?_eq_getElem hi]; rfl
    obtain ⟨v, e1, e2⟩ := r2.get e
    have ee : ((enumD ds).map W.d)[i]? = some (W.d (.tup [.int (i : Int), ds.getD i .non])) := by
      unfold enumD
      rw [List.getElem?_map, List.getElem?_map, List.getElem?_range hi]; rfl
    rw [ee]
    refine ⟨⟨vs, v, l2, e1⟩, fun x H3 ⟨T, y, hx, hn, hu, hy⟩ => ?_⟩
    subst hx hu
    have := hy vs l2
    rw [e1] at this
    cases this
    exact pair_new rs hn e2
  · rw [List.getElem?_eq_none (by rw [List.length_map]; unfold enumD; rw [List.length_map, List.length_range]; omega)]
    exact ⟨vs, l2, by omega⟩
theorem iteC_ok {a : Addr} {k : Nat} (hk : μ[k]? = some a) : ItOk K F μ S H (Ite K a) (.ecell k) := fun F2 μ2 S2 H2 gz i r hr => by
  obtain ⟨p, _, g, rs⟩ := gz
  obtain ⟨ws, e, hr⟩ := bind_some (show (lstOf S2 k).bind _ = some r from hr)
  have hk2 : μ2[k]? = some a := by
    obtain ⟨ν, rfl⟩ := p
    rw [List.getElem?_append_left (List.getElem?_eq_some_iff.mp hk).1]; exact hk
  obtain ⟨vs, e1, e2⟩ := rs.at_ k a _ hk2 (lstOf_some e)
  have l2 : SqL K H2 a vs := .inl (.inl e1)
  cases e3 : ws[i]? with
  | none =>
    rw [e3] at hr
    cases hr
    exact ⟨vs, l2, by rw [← e2.length]; exact List.getElem?_eq_none_iff.mp e3⟩
  | some w =>
    rw [e3] at hr
    cases w with
    | d x =>
      cases hr
      obtain ⟨v, e4, e5⟩ := e2.get e3
      refine ⟨⟨vs, v, l2, e4⟩, fun x' H3 ⟨T, y, hx, hn, hu, hy⟩ => ?_⟩
      subst hx hu
      have := hy vs l2
      rw [e4] at this
      cases this
      exact pair_new rs hn e5
    | ref _ => cases hr
    | op _ => cases hr
end
theorem mi_enumL {X : Cx} {e : Expr} {me : Em} {p pos tpos : Pos} {elts : List Expr} {kk : Nat} (hg : Gl X "enumerate") (hm : X.mg "enumerate" = none) (h : ME X e me) (hs : starEach [e] X.env = [(false, eval e X.env)] := by rfl) :
    MI X (.Tuple elts kk tpos) (.Call (.Name "enumerate" p) [e] [] pos) (isrc srcEL me) := PI.cons (pi_enum hg hm (ma_cons h ma_nil hs) hs) fun σ H R ⟨F, μ, ρ, S, src, S', rs, rst, h, k⟩ => by
  obtain ⟨⟨w, S1⟩, e1, h⟩ := bind_some h
  obtain ⟨s, e2, h⟩ := bind_some h
  cases h
  refine ⟨F, μ, ρ, S, [w], S1, rs, rst, by show (me ρ S).bind _ = _; rw [e1]; rfl, fun μ1 vs H1 g q => ?_⟩
  obtain ⟨v, rfl, q1⟩ := rep1 q
  cases w with
  | d x =>
    cases x with
    | lst ds =>
      cases e2
      obtain ⟨a, us, e, h1, h2⟩ := dlst.mp q1
      exact ⟨a, us, by rw [e], h1.sq, k μ1 _ H1 g (iteL_ok h1 h2)⟩
    | _ => cases e2
  | ref kk =>
    obtain ⟨ws, e3, e4⟩ := bind_some (show (lstOf S1 kk).bind (fun _ => some (Src.ecell kk)) = some src from e2)
    cases e4
    obtain ⟨a, h1, e⟩ := q1
    obtain ⟨vs, h2, _⟩ := g.rs.at_ kk a _ h1 (lstOf_some e3)
    exact ⟨a, vs, by rw [e], .inl (.inl h2), k μ1 _ H1 g (iteC_ok h1)⟩
  | op _ => cases e2
end GM

set_option Elab.async false
set_option linter.all false
set_option maxRecDepth 100000
set_option maxHeartbeats 4000000
set_option autoImplicit false
namespace GM
open PySem L2
theorem ite_m {α : Type} {c : Prop} [Decidable c] {x y : α} (h : (if c then some x else none) = some y) : c ∧ x = y := by
  split at h
  · rename_i hc; cases h; exact ⟨hc, rfl⟩
  · cases h
/-! ### reversed -/
def srcV (S : Sto) : W → Option Src
  | .d (.lst ds) => some (.its (ds.map W.d).reverse)
  | .d (.tup ds) => some (.its (ds.map W.d).reverse)
  | .ref k => (lstOf S k).bind fun ws => some (.rcell k ws.length)
  | _ => none
section
variable {K : PySem.W.Frag} {F : Addr → Prop} {μ : List Addr} {S : Sto} {H : Hp}
theorem rev_at {α : Type} (l : List α) {i : Nat} (h : i < l.length) : l.reverse[i]? = l[l.length - 1 - i]? := List.getElem?_reverse h
theorem itvL_ok {a : Addr} {vs : List V} {ds : List D} (h1 : LstAt (NF F μ S) H a vs) (h2 : RepDs K (NF F μ S) H ds vs) : ItOk K F μ S H (Itv K a vs.length) (.its (ds.map W.d).reverse) := fun F2 μ2 S2 H2 gz i r hr => by
  obtain ⟨p, _, g, rs⟩ := gz
  cases hr
  have l2 : SqL K H2 a vs := (g.lst h1).sq
  have r2 : RepWs K μ2 (NF F2 μ2 S2) H2 (ds.map W.d) vs := (rep_map h2).mono g p
  have hl := r2.length
  by_cases hi : i < (ds.map W.d).length
  · rw [rev_at _ hi]
    have hj : (ds.map W.d).length - 1 - i < (ds.map W.d).length := by omega
    rw [List.getElem?_eq_getElem hj]
    obtain ⟨v, e1, e2⟩ := r2.get (List.getElem?_eq_getElem hj)
    rw [hl] at e1
    refine ⟨⟨by omega, vs, v, l2, e1⟩, fun x H3 ⟨hu, hy⟩ => ?_⟩
    subst hu
    have := hy vs l2
    rw [e1] at this
    cases this
    exact ⟨Fr.refl, e2⟩
  · rw [List.getElem?_eq_none (by rw [List.length_reverse]; omega)]
    show vs.length ≤ i
    omega
theorem itvT_ok {a : Addr} {vs : List V} {ds : List D} (h1 : SqT K H a vs) (h2 : RepDs K (NF F μ S) H ds vs) : ItOk K F μ S H (RT.ItvT K a vs.length) (.its (ds.map W.d).reverse) := fun F2 μ2 S2 H2 gz i r hr => by
  obtain ⟨p, _, g, rs⟩ := gz
  cases hr
  have l2 := g.tup h1
  have r2 : RepWs K μ2 (NF F2 μ2 S2) H2 (ds.map W.d) vs := (rep_map h2).mono g p
  have hl := r2.length
  by_cases hi : i < (ds.map W.d).length
  · rw [rev_at _ hi]
    have hj : (ds.map W.d).length - 1 - i < (ds.map W.d).length := by omega
    rw [List.getElem?_eq_getElem hj]
    obtain ⟨v, e1, e2⟩ := r2.get (List.getElem?_eq_getElem hj)
    rw [hl] at e1
    refine ⟨⟨by omega, vs, v, l2, e1⟩, fun x H3 ⟨hu, hy⟩ => ?_⟩
    subst hu
    have := hy vs l2
    rw [e1] at this
    cases this
    exact ⟨Fr.refl, e2⟩
  · rw [List.getElem?_eq_none (by rw [List.length_reverse]; omega)]
    show vs.length ≤ i
    omega
theorem itvC_ok {a : Addr} {k n : Nat} (hk : μ[k]? = some a) : ItOk K F μ S H (Itv K a n) (.rcell k n) := fun F2 μ2 S2 H2 gz i r hr => by
  obtain ⟨p, _, g, rs⟩ := gz
  have hk2 : μ2[k]? = some a := by
    obtain ⟨ν, rfl⟩ := p
    rw [List.getElem?_append_left (List.getElem?_eq_some_iff.mp hk).1]; exact hk
  by_cases hi : i < n
  · have hr : (if i < n then (lstOf S2 k).bind fun ws => ws[n - 1 - i]?.bind fun w => some (some w) else some none) = some r := hr
    rw [if_pos hi] at hr
    obtain ⟨ws, e, hr⟩ := bind_some hr
    obtain ⟨w, e3, hr⟩ := bind_some hr
    cases hr
    obtain ⟨vs, e1, e2⟩ := rs.at_ k a _ hk2 (lstOf_some e)
    have l2 : SqL K H2 a vs := .inl (.inl e1)
    obtain ⟨v, e4, e5⟩ := e2.get e3
    refine ⟨⟨hi, vs, v, l2, e4⟩, fun x H3 ⟨hu, hy⟩ => ?_⟩
    subst hu
    have := hy vs l2
    rw [e4] at this
    cases this
    exact ⟨Fr.refl, e5⟩
  · have hr : (if i < n then (lstOf S2 k).bind fun ws => ws[n - 1 - i]?.bind fun w => some (some w) else some none) = some r := hr
    rw [if_neg hi] at hr
    cases hr
    show n ≤ i
    omega
end
theorem mi_rev {X : Cx} {tg e : Expr} {me : Em} {p pos : Pos} (hg : Gl X "reversed") (hm : X.mg "reversed" = none) (h : ME X e me) (hs : starEach [e] X.env = (false, eval e X.env) :: starEach [] X.env := by rfl) :
    MI X tg (.Call (.Name "reversed" p) [e] [] pos) (isrc srcV me) := PI.cons (RT.pi_revA hg hm h hs) fun σ H R ⟨F, μ, ρ, S, src, S', rs, rst, h, k⟩ => by
  obtain ⟨⟨w, S1⟩, e1, h⟩ := bind_some h
  obtain ⟨s, e2, h⟩ := bind_some h
  cases h
  refine ⟨F, μ, ρ, S, w, S1, rs, rst, e1, fun μ1 v H1 g q1 => ?_⟩
  cases w with
  | d x =>
    cases x with
    | lst ds =>
      cases e2
      obtain ⟨a, us, e, h1, h2⟩ := dlst.mp q1
      exact ⟨a, us, e, .inl ⟨h1.sq, k μ1 _ H1 g (itvL_ok h1 h2)⟩⟩
    | tup ds =>
      cases e2
      obtain ⟨a, us, e, h1, h2⟩ := dtup.mp q1
      exact ⟨a, us, e, .inr ⟨h1, k μ1 _ H1 g (itvT_ok h1 h2)⟩⟩
    | _ => cases e2
  | ref kk =>
    obtain ⟨ws, e3, e4⟩ := bind_some (show (lstOf S1 kk).bind (fun ws => some (Src.rcell kk ws.length)) = some src from e2)
    cases e4
    obtain ⟨a, h1, e⟩ := q1
    obtain ⟨vs, h2, h3⟩ := g.rs.at_ kk a _ h1 (lstOf_some e3)
    refine ⟨a, vs, e, .inl ⟨.inl (.inl h2), k μ1 _ H1 g ?_⟩⟩
    rw [← h3.length]
    exact itvC_ok h1
  | op _ => cases e2
/-! ### reversed(range(..)) -/
def irvR (m : Pm) : Im := fun ρ S => (m ρ S).bind fun p => if rgC p.1.1 p.1.2 = true then some (.its (rngW p.1.1 (p.1.2 - p.1.1).toNat).reverse, p.2) else none
theorem itc_ok {K : PySem.W.Frag} {F : Addr → Prop} {μ : List Addr} {S : Sto} {H : Hp} (a : Int) (n : Nat) : ItOk K F μ S H (Itc (a + (n : Int) - 1) (-1) n) (.its (rngW a n).reverse) := fun F2 μ2 S2 H2 gz i r hr => by
  cases hr
  have hl : (rngW a n).length = n := rngW_length ..
  by_cases hi : i < n
  · rw [rev_at _ (by omega), hl]
    have : (rngW a n)[n - 1 - i]? = some (.d (.int (a + ((n - 1 - i : Nat) : Int)))) := by
      unfold rngW
      rw [List.getElem?_map, List.getElem?_range (by omega)]; rfl
    rw [this]
    refine ⟨hi, fun x H3 ⟨hu, hy⟩ => ?_⟩
    subst hu hy
    refine ⟨Fr.refl, dint.mpr ?_⟩
    congr 1
    omega
  · rw [List.getElem?_eq_none (by rw [List.length_reverse]; omega)]
    show n ≤ i
    omega
theorem mi_revR {X : Cx} {tg e : Expr} {mp : Pm} {p pos : Pos} (hg : Gl X "reversed") (hm : X.mg "reversed" = none) (he : PRg X e (LP X.K mp)) (hs : starEach [e] X.env = (false, eval e X.env) :: starEach [] X.env := by rfl) :
    MI X tg (.Call (.Name "reversed" p) [e] [] pos) (irvR mp) := PI.cons (L2.pi_revR hg hm he hs) fun σ H R ⟨F, μ, ρ, S, src, S', rs, rst, h, k⟩ => by
  obtain ⟨⟨pp, S1⟩, e1, h⟩ := bind_some h
  obtain ⟨hc, h⟩ := ite_m h
  cases h
  have hc2 := hc
  unfold rgC at hc2
  simp only [Bool.and_eq_true, decide_eq_true_eq] at hc2
  refine ⟨F, μ, ρ, S, pp, S1, rs, rst, e1, fun μ1 H1 g => ⟨by omega, by omega, by omega, by omega, k μ1 _ H1 g (itc_ok pp.1 (pp.2 - pp.1).toNat)⟩⟩
/-! ### x.bit_length() -/
def fBits (_ : Sto) : List W → Option W
  | [.d (.int i)] => some (.d (.int (Builtin.Int.intBits i : Nat)))
  | _ => none
theorem bits_ok {K : PySem.W.Frag} : POk K (r1 fun x H Q => ∃ i, x = .int i ∧ Q (.int (Builtin.Int.intBits i : Nat)) H) fBits := fun F μ S H ws vs w Q rs h q k => by
  unfold fBits at h
  split at h
  · cases h
    obtain ⟨v, rfl, q1⟩ := rep1 q
    exact ⟨v, rfl, _, dint.mp q1, k _ _ Fr.refl (dint.mpr rfl)⟩
  · cases h
theorem me_bits {X : Cx} {o : Expr} {me : Em} {apos pos : Pos} (ho : ME X o me) (hbase : attributeBase o "bit_length" X.env (eval o X.env) = eval o X.env := by rfl) (hline : (apos.endLine == pos.line) = true := by rfl) : ME X (.Call (.Attribute o "bit_length" apos) [] [] pos) (prim fBits (acons me anil)) :=
  PE.cons (pe_bits ho hbase hline) fun σ H Q h => (args1 (prim_args bits_ok h)).imp fun v H1 ⟨x, e, q⟩ => by cases e; exact q
/-! ### zip -/
def zsL (S : Sto) : W → Option ZS
  | .d (.lst ds) => some (.its ds)
  | .ref k => (lstOf S k).bind fun _ => some (.cell k)
  | _ => none
def zipW (S : Sto) : W → W → Option Src
  | .d (.tup a), .d (.tup b) => some (.zip (.its a) (.its b))
  | x, y => (zsL S x).bind fun a => (zsL S y).bind fun b => some (.zip a b)
def izip (m : Am) : Im := fun ρ S => (m ρ S).bind fun p => match p.1 with
  | [x, y] => (zipW p.2 x y).bind fun s => some (s, p.2)
  | _ => none
section
variable {K : PySem.W.Frag} {F : Addr → Prop} {μ : List Addr} {S : Sto} {H : Hp}
/-- where the items of one side stand -/
def ZsOk (K : PySem.W.Frag) (F : Addr → Prop) (μ : List Addr) (S : Sto) (H : Hp) (a : Addr) (z : ZS) : Prop :=
  ∀ F2 μ2 S2 H2, Gz K F μ S H F2 μ2 S2 H2 → ∀ (i : Nat) r, zsAt z S2 i = some r → ∃ vs, SqL K H2 a vs ∧ match r with
    | none => vs.length ≤ i
    | some x => ∃ v, vs[i]? = some v ∧ RepD K (NF F2 μ2 S2) H2 x v
theorem zsI_ok {a : Addr} {vs : List V} {ds : List D} (h1 : LstAt (NF F μ S) H a vs) (h2 : RepDs K (NF F μ S) H ds vs) : ZsOk K F μ S H a (.its ds) := fun F2 μ2 S2 H2 gz i r hr => by
  obtain ⟨p, _, g, rs⟩ := gz
  cases hr
  have r2 : RepWs K μ2 (NF F2 μ2 S2) H2 (ds.map W.d) vs := (rep_map h2).mono g p
  have hl := r2.length
  rw [List.length_map] at hl
  refine ⟨vs, (g.lst h1).sq, ?_⟩
  by_cases hi : i < ds.length
  · rw [List.getElem?_eq_getElem hi]
    obtain ⟨v, e1, e2⟩ := r2.get (i := i) (w := .d ds[i]) (by rw [List.getElem?_map, List.getElem?_eq_getElem hi]; rfl)
    exact ⟨v, e1, e2⟩
  · rw [List.getElem?_eq_none (by omega)]
    show vs.length ≤ i
    omega
theorem zsC_ok {a : Addr} {k : Nat} (hk : μ[k]? = some a) : ZsOk K F μ S H a (.cell k) := fun F2 μ2 S2 H2 gz i r hr => by
  obtain ⟨p, _, g, rs⟩ := gz
  have hk2 : μ2[k]? = some a := by
    obtain ⟨ν, rfl⟩ := p
    rw [List.getElem?_append_left (List.getElem?_eq_some_iff.mp hk).1]; exact hk
  obtain ⟨ws, e, hr⟩ := bind_some hr
  obtain ⟨vs, e1, e2⟩ := rs.at_ k a _ hk2 (lstOf_some e)
  refine ⟨vs, .inl (.inl e1), ?_⟩
  cases e3 : ws[i]? with
  | none =>
    rw [e3] at hr
    cases hr
    show vs.length ≤ i
    rw [← e2.length]; exact List.getElem?_eq_none_iff.mp e3
  | some w =>
    rw [e3] at hr
    cases w with
    | d x =>
      cases hr
      obtain ⟨v, e4, e5⟩ := e2.get e3
      exact ⟨v, e4, e5⟩
    | ref _ => cases hr
    | op _ => cases hr
theorem zip_new {F2 : Addr → Prop} {μ2 : List Addr} {S2 : Sto} {H2 : Hp} {T : Addr} {x y : D} {u v : V} (rs : RS K F2 μ2 S2 H2) (hn : H2 T = none) (p : RepD K (NF F2 μ2 S2) H2 x u) (q : RepD K (NF F2 μ2 S2) H2 y v) :
    Fr H2 (upd H2 T (.tup [u, v])) ∧ RepW K μ2 (NF F2 μ2 S2) (upd H2 T (.tup [u, v])) (.d (.tup [x, y])) (.ref T) := by
  have f : Fr H2 (upd H2 T (.tup [u, v])) := Fr.upd hn
  refine ⟨f, dtup.mpr ⟨T, _, rfl, .inl (.inl upd_same), ?_⟩⟩
  rw [RepDs]
  refine ⟨_, _, rfl, RepD.mono (f.gs rs).go p, ?_⟩
  rw [RepDs]
  exact ⟨_, _, rfl, RepD.mono (f.gs rs).go q, by rw [RepDs]⟩
theorem itz_ok {a b : Addr} {x y : ZS} (h1 : ZsOk K F μ S H a x) (h2 : ZsOk K F μ S H b y) : ItOk K F μ S H (Itz K a b) (.zip x y) := fun F2 μ2 S2 H2 gz i r hr => by
  obtain ⟨c, e1, hr⟩ := bind_some hr
  obtain ⟨d, e2, hr⟩ := bind_some hr
  obtain ⟨us, l1, q1⟩ := h1 F2 μ2 S2 H2 gz i c e1
  obtain ⟨vs, l2, q2⟩ := h2 F2 μ2 S2 H2 gz i d e2
  obtain ⟨_, _, _, rs⟩ := gz
  cases c with
  | none => cases hr; exact ⟨us, vs, l1, l2, .inl q1⟩
  | some c =>
    cases d with
    | none => cases hr; exact ⟨us, vs, l1, l2, .inr q2⟩
    | some d =>
      cases hr
      obtain ⟨u, u1, u2⟩ := q1
      obtain ⟨v, v1, v2⟩ := q2
      refine ⟨⟨us, vs, u, v, l1, l2, u1, v1⟩, fun w H3 ⟨T, u', v', hx, hn, hu, hy1, hy2⟩ => ?_⟩
      subst hx hu
      have z1 := hy1 us l1
      have z2 := hy2 vs l2
      rw [u1] at z1
      rw [v1] at z2
      cases z1
      cases z2
      exact zip_new rs hn u2 v2
theorem itzT_ok {a b : Addr} {us vs : List V} {ds es : List D} (h1 : SqT K H a us) (h2 : RepDs K (NF F μ S) H ds us) (h3 : SqT K H b vs) (h4 : RepDs K (NF F μ S) H es vs) : ItOk K F μ S H (RZ.ItzT K a b) (.zip (.its ds) (.its es)) := fun F2 μ2 S2 H2 gz i r hr => by
  obtain ⟨p, _, g, rs⟩ := gz
  have l1 := g.tup h1
  have l2 := g.tup h3
  have r1 : RepWs K μ2 (NF F2 μ2 S2) H2 (ds.map W.d) us := (rep_map h2).mono g p
  have r2 : RepWs K μ2 (NF F2 μ2 S2) H2 (es.map W.d) vs := (rep_map h4).mono g p
  have n1 := r1.length
  have n2 := r2.length
  rw [List.length_map] at n1 n2
  by_cases hi : i < ds.length
  · by_cases hj : i < es.length
    · have hr : (some ds[i]?).bind (fun x => (some es[i]?).bind fun y => match x, y with
        | some x, some y => some (some (W.d (.tup [x, y])))
        | _, _ => some none) = some r := hr
      rw [List.getElem?_eq_getElem hi, List.getElem?_eq_getElem hj] at hr
      cases hr
      obtain ⟨u, u1, u2⟩ := r1.get (i := i) (w := .d ds[i]) (by rw [List.getElem?_map, List.getElem?_eq_getElem hi]; rfl)
      obtain ⟨v, v1, v2⟩ := r2.get (i := i) (w := .d es[i]) (by rw [List.getElem?_map, List.getElem?_eq_getElem hj]; rfl)
      refine ⟨⟨us, vs, u, v, l1, l2, u1, v1⟩, fun w H3 ⟨T, u', v', hx, hn, hu, hy1, hy2⟩ => ?_⟩
      subst hx hu
      have z1 := hy1 us l1
      have z2 := hy2 vs l2
      rw [u1] at z1
      rw [v1] at z2
      cases z1
      cases z2
      exact zip_new rs hn u2 v2
    · have hr : (some ds[i]?).bind (fun x => (some es[i]?).bind fun y => match x, y with
        | some x, some y => some (some (W.d (.tup [x, y])))
        | _, _ => some none) = some r := hr
      rw [List.getElem?_eq_getElem hi, List.getElem?_eq_none (l := es) (by omega)] at hr
      cases hr
      exact ⟨us, vs, l1, l2, .inr (by omega)⟩
  · have hr : (some ds[i]?).bind (fun x => (some es[i]?).bind fun y => match x, y with
      | some x, some y => some (some (W.d (.tup [x, y])))
      | _, _ => some none) = some r := hr
    rw [List.getElem?_eq_none (l := ds) (by omega)] at hr
    cases hr
    exact ⟨us, vs, l1, l2, .inl (by omega)⟩
theorem zsL_ok {w : W} {v : V} {z : ZS} (rs : RS K F μ S H) (h : zsL S w = some z) (q : RepW K μ (NF F μ S) H w v) : ∃ a vs, v = .ref a ∧ SqL K H a vs ∧ ZsOk K F μ S H a z := by
  cases w with
  | d x =>
    cases x with
    | lst ds =>
      cases h
      obtain ⟨a, us, e, h1, h2⟩ := dlst.mp q
      exact ⟨a, us, e, h1.sq, zsI_ok h1 h2⟩
    | _ => cases h
  | ref k =>
    obtain ⟨ws, e3, e4⟩ := bind_some (show (lstOf S k).bind (fun _ => some (ZS.cell k)) = some z from h)
    cases e4
    obtain ⟨a, h1, e⟩ := q
    obtain ⟨vs, h2, _⟩ := rs.at_ k a _ h1 (lstOf_some e3)
    exact ⟨a, vs, e, .inl (.inl h2), zsC_ok h1⟩
  | op _ => cases h
end
theorem mi_zip {X : Cx} {e e2 : Expr} {m : Am} {p pos tpos : Pos} {elts : List Expr} {kk : Nat} (hg : Gl X "zip") (hm : X.mg "zip" = none) (ha : MA X [e, e2] m)
    (hs : starEach [e, e2] X.env = (false, eval e X.env) :: starEach [e2] X.env := by rfl) (hpl : (backTo pos (starEach [e2] X.env)).any (·.1) = false := by rfl) :
    MI X (.Tuple elts kk tpos) (.Call (.Name "zip" p) [e, e2] [] pos) (izip m) := PI.cons (RZ.pi_zipA hg hm ha hs hpl) fun σ H R ⟨F, μ, ρ, S, src, S', rs, rst, h, k⟩ => by
  obtain ⟨⟨ws, S1⟩, e1, h⟩ := bind_some h
  refine ⟨F, μ, ρ, S, ws, S1, rs, rst, e1, fun μ1 vs H1 g q => ?_⟩
  rcases ws with _ | ⟨w1, _ | ⟨w2, _ | ⟨w3, r⟩⟩⟩
  · cases h
  · cases h
  · cases q with
    | cons q1 q => cases q with
      | cons q2 q =>
        cases q
        obtain ⟨s, e2, h⟩ := bind_some h
        cases h
        dsimp only at e2
        by_cases ht : ∃ a b, w1 = .d (.tup a) ∧ w2 = .d (.tup b)
        · obtain ⟨a, b, rfl, rfl⟩ := ht
          cases e2
          obtain ⟨x, us, rfl, h1, h2⟩ := dtup.mp q1
          obtain ⟨y, vs, rfl, h3, h4⟩ := dtup.mp q2
          exact ⟨x, y, us, vs, rfl, .inr ⟨h1, h3, k μ1 _ H1 g (itzT_ok h1 h2 h3 h4)⟩⟩
        · have e3 : ∀ S, zipW S w1 w2 = (zsL S w1).bind fun a => (zsL S w2).bind fun b => some (.zip a b) := by
            intro S
            unfold zipW
            split
            · exact absurd ⟨_, _, rfl, rfl⟩ ht
            · rfl
          rw [e3] at e2
          obtain ⟨z1, f1, e2⟩ := bind_some e2
          obtain ⟨z2, f2, e2⟩ := bind_some e2
          cases e2
          obtain ⟨x, us, rfl, h1, h2⟩ := zsL_ok g.rs f1 q1
          obtain ⟨y, vs, rfl, h3, h4⟩ := zsL_ok g.rs f2 q2
          exact ⟨x, y, us, vs, rfl, .inl ⟨h1, h3, k μ1 _ H1 g (itz_ok h2 h4)⟩⟩
  · cases h
end GM


set_option Elab.async false
set_option linter.all false
set_option maxRecDepth 100000
set_option maxHeartbeats 4000000
set_option autoImplicit false
namespace GM
open PySem L2 PyProof.Rows
/-! ### min(xs, default=d), ints; d a number or None -/
def rMnD (K : PySem.W.Frag) (d : V) : List V → List V → Hp → VK → Prop := fun vs zs H Q => ∃ (a : Addr) (ns : List Int), vs = [V.ref a] ∧ zs = [d] ∧ SqL K H a (ns.map V.int) ∧ Q (match ns.min? with | some m => .int m | none => d) H
theorem depth_iws : ∀ ns : List Int, PyData.depthAll (ns.map PyData.int) = 0
  | [] => by simp [PyData.depthAll]
  | x :: r => by rw [List.map_cons, PyData.depthAll, depth_iws r]; simp [PyData.depth]
theorem cr_mnD {X : Cx} {d : V} {j : Nat} (hr : Room j X.A) (hc : X.calm = true) : CallRK X (.builtin "min") [Str.ofString "default"] (rMnD X.K d) := by
  intro pins s σ H vs zs us ws Q I r rz h
  obtain ⟨a, ns, rfl, rfl, hs, q⟩ := h
  obtain rfl := Vals.ref1 r
  obtain ⟨w1, rfl, hw⟩ := vals1 rz
  obtain ⟨its, rv, hl, hz⟩ := I.list hs
  obtain ⟨as, rd⟩ := Dp.readsAll I _ _ _ (dpAll_iws ns) rv
  refine PySem.W.min_list_default (I.ok.hd hc) hl.isList (xs := ns.map PyData.int) (as := as) (by simpa using rd) (alike_iws ns) ?_ (fun he h' tk hk => ?_) (fun y ys i v h' tk bs he hv hrd hk => ?_)
  · have := hr.un
    rw [depth_iws]
    omega
  · have : ns = [] := by simpa using he
    subst this
    exact ⟨d, H, I.kept (t' := tk) hk, hw, q⟩
  · cases ns with
    | nil => cases he
    | cons n r =>
      have e1 : y = .int n := (List.cons.inj he).1.symm
      have e2 : ys = r.map PyData.int := (List.cons.inj he).2.symm
      subst e1 e2
      rw [PySem.W.minD_ints] at hrd
      cases hrd with
      | int _ t => exact ⟨.int (r.foldl min n), H, I.kept (t' := tk) hk, ⟨_, rfl⟩, by
          rw [List.min?_cons'] at q
          exact q⟩
def fMinLD (d : Int) := fInts fun ns => some (.d (.int (ns.min?.getD d)))
def fMinLN := fInts fun ns => some (.d (match ns.min? with | some m => D.int m | none => D.non))
section
variable {X : Cx} {e : Expr} {m : Em} {p pos kp cp : Pos} {d : Int} {j c : Nat}
theorem mc_minD (B : Bl X.mg) (hr : Room j X.A) (hc : X.calm = true) (h : ME X e m) (hg : Gl X "min" := by rfl)
    (hs : starEach [e] X.env = (false, eval e X.env) :: starEach [] X.env := by rfl) (he : backTo pos (starEach [e] X.env) = (false, eval e X.env) :: backTo pos (starEach [] X.env) := by rfl) (hpl : (backTo pos (starEach [e] X.env)).any (·.1) = false := by rfl)
    (hall : (backToKw pos (keywordEach [⟨some "default", .Constant (.int d) c cp, kp⟩] X.env)).all (·.1.isSome) = true := by rfl) (hnone : (backToKw pos (keywordEach [⟨some "default", .Constant (.int d) c cp, kp⟩] X.env)).any (·.1.isNone) = false := by rfl) (hks : (backToKw pos (keywordEach [⟨some "default", .Constant (.int d) c cp, kp⟩] X.env)).filterMap (·.1) = [Str.ofString "default"] := by rfl) :
    ME X (.Call (.Name "min" p) [e] [⟨some "default", .Constant (.int d) c cp, kp⟩] pos) (prim (fMinLD d) (acons m anil)) :=
  PE.cons (pe_callBK (cr_mnD hr hc) hg B.min (by decide +kernel) (ma_cons h ma_nil hs) (pk_cons pe_int pk_nil) (by decide) (by decide) he hpl hall hnone hks) fun σ H Q ⟨F, μ, ρ, S, w, S', rs, rst, h, k⟩ => by
    obtain ⟨⟨ws, S1⟩, e1, h⟩ := bind_some h
    obtain ⟨w', e2, h⟩ := bind_some h
    cases h
    refine ⟨F, μ, ρ, S, ws, S1, rs, rst, e1, fun μ1 vs H1 g q => ?_⟩
    obtain ⟨a, ns, rfl, hs, h3⟩ := fInts_inv g.rs e2 q
    cases h3
    refine ⟨a, ns, rfl, rfl, hs, ?_⟩
    cases hm : ns.min? with
    | none => rw [hm] at k; exact k μ1 _ H1 g (dint.mpr rfl)
    | some v => rw [hm] at k; exact k μ1 _ H1 g (dint.mpr rfl)
theorem mc_minN (B : Bl X.mg) (hr : Room j X.A) (hc : X.calm = true) (h : ME X e m) (hg : Gl X "min" := by rfl)
    (hs : starEach [e] X.env = (false, eval e X.env) :: starEach [] X.env := by rfl) (he : backTo pos (starEach [e] X.env) = (false, eval e X.env) :: backTo pos (starEach [] X.env) := by rfl) (hpl : (backTo pos (starEach [e] X.env)).any (·.1) = false := by rfl)
    (hall : (backToKw pos (keywordEach [⟨some "default", .Constant .none c cp, kp⟩] X.env)).all (·.1.isSome) = true := by rfl) (hnone : (backToKw pos (keywordEach [⟨some "default", .Constant .none c cp, kp⟩] X.env)).any (·.1.isNone) = false := by rfl) (hks : (backToKw pos (keywordEach [⟨some "default", .Constant .none c cp, kp⟩] X.env)).filterMap (·.1) = [Str.ofString "default"] := by rfl) :
    ME X (.Call (.Name "min" p) [e] [⟨some "default", .Constant .none c cp, kp⟩] pos) (prim fMinLN (acons m anil)) :=
  PE.cons (pe_callBK (cr_mnD hr hc) hg B.min (by decide +kernel) (ma_cons h ma_nil hs) (pk_cons pe_non pk_nil) (by decide) (by decide) he hpl hall hnone hks) fun σ H Q ⟨F, μ, ρ, S, w, S', rs, rst, h, k⟩ => by
    obtain ⟨⟨ws, S1⟩, e1, h⟩ := bind_some h
    obtain ⟨w', e2, h⟩ := bind_some h
    cases h
    refine ⟨F, μ, ρ, S, ws, S1, rs, rst, e1, fun μ1 vs H1 g q => ?_⟩
    obtain ⟨a, ns, rfl, hs, h3⟩ := fInts_inv g.rs e2 q
    cases h3
    refine ⟨a, ns, rfl, rfl, hs, ?_⟩
    cases hm : ns.min? with
    | none => rw [hm] at k; exact k μ1 _ H1 g (dnon.mpr rfl)
    | some v => rw [hm] at k; exact k μ1 _ H1 g (dint.mpr rfl)
end
/-! ### min(t), max(t), t a tuple of ints -/
def rMnT (K : PySem.W.Frag) : List V → Hp → VK → Prop := fun vs H Q => ∃ (a : Addr) (n : Int) (r : List Int), vs = [V.ref a] ∧ SqT K H a ((n :: r).map V.int) ∧ Q (.int (r.foldl min n)) H
def rMxT (K : PySem.W.Frag) : List V → Hp → VK → Prop := fun vs H Q => ∃ (a : Addr) (n : Int) (r : List Int), vs = [V.ref a] ∧ SqT K H a ((n :: r).map V.int) ∧ Q (.int (r.foldl max n)) H
theorem cr_mnT {X : Cx} {j : Nat} (hr : Room j X.A) (hc : X.calm = true) : CallR X (.builtin "min") (rMnT X.K) := by
  intro pins s σ H vs us Q I r h
  obtain ⟨a, n, ns, rfl, hs, q⟩ := h
  obtain rfl := Vals.ref1 r
  obtain ⟨its, rv, ht, hz⟩ := I.tuple hs
  obtain ⟨as, rd⟩ := Dp.readsAll I _ _ _ (dpAll_iws (n :: ns)) rv
  refine PySem.W.min_tuple_data (I.ok.hd hc) (show s.heap.IsTuple a its.toArray from ht) (x := .int n) (xs := ns.map PyData.int) (as := as) (by simpa using rd) (alike_iws (n :: ns)) ?_ (fun i v h' tk bs hv hrd hk => ?_)
  · have := hr.un
    rw [show PyData.depthAll (PyData.int n :: ns.map PyData.int) = 0 from depth_iws (n :: ns)]
    omega
  · rw [PySem.W.minD_ints] at hrd
    cases hrd with
    | int _ t => exact ⟨.int (ns.foldl min n), H, I.kept (t' := tk) hk, ⟨_, rfl⟩, q⟩
theorem cr_mxT {X : Cx} {j : Nat} (hr : Room j X.A) (hc : X.calm = true) : CallR X (.builtin "max") (rMxT X.K) := by
  intro pins s σ H vs us Q I r h
  obtain ⟨a, n, ns, rfl, hs, q⟩ := h
  obtain rfl := Vals.ref1 r
  obtain ⟨its, rv, ht, hz⟩ := I.tuple hs
  obtain ⟨as, rd⟩ := Dp.readsAll I _ _ _ (dpAll_iws (n :: ns)) rv
  refine PySem.W.max_tuple_data (I.ok.hd hc) (show s.heap.IsTuple a its.toArray from ht) (x := .int n) (xs := ns.map PyData.int) (as := as) (by simpa using rd) (alike_iws (n :: ns)) ?_ (fun i v h' tk bs hv hrd hk => ?_)
  · have := hr.un
    rw [show PyData.depthAll (PyData.int n :: ns.map PyData.int) = 0 from depth_iws (n :: ns)]
    omega
  · rw [PySem.W.maxD_ints] at hrd
    cases hrd with
    | int _ t => exact ⟨.int (ns.foldl max n), H, I.kept (t' := tk) hk, ⟨_, rfl⟩, q⟩
def fIntsT (g : List Int → Option W) (_ : Sto) : List W → Option W
  | [.d (.tup ds)] => (intsW (ds.map W.d)).bind fun ns => g ns
  | _ => none
def fMinT := fIntsT fun ns => ns.min?.bind fun m => some (.d (.int m))
def fMaxT := fIntsT fun ns => ns.max?.bind fun m => some (.d (.int m))
section
variable {K : PySem.W.Frag} {F : Addr → Prop} {μ : List Addr} {S : Sto} {H : Hp}
theorem fIntsT_inv {g : List Int → Option W} {ws : List W} {vs : List V} {w : W} (h : fIntsT g S ws = some w) (q : RepWs K μ (NF F μ S) H ws vs) : ∃ a ns, vs = [.ref a] ∧ SqT K H a (ns.map V.int) ∧ g ns = some w := by
  unfold fIntsT at h
  split at h
  · obtain ⟨ns, e2, h⟩ := bind_some h
    obtain ⟨v, rfl, q1⟩ := rep1 q
    obtain ⟨a, xs, rfl, hs, r⟩ := dtup.mp q1
    exact ⟨a, ns, rfl, by rw [← ints_rep e2 (rep_map (μ := μ) r)]; exact hs, h⟩
  · cases h
theorem minT_ok : POk K (rMnT K) fMinT := fun F μ S H ws vs w Q rs h q k => by
  obtain ⟨a, ns, e, hs, h⟩ := fIntsT_inv h q
  obtain ⟨m, e2, h⟩ := bind_some h
  cases h
  cases ns with
  | nil => cases e2
  | cons n r =>
    rw [List.min?_cons'] at e2
    cases e2
    exact ⟨a, n, r, e, hs, pk_int k⟩
theorem maxT_ok : POk K (rMxT K) fMaxT := fun F μ S H ws vs w Q rs h q k => by
  obtain ⟨a, ns, e, hs, h⟩ := fIntsT_inv h q
  obtain ⟨m, e2, h⟩ := bind_some h
  cases h
  cases ns with
  | nil => cases e2
  | cons n r =>
    rw [List.max?_cons'] at e2
    cases e2
    exact ⟨a, n, r, e, hs, pk_int k⟩
end
theorem mc_minT {X : Cx} {e : Expr} {es : List Expr} {ms : Am} {p pos : Pos} {j : Nat} (B : Bl X.mg) (hr : Room j X.A) (hc : X.calm = true) (ha : MA X (e :: es) ms) (hg : Gl X "min" := by rfl)
    (he : starEach (e :: es) X.env = (false, eval e X.env) :: starEach es X.env := by rfl) (hpl : (backTo pos (starEach es X.env)).any (·.1) = false := by rfl) : ME X (.Call (.Name "min" p) (e :: es) [] pos) (prim fMinT ms) :=
  me_callB minT_ok (cr_mnT hr hc) hg B.min (by decide +kernel) ha (by decide) (by decide) he hpl
theorem mc_maxT {X : Cx} {e : Expr} {es : List Expr} {ms : Am} {p pos : Pos} {j : Nat} (B : Bl X.mg) (hr : Room j X.A) (hc : X.calm = true) (ha : MA X (e :: es) ms) (hg : Gl X "max" := by rfl)
    (he : starEach (e :: es) X.env = (false, eval e X.env) :: starEach es X.env := by rfl) (hpl : (backTo pos (starEach es X.env)).any (·.1) = false := by rfl) : ME X (.Call (.Name "max" p) (e :: es) [] pos) (prim fMaxT ms) :=
  me_callB maxT_ok (cr_mxT hr hc) hg B.max (by decide +kernel) ha (by decide) (by decide) he hpl
end GM

set_option Elab.async false
set_option linter.all false
set_option maxRecDepth 100000
set_option maxHeartbeats 4000000
set_option autoImplicit false
namespace GM
open PySem L2 PyProof.Rows
/-! ### sorted(xs), xs a list of tuples that are alike -/
def leD (x y : D) : Bool := PySem.W.dataLe false D.py x y
def tupB : D → Bool
  | .tup (_ :: _) => true
  | _ => false
def okSrt (ds : List D) : Bool := ds.all tupB && ds.all (fun x => decide (PyData.depth x.py ≤ 12)) && ds.all fun x => ds.all fun y => PySem.W.alike x.py y.py
def fSortD (S : Sto) : List W → Option (List W)
  | [x] => (listW S x).bind fun ws => (datas ws).bind fun ds => if okSrt ds = true then some ((ds.mergeSort leD).map W.d) else none
  | _ => none
def rSortD (K : PySem.W.Frag) : List V → Hp → VK → Prop := fun vs H Q => ∃ (a : Addr) (bs : List (D × V)), vs = [V.ref a] ∧ SqL K H a (bs.map (·.2)) ∧ (∀ b ∈ bs, Dp K H b.2 b.1.py) ∧ okSrt (bs.map (·.1)) = true ∧
  ∀ p, H p = none → Q (.ref p) (upd H p (.lst ((bs.mergeSort fun x y => leD x.1 y.1).map (·.2))))
theorem each_vals {K : PySem.W.Frag} {H : Hp} {X : Cx} {pins : List (Addr × Obj)} {σ : L2.St} {s : Shared} (I : Inv X pins σ H s) : ∀ {bs : List (D × V)} {vs : List Value}, Vals (bs.map (·.2)) vs → (∀ b ∈ bs, Dp X.K H b.2 b.1.py) →
    PySem.W.EachIs (fun v b => RelV b.2 v) vs bs ∧ PySem.W.EachIs (fun v b => ∃ as, Reads s.heap v (D.py b.1) as) vs bs
  | [], _, h, _ => by cases h; exact ⟨.nil, .nil⟩
  | b :: bs, _, h, q => by
    cases h with
    | cons h1 h2 =>
      obtain ⟨e1, e2⟩ := each_vals (K := K) I h2 fun c hc => q c (List.mem_cons_of_mem _ hc)
      exact ⟨.cons h1 e1, .cons (Dp.reads I _ _ _ (q b (List.mem_cons_self ..)) h1) e2⟩
theorem vals_each : ∀ {bs : List (D × V)} {vs : List Value}, PySem.W.EachIs (fun v b => RelV b.2 v) vs bs → Vals (bs.map (·.2)) vs
  | _, _, .nil => .nil
  | _, _, .cons h t => .cons h (vals_each t)
theorem cr_sortD {X : Cx} {j : Nat} (hr : Room j X.A) : CallR X (.builtin "sorted") (rSortD X.K) := by
  intro pins s σ H vs us Q I r h
  obtain ⟨a, bs, rfl, hs, hd, hk, q⟩ := h
  obtain ⟨its, rv, hl, hz⟩ := I.list hs
  rw [Vals.ref1 r]
  obtain ⟨e1, e2⟩ := each_vals (K := X.K) I rv hd
  unfold okSrt at hk
  simp only [Bool.and_eq_true, List.all_eq_true, decide_eq_true_eq] at hk
  obtain ⟨⟨k1, k2⟩, k3⟩ := hk
  refine PySem.W.sorted_data (enc := fun b : D × V => D.py b.1) hl.isList e1 e2 ?_ ?_ ?_ ?_ fun out ho he => ?_
  · intro x hx y hy
    obtain ⟨b, hb, rfl⟩ := List.mem_map.mp hx
    obtain ⟨c, hc, rfl⟩ := List.mem_map.mp hy
    exact k3 _ (List.mem_map.mpr ⟨b, hb, rfl⟩) _ (List.mem_map.mpr ⟨c, hc, rfl⟩)
  · refine .inl fun x hx => ?_
    obtain ⟨b, hb, rfl⟩ := List.mem_map.mp hx
    have := k1 _ (List.mem_map.mpr ⟨b, hb, rfl⟩)
    cases e : b.1 with
    | tup ds =>
      cases ds with
      | nil => rw [e] at this; cases this
      | cons d ds => exact ⟨d.py, D.pys ds, by rw [D.py, D.pys]⟩
    | _ => rw [e] at this; cases this
  · have := rv.length
    rw [List.length_map] at this hz
    exact hz
  · intro b hb
    have := k2 _ (List.mem_map.mpr ⟨b, hb, rfl⟩)
    have := hr.un
    show X.A.units + 2 + PyData.depth (D.py b.1) < _
    omega
  · obtain ⟨ep, he'⟩ := PyProof.Rows.sortedAll_at s.heap its out.toArray
    have hlen : ((bs.mergeSort fun x y => leD x.1 y.1).map (·.2)).length ≤ sizeLine := by
      rw [List.length_map, List.length_mergeSort]
      rw [List.length_map] at hz
      exact hz
    exact ⟨.ref _, upd H (s.heap.objs.size + 1) (.lst ((bs.mergeSort fun x y => leD x.1 y.1).map (·.2))), I.laid (t' := s.toks) (fun _ _ => PyProof.Rows.sortedAll_old) (Nat.le_succ _) ⟨hlen, out, ep, vals_each he, he'⟩, rfl, q _ (I.hok.fresh (Nat.le_succ _))⟩
section
variable {K : PySem.W.Frag} {F : Addr → Prop} {μ : List Addr} {S : Sto} {H : Hp} {N : Addr → Prop}
theorem repDs_zip : ∀ {ds : List D} {vs : List V}, RepDs K N H ds vs → ∃ bs : List (D × V), bs.map (·.1) = ds ∧ bs.map (·.2) = vs ∧ ∀ b ∈ bs, RepD K N H b.1 b.2
  | [], vs, h => by rw [RepDs] at h; subst h; exact ⟨[], rfl, rfl, by simp⟩
  | d :: ds, vs, h => by
    rw [RepDs] at h
    obtain ⟨v, r, rfl, h1, h2⟩ := h
    obtain ⟨bs, e1, e2, h3⟩ := repDs_zip h2
    refine ⟨(d, v) :: bs, by rw [List.map_cons, e1], by rw [List.map_cons, e2], fun b hb => ?_⟩
    rcases List.mem_cons.mp hb with rfl | hb
    · exact h1
    · exact h3 b hb
theorem zip_repDs : ∀ {bs : List (D × V)}, (∀ b ∈ bs, RepD K N H b.1 b.2) → RepDs K N H (bs.map (·.1)) (bs.map (·.2))
  | [], _ => by rw [List.map_nil, List.map_nil, RepDs]
  | b :: bs, h => by
    rw [List.map_cons, List.map_cons, RepDs]
    exact ⟨_, _, rfl, h b (List.mem_cons_self ..), zip_repDs fun c hc => h c (List.mem_cons_of_mem _ hc)⟩
theorem sortD_ok : POkF K (rSortD K) fSortD := fun F μ S H ws vs w Q rs h q k => by
  unfold fSortD at h
  split at h
  · obtain ⟨us, e1, h⟩ := bind_some h
    obtain ⟨ds, e2, h⟩ := bind_some h
    obtain ⟨hc, rfl⟩ := ite_m h
    obtain ⟨v, rfl, q1⟩ := rep1 q
    obtain ⟨a, xs, rfl, hs, r⟩ := list_rep rs e1 q1
    have hr : RepDs K (NF F μ S) H ds xs := datas_rep e2 r
    obtain ⟨bs, rfl, rfl, h3⟩ := repDs_zip hr
    refine ⟨a, bs, rfl, hs, fun b hb => dp_of (h3 b hb), hc, fun p hp => ?_⟩
    refine k p _ hp ?_
    rw [show (bs.map (·.1)).mergeSort leD = (bs.mergeSort fun x y => leD x.1 y.1).map (·.1) from (List.map_mergeSort (r := fun x y : D × V => leD x.1 y.1) (s := leD) fun _ _ _ _ => rfl).symm]
    exact rep_map (zip_repDs fun b hb => h3 b ((List.mergeSort_perm bs _).mem_iff.mp hb))
  · cases h
end
theorem mc_sortD {X : Cx} {e : Expr} {es : List Expr} {ms : Am} {p pos : Pos} {j : Nat} (B : Bl X.mg) (hr : Room j X.A) (ha : MA X (e :: es) ms) (hg : Gl X "sorted" := by rfl)
    (he : starEach (e :: es) X.env = (false, eval e X.env) :: starEach es X.env := by rfl) (hpl : (backTo pos (starEach es X.env)).any (·.1) = false := by rfl) : MF X (.Call (.Name "sorted" p) (e :: es) [] pos) (primF fSortD ms) :=
  mf_callB sortD_ok (cr_sortD hr) hg B.sorted (by decide +kernel) ha (by decide) (by decide) he hpl
/-! ### sorted(t), t a tuple of ints -/
def rSortT (K : PySem.W.Frag) : List V → Hp → VK → Prop := fun vs H Q => ∃ (a : Addr) (ns : List Int), vs = [V.ref a] ∧ SqT K H a (ns.map V.int) ∧
  ∀ (ns' : List Int) (p : Addr), ns'.Perm ns → ns'.Pairwise (· ≤ ·) → H p = none → Q (.ref p) (upd H p (.lst (ns'.map V.int)))
theorem cr_sortT {X : Cx} : CallR X (.builtin "sorted") (rSortT X.K) := by
  intro pins s σ H vs us Q I r h
  obtain ⟨a, ns, rfl, hs, q⟩ := h
  obtain ⟨its, rv, ⟨o, ho, hc, n, hd⟩, hz⟩ := I.tuple hs
  rw [Vals.ref1 r]
  have iar := rv.ints
  have len : its.length = ns.length := by have := rv.length; rw [List.length_map] at this; exact this.symm
  have fits : its.length ≤ sizeLine := by rw [List.length_map] at hz; omega
  refine Calls.call_function_entry kind_sorted plain_sorted entry_sorted (args_sorted1 _) ?_
  unfold Builtin.«sorted»
  refine wpAny_bind (m := checkCount "sorted" 1 1 _) (wpAny_pure (wpAny_bind ?_))
  refine wpAny_collect_seq a (.inr rfl) ho hc hd (fun h' hk => ?_) (by rw [List.size_toArray]; exact fits)
  have e : its.toArray.toList = its := by simp
  rw [e]
  have I1 : Inv X pins σ H { s with heap := h' } := I.kept (t' := s.toks) hk
  refine wpAny_bind (wpAny_newList ?_ fits)
  have lo : (h'.push (seqObj "list" its.toArray 0)).get? h'.objs.size = some (seqObj "list" its.toArray 0) := Heap.get?_push_size _ rfl
  refine wpAny_bind (wpAny_holding (wpAny_call_entry slot_list_sort ⟨_, lo, rfl⟩ entry_list_sort (SrtO.list_sort_ord SrtO.swo_int lo fits (fun two => SrtO.ints_sortable iar two) fun out z1 z2 => ⟨_, rfl, ?_⟩) (args_list_sort _)))
  obtain ⟨k2, k3, k4⟩ := SrtO.ints_out iar z1 z2
  obtain ⟨c, hc2⟩ := sortedHeap_at (vs := its) (out := out.toArray) lo
  have hlen : ((out.map SrtO.iv).map V.int).length ≤ sizeLine := by
    rw [List.length_map, k3.length_eq]; omega
  refine wpAny_pure ⟨_, rfl, .ref h'.objs.size, upd H h'.objs.size (.lst ((out.map SrtO.iv).map V.int)), I1.laid (t' := s.toks) (fun b v e1 => ?_) (Nat.le_refl _) ⟨hlen, out, c, vals_of_ints k2, hc2⟩, rfl, q _ _ k3 k4 (I1.hok.fresh (Nat.le_refl _))⟩
  have bl := Heap.lt_size e1
  show (sortedHeap (h'.push (seqObj "list" its.toArray 0)) h'.objs.size its out.toArray).get? b = some v
  rw [sortedHeap_old (Nat.ne_of_lt bl) (by rw [size_push']; exact Nat.lt_succ_of_lt bl)]
  exact Heap.get?_push_of_some _ e1
def fSortT (_ : Sto) : List W → Option (List W)
  | [.d (.tup ds)] => (intsW (ds.map W.d)).bind fun ns => some ((sortI ns).map fun i => W.d (.int i))
  | _ => none
theorem sortT_ok {K : PySem.W.Frag} : POkF K (rSortT K) fSortT := fun F μ S H ws vs w Q rs h q k => by
  unfold fSortT at h
  split at h
  · obtain ⟨ns, e2, h⟩ := bind_some h
    cases h
    obtain ⟨v, rfl, q1⟩ := rep1 q
    obtain ⟨a, xs, rfl, hs, r⟩ := dtup.mp q1
    refine ⟨a, ns, rfl, by rw [← ints_rep e2 (rep_map (μ := μ) r)]; exact hs, fun ns' p g1 g2 hp => ?_⟩
    have : ns' = sortI ns := sorted_unique (g1.trans (sortI_perm ns).symm) g2 (sortI_sorted ns)
    rw [this]
    exact k p _ hp intsRep
  · cases h
theorem mc_sortT {X : Cx} {e : Expr} {es : List Expr} {ms : Am} {p pos : Pos} (B : Bl X.mg) (ha : MA X (e :: es) ms) (hg : Gl X "sorted" := by rfl)
    (he : starEach (e :: es) X.env = (false, eval e X.env) :: starEach es X.env := by rfl) (hpl : (backTo pos (starEach es X.env)).any (·.1) = false := by rfl) : MF X (.Call (.Name "sorted" p) (e :: es) [] pos) (primF fSortT ms) :=
  mf_callB sortT_ok cr_sortT hg B.sorted (by decide +kernel) ha (by decide) (by decide) he hpl
end GM

set_option Elab.async false
set_option linter.all false
set_option maxRecDepth 100000
set_option maxHeartbeats 4000000
set_option autoImplicit false
namespace GM
open PySem L2 PyProof.Rows
/-! ### min(xs), max(xs), xs a list of tuples that are alike -/
/-- data whose form tells itself: no list within -/
def plT : Nat → D → Bool
  | n + 1, .tup ds => ds.all (plT n)
  | _, .int _ => true
  | _, .bl _ => true
  | _, .str _ => true
  | _, .non => true
  | _, _ => false
mutual
def ofPy : PyData → D
  | .none => .non
  | .bool b => .bl b
  | .int i => .int i
  | .str x => .str x
  | .tuple ds => .tup (ofPys ds)
  | .list ds => .lst (ofPys ds)
  | .dict _ => .non
def ofPys : List PyData → List D
  | [] => []
  | d :: ds => ofPy d :: ofPys ds
end
theorem ofPys_pys {p : D → Bool} (h : ∀ x, p x = true → ofPy x.py = x) : ∀ ds : List D, ds.all p = true → ofPys (D.pys ds) = ds
  | [], _ => by rw [D.pys, ofPys]
  | d :: ds, hd => by
    rw [List.all_cons, Bool.and_eq_true] at hd
    rw [D.pys, ofPys, h d hd.1, ofPys_pys h ds hd.2]
theorem ofPy_py : ∀ (n : Nat) (x : D), plT n x = true → ofPy x.py = x := by
  intro n
  induction n with
  | zero =>
    intro x hx
    cases x with
    | tup ds => cases hx
    | lst ds => cases hx
    | scr ds => cases hx
    | _ => rw [D.py, ofPy]
  | succ n ih =>
    intro x hx
    cases x with
    | tup ds =>
      have hx : ds.all (plT n) = true := hx
      rw [D.py, ofPy, ofPys_pys (p := plT n) ih ds hx]
    | lst ds => cases hx
    | scr ds => cases hx
    | _ => rw [D.py, ofPy]
theorem py_inj (n : Nat) (x y : D) (hx : plT n x = true) (hy : plT n y = true) (h : x.py = y.py) : x = y := by
  rw [← ofPy_py n x hx, h, ofPy_py n y hy]
def ltD (x y : D) : Bool := PySem.W.dataLt x.py y.py
def minDD (d : D) (r : List D) : D := r.foldl (fun a y => if ltD y a = true then y else a) d
def maxDD (d : D) (r : List D) : D := r.foldl (fun a y => if ltD a y = true then y else a) d
theorem minDD_py : ∀ (r : List D) (d : D), (minDD d r).py = PySem.W.minD d.py (r.map D.py)
  | [], d => rfl
  | y :: r, d => by
    show (minDD (if ltD y d = true then y else d) r).py = PySem.W.minD (if PySem.W.dataLt y.py d.py then y.py else d.py) (r.map D.py)
    rw [minDD_py r]
    unfold ltD
    split <;> rfl
theorem maxDD_py : ∀ (r : List D) (d : D), (maxDD d r).py = PySem.W.maxD d.py (r.map D.py)
  | [], d => rfl
  | y :: r, d => by
    show (maxDD (if ltD d y = true then y else d) r).py = PySem.W.maxD (if PySem.W.dataLt d.py y.py then y.py else d.py) (r.map D.py)
    rw [maxDD_py r]
    unfold ltD
    split <;> rfl
theorem minDD_mem : ∀ (r : List D) (d : D), minDD d r ∈ d :: r
  | [], d => List.mem_cons_self ..
  | y :: r, d => by
    show minDD (if ltD y d = true then y else d) r ∈ _
    have := minDD_mem r (if ltD y d = true then y else d)
    rcases List.mem_cons.mp this with h | h
    · rw [h]; split <;> simp
    · exact List.mem_cons_of_mem _ (List.mem_cons_of_mem _ h)
theorem maxDD_mem : ∀ (r : List D) (d : D), maxDD d r ∈ d :: r
  | [], d => List.mem_cons_self ..
  | y :: r, d => by
    show maxDD (if ltD d y = true then y else d) r ∈ _
    have := maxDD_mem r (if ltD d y = true then y else d)
    rcases List.mem_cons.mp this with h | h
    · rw [h]; split <;> simp
    · exact List.mem_cons_of_mem _ (List.mem_cons_of_mem _ h)
def rMmD (K : PySem.W.Frag) (f : PyData → List PyData → PyData) : List V → Hp → VK → Prop := fun vs H Q => ∃ (a : Addr) (b : D × V) (bs : List (D × V)), vs = [V.ref a] ∧ SqL K H a ((b :: bs).map (·.2)) ∧ (∀ c ∈ b :: bs, Dp K H c.2 c.1.py) ∧ okSrt ((b :: bs).map (·.1)) = true ∧
  ∀ c ∈ b :: bs, c.1.py = f b.1.py ((bs.map (·.1)).map D.py) → Q c.2 H
theorem depths_le : ∀ {l : List D}, (∀ x ∈ l, PyData.depth x.py ≤ 12) → PyData.depthAll (l.map D.py) ≤ 12
  | [], _ => by simp [PyData.depthAll]
  | x :: l, h => by
    rw [List.map_cons, PyData.depthAll]
    have := h x (List.mem_cons_self ..)
    have := depths_le (l := l) fun y hy => h y (List.mem_cons_of_mem _ hy)
    omega
section
variable {X : Cx} {pins : List (Addr × Obj)} {σ : L2.St} {H : Hp} {s : Shared}
theorem okSrt_parts {l : List D} (h : okSrt l = true) : PySem.W.AlikeAll (l.map D.py) ∧ PyData.depthAll (l.map D.py) ≤ 12 := by
  unfold okSrt at h
  simp only [Bool.and_eq_true, List.all_eq_true, decide_eq_true_eq] at h
  obtain ⟨⟨k1, k2⟩, k3⟩ := h
  refine ⟨⟨fun x hx y hy => ?_, fun x hx => ?_⟩, depths_le k2⟩
  · obtain ⟨b, hb, rfl⟩ := List.mem_map.mp hx
    obtain ⟨c, hc, rfl⟩ := List.mem_map.mp hy
    exact k3 b hb c hc
  · obtain ⟨b, hb, rfl⟩ := List.mem_map.mp hx
    have := k1 b hb
    cases b with
    | tup ds => rw [D.py]; exact fun z => nomatch z
    | _ => cases this
theorem vals_at {bs : List (D × V)} {its : List Value} (rv : Vals (bs.map (·.2)) its) {i : Nat} {v : Value} (h : its[i]? = some v) : ∃ c, c ∈ bs ∧ RelV c.2 v := by
  have hl := rv.length
  rw [List.length_map] at hl
  have hi := (List.getElem?_eq_some_iff.mp h).1
  have e : (bs.map (·.2))[i]? = some (bs[i]'(by omega)).2 := by rw [List.getElem?_map, List.getElem?_eq_getElem (by omega)]; rfl
  obtain ⟨u, h1, h2⟩ := rv.get e
  rw [h] at h1
  cases h1
  exact ⟨_, List.getElem_mem _, h2⟩
theorem cr_minDt {j : Nat} (hr : Room j X.A) (hc : X.calm = true) : CallR X (.builtin "min") (rMmD X.K PySem.W.minD) := by
  intro pins s σ H vs us Q I r h
  obtain ⟨a, b, bs, rfl, hs, hd, hk, q⟩ := h
  obtain rfl := Vals.ref1 r
  obtain ⟨its, rv, hl, hz⟩ := I.list hs
  obtain ⟨e1, e2⟩ := each_vals (K := X.K) I rv hd
  obtain ⟨as, rd⟩ := PySem.W.each_readsAll (fun b : D × V => D.py b.1) e2
  have em : (b :: bs).map (fun b : D × V => D.py b.1) = D.py b.1 :: (bs.map (·.1)).map D.py := by rw [List.map_cons, List.map_map]; rfl
  rw [em] at rd
  obtain ⟨k1, k2⟩ := okSrt_parts hk
  have em2 : ((b :: bs).map (·.1)).map D.py = D.py b.1 :: (bs.map (·.1)).map D.py := rfl
  rw [em2] at k1 k2
  refine PySem.W.min_list_data (I.ok.hd hc) hl.isList (as := as) (by simpa using rd) k1 (by have := hr.un; omega) fun i v h' tk bs' hv hrd hk' => ?_
  obtain ⟨c, hc1, hc2⟩ := vals_at rv (i := i) (v := v) (by simpa using hv)
  obtain ⟨as1, r1⟩ := Dp.reads I _ _ _ (hd c hc1) hc2
  have := (reads_det (fun b o e _ => hk' b o e) r1 hrd).1
  exact ⟨c.2, H, I.kept (t' := tk) hk', hc2, q c hc1 this.symm⟩
theorem cr_maxDt {j : Nat} (hr : Room j X.A) (hc : X.calm = true) : CallR X (.builtin "max") (rMmD X.K PySem.W.maxD) := by
  intro pins s σ H vs us Q I r h
  obtain ⟨a, b, bs, rfl, hs, hd, hk, q⟩ := h
  obtain rfl := Vals.ref1 r
  obtain ⟨its, rv, hl, hz⟩ := I.list hs
  obtain ⟨e1, e2⟩ := each_vals (K := X.K) I rv hd
  obtain ⟨as, rd⟩ := PySem.W.each_readsAll (fun b : D × V => D.py b.1) e2
  have em : (b :: bs).map (fun b : D × V => D.py b.1) = D.py b.1 :: (bs.map (·.1)).map D.py := by rw [List.map_cons, List.map_map]; rfl
  rw [em] at rd
  obtain ⟨k1, k2⟩ := okSrt_parts hk
  have em2 : ((b :: bs).map (·.1)).map D.py = D.py b.1 :: (bs.map (·.1)).map D.py := rfl
  rw [em2] at k1 k2
  refine PySem.W.max_list_data (I.ok.hd hc) hl.isList (as := as) (by simpa using rd) k1 (by have := hr.un; omega) fun i v h' tk bs' hv hrd hk' => ?_
  obtain ⟨c, hc1, hc2⟩ := vals_at rv (i := i) (v := v) (by simpa using hv)
  obtain ⟨as1, r1⟩ := Dp.reads I _ _ _ (hd c hc1) hc2
  have := (reads_det (fun b o e _ => hk' b o e) r1 hrd).1
  exact ⟨c.2, H, I.kept (t' := tk) hk', hc2, q c hc1 this.symm⟩
end
def mmD (f : D → List D → D) : List D → Option D
  | [] => none
  | d :: r => if okSrt (d :: r) = true ∧ (d :: r).all (plT 12) = true then some (f d r) else none
def fMmD (f : D → List D → D) (S : Sto) : List W → Option W
  | [x] => (listW S x).bind fun ws => (datas ws).bind fun ds => (mmD f ds).bind fun d => some (.d d)
  | _ => none
section
variable {K : PySem.W.Frag}
theorem mmD_ok {g : PyData → List PyData → PyData} {f : D → List D → D} (hf : ∀ d r, (f d r).py = g d.py (r.map D.py)) (hm : ∀ d r, f d r ∈ d :: r) : POk K (rMmD K g) (fMmD f) := fun F μ S H ws vs w Q rs h q k => by
  unfold fMmD at h
  split at h
  · obtain ⟨us, e1, h⟩ := bind_some h
    obtain ⟨ds, e2, h⟩ := bind_some h
    obtain ⟨d0, e3, h⟩ := bind_some h
    cases h
    obtain ⟨v, rfl, q1⟩ := rep1 q
    obtain ⟨a, xs, rfl, hs, r⟩ := list_rep rs e1 q1
    have hr : RepDs K (NF F μ S) H ds xs := datas_rep e2 r
    obtain ⟨bs, rfl, rfl, h3⟩ := repDs_zip hr
    cases bs with
    | nil => cases e3
    | cons b bs =>
      obtain ⟨⟨c1, c2⟩, rfl⟩ := ite_m e3
      refine ⟨a, b, bs, rfl, hs, fun c hc => dp_of (h3 c hc), c1, fun c hc e => ?_⟩
      have e : c.1.py = (f b.1 (bs.map (·.1))).py := by rw [hf]; exact e
      rw [List.all_eq_true] at c2
      have : c.1 = f b.1 (bs.map (·.1)) := py_inj 12 _ _ (c2 _ (List.mem_map.mpr ⟨c, hc, rfl⟩)) (c2 _ (hm _ _)) e
      refine k c.2 H Fr.refl ?_
      rw [← this]
      exact h3 c hc
  · cases h
end
theorem mc_minDt {X : Cx} {e : Expr} {es : List Expr} {ms : Am} {p pos : Pos} {j : Nat} (B : Bl X.mg) (hr : Room j X.A) (hc : X.calm = true) (ha : MA X (e :: es) ms) (hg : Gl X "min" := by rfl)
    (he : starEach (e :: es) X.env = (false, eval e X.env) :: starEach es X.env := by rfl) (hpl : (backTo pos (starEach es X.env)).any (·.1) = false := by rfl) : ME X (.Call (.Name "min" p) (e :: es) [] pos) (prim (fMmD minDD) ms) :=
  me_callB (mmD_ok (fun d r => minDD_py r d) (fun d r => minDD_mem r d)) (cr_minDt hr hc) hg B.min (by decide +kernel) ha (by decide) (by decide) he hpl
theorem mc_maxDt {X : Cx} {e : Expr} {es : List Expr} {ms : Am} {p pos : Pos} {j : Nat} (B : Bl X.mg) (hr : Room j X.A) (hc : X.calm = true) (ha : MA X (e :: es) ms) (hg : Gl X "max" := by rfl)
    (he : starEach (e :: es) X.env = (false, eval e X.env) :: starEach es X.env := by rfl) (hpl : (backTo pos (starEach es X.env)).any (·.1) = false := by rfl) : ME X (.Call (.Name "max" p) (e :: es) [] pos) (prim (fMmD maxDD) ms) :=
  me_callB (mmD_ok (fun d r => maxDD_py r d) (fun d r => maxDD_mem r d)) (cr_maxDt hr hc) hg B.max (by decide +kernel) ha (by decide) (by decide) he hpl
end GM

set_option Elab.async false
set_option linter.all false
set_option maxRecDepth 100000
set_option maxHeartbeats 4000000
set_option autoImplicit false
namespace GM
open PySem L2 PyProof.Rows PyProof.V
/-! ### sum(t), t a tuple of ints -/
def rSumT (K : PySem.W.Frag) : List V → Hp → VK → Prop := fun vs H Q => ∃ (a : Addr) (ns : List Int), vs = [V.ref a] ∧ SqT K H a (ns.map V.int) ∧ Q (.int ns.sum) H
theorem cr_sumT {X : Cx} (hc : X.calm = true) : CallR X (.builtin "sum") (rSumT X.K) := by
  intro pins s σ H vs us Q I r h
  obtain ⟨a, ns, rfl, hs, q⟩ := h
  rw [Vals.ref1 r]
  obtain ⟨its, rv, ht, hz⟩ := I.tuple hs
  have hi := rv.ints
  have tup : s.heap.IsTuple a its.toArray := ht
  obtain ⟨xs, hx⟩ := hi.allInts.items
  have nums : numsOf its = ns := hi.numsOf
  have e : its = (intItems xs).toList := by rw [← hx]
  rw [hx] at tup
  rw [e, nums_intItems] at nums
  refine PySem.W.ktm_sumG (I.ok.hd hc) tup fun h' tk t' hk => ?_
  rw [preSum_eq, List.take_of_length_le (by simp), nums]
  exact ⟨.int _, H, I.kept hk, ⟨_, rfl⟩, q⟩
def fSumT := fIntsT fun ns => some (.d (.int ns.sum))
theorem sumT_ok {K : PySem.W.Frag} : POk K (rSumT K) fSumT := fun F μ S H ws vs w Q rs h q k => by
  obtain ⟨a, ns, e, hs, h⟩ := fIntsT_inv h q
  cases h
  exact ⟨a, ns, e, hs, pk_int k⟩
theorem mc_sumT {X : Cx} {e : Expr} {es : List Expr} {ms : Am} {p pos : Pos} (B : Bl X.mg) (hc : X.calm = true) (ha : MA X (e :: es) ms) (hg : Gl X "sum" := by rfl)
    (he : starEach (e :: es) X.env = (false, eval e X.env) :: starEach es X.env := by rfl) (hpl : (backTo pos (starEach es X.env)).any (·.1) = false := by rfl) : ME X (.Call (.Name "sum" p) (e :: es) [] pos) (prim fSumT ms) :=
  me_callB sumT_ok (cr_sumT hc) hg B.sum (by decide +kernel) ha (by decide) (by decide) he hpl
end GM

set_option Elab.async false
set_option linter.all false
set_option maxRecDepth 100000
set_option maxHeartbeats 4000000
set_option autoImplicit false
namespace GM
open PySem PySem.Spec L2 PyProof.Rows
/-! ### sets of ints that are filled one by one (for set comprehensions; under way) -/
/-- the set at a: just the members of acc -/
def AccR (w : World) (h : Heap) (a : Addr) (acc : List Int) : Prop := ∃ c, c ≤ acc.length ∧ SetR w h a (fun j => decide (j ∈ acc)) c
def SetAcc (w : World) (a : Addr) (acc : List Int) : HO := .ext fun h => AccR w h a acc
theorem setAcc_obj {w : World} {P : Program} {H : Hp} {h : Heap} {a : Addr} {acc : List Int} (R : AccR w h a acc) : ObjOk P w H h a (SetAcc w a acc) := by
  have ⟨c, hc, o, es, ep, t, ho, rest⟩ := R
  exact ⟨R, ⟨o, ho⟩, fun h1 h2 ⟨c, hc, p⟩ k => ⟨c, hc, SetR.at p k⟩⟩
section
variable {X : Cx} {pins : List (Addr × Obj)} {σ : L2.St} {H : Hp} {s : Shared}
theorem setAcc_get {a : Addr} {acc : List Int} (I : Inv X pins σ H s) (ha : H a = some (SetAcc X.w a acc)) : AccR X.w s.heap a acc := (I.hok a _ ha).1
theorem setAcc_add {E : Value → Shared → Prop} {D : Addr} {acc : List Int} {k : Int} {v : Value} {Q : Value → Shared → Prop} (I : Inv X pins σ H s) (hD : H D = some (SetAcc X.w D acc)) (hv : RelV (.int k) v) (room : acc.length + 1 < scanBound)
    (h : ∀ s', Inv X pins σ (upd H D (SetAcc X.w D (acc ++ [k]))) s' → Q .none s') : wpAny (model X.prog X.w) X.A (call (.builtin "set.add") [.ref D, v]) Q E s := by
  obtain ⟨c, hc, R⟩ := setAcc_get I hD
  obtain ⟨tk, rfl⟩ := hv
  refine setR_add R (by omega) fun h' sb new => ?_
  have R2 : AccR X.w h' D (acc ++ [k]) := by
    refine ⟨_, ?_, new.congr fun j => ?_⟩
    · rw [List.length_append, List.length_singleton]
      split <;> omega
    · simp [List.mem_append]
  have he : ∃ u, h'.get? D = some u := by
    have ⟨_, _, o, _, _, _, ho, _⟩ := R2
    exact ⟨o, ho⟩
  exact h _ (I.write (e := D) (t' := s.toks + 1) (by rw [hD]; trivial) (.inl rfl) (fun b u hb hu => (sb.2 b hb).trans hu) he (setAcc_obj R2))
end
/-! ### a set comprehension with two clauses: its loops -/
section
variable {prog : Program} {w : World} {A : Around} {R : Result → Shared → Prop} {s : Shared} {elt t0 i0 t1 i1 : Expr} {ifs0 ifs1 : List Expr} {scope : Scope} {pos : Pos} {it acc : Value} {env : Env}
abbrev sx2 (elt t0 i0 t1 i1 : Expr) (ifs0 ifs1 : List Expr) (scope : Scope) (pos : Pos) : Expr := .SetComp elt [⟨t0, i0, ifs0, 0⟩, ⟨t1, i1, ifs1, 0⟩] scope pos
/-- one turn's head: the next item, stored and tested -/
def Hd (prog : Program) (w : World) (A : Around) (it : Value) (tg : Expr) (ifs : List Expr) (env : Env) (E1 : Value → Shared → Prop) (stop yes no : Shared → Prop) (s : Shared) : Prop :=
  wpAny (model prog w) A (pyNext it) (fun r u => match r with
    | none => stop u
    | some v => wpAny (model prog w) A (letOwnedTupleGo tg it v) (fun _ u => wpAny (model prog w) A (assign tg env v) (fun _ u =>
        wpAny (model prog w) A (forIn ifs true fun c r => if r = true then do let ok ← isTrue c env (eval c env); pure (ForInStep.yield ok) else pure (ForInStep.yield r)) (fun ok u => if ok = true then yes u else no u) E1 u) E1 u) E1 u) E1 s
theorem sturn_out : compTurn (sx2 elt t0 i0 t1 i1 ifs0 ifs1 scope pos) 0 it acc env = (do
      standAt i0.pos
      match ← pyNext it with
      | none => pure (.done .next)
      | some v =>
        letOwnedTupleGo t0 it v
        assign t0 env v
        let mut ok := true
        for c in ifs0 do
          if ok then ok ← isTrue c env (eval c env)
        if ok then
          let src ← eval i1 env
          standAt i1.pos
          let src ← foldedSetIterable i1 env src
          let _ ← runOwn (.compStart (sx2 elt t0 i0 t1 i1 ifs0 ifs1 scope pos) 1 (← holding [src] (pyIter src)) acc env) env
        again (.compLoop (sx2 elt t0 i0 t1 i1 ifs0 ifs1 scope pos) 0 it acc env)) := by rfl
theorem sturn_in : compTurn (sx2 elt t0 i0 t1 i1 ifs0 ifs1 scope pos) 1 it acc env = (do
      standAt i1.pos
      match ← pyNext it with
      | none => pure (.done .next)
      | some v =>
        letOwnedTupleGo t1 it v
        assign t1 env v
        let mut ok := true
        for c in ifs1 do
          if ok then ok ← isTrue c env (eval c env)
        if ok then
          (do let y ← eval elt env; standAt elt.pos; let _ ← call (.builtin "set.add") [acc, y])
        again (.compLoop (sx2 elt t0 i0 t1 i1 ifs0 ifs1 scope pos) 1 it acc env)) := by rfl
theorem sloop_out (hs : ∀ x, foldedSetIterable i1 env x = pure x) (I : Nat → Shared → Prop)
    (turn : ∀ n s, I n s → Hd prog w A it t0 ifs0 env (notedBy (model prog w) A env fun e u => R (.error e) u) (fun u => R (.ok .next) u)
      (fun u => wpAny (model prog w) A (eval i1 env) (fun x u => wpAny (model prog w) A (pyIter x) (fun it1 u => codeAny (model prog w) A (.compStart (sx2 elt t0 i0 t1 i1 ifs0 ifs1 scope pos) 1 it1 acc env) (fun r u => match r with
        | .ok _ => ∃ m, m < n ∧ I m u
        | .error _ => False) u) (notedBy (model prog w) A env fun e u => R (.error e) u) u) (notedBy (model prog w) A env fun e u => R (.error e) u) u)
      (fun u => ∃ m, m < n ∧ I m u) s)
    (n : Nat) (h : I n s) : codeAny (model prog w) A (.compLoop (sx2 elt t0 i0 t1 i1 ifs0 ifs1 scope pos) 0 it acc env) R s := by
  refine codeAny_loop rfl I (fun n s hI => ?_) n h
  show wpAny _ A ((compTurn (sx2 elt t0 i0 t1 i1 ifs0 ifs1 scope pos) 0 it acc env).onRaise _) _ _ s
  refine wpAny_noted ?_
  rw [sturn_out]
  refine wpAny_bind (wpAny_standAt (wpAny_bind (wpAny_mono (turn n s hI) (fun r u k1 => ?_) fun _ _ z => z)))
  cases r with
  | none => exact wpAny_pure k1
  | some v =>
    refine wpAny_bind (wpAny_mono k1 (fun _ u k2 => ?_) fun _ _ z => z)
    refine wpAny_bind (wpAny_mono k2 (fun _ u k3 => wpAny_bind (wpAny_mono k3 (fun ok u k4 => ?_) fun _ _ z => z)) fun _ _ z => z)
    cases ok with
    | false => exact wpAny_pure ⟨rfl, k4⟩
    | true =>
      refine wpAny_bind (wpAny_mono k4 (fun x u k5 => ?_) fun _ _ z => z)
      refine wpAny_bind (wpAny_standAt (wpAny_bind (wpAny_of_eq (hs x) (wpAny_bind (wpAny_holding (wpAny_mono k5 (fun it1 u k6 => ?_) fun _ _ z => z))))))
      refine wpAny_bind (wpAny_runOwn ?_)
      rw [Around.mark_none]
      refine codeAny_mono k6 fun r u k7 => ?_
      cases r with
      | ok f => first | exact wpAny_pure ⟨rfl, k7⟩ | exact wpAny_bind (wpAny_pure (wpAny_pure ⟨rfl, k7⟩))
      | error e => exact k7.elim
theorem sloop_in (I : Nat → Shared → Prop)
    (turn : ∀ n s, I n s → Hd prog w A it t1 ifs1 env (notedBy (model prog w) A env fun e u => R (.error e) u) (fun u => R (.ok .next) u)
      (fun u => wpAny (model prog w) A (eval elt env) (fun y u => wpAny (model prog w) A (call (.builtin "set.add") [acc, y]) (fun _ u => ∃ m, m < n ∧ I m u) (notedBy (model prog w) A env fun e u => R (.error e) u) u) (notedBy (model prog w) A env fun e u => R (.error e) u) u)
      (fun u => ∃ m, m < n ∧ I m u) s)
    (n : Nat) (h : I n s) : codeAny (model prog w) A (.compLoop (sx2 elt t0 i0 t1 i1 ifs0 ifs1 scope pos) 1 it acc env) R s := by
  refine codeAny_loop rfl I (fun n s hI => ?_) n h
  show wpAny _ A ((compTurn (sx2 elt t0 i0 t1 i1 ifs0 ifs1 scope pos) 1 it acc env).onRaise _) _ _ s
  refine wpAny_noted ?_
  rw [sturn_in]
  refine wpAny_bind (wpAny_standAt (wpAny_bind (wpAny_mono (turn n s hI) (fun r u k1 => ?_) fun _ _ z => z)))
  cases r with
  | none => exact wpAny_pure k1
  | some v =>
    refine wpAny_bind (wpAny_mono k1 (fun _ u k2 => ?_) fun _ _ z => z)
    refine wpAny_bind (wpAny_mono k2 (fun _ u k3 => wpAny_bind (wpAny_mono k3 (fun ok u k4 => ?_) fun _ _ z => z)) fun _ _ z => z)
    cases ok with
    | false => exact wpAny_pure ⟨rfl, k4⟩
    | true =>
      exact wpAny_bind (wpAny_bind (wpAny_mono k4 (fun y u k5 => wpAny_bind (wpAny_standAt (wpAny_bind (wpAny_mono k5 (fun _ u k6 => wpAny_pure (wpAny_pure ⟨rfl, k6⟩)) fun _ _ z => z)))) fun _ _ z => z))
/-- the second clause begins -/
theorem sstart1 (h0 : codeAny (model prog w) A (.compLoop (sx2 elt t0 i0 t1 i1 ifs0 ifs1 scope pos) 1 it acc env) R s)
    (h : wpAny (model prog w) A (pyIter it) (fun it1 u => codeAny (model prog w) A (.compLoop (sx2 elt t0 i0 t1 i1 ifs0 ifs1 scope pos) 1 it1 acc env) R u) (notedBy (model prog w) A env fun e u => R (.error e) u) s) :
    codeAny (model prog w) A (.compStart (sx2 elt t0 i0 t1 i1 ifs0 ifs1 scope pos) 1 it acc env) R s := by
  refine codeAny_of_tree ?_
  show wpAny _ _ ((compStart (sx2 elt t0 i0 t1 i1 ifs0 ifs1 scope pos) 1 it acc env).onRaise _) _ _ s
  refine wpAny_notedAt ?_
  unfold compStart
  show wpAny _ _ (ask >>= _) _ _ s
  refine wpAny_bind (wpAny_askSetting (wpAny_ite ?_))
  split
  · first | exact wpAny_bind (wpAny_pure (wpAny_pure ⟨rfl, h0⟩)) | exact wpAny_pure ⟨rfl, h0⟩
  · refine wpAny_bind (wpAny_rule ?_)
    show wpAny _ _ (standAt i1.pos >>= _) _ _ s
    exact wpAny_bind (wpAny_standAt (wpAny_bind (wpAny_mono h (fun it1 u z => wpAny_pure ⟨rfl, z⟩) fun _ _ z => z)))
end
end GM

set_option Elab.async false
set_option linter.all false
set_option maxRecDepth 100000
set_option maxHeartbeats 4000000
set_option autoImplicit false
namespace GM
open PySem PySem.Spec L2 PyProof.Rows
/-! ### {elt for tg in it if .. for tg1 in it1 if ..} of ints -/
section
variable {X : Cx}
def tS2 (w : World) (wi : TI) (g : TG) (tt : TT) (wi1 : TI) (g1 : TG) (tt1 : TT) (te : TE) (vs vs1 : List Nat) : TE := fun σ H Q => wi σ H fun J H1 => ∀ D, H1 D = none →
  ∃ W : Nat → Nat → Hp → Prop, (∃ m, W 0 m (upd H1 D (SetAcc w D []))) ∧ ∀ i m H, W i m H → (J.stop i H ∧ Q (.ref D) H) ∨ (J.go i H ∧ ∃ Nx : Hp → Prop, (∀ H', Nx H' → ∃ m', m' < m ∧ W (i + 1) m' H') ∧
    ∀ x H', J.yld i H x H' → g x (wipe σ vs) H' fun σ2 H2 => wipe σ2 vs = wipe σ vs ∧ tt σ2 H2 fun b H3 => if b = true then wi1 σ2 H3 fun J1 H4 =>
      ∃ W1 : Nat → Nat → Hp → Prop, (∃ m, W1 0 m H4) ∧ ∀ j k H, W1 j k H → (J1.stop j H ∧ Nx H) ∨ (J1.go j H ∧ ∃ Nx1 : Hp → Prop, (∀ H', Nx1 H' → ∃ k', k' < k ∧ W1 (j + 1) k' H') ∧
        ∀ x H', J1.yld j H x H' → g1 x (wipe σ2 vs1) H' fun σ3 H5 => wipe σ3 vs1 = wipe σ2 vs1 ∧ tt1 σ3 H5 fun b H6 => if b = true then te σ3 H6 fun y H7 =>
          ∃ (k : Int) (acc : List Int), y = .int k ∧ H7 D = some (SetAcc w D acc) ∧ acc.length + 1 < scanBound ∧ Nx1 (upd H7 D (SetAcc w D (acc ++ [k]))) else Nx1 H6) else Nx H3)
theorem accR_fresh {w : World} {h : Heap} : AccR w (h.push { cls := .type "set", dict := none, data := .set #[] 0 (.fresh 0 0 (!w.params.followText "set-order")) }) h.objs.size [] :=
  ⟨0, Nat.le_refl _, (setR_fresh (h := h) w).congr fun j => by simp⟩
variable {elt tg iter tg1 iter1 : Expr} {ifs ifs1 : List Expr} {scope : Scope} {own : List (Str × Nat)} {vs1 : List Nat} {pos : Pos} {wi wi1 : TI} {g g1 : TG} {tt tt1 : TT} {te : TE}
theorem pe_s2 (calm : X.calm = true) (nod : X.N.Nodup) (hi : PI X tg iter wi) (ok : BlkOk X.N X.env.scope scope own) (sub : ∀ i ∈ vs1, i ∈ own.map (·.2))
    (hg : ∀ (s : Shared) (H : Hp) (C : Addr) (cl : List (Str × Addr)) (fp : List Addr), PG (X.blk s H scope (compEnvC scope cl C X.env) fp) tg g) (ht : ∀ (s : Shared) (H : Hp) (C : Addr) (cl : List (Str × Addr)) (fp : List Addr), PTs (X.blk s H scope (compEnvC scope cl C X.env) fp) ifs tt)
    (hi1 : ∀ (s : Shared) (H : Hp) (C : Addr) (cl : List (Str × Addr)) (fp : List Addr), PI (X.blk s H scope (compEnvC scope cl C X.env) fp) tg1 iter1 wi1)
    (hg1 : ∀ (s : Shared) (H : Hp) (C : Addr) (cl : List (Str × Addr)) (fp : List Addr), PG (X.blk s H scope (compEnvC scope cl C X.env) fp) tg1 g1) (ht1 : ∀ (s : Shared) (H : Hp) (C : Addr) (cl : List (Str × Addr)) (fp : List Addr), PTs (X.blk s H scope (compEnvC scope cl C X.env) fp) ifs1 tt1)
    (he : ∀ (s : Shared) (H : Hp) (C : Addr) (cl : List (Str × Addr)) (fp : List Addr), PE (X.blk s H scope (compEnvC scope cl C X.env) fp) elt te) (fold0 : ∀ x, foldedSetIterable iter X.env x = pure x := by intro _; rfl) (fold1 : ∀ env x, foldedSetIterable iter1 env x = pure x := by intro _ _; rfl) :
    PE X (sx2 elt tg iter tg1 iter1 ifs ifs1 scope pos) (tS2 X.w wi g tt wi1 g1 tt1 te (own.map (·.2)) vs1) := by
  refine ⟨fun pins s σ H Q I h => ?_⟩
  rw [PpSet.eval_SetComp]
  have free : ∀ y ∈ scope.names, y.2 = .free → ∃ c, X.env.cells.lookup y.1 = some c := fun y hy e => (ok.free y hy e).elim (fun k => I.ok.has _ (.inl k)) fun k => I.ok.has _ (.inr k)
  refine wpAny_comprehension_free rfl fold0 (closure_ok free) ok.kind (fun y hy e => by rw [ok.uniq y hy, e]) (thn (hi.run pins s σ H _ I h) fun _ u1 hx => thn hx fun _ u2 h2 => ?_)
  obtain ⟨i0, fp, tn, J, G2, rfl, I2, T, st2, f2, q⟩ := h2
  refine PpSet.newSet_ok (newEnv_comp ?_)
  generalize hD : u2.heap.objs.size = D
  have none2 : G2 D = none := I2.hok.fresh (Nat.le_of_eq hD)
  obtain ⟨W, ⟨m0, w0⟩, turn⟩ := q D none2
  generalize hu3 : ({ u2 with heap := u2.heap.push { cls := .type "set", dict := none, data := .set #[] 0 (.fresh 0 0 (!X.w.params.followText "set-order")) } } : Shared) = u3
  have heap3 : u3.heap = u2.heap.push { cls := .type "set", dict := none, data := .set #[] 0 (.fresh 0 0 (!X.w.params.followText "set-order")) } := by rw [← hu3]
  have I3 : Inv X pins σ (upd G2 D (SetAcc X.w D [])) u3 := by
    rw [← hu3]
    exact I2.laid (t' := u2.toks) (fun b o e => Heap.get?_push_of_some _ e) (Nat.le_of_eq hD) (by rw [← hD]; exact setAcc_obj accR_fresh)
  have f3 : ∀ b ∈ fp, FpOk X pins (upd G2 D (SetAcc X.w D [])) b ∧ b < u3.heap.objs.size := fun b hb => by
    obtain ⟨o, e, _⟩ := T.obj _ _ st2 b hb
    have lt := Heap.lt_size e
    exact ⟨⟨by rw [upd_ne (by rw [← hD]; exact Nat.ne_of_lt lt)]; exact (f2 b hb).1, (f2 b hb).2⟩, by rw [heap3, Heap.size_push]; exact Nat.lt_succ_of_lt lt⟩
  have st3 : tn 0 u3.heap := T.keep _ _ _ st2 fun b _ o e => by rw [heap3]; exact Heap.get?_push_of_some _ e
  have I4 := block_start I3 ok nod f3
  have pg := hg u3 (upd G2 D (SetAcc X.w D [])) u3.heap.objs.size (cellsFrom (u3.heap.objs.size + 1) scope.names (cloFrom X.env.cells scope.names [])) fp
  have pt := ht u3 (upd G2 D (SetAcc X.w D [])) u3.heap.objs.size (cellsFrom (u3.heap.objs.size + 1) scope.names (cloFrom X.env.cells scope.names [])) fp
  have pe := he u3 (upd G2 D (SetAcc X.w D [])) u3.heap.objs.size (cellsFrom (u3.heap.objs.size + 1) scope.names (cloFrom X.env.cells scope.names [])) fp
  have pi1 := hi1 u3 (upd G2 D (SetAcc X.w D [])) u3.heap.objs.size (cellsFrom (u3.heap.objs.size + 1) scope.names (cloFrom X.env.cells scope.names [])) fp
  have pg1 := hg1 u3 (upd G2 D (SetAcc X.w D [])) u3.heap.objs.size (cellsFrom (u3.heap.objs.size + 1) scope.names (cloFrom X.env.cells scope.names [])) fp
  have pt1 := ht1 u3 (upd G2 D (SetAcc X.w D [])) u3.heap.objs.size (cellsFrom (u3.heap.objs.size + 1) scope.names (cloFrom X.env.cells scope.names [])) fp
  show codeAny _ _ (.compStart (sx2 elt tg iter tg1 iter1 ifs ifs1 scope pos) 0 (.ref i0) (.ref D) (compEnvC scope (cellsFrom (u3.heap.objs.size + 1) scope.names (cloFrom X.env.cells scope.names [])) u3.heap.objs.size X.env)) _ { u3 with heap := pushCells (u3.heap.push { cls := .type "dict", data := .dict #[] }) scope.names }
  have nfp : ∀ b ∈ fp, (upd G2 D (SetAcc X.w D [])) b = none := fun b hb => (f3 b hb).1.1
  generalize hce : compEnvC scope (cellsFrom (u3.heap.objs.size + 1) scope.names (cloFrom X.env.cells scope.names [])) u3.heap.objs.size X.env = ce at I4 pg pt pe pi1 pg1 pt1 ⊢
  have loc : ce.locals = u3.heap.objs.size := by subst hce; rfl
  generalize hG3 : upd G2 D (SetAcc X.w D []) = G3 at I3 I4 pg pt pe pi1 pg1 pt1 w0 nfp f3
  generalize hu4 : ({ u3 with heap := pushCells (u3.heap.push { cls := .type "dict", data := .dict #[] }) scope.names } : Shared) = u4 at I4 ⊢
  have st4 : tn 0 u4.heap := T.keep _ _ _ st3 fun b _ o e => by rw [← hu4]; exact pushCells_keeps _ _ _ _ (Heap.get?_push_of_some _ e)
  have stat : ∀ {σ' : L2.St} {G : Hp} {u : Shared}, Inv (X.blk u3 G3 scope ce fp) [] σ' G u → (∀ b ∈ fp, G b = none) → ∀ b ∈ fp, FpOk (X.blk u3 G3 scope ce fp) [] G b := fun {σ' G u} I' hn b hb =>
    ⟨hn b hb, (I'.ok.exf b hb).1, I'.ok.exfs b hb, .inl hb, fun x c e => (I'.ok.exf b hb).2 x c e, fun p hp => absurd (show p ∈ ([] : List (Addr × Obj)) ++ [] from hp) (by simp)⟩
  refine PpSet.codeAny_compStart_set ?main (T.self X.A 0 _ _ _ st4 ?main)
  refine sloop_out (fold1 ce) (fun n u => ∃ i G, Inv (X.blk u3 G3 scope ce fp) [] (wipe σ (own.map (·.2))) G u ∧ tn i u.heap ∧ (∀ b ∈ fp, G b = none) ∧ W i n G) ?_ m0 ⟨0, G3, I4, st4, nfp, w0⟩
  rintro n u5 ⟨i, G5, I5, st5, n5, w5⟩
  rcases turn i n G5 w5 with ⟨stop, qq⟩ | ⟨go, Nx, hNx, step⟩
  · refine thnF (T.done (X.blk u3 G3 scope ce fp) rfl rfl rfl calm i [] u5 _ G5 (fun _ _ => False) I5 (stat I5 n5) st5 stop) fun r u6 ⟨hr, I6⟩ => ?_
    subst hr
    have I7 : Inv X pins σ G5 u6 := I3.call' (ch := fp) I6.os I6.base I6.hok I6.bare fun b hb => ⟨(f3 b hb).1.2.2.2.1, (f3 b hb).1.2.1, (f3 b hb).1.2.2.2.2.1, (f3 b hb).1.2.2.2.2.2⟩
    have nC : G5 u3.heap.objs.size = none := by
      have z : G5 ce.locals = none := I6.free
      rwa [loc] at z
    obtain ⟨m, hn, _⟩ := I6.loc
    have hn : u6.heap.Ns ce.locals m := hn
    rw [loc] at hn
    obtain ⟨a0, a1, a2, a3, a4, a5⟩ := I3.fpOk (Nat.le_refl _) nC
    exact ⟨m, hn, fun h'' sb => ⟨.ref D, G5, I7.turned (t' := u6.toks) (fun b o hb e => (sb.2 b hb).trans e) a0 a1 a3 a4 a5, rfl, qq⟩⟩
  · refine thnF (T.item (X.blk u3 G3 scope ce fp) rfl rfl rfl calm i [] u5 _ G5 (fun _ _ => False) I5 (stat I5 n5) st5 go) fun r u6 ⟨v6, hr, h6⟩ => ?_
    subst hr
    refine thnF h6 fun _ u7 ⟨x, G7, I7, r7, y7, st7, n7⟩ => ?_
    have I7' := I7.pinned (stat I7 n7) (T.obj _ _ st7)
    refine thnF (pg.run _ u7 _ G7 x v6 _ I7' r7 (step x G7 y7)) fun _ u8 ⟨σ8, G8, I8, hw8, q8⟩ => ?_
    refine thnF (pt.run _ u8 σ8 G8 _ I8 q8) fun b u9 ⟨G9, I9, q9⟩ => ?_
    have fin : ∀ {σ9 : L2.St} {u : Shared} {G : Hp}, Inv (X.blk u3 G3 scope ce fp) ([] ++ pinsAt fp u7.heap) σ9 G u → (wipe σ (own.map (·.2))).length = σ9.length → (∀ (j : Nat) v, (wipe σ (own.map (·.2)))[j]? = some (some v) → σ9[j]? = some (some v)) → Nx G →
        ∃ m, m < n ∧ ∃ i G, Inv (X.blk u3 G3 scope ce fp) [] (wipe σ (own.map (·.2))) G u ∧ tn i u.heap ∧ (∀ b ∈ fp, G b = none) ∧ W i m G := fun {σ9 u G} I' hl hk nx => by
      obtain ⟨m', hm, w'⟩ := hNx G nx
      have pin : ∀ b ∈ fp, ∀ o, u7.heap.get? b = some o → u.heap.get? b = some o ∧ G b = none := fun b hb o e =>
        ⟨(I'.pin (b, o) (List.mem_append_right _ (List.mem_append_right _ (mem_pinsAt hb e)))).1, (I'.pin (b, o) (List.mem_append_right _ (List.mem_append_right _ (mem_pinsAt hb e)))).2.1⟩
      refine ⟨m', hm, i + 1, G, (I'.unpinned (pins := [])).weak hl hk, T.keep _ _ _ st7 fun b hb o e => (pin b hb o e).1, fun b hb => ?_, w'⟩
      obtain ⟨o, e, _⟩ := T.obj _ _ st7 b hb
      exact (pin b hb o e).2
    have l8 : (wipe σ (own.map (·.2))).length = σ8.length := by rw [← hw8, wipe_length]
    have k8 : ∀ (j : Nat) v, (wipe σ (own.map (·.2)))[j]? = some (some v) → σ8[j]? = some (some v) := fun j v e => by
      rw [← hw8] at e
      exact (wipe_some e).1
    have k9 : ∀ (j : Nat) v, (wipe σ (own.map (·.2)))[j]? = some (some v) → (wipe σ8 vs1)[j]? = some (some v) := fun j v e => by
      rw [← hw8] at e
      obtain ⟨e1, e2⟩ := wipe_some e
      rw [wipe_out fun z => e2 (sub j z)]
      exact e1
    cases b with
    | false =>
      simp only [Bool.false_eq_true, if_false] at q9 ⊢
      exact fin I9 l8 k8 q9
    | true =>
      simp only [if_true] at q9 ⊢
      refine thnF (pi1.run _ u9 σ8 G9 _ I9 q9) fun _ u10 hx => thnF hx fun _ u11 h11 => ?_
      obtain ⟨i1, fp1, tn1, J1, G11, rfl, I11, T1, st11, f11, W1, ⟨m1, w1⟩, turn1⟩ := h11
      have stat1 : ∀ {G : Hp}, (∀ b ∈ fp1, G b = none) → ∀ b ∈ fp1, FpOk (X.blk u3 G3 scope ce fp) ([] ++ pinsAt fp u7.heap) G b := fun hn b hb => ⟨hn b hb, (f11 b hb).2⟩
      refine sstart1 ?inner (T1.self X.A 0 _ _ _ st11 ?inner)
      refine sloop_in (fun k u => ∃ j G, Inv (X.blk u3 G3 scope ce fp) ([] ++ pinsAt fp u7.heap) (wipe σ8 vs1) G u ∧ tn1 j u.heap ∧ (∀ b ∈ fp1, G b = none) ∧ W1 j k G) ?_ m1 ⟨0, G11, I11.weak (wipe_length _ _) (fun j v e => (wipe_some e).1), st11, fun b hb => (f11 b hb).1, w1⟩
      rintro k u12 ⟨j, G12, I12, st12, n12, w12⟩
      rcases turn1 j k G12 w12 with ⟨stop1, nx1⟩ | ⟨go1, Nx1, hNx1, step1⟩
      · refine thnF (T1.done (X.blk u3 G3 scope ce fp) rfl rfl rfl calm j _ u12 (wipe σ8 vs1) G12 (fun _ _ => False) I12 (stat1 n12) st12 stop1) fun r u13 ⟨hr, I13⟩ => ?_
        subst hr
        exact fin I13 (l8.trans (wipe_length σ8 vs1).symm) k9 nx1
      · refine thnF (T1.item (X.blk u3 G3 scope ce fp) rfl rfl rfl calm j _ u12 (wipe σ8 vs1) G12 (fun _ _ => False) I12 (stat1 n12) st12 go1) fun r u13 ⟨v13, hr, h13⟩ => ?_
        subst hr
        refine thnF h13 fun _ u14 ⟨x1, G14, I14, r14, y14, st14, n14⟩ => ?_
        have I14' := I14.pinned (stat1 n14) (T1.obj _ _ st14)
        refine thnF (pg1.run _ u14 (wipe σ8 vs1) G14 x1 v13 _ I14' r14 (step1 x1 G14 y14)) fun _ u15 ⟨σ15, G15, I15, hw15, q15⟩ => ?_
        refine thnF (pt1.run _ u15 σ15 G15 _ I15 q15) fun b1 u16 ⟨G16, I16, q16⟩ => ?_
        have fin1 : ∀ {u : Shared} {G : Hp}, Inv (X.blk u3 G3 scope ce fp) (([] ++ pinsAt fp u7.heap) ++ pinsAt fp1 u14.heap) σ15 G u → Nx1 G → ∃ m, m < k ∧ ∃ j G, Inv (X.blk u3 G3 scope ce fp) ([] ++ pinsAt fp u7.heap) (wipe σ8 vs1) G u ∧ tn1 j u.heap ∧ (∀ b ∈ fp1, G b = none) ∧ W1 j m G := fun {u G} I' nx => by
          obtain ⟨m', hm, w'⟩ := hNx1 G nx
          have pin : ∀ b ∈ fp1, ∀ o, u14.heap.get? b = some o → u.heap.get? b = some o ∧ G b = none := fun b hb o e =>
            ⟨(I'.pin (b, o) (List.mem_append_right _ (List.mem_append_right _ (mem_pinsAt hb e)))).1, (I'.pin (b, o) (List.mem_append_right _ (List.mem_append_right _ (mem_pinsAt hb e)))).2.1⟩
          refine ⟨m', hm, j + 1, G, I'.unpinned.weak (by rw [← hw15, wipe_length]) (fun j v e => by rw [← hw15] at e; exact (wipe_some e).1), T1.keep _ _ _ st14 fun b hb o e => (pin b hb o e).1, fun b hb => ?_, w'⟩
          obtain ⟨o, e, _⟩ := T1.obj _ _ st14 b hb
          exact (pin b hb o e).2
        cases b1 with
        | false =>
          simp only [Bool.false_eq_true, if_false] at q16 ⊢
          exact fin1 I16 q16
        | true =>
          simp only [if_true] at q16 ⊢
          refine thnF (pe.run _ u16 σ15 G16 _ I16 q16) fun z u17 ⟨yv, G17, I17, r17, k', acc, ey, hD17, room, nx⟩ => ?_
          subst ey
          exact setAcc_add (X := X.blk u3 G3 scope ce fp) I17 hD17 r17 room fun u18 I18 => fin1 I18 nx
def tS1 (w : World) (wi : TI) (g : TG) (tt : TT) (te : TE) (vs : List Nat) : TE := fun σ H Q => wi σ H fun J H1 => ∀ D, H1 D = none →
  ∃ W : Nat → Nat → Hp → Prop, (∃ m, W 0 m (upd H1 D (SetAcc w D []))) ∧ ∀ i m H, W i m H → (J.stop i H ∧ Q (.ref D) H) ∨ (J.go i H ∧ ∃ Nx : Hp → Prop, (∀ H', Nx H' → ∃ m', m' < m ∧ W (i + 1) m' H') ∧
    ∀ x H', J.yld i H x H' → g x (wipe σ vs) H' fun σ2 H2 => wipe σ2 vs = wipe σ vs ∧ tt σ2 H2 fun b H3 => if b = true then te σ2 H3 fun y H7 =>
      ∃ (k : Int) (acc : List Int), y = .int k ∧ H7 D = some (SetAcc w D acc) ∧ acc.length + 1 < scanBound ∧ Nx (upd H7 D (SetAcc w D (acc ++ [k]))) else Nx H3)
theorem pe_s1 (calm : X.calm = true) (nod : X.N.Nodup) (hi : PI X tg iter wi) (ok : BlkOk X.N X.env.scope scope own)
    (hg : ∀ (s : Shared) (H : Hp) (C : Addr) (cl : List (Str × Addr)) (fp : List Addr), PG (X.blk s H scope (compEnvC scope cl C X.env) fp) tg g) (ht : ∀ (s : Shared) (H : Hp) (C : Addr) (cl : List (Str × Addr)) (fp : List Addr), PTs (X.blk s H scope (compEnvC scope cl C X.env) fp) ifs tt)
    (he : ∀ (s : Shared) (H : Hp) (C : Addr) (cl : List (Str × Addr)) (fp : List Addr), PE (X.blk s H scope (compEnvC scope cl C X.env) fp) elt te) (fold0 : ∀ x, foldedSetIterable iter X.env x = pure x := by intro _; rfl) :
    PE X (.SetComp elt [⟨tg, iter, ifs, 0⟩] scope pos) (tS1 X.w wi g tt te (own.map (·.2))) := by
  refine ⟨fun pins s σ H Q I h => ?_⟩
  rw [PpSet.eval_SetComp]
  have free : ∀ y ∈ scope.names, y.2 = .free → ∃ c, X.env.cells.lookup y.1 = some c := fun y hy e => (ok.free y hy e).elim (fun k => I.ok.has _ (.inl k)) fun k => I.ok.has _ (.inr k)
  refine wpAny_comprehension_free rfl fold0 (closure_ok free) ok.kind (fun y hy e => by rw [ok.uniq y hy, e]) (thn (hi.run pins s σ H _ I h) fun _ u1 hx => thn hx fun _ u2 h2 => ?_)
  obtain ⟨i0, fp, tn, J, G2, rfl, I2, T, st2, f2, q⟩ := h2
  refine PpSet.newSet_ok (newEnv_comp ?_)
  generalize hD : u2.heap.objs.size = D
  have none2 : G2 D = none := I2.hok.fresh (Nat.le_of_eq hD)
  obtain ⟨W, ⟨m0, w0⟩, turn⟩ := q D none2
  generalize hu3 : ({ u2 with heap := u2.heap.push { cls := .type "set", dict := none, data := .set #[] 0 (.fresh 0 0 (!X.w.params.followText "set-order")) } } : Shared) = u3
  have heap3 : u3.heap = u2.heap.push { cls := .type "set", dict := none, data := .set #[] 0 (.fresh 0 0 (!X.w.params.followText "set-order")) } := by rw [← hu3]
  have I3 : Inv X pins σ (upd G2 D (SetAcc X.w D [])) u3 := by
    rw [← hu3]
    exact I2.laid (t' := u2.toks) (fun b o e => Heap.get?_push_of_some _ e) (Nat.le_of_eq hD) (by rw [← hD]; exact setAcc_obj accR_fresh)
  have f3 : ∀ b ∈ fp, FpOk X pins (upd G2 D (SetAcc X.w D [])) b ∧ b < u3.heap.objs.size := fun b hb => by
    obtain ⟨o, e, _⟩ := T.obj _ _ st2 b hb
    have lt := Heap.lt_size e
    exact ⟨⟨by rw [upd_ne (by rw [← hD]; exact Nat.ne_of_lt lt)]; exact (f2 b hb).1, (f2 b hb).2⟩, by rw [heap3, Heap.size_push]; exact Nat.lt_succ_of_lt lt⟩
  have st3 : tn 0 u3.heap := T.keep _ _ _ st2 fun b _ o e => by rw [heap3]; exact Heap.get?_push_of_some _ e
  have I4 := block_start I3 ok nod f3
  have pg := hg u3 (upd G2 D (SetAcc X.w D [])) u3.heap.objs.size (cellsFrom (u3.heap.objs.size + 1) scope.names (cloFrom X.env.cells scope.names [])) fp
  have pt := ht u3 (upd G2 D (SetAcc X.w D [])) u3.heap.objs.size (cellsFrom (u3.heap.objs.size + 1) scope.names (cloFrom X.env.cells scope.names [])) fp
  have pe := he u3 (upd G2 D (SetAcc X.w D [])) u3.heap.objs.size (cellsFrom (u3.heap.objs.size + 1) scope.names (cloFrom X.env.cells scope.names [])) fp
  show codeAny _ _ (.compStart (.SetComp elt [⟨tg, iter, ifs, 0⟩] scope pos) 0 (.ref i0) (.ref D) (compEnvC scope (cellsFrom (u3.heap.objs.size + 1) scope.names (cloFrom X.env.cells scope.names [])) u3.heap.objs.size X.env)) _ { u3 with heap := pushCells (u3.heap.push { cls := .type "dict", data := .dict #[] }) scope.names }
  have nfp : ∀ b ∈ fp, (upd G2 D (SetAcc X.w D [])) b = none := fun b hb => (f3 b hb).1.1
  generalize hce : compEnvC scope (cellsFrom (u3.heap.objs.size + 1) scope.names (cloFrom X.env.cells scope.names [])) u3.heap.objs.size X.env = ce at I4 pg pt pe ⊢
  have loc : ce.locals = u3.heap.objs.size := by subst hce; rfl
  generalize hG3 : upd G2 D (SetAcc X.w D []) = G3 at I3 I4 pg pt pe w0 nfp f3
  generalize hu4 : ({ u3 with heap := pushCells (u3.heap.push { cls := .type "dict", data := .dict #[] }) scope.names } : Shared) = u4 at I4 ⊢
  have st4 : tn 0 u4.heap := T.keep _ _ _ st3 fun b _ o e => by rw [← hu4]; exact pushCells_keeps _ _ _ _ (Heap.get?_push_of_some _ e)
  have stat : ∀ {σ' : L2.St} {G : Hp} {u : Shared}, Inv (X.blk u3 G3 scope ce fp) [] σ' G u → (∀ b ∈ fp, G b = none) → ∀ b ∈ fp, FpOk (X.blk u3 G3 scope ce fp) [] G b := fun {σ' G u} I' hn b hb =>
    ⟨hn b hb, (I'.ok.exf b hb).1, I'.ok.exfs b hb, .inl hb, fun x c e => (I'.ok.exf b hb).2 x c e, fun p hp => absurd (show p ∈ ([] : List (Addr × Obj)) ++ [] from hp) (by simp)⟩
  refine PpSet.codeAny_compStart_set ?main (T.self X.A 0 _ _ _ st4 ?main)
  refine PpSet.compLoopS_any (fun n u => ∃ i G, Inv (X.blk u3 G3 scope ce fp) [] (wipe σ (own.map (·.2))) G u ∧ tn i u.heap ∧ (∀ b ∈ fp, G b = none) ∧ W i n G) ?_ m0 ⟨0, G3, I4, st4, nfp, w0⟩
  rintro n u5 ⟨i, G5, I5, st5, n5, w5⟩
  rcases turn i n G5 w5 with ⟨stop, qq⟩ | ⟨go, Nx, hNx, step⟩
  · refine thnF (T.done (X.blk u3 G3 scope ce fp) rfl rfl rfl calm i [] u5 _ G5 (fun _ _ => False) I5 (stat I5 n5) st5 stop) fun r u6 ⟨hr, I6⟩ => ?_
    subst hr
    have I7 : Inv X pins σ G5 u6 := I3.call' (ch := fp) I6.os I6.base I6.hok I6.bare fun b hb => ⟨(f3 b hb).1.2.2.2.1, (f3 b hb).1.2.1, (f3 b hb).1.2.2.2.2.1, (f3 b hb).1.2.2.2.2.2⟩
    have nC : G5 u3.heap.objs.size = none := by
      have z : G5 ce.locals = none := I6.free
      rwa [loc] at z
    obtain ⟨m, hn, _⟩ := I6.loc
    have hn : u6.heap.Ns ce.locals m := hn
    rw [loc] at hn
    obtain ⟨a0, a1, a2, a3, a4, a5⟩ := I3.fpOk (Nat.le_refl _) nC
    exact ⟨m, hn, fun h'' sb => ⟨.ref D, G5, I7.turned (t' := u6.toks) (fun b o hb e => (sb.2 b hb).trans e) a0 a1 a3 a4 a5, rfl, qq⟩⟩
  · refine thnF (T.item (X.blk u3 G3 scope ce fp) rfl rfl rfl calm i [] u5 _ G5 (fun _ _ => False) I5 (stat I5 n5) st5 go) fun r u6 ⟨v6, hr, h6⟩ => ?_
    subst hr
    refine thnF h6 fun _ u7 ⟨x, G7, I7, r7, y7, st7, n7⟩ => ?_
    have I7' := I7.pinned (stat I7 n7) (T.obj _ _ st7)
    refine thnF (pg.run _ u7 _ G7 x v6 _ I7' r7 (step x G7 y7)) fun _ u8 ⟨σ8, G8, I8, hw8, q8⟩ => ?_
    refine thnF (pt.run _ u8 σ8 G8 _ I8 q8) fun b u9 ⟨G9, I9, q9⟩ => ?_
    have fin : ∀ {σ9 : L2.St} {u : Shared} {G : Hp}, Inv (X.blk u3 G3 scope ce fp) ([] ++ pinsAt fp u7.heap) σ9 G u → (wipe σ (own.map (·.2))).length = σ9.length → (∀ (j : Nat) v, (wipe σ (own.map (·.2)))[j]? = some (some v) → σ9[j]? = some (some v)) → Nx G →
        ∃ m, m < n ∧ ∃ i G, Inv (X.blk u3 G3 scope ce fp) [] (wipe σ (own.map (·.2))) G u ∧ tn i u.heap ∧ (∀ b ∈ fp, G b = none) ∧ W i m G := fun {σ9 u G} I' hl hk nx => by
      obtain ⟨m', hm, w'⟩ := hNx G nx
      have pin : ∀ b ∈ fp, ∀ o, u7.heap.get? b = some o → u.heap.get? b = some o ∧ G b = none := fun b hb o e =>
        ⟨(I'.pin (b, o) (List.mem_append_right _ (List.mem_append_right _ (mem_pinsAt hb e)))).1, (I'.pin (b, o) (List.mem_append_right _ (List.mem_append_right _ (mem_pinsAt hb e)))).2.1⟩
      refine ⟨m', hm, i + 1, G, (I'.unpinned (pins := [])).weak hl hk, T.keep _ _ _ st7 fun b hb o e => (pin b hb o e).1, fun b hb => ?_, w'⟩
      obtain ⟨o, e, _⟩ := T.obj _ _ st7 b hb
      exact (pin b hb o e).2
    have l8 : (wipe σ (own.map (·.2))).length = σ8.length := by rw [← hw8, wipe_length]
    have k8 : ∀ (j : Nat) v, (wipe σ (own.map (·.2)))[j]? = some (some v) → σ8[j]? = some (some v) := fun j v e => by
      rw [← hw8] at e
      exact (wipe_some e).1
    cases b with
    | false =>
      simp only [Bool.false_eq_true, if_false] at q9 ⊢
      exact fin I9 l8 k8 q9
    | true =>
      simp only [if_true] at q9 ⊢
      refine thnF (pe.run _ u9 σ8 G9 _ I9 q9) fun z u10 ⟨yv, G10, I10, r10, k', acc, ey, hD10, room, nx⟩ => ?_
      subst ey
      exact setAcc_add (X := X.blk u3 G3 scope ce fp) I10 hD10 r10 room fun u11 I11 => fin I11 l8 k8 nx
end
end GM

set_option Elab.async false
set_option linter.all false
set_option maxRecDepth 100000
set_option maxHeartbeats 4000000
set_option autoImplicit false
namespace GM
open PySem PySem.Spec L2
/-! ### a new object of any kind that is filled (RS.open_, RS.grow and their kin for it) -/
section
variable {K : PySem.W.Frag} {F : Addr → Prop} {μ μ' : List Addr} {S S' : Sto} {H H' : Hp}
theorem RS.openO {p : Addr} {x : HO} (hx : Mut (some x)) (r : RS K F μ S H) (hp : H p = none) : RS K (Fp F p) μ S (upd H p x) ∧ Go (NA μ S) (NF F μ S) (NF (Fp F p) μ S) H (upd H p x) := by
  have g : Go (NA μ S) (NF F μ S) (NF (Fp F p) μ S) H (upd H p x) := ⟨fun a o e _ => Fr.upd hp a o e, fun a h => by
    rcases h with h | h | h
    · exact .inl (.inl h)
    · exact .inl (.inr h)
    · rw [h]; exact .inr hp, r.mut, fun _ h => .inl h⟩
  refine ⟨⟨r.len, r.inj, fun k a c h1 h2 => (r.at_ k a c h1 h2).mono g ⟨[], by simp⟩ fun o e => Fr.upd hp a o e, fun a h => ?_, fun a h z => ?_⟩, g⟩
  · rcases h with h | h
    · exact (Fr.upd hp).mut (r.fm a h)
    · subst h; rw [upd_same]; exact hx
  · rcases h with h | h
    · exact r.fd a h z
    · subst h; exact mut_there (r.mut _ z) hp
theorem RS.growO {p : Addr} {x : HO} (hx : Mut (some x)) (r : RS K (Fp F p) μ S H) : RS K (Fp F p) μ S (upd H p x) ∧ Go (fun a => a = p) (NF (Fp F p) μ S) (NF (Fp F p) μ S) H (upd H p x) := by
  have g : Go (fun a => a = p) (NF (Fp F p) μ S) (NF (Fp F p) μ S) H (upd H p x) := ⟨fun a o e n => by rw [upd_ne n]; exact e, fun a h => .inl h, fun a h => by subst h; exact r.fm _ (.inr rfl), fun a h => .inr (.inr h)⟩
  refine ⟨⟨r.len, r.inj, fun k a c h1 h2 => ?_, fun a h => ?_, r.fd⟩, g⟩
  · cases c with
    | dead => trivial
    | lst ws => exact (r.at_ k a _ h1 h2).mono g ⟨[], by simp⟩ fun o e => by rw [upd_ne (fun z => r.fd p (.inr rfl) (by rw [← z]; exact ⟨k, _, h1, h2, fun z => nomatch z⟩))]; exact e
    | dct ws => exact (r.at_ k a _ h1 h2).mono g ⟨[], by simp⟩ fun o e => by rw [upd_ne (fun z => r.fd p (.inr rfl) (by rw [← z]; exact ⟨k, _, h1, h2, fun z => nomatch z⟩))]; exact e
  · by_cases e : a = p
    · subst e; rw [upd_same]; exact hx
    · rw [upd_ne e]; exact r.fm a h
theorem Gx.openedO {p : Addr} {x : HO} (hx : Mut (some x)) (r : RS K F μ S H) (hp : H p = none) : Gx K F μ S H (Fp F p) μ S (upd H p x) :=
  ⟨⟨[], by simp⟩, (r.openO hx hp).2, fun _ h => .inl h, (r.openO hx hp).1⟩
theorem Gz.openedO {p : Addr} {x : HO} (hx : Mut (some x)) (r : RS K F μ S H) (hp : H p = none) : Gz K F μ S H (Fp F p) μ S (upd H p x) :=
  ⟨⟨[], by simp⟩, fun _ h => .inl h, ⟨fun a o e _ => Fr.upd hp a o e, (r.openO hx hp).2.new, fun a h => by
    rcases h with h | h
    · exact r.mut a h
    · exact r.fm a h, fun _ h => h⟩, (r.openO hx hp).1⟩
theorem Gz.grownO {p : Addr} {x : HO} (hx : Mut (some x)) (r : RS K (Fp F p) μ S H) : Gz K (Fp F p) μ S H (Fp F p) μ S (upd H p x) :=
  ⟨⟨[], by simp⟩, fun _ h => h, ⟨fun a o e n => (r.growO hx).2.ext a o e fun z => n (.inr (.inr z)), fun _ h => .inl h, fun a h => by
    rcases h with h | h
    · exact r.mut a h
    · exact r.fm a h, fun _ h => h⟩, (r.growO hx).1⟩
theorem Gx.grownO {p : Addr} {x : HO} (hx : Mut (some x)) (g : Gx K F μ S H (Fp F p) μ' S' H') (hp : H p = none) : Gx K F μ S H (Fp F p) μ' S' (upd H' p x) :=
  ⟨g.pre, ⟨fun a o e n => by rw [upd_ne (ne_of_none e hp)]; exact g.go.ext a o e n, g.go.new, g.go.mu, g.go.sub⟩, g.na, (g.rs.growO hx).1⟩
theorem setAcc_mut {w : World} {a : Addr} {acc : List Int} : Mut (some (SetAcc w a acc)) := trivial
end
end GM

set_option Elab.async false
set_option linter.all false
set_option maxRecDepth 100000
set_option maxHeartbeats 4000000
set_option autoImplicit false
namespace GM
open PySem PySem.Spec L2 PyProof.Rows
/-! ### sorted({e for ..}) of ints -/
abbrev wI (i : Int) : W := .d (.int i)
theorem intsW_map : ∀ {ws : List W} {ns : List Int}, intsW ws = some ns → ws = ns.map wI
  | [], ns, h => by cases h; rfl
  | .d (.int i) :: r, ns, h => by
    obtain ⟨l, e, h⟩ := bind_some (show (intsW r).bind (fun l => some (i :: l)) = some ns from h)
    cases h
    rw [intsW_map e]
    rfl
theorem wI_split : ∀ {a : List Int} {w : W} {r : List W} {t : List Int}, a.map wI ++ w :: r = t.map wI → ∃ k, w = wI k
  | [], w, r, [], h => by cases h
  | [], w, r, k :: t, h => by
    have h : w :: r = wI k :: t.map wI := h
    injection h with h1 h2
    exact ⟨k, h1⟩
  | x :: a, w, r, [], h => by cases h
  | x :: a, w, r, k :: t, h => by
    have h : wI x :: (a.map wI ++ w :: r) = wI k :: t.map wI := h
    injection h with h1 h2
    exact wI_split h2
theorem wI_inj : ∀ {a t : List Int}, a.map wI = t.map wI → a = t
  | [], [], h => rfl
  | [], k :: t, h => by cases h
  | x :: a, [], h => by cases h
  | x :: a, k :: t, h => by
    have h : wI x :: a.map wI = wI k :: t.map wI := h
    injection h with h1 h2
    injection h1 with h1
    injection h1 with h1
    rw [h1, wI_inj h2]
section
variable {K : PySem.W.Frag}
/-- the reading: the set of what the mirror tells -/
def LSt (K : PySem.W.Frag) (w : World) (m : Am) : TE := fun σ H Q => ∃ (F : Addr → Prop) (μ : List Addr) (ρ : Rho) (S : Sto) (ns : List Int) (S' : Sto), RS K F μ S H ∧ RSt K μ (NF F μ S) H σ ρ ∧ m ρ S = some (ns.map wI, S') ∧ ns.length ≤ 4000 ∧
  ∀ μ' H' p, Gs K F μ S H μ' S' H' → H' p = none → Q (.ref p) (upd H' p (SetAcc w p ns))
theorem clauseS {F : Addr → Prop} {D : Addr} {wd : World} {J : It} {src : Src} {g : Gm} {T vs : List Nat} {c : Tm} {e : Em} {ρ : Rho} {σ : L2.St} {Sf : Sto} {total : List Int} {more : List W} {Fin : Hp → Prop} (P : List Addr → Sto → Hp → Prop)
    (hT : ∀ i ∈ T, i ∈ vs) (hr : ∀ μ S H, P μ S H → RS K (Fp F D) μ S H) (hs : ∀ μ S H μ' S' H', P μ S H → Gs K (Fp F D) μ S H μ' S' H' → P μ' S' H') (hg : ∀ μ S H xs, P μ S H → P μ S (upd H D (SetAcc wd D xs)))
    (hj : ∀ μ S H, P μ S H → ∀ (i : Nat) r, srcAt src S i = some r → match r with
      | none => J.stop i H
      | some w => J.go i H ∧ ∀ x H3, J.yld i H x H3 → Fr H H3 ∧ RepW K μ (NF (Fp F D) μ S) H3 w x)
    (hst : ∀ μ S H, P μ S H → RSt K μ (NF (Fp F D) μ S) H (wipe σ vs) (mwipe ρ vs)) (hl : total.length ≤ 4000)
    (hf : ∀ μ H done, P μ Sf H → H D = some (SetAcc wd D done) → done.map wI ++ more = total.map wI → Fin H)
    {μ : List Addr} {S : Sto} {H : Hp} {done : List Int} {rest : List W} {n : Nat} (p : P μ S H) (hD : H D = some (SetAcc wd D done)) (hc : cloop src g c e (mwipe ρ vs) n 0 S = some (rest, Sf)) (ht : done.map wI ++ (rest ++ more) = total.map wI) :
    ∃ W : Nat → Nat → Hp → Prop, (∃ m, W 0 m H) ∧ ∀ i m H, W i m H →
      (J.stop i H ∧ Fin H) ∨ (J.go i H ∧ ∃ Nx : Hp → Prop, (∀ H', Nx H' → ∃ m', m' < m ∧ W (i + 1) m' H') ∧ ∀ x H', J.yld i H x H' → LG K g T x (wipe σ vs) H' fun σ2 H2 => wipe σ2 vs = wipe σ vs ∧ LT K c σ2 H2 fun b H3 =>
        if b = true then LE K e σ2 H3 fun y H4 => ∃ (k : Int) (acc : List Int), y = .int k ∧ H4 D = some (SetAcc wd D acc) ∧ acc.length + 1 < scanBound ∧ Nx (upd H4 D (SetAcc wd D (acc ++ [k]))) else Nx H3) := by
  refine ⟨fun i m H => ∃ μ S done rest, P μ S H ∧ H D = some (SetAcc wd D done) ∧ cloop src g c e (mwipe ρ vs) m i S = some (rest, Sf) ∧ done.map wI ++ (rest ++ more) = total.map wI, ⟨n, μ, S, done, rest, p, hD, hc, ht⟩, ?_⟩
  clear p hD hc ht μ S H done rest n
  rintro i m H ⟨μ, S, done, rest, p, hD, hc, ht⟩
  have rs := hr μ S H p
  have fin : rest = [] → S = Sf → srcAt src S i = some none → J.stop i H ∧ Fin H := fun e1 e2 e3 => by
    subst e1 e2
    rw [List.nil_append] at ht
    exact ⟨hj μ S H p i none e3, hf μ H done p hD ht⟩
  cases m with
  | zero =>
    unfold cloop at hc
    obtain ⟨r, e1, hc⟩ := bind_some hc
    cases r with
    | none => cases hc; exact .inl (fin rfl rfl e1)
    | some w => cases hc
  | succ m =>
    unfold cloop at hc
    obtain ⟨r, e1, hc⟩ := bind_some hc
    cases r with
    | none => cases hc; exact .inl (fin rfl rfl e1)
    | some w =>
      obtain ⟨go, yl⟩ := hj μ S H p i (some w) e1
      obtain ⟨ρ1, e2, hc⟩ := bind_some hc
      obtain ⟨⟨b, S1⟩, e3, hc⟩ := bind_some hc
      refine .inr ⟨go, fun H' => ∃ μ S done rest, P μ S H' ∧ H' D = some (SetAcc wd D done) ∧ cloop src g c e (mwipe ρ vs) m (i + 1) S = some (rest, Sf) ∧ done.map wI ++ (rest ++ more) = total.map wI, fun H' z => ⟨m, Nat.lt_succ_self m, z⟩, fun x H' y => ?_⟩
      obtain ⟨fr, rw'⟩ := yl x H' y
      have g1 := fr.gs rs
      have p1 := hs _ _ _ _ _ _ p g1
      refine ⟨Fp F D, μ, mwipe ρ vs, S, w, ρ1, g1.rs, hst _ _ _ p1, rw', e2, fun σ2 st2 l2 o2 => ⟨wipe_eq l2 fun j hj => o2 j fun z => hj (hT j z), ?_⟩⟩
      refine ⟨Fp F D, μ, ρ1, S, b, S1, g1.rs, st2, e3, fun μ3 H3 g3 => ?_⟩
      have p3 := hs _ _ _ _ _ _ p1 g3
      have g13 := g1.trans g3
      have nD : ∀ {μ S H}, P μ S H → ¬ NA μ S D := fun {μ S H} p z => (hr μ S H p).fd D (.inr rfl) z
      have hD3 : H3 D = some (SetAcc wd D done) := g13.go.ext D _ hD (nD p)
      cases b with
      | false =>
        rw [if_neg Bool.false_ne_true] at hc
        refine iteF ?_
        exact ⟨μ3, S1, done, rest, p3, hD3, hc, ht⟩
      | true =>
        rw [if_pos rfl] at hc
        refine iteT ?_
        obtain ⟨⟨w4, S4⟩, e4, hc⟩ := bind_some hc
        obtain ⟨⟨rest', S5⟩, e5, hc⟩ := bind_some hc
        cases hc
        refine ⟨Fp F D, μ3, ρ1, S1, w4, S4, g3.rs, st2.mono g3.go g3.pre, e4, fun μ4 y H4 g4 q4 => ?_⟩
        have p4 := hs _ _ _ _ _ _ p3 g4
        have hD4 : H4 D = some (SetAcc wd D done) := g4.go.ext D _ hD3 (nD p3)
        have ht2 : done.map wI ++ w4 :: (rest' ++ more) = total.map wI := ht
        obtain ⟨k, rfl⟩ := wI_split ht2
        have la : done.length + 1 ≤ 4000 := by
          have h2 := congrArg List.length ht2
          simp only [List.length_append, List.length_map, List.length_cons] at h2
          omega
        have ey : y = .int k := by
          have q' : RepD _ _ _ _ _ := q4
          rw [RepD] at q'
          exact q'
        refine ⟨k, done, ey, hD4, by rw [show scanBound = 4096 from rfl]; omega, μ4, S4, done ++ [k], rest', hg _ _ _ _ p4, upd_same, e5, ?_⟩
        rw [List.map_append, List.append_assoc]
        exact ht2
theorem st_read1 {wd : World} {mi : Im} {g : Gm} {T vs : List Nat} {c : Tm} {e : Em} {σ : L2.St} {H : Hp} {Q : VK} (hT : ∀ i ∈ T, i ∈ vs) (h : LSt K wd (mcomp mi g c e vs) σ H Q) : tS1 wd (LI K mi) (LG K g T) (LT K c) (LE K e) vs σ H Q := by
  obtain ⟨F, μ, ρ, S, ns, S', rs, rst, h, few, k⟩ := h
  obtain ⟨⟨src, S1⟩, e1, h⟩ := bind_some h
  obtain ⟨⟨rest, Sf⟩, e2, h⟩ := bind_some h
  obtain ⟨e3, hl⟩ := lim_some h
  injection e3 with e3 e4
  subst e4
  refine ⟨F, μ, ρ, S, src, S1, rs, rst, e1, fun μ1 J H1 g1 ito D hD => ?_⟩
  refine clauseS (K := K) (F := F) (D := D) (wd := wd) (src := src) (ρ := ρ) (total := ns) (more := []) (Sf := S') (fun μ2 S2 H2 => Gx K F μ1 S1 H1 (Fp F D) μ2 S2 H2 ∧ Gz K F μ1 S1 H1 (Fp F D) μ2 S2 H2) hT (fun _ _ _ p => p.1.rs) (fun μ2 S2 H2 μ3 S3 H3 p gs => ⟨p.1.step gs, p.2.trans (gs.gz p.1.rs)⟩) (fun μ2 S2 H2 xs p => ⟨p.1.grownO setAcc_mut hD, p.2.trans (Gz.grownO setAcc_mut p.1.rs)⟩)
    (fun μ2 S2 H2 p => ito _ _ _ _ p.2) (fun μ2 S2 H2 p => ((rst.mono g1.go g1.pre).wipe vs).mono p.1.go p.1.pre) few (fun μ2 H2 done p hD2 et => ?_) (μ := μ1) (S := S1) (done := []) ⟨Gx.openedO setAcc_mut g1.rs hD, Gz.openedO setAcc_mut g1.rs hD⟩ upd_same e2 (by rw [List.append_nil, ← e3]; rfl)
  have gc := Gx.closed g1.rs p.1 hD
  rw [List.append_nil] at et
  have et := wI_inj et
  subst et
  have := k μ2 (less H2 D) D (g1.trans gc) less_self
  rw [upd_less hD2] at this
  exact this
theorem st_read2 {wd : World} {mi mi1 : Im} {g g1 : Gm} {T T1 vs vs1 : List Nat} {c c1 : Tm} {e : Em} {σ : L2.St} {H : Hp} {Q : VK} (hT : ∀ i ∈ T, i ∈ vs) (hT1 : ∀ i ∈ T1, i ∈ vs1) (h : LSt K wd (mcomp2 mi g c mi1 g1 c1 e vs vs1) σ H Q) :
    tS2 wd (LI K mi) (LG K g T) (LT K c) (LI K mi1) (LG K g1 T1) (LT K c1) (LE K e) vs vs1 σ H Q := by
  obtain ⟨F, μ, ρ, S, ws, S', rs, rst, h, few, k⟩ := h
  obtain ⟨⟨src, S1⟩, e1, h⟩ := bind_some h
  obtain ⟨⟨rest, Sf⟩, e2, h⟩ := bind_some h
  obtain ⟨e3, hl⟩ := lim_some h
  injection e3 with e3 e4
  subst e4
  refine ⟨F, μ, ρ, S, src, S1, rs, rst, e1, fun μ1 J H1 g1' ito D hD => ?_⟩
  have rst1 := (rst.mono g1'.go g1'.pre).wipe vs
  let P : List Addr → Sto → Hp → Prop := fun μ2 S2 H2 => Gx K F μ1 S1 H1 (Fp F D) μ2 S2 H2 ∧ Gz K F μ1 S1 H1 (Fp F D) μ2 S2 H2
  have Ps : ∀ {μ2 S2 H2 μ3 S3 H3}, P μ2 S2 H2 → Gs K (Fp F D) μ2 S2 H2 μ3 S3 H3 → P μ3 S3 H3 := fun p gs => ⟨p.1.step gs, p.2.trans (gs.gz p.1.rs)⟩
  have Pg : ∀ {μ2 S2 H2 xs}, P μ2 S2 H2 → P μ2 S2 (upd H2 D (SetAcc wd D xs)) := fun p => ⟨p.1.grownO setAcc_mut hD, p.2.trans (Gz.grownO setAcc_mut p.1.rs)⟩
  have nD : ∀ {μ S H}, P μ S H → ¬ NA μ S D := fun p z => p.1.rs.fd D (.inr rfl) z
  let WW : Nat → Nat → Hp → Prop := fun i m H => ∃ μ S done rest, P μ S H ∧ H D = some (SetAcc wd D done) ∧ cloop2 src g c mi1 g1 c1 e (mwipe ρ vs) vs1 m i S = some (rest, S') ∧ done.map wI ++ rest = ws.map wI
  refine ⟨WW, ⟨_, μ1, S1, [], rest, ⟨Gx.openedO setAcc_mut g1'.rs hD, Gz.openedO setAcc_mut g1'.rs hD⟩, upd_same, e2, by rw [← e3]; rfl⟩, ?_⟩
  clear e2 e3 hl h
  rintro i m H2 ⟨μ2, S2, done, rest, p, hD2, hc, ht⟩
  have rs2 := p.1.rs
  have fin : rest = [] → S2 = S' → srcAt src S2 i = some none → J.stop i H2 ∧ Q (.ref D) H2 := fun e1 e2 e3 => by
    subst e1 e2
    rw [List.append_nil] at ht
    have ht := wI_inj ht
    subst ht
    refine ⟨ito _ _ _ _ p.2 i none e3, ?_⟩
    have gc := Gx.closed g1'.rs p.1 hD
    have := k μ2 (less H2 D) D (g1'.trans gc) less_self
    rw [upd_less hD2] at this
    exact this
  cases m with
  | zero =>
    unfold cloop2 at hc
    obtain ⟨r, e1, hc⟩ := bind_some hc
    cases r with
    | none => cases hc; exact .inl (fin rfl rfl e1)
    | some w => cases hc
  | succ m =>
    unfold cloop2 at hc
    obtain ⟨r, e1, hc⟩ := bind_some hc
    cases r with
    | none => cases hc; exact .inl (fin rfl rfl e1)
    | some w =>
      obtain ⟨go, yl⟩ := ito _ _ _ _ p.2 i (some w) e1
      obtain ⟨ρ1, e2, hc⟩ := bind_some hc
      obtain ⟨⟨b, S3⟩, e3, hc⟩ := bind_some hc
      refine .inr ⟨go, fun H' => WW (i + 1) m H', fun H' z => ⟨m, Nat.lt_succ_self m, z⟩, fun x H' y => ?_⟩
      obtain ⟨fr, rw'⟩ := yl x H' y
      have g2 := fr.gs rs2
      have p2 := Ps p g2
      refine ⟨Fp F D, μ2, mwipe ρ vs, S2, w, ρ1, g2.rs, rst1.mono p2.1.go p2.1.pre, rw', e2, fun σ2 st2 l2 o2 => ⟨wipe_eq l2 fun j hj => o2 j fun z => hj (hT j z), ?_⟩⟩
      refine ⟨Fp F D, μ2, ρ1, S2, b, S3, g2.rs, st2, e3, fun μ3 H3 g3 => ?_⟩
      have p3 := Ps p2 g3
      have g23 := g2.trans g3
      have hD3 : H3 D = some (SetAcc wd D done) := g23.go.ext D _ hD2 (nD p)
      cases b with
      | false =>
        rw [if_neg Bool.false_ne_true] at hc
        refine iteF ?_
        exact ⟨μ3, S3, done, rest, p3, hD3, hc, ht⟩
      | true =>
        rw [if_pos rfl] at hc
        refine iteT ?_
        obtain ⟨⟨src1, S4⟩, e4, hc⟩ := bind_some hc
        obtain ⟨⟨r1, S5⟩, e5, hc⟩ := bind_some hc
        obtain ⟨⟨rest', S6⟩, e6, hc⟩ := bind_some hc
        cases hc
        refine ⟨Fp F D, μ3, ρ1, S3, src1, S4, g3.rs, st2.mono g3.go g3.pre, e4, fun μ4 J1 H4 g4 ito1 => ?_⟩
        have p4 := Ps p3 g4
        have hD4 : H4 D = some (SetAcc wd D done) := g4.go.ext D _ hD3 (nD p3)
        have st4 : RSt K μ4 (NF (Fp F D) μ4 S4) H4 (wipe σ2 vs1) (mwipe ρ1 vs1) := ((st2.mono g3.go g3.pre).mono g4.go g4.pre).wipe vs1
        refine clauseS (K := K) (F := F) (D := D) (wd := wd) (src := src1) (ρ := ρ1) (total := ws) (more := rest') (Sf := S5) (fun μ S H => P μ S H ∧ Gz K (Fp F D) μ4 S4 H4 (Fp F D) μ S H) hT1 (fun _ _ _ p => p.1.1.rs) (fun μ2 S2 H2 μ3 S3 H3 p gs => ⟨Ps p.1 gs, p.2.trans (gs.gz p.1.1.rs)⟩) (fun μ2 S2 H2 xs p => ⟨Pg p.1, p.2.trans (Gz.grownO setAcc_mut p.1.1.rs)⟩)
          (fun μ2 S2 H2 p => ito1 _ _ _ _ p.2) (fun μ2 S2 H2 p => st4.mono p.2.go p.2.pre) few (fun μ2 H2 done2 p hD2 et => ⟨μ2, S5, done2, rest', p.1, hD2, e6, et⟩) (μ := μ4) (S := S4) (done := done) (rest := r1) ⟨p4, (Gs.refl p4.1.rs).gz p4.1.rs⟩ hD4 e5 ht
end
section
variable {X : Cx}
def rSortedA (X : Cx) : List V → Hp → VK → Prop := fun vs H Q => ∃ (a : Addr) (ns : List Int), vs = [V.ref a] ∧ H a = some (SetAcc X.w a ns) ∧ ∀ (p : Addr), H p = none → Q (.ref p) (upd H p (.lst ((sortU ns).map V.int)))
theorem cr_sortedA (hc : X.calm = true) : CallR X (.builtin "sorted") (rSortedA X) := by
  intro pins s σ H vs us Q I r ⟨a, acc, e, ha, q⟩
  subst e
  rw [Vals.ref1 r]
  obtain ⟨n, hn, R⟩ := setAcc_get I ha
  refine set_sorted R (I.ok.hd hc) fun u p out c ns keep g o sz at_ iar srt nod mem => ?_
  have free : H p = none := I.hok.fresh sz
  have few : ns.length ≤ sizeLine := by
    obtain ⟨o', es, ep, t, r1, r2, r3, good, nod', mem', r7, _⟩ := R
    have perm : ns.Perm (es.toList.map keyOf) := (List.perm_ext_iff_of_nodup nod nod').mpr fun k => by rw [mem k, mem' k]
    have e1 : ns.length = es.size := by rw [perm.length_eq, List.length_map]; exact Array.length_toList
    rw [e1]
    exact fits_of_scanBound r7
  have es : ns = sortU acc := sortU_only srt nod fun k => by rw [mem k]; simp
  subst es
  have J : Inv X pins σ (upd H p (.lst ((sortU acc).map V.int))) { s with heap := u.heap, gens := u.gens, drawn := u.drawn, toks := u.toks } :=
    I.call (ch := []) (Un.laid keep sz free) (I.hok.laid keep sz ⟨by rw [List.length_map]; exact few, out.toList, c, vals_of_ints iar, at_⟩) (by rw [g]; exact I.bare) (fun _ z => nomatch z)
  have eu : u = { s with heap := u.heap, gens := u.gens, drawn := u.drawn, toks := u.toks } := by
    cases u; cases s; cases o; rfl
  rw [eu]
  exact ⟨.ref p, _, J, rfl, q p free⟩
/-- what sorted makes of the words of the comprehension -/
def fSU (ws : List W) : Option (List W) := (intsW ws).bind fun ns => if ns.length ≤ 4000 then some ((sortU ns).map fun i => W.d (.int i)) else none
def msortSet (m : Am) : Am := fun ρ S => (m ρ S).bind fun p => (fSU p.1).bind fun r => some (r, p.2)
theorem sortSet_of {e : Expr} {m : Am} {p pos : Pos} (B : Bl X.mg) (hc : X.calm = true) (h : PE X e (LSt X.K X.w m)) (hg : Gl X "sorted") (he2 : starEach [e] X.env = (false, eval e X.env) :: starEach [] X.env) (hpl2 : (backTo pos (starEach [] X.env)).any (·.1) = false := by rfl) :
    MF X (.Call (.Name "sorted" p) [e] [] pos) (msortSet m) :=
  PE.cons (pe_callB (cr_sortedA hc) hg B.sorted (by decide +kernel) (pa_cons h pa_nil he2) (by decide) (by decide) he2 hpl2) fun σ H Q ⟨F, μ, ρ, S, ws, S', rs, rst, h, k⟩ => by
    obtain ⟨⟨ws, S1⟩, e1, h1⟩ := bind_some h
    obtain ⟨w', e2, h2⟩ := bind_some h1
    cases h2
    unfold fSU at e2
    obtain ⟨ns, e4, h4⟩ := bind_some e2
    dsimp only at h4 e4
    split at h4
    · rename_i few
      cases h4
      have ew := intsW_map e4
      subst ew
      refine ⟨F, μ, ρ, S, ns, S1, rs, rst, e1, few, fun μ1 H1 p1 g1 free => ⟨p1, ns, rfl, upd_same, fun p2 free2 => ?_⟩⟩
      have fr : Fr H1 (upd H1 p1 (SetAcc X.w p1 ns)) := Fr.upd free
      exact k μ1 _ p2 _ (g1.trans (fr.gs g1.rs)) free2 intsRep
    · cases h4
end
section
variable {X : Cx} {elt tg iter tg1 iter1 : Expr} {ifs ifs1 : List Expr} {scope : Scope} {own : List (Str × Nat)} {p pos cpos : Pos} {mi mi1 : Im} {g g1 : Gm} {T T1 : List Nat} {c c1 : Tm} {e : Em}
theorem mf_sset (B : Bl X.mg) (hc : X.calm = true) (hN : X.N.Nodup) (hi : MI X tg iter mi) (ok : BlkOk X.N X.env.scope scope own) (hT : ∀ i ∈ T, i ∈ own.map (·.2))
    (hg : ∀ (s : Shared) (H : Hp) (C : Addr) (cl : List (Str × Addr)) (fp : List Addr), PG (X.blk s H scope (compEnvC scope cl C X.env) fp) tg (LG X.K g T)) (ht : ∀ (s : Shared) (H : Hp) (C : Addr) (cl : List (Str × Addr)) (fp : List Addr), PTs (X.blk s H scope (compEnvC scope cl C X.env) fp) ifs (LT X.K c))
    (he : ∀ (s : Shared) (H : Hp) (C : Addr) (cl : List (Str × Addr)) (fp : List Addr), PE (X.blk s H scope (compEnvC scope cl C X.env) fp) elt (LE X.K e)) (hs : ∀ x, foldedSetIterable iter X.env x = pure x := by intro _; rfl) (hgl : Gl X "sorted" := by rfl)
    (he2 : starEach [.SetComp elt [⟨tg, iter, ifs, 0⟩] scope cpos] X.env = (false, eval (.SetComp elt [⟨tg, iter, ifs, 0⟩] scope cpos) X.env) :: starEach [] X.env := by rfl) (hpl2 : (backTo pos (starEach [] X.env)).any (·.1) = false := by rfl) :
    MF X (.Call (.Name "sorted" p) [.SetComp elt [⟨tg, iter, ifs, 0⟩] scope cpos] [] pos) (msortSet (mcomp mi g c e (own.map (·.2)))) :=
  sortSet_of B hc (PE.cons (pe_s1 hc hN hi ok hg ht he hs) fun σ H Q h => st_read1 hT h) hgl he2 hpl2
theorem mf_sset2 {vs1 : List Nat} (B : Bl X.mg) (hc : X.calm = true) (hN : X.N.Nodup) (hi : MI X tg iter mi) (ok : BlkOk X.N X.env.scope scope own) (hv : ∀ i ∈ vs1, i ∈ own.map (·.2)) (hT : ∀ i ∈ T, i ∈ own.map (·.2)) (hT1 : ∀ i ∈ T1, i ∈ vs1)
    (hg : ∀ (s : Shared) (H : Hp) (C : Addr) (cl : List (Str × Addr)) (fp : List Addr), PG (X.blk s H scope (compEnvC scope cl C X.env) fp) tg (LG X.K g T)) (ht : ∀ (s : Shared) (H : Hp) (C : Addr) (cl : List (Str × Addr)) (fp : List Addr), PTs (X.blk s H scope (compEnvC scope cl C X.env) fp) ifs (LT X.K c))
    (hi1 : ∀ (s : Shared) (H : Hp) (C : Addr) (cl : List (Str × Addr)) (fp : List Addr), PI (X.blk s H scope (compEnvC scope cl C X.env) fp) tg1 iter1 (LI X.K mi1))
    (hg1 : ∀ (s : Shared) (H : Hp) (C : Addr) (cl : List (Str × Addr)) (fp : List Addr), PG (X.blk s H scope (compEnvC scope cl C X.env) fp) tg1 (LG X.K g1 T1)) (ht1 : ∀ (s : Shared) (H : Hp) (C : Addr) (cl : List (Str × Addr)) (fp : List Addr), PTs (X.blk s H scope (compEnvC scope cl C X.env) fp) ifs1 (LT X.K c1))
    (he : ∀ (s : Shared) (H : Hp) (C : Addr) (cl : List (Str × Addr)) (fp : List Addr), PE (X.blk s H scope (compEnvC scope cl C X.env) fp) elt (LE X.K e)) (hs : ∀ x, foldedSetIterable iter X.env x = pure x := by intro _; rfl) (hs1 : ∀ env x, foldedSetIterable iter1 env x = pure x := by intro _ _; rfl) (hgl : Gl X "sorted" := by rfl)
    (he2 : starEach [sx2 elt tg iter tg1 iter1 ifs ifs1 scope cpos] X.env = (false, eval (sx2 elt tg iter tg1 iter1 ifs ifs1 scope cpos) X.env) :: starEach [] X.env := by rfl) (hpl2 : (backTo pos (starEach [] X.env)).any (·.1) = false := by rfl) :
    MF X (.Call (.Name "sorted" p) [.SetComp elt [⟨tg, iter, ifs, 0⟩, ⟨tg1, iter1, ifs1, 0⟩] scope cpos] [] pos) (msortSet (mcomp2 mi g c mi1 g1 c1 e (own.map (·.2)) vs1)) :=
  sortSet_of B hc (PE.cons (pe_s2 hc hN hi ok hv hg ht hi1 hg1 ht1 he hs hs1) fun σ H Q h => st_read2 hT hT1 h) hgl he2 hpl2
end
end GM

set_option Elab.async false
set_option linter.all false
set_option maxRecDepth 100000
set_option maxHeartbeats 4000000
set_option autoImplicit false
namespace GM
open PySem L2
/-! ### x is True, x <= y of tuples of ints -/
section
variable {K : PySem.W.Frag}
def fIsBl (g : Bool → Bool) : Sto → List W → Option W
  | _, [.d (.bl a), .d (.bl b)] => some (.d (.bl (g (decide (a = b)))))
  | _, _ => none
theorem isBl_ok : POk K (r2 fun x y H Q => ∃ a b, x = .bl a ∧ y = .bl b ∧ Q (.bl (decide (a = b))) H) (fIsBl id) := fun F μ S H ws vs w Q rs h q k => by
  unfold fIsBl at h
  split at h
  · cases h
    obtain ⟨v, u, rfl, q1, q2⟩ := rep2 q
    exact ⟨_, _, rfl, _, _, dbl.mp q1, dbl.mp q2, pk_bl k⟩
  · cases h
theorem notBl_ok : POk K (r2 fun x y H Q => ∃ a b, x = .bl a ∧ y = .bl b ∧ Q (.bl (!decide (a = b))) H) (fIsBl not) := fun F μ S H ws vs w Q rs h q k => by
  unfold fIsBl at h
  split at h
  · cases h
    obtain ⟨v, u, rfl, q1, q2⟩ := rep2 q
    exact ⟨_, _, rfl, _, _, dbl.mp q1, dbl.mp q2, pk_bl k⟩
  · cases h
theorem lex_shift {e r : Nat → Bool} {z : Bool} : ∀ (k i : Nat), Ob.lexAt e r z (i + 1) k = Ob.lexAt (fun j => e (j + 1)) (fun j => r (j + 1)) z i k
  | 0, i => rfl
  | k + 1, i => by
    rw [Ob.lexAt_succ, Ob.lexAt_succ, lex_shift k (i + 1)]
theorem lex_le : ∀ ns ms : List Int, Ob.lexAt (fun j => decide (ns.getD j 0 = ms.getD j 0)) (fun j => decide (ns.getD j 0 ≤ ms.getD j 0)) (decide (ns.length ≤ ms.length)) 0 (min ns.length ms.length) = decide (ns ≤ ms)
  | [], ms => by
    rw [List.length_nil, Nat.zero_min, Ob.lexAt_zero, decide_eq_true (Nat.zero_le _), decide_eq_true (List.nil_le ms)]
  | x :: ns, [] => by
    rw [List.length_nil, Nat.min_zero, Ob.lexAt_zero, decide_eq_false (by simp), decide_eq_false]
    exact fun h => by cases List.le_nil.mp h
  | x :: ns, y :: ms => by
    have ih := lex_le ns ms
    rw [List.length_cons, List.length_cons, Nat.succ_min_succ, Ob.lexAt_succ]
    by_cases e : x = y
    · subst e
      rw [if_pos (by simp), lex_shift]
      have e1 : decide (ns.length + 1 ≤ ms.length + 1) = decide (ns.length ≤ ms.length) := by
        by_cases z : ns.length ≤ ms.length <;> simp [z]
      rw [e1]
      refine Eq.trans ih ?_
      exact decide_eq_decide.mpr ⟨fun h => List.cons_le_cons_iff.mpr (.inr ⟨rfl, h⟩), fun h => by
        rcases List.cons_le_cons_iff.mp h with z | z
        · omega
        · exact z.2⟩
    · rw [if_neg (by simpa using e)]
      show decide (x ≤ y) = _
      exact decide_eq_decide.mpr ⟨fun h => List.cons_le_cons_iff.mpr (.inl (by omega)), fun h => by
        rcases List.cons_le_cons_iff.mp h with z | z
        · omega
        · exact absurd z.1 e⟩
def fLeX : Sto → List W → Option W
  | _, [.d (.int i), .d (.int j)] => some (.d (.bl (decide (i ≤ j))))
  | _, [.d (.tup ds), .d (.tup es)] => (intsW (ds.map W.d)).bind fun ns => (intsW (es.map W.d)).bind fun ms => some (.d (.bl (decide (ns ≤ ms))))
  | _, _ => none
theorem leX_ok : POk K (r2 fun x y H Q => rI0 (fun i j => .bl (decide (i ≤ j))) x y H Q ∨ rLeT K x y H Q) fLeX := fun F μ S H ws vs w Q rs h q k => by
  unfold fLeX at h
  split at h
  · cases h
    obtain ⟨v, u, rfl, q1, q2⟩ := rep2 q
    cases dint.mp q1; cases dint.mp q2
    exact ⟨_, _, rfl, .inl ⟨_, _, rfl, rfl, pk_bl k⟩⟩
  · obtain ⟨ns, e1, h⟩ := bind_some h
    obtain ⟨ms, e2, h⟩ := bind_some h
    cases h
    obtain ⟨v, u, rfl, q1, q2⟩ := rep2 q
    obtain ⟨a, xs, rfl, h1, h2⟩ := dtup.mp q1
    obtain ⟨b, ys, rfl, h3, h4⟩ := dtup.mp q2
    have x1 := ints_rep (μ := μ) e1 (rep_map h2)
    have x2 := ints_rep (μ := μ) e2 (rep_map h4)
    subst x1 x2
    exact ⟨_, _, rfl, .inr ⟨a, b, ns, ms, rfl, rfl, h1, h3, by rw [lex_le]; exact pk_bl k⟩⟩
  · cases h
end
section
variable {X : Cx} {a b : Expr} {ma mb : Em} {pos : Pos}
theorem unitsC {j : Nat} (hr : Room j X.A) : X.A.units < cLine := by have := hr.un; omega
theorem mc_leX {j : Nat} (hr : Room j X.A) (ha : ME X a ma) (hb : ME X b mb) : ME X (.Compare a [.LtE] [b] pos) (prim fLeX (acons ma (acons mb anil))) := me_cmp leX_ok (OpR.or op_le (op_leT (unitsC hr))) ha hb (nomark _)
theorem mq_leX {j : Nat} (hr : Room j X.A) (ha : ME X a ma) (hb : ME X b mb) : MT X (.Compare a [.LtE] [b] pos) (tst (prim fLeX (acons ma (acons mb anil)))) := mt_cmp leX_ok (OpR.or op_le (op_leT (unitsC hr))) ha hb (nomark _)
theorem mc_isB (ha : ME X a ma) (hb : ME X b mb) : ME X (.Compare a [.Is] [b] pos) (prim (fIsBl id) (acons ma (acons mb anil))) := me_cmp isBl_ok op_is_bl ha hb (nomark _)
theorem mc_isNotB (ha : ME X a ma) (hb : ME X b mb) : ME X (.Compare a [.IsNot] [b] pos) (prim (fIsBl not) (acons ma (acons mb anil))) := me_cmp notBl_ok op_isnot_bl ha hb (nomark _)
theorem mq_isB (ha : ME X a ma) (hb : ME X b mb) : MT X (.Compare a [.Is] [b] pos) (tst (prim (fIsBl id) (acons ma (acons mb anil)))) := mt_cmp isBl_ok op_is_bl ha hb (nomark _)
theorem mq_isNotB (ha : ME X a ma) (hb : ME X b mb) : MT X (.Compare a [.IsNot] [b] pos) (tst (prim (fIsBl not) (acons ma (acons mb anil)))) := mt_cmp notBl_ok op_isnot_bl ha hb (nomark _)
end
end GM

set_option Elab.async false
set_option linter.all false
set_option maxRecDepth 100000
set_option maxHeartbeats 4000000
set_option autoImplicit false
namespace GM
open PySem PySem.Calls PyProof.Rows PySem.SeqAt PySem.W L2
/-! ### sorted of alike tuples of which the first is () -/
section
variable {prog : Program} {w : World} {A : Around} {s : Shared}
theorem oneLt_tup {xs ys : List PyData} {a b : Value} {as bs : List Addr} {Q : Bool → Shared → Prop} {E : Value → Shared → Prop} (ra : Reads s.heap a (.tuple xs) as) (rb : Reads s.heap b (.tuple ys) bs) (h : PySem.W.alike (.tuple xs) (.tuple ys) = true)
    (hu : A.units + min (PyData.tuple xs).depth (PyData.tuple ys).depth < cLine) (hq : Q (PySem.W.dataLt (.tuple xs) (.tuple ys)) s) : wpAny (model prog w) A (oneLt' true a b) Q E s := by
  have hal : PySem.W.alikeAll xs ys = true := by simpa [PySem.W.alike] using h
  cases ra with
  | @tuple l o vs n _ as₁ h1 h2 h3 h4 =>
    cases rb with
    | @tuple l' o' vs' n' _ bs₁ k1 k2 k3 k4 =>
      have n1 : vs.size = xs.length := by simpa using ReadsAll.length _ _ _ h4
      have n2 : vs'.size = ys.length := by simpa using ReadsAll.length _ _ _ k4
      rw [PySem.W.dataLt_tuple, ← PySem.W.firstLt_toks xs ys hal, ← n1, ← n2] at hq
      rw [oneLt'_eq]
      simp only [if_true]
      obtain ⟨cls, dd, data, sl⟩ := o
      obtain ⟨cls2, dd2, data2, sl2⟩ := o'
      simp only at h2 h3 k2 k3
      subst h2 h3 k2 k3
      refine wpAny_bind (wpAny_cRoomFor (room_here hu) ?_)
      refine wpAny_bind (wpAny_callSpecialIfBound?_slot (T := "tuple") ⟨_, h1, rfl⟩ F.slot_tuple_lt (call_meets F.slot_tuple_lt ⟨_, h1, rfl⟩ F.entry_tuple_lt (F.args_tuple_lt_2 _ _) (tuple_ltAt l l' vs vs' n n' dd dd2 sl sl2 (PySem.SeqAt.pairEq xs ys) (fun j => PySem.W.dataLt (xs.getD j .none) (ys.getD j .none))) ⟨h1, k1, fun j j1 j2 => ?_, fun j j1 j2 hj => ?_, ?_⟩))
      · have := PySem.W.eqAt_alikeAll xs ys A.in1 s vs.toList vs'.toList _ _ h4 k4 hal (room_in hu) j (by simpa using j1) (by simpa using j2)
        simpa using this
      · have := PySem.W.rcLt_alikeAll xs ys A.in1 s vs.toList vs'.toList _ _ h4 k4 hal (room_in hu) j (by simpa using j1) (by simpa using j2) hj
        simpa using this
      · exact wpAny_truthy_bool hq
end
/-- a tuple in the heap -/
def TupAt (h : Heap) (v : Value) (xs : Array Value) : Prop := ∃ a o n, v = .ref a ∧ h.get? a = some o ∧ o.cls = .type "tuple" ∧ o.data = .seq xs n
section
variable {M : Model} {A : Around} {E : Value → Shared → Prop} {s : Shared}
theorem first_of {v : Value} {xs : Array Value} {Q : Option Value → Shared → Prop} (t : TupAt s.heap v xs) (h : Q xs[0]? s) : wpAny M A (firstOfTuple' v) Q E s := by
  obtain ⟨a, o, n, rfl, ho, hc, hd⟩ := t
  rw [kas_first_eq]
  refine wpAny_bind (Looks.here (show Looks M s.heap (typeOf (.ref a)) o.cls from (Looks.ld ho).andThen .now) ?_)
  rw [hc, if_neg (by first | decide | simp)]
  exact wpAny_bind (listItems_at ho hd (wpAny_pure h))
theorem firsts_any : ∀ (vs : List Value) {Q : List (Option Value) → Shared → Prop}, (∀ v ∈ vs, ∃ xs, TupAt s.heap v xs) → (∀ fs, Q fs s) → wpAny M A (vs.mapM firstOfTuple') Q E s
  | [], Q, _, h => by rw [List.mapM_nil]; exact wpAny_pure (h [])
  | v :: vs, Q, t, h => by
    obtain ⟨xs, tx⟩ := t v (List.mem_cons_self ..)
    rw [List.mapM_cons]
    exact wpAny_bind (first_of tx (wpAny_bind (firsts_any vs (Q := fun bs s' => wpAny M A (pure (xs[0]? :: bs)) Q E s') (fun u hu => t u (List.mem_cons_of_mem _ hu)) fun fs => wpAny_pure (h _))))
theorem kind_empty {v₁ : Value} {rest : List Value} {Q : SortKind → Shared → Prop} (h1 : TupAt s.heap v₁ #[]) (ht : ∀ v ∈ rest, ∃ xs, TupAt s.heap v xs) (h : Q oneType' s) : wpAny M A (keyKind' (v₁ :: rest).toArray) Q E s := by
  have hT : ∀ v ∈ v₁ :: rest, Looks M s.heap (typeOf v) (.type "tuple") := fun v hv => by
    have : ∃ xs, TupAt s.heap v xs := by
      rcases List.mem_cons.mp hv with e | e
      · rw [e]; exact ⟨_, h1⟩
      · exact ht v e
    obtain ⟨xs, a, o, n, rfl, ho, hc, hd⟩ := this
    show Looks M s.heap (typeOf (Value.ref _)) (Value.type "tuple")
    exact hc ▸ (Looks.ld ho).andThen .now
  rw [kat_kind_eq, List.mapM_toArray, map_eq_pure_bind]
  refine wpAny_bind (wpAny_bind ?_)
  rw [List.mapM_cons]
  refine wpAny_bind (first_of h1 (wpAny_bind (firsts_any rest ht fun fs => wpAny_pure (wpAny_pure ?_))))
  have h0 : (#[] : Array Value)[0]? = none := rfl
  rw [h0]
  have e1 : ((none :: fs : List (Option Value)).toArray.all fun x => x.isSome) = false := by simp
  rw [if_neg (by rw [e1]; simp), if_neg (by simp)]
  rw [oneTypeOnly'_eq, List.mapM_toArray, map_eq_pure_bind]
  refine wpAny_bind (wpAny_bind (wpAny_bind (kas_mapM (r := Value.type "tuple") _ (fun v hv Q' hq => (hT v hv).here hq) (wpAny_pure ?_))))
  have hall : ((List.map (fun _ => Value.type "tuple") (v₁ :: rest)).toArray.all fun x => x == Value.type "tuple") = true := by
    simp only [List.all_toArray, List.all_map, List.all_eq_true]
    intro _ _
    first | exact beq_self_eq_true _ | decide | rfl
  have h0 : (List.map (fun _ => Value.type "tuple") (v₁ :: rest)).toArray[0]? = some (Value.type "tuple") := by simp
  rw [h0]
  simp only [hall, if_true]
  exact wpAny_pure (wpAny_pure h)
end
section
variable {prog : Program} {w : World} {A : Around} {s : Shared}
theorem reads_tup {h : Heap} {v : Value} {xs : List PyData} {as : List Addr} (r : Reads h v (.tuple xs) as) : ∃ vs, TupAt h v vs ∧ vs.size = xs.length := by
  cases r with
  | @tuple l o vs n _ as₁ h1 h2 h3 h4 => exact ⟨vs, ⟨l, o, n, rfl, h1, h2, h3⟩, by simpa using ReadsAll.length _ _ _ h4⟩
/-- alike tuples of which the first is () can be sorted -/
theorem sortsAt0 {vs : List Value} {ds : List PyData} (e : PySem.W.EachIs (fun v d => ∃ as, Reads s.heap v d as) vs (.tuple [] :: ds)) (hal : PySem.W.AllAlike (.tuple [] :: ds)) (hk : ∀ d ∈ ds, ∃ xs, d = .tuple xs) (hu : ∀ d, d ∈ PyData.tuple [] :: ds → A.units + d.depth < cLine) : PySem.W.SortsAt prog w A s (PySem.W.dataKind s.heap (.tuple [] :: ds)) vs := by
  have hk' : ∀ d ∈ PyData.tuple [] :: ds, ∃ xs, d = .tuple xs := fun d hd => by
    rcases List.mem_cons.mp hd with h | h
    · exact ⟨[], h⟩
    · exact hk d h
  refine ⟨fun v hv => ?_, ?_⟩
  · obtain ⟨d, hd, as, r⟩ := e.left v hv
    exact ⟨_, PySem.W.dataKind_some hal hd r⟩
  · refine ⟨oneType', ?_, fun h2 E Q hq => ?_⟩
    · intro E x y a b Q ha hb hq
      obtain ⟨d, as, hd, ra, rfl⟩ := PySem.W.dataKind_inv ha
      obtain ⟨d', as', hd', rb, rfl⟩ := PySem.W.dataKind_inv hb
      obtain ⟨xs, rfl⟩ := hk' d hd
      obtain ⟨ys, rfl⟩ := hk' d' hd'
      rw [keyLt'_oneType]
      exact oneLt_tup ra rb (hal _ hd _ hd') (Nat.lt_of_le_of_lt (Nat.add_le_add_left (Nat.min_le_left _ _) _) (hu _ hd)) hq
    · cases e with
      | @cons v₁ _ rest _ h1 h2' =>
        obtain ⟨as, r⟩ := h1
        obtain ⟨xs, t, hx⟩ := reads_tup r
        have hx0 : xs = #[] := by
          apply Array.eq_empty_of_size_eq_zero
          rw [hx]; rfl
        subst hx0
        refine kind_empty t (fun v hv => ?_) hq
        obtain ⟨d, hd, as', r'⟩ := h2'.left v hv
        obtain ⟨ys, rfl⟩ := hk d hd
        obtain ⟨zs, t', _⟩ := reads_tup r'
        exact ⟨zs, t'⟩
end
end GM

set_option Elab.async false
set_option linter.all false
set_option maxRecDepth 100000
set_option maxHeartbeats 4000000
set_option autoImplicit false
namespace GM
open PySem L2 PyProof.Rows
/-! ### sorted(xs), xs a list of alike tuples, () may stand first; sorted(t), t a tuple of alike tuples -/
def tupB0 : D → Bool
  | .tup _ => true
  | _ => false
def okSrt0 (ds : List D) : Bool := (match ds with
  | .tup [] :: _ => true
  | _ => false) && ds.all tupB0 && ds.all (fun x => decide (PyData.depth x.py ≤ 12)) && ds.all fun x => ds.all fun y => PySem.W.alike x.py y.py
def okSrtE (ds : List D) : Bool := okSrt ds || okSrt0 ds
def fSortE (S : Sto) : List W → Option (List W)
  | [x] => (listW S x).bind fun ws => (datas ws).bind fun ds => if okSrtE ds = true then some ((ds.mergeSort leD).map W.d) else none
  | _ => none
def rSortE (K : PySem.W.Frag) : List V → Hp → VK → Prop := fun vs H Q => ∃ (a : Addr) (bs : List (D × V)), vs = [V.ref a] ∧ SqL K H a (bs.map (·.2)) ∧ (∀ b ∈ bs, Dp K H b.2 b.1.py) ∧ okSrtE (bs.map (·.1)) = true ∧
  ∀ p, H p = none → Q (.ref p) (upd H p (.lst ((bs.mergeSort fun x y => leD x.1 y.1).map (·.2))))
theorem cr_sortE {X : Cx} {j : Nat} (hr : Room j X.A) : CallR X (.builtin "sorted") (rSortE X.K) := by
  intro pins s σ H vs us Q I r h
  obtain ⟨a, bs, rfl, hs, hd, hk, q⟩ := h
  unfold okSrtE at hk
  rw [Bool.or_eq_true] at hk
  rcases hk with hk | hk
  · exact cr_sortD hr pins s σ H _ us Q I r ⟨a, bs, rfl, hs, hd, hk, q⟩
  obtain ⟨its, rv, hl, hz⟩ := I.list hs
  rw [Vals.ref1 r]
  obtain ⟨e1, e2⟩ := each_vals (K := X.K) I rv hd
  unfold okSrt0 at hk
  simp only [Bool.and_eq_true, List.all_eq_true, decide_eq_true_eq] at hk
  obtain ⟨⟨⟨k0, k1⟩, k2⟩, k3⟩ := hk
  obtain ⟨b0, bs', rfl, hb0⟩ : ∃ b0 bs', bs = b0 :: bs' ∧ b0.1 = .tup [] := by
    cases bs with
    | nil => cases k0
    | cons b bs' =>
      refine ⟨b, bs', rfl, ?_⟩
      rw [List.map_cons] at k0
      split at k0
      · rename_i e; injection e
      · cases k0
  have hal : PySem.W.AllAlike ((b0 :: bs').map fun b : D × V => D.py b.1) := by
    intro x hx y hy
    obtain ⟨b, hb, rfl⟩ := List.mem_map.mp hx
    obtain ⟨c, hc, rfl⟩ := List.mem_map.mp hy
    exact k3 _ (List.mem_map.mpr ⟨b, hb, rfl⟩) _ (List.mem_map.mpr ⟨c, hc, rfl⟩)
  have er' : PySem.W.EachIs (fun v (b : D × V) => ∃ as, Reads (PySem.W.sortingHeap (PySem.W.copyHeap s.heap its) (s.heap.objs.size + 1) its) v (D.py b.1) as) its (b0 :: bs') := e2.mono fun _ _ ⟨as, r⟩ => ⟨as, PyProof.Rows.Reads.keeps (fun _ _ => PySem.W.sorting_copy_old) r⟩
  have h0 : D.py b0.1 = .tuple [] := by rw [hb0, D.py, D.pys]
  have ek := PySem.W.each_map (R := fun v d => ∃ as, Reads (PySem.W.sortingHeap (PySem.W.copyHeap s.heap its) (s.heap.objs.size + 1) its) v d as) (fun b : D × V => D.py b.1) er'
  have hlen : its.length = (b0 :: bs').length := by have := rv.length; rw [List.length_map] at this; exact this.symm
  rw [List.length_map] at hz
  refine PySem.W.sorted_vals (κ := PySem.W.dataKind (PySem.W.sortingHeap (PySem.W.copyHeap s.heap its) (s.heap.objs.size + 1) its) ((b0 :: bs').map fun b : D × V => D.py b.1)) hl.isList ?_ (by omega) ?_
  · have hal' := hal
    rw [List.map_cons, h0] at ek hal'
    rw [List.map_cons, h0]
    refine sortsAt0 (s := { s with heap := PySem.W.sortingHeap (PySem.W.copyHeap s.heap its) (s.heap.objs.size + 1) its }) ek hal' (fun d hd => ?_) (fun d hd => ?_)
    · obtain ⟨b, hb, rfl⟩ := List.mem_map.mp hd
      have := k1 b.1 (List.mem_map.mpr ⟨b, List.mem_cons_of_mem _ hb, rfl⟩)
      cases e : b.1 with
      | tup ds => exact ⟨D.pys ds, by rw [D.py]⟩
      | _ => rw [e] at this; cases this
    · have hd2 : d.depth ≤ 12 := by
        rcases List.mem_cons.mp hd with e | e
        · rw [e, ← h0]; exact k2 _ (List.mem_map.mpr ⟨b0, List.mem_cons_self .., rfl⟩)
        · obtain ⟨b, hb, rfl⟩ := List.mem_map.mp e
          exact k2 _ (List.mem_map.mpr ⟨b, List.mem_cons_of_mem _ hb, rfl⟩)
      have := hr.un
      show X.A.units + 2 + d.depth < cLine
      omega
  · have hout := PySem.W.sortVals_data false e1 er' hal
    obtain ⟨ep, he'⟩ := PyProof.Rows.sortedAll_at s.heap its (PySem.W.sortVals (PySem.W.dataKind (PySem.W.sortingHeap (PySem.W.copyHeap s.heap its) (s.heap.objs.size + 1) its) ((b0 :: bs').map fun b : D × V => D.py b.1)) false its its).toArray
    have hlen2 : (((b0 :: bs').mergeSort fun x y => leD x.1 y.1).map (·.2)).length ≤ sizeLine := by
      rw [List.length_map, List.length_mergeSort]
      exact hz
    exact ⟨.ref _, upd H (s.heap.objs.size + 1) (.lst (((b0 :: bs').mergeSort fun x y => leD x.1 y.1).map (·.2))), I.laid (t' := s.toks) (fun _ _ => PyProof.Rows.sortedAll_old) (Nat.le_succ _) ⟨hlen2, _, ep, vals_each hout, he'⟩, rfl, q _ (I.hok.fresh (Nat.le_succ _))⟩
section
variable {K : PySem.W.Frag}
theorem sortE_ok : POkF K (rSortE K) fSortE := fun F μ S H ws vs w Q rs h q k => by
  unfold fSortE at h
  split at h
  · obtain ⟨us, e1, h⟩ := bind_some h
    obtain ⟨ds, e2, h⟩ := bind_some h
    obtain ⟨hc, rfl⟩ := ite_m h
    obtain ⟨v, rfl, q1⟩ := rep1 q
    obtain ⟨a, xs, rfl, hs, r⟩ := list_rep rs e1 q1
    have hr : RepDs K (NF F μ S) H ds xs := datas_rep e2 r
    obtain ⟨bs, rfl, rfl, h3⟩ := repDs_zip hr
    refine ⟨a, bs, rfl, hs, fun b hb => dp_of (h3 b hb), hc, fun p hp => ?_⟩
    refine k p _ hp ?_
    rw [show (bs.map (·.1)).mergeSort leD = (bs.mergeSort fun x y => leD x.1 y.1).map (·.1) from (List.map_mergeSort (r := fun x y : D × V => leD x.1 y.1) (s := leD) fun _ _ _ _ => rfl).symm]
    exact rep_map (zip_repDs fun b hb => h3 b ((List.mergeSort_perm bs _).mem_iff.mp hb))
  · cases h
end
theorem mc_sortE {X : Cx} {e : Expr} {es : List Expr} {ms : Am} {p pos : Pos} {j : Nat} (B : Bl X.mg) (hr : Room j X.A) (ha : MA X (e :: es) ms) (hg : Gl X "sorted" := by rfl)
    (he : starEach (e :: es) X.env = (false, eval e X.env) :: starEach es X.env := by rfl) (hpl : (backTo pos (starEach es X.env)).any (·.1) = false := by rfl) : MF X (.Call (.Name "sorted" p) (e :: es) [] pos) (primF fSortE ms) :=
  mf_callB sortE_ok (cr_sortE hr) hg B.sorted (by decide +kernel) ha (by decide) (by decide) he hpl
end GM

set_option Elab.async false
set_option linter.all false
set_option maxRecDepth 100000
set_option maxHeartbeats 4000000
set_option autoImplicit false
namespace GM
open PySem L2 PyProof.Rows
/-! ### sorted(t), t a tuple of alike tuples -/
def rSortV (K : PySem.W.Frag) : List V → Hp → VK → Prop := fun vs H Q => ∃ (a : Addr) (bs : List (D × V)), vs = [V.ref a] ∧ SqT K H a (bs.map (·.2)) ∧ (∀ b ∈ bs, Dp K H b.2 b.1.py) ∧ okSrt (bs.map (·.1)) = true ∧
  ∀ p, H p = none → Q (.ref p) (upd H p (.lst ((bs.mergeSort fun x y => leD x.1 y.1).map (·.2))))
theorem cr_sortV {X : Cx} {j : Nat} (hr : Room j X.A) : CallR X (.builtin "sorted") (rSortV X.K) := by
  intro pins s σ H vs us Q I r h
  obtain ⟨a, bs, rfl, hs, hd, hk, q⟩ := h
  obtain ⟨its, rv, ⟨o, ho, hc, n, hd0⟩, hz⟩ := I.tuple hs
  rw [Vals.ref1 r]
  unfold okSrt at hk
  simp only [Bool.and_eq_true, List.all_eq_true, decide_eq_true_eq] at hk
  obtain ⟨⟨k1, k2⟩, k3⟩ := hk
  have len : its.length = bs.length := by have := rv.length; rw [List.length_map] at this; exact this.symm
  have fits : its.length ≤ sizeLine := by rw [List.length_map] at hz; omega
  refine Calls.call_function_entry kind_sorted plain_sorted entry_sorted (args_sorted1 _) ?_
  unfold Builtin.«sorted»
  refine wpAny_bind (m := checkCount "sorted" 1 1 _) (wpAny_pure (wpAny_bind ?_))
  refine wpAny_collect_seq a (.inr rfl) ho hc hd0 (fun h' hkp => ?_) (by rw [List.size_toArray]; exact fits)
  have e : its.toArray.toList = its := by simp
  rw [e]
  have I1 : Inv X pins σ H { s with heap := h' } := I.kept (t' := s.toks) hkp
  refine wpAny_bind (wpAny_newList ?_ fits)
  have lo : (h'.push (seqObj "list" its.toArray 0)).get? h'.objs.size = some (seqObj "list" its.toArray 0) := Heap.get?_push_size _ rfl
  obtain ⟨e1, e2⟩ := each_vals (K := X.K) I1 rv hd
  have hal : PySem.W.AllAlike (bs.map fun b : D × V => D.py b.1) := by
    intro x hx y hy
    obtain ⟨b, hb, rfl⟩ := List.mem_map.mp hx
    obtain ⟨c, hc, rfl⟩ := List.mem_map.mp hy
    exact k3 _ (List.mem_map.mpr ⟨b, hb, rfl⟩) _ (List.mem_map.mpr ⟨c, hc, rfl⟩)
  have hsb : PySem.W.Sortable (bs.map fun b : D × V => D.py b.1) := by
    refine .inl fun x hx => ?_
    obtain ⟨b, hb, rfl⟩ := List.mem_map.mp hx
    have := k1 _ (List.mem_map.mpr ⟨b, hb, rfl⟩)
    cases e : b.1 with
    | tup ds =>
      cases ds with
      | nil => rw [e] at this; cases this
      | cons d ds => exact ⟨d.py, D.pys ds, by rw [D.py, D.pys]⟩
    | _ => rw [e] at this; cases this
  have er' : PySem.W.EachIs (fun v (b : D × V) => ∃ as, Reads (PySem.W.sortingHeap (h'.push (seqObj "list" its.toArray 0)) h'.objs.size its) v (D.py b.1) as) its bs := e2.mono fun _ _ ⟨as, r⟩ => ⟨as, PyProof.Rows.Reads.keeps (fun b o q => PySem.W.sortingHeap_old (Nat.ne_of_lt (Heap.lt_size q)) (Heap.get?_push_of_some _ q)) r⟩
  refine wpAny_bind (wpAny_holding (wpAny_call_entry slot_list_sort ⟨_, lo, rfl⟩ entry_list_sort (PySem.W.list_sort_vals (s := { s with heap := h'.push (seqObj "list" its.toArray 0) }) (κ := PySem.W.dataKind (PySem.W.sortingHeap (h'.push (seqObj "list" its.toArray 0)) h'.objs.size its) (bs.map fun b : D × V => D.py b.1)) lo (PySem.W.SortsAt.data (s := { s with heap := PySem.W.sortingHeap (h'.push (seqObj "list" its.toArray 0)) h'.objs.size its }) (PySem.W.each_map (R := fun v d => ∃ as, Reads (PySem.W.sortingHeap (h'.push (seqObj "list" its.toArray 0)) h'.objs.size its) v d as) (fun b : D × V => D.py b.1) er') hal hsb fun d hd => ?_) fits ⟨_, rfl, ?_⟩) (args_list_sort _)))
  · obtain ⟨b, hb, rfl⟩ := List.mem_map.mp hd
    have := k2 _ (List.mem_map.mpr ⟨b, hb, rfl⟩)
    have := hr.un
    show X.A.units + 2 + PyData.depth (D.py b.1) < _
    omega
  · have hout := PySem.W.sortVals_data false e1 er' hal
    obtain ⟨c, hc2⟩ := sortedHeap_at (vs := its) (out := (PySem.W.sortVals (PySem.W.dataKind (PySem.W.sortingHeap (h'.push (seqObj "list" its.toArray 0)) h'.objs.size its) (bs.map fun b : D × V => D.py b.1)) false its its).toArray) lo
    have hlen2 : ((bs.mergeSort fun x y => leD x.1 y.1).map (·.2)).length ≤ sizeLine := by
      rw [List.length_map, List.length_mergeSort]
      omega
    refine wpAny_pure ⟨_, rfl, .ref h'.objs.size, upd H h'.objs.size (.lst ((bs.mergeSort fun x y => leD x.1 y.1).map (·.2))), I1.laid (t' := s.toks) (fun b v e1 => ?_) (Nat.le_refl _) ⟨hlen2, _, c, vals_each hout, hc2⟩, rfl, q _ (I1.hok.fresh (Nat.le_refl _))⟩
    have bl := Heap.lt_size e1
    show (sortedHeap (h'.push (seqObj "list" its.toArray 0)) h'.objs.size its _).get? b = some v
    rw [sortedHeap_old (Nat.ne_of_lt bl) (by rw [size_push']; exact Nat.lt_succ_of_lt bl)]
    exact Heap.get?_push_of_some _ e1
def fSortV (_ : Sto) : List W → Option (List W)
  | [.d (.tup ds)] => if okSrt ds = true then some ((ds.mergeSort leD).map W.d) else none
  | _ => none
section
variable {K : PySem.W.Frag}
theorem sortV_ok : POkF K (rSortV K) fSortV := fun F μ S H ws vs w Q rs h q k => by
  unfold fSortV at h
  split at h
  · obtain ⟨hc, rfl⟩ := ite_m h
    obtain ⟨v, rfl, q1⟩ := rep1 q
    obtain ⟨a, xs, rfl, hs, r⟩ := dtup.mp q1
    obtain ⟨bs, rfl, rfl, h3⟩ := repDs_zip r
    refine ⟨a, bs, rfl, hs, fun b hb => dp_of (h3 b hb), hc, fun p hp => ?_⟩
    refine k p _ hp ?_
    rw [show (bs.map (·.1)).mergeSort leD = (bs.mergeSort fun x y => leD x.1 y.1).map (·.1) from (List.map_mergeSort (r := fun x y : D × V => leD x.1 y.1) (s := leD) fun _ _ _ _ => rfl).symm]
    exact rep_map (zip_repDs fun b hb => h3 b ((List.mergeSort_perm bs _).mem_iff.mp hb))
  · cases h
end
theorem mc_sortV {X : Cx} {e : Expr} {es : List Expr} {ms : Am} {p pos : Pos} {j : Nat} (B : Bl X.mg) (hr : Room j X.A) (ha : MA X (e :: es) ms) (hg : Gl X "sorted" := by rfl)
    (he : starEach (e :: es) X.env = (false, eval e X.env) :: starEach es X.env := by rfl) (hpl : (backTo pos (starEach es X.env)).any (·.1) = false := by rfl) : MF X (.Call (.Name "sorted" p) (e :: es) [] pos) (primF fSortV ms) :=
  mf_callB sortV_ok (cr_sortV hr) hg B.sorted (by decide +kernel) ha (by decide) (by decide) he hpl
end GM

set_option Elab.async false
set_option linter.all false
set_option maxRecDepth 100000
set_option maxHeartbeats 4000000
set_option autoImplicit false
namespace Kx
open PySem L2 GM
def topS (i : Nat) : Stmt := PySem.Challenge.pw_groupsnear_k43_weights_and_least_cuts.main.body.getD i (.Pass ⟨0, 0, 0, 0⟩)
section
variable {P : Program} {w : World} {K : PySem.W.Frag} {mg : Str → Option Value} {base : Heap}
/-! _law_draws: 0 script, 1 many, 2 cells, 3 left, 4 draws, 5 k, 6 place, 7 mixed, 8 cell -/
abbrev s_draws : Stmt := topS 14
theorem sc_draws : FnScope ["script", "many", "cells", "left", "draws", "k", "place", "mixed", "cell"] ["script", "many"] (defScope s_draws) := ⟨rfl, rfl, rfl, by decide +kernel, rfl, by decide +kernel, by decide +kernel⟩
def b_draws : Bm := (bseq (bset 2 (thw (mcomp (isrc srcA (msl slX (mv 0) onone (osome (mk (.int 63))))) (gnm 8) tyes (prim fMod (acons (prim fInt (acons (mv 8) anil)) (acons (prim fShl (acons (mk (.int 1)) (acons (mk (.int 7200)) anil))) anil))) [8])))
  (bseq (bcond (tst (prim fEq (acons (prim fLen (acons (mv 2) anil)) (acons (mk (.int 0)) anil)))) (bdrop (mmeth tAppend (mv 2) (acons (mk (.int 0)) anil))) bnil)
  (bseq (bset 3 (thw (primF fList (acons (mv 2) anil))))
  (bseq (bset 4 (thw (primF fLst anil)))
  (bseq (bfor (iargs rg1 (acons (mv 1) anil)) (gnm 5)
  (bseq (bset 6 (prim fMod (acons (prim fInt (acons (mv 5) anil)) (acons (prim fLen (acons (mv 2) anil)) anil))))
  (bcond (tand (tst (prim fGe (acons (prim fIx (acons (mv 2) (acons (mv 6) anil))) (acons (prim fPow (acons (mk (.int 10)) (acons (mk (.int 18)) anil))) anil)))) (tst (prim fGt (acons (prim fIx (acons (mv 3) (acons (mv 6) anil))) (acons (mk (.int 0)) anil))))) (bseq (bdrop (mmeth tAppend (mv 4) (acons (prim fMod (acons (prim fInt (acons (prim fIx (acons (mv 3) (acons (mv 6) anil))) anil)) (acons (mk (.int 1000)) anil))) anil)))
  (bsub (prim fDiv (acons (prim fIx (acons (mv 3) (acons (mv 6) anil))) (acons (mk (.int 1000)) anil))) (mv 3) (mv 6))) (bseq (bset 7 (prim fMod (acons (prim fInt (acons (prim fAdd (acons (prim fAdd (acons (prim fMulX (acons (prim fIx (acons (mv 2) (acons (mv 6) anil))) (acons (mk (.int 48271)) anil))) (acons (prim fMulX (acons (mv 5) (acons (mk (.int 69621)) anil))) anil))) (acons (mk (.int 11)) anil))) anil)) (acons (mk (.int 2147483647)) anil))))
  (bdrop (mmeth tAppend (mv 4) (acons (prim fMod (acons (prim fInt (acons (prim fAdd (acons (prim fAdd (acons (prim fMulX (acons (mv 7) (acons (mv 7) anil))) (acons (prim fMulX (acons (mk (.int 3)) (acons (mv 7) anil))) anil))) (acons (mv 5) anil))) anil)) (acons (mk (.int 1000003)) anil))) anil)))))))
  (bseq (bdrop (mmeth tReverse (mv 4) anil))
  (bret (mv 4))))))))
def m_draws : Fm := runDef 2 9 b_draws
theorem d_draws (B : Bl mg) (D : DefF K mg "_law_draws" s_draws ["script", "many"]) : FnM P w K mg base 1 "_law_draws" m_draws :=
  mk_def D sc_draws fun f cdv A outer s H E hr => (mss_cons (ms_setLc (i := 2) (own := [("cell", 8)]) (fun h => thw_read h) rfl sc_draws.nd rfl rfl (sw_true rfl rfl rfl (by decide +kernel)) (mi_any (me_sl (mev 0) mo_none (mo_some me_int))) (blkOk_by (by rfl)) (by decide) (fun s H C cl fp => (mgn 8 sc_draws.nd)) (fun s H C cl fp => mts_nil) (fun s H C cl fp => (me_mod (mc_int B rfl (ma_cons (mev 8) ma_nil)) (me_shl me_int me_int))))
  (mss_cons (ms_if (mq_eq hr (mc_len B rfl (ma_cons (mev 2) ma_nil)) me_int) (mss_one (ms_expr (mc_append (mev 2) (ma_cons me_int ma_nil)))) mss_nil)
  (mss_cons (ms_st 3 sc_draws.nd (me_thw (mc_list B rfl (ma_cons (mev 2) ma_nil))))
  (mss_cons (ms_st 4 sc_draws.nd (me_thw (mf_lst ma_nil)))
  (mss_cons (ms_for PassesOwn.never rfl (mi_range1 rfl B.range (ma_cons (mev 1) ma_nil)) (mgn 5 sc_draws.nd)
  (mss_cons (ms_st 6 sc_draws.nd (me_mod (mc_int B rfl (ma_cons (mev 5) ma_nil)) (mc_len B rfl (ma_cons (mev 2) ma_nil))))
  (mss_one (ms_if (PW.pt (mw_and (mq_ge (me_item (mev 2) (mev 6) (fun _ _ => rfl)) (me_pow me_int me_int)) (mw_one_and (mq_gt (me_item (mev 3) (mev 6) (fun _ _ => rfl)) me_int)))) (mss_cons (ms_expr (mc_append (mev 4) (ma_cons (me_mod (mc_int B rfl (ma_cons (me_item (mev 3) (mev 6) (fun _ _ => rfl)) ma_nil)) me_int) ma_nil)))
  (mss_one (ms_sub (me_fdiv (me_item (mev 3) (mev 6) (fun _ _ => rfl)) me_int) (mev 3) (mev 6)))) (mss_cons (ms_st 7 sc_draws.nd (me_mod (mc_int B rfl (ma_cons (me_add (me_add (me_mulX (me_item (mev 2) (mev 6) (fun _ _ => rfl)) me_int) (me_mulX (mev 5) me_int)) me_int) ma_nil)) me_int))
  (mss_one (ms_expr (mc_append (mev 4) (ma_cons (me_mod (mc_int B rfl (ma_cons (me_add (me_add (me_mulX (mev 7) (mev 7)) (me_mulX me_int (mev 7))) (mev 5)) ma_nil)) me_int) ma_nil)))))))))
  (mss_cons (ms_expr (mc_rev0 (mev 4)))
  (mss_one (ms_ret (mev 4)))))))))
/-! _law_take: 0 draws, 1 many -/
abbrev s_take : Stmt := topS 15
theorem sc_take : FnScope ["draws", "many"] ["draws", "many"] (defScope s_take) := ⟨rfl, rfl, rfl, by decide +kernel, rfl, by decide +kernel, by decide +kernel⟩
def b_take : Bm := (bseq (bcond (tst (prim fEq (acons (prim fLen (acons (mv 0) anil)) (acons (mk (.int 0)) anil)))) (bret (mk (.int 0))) bnil)
  (bret (prim fMod (acons (prim fInt (acons (mmeth tPop (mv 0) anil) anil)) (acons (mv 1) anil)))))
def m_take : Fm := runDef 2 2 b_take
theorem d_take (B : Bl mg) (D : DefF K mg "_law_take" s_take ["draws", "many"]) : FnM P w K mg base 1 "_law_take" m_take :=
  mk_def D sc_take fun f cdv A outer s H E hr => (mss_cons (ms_if (mq_eq hr (mc_len B rfl (ma_cons (mev 0) ma_nil)) me_int) (mss_one (ms_ret me_int)) mss_nil)
  (mss_one (ms_ret (me_mod (mc_int B rfl (ma_cons (mc_pop0 (mev 0)) ma_nil)) (mev 1)))))
/-! _law_pick: 0 draws, 1 row -/
abbrev s_pick : Stmt := topS 16
theorem sc_pick : FnScope ["draws", "row"] ["draws", "row"] (defScope s_pick) := ⟨rfl, rfl, rfl, by decide +kernel, rfl, by decide +kernel, by decide +kernel⟩
def b_pick : Bm := (bret (prim fIx (acons (mv 1) (acons (mcall m_take (acons (mv 0) (acons (prim fLen (acons (mv 1) anil)) anil))) anil))))
def m_pick : Fm := runDef 2 2 b_pick
theorem d_pick (B : Bl mg) (D : DefF K mg "_law_pick" s_pick ["draws", "row"]) (h_take : FnM P w K mg base 1 "_law_take" m_take) : FnM P w K mg base 2 "_law_pick" m_pick :=
  mk_def D sc_pick fun f cdv A outer s H E hr => (mss_one (ms_ret (me_item (mev 1) (me_call h_take hr (by decide) rfl (ma_cons (mev 0) (ma_cons (mc_len B rfl (ma_cons (mev 1) ma_nil)) ma_nil))) (fun _ _ => rfl))))
/-! _law_scale: 0 draws -/
abbrev s_scale : Stmt := topS 21
theorem sc_scale : FnScope ["draws"] ["draws"] (defScope s_scale) := ⟨rfl, rfl, rfl, by decide +kernel, rfl, by decide +kernel, by decide +kernel⟩
def b_scale : Bm := (bseq (bcond (tst (prim fEq (acons (mcall m_take (acons (mv 0) (acons (mk (.int 8)) anil))) (acons (mk (.int 0)) anil)))) (bret (mcall m_pick (acons (mv 0) (acons (frz (primF fLst (acons (mk (.int 1000003)) (acons (prim fAdd (acons (prim fPow (acons (mk (.int 10)) (acons (mk (.int 15)) anil))) (acons (mk (.int 37)) anil))) (acons (prim fAdd (acons (prim fPow (acons (mk (.int 10)) (acons (mk (.int 40)) anil))) (acons (mk (.int 121)) anil))) anil))))) anil)))) bnil)
  (bret (mk (.int 1))))
def m_scale : Fm := runDef 1 1 b_scale
theorem d_scale (B : Bl mg) (D : DefF K mg "_law_scale" s_scale ["draws"]) (h_take : FnM P w K mg base 1 "_law_take" m_take) (h_pick : FnM P w K mg base 2 "_law_pick" m_pick) : FnM P w K mg base 3 "_law_scale" m_scale :=
  mk_def D sc_scale fun f cdv A outer s H E hr => (mss_cons (ms_if (mq_eq hr (me_call h_take hr (by decide) rfl (ma_cons (mev 0) (ma_cons me_int ma_nil))) me_int) (mss_one (ms_ret (me_call h_pick hr (by decide) rfl (ma_cons (mev 0) (ma_cons (me_frz (mf_lst (ma_cons me_int (ma_cons (me_add (me_pow me_int me_int) me_int) (ma_cons (me_add (me_pow me_int me_int) me_int) ma_nil))))) ma_nil))))) mss_nil)
  (mss_one (ms_ret me_int)))
/-! _law_pairs: 0 n, 1 told, 2 a, 3 b -/
abbrev s_pairs : Stmt := topS 19
theorem sc_pairs : FnScope ["n", "told", "a", "b"] ["n"] (defScope s_pairs) := ⟨rfl, rfl, rfl, by decide +kernel, rfl, by decide +kernel, by decide +kernel⟩
def b_pairs : Bm := (bseq (bset 1 (frz (primF fLst anil)))
  (bseq (bfor (iargs rg1 (acons (mv 0) anil)) (gnm 2)
  (bset 1 (prim fAdd (acons (mv 1) (acons (frz (mcomp (iargs rg2 (acons (prim fAdd (acons (mv 2) (acons (mk (.int 1)) anil))) (acons (mv 0) anil))) (gnm 3) tyes (prim fTup (acons (mv 2) (acons (mv 3) anil))) [3])) anil)))))
  (bret (mv 1))))
def m_pairs : Fm := runDef 1 4 b_pairs
theorem d_pairs (B : Bl mg) (D : DefF K mg "_law_pairs" s_pairs ["n"]) : FnM P w K mg base 1 "_law_pairs" m_pairs :=
  mk_def D sc_pairs fun f cdv A outer s H E hr => (mss_cons (ms_st 1 sc_pairs.nd (me_frz (mf_lst ma_nil)))
  (mss_cons (ms_for PassesOwn.never rfl (mi_range1 rfl B.range (ma_cons (mev 0) ma_nil)) (mgn 2 sc_pairs.nd)
  (mss_one (ms_st 1 sc_pairs.nd (me_add (mev 1) (me_frz (mf_comp (own := [("b", 3)]) rfl sc_pairs.nd (mi_range2 rfl B.range (ma_cons (me_add (mev 2) me_int) (ma_cons (mev 0) ma_nil))) (blkOk_by (by rfl)) (by decide) (fun s H C cl fp => (mgn 3 sc_pairs.nd)) (fun s H C cl fp => mts_nil) (fun s H C cl fp => (me_tup (ma_cons (mev 2) (ma_cons (mev 3) ma_nil))))))))))
  (mss_one (ms_ret (mev 1)))))
/-! _law_from_pairs: 0 n, 1 distances, 2 rows, 3 pairs, 4 k, 5 a, 6 b, 7 row -/
abbrev s_from_pairs : Stmt := topS 20
theorem sc_from_pairs : FnScope ["n", "distances", "rows", "pairs", "k", "a", "b", "row"] ["n", "distances"] (defScope s_from_pairs) := ⟨rfl, rfl, rfl, by decide +kernel, rfl, by decide +kernel, by decide +kernel⟩
def b_from_pairs : Bm := (bseq (bset 2 (thw (mcomp (iargs rg1 (acons (mv 0) anil)) (gnm 4) tyes (thw (primF fRep (acons (frz (primF fLst (acons (mk (.int 0)) anil))) (acons (mv 0) anil)))) [4])))
  (bseq (bset 3 (mcall m_pairs (acons (mv 0) anil)))
  (bseq (bfor (iargs rg1 (acons (prim fLen (acons (mv 3) anil)) anil)) (gnm 4)
  (bseq (basg (gtp 2 (gcons (gnm 5) (gcons (gnm 6) gnil))) (prim fIx (acons (mv 3) (acons (mv 4) anil))))
  (bseq (bsub (prim fIx (acons (mv 1) (acons (mv 4) anil))) (prim fIx (acons (mv 2) (acons (mv 5) anil))) (mv 6))
  (bsub (prim fIx (acons (mv 1) (acons (mv 4) anil))) (prim fIx (acons (mv 2) (acons (mv 6) anil))) (mv 5)))))
  (bret (prim fTuple (acons (frz (mcomp (isrc srcA (mv 2)) (gnm 7) tyes (prim fTuple (acons (mv 7) anil)) [7])) anil))))))
def m_from_pairs : Fm := runDef 2 8 b_from_pairs
theorem d_from_pairs (B : Bl mg) (D : DefF K mg "_law_from_pairs" s_from_pairs ["n", "distances"]) (h_pairs : FnM P w K mg base 1 "_law_pairs" m_pairs) : FnM P w K mg base 2 "_law_from_pairs" m_from_pairs :=
  mk_def D sc_from_pairs fun f cdv A outer s H E hr => (mss_cons (ms_setLc (i := 2) (own := [("k", 4)]) (fun h => thw_read h) rfl sc_from_pairs.nd rfl rfl (sw_true rfl rfl rfl (by decide +kernel)) (mi_range1 rfl B.range (ma_cons (mev 0) ma_nil)) (blkOk_by (by rfl)) (by decide) (fun s H C cl fp => (mgn 4 sc_from_pairs.nd)) (fun s H C cl fp => mts_nil) (fun s H C cl fp => (me_thw (mf_rep (me_frz (mf_lst (ma_cons me_int ma_nil))) (mev 0)))))
  (mss_cons (ms_st 3 sc_from_pairs.nd (me_call h_pairs hr (by decide) rfl (ma_cons (mev 0) ma_nil)))
  (mss_cons (ms_for PassesOwn.never rfl (mi_range1 rfl B.range (ma_cons (mc_len B rfl (ma_cons (mev 3) ma_nil)) ma_nil)) (mgn 4 sc_from_pairs.nd)
  (mss_cons (ms_asg (me_item (mev 3) (mev 4) (fun _ _ => rfl)) (mg_tup rfl (mgs_cons (mgn 5 sc_from_pairs.nd) (mgs_cons (mgn 6 sc_from_pairs.nd) mgs_nil))))
  (mss_cons (ms_sub (me_item (mev 1) (mev 4) (fun _ _ => rfl)) (me_item (mev 2) (mev 5) (fun _ _ => rfl)) (mev 6))
  (mss_one (ms_sub (me_item (mev 1) (mev 4) (fun _ _ => rfl)) (me_item (mev 2) (mev 6) (fun _ _ => rfl)) (mev 5))))))
  (mss_one (ms_ret (mc_tuple B rfl (ma_cons (me_frz (mf_comp (own := [("row", 7)]) rfl sc_from_pairs.nd (mi_any (mev 2)) (blkOk_by (by rfl)) (by decide) (fun s H C cl fp => (mgn 7 sc_from_pairs.nd)) (fun s H C cl fp => mts_nil) (fun s H C cl fp => (mc_tuple B rfl (ma_cons (mev 7) ma_nil))))) ma_nil)))))))
/-! _law_links: 0 draws, 1 n, 2 scale, 3 top, 4 told, 5 pair -/
abbrev s_links : Stmt := topS 28
theorem sc_links : FnScope ["draws", "n", "scale", "top", "told", "pair"] ["draws", "n"] (defScope s_links) := ⟨rfl, rfl, rfl, by decide +kernel, rfl, by decide +kernel, by decide +kernel⟩
def b_links : Bm := (bseq (bset 2 (mcall m_scale (acons (mv 0) anil)))
  (bseq (bset 3 (mcall m_pick (acons (mv 0) (acons (frz (primF fLst (acons (mk (.int 2)) (acons (mk (.int 3)) (acons (mk (.int 6)) (acons (mk (.int 30)) anil)))))) anil))))
  (bseq (bset 4 (thw (primF fLst anil)))
  (bseq (bfor (isrc srcA (mcall m_pairs (acons (mv 1) anil))) (gnm 5)
  (bdrop (mmeth tAppend (mv 4) (acons (prim fMulX (acons (prim fMulX (acons (mv 2) (acons (mcall m_take (acons (mv 0) (acons (mv 3) anil))) anil))) (acons (prim fMin2 (acons (mk (.int 1)) (acons (mcall m_take (acons (mv 0) (acons (mk (.int 4)) anil))) anil))) anil))) anil))))
  (bret (mcall m_from_pairs (acons (mv 1) (acons (mv 4) anil))))))))
def m_links : Fm := runDef 2 6 b_links
theorem d_links (B : Bl mg) (D : DefF K mg "_law_links" s_links ["draws", "n"]) (h_scale : FnM P w K mg base 3 "_law_scale" m_scale) (h_pick : FnM P w K mg base 2 "_law_pick" m_pick) (h_pairs : FnM P w K mg base 1 "_law_pairs" m_pairs) (h_from_pairs : FnM P w K mg base 2 "_law_from_pairs" m_from_pairs) (h_take : FnM P w K mg base 1 "_law_take" m_take) : FnM P w K mg base 4 "_law_links" m_links :=
  mk_def D sc_links fun f cdv A outer s H E hr => (mss_cons (ms_st 2 sc_links.nd (me_call h_scale hr (by decide) rfl (ma_cons (mev 0) ma_nil)))
  (mss_cons (ms_st 3 sc_links.nd (me_call h_pick hr (by decide) rfl (ma_cons (mev 0) (ma_cons (me_frz (mf_lst (ma_cons me_int (ma_cons me_int (ma_cons me_int (ma_cons me_int ma_nil)))))) ma_nil))))
  (mss_cons (ms_st 4 sc_links.nd (me_thw (mf_lst ma_nil)))
  (mss_cons (ms_for PassesOwn.never rfl (mi_any (me_call h_pairs hr (by decide) rfl (ma_cons (mev 1) ma_nil))) (mgn 5 sc_links.nd)
  (mss_one (ms_expr (mc_append (mev 4) (ma_cons (me_mulX (me_mulX (mev 2) (me_call h_take hr (by decide) rfl (ma_cons (mev 0) (ma_cons (mev 3) ma_nil)))) (mc_min2 B rfl (ma_cons me_int (ma_cons (me_call h_take hr (by decide) rfl (ma_cons (mev 0) (ma_cons me_int ma_nil))) ma_nil)))) ma_nil)))))
  (mss_one (ms_ret (me_call h_from_pairs hr (by decide) rfl (ma_cons (mev 1) (ma_cons (mev 4) ma_nil)))))))))
/-! _law_same: 0 actual, 1 due, 2 k -/
abbrev s_same : Stmt := topS 17
theorem sc_same : FnScope ["actual", "due", "k"] ["actual", "due"] (defScope s_same) := ⟨rfl, rfl, rfl, by decide +kernel, rfl, by decide +kernel, by decide +kernel⟩
def b_same (r : Fm) : Bm := (bseq (bcond (tst (misiT ["tuple", "list"] (mv 1))) (bseq (bcond (tor (tst (prim fNe (acons (prim fIsi (acons (mv 0) (acons (mop (.ty "tuple")) anil))) (acons (prim fIsi (acons (mv 1) (acons (mop (.ty "tuple")) anil))) anil)))) (tst (prim fNe (acons (prim fIsi (acons (mv 0) (acons (mop (.ty "list")) anil))) (acons (prim fIsi (acons (mv 1) (acons (mop (.ty "list")) anil))) anil))))) (bret (mk (.bl false))) bnil)
  (bseq (bcond (tst (prim fNe (acons (prim fLen (acons (mv 0) anil)) (acons (prim fLen (acons (mv 1) anil)) anil)))) (bret (mk (.bl false))) bnil)
  (bret (prim fNotIn (acons (mk (.bl false)) (acons (frz (mcomp (iargs rg1 (acons (prim fLen (acons (mv 1) anil)) anil)) (gnm 2) tyes (mcall r (acons (prim fIx (acons (mv 0) (acons (mv 2) anil))) (acons (prim fIx (acons (mv 1) (acons (mv 2) anil))) anil))) [2])) anil)))))) bnil)
  (bseq (bcond (tor (tst (prim fNe (acons (prim fIsi (acons (mv 0) (acons (mop (.ty "bool")) anil))) (acons (prim fIsi (acons (mv 1) (acons (mop (.ty "bool")) anil))) anil)))) (tst (prim fNe (acons (prim fIsi (acons (mv 0) (acons (mop (.ty "int")) anil))) (acons (prim fIsi (acons (mv 1) (acons (mop (.ty "int")) anil))) anil))))) (bret (mk (.bl false))) bnil)
  (bseq (bcond (tor (tst (prim fNe (acons (prim fIsi (acons (mv 0) (acons (mop (.ty "str")) anil))) (acons (prim fIsi (acons (mv 1) (acons (mop (.ty "str")) anil))) anil)))) (tst (prim fNe (acons (prim fIsN (acons (mv 0) (acons (mk .non) anil))) (acons (prim fIsN (acons (mv 1) (acons (mk .non) anil))) anil))))) (bret (mk (.bl false))) bnil)
  (bret (prim fEq (acons (mv 0) (acons (mv 1) anil)))))))
def m_sameF : Nat → Fm
  | 0 => fun _ _ => none
  | n + 1 => runDef 2 3 (b_same (m_sameF n))
theorem d_sameF (B : Bl mg) (D : DefF K mg "_law_same" s_same ["actual", "due"]) : ∀ n : Nat, FnM P w K mg base (1 + n) "_law_same" (m_sameF n)
  | 0 => fn_none D sc_same
  | n + 1 => have h_same := d_sameF B D n
    mk_def D sc_same fun f cdv A outer s H E hr => (mss_cons (ms_if (mt_val (me_isiT rfl B.isinstance (mev 1) (ty_name B.tuple (by decide +kernel) (ty_name B.list (by decide +kernel) .nil)))) (mss_cons (ms_if (PW.pt (mw_or (mq_ne hr (mc_isi B rfl (ma_cons (mev 0) (ma_cons (me_ty B.tuple (by decide +kernel)) ma_nil))) (mc_isi B rfl (ma_cons (mev 1) (ma_cons (me_ty B.tuple (by decide +kernel)) ma_nil)))) (mw_one_or (mq_ne hr (mc_isi B rfl (ma_cons (mev 0) (ma_cons (me_ty B.list (by decide +kernel)) ma_nil))) (mc_isi B rfl (ma_cons (mev 1) (ma_cons (me_ty B.list (by decide +kernel)) ma_nil))))))) (mss_one (ms_ret me_bl)) mss_nil)
  (mss_cons (ms_if (mq_ne hr (mc_len B rfl (ma_cons (mev 0) ma_nil)) (mc_len B rfl (ma_cons (mev 1) ma_nil))) (mss_one (ms_ret me_bl)) mss_nil)
  (mss_one (ms_ret (mc_notIn hr me_bl (me_frz (mf_comp (own := [("k", 2)]) rfl sc_same.nd (mi_range1 rfl B.range (ma_cons (mc_len B rfl (ma_cons (mev 1) ma_nil)) ma_nil)) (blkOk_by (by rfl)) (by decide) (fun s H C cl fp => (mgn 2 sc_same.nd)) (fun s H C cl fp => mts_nil) (fun s H C cl fp => (me_call h_same hr (by first | exact Nat.le_refl _ | (simp only [Nat.add_eq]; omega)) rfl (ma_cons (me_item (mev 0) (mev 2) (fun _ _ => rfl)) (ma_cons (me_item (mev 1) (mev 2) (fun _ _ => rfl)) ma_nil))))))))))) mss_nil)
  (mss_cons (ms_if (PW.pt (mw_or (mq_ne hr (mc_isi B rfl (ma_cons (mev 0) (ma_cons (me_ty B.bool (by decide +kernel)) ma_nil))) (mc_isi B rfl (ma_cons (mev 1) (ma_cons (me_ty B.bool (by decide +kernel)) ma_nil)))) (mw_one_or (mq_ne hr (mc_isi B rfl (ma_cons (mev 0) (ma_cons (me_ty B.int (by decide +kernel)) ma_nil))) (mc_isi B rfl (ma_cons (mev 1) (ma_cons (me_ty B.int (by decide +kernel)) ma_nil))))))) (mss_one (ms_ret me_bl)) mss_nil)
  (mss_cons (ms_if (PW.pt (mw_or (mq_ne hr (mc_isi B rfl (ma_cons (mev 0) (ma_cons (me_ty B.str (by decide +kernel)) ma_nil))) (mc_isi B rfl (ma_cons (mev 1) (ma_cons (me_ty B.str (by decide +kernel)) ma_nil)))) (mw_one_or (mq_ne hr (mc_is (mev 0) me_non) (mc_is (mev 1) me_non))))) (mss_one (ms_ret me_bl)) mss_nil)
  (mss_one (ms_ret (mc_eq hr (mev 0) (mev 1)))))))
def m_same : Fm := m_sameF 8
theorem d_same (B : Bl mg) (D : DefF K mg "_law_same" s_same ["actual", "due"]) : FnM P w K mg base 9 "_law_same" m_same := d_sameF B D 8
/-! _law_best: 0 pairs, 1 best, 2 pair -/
abbrev s_best : Stmt := topS 23
theorem sc_best : FnScope ["pairs", "best", "pair"] ["pairs"] (defScope s_best) := ⟨rfl, rfl, rfl, by decide +kernel, rfl, by decide +kernel, by decide +kernel⟩
def b_best : Bm := (bseq (bset 1 (prim fIx (acons (mv 0) (acons (mk (.int 0)) anil))))
  (bseq (bfor (isrc srcA (mv 0)) (gnm 2)
  (bcond (tst (prim fLt (acons (prim fIx (acons (mv 2) (acons (mk (.int 0)) anil))) (acons (prim fIx (acons (mv 1) (acons (mk (.int 0)) anil))) anil)))) (bset 1 (mv 2)) bnil))
  (bret (mv 1))))
def m_best : Fm := runDef 1 3 b_best
theorem d_best (B : Bl mg) (D : DefF K mg "_law_best" s_best ["pairs"]) : FnM P w K mg base 1 "_law_best" m_best :=
  mk_def D sc_best fun f cdv A outer s H E hr => (mss_cons (ms_st 1 sc_best.nd (me_item (mev 0) me_int (fun _ _ => rfl)))
  (mss_cons (ms_for PassesOwn.never rfl (mi_any (mev 0)) (mgn 2 sc_best.nd)
  (mss_one (ms_if (mq_lt (me_item (mev 2) me_int (fun _ _ => rfl)) (me_item (mev 1) me_int (fun _ _ => rfl))) (mss_one (ms_st 1 sc_best.nd (mev 2))) mss_nil)))
  (mss_one (ms_ret (mev 1)))))
/-! _law_mask: 0 things, 1 thing -/
abbrev s_mask : Stmt := topS 25
theorem sc_mask : FnScope ["things", "thing"] ["things"] (defScope s_mask) := ⟨rfl, rfl, rfl, by decide +kernel, rfl, by decide +kernel, by decide +kernel⟩
def b_mask : Bm := (bret (prim fSum (acons (frz (mcomp (isrc srcA (mv 0)) (gnm 1) tyes (prim fShl (acons (mk (.int 1)) (acons (mv 1) anil))) [1])) anil)))
def m_mask : Fm := runDef 1 2 b_mask
theorem d_mask (B : Bl mg) (D : DefF K mg "_law_mask" s_mask ["things"]) : FnM P w K mg base 1 "_law_mask" m_mask :=
  mk_def D sc_mask fun f cdv A outer s H E hr => (mss_one (ms_ret (mc_sum B rfl (ma_cons (me_frz (mf_comp (own := [("thing", 1)]) rfl sc_mask.nd (mi_any (mev 0)) (blkOk_by (by rfl)) (by decide) (fun s H C cl fp => (mgn 1 sc_mask.nd)) (fun s H C cl fp => mts_nil) (fun s H C cl fp => (me_shl me_int (mev 1))))) ma_nil))))
/-! _law_least_cut: 0 weights, 1 sets, 2 things -/
abbrev s_least_cut : Stmt := topS 29
theorem sc_least_cut : FnScope ["weights", "sets", "things"] ["weights", "sets"] (defScope s_least_cut) := ⟨rfl, rfl, rfl, by decide +kernel, rfl, by decide +kernel, by decide +kernel⟩
def b_least_cut : Bm := (bret (mcall m_best (acons (frz (mcomp (isrc srcA (mv 1)) (gnm 2) tyes (prim fTup (acons (prim fIx (acons (mv 0) (acons (mcall m_mask (acons (mv 2) anil)) anil))) (acons (mv 2) anil))) [2])) anil)))
def m_least_cut : Fm := runDef 2 3 b_least_cut
theorem d_least_cut (B : Bl mg) (D : DefF K mg "_law_least_cut" s_least_cut ["weights", "sets"]) (h_best : FnM P w K mg base 1 "_law_best" m_best) (h_mask : FnM P w K mg base 1 "_law_mask" m_mask) : FnM P w K mg base 2 "_law_least_cut" m_least_cut :=
  mk_def D sc_least_cut fun f cdv A outer s H E hr => (mss_one (ms_ret (me_call h_best hr (by decide) rfl (ma_cons (me_frz (mf_comp (own := [("things", 2)]) rfl sc_least_cut.nd (mi_any (mev 1)) (blkOk_by (by rfl)) (by decide) (fun s H C cl fp => (mgn 2 sc_least_cut.nd)) (fun s H C cl fp => mts_nil) (fun s H C cl fp => (me_tup (ma_cons (me_item (mev 0) (me_call h_mask hr (by decide) rfl (ma_cons (mev 2) ma_nil)) (fun _ _ => rfl)) (ma_cons (mev 2) ma_nil)))))) ma_nil))))
/-! mask_of: 0 things, 1 mask, 2 thing -/
abbrev s_p_mask_of : Stmt := topS 1
theorem sc_p_mask_of : FnScope ["things", "mask", "thing"] ["things"] (defScope s_p_mask_of) := ⟨rfl, rfl, rfl, by decide +kernel, rfl, by decide +kernel, by decide +kernel⟩
def b_p_mask_of : Bm := (bseq (bset 1 (mk (.int 0)))
  (bseq (bfor (isrc srcA (mv 0)) (gnm 2)
  (bset 1 (prim fOr (acons (mv 1) (acons (prim fShl (acons (mk (.int 1)) (acons (mv 2) anil))) anil)))))
  (bret (mv 1))))
def m_p_mask_of : Fm := runDef 1 3 b_p_mask_of
theorem d_p_mask_of (B : Bl mg) (D : DefF K mg "mask_of" s_p_mask_of ["things"]) : FnM P w K mg base 1 "mask_of" m_p_mask_of :=
  mk_def D sc_p_mask_of fun f cdv A outer s H E hr => (mss_cons (ms_st 1 sc_p_mask_of.nd me_int)
  (mss_cons (ms_for PassesOwn.never rfl (mi_any (mev 0)) (mgn 2 sc_p_mask_of.nd)
  (mss_one (ms_st 1 sc_p_mask_of.nd (me_bor (mev 1) (me_shl me_int (mev 2))))))
  (mss_one (ms_ret (mev 1)))))
/-! least_among: 0 rows, 1 sets, 2 things -/
abbrev s_p_least_among : Stmt := topS 10
theorem sc_p_least_among : FnScope ["rows", "sets", "things"] ["rows", "sets"] (defScope s_p_least_among) := ⟨rfl, rfl, rfl, by decide +kernel, rfl, by decide +kernel, by decide +kernel⟩
def b_p_least_among : Bm := (bret (prim (fMmD minDD) (acons (frz (mcomp (isrc srcA (mv 1)) (gnm 2) tyes (prim fTup (acons (prim fIx (acons (mv 0) (acons (mcall m_p_mask_of (acons (mv 2) anil)) anil))) (acons (mv 2) anil))) [2])) anil)))
def m_p_least_among : Fm := runDef 2 3 b_p_least_among
theorem d_p_least_among (B : Bl mg) (D : DefF K mg "least_among" s_p_least_among ["rows", "sets"]) (h_p_mask_of : FnM P w K mg base 1 "mask_of" m_p_mask_of) : FnM P w K mg base 2 "least_among" m_p_least_among :=
  mk_def D sc_p_least_among fun f cdv A outer s H E hr => (mss_one (ms_ret (mc_minDt B hr rfl (ma_cons (me_frz (mf_comp (own := [("things", 2)]) rfl sc_p_least_among.nd (mi_any (mev 1)) (blkOk_by (by rfl)) (by decide) (fun s H C cl fp => (mgn 2 sc_p_least_among.nd)) (fun s H C cl fp => mts_nil) (fun s H C cl fp => (me_tup (ma_cons (me_item (mev 0) (me_call h_p_mask_of hr (by decide) rfl (ma_cons (mev 2) ma_nil)) (fun _ _ => rfl)) (ma_cons (mev 2) ma_nil)))))) ma_nil))))
/-! least_of: 0 mask -/
abbrev s_p_least_of : Stmt := topS 3
theorem sc_p_least_of : FnScope ["mask"] ["mask"] (defScope s_p_least_of) := ⟨rfl, rfl, rfl, by decide +kernel, rfl, by decide +kernel, by decide +kernel⟩
def b_p_least_of : Bm := (bret (prim fSub (acons (prim fBits (acons (prim fAnd (acons (mv 0) (acons (prim fNeg (acons (mv 0) anil)) anil))) anil)) (acons (mk (.int 1)) anil))))
def m_p_least_of : Fm := runDef 1 1 b_p_least_of
theorem d_p_least_of (B : Bl mg) (D : DefF K mg "least_of" s_p_least_of ["mask"]) : FnM P w K mg base 1 "least_of" m_p_least_of :=
  mk_def D sc_p_least_of fun f cdv A outer s H E hr => (mss_one (ms_ret (me_sub (me_bits (me_band (mev 0) (me_neg (mev 0)))) me_int)))
/-! things_of: 0 mask, 1 thing -/
abbrev s_p_things_of : Stmt := topS 2
theorem sc_p_things_of : FnScope ["mask", "thing"] ["mask"] (defScope s_p_things_of) := ⟨rfl, rfl, rfl, by decide +kernel, rfl, by decide +kernel, by decide +kernel⟩
def b_p_things_of : Bm := (bret (prim fTuple (acons (frz (mcomp (iargs rg1 (acons (prim fBits (acons (mv 0) anil)) anil)) (gnm 1) (tst (prim fEq (acons (prim fAnd (acons (prim fShr (acons (mv 0) (acons (mv 1) anil))) (acons (mk (.int 1)) anil))) (acons (mk (.int 1)) anil)))) (mv 1) [1])) anil)))
def m_p_things_of : Fm := runDef 1 2 b_p_things_of
theorem d_p_things_of (B : Bl mg) (D : DefF K mg "things_of" s_p_things_of ["mask"]) : FnM P w K mg base 1 "things_of" m_p_things_of :=
  mk_def D sc_p_things_of fun f cdv A outer s H E hr => (mss_one (ms_ret (mc_tuple B rfl (ma_cons (me_frz (mf_comp (own := [("thing", 1)]) rfl sc_p_things_of.nd (mi_range1 rfl B.range (ma_cons (me_bits (mev 0)) ma_nil)) (blkOk_by (by rfl)) (by decide) (fun s H C cl fp => (mgn 1 sc_p_things_of.nd)) (fun s H C cl fp => (mts_one (mq_eq hr (me_band (me_shr (mev 0) (mev 1)) me_int) me_int))) (fun s H C cl fp => (mev 1)))) ma_nil))))
/-! pair_rows: 0 table, 1 n, 2 rows, 3 mask, 4 first, 5 rest, 6 other -/
abbrev s_p_pair_rows : Stmt := topS 6
theorem sc_p_pair_rows : FnScope ["table", "n", "rows", "mask", "first", "rest", "other"] ["table"] (defScope s_p_pair_rows) := ⟨rfl, rfl, rfl, by decide +kernel, rfl, by decide +kernel, by decide +kernel⟩
def b_p_pair_rows : Bm := (bseq (bset 1 (prim fLen (acons (mv 0) anil)))
  (bseq (bset 2 (thw (primF fRep (acons (frz (primF fLst (acons (mk (.int 0)) anil))) (acons (prim fShl (acons (mk (.int 1)) (acons (mv 1) anil))) anil)))))
  (bseq (bfor (iargs rg2 (acons (mk (.int 1)) (acons (prim fShl (acons (mk (.int 1)) (acons (mv 1) anil))) anil))) (gnm 3)
  (bseq (bset 4 (mcall m_p_least_of (acons (mv 3) anil)))
  (bseq (bset 5 (prim fAnd (acons (mv 3) (acons (prim fSub (acons (mv 3) (acons (mk (.int 1)) anil))) anil))))
  (bsub (prim fAdd (acons (prim fIx (acons (mv 2) (acons (mv 5) anil))) (acons (prim fSum (acons (frz (mcomp (isrc srcA (mcall m_p_things_of (acons (mv 5) anil))) (gnm 6) tyes (prim fIx (acons (prim fIx (acons (mv 0) (acons (mv 4) anil))) (acons (mv 6) anil))) [6])) anil)) anil))) (mv 2) (mv 3)))))
  (bret (mv 2)))))
def m_p_pair_rows : Fm := runDef 1 7 b_p_pair_rows
theorem d_p_pair_rows (B : Bl mg) (D : DefF K mg "pair_rows" s_p_pair_rows ["table"]) (h_p_least_of : FnM P w K mg base 1 "least_of" m_p_least_of) (h_p_things_of : FnM P w K mg base 1 "things_of" m_p_things_of) : FnM P w K mg base 2 "pair_rows" m_p_pair_rows :=
  mk_def D sc_p_pair_rows fun f cdv A outer s H E hr => (mss_cons (ms_st 1 sc_p_pair_rows.nd (mc_len B rfl (ma_cons (mev 0) ma_nil)))
  (mss_cons (ms_st 2 sc_p_pair_rows.nd (me_thw (mf_rep (me_frz (mf_lst (ma_cons me_int ma_nil))) (me_shl me_int (mev 1)))))
  (mss_cons (ms_for PassesOwn.never rfl (mi_range2 rfl B.range (ma_cons me_int (ma_cons (me_shl me_int (mev 1)) ma_nil))) (mgn 3 sc_p_pair_rows.nd)
  (mss_cons (ms_st 4 sc_p_pair_rows.nd (me_call h_p_least_of hr (by decide) rfl (ma_cons (mev 3) ma_nil)))
  (mss_cons (ms_st 5 sc_p_pair_rows.nd (me_band (mev 3) (me_sub (mev 3) me_int)))
  (mss_one (ms_sub (me_add (me_item (mev 2) (mev 5) (fun _ _ => rfl)) (mc_sum B rfl (ma_cons (me_frz (mf_comp (own := [("other", 6)]) rfl sc_p_pair_rows.nd (mi_any (me_call h_p_things_of hr (by decide) rfl (ma_cons (mev 5) ma_nil))) (blkOk_by (by rfl)) (by decide) (fun s H C cl fp => (mgn 6 sc_p_pair_rows.nd)) (fun s H C cl fp => mts_nil) (fun s H C cl fp => (me_item (me_item (mev 0) (mev 4) (fun _ _ => rfl)) (mev 6) (fun _ _ => rfl))))) ma_nil))) (mev 2) (mev 3))))))
  (mss_one (ms_ret (mev 2))))))
/-! weight_rows: 0 links, 1 inside, 2 sums, 3 mask, 4 whole, 5 own -/
abbrev s_p_weight_rows : Stmt := topS 9
theorem sc_p_weight_rows : FnScope ["links", "inside", "sums", "mask", "whole", "own"] ["links"] (defScope s_p_weight_rows) := ⟨rfl, rfl, rfl, by decide +kernel, rfl, by decide +kernel, by decide +kernel⟩
def b_p_weight_rows : Bm := (bseq (bset 1 (mcall m_p_pair_rows (acons (mv 0) anil)))
  (bseq (bset 2 (thw (primF fRep (acons (frz (primF fLst (acons (mk (.int 0)) anil))) (acons (prim fLen (acons (mv 1) anil)) anil)))))
  (bseq (bfor (iargs rg2 (acons (mk (.int 1)) (acons (prim fLen (acons (mv 1) anil)) anil))) (gnm 3)
  (bsub (prim fAdd (acons (prim fIx (acons (mv 2) (acons (prim fAnd (acons (mv 3) (acons (prim fSub (acons (mv 3) (acons (mk (.int 1)) anil))) anil))) anil))) (acons (prim fSumT (acons (prim fIx (acons (mv 0) (acons (mcall m_p_least_of (acons (mv 3) anil)) anil))) anil)) anil))) (mv 2) (mv 3)))
  (bret (frz (mcomp (izip (acons (mv 2) (acons (mv 1) anil))) (gtp 2 (gcons (gnm 4) (gcons (gnm 5) gnil))) tyes (prim fSub (acons (mv 4) (acons (prim fMulX (acons (mk (.int 2)) (acons (mv 5) anil))) anil))) [4, 5]))))))
def m_p_weight_rows : Fm := runDef 1 6 b_p_weight_rows
theorem d_p_weight_rows (B : Bl mg) (D : DefF K mg "weight_rows" s_p_weight_rows ["links"]) (h_p_pair_rows : FnM P w K mg base 2 "pair_rows" m_p_pair_rows) (h_p_least_of : FnM P w K mg base 1 "least_of" m_p_least_of) : FnM P w K mg base 3 "weight_rows" m_p_weight_rows :=
  mk_def D sc_p_weight_rows fun f cdv A outer s H E hr => (mss_cons (ms_st 1 sc_p_weight_rows.nd (me_call h_p_pair_rows hr (by decide) rfl (ma_cons (mev 0) ma_nil)))
  (mss_cons (ms_st 2 sc_p_weight_rows.nd (me_thw (mf_rep (me_frz (mf_lst (ma_cons me_int ma_nil))) (mc_len B rfl (ma_cons (mev 1) ma_nil)))))
  (mss_cons (ms_for PassesOwn.never rfl (mi_range2 rfl B.range (ma_cons me_int (ma_cons (mc_len B rfl (ma_cons (mev 1) ma_nil)) ma_nil))) (mgn 3 sc_p_weight_rows.nd)
  (mss_one (ms_sub (me_add (me_item (mev 2) (me_band (mev 3) (me_sub (mev 3) me_int)) (fun _ _ => rfl)) (mc_sumT B rfl (ma_cons (me_item (mev 0) (me_call h_p_least_of hr (by decide) rfl (ma_cons (mev 3) ma_nil)) (fun _ _ => rfl)) ma_nil))) (mev 2) (mev 3))))
  (mss_one (ms_ret (me_frz (mf_comp (own := [("whole", 4), ("own", 5)]) rfl sc_p_weight_rows.nd (mi_zip rfl B.zip (ma_cons (mev 2) (ma_cons (mev 1) ma_nil))) (blkOk_by (by rfl)) (by decide) (fun s H C cl fp => (mg_tup rfl (mgs_cons (mgn 4 sc_p_weight_rows.nd) (mgs_cons (mgn 5 sc_p_weight_rows.nd) mgs_nil)))) (fun s H C cl fp => mts_nil) (fun s H C cl fp => (me_sub (mev 4) (me_mulX me_int (mev 5)))))))))))
/-! sets_among: 0 things, 1 found, 2 thing, 3 more -/
abbrev s_p_sets_among : Stmt := topS 4
theorem sc_p_sets_among : FnScope ["things", "found", "thing", "more"] ["things"] (defScope s_p_sets_among) := ⟨rfl, rfl, rfl, by decide +kernel, rfl, by decide +kernel, by decide +kernel⟩
def b_p_sets_among : Bm := (bseq (bset 1 (frz (primF fLst (acons (prim fTup anil) anil))))
  (bseq (bfor (isrc srcV (mv 0)) (gnm 2)
  (bset 1 (prim fAdd (acons (prim fAdd (acons (frz (primF fLst (acons (prim fTup anil) anil))) (acons (frz (mcomp (isrc srcA (mv 1)) (gnm 3) tyes (prim fAdd (acons (prim fTup (acons (mv 2) anil)) (acons (mv 3) anil))) [3])) anil))) (acons (msl slX (mv 1) (osome (mk (.int 1))) onone) anil)))))
  (bret (mv 1))))
def m_p_sets_among : Fm := runDef 1 4 b_p_sets_among
theorem d_p_sets_among (B : Bl mg) (D : DefF K mg "sets_among" s_p_sets_among ["things"]) : FnM P w K mg base 1 "sets_among" m_p_sets_among :=
  mk_def D sc_p_sets_among fun f cdv A outer s H E hr => (mss_cons (ms_st 1 sc_p_sets_among.nd (me_frz (mf_lst (ma_cons (me_tup ma_nil) ma_nil))))
  (mss_cons (ms_for PassesOwn.never rfl (mi_rev rfl B.reversed (mev 0)) (mgn 2 sc_p_sets_among.nd)
  (mss_one (ms_st 1 sc_p_sets_among.nd (me_add (me_add (me_frz (mf_lst (ma_cons (me_tup ma_nil) ma_nil))) (me_frz (mf_comp (own := [("more", 3)]) rfl sc_p_sets_among.nd (mi_any (mev 1)) (blkOk_by (by rfl)) (by decide) (fun s H C cl fp => (mgn 3 sc_p_sets_among.nd)) (fun s H C cl fp => mts_nil) (fun s H C cl fp => (me_add (me_tup (ma_cons (mev 2) ma_nil)) (mev 3)))))) (me_sl (mev 1) (mo_some me_int) mo_none)))))
  (mss_one (ms_ret (mev 1)))))
/-! cutting_sets: 0 n, 1 a, 2 others, 3 free, 4 thing, 5 things -/
abbrev s_p_cutting_sets : Stmt := topS 11
theorem sc_p_cutting_sets : FnScope ["n", "a", "others", "free", "thing", "things"] ["n", "a", "others"] (defScope s_p_cutting_sets) := ⟨rfl, rfl, rfl, by decide +kernel, rfl, by decide +kernel, by decide +kernel⟩
def b_p_cutting_sets : Bm := (bseq (bset 3 (prim fTuple (acons (frz (mcomp (iargs rg1 (acons (mv 0) anil)) (gnm 4) (tst (prim fNotIn (acons (mv 4) (acons (mv 2) anil)))) (mv 4) [4])) anil)))
  (bret (frz (mcomp (isrc srcA (mcall m_p_sets_among (acons (mv 3) anil))) (gnm 5) (tst (prim fIn (acons (mv 1) (acons (mv 5) anil)))) (mv 5) [5]))))
def m_p_cutting_sets : Fm := runDef 3 6 b_p_cutting_sets
theorem d_p_cutting_sets (B : Bl mg) (D : DefF K mg "cutting_sets" s_p_cutting_sets ["n", "a", "others"]) (h_p_sets_among : FnM P w K mg base 1 "sets_among" m_p_sets_among) : FnM P w K mg base 2 "cutting_sets" m_p_cutting_sets :=
  mk_def D sc_p_cutting_sets fun f cdv A outer s H E hr => (mss_cons (ms_st 3 sc_p_cutting_sets.nd (mc_tuple B rfl (ma_cons (me_frz (mf_comp (own := [("thing", 4)]) rfl sc_p_cutting_sets.nd (mi_range1 rfl B.range (ma_cons (mev 0) ma_nil)) (blkOk_by (by rfl)) (by decide) (fun s H C cl fp => (mgn 4 sc_p_cutting_sets.nd)) (fun s H C cl fp => (mts_one (mq_notIn hr (mev 4) (mev 2)))) (fun s H C cl fp => (mev 4)))) ma_nil)))
  (mss_one (ms_ret (me_frz (mf_comp (own := [("things", 5)]) rfl sc_p_cutting_sets.nd (mi_any (me_call h_p_sets_among hr (by decide) rfl (ma_cons (mev 3) ma_nil))) (blkOk_by (by rfl)) (by decide) (fun s H C cl fp => (mgn 5 sc_p_cutting_sets.nd)) (fun s H C cl fp => (mts_one (mq_in hr (mev 1) (mev 5)))) (fun s H C cl fp => (mev 5)))))))
/-! least_cut_between: 0 links, 1 a, 2 b -/
abbrev s_p_least_cut_between : Stmt := topS 12
theorem sc_p_least_cut_between : FnScope ["links", "a", "b"] ["links", "a", "b"] (defScope s_p_least_cut_between) := ⟨rfl, rfl, rfl, by decide +kernel, rfl, by decide +kernel, by decide +kernel⟩
def b_p_least_cut_between : Bm := (bret (mcall m_p_least_among (acons (mcall m_p_weight_rows (acons (mv 0) anil)) (acons (mcall m_p_cutting_sets (acons (prim fLen (acons (mv 0) anil)) (acons (mv 1) (acons (frz (primF fLst (acons (mv 2) anil))) anil)))) anil))))
def m_p_least_cut_between : Fm := runDef 3 3 b_p_least_cut_between
theorem d_p_least_cut_between (B : Bl mg) (D : DefF K mg "least_cut_between" s_p_least_cut_between ["links", "a", "b"]) (h_p_least_among : FnM P w K mg base 2 "least_among" m_p_least_among) (h_p_weight_rows : FnM P w K mg base 3 "weight_rows" m_p_weight_rows) (h_p_cutting_sets : FnM P w K mg base 2 "cutting_sets" m_p_cutting_sets) : FnM P w K mg base 4 "least_cut_between" m_p_least_cut_between :=
  mk_def D sc_p_least_cut_between fun f cdv A outer s H E hr => (mss_one (ms_ret (me_call h_p_least_among hr (by decide) rfl (ma_cons (me_call h_p_weight_rows hr (by decide) rfl (ma_cons (mev 0) ma_nil)) (ma_cons (me_call h_p_cutting_sets hr (by decide) rfl (ma_cons (mc_len B rfl (ma_cons (mev 0) ma_nil)) (ma_cons (mev 1) (ma_cons (me_frz (mf_lst (ma_cons (mev 2) ma_nil))) ma_nil)))) ma_nil)))))
/-! _law_things: 0 mask, 1 thing -/
abbrev s_things : Stmt := topS 24
theorem sc_things : FnScope ["mask", "thing"] ["mask"] (defScope s_things) := ⟨rfl, rfl, rfl, by decide +kernel, rfl, by decide +kernel, by decide +kernel⟩
def b_things : Bm := (bret (prim fTuple (acons (frz (mcomp (iargs rg1 (acons (mk (.int 12)) anil)) (gnm 1) (tst (prim fEq (acons (prim fAnd (acons (prim fShr (acons (mv 0) (acons (mv 1) anil))) (acons (mk (.int 1)) anil))) (acons (mk (.int 1)) anil)))) (mv 1) [1])) anil)))
def m_things : Fm := runDef 1 2 b_things
theorem d_things (B : Bl mg) (D : DefF K mg "_law_things" s_things ["mask"]) : FnM P w K mg base 1 "_law_things" m_things :=
  mk_def D sc_things fun f cdv A outer s H E hr => (mss_one (ms_ret (mc_tuple B rfl (ma_cons (me_frz (mf_comp (own := [("thing", 1)]) rfl sc_things.nd (mi_range1 rfl B.range (ma_cons me_int ma_nil)) (blkOk_by (by rfl)) (by decide) (fun s H C cl fp => (mgn 1 sc_things.nd)) (fun s H C cl fp => (mts_one (mq_eq hr (me_band (me_shr (mev 0) (mev 1)) me_int) me_int))) (fun s H C cl fp => (mev 1)))) ma_nil))))
/-! _law_group_costs: 0 table, 1 told, 2 mask, 3 top, 4 rest, 5 thing -/
abbrev s_group_costs : Stmt := topS 26
theorem sc_group_costs : FnScope ["table", "told", "mask", "top", "rest", "thing"] ["table"] (defScope s_group_costs) := ⟨rfl, rfl, rfl, by decide +kernel, rfl, by decide +kernel, by decide +kernel⟩
def b_group_costs : Bm := (bseq (bset 1 (thw (primF fRep (acons (frz (primF fLst (acons (mk (.int 0)) anil))) (acons (prim fShl (acons (mk (.int 1)) (acons (prim fLen (acons (mv 0) anil)) anil))) anil)))))
  (bseq (bfor (iargs rg2 (acons (mk (.int 1)) (acons (prim fLen (acons (mv 1) anil)) anil))) (gnm 2)
  (bseq (bset 3 (prim fSub (acons (prim fBits (acons (mv 2) anil)) (acons (mk (.int 1)) anil))))
  (bseq (bset 4 (prim fXor (acons (mv 2) (acons (prim fShl (acons (mk (.int 1)) (acons (mv 3) anil))) anil))))
  (bsub (prim fAdd (acons (prim fIx (acons (mv 1) (acons (mv 4) anil))) (acons (prim fSum (acons (frz (mcomp (isrc srcA (mcall m_things (acons (mv 4) anil))) (gnm 5) tyes (prim fIx (acons (prim fIx (acons (mv 0) (acons (mv 3) anil))) (acons (mv 5) anil))) [5])) anil)) anil))) (mv 1) (mv 2)))))
  (bret (mv 1))))
def m_group_costs : Fm := runDef 1 6 b_group_costs
theorem d_group_costs (B : Bl mg) (D : DefF K mg "_law_group_costs" s_group_costs ["table"]) (h_things : FnM P w K mg base 1 "_law_things" m_things) : FnM P w K mg base 2 "_law_group_costs" m_group_costs :=
  mk_def D sc_group_costs fun f cdv A outer s H E hr => (mss_cons (ms_st 1 sc_group_costs.nd (me_thw (mf_rep (me_frz (mf_lst (ma_cons me_int ma_nil))) (me_shl me_int (mc_len B rfl (ma_cons (mev 0) ma_nil))))))
  (mss_cons (ms_for PassesOwn.never rfl (mi_range2 rfl B.range (ma_cons me_int (ma_cons (mc_len B rfl (ma_cons (mev 1) ma_nil)) ma_nil))) (mgn 2 sc_group_costs.nd)
  (mss_cons (ms_st 3 sc_group_costs.nd (me_sub (me_bits (mev 2)) me_int))
  (mss_cons (ms_st 4 sc_group_costs.nd (me_bxor (mev 2) (me_shl me_int (mev 3))))
  (mss_one (ms_sub (me_add (me_item (mev 1) (mev 4) (fun _ _ => rfl)) (mc_sum B rfl (ma_cons (me_frz (mf_comp (own := [("thing", 5)]) rfl sc_group_costs.nd (mi_any (me_call h_things hr (by decide) rfl (ma_cons (mev 4) ma_nil))) (blkOk_by (by rfl)) (by decide) (fun s H C cl fp => (mgn 5 sc_group_costs.nd)) (fun s H C cl fp => mts_nil) (fun s H C cl fp => (me_item (me_item (mev 0) (mev 3) (fun _ _ => rfl)) (mev 5) (fun _ _ => rfl))))) ma_nil))) (mev 1) (mev 2))))))
  (mss_one (ms_ret (mev 1)))))
/-! _law_cut_weights: 0 links, 1 inner, 2 ends, 3 row, 4 mask, 5 thing -/
abbrev s_cut_weights : Stmt := topS 27
theorem sc_cut_weights : FnScope ["links", "inner", "ends", "row", "mask", "thing"] ["links"] (defScope s_cut_weights) := ⟨rfl, rfl, rfl, by decide +kernel, rfl, by decide +kernel, by decide +kernel⟩
def b_cut_weights : Bm := (bseq (bset 1 (mcall m_group_costs (acons (mv 0) anil)))
  (bseq (bset 2 (frz (mcomp (isrc srcA (mv 0)) (gnm 3) tyes (prim fSumT (acons (mv 3) anil)) [3])))
  (bret (frz (mcomp (iargs rg1 (acons (prim fLen (acons (mv 1) anil)) anil)) (gnm 4) tyes (prim fSub (acons (prim fSum (acons (frz (mcomp (isrc srcA (mcall m_things (acons (mv 4) anil))) (gnm 5) tyes (prim fIx (acons (mv 2) (acons (mv 5) anil))) [5])) anil)) (acons (prim fMulX (acons (mk (.int 2)) (acons (prim fIx (acons (mv 1) (acons (mv 4) anil))) anil))) anil))) [4])))))
def m_cut_weights : Fm := runDef 1 6 b_cut_weights
theorem d_cut_weights (B : Bl mg) (D : DefF K mg "_law_cut_weights" s_cut_weights ["links"]) (h_group_costs : FnM P w K mg base 2 "_law_group_costs" m_group_costs) (h_things : FnM P w K mg base 1 "_law_things" m_things) : FnM P w K mg base 3 "_law_cut_weights" m_cut_weights :=
  mk_def D sc_cut_weights fun f cdv A outer s H E hr => (mss_cons (ms_st 1 sc_cut_weights.nd (me_call h_group_costs hr (by decide) rfl (ma_cons (mev 0) ma_nil)))
  (mss_cons (ms_st 2 sc_cut_weights.nd (me_frz (mf_comp (own := [("row", 3)]) rfl sc_cut_weights.nd (mi_any (mev 0)) (blkOk_by (by rfl)) (by decide) (fun s H C cl fp => (mgn 3 sc_cut_weights.nd)) (fun s H C cl fp => mts_nil) (fun s H C cl fp => (mc_sumT B rfl (ma_cons (mev 3) ma_nil))))))
  (mss_one (ms_ret (me_frz (mf_comp (own := [("mask", 4)]) rfl sc_cut_weights.nd (mi_range1 rfl B.range (ma_cons (mc_len B rfl (ma_cons (mev 1) ma_nil)) ma_nil)) (blkOk_by (by rfl)) (by decide) (fun s H C cl fp => (mgn 4 sc_cut_weights.nd)) (fun s H C cl fp => mts_nil) (fun s H C cl fp => (me_sub (mc_sum B rfl (ma_cons (me_frz (mf_comp (own := [("thing", 5)]) rfl sc_cut_weights.nd (mi_any (me_call h_things hr (by decide) rfl (ma_cons (mev 4) ma_nil))) (blkOk_by (by rfl)) (by decide) (fun s H C cl fp => (mgn 5 sc_cut_weights.nd)) (fun s H C cl fp => mts_nil) (fun s H C cl fp => (me_item (mev 2) (mev 5) (fun _ _ => rfl))))) ma_nil)) (me_mulX me_int (me_item (mev 1) (mev 4) (fun _ _ => rfl)))))))))))
/-! _law_due_weight: 0 links, 1 things, 2 pairs, 3 p -/
abbrev s_due_weight : Stmt := topS 31
theorem sc_due_weight : FnScope ["links", "things", "pairs", "p"] ["links", "things"] (defScope s_due_weight) := ⟨rfl, rfl, rfl, by decide +kernel, rfl, by decide +kernel, by decide +kernel⟩
def b_due_weight : Bm := (bseq (bset 2 (mcall m_pairs (acons (prim fLen (acons (mv 0) anil)) anil)))
  (bret (prim fSum (acons (frz (mcomp (isrc srcA (mv 2)) (gnm 3) (tst (prim fNe (acons (prim fIn (acons (prim fIx (acons (mv 3) (acons (mk (.int 0)) anil))) (acons (mv 1) anil))) (acons (prim fIn (acons (prim fIx (acons (mv 3) (acons (mk (.int 1)) anil))) (acons (mv 1) anil))) anil)))) (prim fIx (acons (prim fIx (acons (mv 0) (acons (prim fIx (acons (mv 3) (acons (mk (.int 0)) anil))) anil))) (acons (prim fIx (acons (mv 3) (acons (mk (.int 1)) anil))) anil))) [3])) anil))))
def m_due_weight : Fm := runDef 2 4 b_due_weight
theorem d_due_weight (B : Bl mg) (D : DefF K mg "_law_due_weight" s_due_weight ["links", "things"]) (h_pairs : FnM P w K mg base 1 "_law_pairs" m_pairs) : FnM P w K mg base 2 "_law_due_weight" m_due_weight :=
  mk_def D sc_due_weight fun f cdv A outer s H E hr => (mss_cons (ms_st 2 sc_due_weight.nd (me_call h_pairs hr (by decide) rfl (ma_cons (mc_len B rfl (ma_cons (mev 0) ma_nil)) ma_nil)))
  (mss_one (ms_ret (mc_sum B rfl (ma_cons (me_frz (mf_comp (own := [("p", 3)]) rfl sc_due_weight.nd (mi_any (mev 2)) (blkOk_by (by rfl)) (by decide) (fun s H C cl fp => (mgn 3 sc_due_weight.nd)) (fun s H C cl fp => (mts_one (mq_ne hr (mc_in hr (me_item (mev 3) me_int (fun _ _ => rfl)) (mev 1)) (mc_in hr (me_item (mev 3) me_int (fun _ _ => rfl)) (mev 1))))) (fun s H C cl fp => (me_item (me_item (mev 0) (me_item (mev 3) me_int (fun _ _ => rfl)) (fun _ _ => rfl)) (me_item (mev 3) me_int (fun _ _ => rfl)) (fun _ _ => rfl))))) ma_nil)))))
/-! _law_some_of: 0 draws, 1 things, 2 many, 3 found, 4 k, 5 thing -/
abbrev s_some_of : Stmt := topS 18
theorem sc_some_of : FnScope ["draws", "things", "many", "found", "k", "thing"] ["draws", "things", "many"] (defScope s_some_of) := ⟨rfl, rfl, rfl, by decide +kernel, rfl, by decide +kernel, by decide +kernel⟩
def b_some_of : Bm := (bseq (bset 3 (thw (primF fLst anil)))
  (bseq (bfor (iargs rg1 (acons (prim fAdd (acons (mk (.int 1)) (acons (mcall m_take (acons (mv 0) (acons (mv 2) anil))) anil))) anil)) (gnm 4)
  (bseq (bset 5 (mcall m_pick (acons (mv 0) (acons (mv 1) anil))))
  (bcond (tst (prim fNotIn (acons (mv 5) (acons (mv 3) anil)))) (bdrop (mmeth tAppend (mv 3) (acons (mv 5) anil))) bnil)))
  (bret (frz (primF fSorted (acons (mv 3) anil))))))
def m_some_of : Fm := runDef 3 6 b_some_of
theorem d_some_of (B : Bl mg) (D : DefF K mg "_law_some_of" s_some_of ["draws", "things", "many"]) (h_pick : FnM P w K mg base 2 "_law_pick" m_pick) (h_take : FnM P w K mg base 1 "_law_take" m_take) : FnM P w K mg base 3 "_law_some_of" m_some_of :=
  mk_def D sc_some_of fun f cdv A outer s H E hr => (mss_cons (ms_st 3 sc_some_of.nd (me_thw (mf_lst ma_nil)))
  (mss_cons (ms_for PassesOwn.never rfl (mi_range1 rfl B.range (ma_cons (me_add me_int (me_call h_take hr (by decide) rfl (ma_cons (mev 0) (ma_cons (mev 2) ma_nil)))) ma_nil)) (mgn 4 sc_some_of.nd)
  (mss_cons (ms_st 5 sc_some_of.nd (me_call h_pick hr (by decide) rfl (ma_cons (mev 0) (ma_cons (mev 1) ma_nil))))
  (mss_one (ms_if (mq_notIn hr (mev 5) (mev 3)) (mss_one (ms_expr (mc_append (mev 3) (ma_cons (mev 5) ma_nil)))) mss_nil))))
  (mss_one (ms_ret (me_frz (mc_sorted B rfl (ma_cons (mev 3) ma_nil)))))))
/-! _law_sets: 0 things, 1 found, 2 thing, 3 part -/
abbrev s_sets : Stmt := topS 22
theorem sc_sets : FnScope ["things", "found", "thing", "part"] ["things"] (defScope s_sets) := ⟨rfl, rfl, rfl, by decide +kernel, rfl, by decide +kernel, by decide +kernel⟩
def b_sets : Bm := (bseq (bset 1 (frz (primF fLst (acons (prim fTup anil) anil))))
  (bseq (bfor (isrc srcA (mv 0)) (gnm 2)
  (bset 1 (prim fAdd (acons (mv 1) (acons (frz (mcomp (isrc srcA (mv 1)) (gnm 3) tyes (prim fAdd (acons (mv 3) (acons (prim fTup (acons (mv 2) anil)) anil))) [3])) anil)))))
  (bret (frz (primF fSortE (acons (mv 1) anil))))))
def m_sets : Fm := runDef 1 4 b_sets
theorem d_sets (B : Bl mg) (D : DefF K mg "_law_sets" s_sets ["things"]) : FnM P w K mg base 1 "_law_sets" m_sets :=
  mk_def D sc_sets fun f cdv A outer s H E hr => (mss_cons (ms_st 1 sc_sets.nd (me_frz (mf_lst (ma_cons (me_tup ma_nil) ma_nil))))
  (mss_cons (ms_for PassesOwn.never rfl (mi_any (mev 0)) (mgn 2 sc_sets.nd)
  (mss_one (ms_st 1 sc_sets.nd (me_add (mev 1) (me_frz (mf_comp (own := [("part", 3)]) rfl sc_sets.nd (mi_any (mev 1)) (blkOk_by (by rfl)) (by decide) (fun s H C cl fp => (mgn 3 sc_sets.nd)) (fun s H C cl fp => mts_nil) (fun s H C cl fp => (me_add (mev 3) (me_tup (ma_cons (mev 2) ma_nil))))))))))
  (mss_one (ms_ret (me_frz (mc_sortE B hr (ma_cons (mev 1) ma_nil)))))))
/-! _law_sets_between: 0 n, 1 a, 2 b, 3 things -/
abbrev s_sets_between : Stmt := topS 30
theorem sc_sets_between : FnScope ["n", "a", "b", "things"] ["n", "a", "b"] (defScope s_sets_between) := ⟨rfl, rfl, rfl, by decide +kernel, rfl, by decide +kernel, by decide +kernel⟩
def b_sets_between : Bm := (bret (frz (mcomp (isrc srcA (mcall m_sets (acons (frz (mlrg (prg1 (mv 0)))) anil))) (gnm 3) (tand (tst (prim fIn (acons (mv 1) (acons (mv 3) anil)))) (tst (prim fNotIn (acons (mv 2) (acons (mv 3) anil))))) (mv 3) [3])))
def m_sets_between : Fm := runDef 3 4 b_sets_between
theorem d_sets_between (B : Bl mg) (D : DefF K mg "_law_sets_between" s_sets_between ["n", "a", "b"]) (h_sets : FnM P w K mg base 1 "_law_sets" m_sets) : FnM P w K mg base 2 "_law_sets_between" m_sets_between :=
  mk_def D sc_sets_between fun f cdv A outer s H E hr => (mss_one (ms_ret (me_frz (mf_comp (own := [("things", 3)]) rfl sc_sets_between.nd (mi_any (me_call h_sets hr (by decide) rfl (ma_cons (me_frz (mf_listRg rfl rfl B.list (mp_1 rfl B.range (mev 0)))) ma_nil))) (blkOk_by (by rfl)) (by decide) (fun s H C cl fp => (mgn 3 sc_sets_between.nd)) (fun s H C cl fp => (mts_one (PW.pt (mw_and (mq_in hr (mev 1) (mev 3)) (mw_one_and (mq_notIn hr (mev 2) (mev 3))))))) (fun s H C cl fp => (mev 3))))))
/-! weight_of: 0 links, 1 things, 2 others, 3 thing, 4 a, 5 b -/
abbrev s_p_weight_of : Stmt := topS 8
theorem sc_p_weight_of : FnScope ["links", "things", "others", "thing", "a", "b"] ["links", "things"] (defScope s_p_weight_of) := ⟨rfl, rfl, rfl, by decide +kernel, rfl, by decide +kernel, by decide +kernel⟩
def b_p_weight_of : Bm := (bseq (bset 2 (frz (mcomp (iargs rg1 (acons (prim fLen (acons (mv 0) anil)) anil)) (gnm 3) (tst (prim fNotIn (acons (mv 3) (acons (mv 1) anil)))) (mv 3) [3])))
  (bret (prim fSum (acons (frz (mcomp2 (isrc srcA (mv 1)) (gnm 4) tyes (isrc srcA (mv 2)) (gnm 5) tyes (prim fIx (acons (prim fIx (acons (mv 0) (acons (mv 4) anil))) (acons (mv 5) anil))) [4, 5] [5])) anil))))
def m_p_weight_of : Fm := runDef 2 6 b_p_weight_of
theorem d_p_weight_of (B : Bl mg) (D : DefF K mg "weight_of" s_p_weight_of ["links", "things"]) : FnM P w K mg base 1 "weight_of" m_p_weight_of :=
  mk_def D sc_p_weight_of fun f cdv A outer s H E hr => (mss_cons (ms_st 2 sc_p_weight_of.nd (me_frz (mf_comp (own := [("thing", 3)]) rfl sc_p_weight_of.nd (mi_range1 rfl B.range (ma_cons (mc_len B rfl (ma_cons (mev 0) ma_nil)) ma_nil)) (blkOk_by (by rfl)) (by decide) (fun s H C cl fp => (mgn 3 sc_p_weight_of.nd)) (fun s H C cl fp => (mts_one (mq_notIn hr (mev 3) (mev 1)))) (fun s H C cl fp => (mev 3)))))
  (mss_one (ms_ret (mc_sum B rfl (ma_cons (me_frz (mf_comp2 (own := [("a", 4), ("b", 5)]) (vs1 := [5]) rfl sc_p_weight_of.nd (mi_any (mev 1)) (blkOk_by (by rfl)) (by decide) (by decide) (by decide) (fun s H C cl fp => (mgn 4 sc_p_weight_of.nd)) (fun s H C cl fp => mts_nil) (fun s H C cl fp => (mi_any (mev 2))) (fun s H C cl fp => (mgn 5 sc_p_weight_of.nd)) (fun s H C cl fp => mts_nil) (fun s H C cl fp => (me_item (me_item (mev 0) (mev 4) (fun _ _ => rfl)) (mev 5) (fun _ _ => rfl))))) ma_nil)))))
/-! _law_is_right: 0 draws, 1 links, 2 n, 3 things, 4 due, 5 rest, 6 weights, 7 turn, 8 a, 9 b, 10 thing -/
abbrev s_is_right : Stmt := topS 32
theorem sc_is_right : FnScope ["draws", "links", "n", "things", "due", "rest", "weights", "turn", "a", "b", "thing"] ["draws", "links"] (defScope s_is_right) := ⟨rfl, rfl, rfl, by decide +kernel, rfl, by decide +kernel, by decide +kernel⟩
def b_is_right : Bm := (bseq (bset 2 (prim fLen (acons (mv 1) anil)))
  (bseq (bfor (isrc srcA (frz (primF fLst (acons (prim fTup anil) (acons (mtrg (prg1 (mv 2))) (acons (prim fTuple (acons (mcall m_some_of (acons (mv 0) (acons (frz (mlrg (prg1 (mv 2)))) (acons (mv 2) anil)))) anil)) anil)))))) (gnm 3)
  (bseq (bset 4 (mcall m_due_weight (acons (mv 1) (acons (mv 3) anil))))
  (bseq (bset 5 (prim fTuple (acons (frz (mcomp (iargs rg1 (acons (mv 2) anil)) (gnm 10) (tst (prim fNotIn (acons (mv 10) (acons (mv 3) anil)))) (mv 10) [10])) anil)))
  (bcond (tor (tnot (tst (mcall m_same (acons (mcall m_p_weight_of (acons (mv 1) (acons (mv 3) anil))) (acons (mv 4) anil))))) (tnot (tst (mcall m_same (acons (mcall m_p_weight_of (acons (mv 1) (acons (mv 5) anil))) (acons (mv 4) anil)))))) (bret (mk (.bl false))) bnil))))
  (bseq (bcond (tst (prim fEq (acons (mv 2) (acons (mk (.int 1)) anil)))) (bret (mk (.bl true))) bnil)
  (bseq (bset 6 (mcall m_cut_weights (acons (mv 1) anil)))
  (bseq (bfor (iargs rg1 (acons (mk (.int 3)) anil)) (gnm 7)
  (bseq (basg (gtp 2 (gcons (gnm 8) (gcons (gnm 9) gnil))) (mcall m_pick (acons (mv 0) (acons (mcall m_pairs (acons (mv 2) anil)) anil))))
  (bseq (bcond (tst (prim fEq (acons (mv 7) (acons (mk (.int 1)) anil)))) (bpar 8 9 (acons (mv 9) (acons (mv 8) anil))) bnil)
  (bseq (bset 4 (mcall m_least_cut (acons (mv 6) (acons (mcall m_sets_between (acons (mv 2) (acons (mv 8) (acons (mv 9) anil)))) anil))))
  (bcond (tnot (tst (mcall m_same (acons (mcall m_p_least_cut_between (acons (mv 1) (acons (mv 8) (acons (mv 9) anil)))) (acons (mv 4) anil))))) (bret (mk (.bl false))) bnil)))))
  (bret (mk (.bl true))))))))
def m_is_right : Fm := runDef 2 11 b_is_right
theorem d_is_right (B : Bl mg) (D : DefF K mg "_law_is_right" s_is_right ["draws", "links"]) (h_cut_weights : FnM P w K mg base 3 "_law_cut_weights" m_cut_weights) (h_due_weight : FnM P w K mg base 2 "_law_due_weight" m_due_weight) (h_pick : FnM P w K mg base 2 "_law_pick" m_pick) (h_least_cut : FnM P w K mg base 2 "_law_least_cut" m_least_cut) (h_some_of : FnM P w K mg base 3 "_law_some_of" m_some_of) (h_pairs : FnM P w K mg base 1 "_law_pairs" m_pairs) (h_sets_between : FnM P w K mg base 2 "_law_sets_between" m_sets_between) (h_same : FnM P w K mg base 9 "_law_same" m_same) (h_p_least_cut_between : FnM P w K mg base 4 "least_cut_between" m_p_least_cut_between) (h_p_weight_of : FnM P w K mg base 1 "weight_of" m_p_weight_of) : FnM P w K mg base 10 "_law_is_right" m_is_right :=
  mk_def D sc_is_right fun f cdv A outer s H E hr => (mss_cons (ms_st 2 sc_is_right.nd (mc_len B rfl (ma_cons (mev 1) ma_nil)))
  (mss_cons (ms_for PassesOwn.never rfl (mi_any (me_frz (mf_lst (ma_cons (me_tup ma_nil) (ma_cons (me_tupRg rfl rfl B.tuple (mp_1 rfl B.range (mev 2))) (ma_cons (mc_tuple B rfl (ma_cons (me_call h_some_of hr (by decide) rfl (ma_cons (mev 0) (ma_cons (me_frz (mf_listRg rfl rfl B.list (mp_1 rfl B.range (mev 2)))) (ma_cons (mev 2) ma_nil)))) ma_nil)) ma_nil)))))) (mgn 3 sc_is_right.nd)
  (mss_cons (ms_st 4 sc_is_right.nd (me_call h_due_weight hr (by decide) rfl (ma_cons (mev 1) (ma_cons (mev 3) ma_nil))))
  (mss_cons (ms_st 5 sc_is_right.nd (mc_tuple B rfl (ma_cons (me_frz (mf_comp (own := [("thing", 10)]) rfl sc_is_right.nd (mi_range1 rfl B.range (ma_cons (mev 2) ma_nil)) (blkOk_by (by rfl)) (by decide) (fun s H C cl fp => (mgn 10 sc_is_right.nd)) (fun s H C cl fp => (mts_one (mq_notIn hr (mev 10) (mev 3)))) (fun s H C cl fp => (mev 10)))) ma_nil)))
  (mss_one (ms_if (PW.pt (mw_or (mt_not (mt_val (me_call h_same hr (by decide) rfl (ma_cons (me_call h_p_weight_of hr (by decide) rfl (ma_cons (mev 1) (ma_cons (mev 3) ma_nil))) (ma_cons (mev 4) ma_nil))))) (mw_one_or (mt_not (mt_val (me_call h_same hr (by decide) rfl (ma_cons (me_call h_p_weight_of hr (by decide) rfl (ma_cons (mev 1) (ma_cons (mev 5) ma_nil))) (ma_cons (mev 4) ma_nil)))))))) (mss_one (ms_ret me_bl)) mss_nil)))))
  (mss_cons (ms_if (mq_eq hr (mev 2) me_int) (mss_one (ms_ret me_bl)) mss_nil)
  (mss_cons (ms_st 6 sc_is_right.nd (me_call h_cut_weights hr (by decide) rfl (ma_cons (mev 1) ma_nil)))
  (mss_cons (ms_for PassesOwn.never rfl (mi_range1 rfl B.range (ma_cons me_int ma_nil)) (mgn 7 sc_is_right.nd)
  (mss_cons (ms_asg (me_call h_pick hr (by decide) rfl (ma_cons (mev 0) (ma_cons (me_call h_pairs hr (by decide) rfl (ma_cons (mev 2) ma_nil)) ma_nil))) (mg_tup rfl (mgs_cons (mgn 8 sc_is_right.nd) (mgs_cons (mgn 9 sc_is_right.nd) mgs_nil))))
  (mss_cons (ms_if (mq_eq hr (mev 7) me_int) (mss_one (ms_par 8 9 sc_is_right.nd (ma_cons (mev 9) (ma_cons (mev 8) ma_nil)))) mss_nil)
  (mss_cons (ms_st 4 sc_is_right.nd (me_call h_least_cut hr (by decide) rfl (ma_cons (mev 6) (ma_cons (me_call h_sets_between hr (by decide) rfl (ma_cons (mev 2) (ma_cons (mev 8) (ma_cons (mev 9) ma_nil)))) ma_nil))))
  (mss_one (ms_if (mt_not (mt_val (me_call h_same hr (by decide) rfl (ma_cons (me_call h_p_least_cut_between hr (by decide) rfl (ma_cons (mev 1) (ma_cons (mev 8) (ma_cons (mev 9) ma_nil)))) (ma_cons (mev 4) ma_nil))))) (mss_one (ms_ret me_bl)) mss_nil))))))
  (mss_one (ms_ret me_bl)))))))
/-! law: 0 script, 1 draws, 2 links, 3 due, 4 two -/
abbrev s_law : Stmt := topS 33
theorem sc_law : FnScope ["script", "draws", "links", "due", "two"] ["script"] (defScope s_law) := ⟨rfl, rfl, rfl, by decide +kernel, rfl, by decide +kernel, by decide +kernel⟩
def b_law : Bm := (bseq (bset 1 (thw (mcallF m_draws (acons (mv 0) (acons (mk (.int 400)) anil)))))
  (bseq (bset 2 (mcall m_links (acons (mv 1) (acons (prim fAdd (acons (mk (.int 1)) (acons (mcall m_take (acons (mv 1) (acons (mk (.int 6)) anil))) anil))) anil))))
  (bseq (bcond (tor (tnot (tst (mcall m_is_right (acons (mv 1) (acons (mv 2) anil))))) (tnot (tst (mcall m_is_right (acons (mv 1) (acons (mcall m_links (acons (mv 1) (acons (mk (.int 5)) anil))) anil)))))) (bret (mk (.bl false))) bnil)
  (bseq (bcond (tst (prim fEq (acons (mcall m_take (acons (mv 1) (acons (mk (.int 8)) anil))) (acons (mk (.int 0)) anil)))) (bseq (bset 2 (mcall m_links (acons (mv 1) (acons (mk (.int 10)) anil))))
  (bseq (bset 3 (mcall m_least_cut (acons (mcall m_cut_weights (acons (mv 2) anil)) (acons (mcall m_sets_between (acons (mk (.int 10)) (acons (mk (.int 9)) (acons (mk (.int 0)) anil)))) anil))))
  (bret (mcall m_same (acons (mcall m_p_least_cut_between (acons (mv 2) (acons (mk (.int 9)) (acons (mk (.int 0)) anil)))) (acons (mv 3) anil)))))) bnil)
  (bseq (bset 4 (mcall m_links (acons (mv 1) (acons (mk (.int 2)) anil))))
  (bret (mcall m_same (acons (mcall m_p_least_cut_between (acons (mv 4) (acons (mk (.int 1)) (acons (mk (.int 0)) anil)))) (acons (prim fTup (acons (prim fIx (acons (prim fIx (acons (mv 4) (acons (mk (.int 0)) anil))) (acons (mk (.int 1)) anil))) (acons (prim fTup (acons (mk (.int 1)) anil)) anil))) anil)))))))))
def m_law : Fm := runDef 1 5 b_law
theorem d_law (B : Bl mg) {f : Addr} {fd : FuncData} (F : Fun K "law" "law" s_law f fd) (h_draws : FnM P w K mg base 1 "_law_draws" m_draws) (h_links : FnM P w K mg base 4 "_law_links" m_links) (h_same : FnM P w K mg base 9 "_law_same" m_same) (h_take : FnM P w K mg base 1 "_law_take" m_take) (h_least_cut : FnM P w K mg base 2 "_law_least_cut" m_least_cut) (h_p_least_cut_between : FnM P w K mg base 4 "least_cut_between" m_p_least_cut_between) (h_is_right : FnM P w K mg base 10 "_law_is_right" m_is_right) (h_cut_weights : FnM P w K mg base 3 "_law_cut_weights" m_cut_weights) (h_sets_between : FnM P w K mg base 2 "_law_sets_between" m_sets_between) : FnOk P w K mg base CX0 11 f fd ["script"] (spM K m_law) :=
  mk_ok F sc_law fun f cdv A outer s H E hr => (mss_cons (ms_st 1 sc_law.nd (me_thw (mf_call h_draws hr (by decide) rfl (ma_cons (mev 0) (ma_cons me_int ma_nil)))))
  (mss_cons (ms_st 2 sc_law.nd (me_call h_links hr (by decide) rfl (ma_cons (mev 1) (ma_cons (me_add me_int (me_call h_take hr (by decide) rfl (ma_cons (mev 1) (ma_cons me_int ma_nil)))) ma_nil))))
  (mss_cons (ms_if (PW.pt (mw_or (mt_not (mt_val (me_call h_is_right hr (by decide) rfl (ma_cons (mev 1) (ma_cons (mev 2) ma_nil))))) (mw_one_or (mt_not (mt_val (me_call h_is_right hr (by decide) rfl (ma_cons (mev 1) (ma_cons (me_call h_links hr (by decide) rfl (ma_cons (mev 1) (ma_cons me_int ma_nil))) ma_nil)))))))) (mss_one (ms_ret me_bl)) mss_nil)
  (mss_cons (ms_if (mq_eq hr (me_call h_take hr (by decide) rfl (ma_cons (mev 1) (ma_cons me_int ma_nil))) me_int) (mss_cons (ms_st 2 sc_law.nd (me_call h_links hr (by decide) rfl (ma_cons (mev 1) (ma_cons me_int ma_nil))))
  (mss_cons (ms_st 3 sc_law.nd (me_call h_least_cut hr (by decide) rfl (ma_cons (me_call h_cut_weights hr (by decide) rfl (ma_cons (mev 2) ma_nil)) (ma_cons (me_call h_sets_between hr (by decide) rfl (ma_cons me_int (ma_cons me_int (ma_cons me_int ma_nil)))) ma_nil))))
  (mss_one (ms_ret (me_call h_same hr (by decide) rfl (ma_cons (me_call h_p_least_cut_between hr (by decide) rfl (ma_cons (mev 2) (ma_cons me_int (ma_cons me_int ma_nil)))) (ma_cons (mev 3) ma_nil))))))) mss_nil)
  (mss_cons (ms_st 4 sc_law.nd (me_call h_links hr (by decide) rfl (ma_cons (mev 1) (ma_cons me_int ma_nil))))
  (mss_one (ms_ret (me_call h_same hr (by decide) rfl (ma_cons (me_call h_p_least_cut_between hr (by decide) rfl (ma_cons (mev 4) (ma_cons me_int (ma_cons me_int ma_nil)))) (ma_cons (me_tup (ma_cons (me_item (me_item (mev 4) me_int (fun _ _ => rfl)) me_int (fun _ _ => rfl)) (ma_cons (me_tup (ma_cons me_int ma_nil)) ma_nil))) ma_nil))))))))))
structure Ds (K : PySem.W.Frag) (mg : Str → Option Value) : Prop where
  b : Bl mg
  draws : DefF K mg "_law_draws" s_draws ["script", "many"]
  take : DefF K mg "_law_take" s_take ["draws", "many"]
  pick : DefF K mg "_law_pick" s_pick ["draws", "row"]
  scale : DefF K mg "_law_scale" s_scale ["draws"]
  pairs : DefF K mg "_law_pairs" s_pairs ["n"]
  from_pairs : DefF K mg "_law_from_pairs" s_from_pairs ["n", "distances"]
  links : DefF K mg "_law_links" s_links ["draws", "n"]
  same : DefF K mg "_law_same" s_same ["actual", "due"]
  best : DefF K mg "_law_best" s_best ["pairs"]
  mask : DefF K mg "_law_mask" s_mask ["things"]
  least_cut : DefF K mg "_law_least_cut" s_least_cut ["weights", "sets"]
  p_mask_of : DefF K mg "mask_of" s_p_mask_of ["things"]
  p_least_among : DefF K mg "least_among" s_p_least_among ["rows", "sets"]
  p_least_of : DefF K mg "least_of" s_p_least_of ["mask"]
  p_things_of : DefF K mg "things_of" s_p_things_of ["mask"]
  p_pair_rows : DefF K mg "pair_rows" s_p_pair_rows ["table"]
  p_weight_rows : DefF K mg "weight_rows" s_p_weight_rows ["links"]
  p_sets_among : DefF K mg "sets_among" s_p_sets_among ["things"]
  p_cutting_sets : DefF K mg "cutting_sets" s_p_cutting_sets ["n", "a", "others"]
  p_least_cut_between : DefF K mg "least_cut_between" s_p_least_cut_between ["links", "a", "b"]
  things : DefF K mg "_law_things" s_things ["mask"]
  group_costs : DefF K mg "_law_group_costs" s_group_costs ["table"]
  cut_weights : DefF K mg "_law_cut_weights" s_cut_weights ["links"]
  due_weight : DefF K mg "_law_due_weight" s_due_weight ["links", "things"]
  some_of : DefF K mg "_law_some_of" s_some_of ["draws", "things", "many"]
  sets : DefF K mg "_law_sets" s_sets ["things"]
  sets_between : DefF K mg "_law_sets_between" s_sets_between ["n", "a", "b"]
  p_weight_of : DefF K mg "weight_of" s_p_weight_of ["links", "things"]
  is_right : DefF K mg "_law_is_right" s_is_right ["draws", "links"]
theorem d_all (D : Ds K mg) {f : Addr} {fd : FuncData} (F : Fun K "law" "law" s_law f fd) : FnOk P w K mg base CX0 11 f fd ["script"] (spM K m_law) :=
  have h_draws : FnM P w K mg base 1 "_law_draws" m_draws := d_draws D.b D.draws
  have h_take : FnM P w K mg base 1 "_law_take" m_take := d_take D.b D.take
  have h_pick : FnM P w K mg base 2 "_law_pick" m_pick := d_pick D.b D.pick h_take
  have h_scale : FnM P w K mg base 3 "_law_scale" m_scale := d_scale D.b D.scale h_take h_pick
  have h_pairs : FnM P w K mg base 1 "_law_pairs" m_pairs := d_pairs D.b D.pairs
  have h_from_pairs : FnM P w K mg base 2 "_law_from_pairs" m_from_pairs := d_from_pairs D.b D.from_pairs h_pairs
  have h_links : FnM P w K mg base 4 "_law_links" m_links := d_links D.b D.links h_scale h_pick h_pairs h_from_pairs h_take
  have h_same : FnM P w K mg base 9 "_law_same" m_same := d_same D.b D.same
  have h_best : FnM P w K mg base 1 "_law_best" m_best := d_best D.b D.best
  have h_mask : FnM P w K mg base 1 "_law_mask" m_mask := d_mask D.b D.mask
  have h_least_cut : FnM P w K mg base 2 "_law_least_cut" m_least_cut := d_least_cut D.b D.least_cut h_best h_mask
  have h_p_mask_of : FnM P w K mg base 1 "mask_of" m_p_mask_of := d_p_mask_of D.b D.p_mask_of
  have h_p_least_among : FnM P w K mg base 2 "least_among" m_p_least_among := d_p_least_among D.b D.p_least_among h_p_mask_of
  have h_p_least_of : FnM P w K mg base 1 "least_of" m_p_least_of := d_p_least_of D.b D.p_least_of
  have h_p_things_of : FnM P w K mg base 1 "things_of" m_p_things_of := d_p_things_of D.b D.p_things_of
  have h_p_pair_rows : FnM P w K mg base 2 "pair_rows" m_p_pair_rows := d_p_pair_rows D.b D.p_pair_rows h_p_least_of h_p_things_of
  have h_p_weight_rows : FnM P w K mg base 3 "weight_rows" m_p_weight_rows := d_p_weight_rows D.b D.p_weight_rows h_p_pair_rows h_p_least_of
  have h_p_sets_among : FnM P w K mg base 1 "sets_among" m_p_sets_among := d_p_sets_among D.b D.p_sets_among
  have h_p_cutting_sets : FnM P w K mg base 2 "cutting_sets" m_p_cutting_sets := d_p_cutting_sets D.b D.p_cutting_sets h_p_sets_among
  have h_p_least_cut_between : FnM P w K mg base 4 "least_cut_between" m_p_least_cut_between := d_p_least_cut_between D.b D.p_least_cut_between h_p_least_among h_p_weight_rows h_p_cutting_sets
  have h_things : FnM P w K mg base 1 "_law_things" m_things := d_things D.b D.things
  have h_group_costs : FnM P w K mg base 2 "_law_group_costs" m_group_costs := d_group_costs D.b D.group_costs h_things
  have h_cut_weights : FnM P w K mg base 3 "_law_cut_weights" m_cut_weights := d_cut_weights D.b D.cut_weights h_group_costs h_things
  have h_due_weight : FnM P w K mg base 2 "_law_due_weight" m_due_weight := d_due_weight D.b D.due_weight h_pairs
  have h_some_of : FnM P w K mg base 3 "_law_some_of" m_some_of := d_some_of D.b D.some_of h_pick h_take
  have h_sets : FnM P w K mg base 1 "_law_sets" m_sets := d_sets D.b D.sets
  have h_sets_between : FnM P w K mg base 2 "_law_sets_between" m_sets_between := d_sets_between D.b D.sets_between h_sets
  have h_p_weight_of : FnM P w K mg base 1 "weight_of" m_p_weight_of := d_p_weight_of D.b D.p_weight_of
  have h_is_right : FnM P w K mg base 10 "_law_is_right" m_is_right := d_is_right D.b D.is_right h_cut_weights h_due_weight h_pick h_least_cut h_some_of h_pairs h_sets_between h_same h_p_least_cut_between h_p_weight_of
  d_law D.b F h_draws h_links h_same h_take h_least_cut h_p_least_cut_between h_is_right h_cut_weights h_sets_between
theorem all_mk {l : PySem.W.OpenLaw} {w : World} {K : PySem.W.Frag} {h : Heap} {mg : Str → Option Value} {fa : Addr} (X : K.In h) (G : h.Ns mainGlobals mg) (hfa : mg "law" = some (.ref fa))
    {f0 : Addr} {od0 an0 : Option Addr} {sl0 : Array (Option Value)} {oc0 kV0 dc0 pm0 cd0 ct0 : Value} {f1 : Addr} {od1 an1 : Option Addr} {sl1 : Array (Option Value)} {oc1 kV1 dc1 pm1 cd1 ct1 : Value} {f2 : Addr} {od2 an2 : Option Addr} {sl2 : Array (Option Value)} {oc2 kV2 dc2 pm2 cd2 ct2 : Value} {f3 : Addr} {od3 an3 : Option Addr} {sl3 : Array (Option Value)} {oc3 kV3 dc3 pm3 cd3 ct3 : Value} {f4 : Addr} {od4 an4 : Option Addr} {sl4 : Array (Option Value)} {oc4 kV4 dc4 pm4 cd4 ct4 : Value} {f5 : Addr} {od5 an5 : Option Addr} {sl5 : Array (Option Value)} {oc5 kV5 dc5 pm5 cd5 ct5 : Value} {f6 : Addr} {od6 an6 : Option Addr} {sl6 : Array (Option Value)} {oc6 kV6 dc6 pm6 cd6 ct6 : Value} {f7 : Addr} {od7 an7 : Option Addr} {sl7 : Array (Option Value)} {oc7 kV7 dc7 pm7 cd7 ct7 : Value} {f8 : Addr} {od8 an8 : Option Addr} {sl8 : Array (Option Value)} {oc8 kV8 dc8 pm8 cd8 ct8 : Value} {f9 : Addr} {od9 an9 : Option Addr} {sl9 : Array (Option Value)} {oc9 kV9 dc9 pm9 cd9 ct9 : Value} {f10 : Addr} {od10 an10 : Option Addr} {sl10 : Array (Option Value)} {oc10 kV10 dc10 pm10 cd10 ct10 : Value} {f11 : Addr} {od11 an11 : Option Addr} {sl11 : Array (Option Value)} {oc11 kV11 dc11 pm11 cd11 ct11 : Value} {f12 : Addr} {od12 an12 : Option Addr} {sl12 : Array (Option Value)} {oc12 kV12 dc12 pm12 cd12 ct12 : Value} {f13 : Addr} {od13 an13 : Option Addr} {sl13 : Array (Option Value)} {oc13 kV13 dc13 pm13 cd13 ct13 : Value} {f14 : Addr} {od14 an14 : Option Addr} {sl14 : Array (Option Value)} {oc14 kV14 dc14 pm14 cd14 ct14 : Value} {f15 : Addr} {od15 an15 : Option Addr} {sl15 : Array (Option Value)} {oc15 kV15 dc15 pm15 cd15 ct15 : Value} {f16 : Addr} {od16 an16 : Option Addr} {sl16 : Array (Option Value)} {oc16 kV16 dc16 pm16 cd16 ct16 : Value} {f17 : Addr} {od17 an17 : Option Addr} {sl17 : Array (Option Value)} {oc17 kV17 dc17 pm17 cd17 ct17 : Value} {f18 : Addr} {od18 an18 : Option Addr} {sl18 : Array (Option Value)} {oc18 kV18 dc18 pm18 cd18 ct18 : Value} {f19 : Addr} {od19 an19 : Option Addr} {sl19 : Array (Option Value)} {oc19 kV19 dc19 pm19 cd19 ct19 : Value} {f20 : Addr} {od20 an20 : Option Addr} {sl20 : Array (Option Value)} {oc20 kV20 dc20 pm20 cd20 ct20 : Value} {f21 : Addr} {od21 an21 : Option Addr} {sl21 : Array (Option Value)} {oc21 kV21 dc21 pm21 cd21 ct21 : Value} {f22 : Addr} {od22 an22 : Option Addr} {sl22 : Array (Option Value)} {oc22 kV22 dc22 pm22 cd22 ct22 : Value} {f23 : Addr} {od23 an23 : Option Addr} {sl23 : Array (Option Value)} {oc23 kV23 dc23 pm23 cd23 ct23 : Value} {f24 : Addr} {od24 an24 : Option Addr} {sl24 : Array (Option Value)} {oc24 kV24 dc24 pm24 cd24 ct24 : Value} {f25 : Addr} {od25 an25 : Option Addr} {sl25 : Array (Option Value)} {oc25 kV25 dc25 pm25 cd25 ct25 : Value} {f26 : Addr} {od26 an26 : Option Addr} {sl26 : Array (Option Value)} {oc26 kV26 dc26 pm26 cd26 ct26 : Value} {f27 : Addr} {od27 an27 : Option Addr} {sl27 : Array (Option Value)} {oc27 kV27 dc27 pm27 cd27 ct27 : Value} {f28 : Addr} {od28 an28 : Option Addr} {sl28 : Array (Option Value)} {oc28 kV28 dc28 pm28 cd28 ct28 : Value} {f29 : Addr} {od29 an29 : Option Addr} {sl29 : Array (Option Value)} {oc29 kV29 dc29 pm29 cd29 ct29 : Value}
    (a0 : PySem.W.nsIn K mainGlobals "_law_draws" = some (some (.ref f0))) (l0 : K.lookup f0 = some ⟨oc0, od0, .func (PySem.W.fnOf "_law_draws" "_law_draws" (defArgs s_draws) (defBody s_draws) (defScope s_draws) .none kV0 dc0 pm0 an0 cd0 ct0), sl0⟩) (c0 : PySem.W.codeIn K cd0 "_law_draws" = true) (k0 : PySem.W.keepIn K (.ref f0) = true)
    (a1 : PySem.W.nsIn K mainGlobals "_law_take" = some (some (.ref f1))) (l1 : K.lookup f1 = some ⟨oc1, od1, .func (PySem.W.fnOf "_law_take" "_law_take" (defArgs s_take) (defBody s_take) (defScope s_take) .none kV1 dc1 pm1 an1 cd1 ct1), sl1⟩) (c1 : PySem.W.codeIn K cd1 "_law_take" = true) (k1 : PySem.W.keepIn K (.ref f1) = true)
    (a2 : PySem.W.nsIn K mainGlobals "_law_pick" = some (some (.ref f2))) (l2 : K.lookup f2 = some ⟨oc2, od2, .func (PySem.W.fnOf "_law_pick" "_law_pick" (defArgs s_pick) (defBody s_pick) (defScope s_pick) .none kV2 dc2 pm2 an2 cd2 ct2), sl2⟩) (c2 : PySem.W.codeIn K cd2 "_law_pick" = true) (k2 : PySem.W.keepIn K (.ref f2) = true)
    (a3 : PySem.W.nsIn K mainGlobals "_law_scale" = some (some (.ref f3))) (l3 : K.lookup f3 = some ⟨oc3, od3, .func (PySem.W.fnOf "_law_scale" "_law_scale" (defArgs s_scale) (defBody s_scale) (defScope s_scale) .none kV3 dc3 pm3 an3 cd3 ct3), sl3⟩) (c3 : PySem.W.codeIn K cd3 "_law_scale" = true) (k3 : PySem.W.keepIn K (.ref f3) = true)
    (a4 : PySem.W.nsIn K mainGlobals "_law_pairs" = some (some (.ref f4))) (l4 : K.lookup f4 = some ⟨oc4, od4, .func (PySem.W.fnOf "_law_pairs" "_law_pairs" (defArgs s_pairs) (defBody s_pairs) (defScope s_pairs) .none kV4 dc4 pm4 an4 cd4 ct4), sl4⟩) (c4 : PySem.W.codeIn K cd4 "_law_pairs" = true) (k4 : PySem.W.keepIn K (.ref f4) = true)
    (a5 : PySem.W.nsIn K mainGlobals "_law_from_pairs" = some (some (.ref f5))) (l5 : K.lookup f5 = some ⟨oc5, od5, .func (PySem.W.fnOf "_law_from_pairs" "_law_from_pairs" (defArgs s_from_pairs) (defBody s_from_pairs) (defScope s_from_pairs) .none kV5 dc5 pm5 an5 cd5 ct5), sl5⟩) (c5 : PySem.W.codeIn K cd5 "_law_from_pairs" = true) (k5 : PySem.W.keepIn K (.ref f5) = true)
    (a6 : PySem.W.nsIn K mainGlobals "_law_links" = some (some (.ref f6))) (l6 : K.lookup f6 = some ⟨oc6, od6, .func (PySem.W.fnOf "_law_links" "_law_links" (defArgs s_links) (defBody s_links) (defScope s_links) .none kV6 dc6 pm6 an6 cd6 ct6), sl6⟩) (c6 : PySem.W.codeIn K cd6 "_law_links" = true) (k6 : PySem.W.keepIn K (.ref f6) = true)
    (a7 : PySem.W.nsIn K mainGlobals "_law_same" = some (some (.ref f7))) (l7 : K.lookup f7 = some ⟨oc7, od7, .func (PySem.W.fnOf "_law_same" "_law_same" (defArgs s_same) (defBody s_same) (defScope s_same) .none kV7 dc7 pm7 an7 cd7 ct7), sl7⟩) (c7 : PySem.W.codeIn K cd7 "_law_same" = true) (k7 : PySem.W.keepIn K (.ref f7) = true)
    (a8 : PySem.W.nsIn K mainGlobals "_law_best" = some (some (.ref f8))) (l8 : K.lookup f8 = some ⟨oc8, od8, .func (PySem.W.fnOf "_law_best" "_law_best" (defArgs s_best) (defBody s_best) (defScope s_best) .none kV8 dc8 pm8 an8 cd8 ct8), sl8⟩) (c8 : PySem.W.codeIn K cd8 "_law_best" = true) (k8 : PySem.W.keepIn K (.ref f8) = true)
    (a9 : PySem.W.nsIn K mainGlobals "_law_mask" = some (some (.ref f9))) (l9 : K.lookup f9 = some ⟨oc9, od9, .func (PySem.W.fnOf "_law_mask" "_law_mask" (defArgs s_mask) (defBody s_mask) (defScope s_mask) .none kV9 dc9 pm9 an9 cd9 ct9), sl9⟩) (c9 : PySem.W.codeIn K cd9 "_law_mask" = true) (k9 : PySem.W.keepIn K (.ref f9) = true)
    (a10 : PySem.W.nsIn K mainGlobals "_law_least_cut" = some (some (.ref f10))) (l10 : K.lookup f10 = some ⟨oc10, od10, .func (PySem.W.fnOf "_law_least_cut" "_law_least_cut" (defArgs s_least_cut) (defBody s_least_cut) (defScope s_least_cut) .none kV10 dc10 pm10 an10 cd10 ct10), sl10⟩) (c10 : PySem.W.codeIn K cd10 "_law_least_cut" = true) (k10 : PySem.W.keepIn K (.ref f10) = true)
    (a11 : PySem.W.nsIn K mainGlobals "mask_of" = some (some (.ref f11))) (l11 : K.lookup f11 = some ⟨oc11, od11, .func (PySem.W.fnOf "mask_of" "mask_of" (defArgs s_p_mask_of) (defBody s_p_mask_of) (defScope s_p_mask_of) .none kV11 dc11 pm11 an11 cd11 ct11), sl11⟩) (c11 : PySem.W.codeIn K cd11 "mask_of" = true) (k11 : PySem.W.keepIn K (.ref f11) = true)
    (a12 : PySem.W.nsIn K mainGlobals "least_among" = some (some (.ref f12))) (l12 : K.lookup f12 = some ⟨oc12, od12, .func (PySem.W.fnOf "least_among" "least_among" (defArgs s_p_least_among) (defBody s_p_least_among) (defScope s_p_least_among) .none kV12 dc12 pm12 an12 cd12 ct12), sl12⟩) (c12 : PySem.W.codeIn K cd12 "least_among" = true) (k12 : PySem.W.keepIn K (.ref f12) = true)
    (a13 : PySem.W.nsIn K mainGlobals "least_of" = some (some (.ref f13))) (l13 : K.lookup f13 = some ⟨oc13, od13, .func (PySem.W.fnOf "least_of" "least_of" (defArgs s_p_least_of) (defBody s_p_least_of) (defScope s_p_least_of) .none kV13 dc13 pm13 an13 cd13 ct13), sl13⟩) (c13 : PySem.W.codeIn K cd13 "least_of" = true) (k13 : PySem.W.keepIn K (.ref f13) = true)
    (a14 : PySem.W.nsIn K mainGlobals "things_of" = some (some (.ref f14))) (l14 : K.lookup f14 = some ⟨oc14, od14, .func (PySem.W.fnOf "things_of" "things_of" (defArgs s_p_things_of) (defBody s_p_things_of) (defScope s_p_things_of) .none kV14 dc14 pm14 an14 cd14 ct14), sl14⟩) (c14 : PySem.W.codeIn K cd14 "things_of" = true) (k14 : PySem.W.keepIn K (.ref f14) = true)
    (a15 : PySem.W.nsIn K mainGlobals "pair_rows" = some (some (.ref f15))) (l15 : K.lookup f15 = some ⟨oc15, od15, .func (PySem.W.fnOf "pair_rows" "pair_rows" (defArgs s_p_pair_rows) (defBody s_p_pair_rows) (defScope s_p_pair_rows) .none kV15 dc15 pm15 an15 cd15 ct15), sl15⟩) (c15 : PySem.W.codeIn K cd15 "pair_rows" = true) (k15 : PySem.W.keepIn K (.ref f15) = true)
    (a16 : PySem.W.nsIn K mainGlobals "weight_rows" = some (some (.ref f16))) (l16 : K.lookup f16 = some ⟨oc16, od16, .func (PySem.W.fnOf "weight_rows" "weight_rows" (defArgs s_p_weight_rows) (defBody s_p_weight_rows) (defScope s_p_weight_rows) .none kV16 dc16 pm16 an16 cd16 ct16), sl16⟩) (c16 : PySem.W.codeIn K cd16 "weight_rows" = true) (k16 : PySem.W.keepIn K (.ref f16) = true)
    (a17 : PySem.W.nsIn K mainGlobals "sets_among" = some (some (.ref f17))) (l17 : K.lookup f17 = some ⟨oc17, od17, .func (PySem.W.fnOf "sets_among" "sets_among" (defArgs s_p_sets_among) (defBody s_p_sets_among) (defScope s_p_sets_among) .none kV17 dc17 pm17 an17 cd17 ct17), sl17⟩) (c17 : PySem.W.codeIn K cd17 "sets_among" = true) (k17 : PySem.W.keepIn K (.ref f17) = true)
    (a18 : PySem.W.nsIn K mainGlobals "cutting_sets" = some (some (.ref f18))) (l18 : K.lookup f18 = some ⟨oc18, od18, .func (PySem.W.fnOf "cutting_sets" "cutting_sets" (defArgs s_p_cutting_sets) (defBody s_p_cutting_sets) (defScope s_p_cutting_sets) .none kV18 dc18 pm18 an18 cd18 ct18), sl18⟩) (c18 : PySem.W.codeIn K cd18 "cutting_sets" = true) (k18 : PySem.W.keepIn K (.ref f18) = true)
    (a19 : PySem.W.nsIn K mainGlobals "least_cut_between" = some (some (.ref f19))) (l19 : K.lookup f19 = some ⟨oc19, od19, .func (PySem.W.fnOf "least_cut_between" "least_cut_between" (defArgs s_p_least_cut_between) (defBody s_p_least_cut_between) (defScope s_p_least_cut_between) .none kV19 dc19 pm19 an19 cd19 ct19), sl19⟩) (c19 : PySem.W.codeIn K cd19 "least_cut_between" = true) (k19 : PySem.W.keepIn K (.ref f19) = true)
    (a20 : PySem.W.nsIn K mainGlobals "_law_things" = some (some (.ref f20))) (l20 : K.lookup f20 = some ⟨oc20, od20, .func (PySem.W.fnOf "_law_things" "_law_things" (defArgs s_things) (defBody s_things) (defScope s_things) .none kV20 dc20 pm20 an20 cd20 ct20), sl20⟩) (c20 : PySem.W.codeIn K cd20 "_law_things" = true) (k20 : PySem.W.keepIn K (.ref f20) = true)
    (a21 : PySem.W.nsIn K mainGlobals "_law_group_costs" = some (some (.ref f21))) (l21 : K.lookup f21 = some ⟨oc21, od21, .func (PySem.W.fnOf "_law_group_costs" "_law_group_costs" (defArgs s_group_costs) (defBody s_group_costs) (defScope s_group_costs) .none kV21 dc21 pm21 an21 cd21 ct21), sl21⟩) (c21 : PySem.W.codeIn K cd21 "_law_group_costs" = true) (k21 : PySem.W.keepIn K (.ref f21) = true)
    (a22 : PySem.W.nsIn K mainGlobals "_law_cut_weights" = some (some (.ref f22))) (l22 : K.lookup f22 = some ⟨oc22, od22, .func (PySem.W.fnOf "_law_cut_weights" "_law_cut_weights" (defArgs s_cut_weights) (defBody s_cut_weights) (defScope s_cut_weights) .none kV22 dc22 pm22 an22 cd22 ct22), sl22⟩) (c22 : PySem.W.codeIn K cd22 "_law_cut_weights" = true) (k22 : PySem.W.keepIn K (.ref f22) = true)
    (a23 : PySem.W.nsIn K mainGlobals "_law_due_weight" = some (some (.ref f23))) (l23 : K.lookup f23 = some ⟨oc23, od23, .func (PySem.W.fnOf "_law_due_weight" "_law_due_weight" (defArgs s_due_weight) (defBody s_due_weight) (defScope s_due_weight) .none kV23 dc23 pm23 an23 cd23 ct23), sl23⟩) (c23 : PySem.W.codeIn K cd23 "_law_due_weight" = true) (k23 : PySem.W.keepIn K (.ref f23) = true)
    (a24 : PySem.W.nsIn K mainGlobals "_law_some_of" = some (some (.ref f24))) (l24 : K.lookup f24 = some ⟨oc24, od24, .func (PySem.W.fnOf "_law_some_of" "_law_some_of" (defArgs s_some_of) (defBody s_some_of) (defScope s_some_of) .none kV24 dc24 pm24 an24 cd24 ct24), sl24⟩) (c24 : PySem.W.codeIn K cd24 "_law_some_of" = true) (k24 : PySem.W.keepIn K (.ref f24) = true)
    (a25 : PySem.W.nsIn K mainGlobals "_law_sets" = some (some (.ref f25))) (l25 : K.lookup f25 = some ⟨oc25, od25, .func (PySem.W.fnOf "_law_sets" "_law_sets" (defArgs s_sets) (defBody s_sets) (defScope s_sets) .none kV25 dc25 pm25 an25 cd25 ct25), sl25⟩) (c25 : PySem.W.codeIn K cd25 "_law_sets" = true) (k25 : PySem.W.keepIn K (.ref f25) = true)
    (a26 : PySem.W.nsIn K mainGlobals "_law_sets_between" = some (some (.ref f26))) (l26 : K.lookup f26 = some ⟨oc26, od26, .func (PySem.W.fnOf "_law_sets_between" "_law_sets_between" (defArgs s_sets_between) (defBody s_sets_between) (defScope s_sets_between) .none kV26 dc26 pm26 an26 cd26 ct26), sl26⟩) (c26 : PySem.W.codeIn K cd26 "_law_sets_between" = true) (k26 : PySem.W.keepIn K (.ref f26) = true)
    (a27 : PySem.W.nsIn K mainGlobals "weight_of" = some (some (.ref f27))) (l27 : K.lookup f27 = some ⟨oc27, od27, .func (PySem.W.fnOf "weight_of" "weight_of" (defArgs s_p_weight_of) (defBody s_p_weight_of) (defScope s_p_weight_of) .none kV27 dc27 pm27 an27 cd27 ct27), sl27⟩) (c27 : PySem.W.codeIn K cd27 "weight_of" = true) (k27 : PySem.W.keepIn K (.ref f27) = true)
    (a28 : PySem.W.nsIn K mainGlobals "_law_is_right" = some (some (.ref f28))) (l28 : K.lookup f28 = some ⟨oc28, od28, .func (PySem.W.fnOf "_law_is_right" "_law_is_right" (defArgs s_is_right) (defBody s_is_right) (defScope s_is_right) .none kV28 dc28 pm28 an28 cd28 ct28), sl28⟩) (c28 : PySem.W.codeIn K cd28 "_law_is_right" = true) (k28 : PySem.W.keepIn K (.ref f28) = true)
    (a29 : PySem.W.nsIn K mainGlobals "law" = some (some (.ref f29))) (l29 : K.lookup f29 = some ⟨oc29, od29, .func (PySem.W.fnOf "law" "law" (defArgs s_law) (defBody s_law) (defScope s_law) .none kV29 dc29 pm29 an29 cd29 ct29), sl29⟩) (c29 : PySem.W.codeIn K cd29 "law" = true) (k29 : PySem.W.keepIn K (.ref f29) = true)
    (z0 : PySem.W.nsIn K mainGlobals "range" = some none) (z1 : PySem.W.nsIn K mainGlobals "len" = some none) (z2 : PySem.W.nsIn K mainGlobals "int" = some none) (z3 : PySem.W.nsIn K mainGlobals "bool" = some none) (z4 : PySem.W.nsIn K mainGlobals "str" = some none) (z5 : PySem.W.nsIn K mainGlobals "tuple" = some none) (z6 : PySem.W.nsIn K mainGlobals "list" = some none) (z7 : PySem.W.nsIn K mainGlobals "set" = some none) (z8 : PySem.W.nsIn K mainGlobals "max" = some none) (z9 : PySem.W.nsIn K mainGlobals "min" = some none) (z10 : PySem.W.nsIn K mainGlobals "sum" = some none) (z11 : PySem.W.nsIn K mainGlobals "abs" = some none) (z12 : PySem.W.nsIn K mainGlobals "all" = some none) (z13 : PySem.W.nsIn K mainGlobals "any" = some none) (z14 : PySem.W.nsIn K mainGlobals "sorted" = some none) (z15 : PySem.W.nsIn K mainGlobals "isinstance" = some none) (z16 : PySem.W.nsIn K mainGlobals "enumerate" = some none) (z17 : PySem.W.nsIn K mainGlobals "zip" = some none) (z18 : PySem.W.nsIn K mainGlobals "reversed" = some none) :
    ∃ fd : FuncData, (∀ (s : Shared) (v : Value), BindsTo s fd ⟨[v], []⟩ [("script", v)]) ∧ ∀ base : Heap, K.In base → base.Ns mainGlobals mg → FnOk l.prog w K mg base CX0 11 fa fd ["script"] (spM K m_law) := by
  have e := hfa.symm.trans (PySem.W.mg_of X G a29)
  cases e
  have e0 : DefF K mg "_law_draws" s_draws ["script", "many"] := defF_mk X G a0 l0 c0 k0 fun _ _ _ _ _ _ us hl => match us, hl with | [_, _], _ => rfl
  have e1 : DefF K mg "_law_take" s_take ["draws", "many"] := defF_mk X G a1 l1 c1 k1 fun _ _ _ _ _ _ us hl => match us, hl with | [_, _], _ => rfl
  have e2 : DefF K mg "_law_pick" s_pick ["draws", "row"] := defF_mk X G a2 l2 c2 k2 fun _ _ _ _ _ _ us hl => match us, hl with | [_, _], _ => rfl
  have e3 : DefF K mg "_law_scale" s_scale ["draws"] := defF_mk X G a3 l3 c3 k3 fun _ _ _ _ _ _ us hl => match us, hl with | [_], _ => rfl
  have e4 : DefF K mg "_law_pairs" s_pairs ["n"] := defF_mk X G a4 l4 c4 k4 fun _ _ _ _ _ _ us hl => match us, hl with | [_], _ => rfl
  have e5 : DefF K mg "_law_from_pairs" s_from_pairs ["n", "distances"] := defF_mk X G a5 l5 c5 k5 fun _ _ _ _ _ _ us hl => match us, hl with | [_, _], _ => rfl
  have e6 : DefF K mg "_law_links" s_links ["draws", "n"] := defF_mk X G a6 l6 c6 k6 fun _ _ _ _ _ _ us hl => match us, hl with | [_, _], _ => rfl
  have e7 : DefF K mg "_law_same" s_same ["actual", "due"] := defF_mk X G a7 l7 c7 k7 fun _ _ _ _ _ _ us hl => match us, hl with | [_, _], _ => rfl
  have e8 : DefF K mg "_law_best" s_best ["pairs"] := defF_mk X G a8 l8 c8 k8 fun _ _ _ _ _ _ us hl => match us, hl with | [_], _ => rfl
  have e9 : DefF K mg "_law_mask" s_mask ["things"] := defF_mk X G a9 l9 c9 k9 fun _ _ _ _ _ _ us hl => match us, hl with | [_], _ => rfl
  have e10 : DefF K mg "_law_least_cut" s_least_cut ["weights", "sets"] := defF_mk X G a10 l10 c10 k10 fun _ _ _ _ _ _ us hl => match us, hl with | [_, _], _ => rfl
  have e11 : DefF K mg "mask_of" s_p_mask_of ["things"] := defF_mk X G a11 l11 c11 k11 fun _ _ _ _ _ _ us hl => match us, hl with | [_], _ => rfl
  have e12 : DefF K mg "least_among" s_p_least_among ["rows", "sets"] := defF_mk X G a12 l12 c12 k12 fun _ _ _ _ _ _ us hl => match us, hl with | [_, _], _ => rfl
  have e13 : DefF K mg "least_of" s_p_least_of ["mask"] := defF_mk X G a13 l13 c13 k13 fun _ _ _ _ _ _ us hl => match us, hl with | [_], _ => rfl
  have e14 : DefF K mg "things_of" s_p_things_of ["mask"] := defF_mk X G a14 l14 c14 k14 fun _ _ _ _ _ _ us hl => match us, hl with | [_], _ => rfl
  have e15 : DefF K mg "pair_rows" s_p_pair_rows ["table"] := defF_mk X G a15 l15 c15 k15 fun _ _ _ _ _ _ us hl => match us, hl with | [_], _ => rfl
  have e16 : DefF K mg "weight_rows" s_p_weight_rows ["links"] := defF_mk X G a16 l16 c16 k16 fun _ _ _ _ _ _ us hl => match us, hl with | [_], _ => rfl
  have e17 : DefF K mg "sets_among" s_p_sets_among ["things"] := defF_mk X G a17 l17 c17 k17 fun _ _ _ _ _ _ us hl => match us, hl with | [_], _ => rfl
  have e18 : DefF K mg "cutting_sets" s_p_cutting_sets ["n", "a", "others"] := defF_mk X G a18 l18 c18 k18 fun _ _ _ _ _ _ us hl => match us, hl with | [_, _, _], _ => rfl
  have e19 : DefF K mg "least_cut_between" s_p_least_cut_between ["links", "a", "b"] := defF_mk X G a19 l19 c19 k19 fun _ _ _ _ _ _ us hl => match us, hl with | [_, _, _], _ => rfl
  have e20 : DefF K mg "_law_things" s_things ["mask"] := defF_mk X G a20 l20 c20 k20 fun _ _ _ _ _ _ us hl => match us, hl with | [_], _ => rfl
  have e21 : DefF K mg "_law_group_costs" s_group_costs ["table"] := defF_mk X G a21 l21 c21 k21 fun _ _ _ _ _ _ us hl => match us, hl with | [_], _ => rfl
  have e22 : DefF K mg "_law_cut_weights" s_cut_weights ["links"] := defF_mk X G a22 l22 c22 k22 fun _ _ _ _ _ _ us hl => match us, hl with | [_], _ => rfl
  have e23 : DefF K mg "_law_due_weight" s_due_weight ["links", "things"] := defF_mk X G a23 l23 c23 k23 fun _ _ _ _ _ _ us hl => match us, hl with | [_, _], _ => rfl
  have e24 : DefF K mg "_law_some_of" s_some_of ["draws", "things", "many"] := defF_mk X G a24 l24 c24 k24 fun _ _ _ _ _ _ us hl => match us, hl with | [_, _, _], _ => rfl
  have e25 : DefF K mg "_law_sets" s_sets ["things"] := defF_mk X G a25 l25 c25 k25 fun _ _ _ _ _ _ us hl => match us, hl with | [_], _ => rfl
  have e26 : DefF K mg "_law_sets_between" s_sets_between ["n", "a", "b"] := defF_mk X G a26 l26 c26 k26 fun _ _ _ _ _ _ us hl => match us, hl with | [_, _, _], _ => rfl
  have e27 : DefF K mg "weight_of" s_p_weight_of ["links", "things"] := defF_mk X G a27 l27 c27 k27 fun _ _ _ _ _ _ us hl => match us, hl with | [_, _], _ => rfl
  have e28 : DefF K mg "_law_is_right" s_is_right ["draws", "links"] := defF_mk X G a28 l28 c28 k28 fun _ _ _ _ _ _ us hl => match us, hl with | [_, _], _ => rfl
  have B : Bl mg := ⟨PySem.W.mg_none_of X G z0, PySem.W.mg_none_of X G z1, PySem.W.mg_none_of X G z2, PySem.W.mg_none_of X G z3, PySem.W.mg_none_of X G z4, PySem.W.mg_none_of X G z5, PySem.W.mg_none_of X G z6, PySem.W.mg_none_of X G z7, PySem.W.mg_none_of X G z8, PySem.W.mg_none_of X G z9, PySem.W.mg_none_of X G z10, PySem.W.mg_none_of X G z11, PySem.W.mg_none_of X G z12, PySem.W.mg_none_of X G z13, PySem.W.mg_none_of X G z14, PySem.W.mg_none_of X G z15, PySem.W.mg_none_of X G z16, PySem.W.mg_none_of X G z17, PySem.W.mg_none_of X G z18⟩
  have F := fun_mk (st := s_law) l29 c29 k29
  exact ⟨PySem.W.fnOf "law" "law" (defArgs s_law) (defBody s_law) (defScope s_law) .none kV29 dc29 pm29 an29 cd29 ct29, fun s v => .of_eq rfl, fun base _ _ => d_all ⟨B, e0, e1, e2, e3, e4, e5, e6, e7, e8, e9, e10, e11, e12, e13, e14, e15, e16, e17, e18, e19, e20, e21, e22, e23, e24, e25, e26, e27, e28⟩ F⟩
end
end Kx

set_option Elab.async false
set_option linter.all false
set_option maxRecDepth 100000
set_option maxHeartbeats 4000000
set_option autoImplicit false
/-! The T-layer: typed plain functions of what the mirrors reckon. -/
namespace GM
open PySem L2
section
variable {α β γ δ : Type}
/-! ### how plain values are told as data -/
def eL (e : α → D) (l : List α) : D := .lst (l.map e)
def eT (e : α → D) (l : List α) : D := .tup (l.map e)
def eP (e : α → D) (f : β → D) (p : α × β) : D := .tup [e p.1, f p.2]
def eP3 (e : α → D) (f : β → D) (g : γ → D) (p : α × β × γ) : D := .tup [e p.1, f p.2.1, g p.2.2]
def eP4 (e : α → D) (f : β → D) (g : γ → D) (h : δ → D) (p : α × β × γ × δ) : D := .tup [e p.1, f p.2.1, g p.2.2.1, h p.2.2.2]
def eO (e : α → D) : Option α → D
  | none => .non
  | some x => e x
def eN (_ : Unit) : D := .non
def eD (d : D) : D := d
end
/-- what is known of a slot: data, a word, a list of the def's own -/
inductive En where
  | v (d : D) | r (d : D) | w (w : W) | own (ds : List D)
/-- the caller's cells, by the numbers that are left to be drawn -/
structure Bs where
  f : List Int → Sto
  len : ∀ a b, (f a).length = (f b).length
def Bp (S : Sto) : Bs := ⟨fun _ => S, fun _ _ => rfl⟩
def Bd (T : Sto) : Bs := ⟨fun ns => C ns :: T, fun _ _ => rfl⟩
def Ind (B : Bs) (k : Nat) : Prop := ∀ a b, (B.f a)[k]? = (B.f b)[k]?
def Vw (B : Bs) (S : Sto) (w : W) (d : D) : Prop := w = .d d ∨ ∃ k ds, w = .ref k ∧ d = .lst ds ∧ S[k]? = some (.lst (ds.map W.d)) ∧ Ind B k
structure Ag (B : Bs) (ns : List Int) (E : List (Option En)) (ρ : Rho) (S : Sto) : Prop where
  len : ρ.length = E.length
  pre : ∃ X, S = B.f ns ++ X
  dat : ∀ (i : Nat) (d : D), E[i]? = some (some (.v d)) → ρ[i]? = some (some (.d d))
  val : ∀ (i : Nat) (d : D), E[i]? = some (some (.r d)) → ∃ w, ρ[i]? = some (some w) ∧ (w = .d d ∨ ∃ k ds, w = .ref k ∧ d = .lst ds ∧ ∀ ns, (B.f ns)[k]? = some (.lst (ds.map W.d)))
  wrd : ∀ (i : Nat) (w : W), E[i]? = some (some (.w w)) → ρ[i]? = some (some w)
  own : ∃ κ : Nat → Nat, (∀ (i : Nat) (ds : List D), E[i]? = some (some (.own ds)) → ρ[i]? = some (some (.ref (κ i))) ∧ (B.f ns).length ≤ κ i ∧ S[κ i]? = some (.lst (ds.map W.d))) ∧
    ∀ (i j : Nat) (ds ds' : List D), E[i]? = some (some (.own ds)) → E[j]? = some (some (.own ds')) → κ i = κ j → i = j
/-- the cells behind a step that draws -/
def Up (B : Bs) (ns ns' : List Int) (S S' : Sto) : Prop := ∃ X, S = B.f ns ++ X ∧ S' = B.f ns' ++ X
section
variable {B : Bs} {ns ns' ns2 : List Int} {E E' : List (Option En)} {ρ : Rho} {S S' S2 : Sto}
theorem Ag.up (a : Ag B ns E ρ S) (u : Up B ns ns' S S') : Ag B ns' E ρ S' := by
  obtain ⟨X, rfl, rfl⟩ := u
  obtain ⟨κ, h1, h2⟩ := a.own
  refine ⟨a.len, ⟨X, rfl⟩, a.dat, a.val, a.wrd, κ, fun i ds h => ?_, h2⟩
  obtain ⟨q1, q2, q3⟩ := h1 i ds h
  refine ⟨q1, by rw [B.len ns' ns]; exact q2, ?_⟩
  rw [List.getElem?_append_right q2] at q3
  rw [List.getElem?_append_right (by rw [B.len ns' ns]; exact q2), B.len ns' ns]
  exact q3
theorem Up.refl (a : Ag B ns E ρ S) : Up B ns ns S S := by
  obtain ⟨X, h⟩ := a.pre
  exact ⟨X, h, h⟩
theorem Up.trans (a : Up B ns ns' S S') (b : Up B ns' ns2 S' S2) : Up B ns ns2 S S2 := by
  obtain ⟨X, h1, h2⟩ := a
  obtain ⟨Y, h3, h4⟩ := b
  have : X = Y := by
    rw [h2] at h3
    exact List.append_cancel_left h3
  subst this
  exact ⟨X, h1, h4⟩
theorem Vw.data {d : D} : Vw B S (.d d) d := .inl rfl
theorem Ag.vw (a : Ag B ns E ρ S) {i : Nat} {d : D} (h : E[i]? = some (some (.r d))) : ∃ w, ρ[i]? = some (some w) ∧ Vw B S w d := by
  obtain ⟨w, h1, h2⟩ := a.val i d h
  refine ⟨w, h1, ?_⟩
  rcases h2 with h2 | ⟨k, ds, rfl, rfl, h3⟩
  · exact .inl h2
  · refine .inr ⟨k, ds, rfl, rfl, ?_, fun a b => by rw [h3, h3]⟩
    obtain ⟨X, rfl⟩ := a.pre
    rw [List.getElem?_append_left (List.getElem?_eq_some_iff.mp (h3 ns)).1]
    exact h3 ns
theorem ind_ge {k : Nat} (h : (B.f ns).length ≤ k) : Ind B k := fun a b => by
  rw [List.getElem?_eq_none (by rw [B.len a ns]; exact h), List.getElem?_eq_none (by rw [B.len b ns]; exact h)]
theorem Ag.vo (a : Ag B ns E ρ S) {i : Nat} {ds : List D} (h : E[i]? = some (some (.own ds))) : ∃ w, ρ[i]? = some (some w) ∧ Vw B S w (.lst ds) := by
  obtain ⟨κ, h1, _⟩ := a.own
  obtain ⟨q1, q2, q3⟩ := h1 i ds h
  exact ⟨_, q1, .inr ⟨_, ds, rfl, rfl, q3, ind_ge q2⟩⟩
/-- a list, a tuple: its items -/
theorem Vw.seqL {w : W} {ds : List D} (h : Vw B S w (.lst ds)) : seqW S w = some (ds.map W.d) := by
  rcases h with rfl | ⟨k, ds', rfl, e, h, _⟩
  · rfl
  · cases e; exact lstOf_eq h
theorem Vw.seqT {w : W} {ds : List D} (h : Vw B S w (.tup ds)) : seqW S w = some (ds.map W.d) := by
  rcases h with rfl | ⟨k, ds', rfl, e, h, _⟩
  · rfl
  · cases e
theorem Vw.listL {w : W} {ds : List D} (h : Vw B S w (.lst ds)) : listW S w = some (ds.map W.d) := by
  rcases h with rfl | ⟨k, ds', rfl, e, h, _⟩
  · rfl
  · cases e; exact lstOf_eq h
theorem Vw.lsL {w : W} {ds : List D} (h : Vw B S w (.lst ds)) : lsW S w = some (ds.map W.d) := by
  rcases h with rfl | ⟨k, ds', rfl, e, h, _⟩
  · rfl
  · cases e; exact lstOf_eq h
theorem Vw.view {w : W} {d : D} (h : Vw B S w d) : view S w = some d := by
  rcases h with rfl | ⟨k, ds', rfl, e, h, _⟩
  · rfl
  · subst e
    show (lstOf S k).bind _ = _
    rw [lstOf_eq h]
    simp
theorem Vw.flat {w : W} {d : D} (h : Vw B S w d) (hd : ∀ ds, d ≠ .lst ds) : w = .d d := by
  rcases h with rfl | ⟨k, ds', rfl, e, h, _⟩
  · rfl
  · exact absurd e (hd ds')
end
/-! ### judgements of expressions -/
section
variable {α β γ : Type} (B : Bs) (ns : List Int) (E : List (Option En))
def Ew (e : α → D) (m : Em) (o : Option α) : Prop := ∀ ρ S, Ag B ns E ρ S → ∀ x, o = some x → ∃ w, m ρ S = some (w, S) ∧ Vw B S w (e x)
def Ed (e : α → D) (m : Em) (o : Option α) : Prop := ∀ ρ S, Ag B ns E ρ S → ∀ x, o = some x → m ρ S = some (.d (e x), S)
def EF (e : α → D) (m : Am) (o : Option (List α)) : Prop := ∀ ρ S, Ag B ns E ρ S → ∀ l, o = some l → m ρ S = some (l.map fun x => W.d (e x), S)
def Et (m : Tm) (o : Option Bool) : Prop := ∀ ρ S, Ag B ns E ρ S → ∀ b, o = some b → m ρ S = some (b, S)
def Edv (e : α → D) (m : Em) (o : Option (α × List Int)) : Prop := ∀ ρ S, Ag B ns E ρ S → ∀ x ns', o = some (x, ns') → ∃ S', m ρ S = some (.d (e x), S') ∧ Up B ns ns' S S'
def EFv (e : α → D) (m : Am) (o : Option (List α × List Int)) : Prop := ∀ ρ S, Ag B ns E ρ S → ∀ l ns', o = some (l, ns') → ∃ S', m ρ S = some (l.map fun x => W.d (e x), S') ∧ Up B ns ns' S S'
def Etv (m : Tm) (o : Option (Bool × List Int)) : Prop := ∀ ρ S, Ag B ns E ρ S → ∀ b ns', o = some (b, ns') → ∃ S', m ρ S = some (b, S') ∧ Up B ns ns' S S'
/-- a list of arguments: R says what follows of the data and of what is left to be drawn -/
inductive Vws (S : Sto) : List W → List D → Prop
  | nil : Vws S [] []
  | cons {w : W} {d : D} {ws : List W} {ds : List D} : Vw B S w d → Vws S ws ds → Vws S (w :: ws) (d :: ds)
def EA (m : Am) (R : List D → γ → Prop) (o : Option γ) : Prop := ∀ ρ S, Ag B ns E ρ S → ∀ g, o = some g → ∃ ws ds, m ρ S = some (ws, S) ∧ Vws B S ws ds ∧ R ds g
def EAv (m : Am) (R : List D → List Int → γ → Prop) (o : Option γ) : Prop := ∀ ρ S, Ag B ns E ρ S → ∀ g, o = some g → ∃ ws ds ns' S', m ρ S = some (ws, S') ∧ Up B ns ns' S S' ∧ Vws B S' ws ds ∧ R ds ns' g
end
section
variable {α β γ δ : Type} {B : Bs} {ns : List Int} {E : List (Option En)} {e : α → D} {f : β → D} {g : γ → D} {m ma mb mc : Em} {am : Am}
theorem Ed.ew {o : Option α} (h : Ed B ns E e m o) : Ew B ns E e m o := fun ρ S a x hx => ⟨_, h ρ S a x hx, .data⟩
/-- what is no list is data -/
theorem Ew.ed {o : Option α} (h : Ew B ns E e m o) (he : ∀ x ds, e x ≠ .lst ds) : Ed B ns E e m o := fun ρ S a x hx => by
  obtain ⟨w, h1, h2⟩ := h ρ S a x hx
  rw [h1, h2.flat (he x)]
theorem nl_int (x : Int) (ds : List D) : D.int x ≠ .lst ds := fun h => nomatch h
theorem nl_bl (x : Bool) (ds : List D) : D.bl x ≠ .lst ds := fun h => nomatch h
theorem nl_str (x : Str) (ds : List D) : D.str x ≠ .lst ds := fun h => nomatch h
theorem nl_N (x : Unit) (ds : List D) : eN x ≠ .lst ds := fun h => nomatch h
theorem nl_T (x : List α) (ds : List D) : eT e x ≠ .lst ds := fun h => nomatch h
theorem nl_P (x : α × β) (ds : List D) : eP e f x ≠ .lst ds := fun h => nomatch h
theorem nl_P3 (x : α × β × γ) (ds : List D) : eP3 e f g x ≠ .lst ds := fun h => nomatch h
theorem nl_P4 {h : δ → D} (x : α × β × γ × δ) (ds : List D) : eP4 e f g h x ≠ .lst ds := fun h => nomatch h
theorem nl_O (he : ∀ x ds, e x ≠ .lst ds) (x : Option α) (ds : List D) : eO e x ≠ .lst ds := by
  cases x with
  | none => exact fun h => nomatch h
  | some x => exact he x ds
theorem ew_par {i : Nat} {x : α} (h : E[i]? = some (some (.r (e x)))) : Ew B ns E e (mv i) (some x) := fun ρ S a y hy => by
  cases hy
  obtain ⟨w, h1, h2⟩ := a.vw h
  exact ⟨w, by simp [h1], h2⟩
theorem ed_var {i : Nat} {x : α} (h : E[i]? = some (some (.v (e x)))) : Ed B ns E e (mv i) (some x) := fun ρ S a y hy => by
  cases hy
  simp [a.dat i _ h]
theorem ew_own {i : Nat} {l : List α} (h : E[i]? = some (some (.own (l.map e)))) : Ew B ns E (eL e) (mv i) (some l) := fun ρ S a y hy => by
  cases hy
  obtain ⟨w, h1, h2⟩ := a.vo h
  exact ⟨w, by simp [h1], h2⟩
theorem ed_int (i : Int) : Ed B ns E .int (mk (.int i)) (some i) := fun ρ S a y hy => by cases hy; rfl
theorem ed_bl (i : Bool) : Ed B ns E .bl (mk (.bl i)) (some i) := fun ρ S a y hy => by cases hy; rfl
theorem ed_str (i : Str) : Ed B ns E .str (mk (.str i)) (some i) := fun ρ S a y hy => by cases hy; rfl
theorem ed_non : Ed B ns E eN (mk .non) (some ()) := fun ρ S a y hy => by cases hy; rfl
theorem ed_none : Ed B ns E (eO e) (mk .non) (some none) := fun ρ S a y hy => by cases hy; rfl
/-! changes of the telling -/
theorem Ew.lO {o : Option (List α)} (h : Ew B ns E (eL e) m o) : Ew B ns E (eL (eO e)) m (o.bind fun x => some (x.map fun y => some y)) := fun ρ S a y hy => by
  obtain ⟨x, rfl, h1⟩ := bind_some hy
  cases h1
  obtain ⟨w, q1, q2⟩ := h ρ S a x rfl
  refine ⟨w, q1, ?_⟩
  have : eL (eO e) (x.map fun y => some y) = eL e x := by unfold eL; rw [List.map_map]; rfl
  rw [this]; exact q2
theorem Ew.tO {o : Option (List α)} (h : Ew B ns E (eT e) m o) : Ew B ns E (eT (eO e)) m (o.bind fun x => some (x.map fun y => some y)) := fun ρ S a y hy => by
  obtain ⟨x, rfl, h1⟩ := bind_some hy
  cases h1
  obtain ⟨w, q1, q2⟩ := h ρ S a x rfl
  refine ⟨w, q1, ?_⟩
  have : eT (eO e) (x.map fun y => some y) = eT e x := by unfold eT; rw [List.map_map]; rfl
  rw [this]; exact q2
theorem Ed.lO {o : Option (List α)} (h : Ed B ns E (eL e) m o) : Ed B ns E (eL (eO e)) m (o.bind fun x => some (x.map fun y => some y)) := fun ρ S a y hy => by
  obtain ⟨x, rfl, h1⟩ := bind_some hy
  cases h1
  have : eL (eO e) (x.map fun y => some y) = eL e x := by unfold eL; rw [List.map_map]; rfl
  rw [this]; exact h ρ S a x rfl
theorem Ed.tO {o : Option (List α)} (h : Ed B ns E (eT e) m o) : Ed B ns E (eT (eO e)) m (o.bind fun x => some (x.map fun y => some y)) := fun ρ S a y hy => by
  obtain ⟨x, rfl, h1⟩ := bind_some hy
  cases h1
  have : eT (eO e) (x.map fun y => some y) = eT e x := by unfold eT; rw [List.map_map]; rfl
  rw [this]; exact h ρ S a x rfl
theorem Ed.toO {o : Option α} (h : Ed B ns E e m o) : Ed B ns E (eO e) m (o.bind fun x => some (some x)) := fun ρ S a y hy => by
  obtain ⟨x, rfl, h1⟩ := bind_some hy
  cases h1
  exact h ρ S a x rfl
theorem Ew.toO {o : Option α} (h : Ew B ns E e m o) : Ew B ns E (eO e) m (o.bind fun x => some (some x)) := fun ρ S a y hy => by
  obtain ⟨x, rfl, h1⟩ := bind_some hy
  cases h1
  exact h ρ S a x rfl
theorem Ed.get {o : Option (Option α)} (h : Ed B ns E (eO e) m o) : Ed B ns E e m (o.bind fun x => x) := fun ρ S a y hy => by
  obtain ⟨x, rfl, h1⟩ := bind_some hy
  subst h1
  exact h ρ S a (some y) rfl
theorem Ew.get {o : Option (Option α)} (h : Ew B ns E (eO e) m o) : Ew B ns E e m (o.bind fun x => x) := fun ρ S a y hy => by
  obtain ⟨x, rfl, h1⟩ := bind_some hy
  subst h1
  exact h ρ S a (some y) rfl
theorem Ed.any {o : Option α} (h : Ed B ns E e m o) : Ed B ns E eD m (o.bind fun x => some (e x)) := fun ρ S a y hy => by
  obtain ⟨x, rfl, h1⟩ := bind_some hy
  cases h1
  exact h ρ S a x rfl
theorem Ew.any {o : Option α} (h : Ew B ns E e m o) : Ew B ns E eD m (o.bind fun x => some (e x)) := fun ρ S a y hy => by
  obtain ⟨x, rfl, h1⟩ := bind_some hy
  cases h1
  exact h ρ S a x rfl
theorem Ed.pt {o : Option (α × α)} (h : Ed B ns E (eP e e) m o) : Ed B ns E (eT e) m (o.bind fun x => some [x.1, x.2]) := fun ρ S a y hy => by
  obtain ⟨x, rfl, h1⟩ := bind_some hy
  cases h1
  exact h ρ S a x rfl
/-! ### built-in steps on data -/
theorem ed_p1 {fn : Sto → List W → Option W} {p : α → Option β} (hp : ∀ S x y, p x = some y → fn S [.d (e x)] = some (.d (f y))) {oa : Option α} (ha : Ed B ns E e ma oa) : Ed B ns E f (prim fn (acons ma anil)) (oa.bind p) := fun ρ S a y hy => by
  obtain ⟨x, rfl, h1⟩ := bind_some hy
  simp [ha ρ S a x rfl, hp S x y h1]
theorem ed_p2 {fn : Sto → List W → Option W} {p : α → β → Option γ} (hp : ∀ S x y z, p x y = some z → fn S [.d (e x), .d (f y)] = some (.d (g z))) {oa : Option α} {ob : Option β} (ha : Ed B ns E e ma oa) (hb : Ed B ns E f mb ob) : Ed B ns E g (prim fn (acons ma (acons mb anil))) (oa.bind fun x => ob.bind fun y => p x y) := fun ρ S a z hz => by
  obtain ⟨x, rfl, h1⟩ := bind_some hz
  obtain ⟨y, rfl, h1⟩ := bind_some h1
  simp [ha ρ S a x rfl, hb ρ S a y rfl, hp S x y z h1]
/-- on words of which the first is seen as data -/
theorem ed_w1 {fn : Sto → List W → Option W} {p : α → Option β} (hp : ∀ B S w x y, Vw B S w (e x) → p x = some y → fn S [w] = some (.d (f y))) {oa : Option α} (ha : Ew B ns E e ma oa) : Ed B ns E f (prim fn (acons ma anil)) (oa.bind p) := fun ρ S a y hy => by
  obtain ⟨x, rfl, h1⟩ := bind_some hy
  obtain ⟨w, q1, q2⟩ := ha ρ S a x rfl
  simp [q1, hp B S w x y q2 h1]
theorem ed_w2 {fn : Sto → List W → Option W} {p : α → β → Option γ} (hp : ∀ B S w u x y z, Vw B S w (e x) → Vw B S u (f y) → p x y = some z → fn S [w, u] = some (.d (g z))) {oa : Option α} {ob : Option β} (ha : Ew B ns E e ma oa) (hb : Ew B ns E f mb ob) : Ed B ns E g (prim fn (acons ma (acons mb anil))) (oa.bind fun x => ob.bind fun y => p x y) := fun ρ S a z hz => by
  obtain ⟨x, rfl, h1⟩ := bind_some hz
  obtain ⟨y, rfl, h1⟩ := bind_some h1
  obtain ⟨w, q1, q2⟩ := ha ρ S a x rfl
  obtain ⟨u, q3, q4⟩ := hb ρ S a y rfl
  simp [q1, q3, hp B S w u x y z q2 q4 h1]
theorem ef_w1 {fn : Sto → List W → Option (List W)} {p : α → Option (List β)} (hp : ∀ B S w x y, Vw B S w (e x) → p x = some y → fn S [w] = some (y.map fun z => W.d (f z))) {oa : Option α} (ha : Ew B ns E e ma oa) : EF B ns E f (primF fn (acons ma anil)) (oa.bind p) := fun ρ S a y hy => by
  obtain ⟨x, rfl, h1⟩ := bind_some hy
  obtain ⟨w, q1, q2⟩ := ha ρ S a x rfl
  simp [q1, hp B S w x y q2 h1]
theorem ef_w2 {fn : Sto → List W → Option (List W)} {p : α → β → Option (List γ)} (hp : ∀ B S w u x y z, Vw B S w (e x) → Vw B S u (f y) → p x y = some z → fn S [w, u] = some (z.map fun z => W.d (g z))) {oa : Option α} {ob : Option β} (ha : Ew B ns E e ma oa) (hb : Ew B ns E f mb ob) : EF B ns E g (primF fn (acons ma (acons mb anil))) (oa.bind fun x => ob.bind fun y => p x y) := fun ρ S a z hz => by
  obtain ⟨x, rfl, h1⟩ := bind_some hz
  obtain ⟨y, rfl, h1⟩ := bind_some h1
  obtain ⟨w, q1, q2⟩ := ha ρ S a x rfl
  obtain ⟨u, q3, q4⟩ := hb ρ S a y rfl
  simp [q1, q3, hp B S w u x y z q2 q4 h1]
theorem datas_emap {α : Type} (l : List α) (e : α → D) : datas (l.map fun x => W.d (e x)) = some (l.map e) := datas_fmap l e
theorem map_emap {α : Type} (l : List α) (e : α → D) : (l.map e).map W.d = l.map fun x => W.d (e x) := by rw [List.map_map]; rfl
/-! ### lists that are made -/
theorem ed_frz {o : Option (List α)} (h : EF B ns E e am o) : Ed B ns E (eL e) (frz am) o := fun ρ S a l hl => by
  simp [h ρ S a l hl, datas_emap]
  rfl
/-! ints -/
variable {oa ob : Option Int}
theorem ed_add (ha : Ed B ns E .int ma oa) (hb : Ed B ns E .int mb ob) : Ed B ns E .int (prim fAdd (acons ma (acons mb anil))) (oa.bind fun x => ob.bind fun y => some (x + y)) := ed_p2 (fun S x y z h => by cases h; rfl) ha hb
theorem ed_sub (ha : Ed B ns E .int ma oa) (hb : Ed B ns E .int mb ob) : Ed B ns E .int (prim fSub (acons ma (acons mb anil))) (oa.bind fun x => ob.bind fun y => some (x - y)) := ed_p2 (fun S x y z h => by cases h; rfl) ha hb
def omul (x y : Int) : Option Int := if mulOk x y = true then some (x * y) else none
def odiv (x y : Int) : Option Int := if 0 < y ∧ y.natAbs < 2 ^ 8000 then some (x / y) else none
def omod (x y : Int) : Option Int := if 0 < y then some (x % y) else none
def opow (x y : Int) : Option Int := if 0 ≤ y ∧ y ≤ 1000000 ∧ x.natAbs < 2 ^ 64 then some (x ^ y.toNat) else none
def oshl (x y : Int) : Option Int := if 0 ≤ y ∧ y ≤ 1000000 ∧ x.natAbs < 2 ^ 64 then some (x * 2 ^ y.toNat) else none
def oshr (x y : Int) : Option Int := if 0 ≤ y then some (x / 2 ^ y.toNat) else none
theorem ite_some {α : Type} {c : Prop} [Decidable c] {x y : α} (h : (if c then some x else none) = some y) : c ∧ x = y := by
  split at h
  · rename_i hc; cases h; exact ⟨hc, rfl⟩
  · cases h
theorem ed_mul (ha : Ed B ns E .int ma oa) (hb : Ed B ns E .int mb ob) : Ed B ns E .int (prim fMulX (acons ma (acons mb anil))) (oa.bind fun x => ob.bind fun y => omul x y) := ed_p2 (fun S x y z h => by
  obtain ⟨hc, rfl⟩ := ite_some h
  exact mul_int hc) ha hb
theorem ed_div (ha : Ed B ns E .int ma oa) (hb : Ed B ns E .int mb ob) : Ed B ns E .int (prim fDiv (acons ma (acons mb anil))) (oa.bind fun x => ob.bind fun y => odiv x y) := ed_p2 (fun S x y z h => by
  obtain ⟨hc, rfl⟩ := ite_some h
  exact div_int hc.1 hc.2) ha hb
theorem ed_mod (ha : Ed B ns E .int ma oa) (hb : Ed B ns E .int mb ob) : Ed B ns E .int (prim fMod (acons ma (acons mb anil))) (oa.bind fun x => ob.bind fun y => omod x y) := ed_p2 (fun S x y z h => by
  obtain ⟨hc, rfl⟩ := ite_some h
  exact mod_int hc) ha hb
theorem ed_pow (ha : Ed B ns E .int ma oa) (hb : Ed B ns E .int mb ob) : Ed B ns E .int (prim fPow (acons ma (acons mb anil))) (oa.bind fun x => ob.bind fun y => opow x y) := ed_p2 (fun S x y z h => by
  obtain ⟨hc, rfl⟩ := ite_some h
  exact pow_int hc.1 hc.2.1 hc.2.2) ha hb
theorem ed_shl (ha : Ed B ns E .int ma oa) (hb : Ed B ns E .int mb ob) : Ed B ns E .int (prim fShl (acons ma (acons mb anil))) (oa.bind fun x => ob.bind fun y => oshl x y) := ed_p2 (fun S x y z h => by
  obtain ⟨hc, rfl⟩ := ite_some h
  exact shl_int hc.1 hc.2.1 hc.2.2) ha hb
theorem ed_shr (ha : Ed B ns E .int ma oa) (hb : Ed B ns E .int mb ob) : Ed B ns E .int (prim fShr (acons ma (acons mb anil))) (oa.bind fun x => ob.bind fun y => oshr x y) := ed_p2 (fun S x y z h => by
  obtain ⟨hc, rfl⟩ := ite_some h
  simp [fShr, fI2, hc]) ha hb
theorem ed_and (ha : Ed B ns E .int ma oa) (hb : Ed B ns E .int mb ob) : Ed B ns E .int (prim fAnd (acons ma (acons mb anil))) (oa.bind fun x => ob.bind fun y => some (Builtin.bitAnd x y)) := ed_p2 (fun S x y z h => by cases h; rfl) ha hb
theorem ed_or (ha : Ed B ns E .int ma oa) (hb : Ed B ns E .int mb ob) : Ed B ns E .int (prim fOr (acons ma (acons mb anil))) (oa.bind fun x => ob.bind fun y => some (Builtin.bitOr x y)) := ed_p2 (fun S x y z h => by cases h; rfl) ha hb
theorem ed_xor (ha : Ed B ns E .int ma oa) (hb : Ed B ns E .int mb ob) : Ed B ns E .int (prim fXor (acons ma (acons mb anil))) (oa.bind fun x => ob.bind fun y => some (Builtin.bitXor x y)) := ed_p2 (fun S x y z h => by cases h; rfl) ha hb
theorem ed_neg (ha : Ed B ns E .int ma oa) : Ed B ns E .int (prim fNeg (acons ma anil)) (oa.bind fun x => some (-x)) := ed_p1 (fun S x z h => by cases h; rfl) ha
def iabs (x : Int) : Int := if x < 0 then -x else x
def imax (i j : Int) : Int := if j > i then j else i
def imin (i j : Int) : Int := if j < i then j else i
def bint (b : Bool) : Int := if b then 1 else 0
theorem ed_abs (ha : Ed B ns E .int ma oa) : Ed B ns E .int (prim fAbs (acons ma anil)) (oa.bind fun x => some (iabs x)) := ed_p1 (fun S x z h => by cases h; rfl) ha
theorem ed_max2 (ha : Ed B ns E .int ma oa) (hb : Ed B ns E .int mb ob) : Ed B ns E .int (prim fMax2 (acons ma (acons mb anil))) (oa.bind fun x => ob.bind fun y => some (imax x y)) := ed_p2 (fun S x y z h => by cases h; rfl) ha hb
theorem ed_min2 (ha : Ed B ns E .int ma oa) (hb : Ed B ns E .int mb ob) : Ed B ns E .int (prim fMin2 (acons ma (acons mb anil))) (oa.bind fun x => ob.bind fun y => some (imin x y)) := ed_p2 (fun S x y z h => by cases h; rfl) ha hb
theorem ed_intI (ha : Ed B ns E .int ma oa) : Ed B ns E .int (prim fInt (acons ma anil)) oa := by
  have := ed_p1 (fn := fInt) (p := fun x => some x) (f := D.int) (fun S x z h => by cases h; rfl) ha
  simpa using this
theorem ed_intB {oa : Option Bool} (ha : Ed B ns E .bl ma oa) : Ed B ns E .int (prim fInt (acons ma anil)) (oa.bind fun x => some (bint x)) := ed_p1 (fun S x z h => by cases h; rfl) ha
theorem ed_lt (ha : Ed B ns E .int ma oa) (hb : Ed B ns E .int mb ob) : Ed B ns E .bl (prim fLt (acons ma (acons mb anil))) (oa.bind fun x => ob.bind fun y => some (decide (x < y))) := ed_p2 (fun S x y z h => by cases h; rfl) ha hb
theorem ed_le (ha : Ed B ns E .int ma oa) (hb : Ed B ns E .int mb ob) : Ed B ns E .bl (prim fLe (acons ma (acons mb anil))) (oa.bind fun x => ob.bind fun y => some (decide (x ≤ y))) := ed_p2 (fun S x y z h => by cases h; rfl) ha hb
theorem ed_gt (ha : Ed B ns E .int ma oa) (hb : Ed B ns E .int mb ob) : Ed B ns E .bl (prim fGt (acons ma (acons mb anil))) (oa.bind fun x => ob.bind fun y => some (decide (y < x))) := ed_p2 (fun S x y z h => by cases h; rfl) ha hb
theorem ed_ge (ha : Ed B ns E .int ma oa) (hb : Ed B ns E .int mb ob) : Ed B ns E .bl (prim fGe (acons ma (acons mb anil))) (oa.bind fun x => ob.bind fun y => some (decide (y ≤ x))) := ed_p2 (fun S x y z h => by cases h; rfl) ha hb
/-- i op j op l -/
theorem ed_chain {p q : Int → Int → Bool} {oc : Option Int} (ha : Ed B ns E .int ma oa) (hb : Ed B ns E .int mb ob) (hc : Ed B ns E .int mc oc) :
    Ed B ns E .bl (mchain p q ma mb mc) (oa.bind fun x => ob.bind fun y => if p x y = true then oc.bind fun z => some (q y z) else some false) := fun ρ S a r hr => by
  obtain ⟨x, rfl, h1⟩ := bind_some hr
  obtain ⟨y, rfl, h1⟩ := bind_some h1
  simp only [mchain_ap, ha ρ S a x rfl, hb ρ S a y rfl, Option.bind_some]
  replace h1 : (if p x y = true then oc.bind fun z => some (q y z) else some false) = some r := h1
  by_cases hp : p x y = true
  · rw [if_pos hp] at h1
    obtain ⟨z, rfl, h1⟩ := bind_some h1
    cases h1
    simp [hp, hc ρ S a z rfl]
  · rw [if_neg hp] at h1
    cases h1
    simp [hp]
end
end GM

set_option Elab.async false
set_option linter.all false
set_option maxRecDepth 100000
set_option maxHeartbeats 4000000
set_option autoImplicit false
namespace GM
open PySem L2
section
variable {α β γ δ : Type} {B : Bs} {ns : List Int} {E : List (Option En)} {e : α → D} {f : β → D} {g : γ → D} {m ma mb mc : Em} {am : Am}
theorem atI_map {α β : Type} (h : α → β) (l : List α) (i : Int) : atI (l.map h) i = (atI l i).map h := by
  unfold atI
  rw [List.length_map]
  cases ixN l.length i with
  | none => rfl
  | some j => exact List.getElem?_map
/-! ### items, lengths, slices -/
theorem ew_ixd {fn : Sto → List W → Option W} {p : α → β → Option γ} (hp : ∀ B S w x y z, Vw B S w (e x) → p x y = some z → fn S [w, .d (f y)] = some (.d (g z))) {oa : Option α} {ob : Option β} (ha : Ew B ns E e ma oa) (hb : Ed B ns E f mb ob) : Ed B ns E g (prim fn (acons ma (acons mb anil))) (oa.bind fun x => ob.bind fun y => p x y) := fun ρ S a z hz => by
  obtain ⟨x, rfl, h1⟩ := bind_some hz
  obtain ⟨y, rfl, k2⟩ := bind_some h1
  obtain ⟨w, q1, q2⟩ := ha ρ S a x rfl
  simp [q1, hb ρ S a y rfl, hp B S w x y z q2 k2]
theorem ed_ixT {oa : Option (List α)} {ob : Option Int} (ha : Ew B ns E (eT e) ma oa) (hb : Ed B ns E .int mb ob) : Ed B ns E e (prim fIx (acons ma (acons mb anil))) (oa.bind fun x => ob.bind fun y => atI x y) := ew_ixd (fun B S w x y z hw h => by
  show (seqW S w).bind _ = _
  rw [hw.seqT, Option.bind_some, map_emap, atI_map, h]; rfl) ha hb
theorem ed_ixL {oa : Option (List α)} {ob : Option Int} (ha : Ew B ns E (eL e) ma oa) (hb : Ed B ns E .int mb ob) : Ed B ns E e (prim fIx (acons ma (acons mb anil))) (oa.bind fun x => ob.bind fun y => atI x y) := ew_ixd (fun B S w x y z hw h => by
  show (seqW S w).bind _ = _
  rw [hw.seqL, Option.bind_some, map_emap, atI_map, h]; rfl) ha hb
/-- an item of a pair, a triple, .. by a written number -/
theorem ed_ixP {j : Int} {p : α → β} (hp : ∀ x S, fIx S [.d (e x), .d (.int j)] = some (.d (f (p x)))) (he : ∀ x ds, e x ≠ .lst ds) {oa : Option α} (ha : Ew B ns E e ma oa) : Ed B ns E f (prim fIx (acons ma (acons (mk (.int j)) anil))) (oa.bind fun x => some (p x)) := fun ρ S a z hz => by
  obtain ⟨x, rfl, h1⟩ := bind_some hz
  cases h1
  simp [(ha.ed he) ρ S a x rfl, hp x S]
theorem ed_lenT {oa : Option (List α)} (ha : Ew B ns E (eT e) ma oa) : Ed B ns E .int (prim fLen (acons ma anil)) (oa.bind fun x => some (x.length : Int)) := ed_w1 (fun B S w x y hw h => by
  cases h
  show (seqW S w).bind _ = _
  rw [hw.seqT]; simp) ha
theorem ed_lenL {oa : Option (List α)} (ha : Ew B ns E (eL e) ma oa) : Ed B ns E .int (prim fLen (acons ma anil)) (oa.bind fun x => some (x.length : Int)) := ed_w1 (fun B S w x y hw h => by
  cases h
  show (seqW S w).bind _ = _
  rw [hw.seqL]; simp) ha
/-- a bound of a slice -/
def Eb (B : Bs) (ns : List Int) (E : List (Option En)) (m : Om) (o : Option (Option Int)) : Prop := ∀ ρ S, Ag B ns E ρ S → ∀ b, o = some b → m ρ S = some (b, S)
theorem eb_none : Eb B ns E onone (some none) := fun ρ S a b h => by cases h; rfl
theorem eb_some {ob : Option Int} (h : Ed B ns E .int m ob) : Eb B ns E (osome m) (ob.bind fun x => some (some x)) := fun ρ S a b hb => by
  obtain ⟨x, rfl, h1⟩ := bind_some hb
  cases h1
  simp [h ρ S a x rfl]
theorem cutW_map' {α β : Type} (f : α → β) (xs : List α) (lo hi : Option Int) : cutW (xs.map f) lo hi = (cutW xs lo hi).map f := (cut_map f xs lo hi).symm
theorem ed_slT {oa : Option (List α)} {ol oh : Option (Option Int)} {ml mh : Om} (ha : Ew B ns E (eT e) ma oa) (hl : Eb B ns E ml ol) (hh : Eb B ns E mh oh) : Ed B ns E (eT e) (msl slX ma ml mh) (oa.bind fun x => ol.bind fun l => oh.bind fun h => some (cutW x l h)) := fun ρ S a z hz => by
  obtain ⟨x, rfl, h1⟩ := bind_some hz
  obtain ⟨l, rfl, h2⟩ := bind_some h1
  obtain ⟨h, rfl, h3⟩ := bind_some h2
  cases h3
  have q := (ha.ed nl_T) ρ S a x rfl
  simp only [msl_ap, q, hl ρ S a l rfl, hh ρ S a h rfl, Option.bind_some]
  show ((some (W.d (.tup (cutW (x.map e) l h)))).bind _) = _
  rw [cutW_map']
  rfl
theorem ed_slL {oa : Option (List α)} {ol oh : Option (Option Int)} {ml mh : Om} (ha : Ew B ns E (eL e) ma oa) (hl : Eb B ns E ml ol) (hh : Eb B ns E mh oh) : Ed B ns E (eL e) (msl slX ma ml mh) (oa.bind fun x => ol.bind fun l => oh.bind fun h => some (cutW x l h)) := fun ρ S a z hz => by
  obtain ⟨x, rfl, h1⟩ := bind_some hz
  obtain ⟨l, rfl, h2⟩ := bind_some h1
  obtain ⟨h, rfl, h3⟩ := bind_some h2
  cases h3
  obtain ⟨w, q1, q2⟩ := ha ρ S a x rfl
  have q3 : slX S w l h = some (.d (eL e (cutW x l h))) := by
    have hs := q2.seqL
    have : slX S w l h = (seqW S w).bind fun ws => (datas (cutW ws l h)).bind fun ds => some (.d (.lst ds)) := by
      rcases q2 with rfl | ⟨k, ds, rfl, _⟩ <;> rfl
    rw [this, hs, Option.bind_some, map_emap, cutW_map', datas_emap]
    rfl
  simp [q1, hl ρ S a l rfl, hh ρ S a h rfl, q3]
theorem ef_slL {oa : Option (List α)} {ol oh : Option (Option Int)} {ml mh : Om} (ha : Ew B ns E (eL e) ma oa) (hl : Eb B ns E ml ol) (hh : Eb B ns E mh oh) : EF B ns E e (mslF slL ma ml mh) (oa.bind fun x => ol.bind fun l => oh.bind fun h => some (cutW x l h)) := fun ρ S a z hz => by
  obtain ⟨x, rfl, h1⟩ := bind_some hz
  obtain ⟨l, rfl, h2⟩ := bind_some h1
  obtain ⟨h, rfl, h3⟩ := bind_some h2
  cases h3
  obtain ⟨w, q1, q2⟩ := ha ρ S a x rfl
  have q3 : slL S w l h = some ((cutW x l h).map fun x => W.d (e x)) := by
    have hs := q2.seqL
    have : slL S w l h = (seqW S w).bind fun ws => some (cutW ws l h) := by
      rcases q2 with rfl | ⟨k, ds, rfl, _⟩ <;> rfl
    rw [this, hs, Option.bind_some, map_emap, cutW_map']
  simp [mslF, q1, hl ρ S a l rfl, hh ρ S a h rfl, q3]
/-! ### kinds changed -/
theorem ed_tupleL {oa : Option (List α)} (ha : Ew B ns E (eL e) ma oa) : Ed B ns E (eT e) (prim fTuple (acons ma anil)) oa := by
  have := ed_w1 (f := eT e) (fn := fTuple) (p := fun x => some x) (fun B S w x y hw h => by
    cases h
    have : fTuple S [w] = (listW S w).bind fun ws => (datas ws).bind fun ds => some (W.d (.tup ds)) := by
      rcases hw with rfl | ⟨k, ds, rfl, _⟩ <;> rfl
    rw [this, hw.listL, Option.bind_some, map_emap, datas_emap]
    rfl) ha
  simpa using this
theorem ed_tupleT {oa : Option (List α)} (ha : Ew B ns E (eT e) ma oa) : Ed B ns E (eT e) (prim fTuple (acons ma anil)) oa := by
  have := ed_w1 (f := eT e) (fn := fTuple) (p := fun x => some x) (fun B S w x y hw h => by
    cases h
    rw [hw.flat (nl_T x)]
    rfl) ha
  simpa using this
theorem ef_listL {oa : Option (List α)} (ha : Ew B ns E (eL e) ma oa) : EF B ns E e (primF fList (acons ma anil)) oa := by
  have := ef_w1 (f := e) (fn := fList) (p := fun x => some x) (fun B S w x y hw h => by
    cases h
    show seqW S w = _
    rw [hw.seqL, map_emap]) ha
  simpa using this
theorem ef_listT {oa : Option (List α)} (ha : Ew B ns E (eT e) ma oa) : EF B ns E e (primF fList (acons ma anil)) oa := by
  have := ef_w1 (f := e) (fn := fList) (p := fun x => some x) (fun B S w x y hw h => by
    cases h
    show seqW S w = _
    rw [hw.seqT, map_emap]) ha
  simpa using this
/-! ### lists of ints -/
theorem intsW_emap (l : List Int) : intsW (l.map fun x => W.d (.int x)) = some l := by
  induction l with
  | nil => rfl
  | cons x r ih => show (intsW (r.map _)).bind _ = _; rw [ih]; rfl
theorem blsW_emap (l : List Bool) : blsW (l.map fun x => W.d (.bl x)) = some l := by
  induction l with
  | nil => rfl
  | cons x r ih => show (blsW (r.map _)).bind _ = _; rw [ih]; rfl
theorem fints_w {p : List Int → Option W} {S : Sto} {w : W} {l : List Int} (hw : Vw B S w (eL .int l)) : fInts p S [w] = p l := by
  show (listW S w).bind _ = _
  rw [hw.listL, Option.bind_some, map_emap, intsW_emap]
  rfl
theorem ed_sum {oa : Option (List Int)} (ha : Ew B ns E (eL .int) ma oa) : Ed B ns E .int (prim fSum (acons ma anil)) (oa.bind fun x => some x.sum) := ed_w1 (fun B S w x y hw h => by cases h; exact fints_w hw) ha
theorem ed_maxL {oa : Option (List Int)} (ha : Ew B ns E (eL .int) ma oa) : Ed B ns E .int (prim fMaxL (acons ma anil)) (oa.bind fun x => x.max?) := ed_w1 (fun B S w x y hw h => by rw [fMaxL, fints_w hw, h]; rfl) ha
theorem ed_minL {oa : Option (List Int)} (ha : Ew B ns E (eL .int) ma oa) : Ed B ns E .int (prim fMinL (acons ma anil)) (oa.bind fun x => x.min?) := ed_w1 (fun B S w x y hw h => by rw [fMinL, fints_w hw, h]; rfl) ha
theorem ed_maxLD {d : Int} {oa : Option (List Int)} (ha : Ew B ns E (eL .int) ma oa) : Ed B ns E .int (prim (fMaxLD d) (acons ma anil)) (oa.bind fun x => some (x.max?.getD d)) := ed_w1 (fun B S w x y hw h => by cases h; rw [fMaxLD, fints_w hw]) ha
theorem ef_sorted {oa : Option (List Int)} (ha : Ew B ns E (eL .int) ma oa) : EF B ns E .int (primF fSorted (acons ma anil)) (oa.bind fun x => some (sortI x)) := ef_w1 (fun B S w x y hw h => by
  cases h
  show (listW S w).bind _ = _
  rw [hw.listL, Option.bind_some, map_emap, intsW_emap]; rfl) ha
theorem ef_sortU {oa : Option (List Int)} (ha : Ew B ns E (eL .int) ma oa) : EF B ns E .int (primF fSortU (acons ma anil)) (oa.bind fun x => if x.length ≤ 4000 then some (sortU x) else none) := ef_w1 (fun B S w x y hw h => by
  obtain ⟨hc, rfl⟩ := ite_some h
  show (listW S w).bind _ = _
  rw [hw.listL, Option.bind_some, map_emap, intsW_emap, Option.bind_some, if_pos hc]) ha
theorem ed_all {oa : Option (List Bool)} (ha : Ew B ns E (eL .bl) ma oa) : Ed B ns E .bl (prim fAll (acons ma anil)) (oa.bind fun x => some (x.all id)) := ed_w1 (fun B S w x y hw h => by
  cases h
  show (listW S w).bind _ = _
  rw [hw.listL, Option.bind_some, map_emap, blsW_emap]; rfl) ha
theorem ed_any {oa : Option (List Bool)} (ha : Ew B ns E (eL .bl) ma oa) : Ed B ns E .bl (prim fAny (acons ma anil)) (oa.bind fun x => some (x.any id)) := ed_w1 (fun B S w x y hw h => by
  cases h
  show (listW S w).bind _ = _
  rw [hw.listL, Option.bind_some, map_emap, blsW_emap]; rfl) ha
/-- o.index(x), ints -/
theorem ed_index {oa : Option (List Int)} {ob : Option Int} (ha : Ew B ns E (eL .int) ma oa) (hb : Ed B ns E .int mb ob) : Ed B ns E .int (midx ma (acons mb anil)) (oa.bind fun x => ob.bind fun y => (idxI y x).bind fun j => some (j : Int)) := fun ρ S a z hz => by
  obtain ⟨x, rfl, h1⟩ := bind_some hz
  obtain ⟨y, rfl, k2⟩ := bind_some h1
  obtain ⟨j, hh2, k3⟩ := bind_some k2
  cases k3
  obtain ⟨w, q1, q2⟩ := ha ρ S a x rfl
  have hl := q2.listL
  rw [map_emap] at hl
  simp [q1, hl, hb ρ S a y rfl, intsW_emap, hh2]
/-! ### + of lists and tuples, * -/
def ocat (x y : List α) : Option (List α) := if x.length + y.length ≤ 1000000 then some (x ++ y) else none
theorem ed_catT {oa ob : Option (List α)} (ha : Ew B ns E (eT e) ma oa) (hb : Ew B ns E (eT e) mb ob) : Ed B ns E (eT e) (prim fAdd (acons ma (acons mb anil))) (oa.bind fun x => ob.bind fun y => ocat x y) := ed_w2 (fun B S w u x y z hw hu h => by
  obtain ⟨hc, rfl⟩ := ite_some h
  rw [hw.flat (nl_T x), hu.flat (nl_T y)]
  show (if (x.map e).length + (y.map e).length ≤ 1000000 then _ else _) = _
  rw [if_pos (by simpa using hc), ← List.map_append]
  rfl) ha hb
theorem add_ls {S : Sto} {w u : W} {a b : List D} (hw : Vw B S w (.lst a)) (hu : Vw B S u (.lst b)) : fAdd S [w, u] = (lsW S w).bind fun a => (lsW S u).bind fun b => if a.length + b.length ≤ 1000000 then (datas (a ++ b)).bind fun ds => some (.d (.lst ds)) else none := by
  rcases hw with rfl | ⟨k, ds, rfl, _⟩ <;> rcases hu with rfl | ⟨k', ds', rfl, _⟩ <;> rfl
theorem ed_catL {oa ob : Option (List α)} (ha : Ew B ns E (eL e) ma oa) (hb : Ew B ns E (eL e) mb ob) : Ed B ns E (eL e) (prim fAdd (acons ma (acons mb anil))) (oa.bind fun x => ob.bind fun y => ocat x y) := ed_w2 (fun B S w u x y z hw hu h => by
  obtain ⟨hc, rfl⟩ := ite_some h
  rw [add_ls hw hu, hw.lsL, hu.lsL, Option.bind_some, Option.bind_some, if_pos (by simpa using hc), ← List.map_append, datas_map']
  rw [← List.map_append]
  rfl) ha hb
theorem ef_cat {oa ob : Option (List α)} (ha : Ew B ns E (eL e) ma oa) (hb : Ew B ns E (eL e) mb ob) : EF B ns E e (primF fCat (acons ma (acons mb anil))) (oa.bind fun x => ob.bind fun y => ocat x y) := ef_w2 (fun B S w u x y z hw hu h => by
  obtain ⟨hc, rfl⟩ := ite_some h
  show (lsW S w).bind (fun a => (lsW S u).bind fun b => _) = _
  rw [hw.lsL, hu.lsL, Option.bind_some, Option.bind_some, if_pos (by simpa using hc), map_emap, map_emap, ← List.map_append]) ha hb
def orep (x : List α) (k : Int) : Option (List α) := if k.natAbs ≤ 2000000 ∧ x.length * k.toNat ≤ 1000000 then some (List.replicate k.toNat x).flatten else none
theorem rep_fmap {α β : Type} (h : α → β) (l : List α) : ∀ n : Nat, (List.replicate n (l.map h)).flatten = (List.replicate n l).flatten.map h
  | 0 => rfl
  | n + 1 => by rw [List.replicate_succ, List.replicate_succ, List.flatten_cons, List.flatten_cons, List.map_append, rep_fmap h l n]
theorem ef_rep {oa : Option (List α)} {ob : Option Int} (ha : Ew B ns E (eL e) ma oa) (hb : Ed B ns E .int mb ob) : EF B ns E e (primF fRep (acons ma (acons mb anil))) (oa.bind fun x => ob.bind fun y => orep x y) := fun ρ S a z hz => by
  obtain ⟨x, rfl, h1⟩ := bind_some hz
  obtain ⟨y, rfl, k2⟩ := bind_some h1
  obtain ⟨w, q1, q2⟩ := ha ρ S a x rfl
  obtain ⟨hc, rfl⟩ := ite_some k2
  have : fRep S [w, .d (.int y)] = some ((List.replicate y.toNat x).flatten.map fun z => W.d (e z)) := by
    show (lsW S w).bind _ = _
    rw [q2.lsL, Option.bind_some, if_pos (by simpa using hc), map_emap, rep_fmap]
  simp [q1, hb ρ S a y rfl, this]
theorem ed_repL {oa : Option (List α)} {ob : Option Int} (ha : Ew B ns E (eL e) ma oa) (hb : Ed B ns E .int mb ob) : Ed B ns E (eL e) (prim fMulX (acons ma (acons mb anil))) (oa.bind fun x => ob.bind fun y => orep x y) := fun ρ S a z hz => by
  obtain ⟨x, rfl, h1⟩ := bind_some hz
  obtain ⟨y, rfl, k2⟩ := bind_some h1
  obtain ⟨w, q1, q2⟩ := ha ρ S a x rfl
  obtain ⟨hc, rfl⟩ := ite_some k2
  have : fMulX S [w, .d (.int y)] = some (.d (eL e (List.replicate y.toNat x).flatten)) := by
    have : fMulX S [w, .d (.int y)] = (lsW S w).bind fun a => if y.natAbs ≤ 2000000 ∧ a.length * y.toNat ≤ 1000000 then (datas (List.replicate y.toNat a).flatten).bind fun ds => some (.d (.lst ds)) else none := by
      rcases q2 with rfl | ⟨k, ds, rfl, _⟩ <;> rfl
    rw [this, q2.lsL, Option.bind_some, if_pos (by simpa using hc), map_emap, rep_fmap, datas_emap]
    rfl
  simp [q1, hb ρ S a y rfl, this]
/-! ### equality -/
structure EqOk (n : Nat) (e : α → D) : Prop where
  sh : ∀ x, sh n (e x) = true
  inj : ∀ x y, eqD (e x) (e y) = true ↔ x = y
theorem sh_up : ∀ (n : Nat) (d : D), sh n d = true → sh (n + 1) d = true := by
  intro n
  induction n with
  | zero => intro d h; cases d <;> first | exact h | (cases h)
  | succ n ih =>
    intro d h
    cases d with
    | tup ds => exact List.all_eq_true.mpr fun x hx => ih x (List.all_eq_true.mp h x hx)
    | lst ds => exact List.all_eq_true.mpr fun x hx => ih x (List.all_eq_true.mp h x hx)
    | scr ds => exact List.all_eq_true.mpr fun x hx => ih x (List.all_eq_true.mp h x hx)
    | _ => exact h
theorem sh_le {n : Nat} {d : D} (h : sh n d = true) : ∀ {k : Nat}, n ≤ k → sh k d = true := fun {k} hk => by
  induction hk with
  | refl => exact h
  | step _ ih => exact sh_up _ _ ih
theorem eqok_int : EqOk 0 D.int := ⟨fun _ => rfl, fun x y => by simp [eqD, D.py, eqv_int]⟩
theorem eqok_bl : EqOk 0 D.bl := ⟨fun _ => rfl, fun x y => by cases x <;> cases y <;> simp [eqD, D.py, PyData.eqv]⟩
theorem eqAll_iff {e : α → D} (h : ∀ x y, eqD (e x) (e y) = true ↔ x = y) : ∀ a b : List α, PyData.eqvAll (D.pys (a.map e)) (D.pys (b.map e)) = true ↔ a = b
  | [], [] => by simp [D.pys, PyData.eqvAll]
  | [], y :: b => by simp [D.pys, PyData.eqvAll]
  | x :: a, [] => by simp [D.pys, PyData.eqvAll]
  | x :: a, y :: b => by
    rw [List.map_cons, List.map_cons, D.pys, D.pys, PyData.eqvAll, Bool.and_eq_true, eqAll_iff h a b, List.cons.injEq]
    exact and_congr_left' (h x y)
theorem eqok_T {n : Nat} (h : EqOk n e) : EqOk (n + 1) (eT e) := ⟨fun x => by
  show (x.map e).all _ = true
  rw [List.all_map]
  exact List.all_eq_true.mpr fun y _ => h.sh y, fun x y => by
  rw [← eqAll_iff h.inj x y]
  unfold eqD eT
  rw [D.py, D.py, PyData.eqv]⟩
theorem eqok_L {n : Nat} (h : EqOk n e) : EqOk (n + 1) (eL e) := ⟨fun x => by
  show (x.map e).all _ = true
  rw [List.all_map]
  exact List.all_eq_true.mpr fun y _ => h.sh y, fun x y => by
  rw [← eqAll_iff h.inj x y]
  unfold eqD eL
  rw [D.py, D.py, PyData.eqv]⟩
theorem eqok_P {n k : Nat} (h : EqOk n e) (h2 : EqOk k f) : EqOk (max n k + 1) (eP e f) := ⟨fun x => by
  show [e x.1, f x.2].all _ = true
  simp [sh_le (h.sh x.1) (Nat.le_max_left n k), sh_le (h2.sh x.2) (Nat.le_max_right n k)], fun x y => by
  have a1 := h.inj x.1 y.1
  have a2 := h2.inj x.2 y.2
  unfold eqD at a1 a2
  unfold eqD eP
  rw [D.py, D.py, PyData.eqv]
  simp only [D.pys, PyData.eqvAll, Bool.and_eq_true, a1, a2, and_true]
  exact ⟨fun ⟨h1, h2⟩ => Prod.ext h1 h2, fun h => by rw [h]; exact ⟨rfl, rfl⟩⟩⟩
theorem eqok_P3 {n k j : Nat} (h : EqOk n e) (h2 : EqOk k f) (h3 : EqOk j g) : EqOk (max n (max k j) + 1) (eP3 e f g) := ⟨fun x => by
  show [e x.1, f x.2.1, g x.2.2].all _ = true
  simp [sh_le (h.sh x.1) (Nat.le_max_left n (max k j)), sh_le (h2.sh x.2.1) (Nat.le_trans (Nat.le_max_left k j) (Nat.le_max_right n _)), sh_le (h3.sh x.2.2) (Nat.le_trans (Nat.le_max_right k j) (Nat.le_max_right n _))], fun x y => by
  have a1 := h.inj x.1 y.1
  have a2 := h2.inj x.2.1 y.2.1
  have a3 := h3.inj x.2.2 y.2.2
  unfold eqD at a1 a2 a3
  unfold eqD eP3
  rw [D.py, D.py, PyData.eqv]
  simp only [D.pys, PyData.eqvAll, Bool.and_eq_true, a1, a2, a3, and_true]
  exact ⟨fun ⟨h1, h2, h3⟩ => Prod.ext h1 (Prod.ext h2 h3), fun h => by rw [h]; exact ⟨rfl, rfl, rfl⟩⟩⟩
theorem eqok_O {n : Nat} (h : EqOk n e) (hn : ∀ x, eqD (e x) .non = false ∧ eqD .non (e x) = false) : EqOk n (eO e) := ⟨fun x => by
  cases x with
  | none => cases n <;> rfl
  | some x => exact h.sh x, fun x y => by
  cases x <;> cases y
  · simp [eO, eqD, D.py, PyData.eqv]
  · rename_i y; simp [eO, (hn y).2]
  · rename_i y; simp [eO, (hn y).1]
  · rename_i x y; simp [eO, h.inj x y]⟩
theorem nn_int (x : Int) : eqD (.int x) .non = false ∧ eqD .non (.int x) = false := by constructor <;> simp [eqD, D.py, PyData.eqv]
theorem nn_T (x : List α) : eqD (eT e x) .non = false ∧ eqD .non (eT e x) = false := by constructor <;> simp [eT, eqD, D.py, PyData.eqv]
theorem nn_P (x : α × β) : eqD (eP e f x) .non = false ∧ eqD .non (eP e f x) = false := by constructor <;> simp [eP, eqD, D.py, PyData.eqv]
theorem eqok_dec {n : Nat} [DecidableEq α] (h : EqOk n e) (x y : α) : eqD (e x) (e y) = decide (x = y) := by
  by_cases q : x = y
  · rw [decide_eq_true q]; exact (h.inj x y).mpr q
  · rw [decide_eq_false q]
    cases z : eqD (e x) (e y) with
    | true => exact absurd ((h.inj x y).mp z) q
    | false => rfl
theorem ed_eq {n : Nat} [DecidableEq α] {oa ob : Option α} (h : EqOk n e) (ha : Ew B ns E e ma oa) (hb : Ew B ns E e mb ob) (hn : n ≤ 40 := by decide) : Ed B ns E .bl (prim fEq (acons ma (acons mb anil))) (oa.bind fun x => ob.bind fun y => some (decide (x = y))) := ed_w2 (fun B S w u x y z hw hu hz => by
  cases hz
  show (view S w).bind (fun a => (view S u).bind fun b => _) = _
  rw [hw.view, hu.view, Option.bind_some, Option.bind_some, if_pos (by rw [sh_le (h.sh x) hn, sh_le (h.sh y) hn]; rfl), eqok_dec h]; rfl) ha hb
theorem ed_ne {n : Nat} [DecidableEq α] {oa ob : Option α} (h : EqOk n e) (ha : Ew B ns E e ma oa) (hb : Ew B ns E e mb ob) (hn : n ≤ 40 := by decide) : Ed B ns E .bl (prim fNe (acons ma (acons mb anil))) (oa.bind fun x => ob.bind fun y => some (!decide (x = y))) := ed_w2 (fun B S w u x y z hw hu hz => by
  cases hz
  show (view S w).bind (fun a => (view S u).bind fun b => _) = _
  rw [hw.view, hu.view, Option.bind_some, Option.bind_some, if_pos (by rw [sh_le (h.sh x) hn, sh_le (h.sh y) hn]; rfl), eqok_dec h]) ha hb
theorem inD_map {n : Nat} [DecidableEq α] (h : EqOk n e) (x : α) : ∀ l : List α, inD (e x) (l.map e) = decide (x ∈ l)
  | [] => rfl
  | y :: r => by
    show (eqD (e y) (e x) || inD (e x) (r.map e)) = _
    rw [inD_map h x r, eqok_dec h]
    by_cases q : y = x
    · subst q; simp
    · simp [q, Ne.symm q]
theorem ed_inL {n : Nat} [DecidableEq α] {oa : Option α} {ob : Option (List α)} (h : EqOk n e) (ha : Ew B ns E e ma oa) (hb : Ew B ns E (eL e) mb ob) (hn : n ≤ 39 := by decide) : Ed B ns E .bl (prim fIn (acons ma (acons mb anil))) (oa.bind fun x => ob.bind fun y => some (decide (x ∈ y))) := ed_w2 (fun B S w u x y z hw hu hz => by
  cases hz
  show (view S w).bind (fun a => (view S u).bind fun b => _) = _
  rw [hw.view, hu.view, Option.bind_some, Option.bind_some]
  show (if _ then _ else _) = _
  rw [if_pos (by
    rw [sh_le (h.sh x) (Nat.le_succ_of_le hn), Bool.true_and, List.all_map]
    exact List.all_eq_true.mpr fun z _ => sh_le (h.sh z) hn), inD_map h]
  rfl) ha hb
theorem ed_ninL {n : Nat} [DecidableEq α] {oa : Option α} {ob : Option (List α)} (h : EqOk n e) (ha : Ew B ns E e ma oa) (hb : Ew B ns E (eL e) mb ob) (hn : n ≤ 39 := by decide) : Ed B ns E .bl (prim fNotIn (acons ma (acons mb anil))) (oa.bind fun x => ob.bind fun y => some (!decide (x ∈ y))) := ed_w2 (fun B S w u x y z hw hu hz => by
  cases hz
  show (view S w).bind (fun a => (view S u).bind fun b => _) = _
  rw [hw.view, hu.view, Option.bind_some, Option.bind_some]
  show (if _ then _ else _) = _
  rw [if_pos (by
    rw [sh_le (h.sh x) (Nat.le_succ_of_le hn), Bool.true_and, List.all_map]
    exact List.all_eq_true.mpr fun z _ => sh_le (h.sh z) hn), inD_map h]) ha hb
theorem ed_inT {n : Nat} [DecidableEq α] {oa : Option α} {ob : Option (List α)} (h : EqOk n e) (hf : ∀ x, flatD (e x) = true) (ha : Ew B ns E e ma oa) (hb : Ew B ns E (eT e) mb ob) : Ed B ns E .bl (prim fIn (acons ma (acons mb anil))) (oa.bind fun x => ob.bind fun y => some (decide (x ∈ y))) := ed_w2 (fun B S w u x y z hw hu hz => by
  cases hz
  show (view S w).bind (fun a => (view S u).bind fun b => _) = _
  rw [hw.view, hu.view, Option.bind_some, Option.bind_some]
  show (if _ then _ else _) = _
  rw [if_pos (by
    rw [hf x, Bool.true_and, List.all_map]
    exact List.all_eq_true.mpr fun z _ => hf z), inD_map h]
  rfl) ha hb
theorem ed_ninT {n : Nat} [DecidableEq α] {oa : Option α} {ob : Option (List α)} (h : EqOk n e) (hf : ∀ x, flatD (e x) = true) (ha : Ew B ns E e ma oa) (hb : Ew B ns E (eT e) mb ob) : Ed B ns E .bl (prim fNotIn (acons ma (acons mb anil))) (oa.bind fun x => ob.bind fun y => some (!decide (x ∈ y))) := ed_w2 (fun B S w u x y z hw hu hz => by
  cases hz
  show (view S w).bind (fun a => (view S u).bind fun b => _) = _
  rw [hw.view, hu.view, Option.bind_some, Option.bind_some]
  show (if _ then _ else _) = _
  rw [if_pos (by
    rw [hf x, Bool.true_and, List.all_map]
    exact List.all_eq_true.mpr fun z _ => hf z), inD_map h]) ha hb
/-! ### None -/
theorem ed_isN {oa : Option (Option α)} (hn : ∀ x, e x ≠ .non) (ha : Ed B ns E (eO e) ma oa) : Ed B ns E .bl (prim fIsN (acons ma (acons (mk .non) anil))) (oa.bind fun x => some x.isNone) := fun ρ S a z hz => by
  obtain ⟨x, rfl, h1⟩ := bind_some hz
  cases h1
  cases x with
  | none => simp [ha ρ S a none rfl, fIsN, eO]
  | some x => simp [ha ρ S a (some x) rfl, fIsN, eO, hn x]
theorem ed_notN {oa : Option (Option α)} (hn : ∀ x, e x ≠ .non) (ha : Ed B ns E (eO e) ma oa) : Ed B ns E .bl (prim fNotN (acons ma (acons (mk .non) anil))) (oa.bind fun x => some x.isSome) := fun ρ S a z hz => by
  obtain ⟨x, rfl, h1⟩ := bind_some hz
  cases h1
  cases x with
  | none => simp [ha ρ S a none rfl, fNotN, eO]
  | some x => simp [ha ρ S a (some x) rfl, fNotN, eO, hn x]
theorem no_int (x : Int) : D.int x ≠ .non := fun h => nomatch h
theorem no_T (x : List α) : eT e x ≠ .non := fun h => nomatch h
theorem no_P (x : α × β) : eP e f x ≠ .non := fun h => nomatch h
theorem no_P3 (x : α × β × γ) : eP3 e f g x ≠ .non := fun h => nomatch h
/-! ### tests -/
theorem et_val {o : Option Bool} (h : Ed B ns E .bl m o) : Et B ns E (tst m) o := fun ρ S a b hb => by simp [h ρ S a b hb]
variable {ta tb : Tm} {oa ob : Option Bool}
theorem et_and (ha : Et B ns E ta oa) (hb : Et B ns E tb ob) : Et B ns E (tand ta tb) (oa.bind fun x => if x = true then ob else some false) := fun ρ S a r hr => by
  obtain ⟨x, rfl, h1⟩ := bind_some hr
  cases x with
  | true => simp [ha ρ S a true rfl]; exact hb ρ S a r h1
  | false => cases h1; simp [ha ρ S a false rfl]
theorem et_or (ha : Et B ns E ta oa) (hb : Et B ns E tb ob) : Et B ns E (tor ta tb) (oa.bind fun x => if x = true then some true else ob) := fun ρ S a r hr => by
  obtain ⟨x, rfl, h1⟩ := bind_some hr
  cases x with
  | true => cases h1; simp [ha ρ S a true rfl]
  | false => simp [ha ρ S a false rfl]; exact hb ρ S a r h1
theorem et_not (ha : Et B ns E ta oa) : Et B ns E (tnot ta) (oa.bind fun x => some (!x)) := fun ρ S a r hr => by
  obtain ⟨x, rfl, h1⟩ := bind_some hr
  cases h1
  simp [ha ρ S a x rfl]
theorem et_andT {x y : Bool} (ha : Et B ns E ta (some x)) (hb : Et B ns E tb (some y)) : Et B ns E (tand ta tb) (some (x && y)) := by
  have := et_and ha hb
  cases x <;> exact this
theorem et_orT {x y : Bool} (ha : Et B ns E ta (some x)) (hb : Et B ns E tb (some y)) : Et B ns E (tor ta tb) (some (x || y)) := by
  have := et_or ha hb
  cases x <;> exact this
theorem et_yes : Et B ns E tyes (some true) := fun ρ S a r hr => by cases hr; rfl
theorem ed_mand (ha : Ed B ns E .bl ma oa) (hb : Ed B ns E .bl mb ob) : Ed B ns E .bl (mand ma mb) (oa.bind fun x => if x = true then ob else some false) := fun ρ S a r hr => by
  obtain ⟨x, rfl, h1⟩ := bind_some hr
  cases x with
  | true => simp [ha ρ S a true rfl]; exact hb ρ S a r h1
  | false => cases h1; simp [ha ρ S a false rfl]
theorem ed_mor (ha : Ed B ns E .bl ma oa) (hb : Ed B ns E .bl mb ob) : Ed B ns E .bl (mor ma mb) (oa.bind fun x => if x = true then some true else ob) := fun ρ S a r hr => by
  obtain ⟨x, rfl, h1⟩ := bind_some hr
  cases x with
  | true => cases h1; simp [ha ρ S a true rfl]
  | false => simp [ha ρ S a false rfl]; exact hb ρ S a r h1
theorem ed_mnot (ha : Ed B ns E .bl ma oa) : Ed B ns E .bl (mnot ma) (oa.bind fun x => some (!x)) := fun ρ S a r hr => by
  obtain ⟨x, rfl, h1⟩ := bind_some hr
  cases h1
  simp [ha ρ S a x rfl]
theorem ed_mandT {x y : Bool} (ha : Ed B ns E .bl ma (some x)) (hb : Ed B ns E .bl mb (some y)) : Ed B ns E .bl (mand ma mb) (some (x && y)) := by
  have := ed_mand ha hb
  cases x <;> exact this
theorem ed_morT {x y : Bool} (ha : Ed B ns E .bl ma (some x)) (hb : Ed B ns E .bl mb (some y)) : Ed B ns E .bl (mor ma mb) (some (x || y)) := by
  have := ed_mor ha hb
  cases x <;> exact this
theorem ed_if {oc : Option Bool} {oa ob : Option α} (hc : Et B ns E ta oc) (ha : Ed B ns E e ma oa) (hb : Ed B ns E e mb ob) : Ed B ns E e (mif ta ma mb) (oc.bind fun c => if c = true then oa else ob) := fun ρ S a r hr => by
  obtain ⟨x, rfl, h1⟩ := bind_some hr
  cases x with
  | true => simp [hc ρ S a true rfl]; exact ha ρ S a r h1
  | false => simp [hc ρ S a false rfl]; exact hb ρ S a r h1
theorem ed_ifT {c : Bool} {x y : α} (hc : Et B ns E ta (some c)) (ha : Ed B ns E e ma (some x)) (hb : Ed B ns E e mb (some y)) : Ed B ns E e (mif ta ma mb) (some (if c = true then x else y)) := by
  have := ed_if hc ha hb
  cases c <;> exact this
theorem ew_if {oc : Option Bool} {oa ob : Option α} (hc : Et B ns E ta oc) (ha : Ew B ns E e ma oa) (hb : Ew B ns E e mb ob) : Ew B ns E e (mif ta ma mb) (oc.bind fun c => if c = true then oa else ob) := fun ρ S a r hr => by
  obtain ⟨x, rfl, h1⟩ := bind_some hr
  cases x with
  | true =>
    obtain ⟨w, q1, q2⟩ := ha ρ S a r h1
    exact ⟨w, by simp [hc ρ S a true rfl, q1], q2⟩
  | false =>
    obtain ⟨w, q1, q2⟩ := hb ρ S a r h1
    exact ⟨w, by simp [hc ρ S a false rfl, q1], q2⟩
/-! ### displays -/
end
section
variable {α β γ δ : Type} {B : Bs} {ns : List Int} {E : List (Option En)} {e : α → D} {f : β → D} {g : γ → D} {h : δ → D} {m ma mb mc md : Em} {am : Am}
def EL (B : Bs) (ns : List Int) (E : List (Option En)) (e : α → D) (n : Nat) (m : Am) (o : Option (List α)) : Prop := ∀ ρ S, Ag B ns E ρ S → ∀ l, o = some l → m ρ S = some (l.map fun x => W.d (e x), S) ∧ l.length = n
theorem el_nil : EL B ns E e 0 anil (some []) := fun ρ S a l hl => by cases hl; exact ⟨rfl, rfl⟩
theorem el_cons {n : Nat} {oa : Option α} {ol : Option (List α)} (ha : Ed B ns E e ma oa) (hl : EL B ns E e n am ol) : EL B ns E e (n + 1) (acons ma am) (oa.bind fun x => ol.bind fun l => some (x :: l)) := fun ρ S a r hr => by
  obtain ⟨x, rfl, h1⟩ := bind_some hr
  obtain ⟨l, rfl, k2⟩ := bind_some h1
  cases k2
  obtain ⟨q1, q2⟩ := hl ρ S a l rfl
  exact ⟨by simp [ha ρ S a x rfl, q1], by simp [q2]⟩
theorem ed_dT {n : Nat} {o : Option (List α)} (h : EL B ns E e n am o) (hn : n ≤ 1000000 := by decide) : Ed B ns E (eT e) (prim fTup am) o := fun ρ S a l hl => by
  obtain ⟨q1, q2⟩ := h ρ S a l hl
  have : fTup S (l.map fun x => W.d (e x)) = some (.d (eT e l)) := tup_ok' (by rw [List.length_map, q2]; exact hn) (datas_emap l e)
  simp [q1, this]
theorem ef_dL {n : Nat} {o : Option (List α)} (h : EL B ns E e n am o) (hn : n ≤ 1000000 := by decide) : EF B ns E e (primF fLst am) o := fun ρ S a l hl => by
  obtain ⟨q1, q2⟩ := h ρ S a l hl
  have : fLst S (l.map fun x => W.d (e x)) = some (l.map fun x => W.d (e x)) := if_pos (by rw [List.length_map, q2]; exact hn)
  simp [q1, this]
theorem ed_dP {oa : Option α} {ob : Option β} (ha : Ed B ns E e ma oa) (hb : Ed B ns E f mb ob) : Ed B ns E (eP e f) (prim fTup (acons ma (acons mb anil))) (oa.bind fun x => ob.bind fun y => some (x, y)) := fun ρ S a r hr => by
  obtain ⟨x, rfl, h1⟩ := bind_some hr
  obtain ⟨y, rfl, k2⟩ := bind_some h1
  cases k2
  simp [ha ρ S a x rfl, hb ρ S a y rfl]
  rfl
theorem ed_dP3 {oa : Option α} {ob : Option β} {oc : Option γ} (ha : Ed B ns E e ma oa) (hb : Ed B ns E f mb ob) (hc : Ed B ns E g mc oc) : Ed B ns E (eP3 e f g) (prim fTup (acons ma (acons mb (acons mc anil)))) (oa.bind fun x => ob.bind fun y => oc.bind fun z => some (x, y, z)) := fun ρ S a r hr => by
  obtain ⟨x, rfl, h1⟩ := bind_some hr
  obtain ⟨y, rfl, k2⟩ := bind_some h1
  obtain ⟨z, rfl, k3⟩ := bind_some k2
  cases k3
  simp [ha ρ S a x rfl, hb ρ S a y rfl, hc ρ S a z rfl]
  rfl
theorem ed_dP4 {oa : Option α} {ob : Option β} {oc : Option γ} {od : Option δ} (ha : Ed B ns E e ma oa) (hb : Ed B ns E f mb ob) (hc : Ed B ns E g mc oc) (hd : Ed B ns E h md od) : Ed B ns E (eP4 e f g h) (prim fTup (acons ma (acons mb (acons mc (acons md anil))))) (oa.bind fun x => ob.bind fun y => oc.bind fun z => od.bind fun u => some (x, y, z, u)) := fun ρ S a r hr => by
  obtain ⟨x, rfl, h1⟩ := bind_some hr
  obtain ⟨y, rfl, k2⟩ := bind_some h1
  obtain ⟨z, rfl, k3⟩ := bind_some k2
  obtain ⟨u, rfl, k4⟩ := bind_some k3
  cases k4
  simp [ha ρ S a x rfl, hb ρ S a y rfl, hc ρ S a z rfl, hd ρ S a u rfl]
  rfl
/-! ranges as lists and tuples -/
def irange (a b : Int) : List Int := (List.range (b - a).toNat).map fun (i : Nat) => a + (i : Int)
def olrg (a b : Int) : Option (List Int) := if rgC a b = true then some (irange a b) else none
def Ep (B : Bs) (ns : List Int) (E : List (Option En)) (m : Pm) (o : Option (Int × Int)) : Prop := ∀ ρ S, Ag B ns E ρ S → ∀ p, o = some p → m ρ S = some (p, S)
theorem ep_1 {o : Option Int} (h : Ed B ns E .int m o) : Ep B ns E (prg1 m) (o.bind fun x => some (0, x)) := fun ρ S a r hr => by
  obtain ⟨x, rfl, h1⟩ := bind_some hr
  cases h1
  simp [h ρ S a x rfl]
theorem ep_2 {oa ob : Option Int} (ha : Ed B ns E .int ma oa) (hb : Ed B ns E .int mb ob) : Ep B ns E (prg2 ma mb) (oa.bind fun x => ob.bind fun y => some (x, y)) := fun ρ S a r hr => by
  obtain ⟨x, rfl, h1⟩ := bind_some hr
  obtain ⟨y, rfl, k2⟩ := bind_some h1
  cases k2
  simp [ha ρ S a x rfl, hb ρ S a y rfl]
theorem ef_lrg {pm : Pm} {o : Option (Int × Int)} (h : Ep B ns E pm o) : EF B ns E .int (mlrg pm) (o.bind fun p => olrg p.1 p.2) := fun ρ S a r hr => by
  obtain ⟨x, rfl, h1⟩ := bind_some hr
  obtain ⟨hc, rfl⟩ := ite_some h1
  simp only [mlrg_ap, h ρ S a x rfl, Option.bind_some, hc, if_true]
  unfold rngW irange
  rw [List.map_map]
  rfl
theorem ed_trg {pm : Pm} {o : Option (Int × Int)} (h : Ep B ns E pm o) : Ed B ns E (eT .int) (mtrg pm) (o.bind fun p => olrg p.1 p.2) := fun ρ S a r hr => by
  obtain ⟨x, rfl, h1⟩ := bind_some hr
  obtain ⟨hc, rfl⟩ := ite_some h1
  simp only [mtrg_ap, h ρ S a x rfl, Option.bind_some, hc, if_true]
  unfold irange eT
  rw [List.map_map]
  rfl
end
section
variable {α β γ δ : Type} {e : α → D} {f : β → D} {g : γ → D} {h : δ → D}
theorem ixP_0 (x : α × β) (S : Sto) : fIx S [.d (eP e f x), .d (.int 0)] = some (.d (e x.1)) := ix_tup (ds := [e x.1, f x.2]) (n := 0) rfl
theorem ixP_1 (x : α × β) (S : Sto) : fIx S [.d (eP e f x), .d (.int 1)] = some (.d (f x.2)) := ix_tup (ds := [e x.1, f x.2]) (n := 1) rfl
theorem ixP3_0 (x : α × β × γ) (S : Sto) : fIx S [.d (eP3 e f g x), .d (.int 0)] = some (.d (e x.1)) := ix_tup (ds := [e x.1, f x.2.1, g x.2.2]) (n := 0) rfl
theorem ixP3_1 (x : α × β × γ) (S : Sto) : fIx S [.d (eP3 e f g x), .d (.int 1)] = some (.d (f x.2.1)) := ix_tup (ds := [e x.1, f x.2.1, g x.2.2]) (n := 1) rfl
theorem ixP3_2 (x : α × β × γ) (S : Sto) : fIx S [.d (eP3 e f g x), .d (.int 2)] = some (.d (g x.2.2)) := ix_tup (ds := [e x.1, f x.2.1, g x.2.2]) (n := 2) rfl
theorem ixP4_0 (x : α × β × γ × δ) (S : Sto) : fIx S [.d (eP4 e f g h x), .d (.int 0)] = some (.d (e x.1)) := ix_tup (ds := [e x.1, f x.2.1, g x.2.2.1, h x.2.2.2]) (n := 0) rfl
theorem ixP4_1 (x : α × β × γ × δ) (S : Sto) : fIx S [.d (eP4 e f g h x), .d (.int 1)] = some (.d (f x.2.1)) := ix_tup (ds := [e x.1, f x.2.1, g x.2.2.1, h x.2.2.2]) (n := 1) rfl
theorem ixP4_2 (x : α × β × γ × δ) (S : Sto) : fIx S [.d (eP4 e f g h x), .d (.int 2)] = some (.d (g x.2.2.1)) := ix_tup (ds := [e x.1, f x.2.1, g x.2.2.1, h x.2.2.2]) (n := 2) rfl
theorem ixP4_3 (x : α × β × γ × δ) (S : Sto) : fIx S [.d (eP4 e f g h x), .d (.int 3)] = some (.d (h x.2.2.2)) := ix_tup (ds := [e x.1, f x.2.1, g x.2.2.1, h x.2.2.2]) (n := 3) rfl
end
end GM

set_option Elab.async false
set_option linter.all false
set_option maxRecDepth 100000
set_option maxHeartbeats 4000000
set_option autoImplicit false
namespace GM
open PySem L2
/-! ### slots that change -/
section
variable {B : Bs} {ns ns' : List Int} {E E' : List (Option En)} {ρ : Rho} {S S' : Sto}
theorem set_cases {α : Type} {l : List α} {i j : Nat} {x y : α} (h : (l.set i x)[j]? = some y) : (i = j ∧ i < l.length ∧ x = y) ∨ (i ≠ j ∧ l[j]? = some y) := by
  by_cases hij : i = j
  · subst hij
    by_cases hl : i < l.length
    · rw [List.getElem?_set_self hl] at h
      cases h
      exact .inl ⟨rfl, hl, rfl⟩
    · rw [List.getElem?_eq_none (by simpa using hl)] at h
      cases h
  · rw [List.getElem?_set_ne hij] at h
    exact .inr ⟨hij, h⟩
theorem Ag.setv (a : Ag B ns E ρ S) (i : Nat) (d : D) : Ag B ns (E.set i (some (.v d))) (ρ.set i (some (.d d))) S := by
  obtain ⟨κ, h1, h2⟩ := a.own
  refine ⟨by rw [List.length_set, List.length_set]; exact a.len, a.pre, fun j d' h => ?_, fun j d' h => ?_, fun j w h => ?_, κ, fun j ds h => ?_, fun j k ds ds' h h' e => ?_⟩
  · rcases set_cases h with ⟨rfl, hl, e⟩ | ⟨hij, h⟩
    · cases e
      exact List.getElem?_set_self (by rw [a.len]; exact hl)
    · rw [List.getElem?_set_ne hij]; exact a.dat j d' h
  · rcases set_cases h with ⟨rfl, hl, e⟩ | ⟨hij, h⟩
    · cases e
    · obtain ⟨w, q1, q2⟩ := a.val j d' h
      exact ⟨w, by rw [List.getElem?_set_ne hij]; exact q1, q2⟩
  · rcases set_cases h with ⟨rfl, hl, e⟩ | ⟨hij, h⟩
    · cases e
    · rw [List.getElem?_set_ne hij]; exact a.wrd j w h
  · rcases set_cases h with ⟨rfl, hl, e⟩ | ⟨hij, h⟩
    · cases e
    · rw [List.getElem?_set_ne hij]; exact h1 j ds h
  · rcases set_cases h with ⟨rfl, hl, e'⟩ | ⟨hij, h⟩
    · cases e'
    · rcases set_cases h' with ⟨rfl, hl, e'⟩ | ⟨hij', h'⟩
      · cases e'
      · exact h2 j k ds ds' h h' e
theorem Ag.wipe (a : Ag B ns E ρ S) (i : Nat) : Ag B ns (E.set i none) (ρ.set i none) S := by
  obtain ⟨κ, h1, h2⟩ := a.own
  refine ⟨by rw [List.length_set, List.length_set]; exact a.len, a.pre, fun j d' h => ?_, fun j d' h => ?_, fun j w h => ?_, κ, fun j ds h => ?_, fun j k ds ds' h h' e => ?_⟩
  · rcases set_cases h with ⟨rfl, hl, e⟩ | ⟨hij, h⟩
    · cases e
    · rw [List.getElem?_set_ne hij]; exact a.dat j d' h
  · rcases set_cases h with ⟨rfl, hl, e⟩ | ⟨hij, h⟩
    · cases e
    · obtain ⟨w, q1, q2⟩ := a.val j d' h
      exact ⟨w, by rw [List.getElem?_set_ne hij]; exact q1, q2⟩
  · rcases set_cases h with ⟨rfl, hl, e⟩ | ⟨hij, h⟩
    · cases e
    · rw [List.getElem?_set_ne hij]; exact a.wrd j w h
  · rcases set_cases h with ⟨rfl, hl, e⟩ | ⟨hij, h⟩
    · cases e
    · rw [List.getElem?_set_ne hij]; exact h1 j ds h
  · rcases set_cases h with ⟨rfl, hl, e'⟩ | ⟨hij, h⟩
    · cases e'
    · rcases set_cases h' with ⟨rfl, hl, e'⟩ | ⟨hij', h'⟩
      · cases e'
      · exact h2 j k ds ds' h h' e
/-- a list of the def's own, new -/
theorem Ag.seto (a : Ag B ns E ρ S) (i : Nat) (ds : List D) : Ag B ns (E.set i (some (.own ds))) (ρ.set i (some (.ref S.length))) (S ++ [.lst (ds.map W.d)]) := by
  obtain ⟨κ, h1, h2⟩ := a.own
  have hb : (B.f ns).length ≤ S.length := by
    obtain ⟨X, rfl⟩ := a.pre
    simp
  have lt : ∀ (j : Nat) (ds : List D), E[j]? = some (some (.own ds)) → κ j < S.length := fun j ds h => (List.getElem?_eq_some_iff.mp (h1 j ds h).2.2).1
  refine ⟨by rw [List.length_set, List.length_set]; exact a.len, ?_, fun j d' h => ?_, fun j d' h => ?_, fun j w h => ?_, fun j => if j = i then S.length else κ j, fun j ds' h => ?_, fun j k ds1 ds2 h h' e => ?_⟩
  · obtain ⟨X, rfl⟩ := a.pre
    exact ⟨X ++ [.lst (ds.map W.d)], by rw [List.append_assoc]⟩
  · rcases set_cases h with ⟨rfl, hl, e⟩ | ⟨hij, h⟩
    · cases e
    · rw [List.getElem?_set_ne hij]; exact a.dat j d' h
  · rcases set_cases h with ⟨rfl, hl, e⟩ | ⟨hij, h⟩
    · cases e
    · obtain ⟨w, q1, q2⟩ := a.val j d' h
      exact ⟨w, by rw [List.getElem?_set_ne hij]; exact q1, q2⟩
  · rcases set_cases h with ⟨rfl, hl, e⟩ | ⟨hij, h⟩
    · cases e
    · rw [List.getElem?_set_ne hij]; exact a.wrd j w h
  · rcases set_cases h with ⟨rfl, hl, e⟩ | ⟨hij, h⟩
    · cases e
      dsimp only
      rw [if_pos rfl]
      exact ⟨List.getElem?_set_self (by rw [a.len]; exact hl), hb, by simp⟩
    · obtain ⟨q1, q2, q3⟩ := h1 j ds' h
      dsimp only
      rw [if_neg (Ne.symm hij), List.getElem?_set_ne hij]
      exact ⟨q1, q2, by rw [List.getElem?_append_left (lt j ds' h)]; exact q3⟩
  · dsimp only at e
    rcases set_cases h with ⟨rfl, hl, e'⟩ | ⟨hij, h⟩
    · rcases set_cases h' with ⟨rfl, hl', e2⟩ | ⟨hij', h'⟩
      · rfl
      · rw [if_pos rfl, if_neg (Ne.symm hij')] at e
        have := lt k ds2 h'
        omega
    · rcases set_cases h' with ⟨rfl, hl', e2⟩ | ⟨hij', h'⟩
      · rw [if_pos rfl, if_neg (Ne.symm hij)] at e
        have := lt j ds1 h
        omega
      · rw [if_neg (Ne.symm hij), if_neg (Ne.symm hij')] at e
        exact h2 j k ds1 ds2 h h' e
/-- the contents of a list of the def's own are changed -/
theorem Ag.puto (a : Ag B ns E ρ S) {i : Nat} {ds : List D} (h : E[i]? = some (some (.own ds))) (ds' : List D) : ∃ k, ρ[i]? = some (some (.ref k)) ∧ S[k]? = some (.lst (ds.map W.d)) ∧ (B.f ns).length ≤ k ∧ Ag B ns (E.set i (some (.own ds'))) ρ (S.set k (.lst (ds'.map W.d))) := by
  obtain ⟨κ, h1, h2⟩ := a.own
  obtain ⟨p1, p2, p3⟩ := h1 i ds h
  have hi := (List.getElem?_eq_some_iff.mp h).1
  have hk := (List.getElem?_eq_some_iff.mp p3).1
  refine ⟨κ i, p1, p3, p2, by rw [List.length_set]; exact a.len, ?_, fun j d' h' => ?_, fun j d' h' => ?_, fun j w h' => ?_, κ, fun j ds2 h' => ?_, fun j k ds1 ds2 h' h'' e => ?_⟩
  · obtain ⟨X, rfl⟩ := a.pre
    exact ⟨X.set (κ i - (B.f ns).length) (.lst (ds'.map W.d)), by rw [List.set_append_right _ _ p2]⟩
  · rcases set_cases h' with ⟨rfl, hl, e⟩ | ⟨hij, h'⟩
    · cases e
    · exact a.dat j d' h'
  · rcases set_cases h' with ⟨rfl, hl, e⟩ | ⟨hij, h'⟩
    · cases e
    · exact a.val j d' h'
  · rcases set_cases h' with ⟨rfl, hl, e⟩ | ⟨hij, h'⟩
    · cases e
    · exact a.wrd j w h'
  · rcases set_cases h' with ⟨rfl, hl, e⟩ | ⟨hij, h'⟩
    · cases e
      exact ⟨p1, p2, List.getElem?_set_self hk⟩
    · obtain ⟨q1, q2, q3⟩ := h1 j ds2 h'
      refine ⟨q1, q2, ?_⟩
      rw [List.getElem?_set_ne fun e => hij (h2 i j ds ds2 h h' e)]
      exact q3
  · have un : ∀ (j : Nat) (ds1 : List D), (E.set i (some (.own ds')))[j]? = some (some (.own ds1)) → ∃ ds2, E[j]? = some (some (.own ds2)) := fun j ds1 h' => by
      rcases set_cases h' with ⟨rfl, hl, e⟩ | ⟨hij, h'⟩
      · exact ⟨ds, h⟩
      · exact ⟨ds1, h'⟩
    obtain ⟨_, a1⟩ := un j ds1 h'
    obtain ⟨_, a2⟩ := un k ds2 h''
    exact h2 j k _ _ a1 a2 e
/-- a list of the def's own goes to another slot -/
theorem Ag.move (a : Ag B ns E ρ S) {i j : Nat} {ds : List D} (h : E[j]? = some (some (.own ds))) : ∃ w, ρ[j]? = some (some w) ∧ Ag B ns ((E.set j none).set i (some (.own ds))) (ρ.set i (some w)) S := by
  obtain ⟨κ, h1, h2⟩ := a.own
  obtain ⟨p1, p2, p3⟩ := h1 j ds h
  refine ⟨_, p1, by rw [List.length_set, List.length_set, List.length_set]; exact a.len, a.pre, fun k d' h' => ?_, fun k d' h' => ?_, fun k w h' => ?_, fun k => if k = i then κ j else κ k, fun k ds2 h' => ?_, fun k l ds1 ds2 h' h'' e => ?_⟩
  · rcases set_cases h' with ⟨rfl, hl, e⟩ | ⟨hij, h'⟩
    · cases e
    · rcases set_cases h' with ⟨rfl, hl, e⟩ | ⟨hij', h'⟩
      · cases e
      · rw [List.getElem?_set_ne hij]; exact a.dat k d' h'
  · rcases set_cases h' with ⟨rfl, hl, e⟩ | ⟨hij, h'⟩
    · cases e
    · rcases set_cases h' with ⟨rfl, hl, e⟩ | ⟨hij', h'⟩
      · cases e
      · rw [List.getElem?_set_ne hij]; exact a.val k d' h'
  · rcases set_cases h' with ⟨rfl, hl, e⟩ | ⟨hij, h'⟩
    · cases e
    · rcases set_cases h' with ⟨rfl, hl, e⟩ | ⟨hij', h'⟩
      · cases e
      · rw [List.getElem?_set_ne hij]; exact a.wrd k w h'
  · rcases set_cases h' with ⟨rfl, hl, e⟩ | ⟨hij, h'⟩
    · cases e
      dsimp only
      rw [if_pos rfl]
      exact ⟨List.getElem?_set_self (by rw [a.len]; simpa using hl), p2, p3⟩
    · rcases set_cases h' with ⟨rfl, hl, e⟩ | ⟨hij', h'⟩
      · cases e
      · dsimp only
        rw [if_neg (Ne.symm hij), List.getElem?_set_ne hij]; exact h1 k ds2 h'
  · dsimp only at e
    have un : ∀ (m : Nat) (ds1 : List D), ((E.set j none).set i (some (.own ds)))[m]? = some (some (.own ds1)) → m = i ∨ (m ≠ i ∧ m ≠ j ∧ E[m]? = some (some (.own ds1))) := fun m ds1 h' => by
      rcases set_cases h' with ⟨rfl, hl, e⟩ | ⟨hij, h'⟩
      · exact .inl rfl
      · rcases set_cases h' with ⟨rfl, hl, e⟩ | ⟨hij', h'⟩
        · cases e
        · exact .inr ⟨Ne.symm hij, Ne.symm hij', h'⟩
    rcases un k ds1 h' with rfl | ⟨a1, a2, a3⟩ <;> rcases un l ds2 h'' with rfl | ⟨b1, b2, b3⟩
    · rfl
    · rw [if_pos rfl, if_neg b1] at e
      exact absurd (h2 _ _ _ _ h b3 e) (Ne.symm b2)
    · rw [if_pos rfl, if_neg a1] at e
      exact absurd (h2 _ _ _ _ a3 h e) a2
    · rw [if_neg a1, if_neg b1] at e
      exact h2 k l _ _ a3 b3 e
/-- less is known -/
inductive LeE : List (Option En) → List (Option En) → Prop
  | nil : LeE [] []
  | no {x : Option En} {a b : List (Option En)} : LeE a b → LeE (none :: a) (x :: b)
  | yes {x : Option En} {a b : List (Option En)} : LeE a b → LeE (x :: a) (x :: b)
theorem LeE.get : ∀ {a b : List (Option En)}, LeE a b → ∀ {i : Nat} {x : En}, a[i]? = some (some x) → b[i]? = some (some x)
  | _, _, .nil, i, x, h => by simp at h
  | _, _,   .no t, 0, x, h => by simp at h
  | _, _,   .no t, i + 1, x, h => by simpa using t.get (by simpa using h)
  | _, _,   .yes t, 0, x, h => by simpa using h
  | _, _,   .yes t, i + 1, x, h => by simpa using t.get (by simpa using h)
theorem LeE.length : ∀ {a b : List (Option En)}, LeE a b → a.length = b.length
  | _, _, .nil => rfl
  | _, _,   .no t => by simp [t.length]
  | _, _,   .yes t => by simp [t.length]
theorem Ag.le (a : Ag B ns E ρ S) (h : LeE E' E) : Ag B ns E' ρ S := by
  obtain ⟨κ, h1, h2⟩ := a.own
  exact ⟨by rw [a.len, h.length], a.pre, fun j d q => a.dat j d (h.get q), fun j d q => a.val j d (h.get q), fun j w q => a.wrd j w (h.get q), κ, fun j ds q => h1 j ds (h.get q), fun j k ds ds' q q' e => h2 j k ds ds' (h.get q) (h.get q') e⟩
/-! ### targets -/
def Tg (B : Bs) (d : D) (g : Gm) (E E' : List (Option En)) (T : List Nat) : Prop := ∀ ns ρ S, Ag B ns E ρ S → ∃ ρ', g S (.d d) ρ = some ρ' ∧ Ag B ns E' ρ' S ∧ ∀ i, i ∉ T → ρ'[i]? = ρ[i]?
def Tgs (B : Bs) (ds : List D) (g : Gsm) (E E' : List (Option En)) (T : List Nat) : Prop := ∀ ns ρ S, Ag B ns E ρ S → ∃ ρ', g S (ds.map W.d) ρ = some ρ' ∧ Ag B ns E' ρ' S ∧ ∀ i, i ∉ T → ρ'[i]? = ρ[i]?
theorem tg_nm {i : Nat} {d : D} : Tg B d (gnm i) E (E.set i (some (.v d))) [i] := fun ns ρ S a => ⟨_, rfl, a.setv i d, fun j h => List.getElem?_set_ne (fun e => h (by simp [e]))⟩
theorem tgs_nil : Tgs B [] gnil E E [] := fun ns ρ S a => ⟨ρ, rfl, a, fun _ _ => rfl⟩
theorem tgs_cons {d : D} {ds : List D} {g : Gm} {r : Gsm} {E1 E2 : List (Option En)} {T T' : List Nat} (h : Tg B d g E E1 T) (h' : Tgs B ds r E1 E2 T') : Tgs B (d :: ds) (gcons g r) E E2 (T ++ T') := fun ns ρ S a => by
  obtain ⟨ρ1, e1, a1, k1⟩ := h ns ρ S a
  obtain ⟨ρ2, e2, a2, k2⟩ := h' ns ρ1 S a1
  refine ⟨ρ2, ?_, a2, fun i hi => ?_⟩
  · show (g S (.d d) ρ).bind _ = _
    rw [e1]; exact e2
  · rw [k2 i fun z => hi (List.mem_append_right _ z), k1 i fun z => hi (List.mem_append_left _ z)]
theorem tg_tp {n : Nat} {ds : List D} {r : Gsm} {E1 : List (Option En)} {T : List Nat} (h : Tgs B ds r E E1 T) (hn : ds.length = n) : Tg B (.tup ds) (gtp n r) E E1 T := fun ns ρ S a => by
  obtain ⟨ρ1, e1, a1, k1⟩ := h ns ρ S a
  exact ⟨ρ1, by simp [hn, e1], a1, k1⟩
/-! ### what is walked -/
def Sr {α : Type} (B : Bs) (ns : List Int) (E : List (Option En)) (pp : List Nat) (mi : Im) (k : α → D) (o : Option (List α)) : Prop := ∀ ρ S, Ag B ns E ρ S → ∀ l, o = some l → ∃ src, mi ρ S = some (src, S) ∧ srcLen src S = l.length ∧
  ∀ ns' E' ρ' S', Ag B ns' E' ρ' S' → (∀ i, i ∈ pp → ρ'[i]? = ρ[i]? ∧ E'[i]? = E[i]?) → ∀ i : Nat, srcAt src S' i = some ((l.map fun x => W.d (k x))[i]?)
/-- .. while nothing changes -/
def S0 {α : Type} (B : Bs) (ns : List Int) (E : List (Option En)) (mi : Im) (k : α → D) (o : Option (List α)) : Prop := ∀ ρ S, Ag B ns E ρ S → ∀ l, o = some l → ∃ src, mi ρ S = some (src, S) ∧ srcLen src S = l.length ∧ ∀ i : Nat, srcAt src S i = some ((l.map fun x => W.d (k x))[i]?)
section
variable {α : Type} {e k : α → D} {m : Em} {o : Option (List α)}
theorem Sr.s0 {pp : List Nat} {mi : Im} (h : Sr B ns E pp mi k o) : S0 B ns E mi k o := fun ρ S a l hl => by
  obtain ⟨src, h1, h2, h3⟩ := h ρ S a l hl
  exact ⟨src, h1, h2, h3 ns E ρ S a fun i _ => ⟨rfl, rfl⟩⟩
theorem s0_L (h : Ew B ns E (eL e) m o) : S0 B ns E (isrc srcA m) e o := fun ρ S a l hl => by
  obtain ⟨w, h1, h2⟩ := h ρ S a l hl
  have e1 := h2.seqL
  rw [map_emap] at e1
  rcases h2 with rfl | ⟨k, ds, rfl, e2, e3, _⟩
  · refine ⟨.its (l.map fun x => W.d (e x)), ?_, by simp, fun i => rfl⟩
    simp only [isrc_ap, h1, Option.bind_some]
    show ((some (Src.its ((l.map e).map W.d))).bind _) = _
    rw [map_emap]; rfl
  · cases e2
    have e4 := lstOf_eq e3
    refine ⟨.cell k, ?_, ?_, fun i => ?_⟩
    · simp only [isrc_ap, h1, Option.bind_some]
      show (((lstOf S k).bind fun _ => some (Src.cell k)).bind _) = _
      rw [e4]; rfl
    · show ((lstOf S k).getD []).length = _
      rw [e4]; simp
    · show (lstOf S k).bind _ = _
      rw [e4, map_emap]; rfl
theorem sr_T (h : Ew B ns E (eT e) m o) : Sr B ns E [] (isrc srcA m) e o := fun ρ S a l hl => by
  have h1 := (h.ed nl_T) ρ S a l hl
  refine ⟨.its (l.map fun x => W.d (e x)), ?_, by simp, fun _ _ _ _ _ _ i => rfl⟩
  simp only [isrc_ap, h1, Option.bind_some]
  show ((some (Src.its ((l.map e).map W.d))).bind _) = _
  rw [map_emap]; rfl
theorem sr_D (h : Ed B ns E (eL e) m o) : Sr B ns E [] (isrc srcA m) e o := fun ρ S a l hl => by
  have h1 := h ρ S a l hl
  refine ⟨.its (l.map fun x => W.d (e x)), ?_, by simp, fun _ _ _ _ _ _ i => rfl⟩
  simp only [isrc_ap, h1, Option.bind_some]
  show ((some (Src.its ((l.map e).map W.d))).bind _) = _
  rw [map_emap]; rfl
theorem sr_par {i : Nat} {l : List α} (h : E[i]? = some (some (.r (eL e l)))) : Sr B ns E [] (isrc srcA (mv i)) e (some l) := fun ρ S a l' hl => by
  cases hl
  obtain ⟨w, h1, h2⟩ := a.val i _ h
  rcases h2 with rfl | ⟨k, ds, rfl, e2, e3⟩
  · refine ⟨.its (l.map fun x => W.d (e x)), ?_, by simp, fun _ _ _ _ _ _ i => rfl⟩
    simp only [isrc_ap, mv_ap, h1, Option.bind_some]
    show ((some (Src.its ((l.map e).map W.d))).bind _) = _
    rw [map_emap]; rfl
  · cases e2
    have at_ : ∀ ns' E' ρ' S', Ag B ns' E' ρ' S' → lstOf S' k = some ((l.map e).map W.d) := fun ns' E' ρ' S' a' => by
      obtain ⟨X, rfl⟩ := a'.pre
      exact lstOf_eq (by rw [List.getElem?_append_left (List.getElem?_eq_some_iff.mp (e3 ns')).1]; exact e3 ns')
    refine ⟨.cell k, ?_, ?_, fun ns' E' ρ' S' a' _ i => ?_⟩
    · simp only [isrc_ap, mv_ap, h1, Option.bind_some]
      show (((lstOf S k).bind fun _ => some (Src.cell k)).bind _) = _
      rw [at_ ns E ρ S a]; rfl
    · show ((lstOf S k).getD []).length = _
      rw [at_ ns E ρ S a]; simp
    · show (lstOf S' k).bind _ = _
      rw [at_ ns' E' ρ' S' a', map_emap]; rfl
theorem sr_own {i : Nat} {l : List α} (h : E[i]? = some (some (.own (l.map e)))) : Sr B ns E [i] (isrc srcA (mv i)) e (some l) := fun ρ S a l' hl => by
  cases hl
  obtain ⟨κ, q1, _⟩ := a.own
  obtain ⟨p1, p2, p3⟩ := q1 i _ h
  have e4 := lstOf_eq p3
  refine ⟨.cell (κ i), ?_, ?_, fun ns' E' ρ' S' a' hp j => ?_⟩
  · simp only [isrc_ap, mv_ap, p1, Option.bind_some]
    show (((lstOf S (κ i)).bind fun _ => some (Src.cell (κ i))).bind _) = _
    rw [e4]; rfl
  · show ((lstOf S (κ i)).getD []).length = _
    rw [e4]; simp
  · obtain ⟨r1, r2⟩ := hp i (by simp)
    obtain ⟨κ', q1', _⟩ := a'.own
    obtain ⟨p1', p2', p3'⟩ := q1' i _ (r2.trans h)
    have : κ' i = κ i := by
      rw [r1, p1] at p1'
      injection p1' with z; injection z with z; injection z with z; exact z.symm
    rw [this] at p3'
    show (lstOf S' (κ i)).bind _ = _
    rw [lstOf_eq p3', map_emap]; rfl
def orng1 (n : Int) : Option (List Int) := if n.natAbs ≤ 2000000 then some (irange 0 n) else none
def orng2 (a b : Int) : Option (List Int) := if a.natAbs ≤ 2000000 ∧ b.natAbs ≤ 2000000 then some (irange a b) else none
theorem rngW_ir (a b : Int) : rngW a (b - a).toNat = (irange a b).map fun x => W.d (.int x) := by
  unfold rngW irange
  rw [List.map_map]; rfl
theorem sr_rng1 {o : Option Int} (h : Ed B ns E .int m o) : Sr B ns E [] (iargs rg1 (acons m anil)) D.int (o.bind fun x => orng1 x) := fun ρ S a l hl => by
  obtain ⟨x, rfl, h1⟩ := bind_some hl
  obtain ⟨hc, rfl⟩ := ite_some h1
  refine ⟨.its ((irange 0 x).map fun x => W.d (.int x)), ?_, by simp, fun _ _ _ _ _ _ i => rfl⟩
  have : rg1 S [.d (.int x)] = some (.its ((irange 0 x).map fun x => W.d (.int x))) := by
    show (if x.natAbs ≤ 2000000 then some (Src.its (rngW 0 x.toNat)) else none) = _
    rw [if_pos hc, ← rngW_ir, Int.sub_zero]
  simp [h ρ S a x rfl, this]
theorem sr_rng2 {ma mb : Em} {oa ob : Option Int} (ha : Ed B ns E .int ma oa) (hb : Ed B ns E .int mb ob) : Sr B ns E [] (iargs rg2 (acons ma (acons mb anil))) D.int (oa.bind fun x => ob.bind fun y => orng2 x y) := fun ρ S a l hl => by
  obtain ⟨x, rfl, h1⟩ := bind_some hl
  obtain ⟨y, rfl, h2⟩ := bind_some h1
  obtain ⟨hc, rfl⟩ := ite_some h2
  refine ⟨.its ((irange x y).map fun x => W.d (.int x)), ?_, by simp, fun _ _ _ _ _ _ i => rfl⟩
  have : rg2 S [.d (.int x), .d (.int y)] = some (.its ((irange x y).map fun x => W.d (.int x))) := by
    show (if _ then _ else none) = _
    rw [if_pos hc, ← rngW_ir]
  simp [ha ρ S a x rfl, hb ρ S a y rfl, this]
def ienum (l : List α) : List (Int × α) := l.zipIdx.map fun p => ((p.2 : Int), p.1)
theorem enumD_map (l : List α) (e : α → D) : enumD (l.map e) = (ienum l).map (eP .int e) := by
  apply List.ext_getElem?
  intro i
  unfold enumD ienum
  by_cases hi : i < l.length
  · simp [hi, eP]
  · simp [hi]
theorem sr_enumT (h : Ew B ns E (eT e) m o) : Sr B ns E [] (isrc srcE m) (eP .int e) (o.bind fun l => some (ienum l)) := fun ρ S a l hl => by
  obtain ⟨x, rfl, h1⟩ := bind_some hl
  cases h1
  have h1 := (h.ed nl_T) ρ S a x rfl
  refine ⟨.its ((ienum x).map fun x => W.d (eP .int e x)), ?_, by simp, fun _ _ _ _ _ _ i => rfl⟩
  simp only [isrc_ap, h1, Option.bind_some]
  show ((some (Src.its ((enumD (x.map e)).map W.d))).bind _) = _
  rw [enumD_map, map_emap]; rfl
theorem srcAt_en {l : List α} {e : α → D} {S : Sto} (k : Nat) (h : lstOf S k = some ((l.map e).map W.d)) (i : Nat) : srcAt (.ecell k) S i = some (((ienum l).map fun x => W.d (eP .int e x))[i]?) := by
  show (lstOf S k).bind _ = _
  rw [h, Option.bind_some]
  have h2 : ((enumD (l.map e)).map W.d)[i]? = ((ienum l).map fun x => W.d (eP .int e x))[i]? := by rw [enumD_map, map_emap]
  rw [← h2]
  unfold enumD
  by_cases hi : i < l.length
  · simp [hi]
  · simp [hi]
theorem sr_enumD (h : Ed B ns E (eL e) m o) : Sr B ns E [] (isrc srcEL m) (eP .int e) (o.bind fun l => some (ienum l)) := fun ρ S a l hl => by
  obtain ⟨x, rfl, h1⟩ := bind_some hl
  cases h1
  have h1 := h ρ S a x rfl
  refine ⟨.its ((ienum x).map fun x => W.d (eP .int e x)), ?_, by simp, fun _ _ _ _ _ _ i => rfl⟩
  simp only [isrc_ap, h1, Option.bind_some]
  show ((some (Src.its ((enumD (x.map e)).map W.d))).bind _) = _
  rw [enumD_map, map_emap]; rfl
theorem sr_enumR {i : Nat} {l : List α} (h : E[i]? = some (some (.r (eL e l)))) : Sr B ns E [] (isrc srcEL (mv i)) (eP .int e) (some (ienum l)) := fun ρ S a l' hl => by
  cases hl
  obtain ⟨w, h1, h2⟩ := a.val i _ h
  rcases h2 with rfl | ⟨k, ds, rfl, e2, e3⟩
  · refine ⟨.its ((ienum l).map fun x => W.d (eP .int e x)), ?_, by simp, fun _ _ _ _ _ _ i => rfl⟩
    simp only [isrc_ap, mv_ap, h1, Option.bind_some]
    show ((some (Src.its ((enumD (l.map e)).map W.d))).bind _) = _
    rw [enumD_map, map_emap]; rfl
  · cases e2
    have at_ : ∀ ns' E' ρ' S', Ag B ns' E' ρ' S' → lstOf S' k = some ((l.map e).map W.d) := fun ns' E' ρ' S' a' => by
      obtain ⟨X, rfl⟩ := a'.pre
      exact lstOf_eq (by rw [List.getElem?_append_left (List.getElem?_eq_some_iff.mp (e3 ns')).1]; exact e3 ns')
    refine ⟨.ecell k, ?_, ?_, fun ns' E' ρ' S' a' _ i => srcAt_en k (at_ ns' E' ρ' S' a') i⟩
    · simp only [isrc_ap, mv_ap, h1, Option.bind_some]
      show (((lstOf S k).bind fun _ => some (Src.ecell k)).bind _) = _
      rw [at_ ns E ρ S a]; rfl
    · show ((lstOf S k).getD []).length = _
      rw [at_ ns E ρ S a]; simp [ienum]
theorem sr_enumO {i : Nat} {l : List α} (h : E[i]? = some (some (.own (l.map e)))) : Sr B ns E [i] (isrc srcEL (mv i)) (eP .int e) (some (ienum l)) := fun ρ S a l' hl => by
  cases hl
  obtain ⟨κ, q1, _⟩ := a.own
  obtain ⟨p1, p2, p3⟩ := q1 i _ h
  have e4 := lstOf_eq p3
  refine ⟨.ecell (κ i), ?_, ?_, fun ns' E' ρ' S' a' hp j => ?_⟩
  · simp only [isrc_ap, mv_ap, p1, Option.bind_some]
    show (((lstOf S (κ i)).bind fun _ => some (Src.ecell (κ i))).bind _) = _
    rw [e4]; rfl
  · show ((lstOf S (κ i)).getD []).length = _
    rw [e4]; simp [ienum]
  · obtain ⟨r1, r2⟩ := hp i (by simp)
    obtain ⟨κ', q1', _⟩ := a'.own
    obtain ⟨p1', p2', p3'⟩ := q1' i _ (r2.trans h)
    have : κ' i = κ i := by
      rw [r1, p1] at p1'
      injection p1' with z; injection z with z; injection z with z; exact z.symm
    rw [this] at p3'
    exact srcAt_en _ (lstOf_eq p3') j
end
/-! ### comprehensions -/
section
variable {α β : Type} {k : α → D} {e : β → D} {mi : Im} {g : Gm} {c : Tm} {m : Em}
def wipeE (E : List (Option En)) : List Nat → List (Option En)
  | [] => E
  | v :: vs => (wipeE E vs).set v none
theorem Ag.wipes (a : Ag B ns E ρ S) : ∀ vs : List Nat, Ag B ns (wipeE E vs) (mwipe ρ vs) S
  | [] => a
  | v :: vs => (a.wipes vs).wipe v
def olim (l : List α) : Option (List α) := if l.length ≤ 1000000 then some l else none
def ocompL (c : α → Option Bool) (f : α → Option β) : List α → Option (List β)
  | [] => some []
  | x :: r => (c x).bind fun b => if b = true then (f x).bind fun y => (ocompL c f r).bind fun t => some (y :: t) else ocompL c f r
def ocomp (l : List α) (c : α → Option Bool) (f : α → Option β) : Option (List β) := (ocompL c f l).bind olim
theorem cloop_t {E1 : α → List (Option En)} {src : Src} {l : List α} {T : List Nat} {cp : α → Option Bool} {fp : α → Option β} (a : Ag B ns E ρ S) (hs : ∀ i : Nat, srcAt src S i = some ((l.map fun x => W.d (k x))[i]?))
    (hg : ∀ x, Tg B (k x) g E (E1 x) T) (hc : ∀ x, Et B ns (E1 x) c (cp x)) (hm : ∀ x, Ed B ns (E1 x) e m (fp x)) :
    ∀ (n i : Nat) (r : List β), i + n = l.length → ocompL cp fp (l.drop i) = some r → cloop src g c m ρ n i S = some (r.map fun x => W.d (e x), S)
  | 0, i, r, h, hr => by
    rw [List.drop_of_length_le (by omega)] at hr
    cases hr
    unfold cloop
    rw [hs, List.getElem?_eq_none (by rw [List.length_map]; omega)]
    rfl
  | n + 1, i, r, h, hr => by
    have hi : i < l.length := by omega
    rw [List.drop_eq_getElem_cons hi] at hr
    obtain ⟨b, e1, hr⟩ := bind_some (show (cp l[i]).bind _ = some r from hr)
    unfold cloop
    rw [hs, List.getElem?_map, List.getElem?_eq_getElem hi]
    show ((g S (.d (k l[i])) ρ).bind _) = _
    obtain ⟨ρ1, g1, a1, _⟩ := hg l[i] ns ρ S a
    rw [g1]
    show ((c ρ1 S).bind _) = _
    rw [hc l[i] ρ1 S a1 b e1]
    show (if b = true then _ else _) = _
    cases b with
    | false =>
      rw [if_neg Bool.false_ne_true] at hr ⊢
      exact cloop_t a hs hg hc hm n (i + 1) r (by omega) hr
    | true =>
      rw [if_pos rfl] at hr ⊢
      obtain ⟨y, e2, hr⟩ := bind_some hr
      obtain ⟨t, e3, hr⟩ := bind_some hr
      cases hr
      rw [hm l[i] ρ1 S a1 y e2]
      show ((cloop src g c m ρ n (i + 1) S).bind _) = _
      rw [cloop_t a hs hg hc hm n (i + 1) t (by omega) e3]
      rfl
theorem ef_comp {E1 : α → List (Option En)} {T vs : List Nat} {xs : Option (List α)} {cp : α → Option Bool} {fp : α → Option β} (hs : S0 B ns E mi k xs) (hg : ∀ x, Tg B (k x) g (wipeE E vs) (E1 x) T) (hc : ∀ x, Et B ns (E1 x) c (cp x)) (hm : ∀ x, Ed B ns (E1 x) e m (fp x)) :
    EF B ns E e (mcomp mi g c m vs) (xs.bind fun l => ocomp l cp fp) := fun ρ S a r hr => by
  obtain ⟨l, rfl, k1⟩ := bind_some hr
  obtain ⟨r', e1, k2⟩ := bind_some k1
  obtain ⟨hl, rfl⟩ := ite_some k2
  obtain ⟨src, h1, h2, h3⟩ := hs ρ S a l rfl
  have := cloop_t (a.wipes vs) h3 hg hc hm l.length 0 r' (by omega) (by rw [List.drop_zero]; exact e1)
  simp only [mcomp_ap, h1, h2, Option.bind_some, this]
  exact lim_ap (by rw [List.length_map]; exact hl)
def ocomp2L {β : Type} (c : α → Option Bool) (f : α → Option (List β)) : List α → Option (List β)
  | [] => some []
  | x :: r => (c x).bind fun b => if b = true then (f x).bind fun y => (ocomp2L c f r).bind fun t => some (y ++ t) else ocomp2L c f r
def ocomp2 {γ : Type} (l : List α) (c : α → Option Bool) (l1 : α → Option (List γ)) (c1 : α → γ → Option Bool) (f : α → γ → Option β) : Option (List β) := (ocomp2L c (fun x => (l1 x).bind fun l => ocompL (c1 x) (f x) l) l).bind olim
theorem cloop2_t {γ : Type} {k1 : γ → D} {E1 : α → List (Option En)} {E2 : α → γ → List (Option En)} {src : Src} {l : List α} {T T1 vs1 : List Nat} {cp : α → Option Bool} {l1 : α → Option (List γ)} {c1p : α → γ → Option Bool} {fp : α → γ → Option β} {mi1 : Im} {g1 : Gm} {c1 : Tm} (a : Ag B ns E ρ S) (hs : ∀ i : Nat, srcAt src S i = some ((l.map fun x => W.d (k x))[i]?))
    (hg : ∀ x, Tg B (k x) g E (E1 x) T) (hc : ∀ x, Et B ns (E1 x) c (cp x)) (hs1 : ∀ x, S0 B ns (E1 x) mi1 k1 (l1 x)) (hg1 : ∀ x y, Tg B (k1 y) g1 (wipeE (E1 x) vs1) (E2 x y) T1) (hc1 : ∀ x y, Et B ns (E2 x y) c1 (c1p x y)) (hm : ∀ x y, Ed B ns (E2 x y) e m (fp x y)) :
    ∀ (n i : Nat) (r : List β), i + n = l.length → ocomp2L cp (fun x => (l1 x).bind fun l => ocompL (c1p x) (fp x) l) (l.drop i) = some r → cloop2 src g c mi1 g1 c1 m ρ vs1 n i S = some (r.map fun x => W.d (e x), S)
  | 0, i, r, h, hr => by
    rw [List.drop_of_length_le (by omega)] at hr
    cases hr
    unfold cloop2
    rw [hs, List.getElem?_eq_none (by rw [List.length_map]; omega)]
    rfl
  | n + 1, i, r, h, hr => by
    have hi : i < l.length := by omega
    rw [List.drop_eq_getElem_cons hi] at hr
    obtain ⟨b, e1, hr⟩ := bind_some (show (cp l[i]).bind _ = some r from hr)
    unfold cloop2
    rw [hs, List.getElem?_map, List.getElem?_eq_getElem hi]
    show ((g S (.d (k l[i])) ρ).bind _) = _
    obtain ⟨ρ1, q1, a1, _⟩ := hg l[i] ns ρ S a
    rw [q1]
    show ((c ρ1 S).bind _) = _
    rw [hc l[i] ρ1 S a1 b e1]
    show (if b = true then _ else _) = _
    cases b with
    | false =>
      rw [if_neg Bool.false_ne_true] at hr ⊢
      exact cloop2_t a hs hg hc hs1 hg1 hc1 hm n (i + 1) r (by omega) hr
    | true =>
      rw [if_pos rfl] at hr ⊢
      obtain ⟨y, e2, hr⟩ := bind_some hr
      obtain ⟨t, e3, hr⟩ := bind_some hr
      cases hr
      obtain ⟨li, e4, e5⟩ := bind_some e2
      obtain ⟨src1, h1, h2, h3⟩ := hs1 l[i] ρ1 S a1 li e4
      rw [h1]
      show ((cloop src1 g1 c1 m (mwipe ρ1 vs1) (srcLen src1 S) 0 S).bind _) = _
      rw [h2, cloop_t (a1.wipes vs1) h3 (hg1 l[i]) (hc1 l[i]) (hm l[i]) li.length 0 y (by omega) (by rw [List.drop_zero]; exact e5)]
      show ((cloop2 src g c mi1 g1 c1 m ρ vs1 n (i + 1) S).bind _) = _
      rw [cloop2_t a hs hg hc hs1 hg1 hc1 hm n (i + 1) t (by omega) e3, List.map_append]
      rfl
theorem ef_comp2 {γ : Type} {k1 : γ → D} {E1 : α → List (Option En)} {E2 : α → γ → List (Option En)} {T T1 vs vs1 : List Nat} {xs : Option (List α)} {cp : α → Option Bool} {l1 : α → Option (List γ)} {c1p : α → γ → Option Bool} {fp : α → γ → Option β} {mi1 : Im} {g1 : Gm} {c1 : Tm} (hs : S0 B ns E mi k xs)
    (hg : ∀ x, Tg B (k x) g (wipeE E vs) (E1 x) T) (hc : ∀ x, Et B ns (E1 x) c (cp x)) (hs1 : ∀ x, S0 B ns (E1 x) mi1 k1 (l1 x)) (hg1 : ∀ x y, Tg B (k1 y) g1 (wipeE (E1 x) vs1) (E2 x y) T1) (hc1 : ∀ x y, Et B ns (E2 x y) c1 (c1p x y)) (hm : ∀ x y, Ed B ns (E2 x y) e m (fp x y)) :
    EF B ns E e (mcomp2 mi g c mi1 g1 c1 m vs vs1) (xs.bind fun l => ocomp2 l cp l1 c1p fp) := fun ρ S a r hr => by
  obtain ⟨l, rfl, k1⟩ := bind_some hr
  obtain ⟨r', e1, k2⟩ := bind_some k1
  obtain ⟨hl, rfl⟩ := ite_some k2
  obtain ⟨src, h1, h2, h3⟩ := hs ρ S a l rfl
  have := cloop2_t (a.wipes vs) h3 hg hc hs1 hg1 hc1 hm l.length 0 r' (by omega) (by rw [List.drop_zero]; exact e1)
  simp only [mcomp2_ap, h1, h2, Option.bind_some, this]
  exact lim_ap (by rw [List.length_map]; exact hl)
end
/-! ### calls -/
section
variable {α β γ : Type} {e : α → D} {f : γ → D} {m : Em} {am : Am}
def Fq (m : Fm) (ds : List D) (o : Option γ) (f : γ → D) : Prop := ∀ S ws, Vws (Bp S) S ws ds → ∀ x, o = some x → ∃ rv, m ws S = some (rv, S) ∧ rvW rv = some (.d (f x))
def Fn (m : Fm) (ds : List D) (o : Option (List γ)) (f : γ → D) : Prop := ∀ S ws, Vws (Bp S) S ws ds → ∀ x, o = some x → m ws S = some (.new (x.map fun y => W.d (f y)), S)
def Fv (m : Fm) (ds : List D) (ns : List Int) (o : Option (γ × List Int)) (f : γ → D) : Prop := ∀ T ws, Vws (Bd T) (C ns :: T) ws ds → ∀ x ns', o = some (x, ns') → ∃ rv, m (.ref 0 :: ws) (C ns :: T) = some (rv, C ns' :: T) ∧ rvW rv = some (.d (f x))
def Fvn (m : Fm) (ds : List D) (ns : List Int) (o : Option (List γ × List Int)) (f : γ → D) : Prop := ∀ T ws, Vws (Bd T) (C ns :: T) ws ds → ∀ x ns', o = some (x, ns') → m (.ref 0 :: ws) (C ns :: T) = some (.new (x.map fun y => W.d (f y)), C ns' :: T)
theorem Fn.fq {m : Fm} {ds : List D} {o : Option (List γ)} (h : Fn m ds o f) : Fq m ds o (eL f) := fun S ws v x hx => ⟨_, h S ws v x hx, by simp [datas_emap]; rfl⟩
theorem Fvn.fv {m : Fm} {ds : List D} {o : Option (List γ × List Int)} (h : Fvn m ds ns o f) : Fv m ds ns o (eL f) := fun T ws v x ns' hx => ⟨_, h T ws v x ns' hx, by simp [datas_emap]; rfl⟩
theorem Fq.at {m : Fm} {ds : List D} {o : Option γ} (h : Fq m ds o f) : ∀ g, o = some g → Fq m ds (some g) f := fun g hg => by rw [← hg]; exact h
theorem Fn.at {m : Fm} {ds : List D} {o : Option (List γ)} (h : Fn m ds o f) : ∀ g, o = some g → Fn m ds (some g) f := fun g hg => by rw [← hg]; exact h
theorem Fv.at {m : Fm} {ds : List D} {o : Option (γ × List Int)} (h : Fv m ds ns o f) : ∀ g, o = some g → Fv m ds ns (some g) f := fun g hg => by rw [← hg]; exact h
theorem Fvn.at {m : Fm} {ds : List D} {o : Option (List γ × List Int)} (h : Fvn m ds ns o f) : ∀ g, o = some g → Fvn m ds ns (some g) f := fun g hg => by rw [← hg]; exact h
theorem ea_nil {R : List D → γ → Prop} {o : Option γ} (h : ∀ g, o = some g → R [] g) : EA B ns E anil R o := fun ρ S a g hg => ⟨[], [], rfl, .nil, h g hg⟩
theorem ea_cons {R : List D → γ → Prop} {oa : Option α} {k : α → Option γ} (ha : Ew B ns E e m oa) (hk : ∀ x, EA B ns E am (fun ds g => R (e x :: ds) g) (k x)) : EA B ns E (acons m am) R (oa.bind k) := fun ρ S a g hg => by
  obtain ⟨x, rfl, h1⟩ := bind_some hg
  obtain ⟨w, q1, q2⟩ := ha ρ S a x rfl
  obtain ⟨ws, ds, q3, q4, q5⟩ := hk x ρ S a g h1
  exact ⟨w :: ws, e x :: ds, by simp [q1, q3], .cons q2 q4, q5⟩
theorem Vw.pure {w : W} {d : D} (h : Vw B S w d) : Vw (Bp S) S w d := by
  rcases h with h | ⟨k, ds, h1, h2, h3, _⟩
  · exact .inl h
  · exact .inr ⟨k, ds, h1, h2, h3, fun _ _ => rfl⟩
theorem Vws.pure {ws : List W} {ds : List D} (h : Vws B S ws ds) : Vws (Bp S) S ws ds := by
  induction h with
  | nil => exact .nil
  | cons h t ih => exact .cons h.pure ih
theorem ed_call {fm : Fm} {o : Option γ} (h : EA B ns E am (fun ds g => Fq fm ds (some g) f) o) : Ed B ns E f (mcall fm am) o := fun ρ S a g hg => by
  obtain ⟨ws, ds, q1, q2, q3⟩ := h ρ S a g hg
  obtain ⟨rv, q4, q5⟩ := q3 S ws q2.pure g rfl
  simp [q1, q4, q5]
theorem ef_call {fm : Fm} {o : Option (List γ)} (h : EA B ns E am (fun ds g => Fn fm ds (some g) f) o) : EF B ns E f (mcallF fm am) o := fun ρ S a g hg => by
  obtain ⟨ws, ds, q1, q2, q3⟩ := h ρ S a g hg
  have q4 := q3 S ws q2.pure g rfl
  simp [q1, q4]
/-! calls with data alone -/
def Fs (m : Fm) (ds : List D) (o : Option γ) (f : γ → D) : Prop := ∀ S x, o = some x → ∃ rv, m (ds.map W.d) S = some (rv, S) ∧ rvW rv = some (.d (f x))
theorem Fs.at {m : Fm} {ds : List D} {o : Option γ} (h : Fs m ds o f) : ∀ g, o = some g → Fs m ds (some g) f := fun g hg => by rw [← hg]; exact h
def EAs (B : Bs) (ns : List Int) (E : List (Option En)) (m : Am) (R : List D → γ → Prop) (o : Option γ) : Prop := ∀ ρ S, Ag B ns E ρ S → ∀ g, o = some g → ∃ ds, m ρ S = some (ds.map W.d, S) ∧ R ds g
theorem eas_nil {R : List D → γ → Prop} {o : Option γ} (h : ∀ g, o = some g → R [] g) : EAs B ns E anil R o := fun ρ S a g hg => ⟨[], rfl, h g hg⟩
theorem eas_cons {R : List D → γ → Prop} {oa : Option α} {k : α → Option γ} (ha : Ed B ns E e m oa) (hk : ∀ x, EAs B ns E am (fun ds g => R (e x :: ds) g) (k x)) : EAs B ns E (acons m am) R (oa.bind k) := fun ρ S a g hg => by
  obtain ⟨x, rfl, h1⟩ := bind_some hg
  obtain ⟨ds, q3, q5⟩ := hk x ρ S a g h1
  exact ⟨e x :: ds, by simp [ha ρ S a x rfl, q3], q5⟩
theorem ed_calls {fm : Fm} {o : Option γ} (h : EAs B ns E am (fun ds g => Fs fm ds (some g) f) o) : Ed B ns E f (mcall fm am) o := fun ρ S a g hg => by
  obtain ⟨ds, q1, q3⟩ := h ρ S a g hg
  obtain ⟨rv, q4, q5⟩ := q3 S g rfl
  simp [q1, q4, q5]
end
end
end GM

set_option Elab.async false
set_option linter.all false
set_option maxRecDepth 100000
set_option maxHeartbeats 4000000
set_option autoImplicit false
namespace GM
open PySem L2
/-! ### steps that draw -/
section
variable {α β γ : Type} {B : Bs} {T : Sto} {ns ns' : List Int} {E E' : List (Option En)} {ρ : Rho} {S S' : Sto} {e : α → D} {f : γ → D} {m ma mb : Em} {am : Am}
theorem Vw.up {w : W} {d : D} (h : Vw B S w d) (u : Up B ns ns' S S') : Vw B S' w d := by
  rcases h with h | ⟨k, ds, h1, h2, h3, h4⟩
  · exact .inl h
  · refine .inr ⟨k, ds, h1, h2, ?_, h4⟩
    obtain ⟨X, rfl, rfl⟩ := u
    by_cases hk : k < (B.f ns).length
    · rw [List.getElem?_append_left hk] at h3
      rw [List.getElem?_append_left (by rw [B.len ns' ns]; exact hk), h4 ns' ns]
      exact h3
    · rw [List.getElem?_append_right (by omega)] at h3
      rw [List.getElem?_append_right (by rw [B.len ns' ns]; omega), B.len ns' ns]
      exact h3
theorem eav_nil {R : List D → List Int → γ → Prop} {o : Option γ} (h : ∀ g, o = some g → R [] ns g) : EAv B ns E anil R o := fun ρ S a g hg => ⟨[], [], ns, S, rfl, .refl a, .nil, h g hg⟩
theorem eav_pure {R : List D → List Int → γ → Prop} {oa : Option α} {k : α → Option γ} (ha : Ew B ns E e m oa) (hk : ∀ x, EAv B ns E am (fun ds n g => R (e x :: ds) n g) (k x)) : EAv B ns E (acons m am) R (oa.bind k) := fun ρ S a g hg => by
  obtain ⟨x, rfl, h1⟩ := bind_some hg
  obtain ⟨w, q1, q2⟩ := ha ρ S a x rfl
  obtain ⟨ws, ds, n', S', q3, u, q4, q5⟩ := hk x ρ S a g h1
  exact ⟨w :: ws, e x :: ds, n', S', by simp [q1, q3], u, .cons (q2.up u) q4, q5⟩
theorem eav_draw {R : List D → List Int → γ → Prop} {oa : Option (α × List Int)} {k : α × List Int → Option γ} (ha : Edv B ns E e m oa) (hk : ∀ p : α × List Int, EAv B p.2 E am (fun ds n g => R (e p.1 :: ds) n g) (k p)) : EAv B ns E (acons m am) R (oa.bind k) := fun ρ S a g hg => by
  obtain ⟨⟨x, n1⟩, rfl, h1⟩ := bind_some hg
  obtain ⟨S1, q1, u1⟩ := ha ρ S a x n1 rfl
  obtain ⟨ws, ds, n', S', q3, u, q4, q5⟩ := hk (x, n1) ρ S1 (a.up u1) g h1
  exact ⟨.d (e x) :: ws, e x :: ds, n', S', by simp [q1, q3], u1.trans u, .cons .data q4, q5⟩
def mvs : Nat → Nat → Am
  | _, 0 => anil
  | i, n + 1 => acons (mv i) (mvs (i + 1) n)
/-- the same step, of slots that hold the arguments -/
def PrimR (fn : Sto → List W → Option W) (f : γ → D) (ds : List D) (n : List Int) (g : γ × List Int) : Prop := g.2 = n ∧ ∀ S, Ed (Bp S) [] (ds.map fun d => some (En.r d)) f (prim fn (mvs 0 ds.length)) (some g.1)
theorem Vws.get {ws : List W} {ds : List D} (h : Vws B S ws ds) : ∀ {i : Nat} {d : D}, ds[i]? = some d → ∃ w, ws[i]? = some w ∧ Vw B S w d := by
  induction h with
  | nil => intro i d h; simp at h
  | cons h t ih =>
    intro i d h
    cases i with
    | zero => simp at h; subst h; exact ⟨_, rfl, by assumption⟩
    | succ i => exact ih (by simpa using h)
theorem Vws.length {ws : List W} {ds : List D} (h : Vws B S ws ds) : ws.length = ds.length := by
  induction h with
  | nil => rfl
  | cons h t ih => simp [ih]
theorem vws_ag {ws : List W} {ds : List D} (h : Vws B S ws ds) : Ag (Bp S) [] (ds.map fun d => some (En.r d)) (ws.map some) S := by
  refine ⟨by simp [h.length], ⟨[], by simp [Bp]⟩, fun i d q => ?_, fun i d q => ?_, fun i w q => ?_, fun _ => 0, fun i d q => ?_, fun i j d d' q => ?_⟩
  · rw [List.getElem?_map] at q; obtain ⟨d', q1, q2⟩ := Option.map_eq_some_iff.mp q; cases q2
  · rw [List.getElem?_map] at q
    obtain ⟨d', q1, q2⟩ := Option.map_eq_some_iff.mp q
    cases q2
    obtain ⟨w, q3, q4⟩ := h.get q1
    refine ⟨w, by rw [List.getElem?_map, q3]; rfl, ?_⟩
    rcases q4 with q4 | ⟨k, ds, h1, h2, h3, _⟩
    · exact .inl q4
    · exact .inr ⟨k, ds, h1, h2, fun _ => h3⟩
  all_goals (rw [List.getElem?_map] at q; obtain ⟨d', q1, q2⟩ := Option.map_eq_some_iff.mp q; cases q2)
theorem mvs_eval {S : Sto} : ∀ (us ws : List W) (S' : Sto), mvs us.length ws.length ((us ++ ws).map some) S' = some (ws, S')
  | us, [], S' => rfl
  | us, w :: ws, S' => by
    have ih := mvs_eval (S := S) (us ++ [w]) ws S'
    rw [List.length_append, List.length_singleton, List.append_assoc, List.singleton_append] at ih
    show (mv us.length ((us ++ w :: ws).map some) S').bind _ = _
    have : ((us ++ w :: ws).map some)[us.length]? = some (some w) := by rw [List.getElem?_map, List.getElem?_append_right (Nat.le_refl _), Nat.sub_self]; rfl
    rw [mv_ap, this]
    show (mvs (us.length + 1) ws.length ((us ++ w :: ws).map some) S').bind _ = _
    rw [ih]; rfl
theorem edv_prim {fn : Sto → List W → Option W} {o : Option (γ × List Int)} (h : EAv B ns E am (PrimR fn f) o) : Edv B ns E f (prim fn am) o := fun ρ S a x n' hx => by
  obtain ⟨ws, ds, n1, S1, q1, u, q2, q3, q4⟩ := h ρ S a (x, n') hx
  cases q3
  have := q4 S1 (ws.map some) S1 (vws_ag q2) x rfl
  have e1 := mvs_eval (S := S1) [] ws S1
  rw [List.nil_append, q2.length] at e1
  rw [prim_ap] at this
  change (mvs 0 ds.length (ws.map some) S1).bind _ = _ at this
  change mvs 0 ds.length _ S1 = _ at e1
  rw [e1] at this
  exact ⟨S1, by rw [prim_ap, q1]; exact this, u⟩
theorem prim_nil {fn : Sto → List W → Option W} {f : γ → D} {ds : List D} {o : Option γ} (h : ∀ S, Ed (Bp S) [] (ds.map fun d => some (En.r d)) f (prim fn (mvs 0 ds.length)) o) : ∀ g, (o.bind fun x => some (x, ns)) = some g → PrimR fn f ds ns g := fun g hg => by
  obtain ⟨x, rfl, h1⟩ := bind_some hg
  cases h1
  exact ⟨rfl, h⟩
theorem edv_of {o : Option α} (h : Ed B ns E e m o) : Edv B ns E e m (o.bind fun x => some (x, ns)) := fun ρ S a x n' hx => by
  obtain ⟨y, rfl, h1⟩ := bind_some hx
  cases h1
  exact ⟨S, h ρ S a x rfl, .refl a⟩
theorem Edv.toO {o : Option (α × List Int)} (h : Edv B ns E e m o) : Edv B ns E (eO e) m (o.bind fun x => some (some x.1, x.2)) := fun ρ S a x n' hx => by
  obtain ⟨⟨y, n2⟩, rfl, h1⟩ := bind_some hx
  cases h1
  exact h ρ S a y _ rfl
theorem Edv.any {o : Option (α × List Int)} (h : Edv B ns E e m o) : Edv B ns E eD m (o.bind fun x => some (e x.1, x.2)) := fun ρ S a x n' hx => by
  obtain ⟨⟨y, n2⟩, rfl, h1⟩ := bind_some hx
  cases h1
  exact h ρ S a y _ rfl
theorem edv_call {fm : Fm} {i : Nat} {o : Option (γ × List Int)} (hi : E[i]? = some (some (.w (.ref 0)))) (h : EAv (Bd T) ns E am (fun ds n g => Fv fm ds n (some g) f) o) : Edv (Bd T) ns E f (mcall fm (acons (mv i) am)) o := fun ρ S a x n' hx => by
  obtain ⟨ws, ds, n1, S1, q1, u, q2, q3⟩ := h ρ S a (x, n') hx
  have q0 := a.wrd i _ hi
  obtain ⟨X, e1, e2⟩ := u
  have e3 : S1 = C n1 :: (T ++ X) := e2
  have q2' : Vws (Bd (T ++ X)) (C n1 :: (T ++ X)) ws ds := by
    rw [← e3]
    clear q1 q3 hx h
    induction q2 with
    | nil => exact .nil
    | cons h t ih =>
      refine .cons ?_ ih
      rcases h with h | ⟨k, ds, h1, h2, h3, h4⟩
      · exact .inl h
      · refine .inr ⟨k, ds, h1, h2, h3, fun a b => ?_⟩
        cases k with
        | zero =>
          have h5 := h4 [] [0]
          have : C [] = C [0] := Option.some.inj h5
          cases this
        | succ k => rfl
  obtain ⟨rv, q4, q5⟩ := q3 (T ++ X) ws q2' x n' rfl
  refine ⟨C n' :: (T ++ X), ?_, X, e1, rfl⟩
  rw [mcall_ap, acons_ap, mv_ap, q0]
  simp only [Option.bind_some, q1, e3, q4, q5]
theorem edv_callp {fm : Fm} {o : Option (γ × List Int)} (h : EAv B ns E am (fun ds n g => g.2 = n ∧ Fq fm ds (some g.1) f) o) : Edv B ns E f (mcall fm am) o := fun ρ S a x n' hx => by
  obtain ⟨ws, ds, n1, S1, q1, u, q2, q3, q4⟩ := h ρ S a (x, n') hx
  cases q3
  obtain ⟨rv, q5, q6⟩ := q4 S1 ws q2.pure x rfl
  refine ⟨S1, ?_, u⟩
  rw [mcall_ap, q1]
  simp only [Option.bind_some, q5, q6]
theorem callp_nil {fm : Fm} {ds : List D} {o : Option γ} (h : Fq fm ds o f) : ∀ g, (o.bind fun x => some (x, ns)) = some g → g.2 = ns ∧ Fq fm ds (some g.1) f := fun g hg => by
  obtain ⟨x, rfl, h1⟩ := bind_some hg
  cases h1
  exact ⟨rfl, h⟩
theorem efv_call {fm : Fm} {i : Nat} {o : Option (List γ × List Int)} (hi : E[i]? = some (some (.w (.ref 0)))) (h : EAv (Bd T) ns E am (fun ds n g => Fvn fm ds n (some g) f) o) : EFv (Bd T) ns E f (mcallF fm (acons (mv i) am)) o := fun ρ S a x n' hx => by
  obtain ⟨ws, ds, n1, S1, q1, u, q2, q3⟩ := h ρ S a (x, n') hx
  have q0 := a.wrd i _ hi
  obtain ⟨X, e1, e2⟩ := u
  have e3 : S1 = C n1 :: (T ++ X) := e2
  have q2' : Vws (Bd (T ++ X)) (C n1 :: (T ++ X)) ws ds := by
    rw [← e3]
    clear q1 q3 hx h
    induction q2 with
    | nil => exact .nil
    | cons h t ih =>
      refine .cons ?_ ih
      rcases h with h | ⟨k, ds, h1, h2, h3, h4⟩
      · exact .inl h
      · refine .inr ⟨k, ds, h1, h2, h3, fun a b => ?_⟩
        cases k with
        | zero =>
          have h5 := h4 [] [0]
          have : C [] = C [0] := Option.some.inj h5
          cases this
        | succ k => rfl
  have q4 := q3 (T ++ X) ws q2' x n' rfl
  refine ⟨C n' :: (T ++ X), ?_, X, e1, rfl⟩
  rw [mcallF_ap, acons_ap, mv_ap, q0]
  simp only [Option.bind_some, q1, e3, q4]
theorem efv_of {o : Option (List α)} (h : EF B ns E e am o) : EFv B ns E e am (o.bind fun x => some (x, ns)) := fun ρ S a x n' hx => by
  obtain ⟨y, rfl, h1⟩ := bind_some hx
  cases h1
  exact ⟨S, h ρ S a x rfl, .refl a⟩
theorem edv_frz {o : Option (List α × List Int)} (h : EFv B ns E e am o) : Edv B ns E (eL e) (frz am) o := fun ρ S a x n' hx => by
  obtain ⟨S', q1, u⟩ := h ρ S a x n' hx
  exact ⟨S', by simp [q1, datas_emap]; rfl, u⟩
/-! displays of drawn parts -/
def EAd (B : Bs) (ns : List Int) (E : List (Option En)) (e : α → D) (n : Nat) (m : Am) (o : Option (List α × List Int)) : Prop := ∀ ρ S, Ag B ns E ρ S → ∀ l ns', o = some (l, ns') → ∃ S', m ρ S = some (l.map fun x => W.d (e x), S') ∧ Up B ns ns' S S' ∧ l.length = n
theorem ead_nil : EAd B ns E e 0 anil (some ([], ns)) := fun ρ S a l n' hl => by cases hl; exact ⟨S, rfl, .refl a, rfl⟩
theorem ead_cons {n : Nat} {oa : Option (α × List Int)} {k : List Int → Option (List α × List Int)} (ha : Edv B ns E e ma oa) (hl : ∀ n1, EAd B n1 E e n am (k n1)) : EAd B ns E e (n + 1) (acons ma am) (oa.bind fun p => (k p.2).bind fun l => some (p.1 :: l.1, l.2)) := fun ρ S a r n' hr => by
  obtain ⟨⟨x, n1⟩, rfl, h1⟩ := bind_some hr
  obtain ⟨⟨l, n2⟩, h2, h3⟩ := bind_some h1
  cases h3
  obtain ⟨S1, q1, u1⟩ := ha ρ S a x n1 rfl
  obtain ⟨S2, q2, u2, q3⟩ := hl n1 ρ S1 (a.up u1) l _ h2
  exact ⟨S2, by simp [q1, q2], u1.trans u2, by simp [q3]⟩
theorem efv_dL {n : Nat} {o : Option (List α × List Int)} (h : EAd B ns E e n am o) (hn : n ≤ 1000000 := by decide) : EFv B ns E e (primF fLst am) o := fun ρ S a l n' hl => by
  obtain ⟨S', q1, u, q2⟩ := h ρ S a l n' hl
  have : fLst S' (l.map fun x => W.d (e x)) = some (l.map fun x => W.d (e x)) := if_pos (by rw [List.length_map, q2]; exact hn)
  exact ⟨S', by simp [q1, this], u⟩
theorem edv_dT {n : Nat} {o : Option (List α × List Int)} (h : EAd B ns E e n am o) (hn : n ≤ 1000000 := by decide) : Edv B ns E (eT e) (prim fTup am) o := fun ρ S a l n' hl => by
  obtain ⟨S', q1, u, q2⟩ := h ρ S a l n' hl
  have : fTup S' (l.map fun x => W.d (e x)) = some (.d (eT e l)) := tup_ok' (by rw [List.length_map, q2]; exact hn) (datas_emap l e)
  exact ⟨S', by simp [q1, this], u⟩
/-! tests -/
theorem etv_of {tm : Tm} {o : Option Bool} (h : Et B ns E tm o) : Etv B ns E tm (o.bind fun x => some (x, ns)) := fun ρ S a x n' hx => by
  obtain ⟨y, rfl, h1⟩ := bind_some hx
  cases h1
  exact ⟨S, h ρ S a x rfl, .refl a⟩
theorem etv_val {o : Option (Bool × List Int)} (h : Edv B ns E .bl m o) : Etv B ns E (tst m) o := fun ρ S a x n' hx => by
  obtain ⟨S', q1, u⟩ := h ρ S a x n' hx
  exact ⟨S', by simp [q1], u⟩
theorem etv_not {tm : Tm} {o : Option (Bool × List Int)} (h : Etv B ns E tm o) : Etv B ns E (tnot tm) (o.bind fun p => some (!p.1, p.2)) := fun ρ S a x n' hx => by
  obtain ⟨⟨y, n1⟩, rfl, h1⟩ := bind_some hx
  cases h1
  obtain ⟨S', q1, u⟩ := h ρ S a y _ rfl
  exact ⟨S', by simp [q1], u⟩
theorem etv_and {ta tb : Tm} {oa : Option (Bool × List Int)} {ob : List Int → Option (Bool × List Int)} (ha : Etv B ns E ta oa) (hb : ∀ n1, Etv B n1 E tb (ob n1)) : Etv B ns E (tand ta tb) (oa.bind fun p => if p.1 = true then ob p.2 else some (false, p.2)) := fun ρ S a x n' hx => by
  obtain ⟨⟨y, n1⟩, rfl, h1⟩ := bind_some hx
  obtain ⟨S', q1, u⟩ := ha ρ S a y n1 rfl
  cases y with
  | true =>
    obtain ⟨S2, q2, u2⟩ := hb n1 ρ S' (a.up u) x n' h1
    exact ⟨S2, by simp [q1, q2], u.trans u2⟩
  | false => cases h1; exact ⟨S', by simp [q1], u⟩
theorem etv_or {ta tb : Tm} {oa : Option (Bool × List Int)} {ob : List Int → Option (Bool × List Int)} (ha : Etv B ns E ta oa) (hb : ∀ n1, Etv B n1 E tb (ob n1)) : Etv B ns E (tor ta tb) (oa.bind fun p => if p.1 = true then some (true, p.2) else ob p.2) := fun ρ S a x n' hx => by
  obtain ⟨⟨y, n1⟩, rfl, h1⟩ := bind_some hx
  obtain ⟨S', q1, u⟩ := ha ρ S a y n1 rfl
  cases y with
  | false =>
    obtain ⟨S2, q2, u2⟩ := hb n1 ρ S' (a.up u) x n' h1
    exact ⟨S2, by simp [q1, q2], u.trans u2⟩
  | true => cases h1; exact ⟨S', by simp [q1], u⟩
theorem edv_if {tm : Tm} {oc : Option (Bool × List Int)} {oa ob : List Int → Option (α × List Int)} (hc : Etv B ns E tm oc) (ha : ∀ n1, Edv B n1 E e ma (oa n1)) (hb : ∀ n1, Edv B n1 E e mb (ob n1)) : Edv B ns E e (mif tm ma mb) (oc.bind fun p => if p.1 = true then oa p.2 else ob p.2) := fun ρ S a x n' hx => by
  obtain ⟨⟨y, n1⟩, rfl, h1⟩ := bind_some hx
  obtain ⟨S', q1, u⟩ := hc ρ S a y n1 rfl
  cases y with
  | true =>
    obtain ⟨S2, q2, u2⟩ := ha n1 ρ S' (a.up u) x n' h1
    exact ⟨S2, by simp [q1, q2], u.trans u2⟩
  | false =>
    obtain ⟨S2, q2, u2⟩ := hb n1 ρ S' (a.up u) x n' h1
    exact ⟨S2, by simp [q1, q2], u.trans u2⟩
/-! comprehensions that draw -/
def ocompSL {β : Type} (f : α → List Int → Option (β × List Int)) : List α → List Int → Option (List β × List Int)
  | [], ns => some ([], ns)
  | x :: r, ns => (f x ns).bind fun p => (ocompSL f r p.2).bind fun t => some (p.1 :: t.1, t.2)
def ocompS {β : Type} (l : List α) (ns : List Int) (f : α → List Int → Option (β × List Int)) : Option (List β × List Int) := (ocompSL f l ns).bind fun t => (olim t.1).bind fun u => some (u, t.2)
theorem cloop_v {k : α → D} {eb : β → D} {g : Gm} {E1 : α → List (Option En)} {src : Src} {l : List α} {T1 : List Nat} {fp : α → List Int → Option (β × List Int)}
    (hs : ∀ n S, Ag B n E ρ S → ∀ i : Nat, srcAt src S i = some ((l.map fun x => W.d (k x))[i]?)) (hg : ∀ x, Tg B (k x) g E (E1 x) T1) (hm : ∀ x n, Edv B n (E1 x) eb m (fp x n)) :
    ∀ (j i : Nat) (n : List Int) (S : Sto) (r : List β) (n' : List Int), i + j = l.length → Ag B n E ρ S → ocompSL fp (l.drop i) n = some (r, n') → ∃ S', cloop src g tyes m ρ j i S = some (r.map fun x => W.d (eb x), S') ∧ Up B n n' S S'
  | 0, i, n, S, r, n', h, a, hr => by
    rw [List.drop_of_length_le (by omega)] at hr
    cases hr
    refine ⟨S, ?_, .refl a⟩
    unfold cloop
    rw [hs n S a, List.getElem?_eq_none (by rw [List.length_map]; omega)]
    rfl
  | j + 1, i, n, S, r, n', h, a, hr => by
    have hi : i < l.length := by omega
    rw [List.drop_eq_getElem_cons hi] at hr
    obtain ⟨⟨y, n1⟩, e1, hr1⟩ := bind_some (show (fp l[i] n).bind _ = some (r, n') from hr)
    obtain ⟨⟨t, n2⟩, e2, hr2⟩ := bind_some hr1
    cases hr2
    obtain ⟨ρ1, q1, a1, _⟩ := hg l[i] n ρ S a
    obtain ⟨S1, q2, u1⟩ := hm l[i] n ρ1 S a1 y n1 e1
    obtain ⟨S2, q3, u2⟩ := cloop_v hs hg hm j (i + 1) n1 S1 t n2 (by omega) (a.up u1) e2
    refine ⟨S2, ?_, u1.trans u2⟩
    unfold cloop
    rw [hs n S a, List.getElem?_map, List.getElem?_eq_getElem hi]
    show ((g S (.d (k l[i])) ρ).bind _) = _
    rw [q1]
    show ((m ρ1 S).bind _) = _
    rw [q2]
    show ((cloop src g tyes m ρ j (i + 1) S1).bind _) = _
    rw [q3]
    rfl
theorem efv_comp {k : α → D} {eb : β → D} {g : Gm} {mi : Im} {E1 : α → List (Option En)} {T1 vs pp : List Nat} {xs : Option (List α)} {fp : α → List Int → Option (β × List Int)} (hs : Sr B ns E pp mi k xs) (hp : ∀ i, i ∈ pp → i ∉ vs) (hg : ∀ x, Tg B (k x) g (wipeE E vs) (E1 x) T1) (hm : ∀ x n, Edv B n (E1 x) eb m (fp x n)) :
    EFv B ns E eb (mcomp mi g tyes m vs) (xs.bind fun l => ocompS l ns fp) := fun ρ S a r n' hr => by
  obtain ⟨l, rfl, k1⟩ := bind_some hr
  obtain ⟨⟨r', n1⟩, e1, k2⟩ := bind_some k1
  obtain ⟨r2, k3, k4⟩ := bind_some k2
  obtain ⟨hl, rfl⟩ := ite_some k3
  cases k4
  obtain ⟨src, h1, h2, h3⟩ := hs ρ S a l rfl
  have wp : ∀ (vs : List Nat) (i : Nat), i ∉ vs → (mwipe ρ vs)[i]? = ρ[i]? ∧ (wipeE E vs)[i]? = E[i]? := by
    intro vs
    induction vs with
    | nil => intro i _; exact ⟨rfl, rfl⟩
    | cons v vs ih =>
      intro i hi
      have h1 : v ≠ i := fun z => hi (by simp [z])
      have := ih i fun z => hi (by simp [z])
      exact ⟨by show ((mwipe ρ vs).set v none)[i]? = _; rw [List.getElem?_set_ne h1]; exact this.1, by show ((wipeE E vs).set v none)[i]? = _; rw [List.getElem?_set_ne h1]; exact this.2⟩
  obtain ⟨S', q1, u⟩ := cloop_v (ρ := mwipe ρ vs) (fun n S2 a2 i => h3 n _ _ S2 a2 (fun i hi => wp vs i (hp i hi)) i) hg hm l.length 0 ns S _ _ (by omega) (a.wipes vs) (by rw [List.drop_zero]; exact e1)
  refine ⟨S', ?_, u⟩
  simp only [mcomp_ap, h1, h2, Option.bind_some, q1]
  exact lim_ap (by rw [List.length_map]; exact hl)
end
end GM

set_option Elab.async false
set_option linter.all false
set_option maxRecDepth 100000
set_option maxHeartbeats 4000000
set_option autoImplicit false
namespace GM
open PySem L2
/-! ### statements -/
inductive Oc (σ R : Type) where
  | nx (s : σ) | bk (s : σ) | ct (s : σ) | ret (r : R)
section
variable {σ σ2 R τ τ2 α β : Type}
def RetV (B : Bs) (nw : Bool) (S : Sto) (w : W) (d : D) : Prop := (nw = false ∧ w = .d d) ∨ ∃ k ds, w = .ref k ∧ d = .lst ds ∧ S[k]? = some (.lst (ds.map W.d)) ∧ ∀ ns, (B.f ns).length ≤ k
def OutR (B : Bs) (nw : Bool) (pins : List Nat) (ρ0 : Rho) (P : σ → List Int × List (Option En)) (q : R → D × List Int) : Oc σ R → Out → Prop
  | .nx s, .nx ρ S => Ag B (P s).1 (P s).2 ρ S ∧ ∀ i, i ∈ pins → ρ[i]? = ρ0[i]?
  | .bk s, .bk ρ S => Ag B (P s).1 (P s).2 ρ S ∧ ∀ i, i ∈ pins → ρ[i]? = ρ0[i]?
  | .ct s, .ct ρ S => Ag B (P s).1 (P s).2 ρ S ∧ ∀ i, i ∈ pins → ρ[i]? = ρ0[i]?
  | .ret r, .ret w S => (∃ X, S = B.f (q r).2 ++ X) ∧ RetV B nw S w (q r).1
  | _, _ => False
def St (B : Bs) (nw : Bool) (pins : List Nat) (ns : List Int) (E : List (Option En)) (b : Bm) (em : τ → Oc σ R) (o : Option τ) (P : σ → List Int × List (Option En)) (q : R → D × List Int) : Prop :=
  ∀ ρ S, Ag B ns E ρ S → ∀ t, o = some t → ∃ out, b ρ S = some out ∧ OutR B nw pins ρ P q (em t) out
variable {B : Bs} {nw : Bool} {pins : List Nat} {ns : List Int} {E : List (Option En)} {b a rest : Bm} {em : τ → Oc σ R} {P : σ → List Int × List (Option En)} {q : R → D × List Int} {m ma mb : Em} {am : Am} {e : α → D} {f : β → D}
theorem OutR.pin {ρ ρ0 : Rho} {r : Oc σ R} {out : Out} (h : OutR B nw pins ρ P q r out) (hp : ∀ i, i ∈ pins → ρ[i]? = ρ0[i]?) : OutR B nw pins ρ0 P q r out := by
  cases r <;> cases out <;> first | exact ⟨h.1, fun i hi => (h.2 i hi).trans (hp i hi)⟩ | exact h
theorem bseq_bnil {a : Bm} : bseq a bnil = a := by
  funext ρ S
  show (a ρ S).bind _ = _
  cases a ρ S with
  | none => rfl
  | some o => cases o <;> rfl
theorem bseq_assoc {a b c : Bm} : bseq (bseq a b) c = bseq a (bseq b c) := by
  funext ρ S
  show ((a ρ S).bind _).bind _ = (a ρ S).bind _
  cases a ρ S with
  | none => rfl
  | some o => cases o <;> rfl
theorem bseq_bcond {c : Tm} {a b r : Bm} : bseq (bcond c a b) r = bcond c (bseq a r) (bseq b r) := by
  funext ρ S
  show ((c ρ S).bind _).bind _ = (c ρ S).bind _
  cases c ρ S with
  | none => rfl
  | some p => obtain ⟨x, S1⟩ := p; cases x <;> rfl
theorem bseq_bret {m : Em} {r : Bm} : bseq (bret m) r = bret m := by
  funext ρ S
  show ((m ρ S).bind _).bind _ = (m ρ S).bind _
  cases m ρ S with
  | none => rfl
  | some p => rfl
theorem St.cast {o o' : Option τ} (h : St B nw pins ns E b em o P q) (e : o = o') : St B nw pins ns E b em o' P q := e ▸ h
theorem st_last {o : Option τ} (h : St B nw pins ns E (bseq a bnil) em o P q) : St B nw pins ns E a em o P q := by rw [bseq_bnil] at h; exact h
theorem st_qseq {o : Option τ} (h : St B nw pins ns E (bseq a (bseq b rest)) em o P q) : St B nw pins ns E (bseq (bseq a b) rest) em o P q := by rw [bseq_assoc]; exact h
theorem st_qnil {o : Option τ} (h : St B nw pins ns E rest em o P q) : St B nw pins ns E (bseq bnil rest) em o P q := h
theorem st_qif {c : Tm} {o : Option τ} (h : St B nw pins ns E (bcond c (bseq a rest) (bseq b rest)) em o P q) : St B nw pins ns E (bseq (bcond c a b) rest) em o P q := by rw [bseq_bcond]; exact h
theorem st_qret {o : Option τ} (h : St B nw pins ns E (bret m) em o P q) : St B nw pins ns E (bseq (bret m) rest) em o P q := by rw [bseq_bret]; exact h
theorem st_qbrk {o : Option τ} (h : St B nw pins ns E bbrk em o P q) : St B nw pins ns E (bseq bbrk rest) em o P q := h
theorem st_qcnt {o : Option τ} (h : St B nw pins ns E bcnt em o P q) : St B nw pins ns E (bseq bcnt rest) em o P q := h
theorem st_nil {t : τ} (s : σ) (he : em t = .nx s) (hn : (P s).1 = ns) (hl : LeE (P s).2 E) : St B nw pins ns E bnil em (some t) P q := fun ρ S a t' ht => by
  cases ht
  refine ⟨.nx ρ S, rfl, ?_⟩
  rw [he]
  exact ⟨by rw [hn]; exact a.le hl, fun _ _ => rfl⟩
theorem st_brk {t : τ} (s : σ) (he : em t = .bk s) (hn : (P s).1 = ns) (hl : LeE (P s).2 E) : St B nw pins ns E bbrk em (some t) P q := fun ρ S a t' ht => by
  cases ht
  refine ⟨.bk ρ S, rfl, ?_⟩
  rw [he]
  exact ⟨by rw [hn]; exact a.le hl, fun _ _ => rfl⟩
theorem st_cnt {t : τ} (s : σ) (he : em t = .ct s) (hn : (P s).1 = ns) (hl : LeE (P s).2 E) : St B nw pins ns E bcnt em (some t) P q := fun ρ S a t' ht => by
  cases ht
  refine ⟨.ct ρ S, rfl, ?_⟩
  rw [he]
  exact ⟨by rw [hn]; exact a.le hl, fun _ _ => rfl⟩
/-- a step that changes slots and cells, then the rest -/
theorem st_step {E1 : List (Option En)} {ns1 : List Int} {o : Option τ} {ρ : Rho} {S : Sto} {t : τ} {ρ1 : Rho} {S1 : Sto} (h1 : a ρ S = some (.nx ρ1 S1)) (a1 : Ag B ns1 E1 ρ1 S1) (hp : ∀ i, i ∈ pins → ρ1[i]? = ρ[i]?) (hr : St B nw pins ns1 E1 rest em o P q) (ht : o = some t) :
    ∃ out, bseq a rest ρ S = some out ∧ OutR B nw pins ρ P q (em t) out := by
  obtain ⟨out, e1, e2⟩ := hr ρ1 S1 a1 t ht
  refine ⟨out, ?_, e2.pin hp⟩
  show (a ρ S).bind _ = _
  rw [h1]; exact e1
theorem pin_set {ρ : Rho} {i : Nat} {x : Option W} (hi : i ∉ pins) : ∀ j, j ∈ pins → (ρ.set i x)[j]? = ρ[j]? := fun j hj => List.getElem?_set_ne fun z => hi (by rw [z]; exact hj)
theorem st_set {i : Nat} {oa : Option α} {k : α → Option τ} (hm : Ed B ns E e m oa) (hk : ∀ x, St B nw pins ns (E.set i (some (.v (e x)))) rest em (k x) P q) (hi : i ∉ pins := by decide) : St B nw pins ns E (bseq (bset i m) rest) em (oa.bind k) P q := fun ρ S a t ht => by
  obtain ⟨x, rfl, h1⟩ := bind_some ht
  exact st_step (ρ1 := ρ.set i (some (.d (e x)))) (S1 := S) (by simp [hm ρ S a x rfl]) (a.setv i _) (pin_set hi) (hk x) h1
theorem st_setd {i : Nat} {oa : Option (α × List Int)} {k : α × List Int → Option τ} (hm : Edv B ns E e m oa) (hk : ∀ p : α × List Int, St B nw pins p.2 (E.set i (some (.v (e p.1)))) rest em (k p) P q) (hi : i ∉ pins := by decide) : St B nw pins ns E (bseq (bset i m) rest) em (oa.bind k) P q := fun ρ S a t ht => by
  obtain ⟨⟨x, n1⟩, rfl, h1⟩ := bind_some ht
  obtain ⟨S1, q1, u⟩ := hm ρ S a x n1 rfl
  exact st_step (ρ1 := ρ.set i (some (.d (e x)))) (S1 := S1) (by simp [q1]) ((a.up u).setv i _) (pin_set hi) (hk (x, n1)) h1
theorem st_copy {i j : Nat} {x : α} {o : Option τ} (h : E[j]? = some (some (.r (e x)))) (hk : St B nw pins ns (E.set i (some (.r (e x)))) rest em o P q) (hi : i ∉ pins := by decide) : St B nw pins ns E (bseq (bset i (mv j)) rest) em o P q := fun ρ S a t ht => by
  obtain ⟨w, q1, q2⟩ := a.val j _ h
  refine st_step (ρ1 := ρ.set i (some w)) (S1 := S) (by simp [q1]) ?_ (pin_set hi) hk ht
  obtain ⟨κ, h1, h2⟩ := a.own
  refine ⟨by rw [List.length_set, List.length_set]; exact a.len, a.pre, fun j' d h' => ?_, fun j' d h' => ?_, fun j' w' h' => ?_, κ, fun j' ds h' => ?_, fun j' k ds ds' h' h'' e' => ?_⟩
  · rcases set_cases h' with ⟨rfl, hl, e'⟩ | ⟨hij, h'⟩
    · cases e'
    · rw [List.getElem?_set_ne hij]; exact a.dat j' d h'
  · rcases set_cases h' with ⟨rfl, hl, e'⟩ | ⟨hij, h'⟩
    · cases e'
      exact ⟨w, List.getElem?_set_self (by rw [a.len]; exact hl), q2⟩
    · rw [List.getElem?_set_ne hij]; exact a.val j' d h'
  · rcases set_cases h' with ⟨rfl, hl, e'⟩ | ⟨hij, h'⟩
    · cases e'
    · rw [List.getElem?_set_ne hij]; exact a.wrd j' w' h'
  · rcases set_cases h' with ⟨rfl, hl, e'⟩ | ⟨hij, h'⟩
    · cases e'
    · rw [List.getElem?_set_ne hij]; exact h1 j' ds h'
  · rcases set_cases h' with ⟨rfl, hl, z⟩ | ⟨hij, h'⟩
    · cases z
    · rcases set_cases h'' with ⟨rfl, hl, z⟩ | ⟨hij', h''⟩
      · cases z
      · exact h2 j' k ds ds' h' h'' e'
theorem st_rv {i : Nat} {x : α} {o : Option τ} (h : E[i]? = some (some (.r (e x)))) (he : ∀ x ds, e x ≠ .lst ds) (hk : St B nw pins ns (E.set i (some (.v (e x)))) b em o P q) : St B nw pins ns E b em o P q := fun ρ S a t ht => by
  refine hk ρ S ?_ t ht
  obtain ⟨w, q1, q2⟩ := a.vw h
  have := q2.flat (he x)
  subst this
  have a2 := a.setv i (e x)
  have : ρ.set i (some (.d (e x))) = ρ := by
    apply List.ext_getElem?
    intro j
    rw [List.getElem?_set]
    split
    · rename_i hj
      subst hj
      split
      · exact q1.symm
      · rename_i hl
        exact (List.getElem?_eq_none (by omega)).symm
    · rfl
  rw [this] at a2
  exact a2
theorem st_move {i j : Nat} {l : List α} {o : Option τ} (h : E[j]? = some (some (.own (l.map e)))) (hk : St B nw pins ns ((E.set j none).set i (some (.own (l.map e)))) rest em o P q) (hi : i ∉ pins := by decide) : St B nw pins ns E (bseq (bset i (mv j)) rest) em o P q := fun ρ S a t ht => by
  obtain ⟨w, q1, q2⟩ := a.move (i := i) h
  exact st_step (ρ1 := ρ.set i (some w)) (S1 := S) (by simp [q1]) q2 (pin_set hi) hk ht
theorem st_seto {i : Nat} {oa : Option (List α)} {k : List α → Option τ} (hm : EF B ns E e am oa) (hk : ∀ x, St B nw pins ns (E.set i (some (.own (x.map e)))) rest em (k x) P q) (hi : i ∉ pins := by decide) : St B nw pins ns E (bseq (bset i (thw am)) rest) em (oa.bind k) P q := fun ρ S a t ht => by
  obtain ⟨x, rfl, h1⟩ := bind_some ht
  exact st_step (ρ1 := ρ.set i (some (.ref S.length))) (S1 := S ++ [.lst ((x.map e).map W.d)]) (by rw [map_emap]; simp [hm ρ S a x rfl]) (a.seto i _) (pin_set hi) (hk x) h1
theorem st_setod {i : Nat} {oa : Option (List α × List Int)} {k : List α × List Int → Option τ} (hm : EFv B ns E e am oa) (hk : ∀ p : List α × List Int, St B nw pins p.2 (E.set i (some (.own (p.1.map e)))) rest em (k p) P q) (hi : i ∉ pins := by decide) : St B nw pins ns E (bseq (bset i (thw am)) rest) em (oa.bind k) P q := fun ρ S a t ht => by
  obtain ⟨⟨x, n1⟩, rfl, h1⟩ := bind_some ht
  obtain ⟨S1, q1, u⟩ := hm ρ S a x n1 rfl
  exact st_step (ρ1 := ρ.set i (some (.ref S1.length))) (S1 := S1 ++ [.lst ((x.map e).map W.d)]) (by rw [map_emap]; simp [q1]) ((a.up u).seto i _) (pin_set hi) (hk (x, n1)) h1
theorem st_asg {g : Gm} {T : List Nat} {E1 : α → List (Option En)} {oa : Option α} {k : α → Option τ} (hm : Ed B ns E e m oa) (hg : ∀ x, Tg B (e x) g E (E1 x) T) (hk : ∀ x, St B nw pins ns (E1 x) rest em (k x) P q) (hi : ∀ i, i ∈ pins → i ∉ T := by decide) : St B nw pins ns E (bseq (basg g m) rest) em (oa.bind k) P q := fun ρ S a t ht => by
  obtain ⟨x, rfl, h1⟩ := bind_some ht
  obtain ⟨ρ1, g1, a1, p1⟩ := hg x ns ρ S a
  exact st_step (ρ1 := ρ1) (S1 := S) (by simp [hm ρ S a x rfl, g1]) a1 (fun i hp => p1 i (hi i hp)) (hk x) h1
theorem st_asgd {g : Gm} {T : List Nat} {E1 : α → List (Option En)} {oa : Option (α × List Int)} {k : α × List Int → Option τ} (hm : Edv B ns E e m oa) (hg : ∀ x, Tg B (e x) g E (E1 x) T) (hk : ∀ p : α × List Int, St B nw pins p.2 (E1 p.1) rest em (k p) P q) (hi : ∀ i, i ∈ pins → i ∉ T := by decide) : St B nw pins ns E (bseq (basg g m) rest) em (oa.bind k) P q := fun ρ S a t ht => by
  obtain ⟨⟨x, n1⟩, rfl, h1⟩ := bind_some ht
  obtain ⟨S1, q1, u⟩ := hm ρ S a x n1 rfl
  obtain ⟨ρ1, g1, a1, p1⟩ := hg x n1 ρ S1 (a.up u)
  exact st_step (ρ1 := ρ1) (S1 := S1) (by simp [q1, g1]) a1 (fun i hp => p1 i (hi i hp)) (hk (x, n1)) h1
theorem st_par {i j : Nat} {oa : Option α} {ob : Option β} {k : α → β → Option τ} (ha : Ed B ns E e ma oa) (hb : Ed B ns E f mb ob) (hk : ∀ x y, St B nw pins ns ((E.set i (some (.v (e x)))).set j (some (.v (f y)))) rest em (k x y) P q) (hi : i ∉ pins := by decide) (hj : j ∉ pins := by decide) :
    St B nw pins ns E (bseq (bpar i j (acons ma (acons mb anil))) rest) em (oa.bind fun x => ob.bind fun y => k x y) P q := fun ρ S a t ht => by
  obtain ⟨x, rfl, h1⟩ := bind_some ht
  obtain ⟨y, rfl, h2⟩ := bind_some h1
  exact st_step (ρ1 := (ρ.set i (some (.d (e x)))).set j (some (.d (f y)))) (S1 := S) (by simp [ha ρ S a x rfl, hb ρ S a y rfl]) ((a.setv i _).setv j _) (fun l hl => by rw [pin_set hj l hl, pin_set hi l hl]) (hk x y) h2
def oapp (l : List α) (x : α) : Option (List α) := if l.length ≤ 1000000 then some (l ++ [x]) else none
theorem app_core {ρ : Rho} {S S1 : Sto} {i k : Nat} {l l' : List α} {x : α} {n1 : List Int} (a1 : Ag B n1 E ρ S1) (hk : ρ[i]? = some (some (.ref k))) (hs : lstOf S k ≠ none) (hk2 : S1[k]? = some (.lst ((l.map e).map W.d))) (hx : m ρ S = some (.d (e x), S1)) (h : oapp l x = some l') :
    mmeth tAppend (mv i) (acons m anil) ρ S = some (.d .non, S1.set k (.lst ((l'.map e).map W.d))) := by
  obtain ⟨hc, rfl⟩ := ite_some h
  have e1 := lstOf_eq hk2
  obtain ⟨ws, e2⟩ := Option.ne_none_iff_exists'.mp hs
  rw [mmeth_ap, mv_ap, hk]
  simp only [Option.bind_some, e2, acons_ap, anil_ap, hx, e1]
  have : tAppend ((l.map e).map W.d) [.d (e x)] = some (.d .non, ((l ++ [x]).map e).map W.d) := by
    show (if _ then _ else _) = _
    rw [if_pos (by simpa using hc)]
    simp
  rw [this]
  rfl
theorem st_app {i : Nat} {l : List α} {ox : Option α} {k : List α → Option τ} (h : E[i]? = some (some (.own (l.map e)))) (hx : Ed B ns E e m ox) (hk : ∀ l', St B nw pins ns (E.set i (some (.own (l'.map e)))) rest em (k l') P q) :
    St B nw pins ns E (bseq (bdrop (mmeth tAppend (mv i) (acons m anil))) rest) em (ox.bind fun x => (oapp l x).bind k) P q := fun ρ S a t ht => by
  obtain ⟨x, rfl, h1⟩ := bind_some ht
  obtain ⟨l', h2, h3⟩ := bind_some h1
  obtain ⟨c, p1, p2, p3, p4⟩ := a.puto h (l'.map e)
  exact st_step (ρ1 := ρ) (S1 := S.set c (.lst ((l'.map e).map W.d))) (by rw [bdrop_ap, app_core a p1 (by rw [lstOf_eq p2]; exact fun z => nomatch z) p2 (hx ρ S a x rfl) h2]; rfl) p4 (fun _ _ => rfl) (hk l') h3
theorem st_appd {i : Nat} {l : List α} {ox : Option (α × List Int)} {k : List α → List Int → Option τ} (h : E[i]? = some (some (.own (l.map e)))) (hx : Edv B ns E e m ox) (hk : ∀ l' n1, St B nw pins n1 (E.set i (some (.own (l'.map e)))) rest em (k l' n1) P q) :
    St B nw pins ns E (bseq (bdrop (mmeth tAppend (mv i) (acons m anil))) rest) em (ox.bind fun p => (oapp l p.1).bind fun l' => k l' p.2) P q := fun ρ S a t ht => by
  obtain ⟨⟨x, n1⟩, rfl, h1⟩ := bind_some ht
  obtain ⟨l', h2, h3⟩ := bind_some h1
  obtain ⟨S1, q1, u⟩ := hx ρ S a x n1 rfl
  obtain ⟨c, p1, p2, p3, p4⟩ := (a.up u).puto h (l'.map e)
  obtain ⟨c', r1, r2, _⟩ := a.puto h (l'.map e)
  have : c = c' := by rw [p1] at r1; injection r1 with z; injection z with z; injection z with z
  subst this
  exact st_step (ρ1 := ρ) (S1 := S1.set c (.lst ((l'.map e).map W.d))) (by rw [bdrop_ap, app_core (a.up u) p1 (by rw [lstOf_eq r2]; exact fun z => nomatch z) p2 q1 h2]; rfl) p4 (fun _ _ => rfl) (hk l' n1) h3
def oset (l : List α) (i : Int) (x : α) : Option (List α) := (ixN l.length i).map fun n => l.set n x
theorem st_sub {i : Nat} {l : List α} {mi : Em} {ox : Option α} {oj : Option Int} {k : List α → Option τ} (h : E[i]? = some (some (.own (l.map e)))) (hx : Ed B ns E e m ox) (hj : Ed B ns E .int mi oj) (hk : ∀ l', St B nw pins ns (E.set i (some (.own (l'.map e)))) rest em (k l') P q) :
    St B nw pins ns E (bseq (bsub m (mv i) mi) rest) em (ox.bind fun x => oj.bind fun j => (oset l j x).bind k) P q := fun ρ S a t ht => by
  obtain ⟨x, rfl, h1⟩ := bind_some ht
  obtain ⟨j, rfl, h2⟩ := bind_some h1
  obtain ⟨l', h3, h4⟩ := bind_some h2
  obtain ⟨c, p1, p2, p3, p4⟩ := a.puto h (l'.map e)
  refine st_step (ρ1 := ρ) (S1 := S.set c (.lst ((l'.map e).map W.d))) ?_ p4 (fun _ _ => rfl) (hk l') h4
  obtain ⟨n, e1, e2⟩ := Option.map_eq_some_iff.mp h3
  subst e2
  simp only [bsub_ap, hx ρ S a x rfl, hj ρ S a j rfl, mv_ap, p1, Option.bind_some, lstOf_eq p2, List.length_map, e1]
  rw [List.map_set, List.map_set]
theorem st_aug {i : Nat} {x : Int} {g : Int → Int → Int} {ob : Option Int} {k : Int → Option τ} (h : Ed B ns E .int (mv i) (some x)) (hb : Ed B ns E .int m ob) (hk : ∀ y, St B nw pins ns (E.set i (some (.v (.int (g x y))))) rest em (k (g x y)) P q) (hi : i ∉ pins := by decide) :
    St B nw pins ns E (bseq (baug i g m) rest) em (ob.bind fun y => k (g x y)) P q := fun ρ S a t ht => by
  obtain ⟨y, rfl, h1⟩ := bind_some ht
  have q1 : ρ[i]? = some (some (.d (.int x))) := by
    have := h ρ S a x rfl
    rw [mv_ap] at this
    split at this
    · rename_i w e; cases this; exact e
    · cases this
  refine st_step (ρ1 := ρ.set i (some (.d (.int (g x y))))) (S1 := S) ?_ (a.setv i _) (pin_set hi) (hk y) h1
  unfold baug
  rw [q1]
  show (m ρ S).bind _ = _
  rw [hb ρ S a y rfl]
  rfl
def opop (l : List α) : Option (α × List α) := l[l.length - 1]?.map fun x => (x, l.dropLast)
theorem st_pop {i j : Nat} {l : List α} {k : α × List α → Option τ} (h : E[i]? = some (some (.own (l.map e)))) (hk : ∀ p : α × List α, St B nw pins ns ((E.set i (some (.own (p.2.map e)))).set j (some (.v (e p.1)))) rest em (k p) P q) (hj : j ∉ pins := by decide) :
    St B nw pins ns E (bseq (bset j (mmeth tPop (mv i) anil)) rest) em ((opop l).bind k) P q := fun ρ S a t ht => by
  obtain ⟨p, h1, h2⟩ := bind_some ht
  obtain ⟨x, e1, rfl⟩ := Option.map_eq_some_iff.mp h1
  obtain ⟨c, p1, p2, p3, p4⟩ := a.puto h (l.dropLast.map e)
  refine st_step (ρ1 := ρ.set j (some (.d (e x)))) (S1 := S.set c (.lst ((l.dropLast.map e).map W.d))) ?_ (p4.setv j _) (pin_set hj) (hk (x, l.dropLast)) h2
  have : tPop ((l.map e).map W.d) [] = some (.d (e x), ((l.dropLast.map e).map W.d)) := by
    show (((l.map e).map W.d)[((l.map e).map W.d).length - 1]?).bind _ = _
    rw [List.length_map, List.length_map, List.getElem?_map, List.getElem?_map, e1, map_emap, map_emap, ← List.map_dropLast]
    rfl
  rw [bset_ap, mmeth_ap, mv_ap, p1]
  simp only [Option.bind_some, lstOf_eq p2, anil_ap, this]
theorem st_rev {i : Nat} {l : List α} {o : Option τ} (h : E[i]? = some (some (.own (l.map e)))) (hk : St B nw pins ns (E.set i (some (.own (l.reverse.map e)))) rest em o P q) : St B nw pins ns E (bseq (bdrop (mmeth tReverse (mv i) anil)) rest) em o P q := fun ρ S a t ht => by
  obtain ⟨c, p1, p2, p3, p4⟩ := a.puto h (l.reverse.map e)
  refine st_step (ρ1 := ρ) (S1 := S.set c (.lst ((l.reverse.map e).map W.d))) ?_ p4 (fun _ _ => rfl) hk ht
  rw [bdrop_ap, mmeth_ap, mv_ap, p1]
  simp only [Option.bind_some, lstOf_eq p2, anil_ap]
  have : tReverse ((l.map e).map W.d) [] = some (.d .non, (l.reverse.map e).map W.d) := by
    show some (W.d .non, ((l.map e).map W.d).reverse) = _
    rw [← List.map_reverse, ← List.map_reverse]
  rw [this]
  rfl
theorem st_drop {oa : Option α} {k : α → Option τ} (hm : Ed B ns E e m oa) (hk : ∀ x, St B nw pins ns E rest em (k x) P q) : St B nw pins ns E (bseq (bdrop m) rest) em (oa.bind k) P q := fun ρ S a t ht => by
  obtain ⟨x, rfl, h1⟩ := bind_some ht
  exact st_step (ρ1 := ρ) (S1 := S) (by simp [hm ρ S a x rfl]) a (fun _ _ => rfl) (hk x) h1
theorem st_dropd {oa : Option (α × List Int)} {k : α × List Int → Option τ} (hm : Edv B ns E e m oa) (hk : ∀ p : α × List Int, St B nw pins p.2 E rest em (k p) P q) : St B nw pins ns E (bseq (bdrop m) rest) em (oa.bind k) P q := fun ρ S a t ht => by
  obtain ⟨⟨x, n1⟩, rfl, h1⟩ := bind_some ht
  obtain ⟨S1, q1, u⟩ := hm ρ S a x n1 rfl
  exact st_step (ρ1 := ρ) (S1 := S1) (by simp [q1]) (a.up u) (fun _ _ => rfl) (hk (x, n1)) h1
/-! return -/
theorem pre_ret {n1 : List Int} {ρ : Rho} {S : Sto} (a : Ag B n1 E ρ S) {d : D} {x : D × List Int} (h : x = (d, n1)) {w : W} (hv : RetV B nw S w d) : (∃ X, S = B.f x.2 ++ X) ∧ RetV B nw S w x.1 := by
  subst h
  exact ⟨a.pre, hv⟩
theorem st_ret {oa : Option α} {g : α → τ} (hm : Ed B ns E e m oa) (hq : ∀ x, ∃ r, em (g x) = .ret r ∧ q r = (e x, ns)) (hnw : nw = false := by rfl) : St B nw pins ns E (bret m) em (oa.bind fun x => some (g x)) P q := fun ρ S a t ht => by
  obtain ⟨x, rfl, h1⟩ := bind_some ht
  cases h1
  obtain ⟨r, e1, e2⟩ := hq x
  refine ⟨.ret (.d (e x)) S, by simp [hm ρ S a x rfl], ?_⟩
  rw [e1]
  exact pre_ret a e2 (.inl ⟨hnw, rfl⟩)
theorem st_ret1 {oa : Option τ} {e : τ → D} (hm : Ed B ns E e m oa) (hq : ∀ x, ∃ r, em x = .ret r ∧ q r = (e x, ns)) (hnw : nw = false := by rfl) : St B nw pins ns E (bret m) em oa P q := by
  have h := st_ret (pins := pins) (g := fun x => x) (P := P) hm hq hnw
  have e1 : (oa.bind fun x => some x) = oa := by cases oa <;> rfl
  rw [e1] at h; exact h
theorem st_retd {oa : Option (α × List Int)} {g : α × List Int → τ} (hm : Edv B ns E e m oa) (hq : ∀ p : α × List Int, ∃ r, em (g p) = .ret r ∧ q r = (e p.1, p.2)) (hnw : nw = false := by rfl) : St B nw pins ns E (bret m) em (oa.bind fun x => some (g x)) P q := fun ρ S a t ht => by
  obtain ⟨⟨x, n1⟩, rfl, h1⟩ := bind_some ht
  cases h1
  obtain ⟨r, e1, e2⟩ := hq (x, n1)
  obtain ⟨S1, q1, u⟩ := hm ρ S a x n1 rfl
  refine ⟨.ret (.d (e x)) S1, by simp [q1], ?_⟩
  rw [e1]
  exact pre_ret (a.up u) e2 (.inl ⟨hnw, rfl⟩)
theorem st_retd1 {oa : Option (α × List Int)} {em : α × List Int → Oc σ R} (hm : Edv B ns E e m oa) (hq : ∀ p : α × List Int, ∃ r, em p = .ret r ∧ q r = (e p.1, p.2)) (hnw : nw = false := by rfl) : St B nw pins ns E (bret m) em oa P q := by
  have h := st_retd (pins := pins) (em := em) (g := fun x => x) (P := P) hm hq hnw
  have e1 : (oa.bind fun x => some x) = oa := by cases oa <;> rfl
  rw [e1] at h; exact h
theorem st_reto {i : Nat} {l : List α} {t : τ} (h : E[i]? = some (some (.own (l.map e)))) (hq : ∃ r, em t = .ret r ∧ q r = (eL e l, ns)) : St B nw pins ns E (bret (mv i)) em (some t) P q := fun ρ S a t' ht => by
  cases ht
  obtain ⟨r, e1, e2⟩ := hq
  obtain ⟨κ, h1, _⟩ := a.own
  obtain ⟨p1, p2, p3⟩ := h1 i _ h
  refine ⟨.ret (.ref (κ i)) S, by simp [p1], ?_⟩
  rw [e1]
  exact pre_ret a e2 (.inr ⟨_, _, rfl, rfl, p3, fun n => by rw [B.len n ns]; exact p2⟩)
theorem st_retf {oa : Option (List α)} {g : List α → τ} (hm : EF B ns E e am oa) (hq : ∀ x, ∃ r, em (g x) = .ret r ∧ q r = (eL e x, ns)) : St B nw pins ns E (bret (thw am)) em (oa.bind fun x => some (g x)) P q := fun ρ S a t ht => by
  obtain ⟨x, rfl, h1⟩ := bind_some ht
  cases h1
  obtain ⟨r, e1, e2⟩ := hq x
  refine ⟨.ret (.ref S.length) (S ++ [.lst ((x.map e).map W.d)]), by rw [map_emap]; simp [hm ρ S a x rfl], ?_⟩
  rw [e1]
  obtain ⟨X, hX⟩ := a.pre
  show (∃ Y, _ = B.f (q r).2 ++ Y) ∧ RetV B nw _ _ (q r).1
  rw [e2]
  exact ⟨⟨X ++ [.lst ((x.map e).map W.d)], by rw [← List.append_assoc, ← hX]⟩, .inr ⟨S.length, x.map e, rfl, rfl, by simp, fun n => by rw [B.len n ns, hX]; simp⟩⟩
theorem st_retfd {oa : Option (List α × List Int)} {g : List α × List Int → τ} (hm : EFv B ns E e am oa) (hq : ∀ p : List α × List Int, ∃ r, em (g p) = .ret r ∧ q r = (eL e p.1, p.2)) : St B nw pins ns E (bret (thw am)) em (oa.bind fun x => some (g x)) P q := fun ρ S a t ht => by
  obtain ⟨⟨x, n1⟩, rfl, h1⟩ := bind_some ht
  cases h1
  obtain ⟨r, e1, e2⟩ := hq (x, n1)
  obtain ⟨S1, q1, u⟩ := hm ρ S a x n1 rfl
  refine ⟨.ret (.ref S1.length) (S1 ++ [.lst ((x.map e).map W.d)]), by rw [map_emap]; simp [q1], ?_⟩
  rw [e1]
  obtain ⟨X, hX⟩ := (a.up u).pre
  show (∃ Y, _ = B.f (q r).2 ++ Y) ∧ RetV B nw _ _ (q r).1
  rw [e2]
  exact ⟨⟨X ++ [.lst ((x.map e).map W.d)], by rw [← List.append_assoc, ← hX]⟩, .inr ⟨S1.length, x.map e, rfl, rfl, by simp, fun n => by rw [B.len n n1, hX]; simp⟩⟩
/-! if, and what is joined behind -/
theorem st_if {c : Tm} {oc : Option Bool} {oa ob : Option τ} (hc : Et B ns E c oc) (ha : St B nw pins ns E a em oa P q) (hb : St B nw pins ns E b em ob P q) : St B nw pins ns E (bcond c a b) em (oc.bind fun c => if c = true then oa else ob) P q := fun ρ S ag t ht => by
  obtain ⟨x, rfl, h1⟩ := bind_some ht
  cases x with
  | true =>
    obtain ⟨out, e1, e2⟩ := ha ρ S ag t h1
    exact ⟨out, by simp [hc ρ S ag true rfl, e1], e2⟩
  | false =>
    obtain ⟨out, e1, e2⟩ := hb ρ S ag t h1
    exact ⟨out, by simp [hc ρ S ag false rfl, e1], e2⟩
theorem st_ifd {c : Tm} {oc : Option (Bool × List Int)} {oa ob : List Int → Option τ} (hc : Etv B ns E c oc) (ha : ∀ n1, St B nw pins n1 E a em (oa n1) P q) (hb : ∀ n1, St B nw pins n1 E b em (ob n1) P q) : St B nw pins ns E (bcond c a b) em (oc.bind fun p => if p.1 = true then oa p.2 else ob p.2) P q := fun ρ S ag t ht => by
  obtain ⟨⟨x, n1⟩, rfl, h1⟩ := bind_some ht
  obtain ⟨S1, q1, u⟩ := hc ρ S ag x n1 rfl
  cases x with
  | true =>
    obtain ⟨out, e1, e2⟩ := ha n1 ρ S1 (ag.up u) t h1
    exact ⟨out, by simp [q1, e1], e2⟩
  | false =>
    obtain ⟨out, e1, e2⟩ := hb n1 ρ S1 (ag.up u) t h1
    exact ⟨out, by simp [q1, e1], e2⟩
theorem st_join {PA : σ2 → List Int × List (Option En)} {oA : Option σ2} {k : σ2 → Option τ} (ha : St B nw pins ns E a (Oc.nx : σ2 → Oc σ2 R) oA PA q) (hk : ∀ s, St B nw pins (PA s).1 (PA s).2 rest em (k s) P q) : St B nw pins ns E (bseq a rest) em (oA.bind k) P q := fun ρ S ag t ht => by
  obtain ⟨s, rfl, h1⟩ := bind_some ht
  obtain ⟨out, e1, e2⟩ := ha ρ S ag s rfl
  cases out with
  | nx ρ1 S1 => exact st_step e1 e2.1 e2.2 (hk s) h1
  | bk _ _ => exact e2.elim
  | ct _ _ => exact e2.elim
  | ret _ _ => exact e2.elim
def oseq (er : R → τ) (k : σ2 → Option τ) : Oc σ2 R → Option τ
  | .nx s => k s
  | .ret r => some (er r)
  | _ => none
theorem st_joinG {PA : σ2 → List Int × List (Option En)} {oA : Option (Oc σ2 R)} {k : σ2 → Option τ} {er : R → τ} (ha : St B nw pins ns E a (fun t : Oc σ2 R => t) oA PA q) (hk : ∀ s, St B nw pins (PA s).1 (PA s).2 rest em (k s) P q) (he : ∀ r, em (er r) = .ret r := by intro _; rfl) : St B nw pins ns E (bseq a rest) em (oA.bind (oseq er k)) P q := fun ρ S ag t ht => by
  obtain ⟨r, rfl, h1⟩ := bind_some ht
  obtain ⟨out, e1, e2⟩ := ha ρ S ag r rfl
  cases r with
  | nx s =>
    cases out with
    | nx ρ1 S1 => exact st_step e1 e2.1 e2.2 (hk s) h1
    | _ => exact e2.elim
  | ret r =>
    cases h1
    cases out with
    | ret w S1 =>
      refine ⟨.ret w S1, ?_, by rw [he]; exact e2⟩
      show (a ρ S).bind _ = _
      rw [e1]; rfl
    | _ => exact e2.elim
  | bk _ => cases h1
  | ct _ => cases h1
/-! loops -/
def ofor (body : σ → α → Option (Oc σ R)) : List α → σ → Option (Oc σ R)
  | [], s => some (.nx s)
  | x :: r, s => (body s x).bind fun o => match o with
    | .nx s' => ofor body r s'
    | .ct s' => ofor body r s'
    | .bk s' => some (.nx s')
    | .ret v => some (.ret v)
def ofold (body : σ → α → Option σ) : List α → σ → Option σ
  | [], s => some s
  | x :: r, s => (body s x).bind fun s' => ofold body r s'
theorem ofold_ofor (body : σ → α → Option σ) : ∀ (l : List α) (s : σ) (s' : σ), ofold body l s = some s' → ofor (R := R) (fun s x => (body s x).bind fun t => some (.nx t)) l s = some (.nx s')
  | [], s, s', h => by cases h; rfl
  | x :: r, s, s', h => by
    obtain ⟨t, e1, h1⟩ := bind_some h
    show ((body s x).bind _).bind _ = _
    rw [e1]
    exact ofold_ofor body r t s' h1
theorem floop_t {kk : α → D} {g : Gm} {src : Src} {l : List α} {T pp : List Nat} {E1 : σ → α → List (Option En)} {body : σ → α → Option (Oc σ R)} {ρ0 : Rho}
    (hs : ∀ n E' ρ S, Ag B n E' ρ S → (∀ i, i ∈ pp → ρ[i]? = ρ0[i]? ∧ E'[i]? = E[i]?) → ∀ i : Nat, srcAt src S i = some ((l.map fun x => W.d (kk x))[i]?))
    (hpp : ∀ s i, i ∈ pp → (P s).2[i]? = E[i]?) (hT : ∀ i, i ∈ pins ++ pp → i ∉ T)
    (hg : ∀ s x, Tg B (kk x) g (P s).2 (E1 s x) T) (hb : ∀ s x, St B nw (pins ++ pp) (P s).1 (E1 s x) b (fun t : Oc σ R => t) (body s x) P q) :
    ∀ (j i : Nat) (s : σ) (ρ : Rho) (S : Sto) (r : Oc σ R), i + j = l.length → Ag B (P s).1 (P s).2 ρ S → (∀ i, i ∈ pins ++ pp → ρ[i]? = ρ0[i]?) → ofor body (l.drop i) s = some r → ∃ out, floop src g b j i ρ S = some out ∧ OutR B nw pins ρ0 P q r out
  | 0, i, s, ρ, S, r, h, ag, hp, hr => by
    rw [List.drop_of_length_le (by omega)] at hr
    cases hr
    refine ⟨.nx ρ S, ?_, ag, fun i hi => hp i (List.mem_append_left _ hi)⟩
    unfold floop
    rw [hs _ _ ρ S ag (fun i hi => ⟨hp i (List.mem_append_right _ hi), hpp s i hi⟩), List.getElem?_eq_none (by rw [List.length_map]; omega)]
    rfl
  | j + 1, i, s, ρ, S, r, h, ag, hp, hr => by
    have hi : i < l.length := by omega
    rw [List.drop_eq_getElem_cons hi] at hr
    obtain ⟨o, e1, hr1⟩ := bind_some (show (body s l[i]).bind _ = some r from hr)
    obtain ⟨ρ1, q1, a1, p1⟩ := hg s l[i] _ ρ S ag
    have hp1 : ∀ i, i ∈ pins ++ pp → ρ1[i]? = ρ0[i]? := fun i hi => (p1 i (hT i hi)).trans (hp i hi)
    obtain ⟨out, q2, q3⟩ := hb s l[i] ρ1 S a1 o e1
    have q3' := q3.pin hp1
    unfold floop
    rw [hs _ _ ρ S ag (fun i hi => ⟨hp i (List.mem_append_right _ hi), hpp s i hi⟩), List.getElem?_map, List.getElem?_eq_getElem hi]
    show ∃ out, ((g S (.d (kk l[i])) ρ).bind _) = some out ∧ _
    rw [q1]
    show ∃ out, ((b ρ1 S).bind _) = some out ∧ _
    rw [q2]
    cases o with
    | nx s' => cases out with
      | nx ρ2 S2 => exact floop_t hs hpp hT hg hb j (i + 1) s' ρ2 S2 r (by omega) q3'.1 q3'.2 hr1
      | _ => exact q3.elim
    | ct s' => cases out with
      | ct ρ2 S2 => exact floop_t hs hpp hT hg hb j (i + 1) s' ρ2 S2 r (by omega) q3'.1 q3'.2 hr1
      | _ => exact q3.elim
    | bk s' => cases out with
      | bk ρ2 S2 => cases hr1; exact ⟨_, rfl, q3'.1, fun i hi => q3'.2 i (List.mem_append_left _ hi)⟩
      | _ => exact q3.elim
    | ret v => cases out with
      | ret w S2 => cases hr1; exact ⟨_, rfl, q3⟩
      | _ => exact q3.elim
theorem st_forG {kk : α → D} {g : Gm} {mi : Im} {T pp : List Nat} {E1 : σ → α → List (Option En)} {xs : Option (List α)} {body : σ → α → Option (Oc σ R)} (s0 : σ) (hs : Sr B ns E pp mi kk xs) (h0 : (P s0).1 = ns) (hl : LeE (P s0).2 E)
    (hg : ∀ s x, Tg B (kk x) g (P s).2 (E1 s x) T) (hb : ∀ s x, St B nw (pins ++ pp) (P s).1 (E1 s x) b (fun t : Oc σ R => t) (body s x) P q) (hpp : ∀ s i, i ∈ pp → (P s).2[i]? = E[i]? := by intro s i hi; simp at hi; try (subst hi; rfl)) (hT : ∀ i, i ∈ pins ++ pp → i ∉ T := by decide) :
    St B nw pins ns E (bfor mi g b) (fun t : Oc σ R => t) (xs.bind fun l => ofor body l s0) P q := fun ρ S ag t ht => by
  obtain ⟨l, rfl, h1⟩ := bind_some ht
  obtain ⟨src, e1, e2, e3⟩ := hs ρ S ag l rfl
  rw [bfor_ap, e1]
  show ∃ out, floop src g b (srcLen src S) 0 ρ S = some out ∧ _
  rw [e2]
  exact floop_t (ρ0 := ρ) e3 hpp hT hg hb l.length 0 s0 ρ S t (by omega) (by rw [h0]; exact ag.le hl) (fun _ _ => rfl) (by rw [List.drop_zero]; exact h1)
theorem st_forN {kk : α → D} {g : Gm} {mi : Im} {T pp : List Nat} {E1 : σ → α → List (Option En)} {xs : Option (List α)} {body : σ → α → Option σ} (s0 : σ) (hs : Sr B ns E pp mi kk xs) (h0 : (P s0).1 = ns) (hl : LeE (P s0).2 E)
    (hg : ∀ s x, Tg B (kk x) g (P s).2 (E1 s x) T) (hb : ∀ s x, St B nw (pins ++ pp) (P s).1 (E1 s x) b (Oc.nx : σ → Oc σ R) (body s x) P q) (hpp : ∀ s i, i ∈ pp → (P s).2[i]? = E[i]? := by intro s i hi; simp at hi; try (subst hi; rfl)) (hT : ∀ i, i ∈ pins ++ pp → i ∉ T := by decide) :
    St B nw pins ns E (bfor mi g b) (Oc.nx : σ → Oc σ R) (xs.bind fun l => ofold body l s0) P q := fun ρ S ag t ht => by
  obtain ⟨l, rfl, h1⟩ := bind_some ht
  have h2 := st_forG (body := fun s x => (body s x).bind fun t => some (.nx t)) s0 hs h0 hl hg (fun s x => fun ρ S ag t ht => by
    obtain ⟨t', e1, e2⟩ := bind_some ht
    cases e2
    exact hb s x ρ S ag t' e1) hpp hT
  exact h2 ρ S ag (.nx t) (ofold_ofor body l s0 t h1)
/-- what is walked, drawn -/
def Srd (B : Bs) (ns : List Int) (E : List (Option En)) (mi : Im) (k : α → D) (o : Option (List α × List Int)) : Prop := ∀ ρ S, Ag B ns E ρ S → ∀ l ns', o = some (l, ns') → ∃ S', mi ρ S = some (.its (l.map fun x => W.d (k x)), S') ∧ Up B ns ns' S S'
theorem srd_D {o : Option (List α × List Int)} (h : Edv B ns E (eL e) m o) : Srd B ns E (isrc srcA m) e o := fun ρ S a l n' hl => by
  obtain ⟨S', q1, u⟩ := h ρ S a l n' hl
  refine ⟨S', ?_, u⟩
  simp only [isrc_ap, q1, Option.bind_some]
  show ((some (Src.its ((l.map e).map W.d))).bind _) = _
  rw [map_emap]; rfl
theorem srd_T {o : Option (List α × List Int)} (h : Edv B ns E (eT e) m o) : Srd B ns E (isrc srcA m) e o := fun ρ S a l n' hl => by
  obtain ⟨S', q1, u⟩ := h ρ S a l n' hl
  refine ⟨S', ?_, u⟩
  simp only [isrc_ap, q1, Option.bind_some]
  show ((some (Src.its ((l.map e).map W.d))).bind _) = _
  rw [map_emap]; rfl
theorem srd_rng1 {o : Option (Int × List Int)} (h : Edv B ns E .int m o) : Srd B ns E (iargs rg1 (acons m anil)) D.int (o.bind fun p => (orng1 p.1).bind fun l => some (l, p.2)) := fun ρ S a l n' hl => by
  obtain ⟨⟨x, n1⟩, rfl, h1⟩ := bind_some hl
  obtain ⟨l', h2, h3⟩ := bind_some h1
  cases h3
  obtain ⟨hc, rfl⟩ := ite_some h2
  obtain ⟨S', q1, u⟩ := h ρ S a x _ rfl
  refine ⟨S', ?_, u⟩
  have : rg1 S' [.d (.int x)] = some (.its ((irange 0 x).map fun x => W.d (.int x))) := by
    show (if x.natAbs ≤ 2000000 then some (Src.its (rngW 0 x.toNat)) else none) = _
    rw [if_pos hc, ← rngW_ir, Int.sub_zero]
  simp [q1, this]
theorem st_forGd {kk : α → D} {g : Gm} {mi : Im} {T : List Nat} {E1 : σ → α → List (Option En)} {xs : Option (List α × List Int)} {body : σ → α → Option (Oc σ R)} (s0 : List Int → σ) (hs : Srd B ns E mi kk xs) (h0 : ∀ n, (P (s0 n)).1 = n) (hl : ∀ n, LeE (P (s0 n)).2 E)
    (hg : ∀ s x, Tg B (kk x) g (P s).2 (E1 s x) T) (hb : ∀ s x, St B nw pins (P s).1 (E1 s x) b (fun t : Oc σ R => t) (body s x) P q) (hT : ∀ i, i ∈ pins → i ∉ T := by decide) :
    St B nw pins ns E (bfor mi g b) (fun t : Oc σ R => t) (xs.bind fun p => ofor body p.1 (s0 p.2)) P q := fun ρ S ag t ht => by
  obtain ⟨⟨l, n1⟩, rfl, h1⟩ := bind_some ht
  obtain ⟨S', e1, u⟩ := hs ρ S ag l n1 rfl
  rw [bfor_ap, e1]
  have hl2 : (l.map fun x => W.d (kk x)).length = l.length := by simp
  show ∃ out, floop (.its (l.map fun x => W.d (kk x))) g b (l.map fun x => W.d (kk x)).length 0 ρ S' = some out ∧ _
  rw [hl2]
  exact floop_t (E := E) (pp := []) (ρ0 := ρ) (fun _ _ _ _ _ _ _ => rfl) (fun _ i hi => by simp at hi) (by simpa using hT) hg (by simpa using hb) l.length 0 (s0 n1) ρ S' t (by omega) (by rw [h0]; exact (ag.up u).le (hl n1)) (fun _ _ => rfl) (by rw [List.drop_zero]; exact h1)
theorem st_forNd {kk : α → D} {g : Gm} {mi : Im} {T : List Nat} {E1 : σ → α → List (Option En)} {xs : Option (List α × List Int)} {body : σ → α → Option σ} (s0 : List Int → σ) (hs : Srd B ns E mi kk xs) (h0 : ∀ n, (P (s0 n)).1 = n) (hl : ∀ n, LeE (P (s0 n)).2 E)
    (hg : ∀ s x, Tg B (kk x) g (P s).2 (E1 s x) T) (hb : ∀ s x, St B nw pins (P s).1 (E1 s x) b (Oc.nx : σ → Oc σ R) (body s x) P q) (hT : ∀ i, i ∈ pins → i ∉ T := by decide) :
    St B nw pins ns E (bfor mi g b) (Oc.nx : σ → Oc σ R) (xs.bind fun p => ofold body p.1 (s0 p.2)) P q := fun ρ S ag t ht => by
  obtain ⟨⟨l, n1⟩, rfl, h1⟩ := bind_some ht
  have h2 := st_forGd (body := fun s x => (body s x).bind fun t => some (.nx t)) s0 hs h0 hl hg (fun s x => fun ρ S ag t ht => by
    obtain ⟨t', e1, e2⟩ := bind_some ht
    cases e2
    exact hb s x ρ S ag t' e1) hT
  exact h2 ρ S ag (.nx t) (ofold_ofor body l (s0 n1) t h1)
def owhile (c : σ → Option Bool) (body : σ → Option (Oc σ R)) : Nat → σ → Option (Oc σ R)
  | 0, _ => none
  | n + 1, s => (c s).bind fun b => if b = true then (body s).bind fun o => match o with
    | .nx s' => owhile c body n s'
    | .ct s' => owhile c body n s'
    | .bk s' => some (.nx s')
    | .ret v => some (.ret v) else some (.nx s)
def owhileN (c : σ → Option Bool) (body : σ → Option σ) : Nat → σ → Option σ
  | 0, _ => none
  | n + 1, s => (c s).bind fun b => if b = true then (body s).bind fun s' => owhileN c body n s' else some s
theorem st_whileG {c : Tm} {cp : σ → Option Bool} {body : σ → Option (Oc σ R)} (n : Nat) (s0 : σ) (h0 : (P s0).1 = ns) (hl : LeE (P s0).2 E) (hc : ∀ s, Et B (P s).1 (P s).2 c (cp s)) (hb : ∀ s, St B nw pins (P s).1 (P s).2 b (fun t : Oc σ R => t) (body s) P q) :
    St B nw pins ns E (bwhile n c b) (fun t : Oc σ R => t) (owhile cp body n s0) P q := fun ρ S ag t ht => by
  have key : ∀ (n : Nat) (s : σ) (ρ1 : Rho) (S : Sto), Ag B (P s).1 (P s).2 ρ1 S → (∀ i, i ∈ pins → ρ1[i]? = ρ[i]?) → owhile cp body n s = some t → ∃ out, wloop c b n ρ1 S = some out ∧ OutR B nw pins ρ P q t out := by
    intro n
    induction n with
    | zero => intro s ρ1 S _ _ h; cases h
    | succ n ih =>
      intro s ρ1 S ag hp h
      obtain ⟨x, e1, h1⟩ := bind_some h
      unfold wloop
      rw [hc s ρ1 S ag x e1]
      cases x with
      | false => cases h1; exact ⟨.nx ρ1 S, rfl, ag, hp⟩
      | true =>
        obtain ⟨o, e2, h2⟩ := bind_some (show (body s).bind _ = some t from h1)
        obtain ⟨out, q2, q3⟩ := hb s ρ1 S ag o e2
        have q3' := q3.pin hp
        show ∃ out, ((b ρ1 S).bind _) = some out ∧ _
        rw [q2]
        cases o with
        | nx s' => cases out with
          | nx ρ2 S2 => exact ih s' ρ2 S2 q3'.1 q3'.2 h2
          | _ => exact q3.elim
        | ct s' => cases out with
          | ct ρ2 S2 => exact ih s' ρ2 S2 q3'.1 q3'.2 h2
          | _ => exact q3.elim
        | bk s' => cases out with
          | bk ρ2 S2 => cases h2; exact ⟨_, rfl, q3'⟩
          | _ => exact q3.elim
        | ret v => cases out with
          | ret w S2 => cases h2; exact ⟨_, rfl, q3⟩
          | _ => exact q3.elim
  exact key n s0 ρ S (by rw [h0]; exact ag.le hl) (fun _ _ => rfl) ht
theorem owhileN_G (c : σ → Option Bool) (body : σ → Option σ) : ∀ (n : Nat) (s s' : σ), owhileN c body n s = some s' → owhile (R := R) c (fun s => (body s).bind fun t => some (.nx t)) n s = some (.nx s')
  | 0, s, s', h => by cases h
  | n + 1, s, s', h => by
    obtain ⟨x, e1, h1⟩ := bind_some h
    show (c s).bind _ = _
    rw [e1]
    cases x with
    | false => cases h1; rfl
    | true =>
      obtain ⟨t, e2, h2⟩ := bind_some (show (body s).bind _ = some s' from h1)
      show ((body s).bind _).bind _ = _
      rw [e2]
      exact owhileN_G c body n t s' h2
theorem st_whileN {c : Tm} {cp : σ → Option Bool} {body : σ → Option σ} (n : Nat) (s0 : σ) (h0 : (P s0).1 = ns) (hl : LeE (P s0).2 E) (hc : ∀ s, Et B (P s).1 (P s).2 c (cp s)) (hb : ∀ s, St B nw pins (P s).1 (P s).2 b (Oc.nx : σ → Oc σ R) (body s) P q) :
    St B nw pins ns E (bwhile n c b) (Oc.nx : σ → Oc σ R) (owhileN cp body n s0) P q := fun ρ S ag t ht => by
  have h2 := st_whileG (body := fun s => (body s).bind fun t => some (.nx t)) n s0 h0 hl hc (fun s => fun ρ S ag t ht => by
    obtain ⟨t', e1, e2⟩ := bind_some ht
    cases e2
    exact hb s ρ S ag t' e1)
  exact h2 ρ S ag (.nx t) (owhileN_G cp body n s0 t ht)
end
/-! ### defs -/
section
variable {σ R α : Type} {b : Bm} {P : σ → List Int × List (Option En)}
def E0 (ds : List D) (n : Nat) : List (Option En) := ds.map (fun d => some (En.r d)) ++ List.replicate n none
theorem start_ag {S : Sto} {ws : List W} {ds : List D} (h : Vws (Bp S) S ws ds) (n : Nat) : Ag (Bp S) [] (E0 ds n) (ws.map some ++ List.replicate n none) S := by
  have a := vws_ag h
  have none_ : ∀ {i : Nat} {x : En}, (E0 ds n)[i]? = some (some x) → (ds.map fun d => some (En.r d))[i]? = some (some x) ∧ i < ds.length := fun {i x} q => by
    unfold E0 at q
    by_cases hi : i < ds.length
    · rw [List.getElem?_append_left (by simpa using hi)] at q
      exact ⟨q, hi⟩
    · rw [List.getElem?_append_right (by simpa using hi)] at q
      have := (List.mem_of_getElem? q)
      rw [List.mem_replicate] at this
      exact absurd this.2 (by simp)
  refine ⟨by simp [E0, h.length], a.pre, fun i d q => ?_, fun i d q => ?_, fun i w q => ?_, fun _ => 0, fun i d q => ?_, fun i j d d' q => ?_⟩
  · obtain ⟨q1, _⟩ := none_ q; rw [List.getElem?_map] at q1; obtain ⟨d', q1, q2⟩ := Option.map_eq_some_iff.mp q1; cases q2
  · obtain ⟨q1, q2⟩ := none_ q
    obtain ⟨w, q3, q4⟩ := a.val i d q1
    exact ⟨w, by rw [List.getElem?_append_left (by simpa [h.length] using q2)]; exact q3, q4⟩
  all_goals (obtain ⟨q1, _⟩ := none_ q; rw [List.getElem?_map] at q1; obtain ⟨d', q1, q2⟩ := Option.map_eq_some_iff.mp q1; cases q2)
theorem ret_end {S X : Sto} {w : W} {d : D} (h : RetV (Bp S) false (S ++ X) w d) : ∃ rv, endDef S (.ret w (S ++ X)) = some (rv, S) ∧ rvW rv = some (.d d) := by
  rcases h with ⟨_, rfl⟩ | ⟨k, ds, rfl, rfl, h2, h3⟩
  · exact ⟨_, end_pure, rfl⟩
  · have hk : ¬ k < S.length := Nat.not_lt.mpr (h3 [])
    refine ⟨.new (ds.map W.d), ?_, by simp⟩
    rw [endDef_ret, if_pos (chk_pre S X), retW_new hk h2]
    simp
theorem ret_endN {S X : Sto} {w : W} {d : D} (h : RetV (Bp S) true (S ++ X) w d) : ∃ ds, d = .lst ds ∧ endDef S (.ret w (S ++ X)) = some (.new (ds.map W.d), S) := by
  rcases h with ⟨h, _⟩ | ⟨k, ds, rfl, rfl, h2, h3⟩
  · cases h
  · have hk : ¬ k < S.length := Nat.not_lt.mpr (h3 [])
    refine ⟨ds, rfl, ?_⟩
    rw [endDef_ret, if_pos (chk_pre S X), retW_new hk h2]
    simp
theorem fq_mk {np nN : Nat} {ds : List D} {e : R → D} {o : Option R} (hn : ds.length = np) (h : ∀ S, St (Bp S) false [] [] (E0 ds (nN - np)) b (Oc.ret : R → Oc Unit R) o (fun _ => ([], [])) (fun r => (e r, []))) : Fq (runDef np nN b) ds o e := fun S ws v x hx => by
  have hl : ws.length = np := by rw [v.length, hn]
  have ag := start_ag v (nN - np)
  obtain ⟨out, e1, e2⟩ := h S _ S ag x hx
  rw [runDef_ap, if_pos hl, hl, e1]
  cases out with
  | ret w S1 =>
    obtain ⟨⟨X, hX⟩, hv⟩ := e2
    have hX : S1 = S ++ X := hX
    subst hX
    exact ret_end hv
  | _ => exact e2.elim
theorem fn_mk {np nN : Nat} {ds : List D} {e : α → D} {o : Option (List α)} (hn : ds.length = np) (h : ∀ S, St (Bp S) true [] [] (E0 ds (nN - np)) b (Oc.ret : List α → Oc Unit (List α)) o (fun _ => ([], [])) (fun r => (eL e r, []))) : Fn (runDef np nN b) ds o e := fun S ws v x hx => by
  have hl : ws.length = np := by rw [v.length, hn]
  have ag := start_ag v (nN - np)
  obtain ⟨out, e1, e2⟩ := h S _ S ag x hx
  rw [runDef_ap, if_pos hl, hl, e1]
  cases out with
  | ret w S1 =>
    obtain ⟨⟨X, hX⟩, hv⟩ := e2
    have hX : S1 = S ++ X := hX
    subst hX
    obtain ⟨ds', h1, h2⟩ := ret_endN hv
    rw [Option.bind_some, h2]
    have : ds' = x.map e := by injection h1 with z; exact z.symm
    rw [this, map_emap]
  | _ => exact e2.elim
theorem startd_ag {T : Sto} {ns : List Int} {ws : List W} {ds : List D} (h : Vws (Bd T) (C ns :: T) ws ds) (n : Nat) : Ag (Bd T) ns (some (.w (.ref 0)) :: E0 ds n) ((W.ref 0 :: ws).map some ++ List.replicate n none) (C ns :: T) := by
  have none_ : ∀ {i : Nat} {x : En}, (E0 ds n)[i]? = some (some x) → ∃ d, x = .r d ∧ ds[i]? = some d := fun {i x} q => by
    unfold E0 at q
    by_cases hi : i < ds.length
    · rw [List.getElem?_append_left (by simpa using hi), List.getElem?_map] at q
      obtain ⟨d, q1, q2⟩ := Option.map_eq_some_iff.mp q
      cases q2
      exact ⟨d, rfl, q1⟩
    · rw [List.getElem?_append_right (by simpa using hi)] at q
      have := (List.mem_of_getElem? q)
      rw [List.mem_replicate] at this
      exact absurd this.2 (by simp)
  refine ⟨by simp [E0, h.length], ⟨[], by simp [Bd]⟩, fun i d q => ?_, fun i d q => ?_, fun i w q => ?_, fun _ => 0, fun i d q => ?_, fun i j d d' q => ?_⟩
  · cases i with
    | zero => cases q
    | succ i =>
      obtain ⟨d', e1, e2⟩ := none_ (show (E0 ds n)[i]? = _ from q)
      cases e1
  · cases i with
    | zero => cases q
    | succ i =>
      obtain ⟨d', e1, e2⟩ := none_ (show (E0 ds n)[i]? = _ from q)
      cases e1
      obtain ⟨w, q1, q2⟩ := h.get e2
      refine ⟨w, ?_, ?_⟩
      · show (ws.map some ++ List.replicate n none)[i]? = _
        rw [List.getElem?_append_left (by rw [List.length_map]; exact (List.getElem?_eq_some_iff.mp q1).1), List.getElem?_map, q1]; rfl
      · rcases q2 with q2 | ⟨k, ds, h1, h2, h3, h4⟩
        · exact .inl q2
        · exact .inr ⟨k, ds, h1, h2, fun n' => by rw [h4 n' ns]; exact h3⟩
  · cases i with
    | zero => cases q; rfl
    | succ i =>
      obtain ⟨d', e1, e2⟩ := none_ (show (E0 ds n)[i]? = _ from q)
      cases e1
  all_goals
    cases i with
    | zero => cases q
    | succ i =>
      obtain ⟨d', e1, e2⟩ := none_ (show (E0 ds n)[i]? = _ from q)
      cases e1
theorem ret_endd {T X : Sto} {ns ns' : List Int} {w : W} {d : D} (h : RetV (Bd T) false (C ns' :: (T ++ X)) w d) : ∃ rv, endDef (C ns :: T) (.ret w (C ns' :: (T ++ X))) = some (rv, C ns' :: T) ∧ rvW rv = some (.d d) := by
  rcases h with ⟨_, rfl⟩ | ⟨k, ds, rfl, rfl, h2, h3⟩
  · exact ⟨_, end_draw, rfl⟩
  · have hk : ¬ k < (C ns :: T).length := Nat.not_lt.mpr (h3 [])
    refine ⟨.new (ds.map W.d), ?_, by simp⟩
    rw [endDef_ret, if_pos (chk_draw ns ns' T X), retW_new hk h2]
    simp
theorem ret_enddN {T X : Sto} {ns ns' : List Int} {w : W} {d : D} (h : RetV (Bd T) true (C ns' :: (T ++ X)) w d) : ∃ ds, d = .lst ds ∧ endDef (C ns :: T) (.ret w (C ns' :: (T ++ X))) = some (.new (ds.map W.d), C ns' :: T) := by
  rcases h with ⟨h, _⟩ | ⟨k, ds, rfl, rfl, h2, h3⟩
  · cases h
  · have hk : ¬ k < (C ns :: T).length := Nat.not_lt.mpr (h3 [])
    refine ⟨ds, rfl, ?_⟩
    rw [endDef_ret, if_pos (chk_draw ns ns' T X), retW_new hk h2]
    simp
theorem fv_mk {np nN : Nat} {ds : List D} {ns : List Int} {e : α → D} {o : Option (α × List Int)} (hn : ds.length + 1 = np) (h : ∀ T, St (Bd T) false [] ns (some (.w (.ref 0)) :: E0 ds (nN - np)) b (Oc.ret : α × List Int → Oc Unit (α × List Int)) o (fun _ => ([], [])) (fun r => (e r.1, r.2))) : Fv (runDef np nN b) ds ns o e := fun T ws v x ns' hx => by
  have hl : (W.ref 0 :: ws).length = np := by rw [List.length_cons, v.length, hn]
  have ag := startd_ag v (nN - np)
  obtain ⟨out, e1, e2⟩ := h T _ _ ag (x, ns') hx
  rw [runDef_ap, if_pos hl, hl, e1]
  cases out with
  | ret w S1 =>
    obtain ⟨⟨X, hX⟩, hv⟩ := e2
    have hX : S1 = C ns' :: (T ++ X) := hX
    subst hX
    exact ret_endd hv
  | _ => exact e2.elim
theorem fvn_mk {np nN : Nat} {ds : List D} {ns : List Int} {e : α → D} {o : Option (List α × List Int)} (hn : ds.length + 1 = np) (h : ∀ T, St (Bd T) true [] ns (some (.w (.ref 0)) :: E0 ds (nN - np)) b (Oc.ret : List α × List Int → Oc Unit (List α × List Int)) o (fun _ => ([], [])) (fun r => (eL e r.1, r.2))) : Fvn (runDef np nN b) ds ns o e := fun T ws v x ns' hx => by
  have hl : (W.ref 0 :: ws).length = np := by rw [List.length_cons, v.length, hn]
  have ag := startd_ag v (nN - np)
  obtain ⟨out, e1, e2⟩ := h T _ _ ag (x, ns') hx
  rw [runDef_ap, if_pos hl, hl, e1]
  cases out with
  | ret w S1 =>
    obtain ⟨⟨X, hX⟩, hv⟩ := e2
    have hX : S1 = C ns' :: (T ++ X) := hX
    subst hX
    obtain ⟨ds', h1, h2⟩ := ret_enddN (ns := ns) hv
    rw [Option.bind_some, h2]
    have : ds' = x.map e := by injection h1 with z; exact z.symm
    rw [this, map_emap]
  | _ => exact e2.elim
/-- the law: it draws first -/
theorem law_mkd {nN : Nat} {rest : Bm} {md : Fm} {script : W} {many : Int} {ms : List Int} {ns' : List Int} {o : Option (Bool × List Int)} (hn : 2 ≤ nN) (hd : md [script, .d (.int many)] [] = some (.new (iws ms), []))
    (h : St (Bd []) false [] ms (none :: some (.w (.ref 0)) :: List.replicate (nN - 2) none) rest (Oc.ret : Bool × List Int → Oc Unit (Bool × List Int)) o (fun _ => ([], [])) (fun r => (.bl r.1, r.2))) (ho : o = some (true, ns')) :
    runDef 1 nN (bseq (bset 1 (thw (mcallF md (acons (mv 0) (acons (mk (.int many)) anil))))) rest) [script] [] = some (.val (.d (.bl true)), []) := by
  obtain ⟨n, rfl⟩ : ∃ n, nN = n + 2 := ⟨nN - 2, by omega⟩
  have ag : Ag (Bd []) ms (none :: some (.w (.ref 0)) :: List.replicate n none) (some script :: some (.ref 0) :: List.replicate n none) [C ms] := by
    have none_ : ∀ {i : Nat} {x : En}, (none :: some (En.w (.ref 0)) :: List.replicate n none)[i]? = some (some x) → i = 1 ∧ x = .w (.ref 0) := fun {i x} q => by
      cases i with
      | zero => cases q
      | succ i => cases i with
        | zero => cases q; exact ⟨rfl, rfl⟩
        | succ i =>
          have := List.mem_of_getElem? (show (List.replicate n none)[i]? = some (some x) from q)
          rw [List.mem_replicate] at this
          exact absurd this.2 (by simp)
    refine ⟨by simp, ⟨[], rfl⟩, fun i d q => ?_, fun i d q => ?_, fun i w q => ?_, fun _ => 0, fun i d q => ?_, fun i j d d' q => ?_⟩
    · cases (none_ q).2
    · cases (none_ q).2
    · obtain ⟨rfl, e⟩ := none_ q
      cases e; rfl
    · cases (none_ q).2
    · cases (none_ q).2
  obtain ⟨out, e1, e2⟩ := h _ _ ag (true, ns') ho
  have e3 : bset 1 (thw (mcallF md (acons (mv 0) (acons (mk (.int many)) anil)))) (some script :: none :: List.replicate n none) [] = some (.nx (some script :: some (.ref 0) :: List.replicate n none) [C ms]) := by
    simp [hd]
  rw [runDef_ap, if_pos (show [script].length = 1 from rfl)]
  show ((bseq _ rest (some script :: List.replicate (n + 1) none) []).bind _) = _
  rw [List.replicate_succ, bseq_ap, e3, Option.bind_some]
  dsimp only
  rw [e1]
  cases out with
  | ret w S1 =>
    obtain ⟨⟨X, hX⟩, hv⟩ := e2
    rcases hv with ⟨_, rfl⟩ | ⟨k, ds, _, h2, _⟩
    · rfl
    · cases h2
  | _ => exact e2.elim
end
end GM

set_option Elab.async false
set_option linter.all false
set_option maxRecDepth 100000
set_option maxHeartbeats 4000000
set_option autoImplicit false
namespace GM
open PySem L2
section
variable {α β γ δ : Type} {B : Bs} {ns : List Int} {E : List (Option En)} {e : α → D} {f : β → D} {ma mb m : Em} {oa : Option (List α)} {ob : Option (List β)}
/-! ### zip, reversed, bit_length -/
theorem zip_at (x : List α) (y : List β) (e : α → D) (f : β → D) (S : Sto) (i : Nat) : srcAt (.zip (.its (x.map e)) (.its (y.map f))) S i = some (((x.zip y).map fun p => W.d (eP e f p))[i]?) := by
  show (some (x.map e)[i]?).bind (fun a => (some (y.map f)[i]?).bind fun b => match a, b with
    | some a, some b => some (some (W.d (.tup [a, b])))
    | _, _ => some none) = _
  rw [Option.bind_some, Option.bind_some, List.getElem?_map, List.getElem?_map, List.getElem?_map, List.zip, List.getElem?_zipWith]
  cases x[i]? <;> cases y[i]? <;> rfl
theorem sr_zipT (ha : Ew B ns E (eT e) ma oa) (hb : Ew B ns E (eT f) mb ob) : Sr B ns E [] (izip (acons ma (acons mb anil))) (eP e f) (oa.bind fun x => ob.bind fun y => some (x.zip y)) := fun ρ S a l hl => by
  obtain ⟨x, rfl, h1⟩ := bind_some hl
  obtain ⟨y, rfl, h2⟩ := bind_some h1
  cases h2
  have h1 := (ha.ed nl_T) ρ S a x rfl
  have h2 := (hb.ed nl_T) ρ S a y rfl
  refine ⟨.zip (.its (x.map e)) (.its (y.map f)), ?_, by simp [srcLen, zsLen], fun _ _ _ _ _ _ i => zip_at x y e f _ i⟩
  unfold izip
  simp only [acons_ap, anil_ap, h1, h2, Option.bind_some]
  rfl
theorem sr_zipD (ha : Ed B ns E (eL e) ma oa) (hb : Ed B ns E (eL f) mb ob) : Sr B ns E [] (izip (acons ma (acons mb anil))) (eP e f) (oa.bind fun x => ob.bind fun y => some (x.zip y)) := fun ρ S a l hl => by
  obtain ⟨x, rfl, h1⟩ := bind_some hl
  obtain ⟨y, rfl, h2⟩ := bind_some h1
  cases h2
  have h1 := ha ρ S a x rfl
  have h2 := hb ρ S a y rfl
  refine ⟨.zip (.its (x.map e)) (.its (y.map f)), ?_, by simp [srcLen, zsLen], fun _ _ _ _ _ _ i => zip_at x y e f _ i⟩
  unfold izip
  simp only [acons_ap, anil_ap, h1, h2, Option.bind_some]
  rfl
theorem sr_revT (ha : Ew B ns E (eT e) m oa) : Sr B ns E [] (isrc srcV m) e (oa.bind fun x => some x.reverse) := fun ρ S a l hl => by
  obtain ⟨x, rfl, h1⟩ := bind_some hl
  cases h1
  have h1 := (ha.ed nl_T) ρ S a x rfl
  refine ⟨.its (x.reverse.map fun y => W.d (e y)), ?_, by simp, fun _ _ _ _ _ _ i => rfl⟩
  simp only [isrc_ap, h1, Option.bind_some]
  show ((some (Src.its ((x.map e).map W.d).reverse)).bind _) = _
  rw [map_emap, ← List.map_reverse]; rfl
theorem sr_revD (ha : Ed B ns E (eL e) m oa) : Sr B ns E [] (isrc srcV m) e (oa.bind fun x => some x.reverse) := fun ρ S a l hl => by
  obtain ⟨x, rfl, h1⟩ := bind_some hl
  cases h1
  have h1 := ha ρ S a x rfl
  refine ⟨.its (x.reverse.map fun y => W.d (e y)), ?_, by simp, fun _ _ _ _ _ _ i => rfl⟩
  simp only [isrc_ap, h1, Option.bind_some]
  show ((some (Src.its ((x.map e).map W.d).reverse)).bind _) = _
  rw [map_emap, ← List.map_reverse]; rfl
theorem rcell_at {l : List α} {e : α → D} {S : Sto} (k : Nat) (h : lstOf S k = some ((l.map e).map W.d)) (i : Nat) : srcAt (.rcell k l.length) S i = some ((l.reverse.map fun x => W.d (e x))[i]?) := by
  show (if i < l.length then (lstOf S k).bind fun ws => ws[l.length - 1 - i]?.bind fun w => some (some w) else some none) = _
  by_cases hi : i < l.length
  · rw [if_pos hi, h, Option.bind_some, map_emap, List.getElem?_map, List.getElem?_map, List.getElem?_reverse hi, List.getElem?_eq_getElem (show l.length - 1 - i < l.length by omega)]
    rfl
  · rw [if_neg hi, List.getElem?_eq_none (by rw [List.length_map, List.length_reverse]; omega)]
theorem sr_revR {i : Nat} {l : List α} (h : E[i]? = some (some (.r (eL e l)))) : Sr B ns E [] (isrc srcV (mv i)) e (some l.reverse) := fun ρ S a l' hl => by
  cases hl
  obtain ⟨w, h1, h2⟩ := a.val i _ h
  rcases h2 with rfl | ⟨k, ds, rfl, e2, e3⟩
  · refine ⟨.its (l.reverse.map fun y => W.d (e y)), ?_, by simp, fun _ _ _ _ _ _ i => rfl⟩
    simp only [isrc_ap, mv_ap, h1, Option.bind_some]
    show ((some (Src.its ((l.map e).map W.d).reverse)).bind _) = _
    rw [map_emap, ← List.map_reverse]; rfl
  · cases e2
    have at_ : ∀ ns' E' ρ' S', Ag B ns' E' ρ' S' → lstOf S' k = some ((l.map e).map W.d) := fun ns' E' ρ' S' a' => by
      obtain ⟨X, rfl⟩ := a'.pre
      exact lstOf_eq (by rw [List.getElem?_append_left (List.getElem?_eq_some_iff.mp (e3 ns')).1]; exact e3 ns')
    refine ⟨.rcell k l.length, ?_, by show l.length = l.reverse.length; simp, fun ns' E' ρ' S' a' _ i => rcell_at k (at_ ns' E' ρ' S' a') i⟩
    simp only [isrc_ap, mv_ap, h1, Option.bind_some]
    show (((lstOf S k).bind fun ws => some (Src.rcell k ws.length)).bind _) = _
    rw [at_ ns E ρ S a, Option.bind_some, List.length_map, List.length_map]; rfl
theorem sr_revO {i : Nat} {l : List α} (h : E[i]? = some (some (.own (l.map e)))) : Sr B ns E [i] (isrc srcV (mv i)) e (some l.reverse) := fun ρ S a l' hl => by
  cases hl
  obtain ⟨κ, q1, _⟩ := a.own
  obtain ⟨p1, p2, p3⟩ := q1 i _ h
  have e4 := lstOf_eq p3
  refine ⟨.rcell (κ i) l.length, ?_, by show l.length = l.reverse.length; simp, fun ns' E' ρ' S' a' hp j => ?_⟩
  · simp only [isrc_ap, mv_ap, p1, Option.bind_some]
    show (((lstOf S (κ i)).bind fun ws => some (Src.rcell (κ i) ws.length)).bind _) = _
    rw [e4, Option.bind_some, List.length_map, List.length_map]; rfl
  · obtain ⟨r1, r2⟩ := hp i (by simp)
    obtain ⟨κ', q1', _⟩ := a'.own
    obtain ⟨p1', p2', p3'⟩ := q1' i _ (r2.trans h)
    have : κ' i = κ i := by
      rw [r1, p1] at p1'
      injection p1' with z; injection z with z; injection z with z; exact z.symm
    rw [this] at p3'
    exact rcell_at _ (lstOf_eq p3') j
theorem sr_revRg {mp : Pm} {o : Option (Int × Int)} (h : Ep B ns E mp o) : Sr B ns E [] (irvR mp) D.int (o.bind fun p => if rgC p.1 p.2 = true then some (irange p.1 p.2).reverse else none) := fun ρ S a l hl => by
  obtain ⟨p, rfl, h1⟩ := bind_some hl
  obtain ⟨hc, rfl⟩ := ite_some h1
  have h2 := h ρ S a p rfl
  refine ⟨.its ((irange p.1 p.2).reverse.map fun x => W.d (.int x)), ?_, by simp, fun _ _ _ _ _ _ i => rfl⟩
  unfold irvR
  rw [h2, Option.bind_some]
  dsimp only
  rw [if_pos hc, rngW_ir, ← List.map_reverse]
theorem fints_t {p : List Int → Option W} {S : Sto} {w : W} {l : List Int} (hw : Vw B S w (eT .int l)) : fIntsT p S [w] = p l := by
  rw [hw.flat (nl_T l)]
  show (intsW ((l.map D.int).map W.d)).bind _ = _
  rw [map_emap, intsW_emap]; rfl
theorem ed_minT {oa : Option (List Int)} (ha : Ew B ns E (eT .int) ma oa) : Ed B ns E .int (prim fMinT (acons ma anil)) (oa.bind fun x => x.min?) := ed_w1 (fun B S w x y hw h => by rw [fMinT, fints_t hw, h]; rfl) ha
theorem ed_maxT {oa : Option (List Int)} (ha : Ew B ns E (eT .int) ma oa) : Ed B ns E .int (prim fMaxT (acons ma anil)) (oa.bind fun x => x.max?) := ed_w1 (fun B S w x y hw h => by rw [fMaxT, fints_t hw, h]; rfl) ha
theorem ed_minLD {d : Int} {oa : Option (List Int)} (ha : Ew B ns E (eL .int) ma oa) : Ed B ns E .int (prim (fMinLD d) (acons ma anil)) (oa.bind fun x => some (x.min?.getD d)) := ed_w1 (fun B S w x y hw h => by cases h; rw [fMinLD, fints_w hw]) ha
theorem ed_minLN {oa : Option (List Int)} (ha : Ew B ns E (eL .int) ma oa) : Ed B ns E (eO .int) (prim fMinLN (acons ma anil)) (oa.bind fun x => some x.min?) := ed_w1 (fun B S w x y hw h => by
  cases h
  rw [fMinLN, fints_w hw]
  cases x.min? <;> rfl) ha
theorem ed_bits {o : Option Int} (h : Ed B ns E .int m o) : Ed B ns E .int (prim fBits (acons m anil)) (o.bind fun x => some ((Builtin.Int.intBits x : Nat) : Int)) := ed_p1 (fun S x z h => by cases h; rfl) h
end
end GM

set_option Elab.async false
set_option linter.all false
set_option maxRecDepth 100000
set_option maxHeartbeats 4000000
set_option autoImplicit false
namespace GM
open PySem L2
section
variable {α β γ δ : Type} {B : Bs} {ns : List Int} {E : List (Option En)} {e : α → D} {f : β → D} {g : γ → D} {ma mb m : Em}
/-! ### sorted of tuples -/
def sortE (e : α → D) (l : List α) : List α := l.mergeSort fun x y => leD (e x) (e y)
theorem ef_sortD {oa : Option (List α)} (ha : Ew B ns E (eL e) ma oa) : EF B ns E e (primF fSortD (acons ma anil)) (oa.bind fun x => if okSrt (x.map e) = true then some (sortE e x) else none) := ef_w1 (fun B S w x y hw h => by
  obtain ⟨hc, rfl⟩ := ite_some h
  have h2 : (x.map e).mergeSort leD = (sortE e x).map e := (List.map_mergeSort (r := fun x y => leD (e x) (e y)) (s := leD) fun _ _ _ _ => rfl).symm
  show (listW S w).bind _ = _
  rw [hw.listL, Option.bind_some, datas_map', Option.bind_some, if_pos hc, h2, map_emap]) ha
theorem ef_sortT {oa : Option (List Int)} (ha : Ew B ns E (eT .int) ma oa) : EF B ns E .int (primF fSortT (acons ma anil)) (oa.bind fun x => some (sortI x)) := ef_w1 (fun B S w x y hw h => by
  cases h
  rw [hw.flat (nl_T x)]
  show (intsW ((x.map D.int).map W.d)).bind _ = _
  rw [map_emap, intsW_emap]; rfl) ha
def memB {α : Type} [DecidableEq α] (x : α) (l : List α) : Bool := decide (x ∈ l)
theorem memB_iff {α : Type} [DecidableEq α] {x : α} {l : List α} : memB x l = true ↔ x ∈ l := decide_eq_true_iff
theorem ed_inLg {n : Nat} [DecidableEq α] {oa : Option α} {ob : Option (List α)} (h : EqOk n e) (ha : Ew B ns E e ma oa) (hb : Ew B ns E (eL e) mb ob) (hn : n ≤ 39 := by decide) : Ed B ns E .bl (prim fIn (acons ma (acons mb anil))) (oa.bind fun x => ob.bind fun y => some (memB x y)) := ed_inL h ha hb hn
theorem ed_ninLg {n : Nat} [DecidableEq α] {oa : Option α} {ob : Option (List α)} (h : EqOk n e) (ha : Ew B ns E e ma oa) (hb : Ew B ns E (eL e) mb ob) (hn : n ≤ 39 := by decide) : Ed B ns E .bl (prim fNotIn (acons ma (acons mb anil))) (oa.bind fun x => ob.bind fun y => some (!memB x y)) := ed_ninL h ha hb hn
/-! ### the order of tuples in plain words -/
theorem sortE_perm (e : α → D) (l : List α) : (sortE e l).Perm l := List.mergeSort_perm l _
end
end GM

set_option Elab.async false
set_option linter.all false
set_option maxRecDepth 100000
set_option maxHeartbeats 4000000
set_option autoImplicit false
namespace GM
open PySem L2
section
variable {α β γ δ : Type} {B : Bs} {ns : List Int} {E : List (Option En)} {e : α → D} {f : β → D} {g : γ → D} {ma mb m : Em}
/-! ### the least and the greatest of tuples -/
def minE (e : α → D) : List α → Option α
  | [] => none
  | a :: r => if okSrt ((a :: r).map e) = true ∧ ((a :: r).map e).all (plT 12) = true then some (r.foldl (fun b y => if ltD (e y) (e b) = true then y else b) a) else none
def maxE (e : α → D) : List α → Option α
  | [] => none
  | a :: r => if okSrt ((a :: r).map e) = true ∧ ((a :: r).map e).all (plT 12) = true then some (r.foldl (fun b y => if ltD (e b) (e y) = true then y else b) a) else none
theorem minDD_map (e : α → D) : ∀ (r : List α) (a : α), minDD (e a) (r.map e) = e (r.foldl (fun b y => if ltD (e y) (e b) = true then y else b) a)
  | [], a => rfl
  | y :: r, a => by
    show minDD (if ltD (e y) (e a) = true then e y else e a) (r.map e) = _
    rw [show (if ltD (e y) (e a) = true then e y else e a) = e (if ltD (e y) (e a) = true then y else a) by split <;> rfl, minDD_map e r]
    rfl
theorem maxDD_map (e : α → D) : ∀ (r : List α) (a : α), maxDD (e a) (r.map e) = e (r.foldl (fun b y => if ltD (e b) (e y) = true then y else b) a)
  | [], a => rfl
  | y :: r, a => by
    show maxDD (if ltD (e a) (e y) = true then e y else e a) (r.map e) = _
    rw [show (if ltD (e a) (e y) = true then e y else e a) = e (if ltD (e a) (e y) = true then y else a) by split <;> rfl, maxDD_map e r]
    rfl
theorem ed_minE {oa : Option (List α)} (ha : Ew B ns E (eL e) ma oa) : Ed B ns E e (prim (fMmD minDD) (acons ma anil)) (oa.bind fun x => minE e x) := ed_w1 (fun B S w x y hw h => by
  cases x with
  | nil => cases h
  | cons a r =>
    obtain ⟨hc, rfl⟩ := ite_some h
    show (listW S w).bind _ = _
    rw [hw.listL, Option.bind_some, datas_map', Option.bind_some]
    show ((if okSrt (e a :: r.map e) = true ∧ (e a :: r.map e).all (plT 12) = true then some (minDD (e a) (r.map e)) else none).bind _) = _
    rw [if_pos (show okSrt (e a :: r.map e) = true ∧ (e a :: r.map e).all (plT 12) = true from hc), minDD_map]; rfl) ha
theorem ed_maxE {oa : Option (List α)} (ha : Ew B ns E (eL e) ma oa) : Ed B ns E e (prim (fMmD maxDD) (acons ma anil)) (oa.bind fun x => maxE e x) := ed_w1 (fun B S w x y hw h => by
  cases x with
  | nil => cases h
  | cons a r =>
    obtain ⟨hc, rfl⟩ := ite_some h
    show (listW S w).bind _ = _
    rw [hw.listL, Option.bind_some, datas_map', Option.bind_some]
    show ((if okSrt (e a :: r.map e) = true ∧ (e a :: r.map e).all (plT 12) = true then some (maxDD (e a) (r.map e)) else none).bind _) = _
    rw [if_pos (show okSrt (e a :: r.map e) = true ∧ (e a :: r.map e).all (plT 12) = true from hc), maxDD_map]; rfl) ha
theorem ed_sumT {oa : Option (List Int)} (ha : Ew B ns E (eT .int) ma oa) : Ed B ns E .int (prim fSumT (acons ma anil)) (oa.bind fun x => some x.sum) := ed_w1 (fun B S w x y hw h => by cases h; rw [fSumT, fints_t hw]) ha
/-! ### zip of lists that may be cells, while nothing changes -/
theorem zs_of {S : Sto} {w : W} {l : List α} (h : Vw B S w (eL e l)) : (∃ z, zsL S w = some z ∧ zsLen z S = l.length ∧ ∀ i : Nat, zsAt z S i = some (l[i]?.map e)) ∧ ∀ ds, w ≠ .d (.tup ds) := by
  rcases h with rfl | ⟨k, ds, rfl, e2, e3, _⟩
  · exact ⟨⟨.its (l.map e), rfl, by simp [zsLen], fun i => by show some (l.map e)[i]? = _; rw [List.getElem?_map]⟩, fun ds h => nomatch h⟩
  · cases e2
    have e4 := lstOf_eq e3
    refine ⟨⟨.cell k, ?_, ?_, fun i => ?_⟩, fun ds h => nomatch h⟩
    · show (lstOf S k).bind _ = _
      rw [e4]; rfl
    · show ((lstOf S k).getD []).length = _
      rw [e4]; simp
    · show (lstOf S k).bind _ = _
      rw [e4, Option.bind_some, map_emap, List.getElem?_map]
      cases l[i]? <;> rfl
theorem s0_zipL {oa : Option (List α)} {ob : Option (List β)} (ha : Ew B ns E (eL e) ma oa) (hb : Ew B ns E (eL f) mb ob) : S0 B ns E (izip (acons ma (acons mb anil))) (eP e f) (oa.bind fun x => ob.bind fun y => some (x.zip y)) := fun ρ S a l hl => by
  obtain ⟨x, rfl, h1⟩ := bind_some hl
  obtain ⟨y, rfl, h2⟩ := bind_some h1
  cases h2
  obtain ⟨w, h1, h2⟩ := ha ρ S a x rfl
  obtain ⟨u, h3, h4⟩ := hb ρ S a y rfl
  obtain ⟨⟨z1, e1, l1, a1⟩, n1⟩ := zs_of h2
  obtain ⟨⟨z2, e2, l2, a2⟩, n2⟩ := zs_of h4
  refine ⟨.zip z1 z2, ?_, ?_, fun i => ?_⟩
  · unfold izip
    simp only [acons_ap, anil_ap, h1, h3, Option.bind_some]
    have : zipW S w u = (zsL S w).bind fun a => (zsL S u).bind fun b => some (.zip a b) := by
      unfold zipW
      split
      · exact absurd rfl (n1 _)
      · rfl
    rw [this, e1, e2]; rfl
  · show min (zsLen z1 S) (zsLen z2 S) = _
    rw [l1, l2, List.length_zip]
  · show (zsAt z1 S i).bind (fun a => (zsAt z2 S i).bind fun b => match a, b with
      | some a, some b => some (some (W.d (.tup [a, b])))
      | _, _ => some none) = _
    rw [a1, a2, Option.bind_some, Option.bind_some, List.getElem?_map, List.zip, List.getElem?_zipWith]
    cases x[i]? <;> cases y[i]? <;> rfl
end
end GM

set_option Elab.async false
set_option linter.all false
set_option maxRecDepth 100000
set_option maxHeartbeats 4000000
set_option autoImplicit false
namespace GM
open PySem L2
section
variable {α β γ δ : Type} {B : Bs} {ns : List Int} {E : List (Option En)} {e : α → D} {f : β → D} {g : γ → D} {ma mb m : Em}
/-! ### sorted of a set comprehension of ints -/
def osrt (x : List Int) : Option (List Int) := if x.length ≤ 4000 then some (sortU x) else none
theorem ef_sset {am : Am} {oa : Option (List Int)} (ha : EF B ns E .int am oa) : EF B ns E .int (msortSet am) (oa.bind fun x => osrt x) := fun ρ S a l hl => by
  obtain ⟨x, e1, h⟩ := bind_some hl
  obtain ⟨hc, rfl⟩ := ite_some h
  show (am ρ S).bind _ = _
  rw [ha ρ S a x e1, Option.bind_some]
  show ((intsW (x.map fun i => W.d (.int i))).bind _).bind _ = _
  rw [intsW_emap, Option.bind_some, if_pos hc]
  rfl
/-! ### x in a tuple of tuples -/
theorem ed_inTg {n : Nat} [DecidableEq α] {oa : Option α} {ob : Option (List α)} (h : EqOk n e) (ha : Ew B ns E e ma oa) (hb : Ew B ns E (eT e) mb ob) (hn : n ≤ 39 := by decide) : Ed B ns E .bl (prim fIn (acons ma (acons mb anil))) (oa.bind fun x => ob.bind fun y => some (memB x y)) := ed_w2 (fun B S w u x y z hw hu hz => by
  cases hz
  show (view S w).bind (fun a => (view S u).bind fun b => _) = _
  rw [hw.view, hu.view, Option.bind_some, Option.bind_some]
  have e1 : inD (e x) (y.map e) = memB x y := inD_map h x y
  have hsh : (sh 40 (e x) && (y.map e).all (sh 39)) = true := by
    rw [sh_le (h.sh x) (Nat.le_succ_of_le hn), Bool.true_and, List.all_map]
    exact List.all_eq_true.mpr fun z _ => sh_le (h.sh z) hn
  show (if _ then some (W.d (.bl (id (inD (e x) (y.map e))))) else if _ then some (W.d (.bl (id (inD (e x) (y.map e))))) else none) = _
  rw [e1, if_pos hsh]
  split <;> rfl) ha hb
theorem ed_ninTg {n : Nat} [DecidableEq α] {oa : Option α} {ob : Option (List α)} (h : EqOk n e) (ha : Ew B ns E e ma oa) (hb : Ew B ns E (eT e) mb ob) (hn : n ≤ 39 := by decide) : Ed B ns E .bl (prim fNotIn (acons ma (acons mb anil))) (oa.bind fun x => ob.bind fun y => some (!memB x y)) := ed_w2 (fun B S w u x y z hw hu hz => by
  cases hz
  show (view S w).bind (fun a => (view S u).bind fun b => _) = _
  rw [hw.view, hu.view, Option.bind_some, Option.bind_some]
  have e1 : inD (e x) (y.map e) = memB x y := inD_map h x y
  have hsh : (sh 40 (e x) && (y.map e).all (sh 39)) = true := by
    rw [sh_le (h.sh x) (Nat.le_succ_of_le hn), Bool.true_and, List.all_map]
    exact List.all_eq_true.mpr fun z _ => sh_le (h.sh z) hn
  show (if _ then some (W.d (.bl (not (inD (e x) (y.map e))))) else if _ then some (W.d (.bl (not (inD (e x) (y.map e))))) else none) = _
  rw [e1, if_pos hsh]
  split <;> rfl) ha hb
end
section
variable {α β γ δ : Type} {B : Bs} {ns : List Int} {E : List (Option En)} {e : α → D} {f : β → D} {ma mb m : Em}
/-! ### data read as what they are -/
def deI : D → Option Int
  | .int i => some i
  | _ => none
def deB : D → Option Bool
  | .bl i => some i
  | _ => none
def deL (f : D → Option α) : List D → Option (List α)
  | [] => some []
  | d :: r => (f d).bind fun x => (deL f r).bind fun l => some (x :: l)
def deT (f : D → Option α) : D → Option (List α)
  | .tup ds => deL f ds
  | _ => none
def deP (f : D → Option α) (g : D → Option β) : D → Option (α × β)
  | .tup [a, b] => (f a).bind fun x => (g b).bind fun y => some (x, y)
  | _ => none
def deD (d : D) : Option D := some d
def DeOk (f : D → Option α) (e : α → D) : Prop := ∀ d x, f d = some x → e x = d
theorem deI_ok : DeOk deI D.int := fun d x h => by cases d <;> cases h; rfl
theorem deB_ok : DeOk deB D.bl := fun d x h => by cases d <;> cases h; rfl
theorem deD_ok : DeOk deD eD := fun d x h => by cases h; rfl
theorem deL_ok {f : D → Option α} (h : DeOk f e) : ∀ ds l, deL f ds = some l → l.map e = ds
  | [], l, q => by cases q; rfl
  | d :: r, l, q => by
    obtain ⟨x, e1, q⟩ := bind_some q
    obtain ⟨l', e2, q⟩ := bind_some q
    cases q
    rw [List.map_cons, h d x e1, deL_ok h r l' e2]
theorem deT_ok {f : D → Option α} (h : DeOk f e) : DeOk (deT f) (eT e) := fun d l q => by
  cases d with
  | tup ds => exact congrArg D.tup (deL_ok h ds l q)
  | _ => cases q
theorem deP_ok {f' : D → Option α} {g' : D → Option β} (h : DeOk f' e) (h' : DeOk g' f) : DeOk (deP f' g') (eP e f) := fun d l q => by
  unfold deP at q
  split at q
  · obtain ⟨x, e1, q⟩ := bind_some q
    obtain ⟨y, e2, q⟩ := bind_some q
    cases q
    show D.tup [e x, f y] = _
    rw [h _ _ e1, h' _ _ e2]
  · cases q
theorem ed_dec {g : D → Option α} {oa : Option D} (h : DeOk g e) (ha : Ed B ns E eD m oa) : Ed B ns E e m (oa.bind g) := fun ρ S a x hx => by
  obtain ⟨d, rfl, h1⟩ := bind_some hx
  rw [ha ρ S a d rfl, h d x h1]
  rfl
/-! ### isinstance -/
def isiD (c : String) (d : D) : Bool := (isB (tyD d) c).getD false
theorem ed_isi {c : String} {oa : Option α} (ha : Ed B ns E e ma oa) (hc : c ∈ ["int", "bool", "tuple", "list", "str"] := by decide) : Ed B ns E .bl (prim fIsi (acons ma (acons (mop (.ty c)) anil))) (oa.bind fun x => some (isiD c (e x))) := fun ρ S a x hx => by
  obtain ⟨y, rfl, h1⟩ := bind_some hx
  cases h1
  have hb : isB (tyD (e y)) c = some (isiD c (e y)) := by
    unfold isiD
    simp only [List.mem_cons, List.not_mem_nil, or_false] at hc
    rcases hc with rfl | rfl | rfl | rfl | rfl <;> rfl
  have : fIsi S [.d (e y), .op (.ty c)] = some (.d (.bl (isiD c (e y)))) := by
    show (if c ∈ ["int", "bool", "tuple", "list", "str"] then (some (tyD (e y))).bind _ else none) = _
    rw [if_pos hc, Option.bind_some, hb]; rfl
  simp [ha ρ S a y rfl, this, mop]
theorem ed_isiC {c : String} {b : Bool} {oa : Option α} (hb : ∀ x, isiD c (e x) = b) (ha : Ed B ns E e ma oa) (hc : c ∈ ["int", "bool", "tuple", "list", "str"] := by decide) : Ed B ns E .bl (prim fIsi (acons ma (acons (mop (.ty c)) anil))) (oa.bind fun _ => some b) := by
  have := ed_isi (c := c) ha hc
  simp only [hb] at this
  exact this
/-! ### x is True -/
theorem ed_isBl {g : Bool → Bool} {oa ob : Option Bool} (ha : Ed B ns E .bl ma oa) (hb : Ed B ns E .bl mb ob) : Ed B ns E .bl (prim (fIsBl g) (acons ma (acons mb anil))) (oa.bind fun x => ob.bind fun y => some (g (decide (x = y)))) := ed_p2 (fun S x y z h => by cases h; rfl) ha hb
/-! ### x <= y of tuples of ints -/
theorem ed_leX {oa ob : Option (List Int)} (ha : Ed B ns E (eT .int) ma oa) (hb : Ed B ns E (eT .int) mb ob) : Ed B ns E .bl (prim fLeX (acons ma (acons mb anil))) (oa.bind fun x => ob.bind fun y => some (decide (x ≤ y))) := ed_p2 (fun S x y z h => by
  cases h
  show (intsW ((x.map D.int).map W.d)).bind _ = _
  rw [map_emap, intsW_emap, Option.bind_some, map_emap, intsW_emap]
  rfl) ha hb
theorem ed_leXI {oa ob : Option Int} (ha : Ed B ns E .int ma oa) (hb : Ed B ns E .int mb ob) : Ed B ns E .bl (prim fLeX (acons ma (acons mb anil))) (oa.bind fun x => ob.bind fun y => some (decide (x ≤ y))) := ed_p2 (fun S x y z h => by cases h; rfl) ha hb
end
section
variable {α β γ δ : Type} {B : Bs} {ns : List Int} {E : List (Option En)} {e : α → D} {f : β → D} {ma mb m : Em}
theorem ef_sortE {oa : Option (List α)} (ha : Ew B ns E (eL e) ma oa) : EF B ns E e (primF fSortE (acons ma anil)) (oa.bind fun x => if okSrtE (x.map e) = true then some (sortE e x) else none) := ef_w1 (fun B S w x y hw h => by
  obtain ⟨hc, rfl⟩ := ite_some h
  have h2 : (x.map e).mergeSort leD = (sortE e x).map e := (List.map_mergeSort (r := fun x y => leD (e x) (e y)) (s := leD) fun _ _ _ _ => rfl).symm
  show (listW S w).bind _ = _
  rw [hw.listL, Option.bind_some, datas_map', Option.bind_some, if_pos hc, h2, map_emap]) ha
theorem okSrtE_of {ds : List D} (h : okSrt ds = true) : okSrtE ds = true := by unfold okSrtE; rw [h]; rfl
end
section
variable {σ R τ α β : Type} {B : Bs} {nw : Bool} {pins : List Nat} {ns : List Int} {E : List (Option En)} {rest : Bm} {em : τ → Oc σ R} {P : σ → List Int × List (Option En)} {q : R → D × List Int} {m : Em} {e : α → D} {f : β → D}
/-! ### the last item of an own list, taken out -/
def Pp (B : Bs) (ns : List Int) (E : List (Option En)) (j : Nat) (E1 : List (Option En)) (e : α → D) (m : Em) (o : Option α) : Prop := ∀ ρ S, Ag B ns E ρ S → ∀ x, o = some x → ∃ S', m ρ S = some (.d (e x), S') ∧ Ag B ns E1 ρ S'
theorem pp_pop {j : Nat} {l : List α} (h : E[j]? = some (some (.own (l.map e)))) : Pp B ns E j (E.set j (some (.own (l.dropLast.map e)))) e (mmeth tPop (mv j) anil) l.getLast? := fun ρ S a x hx => by
  obtain ⟨c, p1, p2, p3, p4⟩ := a.puto h (l.dropLast.map e)
  refine ⟨S.set c (.lst ((l.dropLast.map e).map W.d)), ?_, p4⟩
  rw [mmeth_ap, mv_ap, p1]
  simp only [Option.bind_some, lstOf_eq p2, anil_ap]
  have : tPop ((l.map e).map W.d) [] = some (.d (e x), (l.dropLast.map e).map W.d) := by
    show (((l.map e).map W.d)[((l.map e).map W.d).length - 1]?).bind _ = _
    rw [List.length_map, List.length_map, List.getElem?_map, List.getElem?_map]
    rw [List.getLast?_eq_getElem?] at hx
    rw [hx]
    show some (W.d (e x), ((l.map e).map W.d).dropLast) = _
    rw [List.map_dropLast, List.map_dropLast]
  rw [this]
  rfl
theorem pp_ix {j : Nat} {E1 : List (Option En)} {o : Option α} {c : Int} {p : α → β} (hp : ∀ x S, fIx S [.d (e x), .d (.int c)] = some (.d (f (p x)))) (h : Pp B ns E j E1 e m o) : Pp B ns E j E1 f (prim fIx (acons m (acons (mk (.int c)) anil))) (o.bind fun x => some (p x)) := fun ρ S a z hz => by
  obtain ⟨x, rfl, h1⟩ := bind_some hz
  cases h1
  obtain ⟨S', q1, q2⟩ := h ρ S a x rfl
  exact ⟨S', by simp [q1, hp x S'], q2⟩
theorem st_setp {i j : Nat} {E1 : List (Option En)} {o : Option α} {k : α → Option τ} (hm : Pp B ns E j E1 e m o) (hk : ∀ x, St B nw pins ns (E1.set i (some (.v (e x)))) rest em (k x) P q) (hi : i ∉ pins := by decide) : St B nw pins ns E (bseq (bset i m) rest) em (o.bind k) P q := fun ρ S a t ht => by
  obtain ⟨x, rfl, h1⟩ := bind_some ht
  obtain ⟨S', q1, q2⟩ := hm ρ S a x rfl
  exact st_step (ρ1 := ρ.set i (some (.d (e x)))) (S1 := S') (by simp [q1]) (q2.setv i _) (pin_set hi) (hk x) h1
theorem st_asgp {gm : Gm} {T : List Nat} {j : Nat} {E1 : List (Option En)} {E2 : α → List (Option En)} {o : Option α} {k : α → Option τ} (hm : Pp B ns E j E1 e m o) (hg : ∀ x, Tg B (e x) gm E1 (E2 x) T) (hk : ∀ x, St B nw pins ns (E2 x) rest em (k x) P q) (hi : ∀ i, i ∈ pins → i ∉ T := by decide) : St B nw pins ns E (bseq (basg gm m) rest) em (o.bind k) P q := fun ρ S a t ht => by
  obtain ⟨x, rfl, h1⟩ := bind_some ht
  obtain ⟨S', q1, q2⟩ := hm ρ S a x rfl
  obtain ⟨ρ1, g1, a1, p1⟩ := hg x ns ρ S' q2
  exact st_step (ρ1 := ρ1) (S1 := S') (by simp [q1, g1]) a1 (fun i hp => p1 i (hi i hp)) (hk x) h1
end
end GM

set_option Elab.async false
set_option linter.all false
set_option maxRecDepth 100000
set_option maxHeartbeats 4000000
set_option autoImplicit false
namespace GM
open PySem L2
section
variable {α β γ δ : Type} {B : Bs} {ns : List Int} {E : List (Option En)} {e : α → D} {f : β → D} {ma mb m : Em}
/-! ### drawn and, or -/
theorem edv_and {oa : Option (Bool × List Int)} {ob : List Int → Option (Bool × List Int)} (ha : Edv B ns E .bl ma oa) (hb : ∀ n1, Edv B n1 E .bl mb (ob n1)) : Edv B ns E .bl (mand ma mb) (oa.bind fun p => if p.1 = true then ob p.2 else some (false, p.2)) := fun ρ S a x n' hx => by
  obtain ⟨⟨y, n1⟩, rfl, h1⟩ := bind_some hx
  obtain ⟨S', q1, u⟩ := ha ρ S a y n1 rfl
  cases y with
  | true =>
    obtain ⟨S2, q2, u2⟩ := hb n1 ρ S' (a.up u) x n' h1
    exact ⟨S2, by simp [q1, q2, wbl], u.trans u2⟩
  | false => cases h1; exact ⟨S', by simp [q1, wbl], u⟩
theorem edv_or {oa : Option (Bool × List Int)} {ob : List Int → Option (Bool × List Int)} (ha : Edv B ns E .bl ma oa) (hb : ∀ n1, Edv B n1 E .bl mb (ob n1)) : Edv B ns E .bl (mor ma mb) (oa.bind fun p => if p.1 = true then some (true, p.2) else ob p.2) := fun ρ S a x n' hx => by
  obtain ⟨⟨y, n1⟩, rfl, h1⟩ := bind_some hx
  obtain ⟨S', q1, u⟩ := ha ρ S a y n1 rfl
  cases y with
  | false =>
    obtain ⟨S2, q2, u2⟩ := hb n1 ρ S' (a.up u) x n' h1
    exact ⟨S2, by simp [q1, q2, wbl], u.trans u2⟩
  | true => cases h1; exact ⟨S', by simp [q1, wbl], u⟩
/-! ### is None of what is never None -/
theorem ed_isNc {oa : Option α} (hn : ∀ x, e x ≠ .non) (ha : Ed B ns E e ma oa) : Ed B ns E .bl (prim fIsN (acons ma (acons (mk .non) anil))) (oa.bind fun _ => some false) := fun ρ S a z hz => by
  obtain ⟨x, rfl, h1⟩ := bind_some hz
  cases h1
  simp [ha ρ S a x rfl, fIsN, hn x]
theorem ed_notNc {oa : Option α} (hn : ∀ x, e x ≠ .non) (ha : Ed B ns E e ma oa) : Ed B ns E .bl (prim fNotN (acons ma (acons (mk .non) anil))) (oa.bind fun _ => some true) := fun ρ S a z hz => by
  obtain ⟨x, rfl, h1⟩ := bind_some hz
  cases h1
  simp [ha ρ S a x rfl, fNotN, hn x]
/-! ### a tuple of any things, as data -/
theorem Ed.tD {oa : Option (List α)} (ha : Ed B ns E (eT e) m oa) : Ed B ns E (eT eD) m (oa.bind fun l => some (l.map e)) := fun ρ S a z hz => by
  obtain ⟨x, rfl, h1⟩ := bind_some hz
  cases h1
  rw [ha ρ S a x rfl]
  show some (W.d (D.tup (x.map e)), S) = some (W.d (D.tup ((x.map e).map eD)), S)
  rw [show (x.map e).map eD = x.map e from List.map_id _]
/-! ### data == something -/
def eqX (d : D) (x : D) : Option Bool := if (sh 40 d && sh 40 x) = true then some (eqD d x) else none
theorem ed_eqX {oa : Option D} {ob : Option α} (ha : Ed B ns E eD ma oa) (hb : Ed B ns E e mb ob) : Ed B ns E .bl (prim fEq (acons ma (acons mb anil))) (oa.bind fun x => ob.bind fun y => eqX x (e y)) := ed_p2 (fun S x y z h => by
  obtain ⟨hc, rfl⟩ := ite_some h
  show (some (eD x)).bind (fun a => (some (e y)).bind fun b => _) = _
  rw [Option.bind_some, Option.bind_some]
  exact if_pos hc) ha hb
theorem ed_neX {oa : Option D} {ob : Option α} (ha : Ed B ns E eD ma oa) (hb : Ed B ns E e mb ob) : Ed B ns E .bl (prim fNe (acons ma (acons mb anil))) (oa.bind fun x => ob.bind fun y => (eqX x (e y)).bind fun b => some (!b)) := ed_p2 (fun S x y z h => by
  obtain ⟨b, h1, h⟩ := bind_some h
  obtain ⟨hc, rfl⟩ := ite_some h1
  cases h
  show (some (eD x)).bind (fun a => (some (e y)).bind fun b => _) = _
  rw [Option.bind_some, Option.bind_some]
  exact if_pos hc) ha hb
/-- not a list -/
def notL : D → Bool
  | .lst _ => false
  | _ => true
end
section
variable {σ R τ α β : Type} {B : Bs} {nw : Bool} {pins : List Nat} {ns : List Int} {E : List (Option En)} {b : Bm} {em : τ → Oc σ R} {P : σ → List Int × List (Option En)} {q : R → D × List Int}
theorem st_rvD {i : Nat} {x : D} {o : Option τ} (h : E[i]? = some (some (.r (eD x)))) (hk : St B nw pins ns (E.set i (some (.v (eD x)))) b em o P q) : St B nw pins ns E b em (if notL x = true then o else none) P q := fun ρ S a t ht => by
  obtain ⟨hn, h2⟩ := (show notL x = true ∧ o = some t from by
    by_cases c : notL x = true
    · rw [if_pos c] at ht; exact ⟨c, ht⟩
    · rw [if_neg c] at ht; cases ht)
  exact st_rv (e := fun (_ : Unit) => eD x) (x := ()) h (fun _ ds e => by
    have e : x = .lst ds := e
    rw [e] at hn; cases hn) hk ρ S a t h2
def oseqN {σ2 R τ : Type} (k : σ2 → Option τ) : Oc σ2 R → Option τ
  | .nx s => k s
  | _ => none
theorem st_joinGN {σ2 : Type} {a rest : Bm} {PA : σ2 → List Int × List (Option En)} {oA : Option (Oc σ2 R)} {k : σ2 → Option τ} (ha : St B nw pins ns E a (fun t : Oc σ2 R => t) oA PA q) (hk : ∀ s, St B nw pins (PA s).1 (PA s).2 rest em (k s) P q) : St B nw pins ns E (bseq a rest) em (oA.bind (oseqN k)) P q := fun ρ S ag t ht => by
  obtain ⟨r, rfl, h1⟩ := bind_some ht
  obtain ⟨out, e1, e2⟩ := ha ρ S ag r rfl
  cases r with
  | nx s =>
    cases out with
    | nx ρ1 S1 => exact st_step e1 e2.1 e2.2 (hk s) h1
    | _ => exact e2.elim
  | ret r => cases h1
  | bk _ => cases h1
  | ct _ => cases h1
end
end GM

set_option Elab.async false
set_option linter.all false
set_option maxRecDepth 100000
set_option maxHeartbeats 4000000
set_option autoImplicit false
namespace GM
open PySem L2
/-- not by rfl: the kernel looks at each step by itself, and does not reckon closed terms -/
theorem obs {α β : Type} (x : α) (f : α → Option β) : (some x).bind f = f x := congrArg (fun z => z) (Option.bind_some x f)
section
variable {α β γ δ : Type} {B : Bs} {ns : List Int} {E : List (Option En)} {e : α → D} {f : γ → D} {ma mb m : Em} {am : Am}
/-! ### a built-in step that makes a new list, of drawn parts -/
def PrimFR (fn : Sto → List W → Option (List W)) (f : γ → D) (ds : List D) (n : List Int) (g : List γ × List Int) : Prop := g.2 = n ∧ ∀ S, EF (Bp S) [] (ds.map fun d => some (En.r d)) f (primF fn (mvs 0 ds.length)) (some g.1)
theorem efv_prim {fn : Sto → List W → Option (List W)} {o : Option (List γ × List Int)} (h : EAv B ns E am (PrimFR fn f) o) : EFv B ns E f (primF fn am) o := fun ρ S a x n' hx => by
  obtain ⟨ws, ds, n1, S1, q1, u, q2, q3, q4⟩ := h ρ S a (x, n') hx
  cases q3
  have := q4 S1 (ws.map some) S1 (vws_ag q2) x rfl
  have e1 := mvs_eval (S := S1) [] ws S1
  rw [List.nil_append, q2.length] at e1
  rw [primF_ap] at this
  change (mvs 0 ds.length (ws.map some) S1).bind _ = _ at this
  change mvs 0 ds.length _ S1 = _ at e1
  rw [e1] at this
  exact ⟨S1, by rw [primF_ap, q1]; exact this, u⟩
theorem primF_nil {fn : Sto → List W → Option (List W)} {f : γ → D} {ds : List D} {o : Option (List γ)} (h : ∀ S, EF (Bp S) [] (ds.map fun d => some (En.r d)) f (primF fn (mvs 0 ds.length)) o) : ∀ g, (o.bind fun x => some (x, ns)) = some g → PrimFR fn f ds ns g := fun g hg => by
  obtain ⟨x, rfl, h1⟩ := bind_some hg
  cases h1
  exact ⟨rfl, h⟩
/-! ### drawn slices -/
theorem edv_slL {oa : Option (List α × List Int)} {ol oh : List Int → Option (Option Int)} {ml mh : Om} (ha : Edv B ns E (eL e) ma oa) (hl : ∀ n, Eb B n E ml (ol n)) (hh : ∀ n, Eb B n E mh (oh n)) : Edv B ns E (eL e) (msl slX ma ml mh) (oa.bind fun p => (ol p.2).bind fun l => (oh p.2).bind fun h => some (cutW p.1 l h, p.2)) := fun ρ S a z n' hz => by
  obtain ⟨⟨x, n1⟩, rfl, h1⟩ := bind_some hz
  obtain ⟨l, e2, h2⟩ := bind_some h1
  obtain ⟨h, e3, h3⟩ := bind_some h2
  cases h3
  obtain ⟨S', q1, u⟩ := ha ρ S a x n1 rfl
  have a' := a.up u
  refine ⟨S', ?_, u⟩
  have q3 : slX S' (.d (eL e x)) l h = some (.d (eL e (cutW x l h))) := by
    show (datas (cutW ((x.map e).map W.d) l h)).bind _ = _
    rw [map_emap, cutW_map', datas_emap]; rfl
  simp only [msl_ap, q1, hl n1 ρ S' a' l e2, hh n1 ρ S' a' h e3, Option.bind_some, q3]
theorem edv_slT {oa : Option (List α × List Int)} {ol oh : List Int → Option (Option Int)} {ml mh : Om} (ha : Edv B ns E (eT e) ma oa) (hl : ∀ n, Eb B n E ml (ol n)) (hh : ∀ n, Eb B n E mh (oh n)) : Edv B ns E (eT e) (msl slX ma ml mh) (oa.bind fun p => (ol p.2).bind fun l => (oh p.2).bind fun h => some (cutW p.1 l h, p.2)) := fun ρ S a z n' hz => by
  obtain ⟨⟨x, n1⟩, rfl, h1⟩ := bind_some hz
  obtain ⟨l, e2, h2⟩ := bind_some h1
  obtain ⟨h, e3, h3⟩ := bind_some h2
  cases h3
  obtain ⟨S', q1, u⟩ := ha ρ S a x n1 rfl
  have a' := a.up u
  refine ⟨S', ?_, u⟩
  simp only [msl_ap, q1, hl n1 ρ S' a' l e2, hh n1 ρ S' a' h e3, Option.bind_some]
  show ((some (W.d (.tup (cutW (x.map e) l h)))).bind _) = _
  rw [cutW_map']
  rfl
/-! ### sorted of a tuple of tuples -/
theorem ef_sortV {oa : Option (List α)} (ha : Ew B ns E (eT e) ma oa) : EF B ns E e (primF fSortV (acons ma anil)) (oa.bind fun x => if okSrt (x.map e) = true then some (sortE e x) else none) := ef_w1 (fun B S w x y hw h => by
  obtain ⟨hc, rfl⟩ := ite_some h
  have h2 : (x.map e).mergeSort leD = (sortE e x).map e := (List.map_mergeSort (r := fun x y => leD (e x) (e y)) (s := leD) fun _ _ _ _ => rfl).symm
  rw [hw.flat (nl_T x)]
  show (if okSrt (x.map e) = true then _ else _) = _
  rw [if_pos hc, h2, map_emap]) ha
/-! ### calls with data alone, drawn -/
def EAvs (B : Bs) (ns : List Int) (E : List (Option En)) (m : Am) (R : List D → List Int → γ → Prop) (o : Option γ) : Prop := ∀ ρ S, Ag B ns E ρ S → ∀ g, o = some g → ∃ ds ns' S', m ρ S = some (ds.map W.d, S') ∧ Up B ns ns' S S' ∧ R ds ns' g
theorem eavs_nil {R : List D → List Int → γ → Prop} {o : Option γ} (h : ∀ g, o = some g → R [] ns g) : EAvs B ns E anil R o := fun ρ S a g hg => ⟨[], ns, S, rfl, .refl a, h g hg⟩
theorem eavs_pure {R : List D → List Int → γ → Prop} {oa : Option α} {k : α → Option γ} (ha : Ed B ns E e m oa) (hk : ∀ x, EAvs B ns E am (fun ds n g => R (e x :: ds) n g) (k x)) : EAvs B ns E (acons m am) R (oa.bind k) := fun ρ S a g hg => by
  obtain ⟨x, rfl, h1⟩ := bind_some hg
  obtain ⟨ds, n', S', q3, u, q5⟩ := hk x ρ S a g h1
  exact ⟨e x :: ds, n', S', by simp [ha ρ S a x rfl, q3], u, q5⟩
theorem eavs_draw {R : List D → List Int → γ → Prop} {oa : Option (α × List Int)} {k : α × List Int → Option γ} (ha : Edv B ns E e m oa) (hk : ∀ p : α × List Int, EAvs B p.2 E am (fun ds n g => R (e p.1 :: ds) n g) (k p)) : EAvs B ns E (acons m am) R (oa.bind k) := fun ρ S a g hg => by
  obtain ⟨⟨x, n1⟩, rfl, h1⟩ := bind_some hg
  obtain ⟨S1, q1, u1⟩ := ha ρ S a x n1 rfl
  obtain ⟨ds, n', S', q3, u, q5⟩ := hk (x, n1) ρ S1 (a.up u1) g h1
  exact ⟨e x :: ds, n', S', by simp [q1, q3], u1.trans u, q5⟩
theorem edv_calls {fm : Fm} {o : Option (γ × List Int)} (h : EAvs B ns E am (fun ds n g => g.2 = n ∧ Fs fm ds (some g.1) f) o) : Edv B ns E f (mcall fm am) o := fun ρ S a x n' hx => by
  obtain ⟨ds, n1, S1, q1, u, q2, q3⟩ := h ρ S a (x, n') hx
  cases q2
  obtain ⟨rv, q5, q6⟩ := q3 S1 x rfl
  refine ⟨S1, ?_, u⟩
  rw [mcall_ap, q1]
  simp only [Option.bind_some, q5, q6]
theorem calls_nil {fm : Fm} {ds : List D} {o : Option γ} (h : Fs fm ds o f) : ∀ g, (o.bind fun x => some (x, ns)) = some g → g.2 = ns ∧ Fs fm ds (some g.1) f := fun g hg => by
  obtain ⟨x, rfl, h1⟩ := bind_some hg
  cases h1
  exact ⟨rfl, h⟩
end
end GM

set_option Elab.async false
set_option linter.all false
set_option maxRecDepth 100000
set_option maxHeartbeats 4000000
set_option autoImplicit false
namespace GM
open PySem L2
theorem cloop_inv {ws : List W} {g : Gm} {e : Em} {ρ : Rho} (R : Nat → List W → Sto → Prop) (hs : ∀ i acc S w, ws[i]? = some w → R i acc S → ∃ ρ1 x S', g S w ρ = some ρ1 ∧ e ρ1 S = some (x, S') ∧ R (i + 1) (acc ++ [x]) S') :
    ∀ (n i : Nat) (acc : List W) (S : Sto), i + n = ws.length → R i acc S → ∃ r S', cloop (.its ws) g tyes e ρ n i S = some (r, S') ∧ R ws.length (acc ++ r) S' ∧ r.length = n
  | 0, i, acc, S, h, q => by
    refine ⟨[], S, ?_, by rw [List.append_nil, ← h]; exact q, rfl⟩
    unfold cloop
    rw [srcAt_its, List.getElem?_eq_none (by omega)]
    rfl
  | n + 1, i, acc, S, h, q => by
    have hi : i < ws.length := by omega
    obtain ⟨ρ1, x, S1, e1, e2, q2⟩ := hs i acc S ws[i] (List.getElem?_eq_getElem hi) q
    obtain ⟨r, S2, e3, q3, l3⟩ := cloop_inv R hs n (i + 1) (acc ++ [x]) S1 (by omega) q2
    refine ⟨x :: r, S2, ?_, by rw [List.append_assoc] at q3; exact q3, by rw [List.length_cons, l3]⟩
    unfold cloop
    rw [srcAt_its, List.getElem?_eq_getElem hi]
    show ((g _ ws[i] ρ).bind _) = _
    rw [e1]
    show ((e ρ1 _).bind _) = _
    rw [e2]
    show ((cloop _ g tyes e ρ n (i + 1) _).bind _) = _
    rw [e3]
    rfl
/-! ### pairs -/
def prN (n : Nat) : List (Nat × Nat) := (List.range n).flatMap fun a => (List.range (n - (a + 1))).map fun j => (a, a + 1 + j)
def pD (p : Nat × Nat) : D := .tup [.int (p.1 : Int), .int (p.2 : Int)]
theorem prN_mem {n : Nat} {p : Nat × Nat} : p ∈ prN n ↔ p.1 < p.2 ∧ p.2 < n := by
  unfold prN
  simp only [List.mem_flatMap, List.mem_range, List.mem_map]
  constructor
  · rintro ⟨a, ha, j, hj, rfl⟩
    exact ⟨by simp; omega, by simp; omega⟩
  · rintro ⟨h1, h2⟩
    exact ⟨p.1, by omega, p.2 - (p.1 + 1), by omega, by ext <;> simp <;> omega⟩
theorem prN_nodup (n : Nat) : (prN n).Nodup := by
  unfold prN
  rw [List.nodup_iff_pairwise_ne, List.pairwise_flatMap]
  refine ⟨fun a _ => ?_, ?_⟩
  · rw [List.pairwise_map]
    exact List.Pairwise.imp (fun {x y} h e => h (by simpa using e)) List.nodup_range
  · refine List.Pairwise.imp (fun {x y} h => ?_) List.nodup_range
    intro p hp q hq e
    subst e
    obtain ⟨_, _, rfl⟩ := List.mem_map.mp hp
    obtain ⟨_, _, e⟩ := List.mem_map.mp hq
    exact h (by simpa using (congrArg Prod.fst e).symm)
theorem flat_len (n m : Nat) : ((List.range m).flatMap fun a => (List.range (n - (a + 1))).map fun j => (a, a + 1 + j)).length ≤ m * n := by
  induction m with
  | zero => simp
  | succ m ih =>
    rw [List.range_succ, List.flatMap_append, List.length_append]
    simp only [List.flatMap_cons, List.flatMap_nil, List.append_nil, List.length_map, List.length_range]
    rw [Nat.succ_mul]
    omega
theorem prN_len (n : Nat) : (prN n).length ≤ n * n := flat_len n n
end GM
namespace GM
open PySem L2
theorem bind_ex {α β : Type} {x : Option α} {E : α → Prop} {f : α → Option β} {r : Option β} (h : ∃ o, x = some o ∧ E o) (k : ∀ o, E o → f o = r) : x.bind f = r := by
  obtain ⟨o, rfl, q⟩ := h
  exact k o q
theorem bind_eq {α β : Type} {x : Option α} {a : α} {f : α → Option β} {r : Option β} (h : x = some a) (k : f a = r) : x.bind f = r := by
  subst h
  exact k
end GM
namespace GM
open PySem L2
theorem add_lst {S : Sto} {a b c : List D} (h : a.length + b.length ≤ 1000000) (e : c = a ++ b) : fAdd S [.d (.lst a), .d (.lst b)] = some (.d (.lst c)) := by
  subst e
  show (some (a.map W.d)).bind (fun x => (some (b.map W.d)).bind fun y => if x.length + y.length ≤ 1000000 then (datas (x ++ y)).bind fun ds => some (W.d (.lst ds)) else none) = _
  simp only [Option.bind_some, List.length_map]
  rw [if_pos h, ← List.map_append, datas_map']
  rfl
end GM
namespace GM
open PySem L2
theorem cloop_src {α : Type} {src : Src} {l : List α} {k : α → W} {g : Gm} {e : Em} {ρ : Rho} {S : Sto} (f : α → W) (hsrc : ∀ i, srcAt src S i = some (l.map k)[i]?) (hs : ∀ x ∈ l, ∃ ρ1, g S (k x) ρ = some ρ1 ∧ e ρ1 S = some (f x, S)) :
    ∀ (n i : Nat), i + n = l.length → cloop src g tyes e ρ n i S = some ((l.drop i).map f, S)
  | 0, i, h => by
    unfold cloop
    rw [hsrc, List.getElem?_eq_none (by rw [List.length_map]; omega), List.drop_of_length_le (by omega)]
    rfl
  | n + 1, i, h => by
    have hi : i < l.length := by omega
    obtain ⟨ρ1, e1, e2⟩ := hs l[i] (List.getElem_mem hi)
    unfold cloop
    rw [hsrc, List.getElem?_map, List.getElem?_eq_getElem hi, List.drop_eq_getElem_cons hi]
    show ((g S (k l[i]) ρ).bind _) = _
    rw [e1]
    show ((e ρ1 S).bind _) = _
    rw [e2]
    show ((cloop _ g tyes e ρ n (i + 1) S).bind _) = _
    rw [cloop_src f hsrc hs n (i + 1) (by omega)]
    rfl
theorem cloop_cell {α : Type} {c : Nat} {l : List α} {k : α → W} {g : Gm} {e : Em} {ρ : Rho} {S : Sto} (f : α → W) (hc : S[c]? = some (.lst (l.map k))) (hs : ∀ x ∈ l, ∃ ρ1, g S (k x) ρ = some ρ1 ∧ e ρ1 S = some (f x, S)) :
    cloop (.cell c) g tyes e ρ (srcLen (.cell c) S) 0 S = some (l.map f, S) := by
  have hl := lstOf_eq hc
  have e1 : srcLen (.cell c) S = l.length := by
    show ((lstOf S c).getD []).length = _
    rw [hl]; simp
  rw [e1]
  have := cloop_src (src := .cell c) (k := k) f (fun i => by show (lstOf S c).bind _ = _; rw [hl]; rfl) hs l.length 0 (by omega)
  rwa [List.drop_zero] at this
theorem srcA_ref {S : Sto} {k : Nat} {ws : List W} (h : S[k]? = some (.lst ws)) : srcA S (.ref k) = some (.cell k) := by
  show (lstOf S k).bind _ = _
  rw [lstOf_eq h]; rfl
/-! ### rows in the making -/
abbrev row (n : Nat) (f : Nat → Int) : List W := (List.range n).map fun j => .d (.int (f j))
abbrev rowD (n : Nat) (f : Nat → Int) : List D := (List.range n).map fun j => .int (f j)
def cells (n : Nat) (M : Nat → Nat → Int) : Sto := (List.range n).map fun i => .lst (row n (M i))
def refs (s n : Nat) : List W := (List.range n).map fun i => .ref (s + i)
def XS (S : Sto) (n : Nat) (M : Nat → Nat → Int) : Sto := S ++ (cells n M ++ [.lst (refs S.length n)])
def put (M : Nat → Nat → Int) (a b : Nat) (v : Int) : Nat → Nat → Int := fun x y => if x = a ∧ y = b then v else M x y
theorem XS_rows {S : Sto} {n : Nat} {M : Nat → Nat → Int} : (XS S n M)[S.length + n]? = some (.lst (refs S.length n)) := by
  unfold XS
  rw [List.getElem?_append_right (by omega), List.getElem?_append_right (by simp [cells])]
  simp [cells]
theorem XS_row {S : Sto} {n : Nat} {M : Nat → Nat → Int} {a : Nat} (h : a < n) : (XS S n M)[S.length + a]? = some (.lst (row n (M a))) := by
  unfold XS
  rw [List.getElem?_append_right (by omega), List.getElem?_append_left (by simp [cells]; omega)]
  simp [cells, h]
theorem row_set {n : Nat} {f : Nat → Int} {b : Nat} {v : Int} : (row n f).set b (.d (.int v)) = row n fun y => if y = b then v else f y := by
  apply List.ext_getElem?
  intro i
  rw [List.getElem?_set]
  simp only [List.getElem?_map, List.length_map, List.length_range]
  by_cases hi : i < n
  · rw [List.getElem?_range hi]
    by_cases hb : b = i
    · subst hb; simp [hi]
    · simp [hb, Ne.symm hb]
  · rw [List.getElem?_eq_none (by simpa using hi)]
    by_cases hb : b = i
    · subst hb; simp [hi]
    · simp [hb]
theorem XS_set {S : Sto} {n : Nat} {M : Nat → Nat → Int} {a b : Nat} {v : Int} (h : a < n) : (XS S n M).set (S.length + a) (.lst ((row n (M a)).set b (.d (.int v)))) = XS S n (put M a b v) := by
  rw [row_set]
  unfold XS
  rw [List.set_append_right _ _ (by omega), Nat.add_sub_cancel_left, List.set_append_left _ _ (by simp [cells]; omega)]
  congr 2
  apply List.ext_getElem?
  intro i
  rw [List.getElem?_set]
  unfold cells
  simp only [List.getElem?_map, List.length_map, List.length_range]
  by_cases hi : i < n
  · rw [List.getElem?_range hi]
    by_cases hb : a = i
    · subst hb; simp [hi, put]
    · simp [hb, put, Ne.symm hb]
  · rw [List.getElem?_eq_none (by simpa using hi)]
    by_cases hb : a = i
    · subst hb; exact absurd h hi
    · simp [hb]
theorem ixN_nat {n b : Nat} (h : b < n) : ixN n (b : Int) = some b := by
  have : atI (List.range n) (b : Int) = some b := atI_nat (by rw [List.getElem?_range h])
  unfold atI at this
  obtain ⟨j, e1, e2⟩ := bind_some this
  rw [List.length_range] at e1
  have hj : j < n := by
    have := (List.getElem?_eq_some_iff.mp e2).1
    simpa using this
  rw [List.getElem?_range hj] at e2
  cases e2
  exact e1
def tab (n : Nat) (M : Nat → Nat → Int) : D := .tup ((List.range n).map fun a => .tup (rowD n (M a)))
/-- distances: none to itself, both ways the same -/
def Dist (M : Nat → Nat → Int) : Prop := (∀ a, M a a = 0) ∧ ∀ a b, M a b = M b a
theorem rep_row (n : Nat) (x : W) : (List.replicate n [x]).flatten = (List.range n).map fun _ => x := by
  induction n with
  | zero => rfl
  | succ n ih => rw [List.replicate_succ, List.flatten_cons, ih, List.range_succ_eq_map, List.map_cons, List.map_map]; rfl
theorem take_S (S X : Sto) : (S ++ X).take S.length = S := by simp
end GM
namespace GM
open PySem L2
theorem ints_of {Q : Nat → Int → Prop} : ∀ (r : List W) (i : Nat), (∀ j x, r[j]? = some x → ∃ v, x = .d (.int v) ∧ Q (i + j) v) → ∃ vs, r = iws vs ∧ ∀ (j : Nat) (v : Int), vs[j]? = some v → Q (i + j) v
  | [], i, _ => ⟨[], rfl, fun j v h => by simp at h⟩
  | x :: r, i, h => by
    obtain ⟨v, rfl, q⟩ := h 0 x rfl
    obtain ⟨vs, rfl, q2⟩ := ints_of (Q := Q) r (i + 1) fun j y hj => by
      obtain ⟨u, e, q3⟩ := h (j + 1) y hj
      exact ⟨u, e, by rw [show i + 1 + j = i + (j + 1) by omega]; exact q3⟩
    refine ⟨v :: vs, rfl, fun j u hj => ?_⟩
    cases j with
    | zero => cases hj; exact q
    | succ j => rw [show i + (j + 1) = i + 1 + j by omega]; exact q2 j u hj
theorem draw_ints {ws : List W} {g : Gm} {e : Em} {ρ : Rho} {T : Sto} {n : Nat} (Q : Nat → Int → Prop) (ns : List Int) (hn : n = ws.length) (hs : ∀ i w ns, ws[i]? = some w → ∃ ρ1 v ns', g (C ns :: T) w ρ = some ρ1 ∧ e ρ1 (C ns :: T) = some (.d (.int v), C ns' :: T) ∧ Q i v) :
    ∃ vs ns', cloop (.its ws) g tyes e ρ n 0 (C ns :: T) = some (iws vs, C ns' :: T) ∧ vs.length = n ∧ ∀ (j : Nat) (v : Int), vs[j]? = some v → Q j v := by
  subst hn
  obtain ⟨r, ns', h1, h2, h3⟩ := cloop_draw (T := T) (e := e) (ρ := ρ) (g := g) (fun i x => ∃ v, x = .d (.int v) ∧ Q i v) (fun i w ns hw => by
    obtain ⟨ρ1, v, ns', a, b, c⟩ := hs i w ns hw
    exact ⟨ρ1, _, ns', a, b, v, rfl, c⟩) ws.length 0 ns (by omega)
  obtain ⟨vs, rfl, h4⟩ := ints_of (Q := Q) r 0 h3
  exact ⟨vs, ns', h1, by simpa using h2, fun j v hj => by have := h4 j v hj; rwa [Nat.zero_add] at this⟩
section
variable {c x y : Cell} {T : Sto}
theorem two1 : (c :: (T ++ [x, y]))[T.length + 1]? = some x := by simp
theorem two2 : (c :: (T ++ [x, y]))[T.length + 1 + 1]? = some y := by simp
theorem set1 {z : Cell} : (c :: (T ++ [x, y])).set (T.length + 1) z = c :: (T ++ [z, y]) := by simp
theorem set2 {z : Cell} : (c :: (T ++ [x, y])).set (T.length + 1 + 1) z = c :: (T ++ [x, z]) := by simp
theorem set1b {z : Cell} : (T ++ [x, y]).set T.length z = T ++ [z, y] := by simp
theorem set2b {z : Cell} : (T ++ [x, y]).set (T.length + 1) z = T ++ [x, z] := by simp
theorem set1c {z : Cell} : (T ++ [x]).set T.length z = T ++ [z] := by simp
theorem erase_map {α β : Type} (f : α → β) : ∀ (l : List α) (m : Nat), (l.map f).eraseIdx m = (l.eraseIdx m).map f
  | [], _ => rfl
  | _ :: _, 0 => rfl
  | a :: l, m + 1 => by
    show f a :: (l.map f).eraseIdx m = f a :: (l.eraseIdx m).map f
    rw [erase_map f l m]
theorem erase_perm {α : Type} : ∀ (l : List α) (m : Nat) (h : m < l.length), (l[m] :: l.eraseIdx m).Perm l
  | [], _, h => absurd h (by simp)
  | _ :: _, 0, _ => .refl _
  | a :: l, m + 1, h => by
    have hm : m < l.length := by simpa using h
    show (l[m] :: a :: l.eraseIdx m).Perm (a :: l)
    exact (List.Perm.swap ..).trans (List.Perm.cons a (erase_perm l m hm))
theorem one1 : (c :: (T ++ [x]))[T.length + 1]? = some x := by simp
theorem setone {z : Cell} : (c :: (T ++ [x])).set (T.length + 1) z = c :: (T ++ [z]) := by simp
end
end GM
namespace GM
open PySem L2
section
variable {S : Sto}
theorem ix_p0 {p : Nat × Nat} : fIx S [.d (pD p), .d (.int 0)] = some (.d (.int (p.1 : Int))) := ix_tup (ds := [.int p.1, .int p.2]) (n := 0) rfl
theorem ix_p1 {p : Nat × Nat} : fIx S [.d (pD p), .d (.int 1)] = some (.d (.int (p.2 : Int))) := ix_tup (ds := [.int p.1, .int p.2]) (n := 1) rfl
theorem ix_t0 {a b : D} : fIx S [.d (.tup [a, b]), .d (.int 0)] = some (.d a) := ix_tup (n := 0) rfl
theorem ix_t1 {a b : D} : fIx S [.d (.tup [a, b]), .d (.int 1)] = some (.d b) := ix_tup (n := 1) rfl
end
theorem getD_at {vs : List Int} {k : Nat} (h : k < vs.length) : vs[k]? = some (vs.getD k 0) := by
  rw [List.getD_eq_getElem?_getD, List.getElem?_eq_getElem h]; rfl
theorem ix_ints {S : Sto} {vs : List Int} {k : Nat} (h : k < vs.length) : fIx S [.d (.lst (vs.map D.int)), .d (.int (k : Int))] = some (.d (.int (vs.getD k 0))) := ix_lst (by rw [List.getElem?_map, getD_at h]; rfl)
theorem prN_small {n : Nat} (hn : n ≤ 100) : (prN n).length ≤ 10000 := by
  have h1 := prN_len n
  have h2 : n * n ≤ 100 * 100 := Nat.mul_le_mul hn hn
  omega
theorem lim_iws {vs : List Int} {S : Sto} (h : vs.length ≤ 1000000) : lim (iws vs, S) = some (iws vs, S) := lim_ap (by rw [List.length_map]; exact h)
/-- what the pairs say, told by places -/
theorem M_of {n : Nat} {M : Nat → Nat → Int} {ds : List Int} (d : Nat × Nat → Int) (hd : ds = (prN n).map d) (h : ∀ (j : Nat) (p : Nat × Nat) (v : Int), (prN n)[j]? = some p → ds[j]? = some v → M p.1 p.2 = v) {a b : Nat} (hab : a < b) (hb : b < n) : M a b = d (a, b) := by
  obtain ⟨j, hj⟩ := List.getElem?_of_mem (prN_mem.mpr (show (a, b).1 < (a, b).2 ∧ (a, b).2 < n from ⟨hab, hb⟩))
  exact h j (a, b) _ hj (by rw [hd, List.getElem?_map, hj]; rfl)
def upF (lo : Int) (n : Nat) : List Int := (List.range n).map fun (i : Nat) => lo + (i : Int)
theorem upF_len {lo : Int} {n : Nat} : (upF lo n).length = n := by simp [upF]
theorem rngW_up {lo : Int} {n : Nat} : rngW lo n = iws (upF lo n) := by unfold rngW upF iws; rw [List.map_map]; rfl
/-- straight -/
def Tri (n : Nat) (M : Nat → Nat → Int) : Prop := ∀ a b c, a < n → b < n → c < n → M a c ≤ M a b + M b c
def ab (x : Int) : Int := if x < 0 then -x else x
def at2 (M : Nat → Nat → Int) (ts : List Nat) : D := .tup (ts.map fun a => .tup (ts.map fun b => .int (M a b)))
theorem at2_tab {M : Nat → Nat → Int} {ts : List Nat} : at2 M ts = tab ts.length fun i j => M (ts.getD i 0) (ts.getD j 0) := by
  have key : ∀ {β : Type} (f : Nat → β), ts.map f = (List.range ts.length).map fun i => f (ts.getD i 0) := fun f => by
    apply List.ext_getElem?
    intro i
    by_cases h : i < ts.length
    · rw [List.getElem?_map, List.getElem?_map, List.getElem?_range h, List.getElem?_eq_getElem h]
      simp [List.getD_eq_getElem?_getD, h]
    · rw [List.getElem?_eq_none (by simpa using h), List.getElem?_eq_none (by simpa using h)]
  unfold at2 tab
  rw [key]
  congr 2
  funext i
  rw [key]
theorem at2_range {M : Nat → Nat → Int} {n : Nat} : at2 M (List.range n) = tab n M := rfl
theorem tab_ix {S : Sto} {n : Nat} {M : Nat → Nat → Int} {a : Nat} (h : a < n) : fIx S [.d (tab n M), .d (.int (a : Int))] = some (.d (.tup (rowD n (M a)))) := ix_tup (by rw [List.getElem?_map, List.getElem?_range h]; rfl)
theorem row_ix {S : Sto} {n : Nat} {f : Nat → Int} {b : Nat} (h : b < n) : fIx S [.d (.tup (rowD n f)), .d (.int (b : Int))] = some (.d (.int (f b))) := ix_tup (by rw [List.getElem?_map, List.getElem?_range h]; rfl)
theorem tab_len {S : Sto} {n : Nat} {M : Nat → Nat → Int} : fLen S [.d (tab n M)] = some (.d (.int (n : Int))) := by
  unfold tab
  rw [len_tup]
  simp
/-- none below 0 -/
def NNn (n : Nat) (M : Nat → Nat → Int) : Prop := ∀ a b, a < n → b < n → 0 ≤ M a b
theorem nn_of {n : Nat} {M : Nat → Nat → Int} {ds : List Int} (d : Dist M) (hl : ds.length = (prN n).length) (hd : ∀ (j : Nat) (v : Int), ds[j]? = some v → 0 ≤ v) (h : ∀ (j : Nat) (p : Nat × Nat) (v : Int), (prN n)[j]? = some p → ds[j]? = some v → M p.1 p.2 = v) : NNn n M := by
  have lt : ∀ a b, a < b → b < n → 0 ≤ M a b := fun a b hab hb => by
    obtain ⟨j, hj⟩ := List.getElem?_of_mem (prN_mem.mpr (show (a, b).1 < (a, b).2 ∧ (a, b).2 < n from ⟨hab, hb⟩))
    have hjl := (List.getElem?_eq_some_iff.mp hj).1
    have hvj := List.getElem?_eq_getElem (show j < ds.length by omega)
    rw [h j (a, b) _ hj hvj]
    exact hd j _ hvj
  intro a b ha hb
  rcases Nat.lt_trichotomy a b with z | z | z
  · exact lt a b z hb
  · subst z; rw [d.1]; exact Int.le_refl 0
  · rw [d.2]; exact lt b a z ha
end GM
namespace GM
open PySem L2
theorem ab_nn (x : Int) : 0 ≤ ab x := by
  unfold ab
  split <;> omega
theorem dist_line {n : Nat} {M : Nat → Nat → Int} {P : Nat → Int} (d : Dist M) (h : ∀ a b, a < b → b < n → M a b = ab (P a - P b)) : ∀ a b, a < n → b < n → M a b = ab (P a - P b) := fun a b ha hb => by
  rcases Nat.lt_trichotomy a b with h1 | rfl | h1
  · exact h a b h1 hb
  · rw [d.1, Int.sub_self]; rfl
  · rw [d.2, h b a h1 ha]
    unfold ab
    split <;> split <;> omega
theorem tri_line {n : Nat} {M : Nat → Nat → Int} {P : Nat → Int} (h : ∀ a b, a < n → b < n → M a b = ab (P a - P b)) : Tri n M := fun a b c ha hb hc => by
  rw [h a c ha hc, h a b ha hb, h b c hb hc]
  unfold ab
  split <;> split <;> split <;> omega
theorem dist_plane {n : Nat} {M : Nat → Nat → Int} {P Q : Nat → Int} (d : Dist M) (h : ∀ a b, a < b → b < n → M a b = ab (P a - P b) + ab (Q a - Q b)) : Tri n M := by
  have key : ∀ a b, a < n → b < n → M a b = ab (P a - P b) + ab (Q a - Q b) := fun a b ha hb => by
    rcases Nat.lt_trichotomy a b with h1 | rfl | h1
    · exact h a b h1 hb
    · rw [d.1, Int.sub_self, Int.sub_self]; rfl
    · rw [d.2, h b a h1 ha]
      unfold ab
      split <;> split <;> split <;> split <;> omega
  intro a b c ha hb hc
  rw [key a c ha hc, key a b ha hb, key b c hb hc]
  unfold ab
  split <;> split <;> split <;> split <;> split <;> split <;> omega
theorem tups_of : ∀ (r : List W), (∀ (j : Nat) (x : W), r[j]? = some x → ∃ u v : Int, x = W.d (.tup [.int u, .int v])) → ∃ qs : List (Int × Int), r = qs.map fun q => W.d (.tup [.int q.1, .int q.2])
  | [], _ => ⟨[], rfl⟩
  | x :: r, h => by
    obtain ⟨u, v, rfl⟩ := h 0 x rfl
    obtain ⟨qs, rfl⟩ := tups_of r fun j y hj => h (j + 1) y hj
    exact ⟨(u, v) :: qs, rfl⟩
theorem cutW_map {α β : Type} (f : α → β) (xs : List α) (lo hi : Option Int) : cutW (xs.map f) lo hi = (cutW xs lo hi).map f := by
  unfold cutW
  rw [List.length_map, List.map_take, List.map_drop]
theorem cut_nat {α : Type} (xs : List α) (a b : Nat) (hb : b ≤ xs.length) (h : a < b) : cutW xs (some (a : Int)) (some (b : Int)) = (xs.drop a).take (b - a) := by
  unfold cutW
  rw [show HT.sIx xs.length 0 (some (a : Int)) = min a xs.length from HT.sIx_nat xs.length 0 a, show HT.sIx xs.length xs.length (some (b : Int)) = min b xs.length from HT.sIx_nat xs.length _ b]
  rw [show min a xs.length = a by omega, show min b xs.length = b by omega]
theorem max_some {zs : List Int} (h : zs ≠ []) : ∃ m, zs.max? = some m := by
  cases zs with
  | nil => exact absurd rfl h
  | cons a r => exact ⟨_, List.max?_cons'⟩
theorem intsW_iws : ∀ zs : List Int, intsW (iws zs) = some zs
  | [] => rfl
  | z :: r => by
    show (intsW (iws r)).bind _ = _
    rw [intsW_iws r]; rfl
end GM
namespace GM
open PySem L2
theorem tab_dist_map {M : Nat → Nat → Int} {f : Nat → Nat} (d : Dist M) : Dist fun i j => M (f i) (f j) := ⟨fun a => d.1 _, fun a b => d.2 _ _⟩
theorem nats_of_perm {js : List Int} {n : Nat} (h : js.Perm (upF 0 n)) : ∃ ks : List Nat, js = ks.map (fun (k : Nat) => (k : Int)) ∧ ks.length = n ∧ ks.Perm (List.range n) := by
  refine ⟨js.map Int.toNat, ?_, by rw [List.length_map, h.length_eq, upF_len], ?_⟩
  · rw [List.map_map]
    have : ∀ x ∈ js, ((fun (k : Nat) => (k : Int)) ∘ Int.toNat) x = x := fun x hx => by
      have := (h.mem_iff).mp hx
      unfold upF at this
      obtain ⟨i, _, rfl⟩ := List.mem_map.mp this
      simp
    rw [List.map_congr_left this]
    simp
  · have := h.map Int.toNat
    unfold upF at this
    rw [List.map_map] at this
    have e : (Int.toNat ∘ fun (i : Nat) => (0 : Int) + (i : Int)) = id := by
      funext i
      simp
    rw [e, List.map_id] at this
    exact this
end GM
namespace GM
open PySem L2
/-- data that _law_same takes: not deeper than n -/
def okD : Nat → D → Prop
  | _, .non => True
  | _, .bl _ => True
  | _, .int _ => True
  | n + 1, .tup ds => ds.length ≤ 1000000 ∧ ∀ d ∈ ds, okD n d
  | n + 1, .lst ds => ds.length ≤ 1000000 ∧ ∀ d ∈ ds, okD n d
  | _, _ => False
section
variable {S : Sto}
theorem isi_d {x : D} {b : String} (h : b ∈ ["int", "bool", "tuple", "list", "str"]) : fIsi S [.d x, .op (.ty b)] = (isB (tyD x) b).bind fun r => some (.d (.bl r)) := by
  show (if _ then _ else none) = _
  rw [if_pos h]; rfl
theorem ne_bl {a : Bool} : fNe S [.d (.bl a), .d (.bl a)] = some (.d (.bl false)) := by
  cases a <;> simp [fNe, fEqB, view, sh, eqD, D.py, PyData.eqv]
theorem eq_same {x : D} (h : match x with | .non => True | .bl _ => True | .int _ => True | _ => False) : fEq S [.d x, .d x] = some (.d (.bl true)) := by
  cases x with
  | non => simp [fEq, fEqB, view, sh, eqD, D.py, PyData.eqv]
  | bl a => cases a <;> simp [fEq, fEqB, view, sh, eqD, D.py, PyData.eqv]
  | int i => simp
  | _ => exact h.elim
theorem notIn_trues {n : Nat} : fNotIn S [.d (.bl false), .d (.lst (List.replicate n (.bl true)))] = some (.d (.bl true)) := by
  have h1 : inD (.bl false) (List.replicate n (.bl true)) = false := by
    unfold inD
    rw [List.any_eq_false]
    intro x hx
    rw [List.eq_of_mem_replicate hx]
    simp [eqD, D.py, PyData.eqv]
  have h2 : (sh 40 (.bl false) && (List.replicate n (D.bl true)).all (sh 39)) = true := by
    rw [Bool.and_eq_true]
    refine ⟨rfl, List.all_eq_true.mpr fun x hx => ?_⟩
    rw [List.eq_of_mem_replicate hx]
    rfl
  show (if _ then _ else none) = _
  rw [if_pos h2, h1]
  rfl
end
end GM

set_option Elab.async false
set_option linter.all false
set_option maxRecDepth 100000
set_option maxHeartbeats 4000000
set_option autoImplicit false
namespace GM
open PySem L2
section
variable {σ R α β γ : Type}
/-! ### loops of plain functions -/
theorem ofold_inv {body : σ → α → Option σ} {l : List α} (I : Nat → σ → Prop) (hs : ∀ i s x, l[i]? = some x → I i s → ∃ s', body s x = some s' ∧ I (i + 1) s') {s0 : σ} (h0 : I 0 s0) : ∃ s', ofold body l s0 = some s' ∧ I l.length s' := by
  have key : ∀ (n i : Nat) (s : σ), i + n = l.length → I i s → ∃ s', ofold body (l.drop i) s = some s' ∧ I l.length s' := by
    intro n
    induction n with
    | zero =>
      intro i s h q
      rw [List.drop_of_length_le (by omega)]
      exact ⟨s, rfl, by rw [← h]; exact q⟩
    | succ n ih =>
      intro i s h q
      have hi : i < l.length := by omega
      obtain ⟨s', e, q'⟩ := hs i s l[i] (List.getElem?_eq_getElem hi) q
      obtain ⟨s2, e2, q2⟩ := ih (i + 1) s' (by omega) q'
      refine ⟨s2, ?_, q2⟩
      rw [List.drop_eq_getElem_cons hi]
      show (body s l[i]).bind _ = _
      rw [e]; exact e2
  have := key l.length 0 s0 (by omega) h0
  rwa [List.drop_zero] at this
theorem ofor_inv {body : σ → α → Option (Oc σ R)} {l : List α} (I : Nat → σ → Prop) (hs : ∀ i s x, l[i]? = some x → I i s → ∃ s', body s x = some (.nx s') ∧ I (i + 1) s') {s0 : σ} (h0 : I 0 s0) : ∃ s', ofor body l s0 = some (.nx s') ∧ I l.length s' := by
  have key : ∀ (n i : Nat) (s : σ), i + n = l.length → I i s → ∃ s', ofor body (l.drop i) s = some (.nx s') ∧ I l.length s' := by
    intro n
    induction n with
    | zero =>
      intro i s h q
      rw [List.drop_of_length_le (by omega)]
      exact ⟨s, rfl, by rw [← h]; exact q⟩
    | succ n ih =>
      intro i s h q
      have hi : i < l.length := by omega
      obtain ⟨s', e, q'⟩ := hs i s l[i] (List.getElem?_eq_getElem hi) q
      obtain ⟨s2, e2, q2⟩ := ih (i + 1) s' (by omega) q'
      refine ⟨s2, ?_, q2⟩
      rw [List.drop_eq_getElem_cons hi]
      show (body s l[i]).bind _ = _
      rw [e]; exact e2
  have := key l.length 0 s0 (by omega) h0
  rwa [List.drop_zero] at this
theorem ocompL_ok {c : α → Option Bool} {f : α → Option β} (p : α → Bool) (g : α → β) : ∀ {l : List α}, (∀ x ∈ l, c x = some (p x) ∧ (p x = true → f x = some (g x))) → ocompL c f l = some ((l.filter p).map g)
  | [], _ => rfl
  | x :: r, h => by
    obtain ⟨h1, h2⟩ := h x (List.mem_cons_self ..)
    have ih := ocompL_ok p g (l := r) fun y hy => h y (List.mem_cons_of_mem _ hy)
    show (c x).bind _ = _
    rw [h1]
    cases hp : p x with
    | true =>
      show (f x).bind _ = _
      rw [h2 hp, List.filter_cons_of_pos hp]
      show (ocompL c f r).bind _ = _
      rw [ih]; rfl
    | false =>
      show ocompL c f r = _
      rw [ih, List.filter_cons_of_neg (by simp [hp])]
theorem ocomp_ok {c : α → Option Bool} {f : α → Option β} {l : List α} (p : α → Bool) (g : α → β) (h : ∀ x ∈ l, c x = some (p x) ∧ (p x = true → f x = some (g x))) (hl : l.length ≤ 1000000) : ocomp l c f = some ((l.filter p).map g) := by
  unfold ocomp
  rw [ocompL_ok p g h]
  exact if_pos (by rw [List.length_map]; exact Nat.le_trans (List.length_filter_le ..) hl)
theorem ocomp_map {f : α → Option β} {l : List α} (g : α → β) (h : ∀ x ∈ l, f x = some (g x)) (hl : l.length ≤ 1000000) : ocomp l (fun _ => some true) f = some (l.map g) := by
  have := ocomp_ok (c := fun _ => some true) (f := f) (l := l) (fun _ => true) g (fun x hx => ⟨rfl, fun _ => h x hx⟩) hl
  rwa [List.filter_eq_self.mpr fun _ _ => rfl] at this
theorem ocomp_filter {c : α → Option Bool} {l : List α} (p : α → Bool) (h : ∀ x ∈ l, c x = some (p x)) (hl : l.length ≤ 1000000) : ocomp l c (fun x => some x) = some (l.filter p) := by
  have := ocomp_ok (c := c) (f := fun x => some x) (l := l) p id (fun x hx => ⟨h x hx, fun _ => rfl⟩) hl
  rwa [List.map_id] at this
theorem ocomp2L_ok {c : α → Option Bool} {f : α → Option (List β)} (g : α → List β) : ∀ {l : List α}, (∀ x ∈ l, c x = some true ∧ f x = some (g x)) → ocomp2L c f l = some (l.flatMap g)
  | [], _ => rfl
  | x :: r, h => by
    obtain ⟨h1, h2⟩ := h x (List.mem_cons_self ..)
    have ih := ocomp2L_ok g (l := r) fun y hy => h y (List.mem_cons_of_mem _ hy)
    show (c x).bind _ = _
    rw [h1]
    show (f x).bind _ = _
    rw [h2]
    show (ocomp2L c f r).bind _ = _
    rw [ih]; rfl
theorem ocompS_ok {f : α → List Int → Option (β × List Int)} {l : List α} (Q : Nat → β → Prop) (h : ∀ i x ns, l[i]? = some x → ∃ y ns', f x ns = some (y, ns') ∧ Q i y) (hl : l.length ≤ 1000000) (ns : List Int) : ∃ r ns', ocompS l ns f = some (r, ns') ∧ r.length = l.length ∧ ∀ i y, r[i]? = some y → Q i y := by
  have key : ∀ (n i : Nat) (ns : List Int), i + n = l.length → ∃ r ns', ocompSL f (l.drop i) ns = some (r, ns') ∧ r.length = n ∧ ∀ j y, r[j]? = some y → Q (i + j) y := by
    intro n
    induction n with
    | zero =>
      intro i ns h'
      rw [List.drop_of_length_le (by omega)]
      exact ⟨[], ns, rfl, rfl, fun j y hj => by simp at hj⟩
    | succ n ih =>
      intro i ns h'
      have hi : i < l.length := by omega
      obtain ⟨y, n1, e1, q1⟩ := h i l[i] ns (List.getElem?_eq_getElem hi)
      obtain ⟨r, n2, e2, l2, q2⟩ := ih (i + 1) n1 (by omega)
      refine ⟨y :: r, n2, ?_, by rw [List.length_cons, l2], fun j z hj => ?_⟩
      · rw [List.drop_eq_getElem_cons hi]
        show (f l[i] ns).bind _ = _
        rw [e1]
        show (ocompSL f (l.drop (i + 1)) n1).bind _ = _
        rw [e2]; rfl
      · cases j with
        | zero => cases hj; exact q1
        | succ j => rw [show i + (j + 1) = i + 1 + j by omega]; exact q2 j z hj
  obtain ⟨r, n2, e, e2, q⟩ := key l.length 0 ns (by omega)
  rw [List.drop_zero] at e
  refine ⟨r, n2, ?_, e2, fun i y hi => by have := q i y hi; rwa [Nat.zero_add] at this⟩
  unfold ocompS
  rw [e]
  show (olim r).bind _ = _
  rw [show olim r = some r from if_pos (by omega)]; rfl
end
/-! ### ranges, items -/
def zs (n : Nat) : List Int := (List.range n).map fun (i : Nat) => (i : Int)
theorem irange0 (n : Nat) : irange 0 (n : Int) = zs n := by
  unfold irange zs
  rw [show ((n : Int) - 0).toNat = n by omega]
  apply List.map_congr_left
  intro i _
  omega
theorem orng1_nat {n : Nat} (h : n ≤ 1000000) : orng1 (n : Int) = some (zs n) := by
  unfold orng1
  rw [if_pos (by omega), irange0]
theorem orng2_nat {a n : Nat} (ha : a ≤ 1000000) (h : n ≤ 1000000) : orng2 (a : Int) (n : Int) = some ((List.range (n - a)).map fun (i : Nat) => ((a + i : Nat) : Int)) := by
  unfold orng2
  rw [if_pos (by omega)]
  unfold irange
  rw [show ((n : Int) - (a : Int)).toNat = n - a by omega]
  congr 1
theorem olrg_nat {n : Nat} (h : n ≤ 1000000) : olrg 0 (n : Int) = some (zs n) := by
  unfold olrg rgC
  rw [if_pos (by simp; omega), irange0]
theorem zs_len (n : Nat) : (zs n).length = n := by simp [zs]
theorem zs_at {n i : Nat} {x : Int} (h : (zs n)[i]? = some x) : i < n ∧ x = (i : Int) := by
  unfold zs at h
  rw [List.getElem?_map] at h
  obtain ⟨j, h1, rfl⟩ := Option.map_eq_some_iff.mp h
  have hi : i < n := by simpa using (List.getElem?_eq_some_iff.mp h1).1
  rw [List.getElem?_range hi] at h1
  cases h1
  exact ⟨hi, rfl⟩
theorem zs_mem {n : Nat} {x : Int} : x ∈ zs n ↔ ∃ i : Nat, i < n ∧ x = (i : Int) := by
  unfold zs
  rw [List.mem_map]
  constructor
  · rintro ⟨i, hi, rfl⟩; exact ⟨i, List.mem_range.mp hi, rfl⟩
  · rintro ⟨i, hi, rfl⟩; exact ⟨i, List.mem_range.mpr hi, rfl⟩
theorem zs_map {α : Type} (n : Nat) (f : Int → α) : (zs n).map f = (List.range n).map fun (i : Nat) => f (i : Int) := by unfold zs; rw [List.map_map]; rfl
/-- the pairs as ints -/
def prI (n : Nat) : List (Int × Int) := (prN n).map fun p => ((p.1 : Int), (p.2 : Int))
theorem prI_len (n : Nat) : (prI n).length = (prN n).length := by simp [prI]
theorem prI_mem {n : Nat} {x : Int × Int} (h : x ∈ prI n) : ∃ a b : Nat, a < b ∧ b < n ∧ x = ((a : Int), (b : Int)) := by
  unfold prI at h
  obtain ⟨p, hp, rfl⟩ := List.mem_map.mp h
  obtain ⟨h1, h2⟩ := prN_mem.mp hp
  exact ⟨p.1, p.2, h1, h2, rfl⟩
theorem prI_at {n i : Nat} {x : Int × Int} (h : (prI n)[i]? = some x) : ∃ p : Nat × Nat, (prN n)[i]? = some p ∧ p.1 < p.2 ∧ p.2 < n ∧ x = ((p.1 : Int), (p.2 : Int)) := by
  unfold prI at h
  rw [List.getElem?_map] at h
  obtain ⟨p, hp, rfl⟩ := Option.map_eq_some_iff.mp h
  obtain ⟨h1, h2⟩ := prN_mem.mp (List.mem_of_getElem? hp)
  exact ⟨p, hp, h1, h2, rfl⟩
theorem oapp_ok {α : Type} {l : List α} {x : α} (h : l.length ≤ 1000000) : oapp l x = some (l ++ [x]) := if_pos h
theorem ocat_ok {α : Type} {l m : List α} (h : l.length + m.length ≤ 1000000) : ocat l m = some (l ++ m) := if_pos h
theorem omod_pos {x y : Int} (h : 0 < y) : omod x y = some (x % y) := if_pos h
theorem omul_sm {x y : Int} (h : x.natAbs < 2 ^ 64 ∨ y.natAbs < 2 ^ 64) : omul x y = some (x * y) := by
  unfold omul
  rw [if_pos]
  rcases h with h | h
  · exact mulOk_smallL h
  · exact mulOk_small h
theorem odiv2 {x : Int} : odiv x 2 = some (x / 2) := by
  unfold odiv
  rw [if_pos ⟨by omega, Nat.lt_of_lt_of_le (show (2 : Int).natAbs < 2 ^ 10 by decide) (Nat.pow_le_pow_right (by omega) (by omega))⟩]
theorem opow_ok {x y : Int} (h : 0 ≤ y) (h1 : y ≤ 1000000) (h2 : x.natAbs < 2 ^ 64) : opow x y = some (x ^ y.toNat) := if_pos ⟨h, h1, h2⟩
end GM

set_option Elab.async false
set_option linter.all false
set_option maxRecDepth 100000
set_option maxHeartbeats 4000000
set_option autoImplicit false
namespace GM
open PySem L2
section
variable {α β γ σ R τ : Type}
/-! ### what is known of a drawn result -/
def Sat (o : Option β) (Q : β → Prop) : Prop := ∃ x, o = some x ∧ Q x
theorem Sat.pure {x : β} {Q : β → Prop} (h : Q x) : Sat (some x) Q := ⟨x, rfl, h⟩
theorem Sat.of {o : Option β} {x : β} {Q : β → Prop} (e : o = some x) (h : Q x) : Sat o Q := ⟨x, e, h⟩
theorem Sat.bind {o : Option β} {k : β → Option γ} {A : β → Prop} {Q : γ → Prop} (h : Sat o A) (hk : ∀ x, A x → Sat (k x) Q) : Sat (o.bind k) Q := by
  obtain ⟨x, rfl, a⟩ := h
  exact hk x a
theorem Sat.eqb {o : Option β} {x : β} {k : β → Option γ} {Q : γ → Prop} (e : o = some x) (hk : Sat (k x) Q) : Sat (o.bind k) Q := by
  rw [e]; exact hk
theorem Sat.mono {o : Option β} {A Q : β → Prop} (h : Sat o A) (hq : ∀ x, A x → Q x) : Sat o Q := by
  obtain ⟨x, e, a⟩ := h
  exact ⟨x, e, hq x a⟩
theorem Sat.ite {c : Prop} [Decidable c] {x y : Option β} {Q : β → Prop} (h1 : c → Sat x Q) (h2 : ¬ c → Sat y Q) : Sat (if c then x else y) Q := by
  by_cases h : c
  · rw [if_pos h]; exact h1 h
  · rw [if_neg h]; exact h2 h
theorem Sat.ofold {body : σ → α → Option σ} {l : List α} (I : Nat → σ → Prop) {s0 : σ} (h0 : I 0 s0) (hs : ∀ i s x, l[i]? = some x → I i s → Sat (body s x) (I (i + 1))) : Sat (ofold body l s0) (I l.length) := ofold_inv I (fun i s x hx hi => hs i s x hx hi) h0
/-- a loop that never hands out: behind it goes k -/
theorem Sat.ofor {body : σ → α → Option (Oc σ R)} {l : List α} {k : Oc σ R → Option τ} {Q : τ → Prop} (I : Nat → σ → Prop) {s0 : σ} (h0 : I 0 s0) (hs : ∀ i s x, l[i]? = some x → I i s → Sat (body s x) (fun o => ∃ s', o = .nx s' ∧ I (i + 1) s')) (hk : ∀ s, I l.length s → Sat (k (.nx s)) Q) : Sat ((GM.ofor body l s0).bind k) Q := by
  obtain ⟨s, e, h⟩ := ofor_inv I (fun i s x hx hi => by
    obtain ⟨o, e, s', rfl, h⟩ := hs i s x hx hi
    exact ⟨s', e, h⟩) h0
  rw [e]; exact hk s h
/-- the same with early ends that are right -/
theorem Sat.oforE {body : σ → α → Option (Oc σ R)} {l : List α} {k : Oc σ R → Option τ} {Q : τ → Prop} (I : Nat → σ → Prop) {s0 : σ} (h0 : I 0 s0) (hs : ∀ i s x, l[i]? = some x → I i s → Sat (body s x) (fun o => (∃ s', (o = .nx s' ∨ o = .ct s') ∧ I (i + 1) s') ∨ (∃ s', o = .bk s' ∧ Sat (k (.nx s')) Q) ∨ ∃ r, o = .ret r ∧ Sat (k (.ret r)) Q)) (hk : ∀ s, I l.length s → Sat (k (.nx s)) Q) : Sat ((GM.ofor body l s0).bind k) Q := by
  have key : ∀ (n i : Nat) (s : σ), i + n = l.length → I i s → Sat ((GM.ofor body (l.drop i) s).bind k) Q := by
    intro n
    induction n with
    | zero =>
      intro i s h q
      rw [List.drop_of_length_le (by omega)]
      have : i = l.length := by omega
      subst this
      exact hk s q
    | succ n ih =>
      intro i s h q
      have hi : i < l.length := by omega
      rw [List.drop_eq_getElem_cons hi]
      show Sat (((body s l[i]).bind _).bind k) Q
      obtain ⟨o, e, h⟩ := hs i s l[i] (List.getElem?_eq_getElem hi) q
      rw [e]
      rcases h with ⟨s', h | h, q'⟩ | ⟨s', rfl, q'⟩ | ⟨r, rfl, q'⟩
      · subst h; exact ih (i + 1) s' (by omega) q'
      · subst h; exact ih (i + 1) s' (by omega) q'
      · exact q'
      · exact q'
  have := key l.length 0 s0 (by omega) h0
  rwa [List.drop_zero] at this
theorem Sat.ocompS {f : α → List Int → Option (β × List Int)} {l : List α} (Q : Nat → β → Prop) (hl : l.length ≤ 1000000) (ns : List Int) (h : ∀ i x ns, l[i]? = some x → Sat (f x ns) (fun r => Q i r.1)) : Sat (GM.ocompS l ns f) (fun r => r.1.length = l.length ∧ ∀ i y, r.1[i]? = some y → Q i y) := by
  obtain ⟨r, ns', e, h⟩ := ocompS_ok (f := f) (l := l) Q (fun i x ns hx => by
    obtain ⟨⟨y, n'⟩, e, q⟩ := h i x ns hx
    exact ⟨y, n', e, q⟩) hl ns
  exact ⟨(r, ns'), e, h⟩
end
end GM

set_option Elab.async false
set_option linter.all false
set_option maxRecDepth 100000
set_option maxHeartbeats 4000000
set_option autoImplicit false
namespace Kx
open PySem L2 GM
abbrev prT (n i : Nat) : List (Nat × Nat) := (List.range i).flatMap fun a => (List.range (n - (a + 1))).map fun j => (a, a + 1 + j)
theorem prT_succ (n i : Nat) : prT n (i + 1) = prT n i ++ (List.range (n - (i + 1))).map fun j => (i, i + 1 + j) := by
  unfold prT
  rw [List.range_succ, List.flatMap_append]
  simp
theorem pairs_ok (n : Nat) (hn : n ≤ 100) (S : Sto) : m_pairs [.d (.int (n : Int))] S = some (.val (.d (.lst ((prN n).map pD))), S) := by
  have hg : rg1 S [.d (.int (n : Int))] = some (.its (rngW 0 n)) := rg1_nat (by omega)
  simp [m_pairs, b_pairs, hg]
  refine bind_ex (E := fun o => o = .ret (.d (.lst ((prN n).map pD))) S) ?_ (fun o h => by rw [h, end_pure0])
  refine ⟨_, bind_ex (floop_inv (fun i ρ S' => S' = S ∧ ∃ x2 x3, ρ = [some (.d (.int (n : Int))), some (.d (.lst ((prT n i).map pD))), x2, x3]) (fun o => ∃ x2 x3, o = .nx [some (.d (.int (n : Int))), some (.d (.lst ((prN n).map pD))), x2, x3] S)
    ?_ ?_ n 0 _ _ (by simp) ⟨rfl, none, none, rfl⟩) ?_, rfl⟩
  · rintro i w ρ S' hw ⟨rfl, x2, x3, rfl⟩
    obtain ⟨hi, rfl⟩ := rngW_at0 hw
    refine ⟨_, .nx [some (.d (.int (n : Int))), some (.d (.lst ((prT n (i + 1)).map pD))), some (.d (.int (i : Int))), x3] S', rfl, ?_, rfl, _, _, rfl⟩
    have hr : rg2 S' [.d (.int ((i : Int) + 1)), .d (.int (n : Int))] = some (.its (rngW ((i : Int) + 1) (n - (i + 1)))) := rg2_nat (a := i + 1) (by omega) (by omega)
    have hl : (prT n i).length ≤ i * n := flat_len n i
    have hl2 : i * n ≤ 100 * 100 := Nat.mul_le_mul (by omega) hn
    have hc : cloop (.its (rngW ((i : Int) + 1) (n - (i + 1)))) (gnm 3) tyes (prim fTup (acons (mv 2) (acons (mv 3) anil))) [some (.d (.int (n : Int))), some (.d (.lst ((prT n i).map pD))), some (.d (.int (i : Int))), none] (n - (i + 1)) 0 S' = some ((List.range (n - (i + 1))).map fun j => W.d (pD (i, i + 1 + j)), S') := by
      refine cloop_fmap _ (by simp) fun x hx => ⟨_, rfl, ?_⟩
      simp [pD]
    have hm : lim ((List.range (n - (i + 1))).map (fun j => W.d (pD (i, i + 1 + j))), S') = some ((List.range (n - (i + 1))).map fun j => W.d (pD (i, i + 1 + j)), S') := lim_ap (by simp; omega)
    have ha : fAdd S' [.d (.lst ((prT n i).map pD)), .d (.lst ((List.range (n - (i + 1))).map fun j => pD (i, i + 1 + j)))] = some (.d (.lst ((prT n (i + 1)).map pD))) := by
      rw [prT_succ]
      refine add_lst ?_ ?_
      · rw [List.length_map, List.length_map, List.length_range]; omega
      · rw [List.map_append, List.map_map]; rfl
    simp [hr, hc, hm, datas_fmap, ha]
  · rintro ρ S' ⟨rfl, x2, x3, rfl⟩
    exact ⟨x2, x3, by rw [rngW_length]; rfl⟩
  · rintro o ⟨x2, x3, rfl⟩
    rfl
/-- how the distances are given -/
def Given (S : Sto) (dist : W) (ds : List Int) : Prop := ∀ (X : Sto) (k : Nat) (v : Int), ds[k]? = some v → fIx (S ++ X) [dist, .d (.int (k : Int))] = some (.d (.int v))
theorem given_lst (S : Sto) (ds : List Int) : Given S (.d (.lst (ds.map D.int))) ds := fun X k v h => ix_lst (by rw [List.getElem?_map, h]; rfl)
theorem given_ref (S : Sto) (c : Nat) (ds : List Int) (h : S[c]? = some (C ds)) : Given S (.ref c) ds := fun X k v hk => by
  refine ix_ref (ws := iws ds) ?_ ?_
  · rw [List.getElem?_append_left (List.getElem?_eq_some_iff.mp h).1]; exact h
  · rw [List.getElem?_map, hk]; rfl
theorem from_pairs_ok (n : Nat) (hn : n ≤ 100) (S : Sto) (dist : W) (ds : List Int) (hd : Given S dist ds) (hl : ds.length = (prN n).length) :
    ∃ M, m_from_pairs [.d (.int (n : Int)), dist] S = some (.val (.d (tab n M)), S) ∧ Dist M ∧ ∀ (j : Nat) (p : Nat × Nat) (v : Int), (prN n)[j]? = some p → ds[j]? = some v → M p.1 p.2 = v := by
  have hg : ∀ S, rg1 S [.d (.int (n : Int))] = some (.its (rngW 0 n)) := fun S => rg1_nat (by omega)
  have hg2 : ∀ S, rg1 S [.d (.int (((prN n).map pD).length : Int))] = some (.its (rngW 0 (prN n).length)) := fun S => by
    rw [List.length_map]
    have h1 := prN_len n
    have h2 : n * n ≤ 100 * 100 := Nat.mul_le_mul hn hn
    exact rg1_nat (by omega)
  -- rows
  obtain ⟨r, S1, c1, ⟨c2, c3⟩, c4⟩ := cloop_inv (ws := rngW 0 n) (g := gnm 4) (e := thw (primF fRep (acons (frz (primF fLst (acons (mk (.int 0)) anil))) (acons (mv 0) anil)))) (ρ := [some (.d (.int (n : Int))), some dist, none, none, none, none, none, none])
    (fun i acc S' => acc = refs S.length i ∧ S' = S ++ (List.range i).map fun _ => .lst (row n fun _ => 0)) (fun i acc S' w hw ⟨h1, h2⟩ => by
      obtain ⟨hi, rfl⟩ := rngW_at0 hw
      subst h1 h2
      refine ⟨_, .ref (S.length + i), _, rfl, ?_, ?_, rfl⟩
      · have hr : ∀ S, fRep S [.d (.lst [.int 0]), .d (.int (n : Int))] = some (row n fun _ => 0) := fun S => by
          show (some [W.d (.int 0)]).bind (fun a => if (n : Int).natAbs ≤ 2000000 ∧ a.length * (n : Int).toNat ≤ 1000000 then some (List.replicate (n : Int).toNat a).flatten else none) = _
          rw [Option.bind_some, if_pos (by constructor <;> simp <;> omega)]
          show some (List.replicate n [W.d (.int 0)]).flatten = _
          rw [rep_row]
        simp [hr]
        rw [List.range_succ, List.map_append]
        rfl
      · unfold refs
        rw [List.range_succ, List.map_append]
        rfl) n 0 [] S (by simp) ⟨rfl, by simp⟩
  rw [List.nil_append, rngW_length] at c2
  rw [rngW_length] at c3
  subst c2
  have hX : S1 ++ [Cell.lst (refs S.length n)] = XS S n (fun _ _ => 0) := by
    rw [c3, List.append_assoc]
    rfl
  have hS1 : S1.length = S.length + n := by rw [c3]; simp
  have hlim : lim (refs S.length n, S1) = some (refs S.length n, S1) := lim_ap (by simp [refs]; omega)
  -- the loop
  obtain ⟨o, l1, M, l2, l3, l4⟩ := floop_inv (ws := rngW 0 (prN n).length) (g := gnm 4) (b := bseq (basg (gtp 2 (gcons (gnm 5) (gcons (gnm 6) gnil))) (prim fIx (acons (mv 3) (acons (mv 4) anil))))
  (bseq (bsub (prim fIx (acons (mv 1) (acons (mv 4) anil))) (prim fIx (acons (mv 2) (acons (mv 5) anil))) (mv 6))
  (bsub (prim fIx (acons (mv 1) (acons (mv 4) anil))) (prim fIx (acons (mv 2) (acons (mv 6) anil))) (mv 5))))
    (fun i ρ S' => ∃ M x4 x5 x6, S' = XS S n M ∧ ρ = [some (.d (.int (n : Int))), some dist, some (.ref (S.length + n)), some (.d (.lst ((prN n).map pD))), x4, x5, x6, none] ∧ Dist M ∧ ∀ (j : Nat) (p : Nat × Nat) (v : Int), j < i → (prN n)[j]? = some p → ds[j]? = some v → M p.1 p.2 = v)
    (fun o => ∃ M, (∃ x4 x5 x6, o = .nx [some (.d (.int (n : Int))), some dist, some (.ref (S.length + n)), some (.d (.lst ((prN n).map pD))), x4, x5, x6, none] (XS S n M)) ∧ Dist M ∧ ∀ (j : Nat) (p : Nat × Nat) (v : Int), (prN n)[j]? = some p → ds[j]? = some v → M p.1 p.2 = v)
    (fun i w ρ S' hw ⟨M, x4, x5, x6, h1, h2, h3, h4⟩ => by
      obtain ⟨hi, rfl⟩ := rngW_at0 hw
      subst h1 h2
      have hp := List.getElem?_eq_getElem hi
      have hv := List.getElem?_eq_getElem (show i < ds.length by omega)
      have hm := prN_mem.mp (List.getElem_mem hi)
      generalize (prN n)[i] = p at hp hm
      generalize ds[i] = v at hv
      obtain ⟨a, b⟩ := p
      have hab : a < b := hm.1
      have hbn : b < n := hm.2
      refine ⟨_, .nx [some (.d (.int (n : Int))), some dist, some (.ref (S.length + n)), some (.d (.lst ((prN n).map pD))), some (.d (.int (i : Int))), some (.d (.int (a : Int))), some (.d (.int (b : Int))), none] (XS S n (put (put M a b v) b a v)), rfl, ?_, put (put M a b v) b a v, _, _, _, rfl, rfl, ⟨fun x => ?_, fun x y => ?_⟩, fun j p u hj e1 e2 => ?_⟩
      · have q1 : fIx (XS S n M) [.d (.lst ((prN n).map pD)), .d (.int (i : Int))] = some (.d (pD (a, b))) := ix_lst (by rw [List.getElem?_map, hp]; rfl)
        have q2 : ∀ M, fIx (XS S n M) [dist, .d (.int (i : Int))] = some (.d (.int v)) := fun M => hd _ i v hv
        have q3 : ∀ M a, a < n → fIx (XS S n M) [.ref (S.length + n), .d (.int (a : Int))] = some (.ref (S.length + a)) := fun M a ha => ix_ref XS_rows (by unfold refs; rw [List.getElem?_map, List.getElem?_range ha]; rfl)
        have q4 : ∀ M a, a < n → lstOf (XS S n M) (S.length + a) = some (row n (M a)) := fun M a ha => lstOf_eq (XS_row ha)
        have q5 : ∀ M a b v, a < n → (XS S n M).set (S.length + a) (.lst ((row n (M a)).set b (.d (.int v)))) = XS S n (put M a b v) := fun M a b v ha => XS_set ha
        have r5 : ixN n (b : Int) = some b := ixN_nat hbn
        have r6 : ixN n (a : Int) = some a := ixN_nat (by omega)
        simp [q1, q2, q3 M a (by omega), q3 _ b hbn, q4 M a (by omega), q4 _ b hbn, pD, r5, r6]
        rw [q5 M a b v (by omega)]
        simp [q2, q3 _ b hbn, q4 _ b hbn, r6]
        rw [q5 _ b a v hbn]
      · unfold put
        rw [if_neg (by omega), if_neg (by omega)]
        exact h3.1 x
      · unfold put
        by_cases c1 : x = b ∧ y = a
        · rw [if_pos c1, if_neg (by omega), if_pos (by omega)]
        · rw [if_neg c1]
          by_cases c2 : x = a ∧ y = b
          · rw [if_pos c2, if_pos (by omega)]
          · rw [if_neg c2, if_neg (by omega), if_neg (by omega)]
            exact h3.2 x y
      · by_cases hji : j = i
        · subst hji
          rw [hp] at e1; cases e1
          rw [hv] at e2; cases e2
          unfold put
          rw [if_neg (by simp; omega), if_pos (by simp)]
        · have := h4 j p u (by omega) e1 e2
          have hpm := prN_mem.mp (List.mem_of_getElem? e1)
          have hne : p ≠ (a, b) := fun z => by
            subst z
            exact hji ((List.getElem?_inj (List.getElem?_eq_some_iff.mp e1).1 (prN_nodup n)).mp (e1.trans hp.symm))
          unfold put
          have hne2 : ¬ (p.1 = a ∧ p.2 = b) := fun z => hne (Prod.ext z.1 z.2)
          rw [if_neg (by omega), if_neg hne2]
          exact this)
    (fun ρ S' ⟨M, x4, x5, x6, h1, h2, h3, h4⟩ => ⟨M, ⟨x4, x5, x6, by rw [h1, h2]⟩, h3, fun j p v e1 e2 => h4 j p v (by rw [rngW_length]; exact (List.getElem?_eq_some_iff.mp e1).1) e1 e2⟩)
    (prN n).length 0 [some (.d (.int (n : Int))), some dist, some (.ref (S.length + n)), some (.d (.lst ((prN n).map pD))), none, none, none, none] (XS S n fun _ _ => 0) (by simp) ⟨_, none, none, none, rfl, rfl, ⟨fun _ => rfl, fun _ _ => rfl⟩, fun j _ _ hj => absurd hj (by omega)⟩
  obtain ⟨x4, x5, x6, rfl⟩ := l2
  refine ⟨M, ?_, l3, l4⟩
  have hA : srcA (XS S n M) (.ref (S.length + n)) = some (.cell (S.length + n)) := srcA_ref XS_rows
  have hT : cloop (.cell (S.length + n)) (gnm 7) tyes (prim fTuple (acons (mv 7) anil)) [some (.d (.int (n : Int))), some dist, some (.ref (S.length + n)), some (.d (.lst ((prN n).map pD))), x4, x5, x6, none] (srcLen (.cell (S.length + n)) (XS S n M)) 0 (XS S n M) = some ((List.range n).map fun a => W.d (.tup (rowD n (M a))), XS S n M) := by
    refine cloop_cell (l := List.range n) (k := fun i => W.ref (S.length + i)) _ XS_rows fun a ha => ⟨_, rfl, ?_⟩
    have ha' : a < n := List.mem_range.mp ha
    have : fTuple (XS S n M) [.ref (S.length + a)] = some (.d (.tup (rowD n (M a)))) := by
      show (lstOf (XS S n M) (S.length + a)).bind (fun ws => (datas ws).bind fun ds => some (W.d (.tup ds))) = _
      rw [lstOf_eq (XS_row ha')]
      show (datas (row n (M a))).bind _ = _
      rw [datas_fmap]
      rfl
    simp [this]
  have hlim2 : lim ((List.range n).map (fun a => W.d (.tup (rowD n (M a)))), XS S n M) = some ((List.range n).map (fun a => W.d (.tup (rowD n (M a)))), XS S n M) := lim_ap (by simp; omega)
  simp [m_from_pairs, b_from_pairs, hg, c1, hlim, hX, hS1, pairs_ok n hn]
  rw [List.length_map] at hg2
  simp [hg2, l1, hA, hT, hlim2, datas_fmap]
  exact end_pure
theorem sameF_ok : ∀ (n : Nat) (x : D) (S : Sto), okD n x → m_sameF (n + 1) [.d x, .d x] S = some (.val (.d (.bl true)), S) := by
  have flat : ∀ (n : Nat) (x : D) (S : Sto), (match x with | .non => True | .bl _ => True | .int _ => True | _ => False) → m_sameF (n + 1) [.d x, .d x] S = some (.val (.d (.bl true)), S) := fun n x S h => by
    have he := eq_same (S := S) h
    show runDef 2 3 (b_same (m_sameF n)) _ _ = _
    cases x with
    | non => simp [b_same, isi_d, tyW, tyD, isAny, isB, ne_bl, fIsN, he, end_pure0]
    | bl a => simp [b_same, isi_d, tyW, tyD, isAny, isB, ne_bl, fIsN, he, end_pure0]
    | int i => simp [b_same, isi_d, tyW, tyD, isAny, isB, ne_bl, fIsN, he, end_pure0]
    | _ => exact h.elim
  intro n
  induction n with
  | zero =>
    intro x S h
    cases x with
    | non => exact flat 0 _ S trivial
    | bl a => exact flat 0 _ S trivial
    | int i => exact flat 0 _ S trivial
    | _ => exact h.elim
  | succ n ih =>
    intro x S h
    have hrow : ∀ (v : W) (ds : List D), ds.length ≤ 1000000 → (∀ d ∈ ds, okD n d) → (∀ (k : Nat) (d : D), ds[k]? = some d → fIx S [v, .d (.int (k : Int))] = some (.d d)) → cloop (.its (rngW 0 ds.length)) (gnm 2) tyes (mcall (m_sameF (n + 1)) (acons (prim fIx (acons (mv 0) (acons (mv 2) anil))) (acons (prim fIx (acons (mv 1) (acons (mv 2) anil))) anil))) [some v, some v, none] ds.length 0 S = some ((List.range ds.length).map (fun _ => W.d (.bl true)), S) := fun v ds _ hd hx => by
      refine cloop_fmap (k := fun (i : Nat) => W.d (.int ((0 : Int) + (i : Int)))) (fun _ => W.d (.bl true)) (by simp) fun i hi => ⟨_, rfl, ?_⟩
      have hi' : i < ds.length := List.mem_range.mp hi
      have e1 := hx i ds[i] (List.getElem?_eq_getElem hi')
      have e2 := ih ds[i] S (hd _ (List.getElem_mem hi'))
      simp [e1, e2]
    have rep : ∀ m : Nat, (List.range m).map (fun _ => D.bl true) = List.replicate m (.bl true) := fun m => by rw [List.map_const', List.length_range]
    cases x with
    | non => exact flat _ _ S trivial
    | bl a => exact flat _ _ S trivial
    | int i => exact flat _ _ S trivial
    | tup ds =>
      have e1 := hrow (.d (.tup ds)) ds h.1 h.2 fun k d hk => ix_tup hk
      have hg : rg1 S [.d (.int (ds.length : Int))] = some (.its (rngW 0 ds.length)) := rg1_nat h.1
      have hl : lim ((List.range ds.length).map (fun _ => W.d (.bl true)), S) = some ((List.range ds.length).map (fun _ => W.d (.bl true)), S) := lim_ap (by simpa using h.1)
      have hd : datas ((List.range ds.length).map (fun _ => W.d (.bl true))) = some (List.replicate ds.length (.bl true)) := by rw [datas_fmap, rep]
      generalize (List.range ds.length).map (fun _ => W.d (.bl true)) = r at e1 hl hd
      show runDef 2 3 (b_same (m_sameF (n + 1))) _ _ = _
      simp [b_same, isi_d, tyW, tyD, isAny, isB, ne_bl, hg, e1, hl, hd, notIn_trues, end_pure0]
    | lst ds =>
      have e1 := hrow (.d (.lst ds)) ds h.1 h.2 fun k d hk => ix_lst hk
      have hg : rg1 S [.d (.int (ds.length : Int))] = some (.its (rngW 0 ds.length)) := rg1_nat h.1
      have hl : lim ((List.range ds.length).map (fun _ => W.d (.bl true)), S) = some ((List.range ds.length).map (fun _ => W.d (.bl true)), S) := lim_ap (by simpa using h.1)
      have hd : datas ((List.range ds.length).map (fun _ => W.d (.bl true))) = some (List.replicate ds.length (.bl true)) := by rw [datas_fmap, rep]
      generalize (List.range ds.length).map (fun _ => W.d (.bl true)) = r at e1 hl hd
      show runDef 2 3 (b_same (m_sameF (n + 1))) _ _ = _
      simp [b_same, isi_d, tyW, tyD, isAny, isB, ne_bl, hg, e1, hl, hd, notIn_trues, end_pure0]
    | _ => exact h.elim
theorem same_ok {x : D} {S : Sto} (h : okD 7 x) : m_same [.d x, .d x] S = some (.val (.d (.bl true)), S) := sameF_ok 7 x S h
theorem draws_ok (N : Nat) (hN : N ≤ 10000) (ns : List Int) (h : ns.length ≤ 63) : ∃ ms, m_draws [.d (.scr (ns.map D.int)), .d (.int (N : Int))] [] = some (.new (iws ms), []) := by
  have hg : ∀ S, rg1 S [.d (.int (N : Int))] = some (.its (rngW 0 N)) := fun S => rg1_nat (by omega)
  obtain ⟨q, hq0, hq⟩ : ∃ q : Int, 0 < q ∧ ∀ S, fShl S [.d (.int 1), .d (.int 7200)] = some (.d (.int q)) := ⟨_, Int.mul_pos (by omega) (Int.pow_pos (by omega)), fun S => shl_int (by omega) (by omega) (by omega)⟩
  obtain ⟨b18, hb⟩ : ∃ b : Int, ∀ S, fPow S [.d (.int 10), .d (.int 18)] = some (.d (.int b)) := ⟨_, fun S => pow_int (by omega) (by omega) (by omega)⟩
  -- script[:63]
  obtain ⟨n1, hn1, hs1⟩ : ∃ n1 : List Int, n1.length ≤ 63 ∧ slX [] (.d (.scr (ns.map D.int))) none (some 63) = some (.d (.lst (n1.map D.int))) := by
    refine ⟨cutW ns none (some 63), ?_, ?_⟩
    · unfold cutW
      rw [List.length_take, List.length_drop]
      omega
    · show (some ((ns.map D.int).map W.d)).bind (fun ws => (datas (cutW ws _ _)).bind fun ds => some (W.d (.lst ds))) = _
      rw [Option.bind_some, cutW_map, datas_map', cutW_map]
      rfl
  -- the cells
  have c1 : ∀ many : W, cloop (.its (n1.map fun i => W.d (.int i))) (gnm 8) tyes (prim fMod (acons (prim fInt (acons (mv 8) anil)) (acons (prim fShl (acons (mk (.int 1)) (acons (mk (.int 7200)) anil))) anil))) [some (.d (.scr (ns.map D.int))), some many, none, none, none, none, none, none, none] n1.length 0 [] = some (iws (n1.map fun i => i % q), []) := fun many => by
    rw [show iws (n1.map fun i => i % q) = n1.map fun i => W.d (.int (i % q)) by unfold iws; rw [List.map_map]; rfl]
    refine cloop_fmap _ rfl fun i hi => ⟨_, rfl, ?_⟩
    simp [hq, mod_int hq0]
  have l1 : (n1.map fun i => i % q).length = n1.length := by simp
  generalize (n1.map fun i => i % q) = cs at c1 l1
  have lm : lim (iws cs, []) = some (iws cs, []) := lim_iws (by omega)
  -- the rest, from cells that are not empty
  have rest : ∀ (c2 : List Int) (k8 : Option W), 0 < c2.length → c2.length ≤ 100 → ∃ ms,
      ((bseq (bset 3 (thw (primF fList (acons (mv 2) anil))))
  (bseq (bset 4 (thw (primF fLst anil)))
  (bseq (bfor (iargs rg1 (acons (mv 1) anil)) (gnm 5)
  (bseq (bset 6 (prim fMod (acons (prim fInt (acons (mv 5) anil)) (acons (prim fLen (acons (mv 2) anil)) anil))))
  (bcond (tand (tst (prim fGe (acons (prim fIx (acons (mv 2) (acons (mv 6) anil))) (acons (prim fPow (acons (mk (.int 10)) (acons (mk (.int 18)) anil))) anil)))) (tst (prim fGt (acons (prim fIx (acons (mv 3) (acons (mv 6) anil))) (acons (mk (.int 0)) anil))))) (bseq (bdrop (mmeth tAppend (mv 4) (acons (prim fMod (acons (prim fInt (acons (prim fIx (acons (mv 3) (acons (mv 6) anil))) anil)) (acons (mk (.int 1000)) anil))) anil)))
  (bsub (prim fDiv (acons (prim fIx (acons (mv 3) (acons (mv 6) anil))) (acons (mk (.int 1000)) anil))) (mv 3) (mv 6))) (bseq (bset 7 (prim fMod (acons (prim fInt (acons (prim fAdd (acons (prim fAdd (acons (prim fMulX (acons (prim fIx (acons (mv 2) (acons (mv 6) anil))) (acons (mk (.int 48271)) anil))) (acons (prim fMulX (acons (mv 5) (acons (mk (.int 69621)) anil))) anil))) (acons (mk (.int 11)) anil))) anil)) (acons (mk (.int 2147483647)) anil))))
  (bdrop (mmeth tAppend (mv 4) (acons (prim fMod (acons (prim fInt (acons (prim fAdd (acons (prim fAdd (acons (prim fMulX (acons (mv 7) (acons (mv 7) anil))) (acons (prim fMulX (acons (mk (.int 3)) (acons (mv 7) anil))) anil))) (acons (mv 5) anil))) anil)) (acons (mk (.int 1000003)) anil))) anil)))))))
  (bseq (bdrop (mmeth tReverse (mv 4) anil))
  (bret (mv 4)))))) [some (.d (.scr (ns.map D.int))), some (.d (.int (N : Int))), some (.ref 0), none, none, none, none, none, k8] [C c2]).bind (endDef []) = some (.new (iws ms), []) := by
    intro c2 k8 h0 h100
    have hloop := floop_inv (ws := rngW 0 N) (g := gnm 5) (b := (bseq (bset 6 (prim fMod (acons (prim fInt (acons (mv 5) anil)) (acons (prim fLen (acons (mv 2) anil)) anil))))
  (bcond (tand (tst (prim fGe (acons (prim fIx (acons (mv 2) (acons (mv 6) anil))) (acons (prim fPow (acons (mk (.int 10)) (acons (mk (.int 18)) anil))) anil)))) (tst (prim fGt (acons (prim fIx (acons (mv 3) (acons (mv 6) anil))) (acons (mk (.int 0)) anil))))) (bseq (bdrop (mmeth tAppend (mv 4) (acons (prim fMod (acons (prim fInt (acons (prim fIx (acons (mv 3) (acons (mv 6) anil))) anil)) (acons (mk (.int 1000)) anil))) anil)))
  (bsub (prim fDiv (acons (prim fIx (acons (mv 3) (acons (mv 6) anil))) (acons (mk (.int 1000)) anil))) (mv 3) (mv 6))) (bseq (bset 7 (prim fMod (acons (prim fInt (acons (prim fAdd (acons (prim fAdd (acons (prim fMulX (acons (prim fIx (acons (mv 2) (acons (mv 6) anil))) (acons (mk (.int 48271)) anil))) (acons (prim fMulX (acons (mv 5) (acons (mk (.int 69621)) anil))) anil))) (acons (mk (.int 11)) anil))) anil)) (acons (mk (.int 2147483647)) anil))))
  (bdrop (mmeth tAppend (mv 4) (acons (prim fMod (acons (prim fInt (acons (prim fAdd (acons (prim fAdd (acons (prim fMulX (acons (mv 7) (acons (mv 7) anil))) (acons (prim fMulX (acons (mk (.int 3)) (acons (mv 7) anil))) anil))) (acons (mv 5) anil))) anil)) (acons (mk (.int 1000003)) anil))) anil)))))))
      (fun i ρ S' => ∃ ls ds x5 x6 x7, S' = [C c2, C ls, C ds] ∧ ls.length = c2.length ∧ ds.length = i ∧ ρ = [some (.d (.scr (ns.map D.int))), some (.d (.int (N : Int))), some (.ref 0), some (.ref 1), some (.ref 2), x5, x6, x7, k8])
      (fun o => ∃ ls ds x5 x6 x7, o = .nx [some (.d (.scr (ns.map D.int))), some (.d (.int (N : Int))), some (.ref 0), some (.ref 1), some (.ref 2), x5, x6, x7, k8] [C c2, C ls, C ds])
      (fun i w ρ S' hw ⟨ls, ds, x5, x6, x7, h1, h2, h3, h4⟩ => by
        obtain ⟨hi, rfl⟩ := rngW_at0 hw
        subst h1 h4
        obtain ⟨p, hp, hpe⟩ : ∃ p : Nat, p < c2.length ∧ (i : Int) % (c2.length : Int) = (p : Int) := ⟨i % c2.length, Nat.mod_lt _ h0, by omega⟩
        have a0 : ∀ S, fLen (C c2 :: S) [.ref 0] = some (.d (.int (c2.length : Int))) := fun S => by
          have := len_ref (S := C c2 :: S) (k := 0) (ws := iws c2) rfl
          rwa [List.length_map] at this
        have a1 : ∀ S, fMod S [.d (.int (i : Int)), .d (.int (c2.length : Int))] = some (.d (.int (p : Int))) := fun S => by rw [mod_int (by omega), hpe]
        have a2 : ∀ S, fIx (C c2 :: S) [.ref 0, .d (.int (p : Int))] = some (.d (.int (c2.getD p 0))) := fun S => ix_ref (ws := iws c2) rfl (by rw [List.getElem?_map, GM.getD_at hp]; rfl)
        have a3 : ∀ S, fIx (C c2 :: C ls :: S) [.ref 1, .d (.int (p : Int))] = some (.d (.int (ls.getD p 0))) := fun S => ix_ref (ws := iws ls) rfl (by rw [List.getElem?_map, GM.getD_at (by omega)]; rfl)
        have a4 : ∀ (z : Int), tAppend (iws ds) [.d (.int z)] = some (.d .non, iws (ds ++ [z])) := fun z => by
          show (if (iws ds).length ≤ 1000000 then _ else none) = _
          rw [if_pos (by rw [List.length_map]; omega), show iws (ds ++ [z]) = iws ds ++ [W.d (.int z)] from List.map_append]
        have a5 : ∀ l d, lstOf [C c2, C l, C d] 2 = some (iws d) := fun l d => rfl
        have a6 : ∀ l d, lstOf [C c2, C l, C d] 1 = some (iws l) := fun l d => rfl
        have a7 : ixN (iws ls).length (p : Int) = some p := ixN_nat (by rw [List.length_map]; omega)
        have a8 : ∀ S (x : Int), fMod S [.d (.int x), .d (.int 1000)] = some (.d (.int (x % 1000))) := fun S x => mod_int (by omega)
        have a9 : ∀ S (x : Int), fDiv S [.d (.int x), .d (.int 1000)] = some (.d (.int (x / 1000))) := fun S x => div_int (by omega) (Nat.lt_of_lt_of_le (show (1000 : Int).natAbs < 2 ^ 10 by decide) (Nat.pow_le_pow_right (by omega) (by omega)))
        have b1 : ∀ S (x : Int), fMod S [.d (.int x), .d (.int 2147483647)] = some (.d (.int (x % 2147483647))) := fun S x => mod_int (by omega)
        have b2 : ∀ S (x : Int), fMod S [.d (.int x), .d (.int 1000003)] = some (.d (.int (x % 1000003))) := fun S x => mod_int (by omega)
        have b3 : ∀ S (x : Int), fMulX S [.d (.int x), .d (.int 48271)] = some (.d (.int (x * 48271))) := fun S x => mul_int (mulOk_small (by omega))
        have b4 : ∀ S (x : Int), fMulX S [.d (.int x), .d (.int 69621)] = some (.d (.int (x * 69621))) := fun S x => mul_int (mulOk_small (by omega))
        have b5 : ∀ S (x : Int), fMulX S [.d (.int 3), .d (.int x)] = some (.d (.int (3 * x))) := fun S x => mul_int (mulOk_smallL (by omega))
        have b6 : ∀ S (x : Int), fMulX S [.d (.int (x % 2147483647)), .d (.int (x % 2147483647))] = some (.d (.int ((x % 2147483647) * (x % 2147483647)))) := fun S x => mul_int (mulOk_small (by
          have h1 := Int.emod_nonneg x (show (2147483647 : Int) ≠ 0 by omega)
          have h2 := Int.emod_lt_of_pos x (show (0 : Int) < 2147483647 by omega)
          omega))
        by_cases t : b18 ≤ c2.getD p 0 ∧ 0 < ls.getD p 0
        · refine ⟨_, .nx [some (.d (.scr (ns.map D.int))), some (.d (.int (N : Int))), some (.ref 0), some (.ref 1), some (.ref 2), some (.d (.int (i : Int))), some (.d (.int (p : Int))), x7, k8] [C c2, C (ls.set p (ls.getD p 0 / 1000)), C (ds ++ [ls.getD p 0 % 1000])], rfl, ?_, _, _, _, _, _, rfl, by rw [List.length_set]; exact h2, by simp [h3], rfl⟩
          have b7 : (iws ls).set p (.d (.int (ls.getD p 0 / 1000))) = iws (ls.set p (ls.getD p 0 / 1000)) := List.map_set.symm
          obtain ⟨t1, t2⟩ := t
          generalize c2.getD p 0 = g1 at *
          generalize ls.getD p 0 = g2 at *
          simp [a0, a1, a2, a3, hb, t1, t2, a5, a8, a4, a9]
          have e6 : lstOf [C c2, C ls, C (ds ++ [g2 % 1000])] 1 = some (iws ls) := rfl
          have a7' : ixN ls.length (p : Int) = some p := ixN_nat (by omega)
          refine bind_eq (show lstOf _ 1 = some (iws ls) from rfl) (bind_eq a7 ?_)
          rw [b7, show C (ds ++ [g2 % 1000]) = Cell.lst (List.map (fun i => W.d (.int i)) ds ++ [W.d (.int (g2 % 1000))]) from congrArg Cell.lst List.map_append]
        · refine ⟨_, .nx [some (.d (.scr (ns.map D.int))), some (.d (.int (N : Int))), some (.ref 0), some (.ref 1), some (.ref 2), some (.d (.int (i : Int))), some (.d (.int (p : Int))), some (.d (.int ((c2.getD p 0 * 48271 + (i : Int) * 69621 + 11) % 2147483647))), k8] [C c2, C ls, C (ds ++ [(((c2.getD p 0 * 48271 + (i : Int) * 69621 + 11) % 2147483647) * ((c2.getD p 0 * 48271 + (i : Int) * 69621 + 11) % 2147483647) + 3 * ((c2.getD p 0 * 48271 + (i : Int) * 69621 + 11) % 2147483647) + (i : Int)) % 1000003])], rfl, ?_, _, _, _, _, _, rfl, h2, by simp [h3], rfl⟩
          generalize c2.getD p 0 = g1 at *
          generalize ls.getD p 0 = g2 at *
          by_cases t1 : b18 ≤ g1
          · have t2 : ¬ 0 < g2 := fun z => t ⟨t1, z⟩
            simp [a0, a1, a2, a3, hb, t1, t2, a5, b1, b2, b3, b4, b5, b6, a4]
          · simp [a0, a1, a2, a3, hb, t1, a5, b1, b2, b3, b4, b5, b6, a4])
      (fun ρ S' ⟨ls, ds, x5, x6, x7, h1, h2, h3, h4⟩ => ⟨ls, ds, x5, x6, x7, by rw [h1, h4]⟩)
      N 0 [some (.d (.scr (ns.map D.int))), some (.d (.int (N : Int))), some (.ref 0), some (.ref 1), some (.ref 2), none, none, none, k8] [C c2, C c2, C []] (by simp) ⟨c2, [], none, none, none, rfl, rfl, rfl, rfl⟩
    obtain ⟨o, e1, ls, ds, x5, x6, x7, rfl⟩ := hloop
    refine ⟨ds.reverse, ?_⟩
    have f1 : fList [C c2] [.ref 0] = some (iws c2) := rfl
    have z : C [] = Cell.lst [] := rfl
    rw [z] at e1
    have f2 : lstOf [C c2, C ls, C ds] 2 = some (iws ds) := rfl
    have f3 : tReverse (iws ds) [] = some (.d .non, iws ds.reverse) := by
      show some (W.d .non, (iws ds).reverse) = _
      rw [show (iws ds).reverse = iws ds.reverse from List.map_reverse.symm]
    have f4 : endDef [] (.ret (.ref 2) [C c2, C ls, C ds.reverse]) = some (.new (iws ds.reverse), []) := by
      rw [endDef_ret, if_pos (show chk [] [C c2, C ls, C ds.reverse] = true from rfl)]
      have : retW ([] : Sto).length [C c2, C ls, C ds.reverse] (.ref 2) = some (.new ((ds.reverse.map D.int).map W.d)) := retW_new (by simp) (by show some (C ds.reverse) = _; rw [List.map_map]; rfl)
      rw [this, List.map_map]
      rfl
    generalize ds.reverse = dr at f3 f4
    simp [f1, hg, e1, f2, f3, f4]
  have g1 : (n1.map D.int).map W.d = n1.map fun i => W.d (.int i) := by rw [List.map_map]; rfl
  have c1' := c1 (.d (.int (N : Int)))
  have hX : (bset 2 (thw (mcomp (isrc srcA (msl slX (mv 0) onone (osome (mk (.int 63))))) (gnm 8) tyes (prim fMod (acons (prim fInt (acons (mv 8) anil)) (acons (prim fShl (acons (mk (.int 1)) (acons (mk (.int 7200)) anil))) anil))) [8]))) [some (.d (.scr (ns.map D.int))), some (.d (.int (N : Int))), none, none, none, none, none, none, none] [] = some (.nx [some (.d (.scr (ns.map D.int))), some (.d (.int (N : Int))), some (.ref 0), none, none, none, none, none, none] [C cs]) := by
    have hs2 : slX [] (.d (.scr (ns.map D.int))) none (some 63) = some (.d (.lst (n1.map D.int))) := hs1
    have hA : srcA [] (.d (.lst (n1.map D.int))) = some (.its (n1.map fun i => W.d (.int i))) := by rw [srcA_lst, g1]
    simp only [bset_ap, thw_ap, mcomp_ap, isrc_ap, msl_ap, mv_ap, onone_ap, osome_ap, mk_ap, List.getElem?_cons_zero, Option.bind_some, hs2, hA, srcLen_its, List.length_map, mwipe_cons, mwipe_nil, List.set_cons_succ, List.set_cons_zero, c1', lm]
    rfl
  have hL : ∀ l : List Int, fLen [C l] [.ref 0] = some (.d (.int (l.length : Int))) := fun l => by
    have := len_ref (S := [C l]) (k := 0) (ws := iws l) rfl
    rwa [List.length_map] at this
  unfold m_draws b_draws
  rw [runDef_ap, if_pos (show [W.d (.scr (ns.map D.int)), W.d (.int (N : Int))].length = 2 from rfl), bseq_ap]
  rw [show (List.map some [W.d (.scr (ns.map D.int)), .d (.int (N : Int))] ++ List.replicate (9 - [W.d (.scr (ns.map D.int)), .d (.int (N : Int))].length) none) = [some (.d (.scr (ns.map D.int))), some (.d (.int (N : Int))), none, none, none, none, none, none, none] from rfl, hX, Option.bind_some]
  dsimp only
  rw [bseq_ap]
  by_cases hz : cs = []
  · subst hz
    obtain ⟨ms, hm⟩ := rest [0] none (by simp) (by simp)
    refine ⟨ms, ?_⟩
    have hY : bcond (tst (prim fEq (acons (prim fLen (acons (mv 2) anil)) (acons (mk (.int 0)) anil)))) (bdrop (mmeth tAppend (mv 2) (acons (mk (.int 0)) anil))) bnil [some (.d (.scr (ns.map D.int))), some (.d (.int (N : Int))), some (.ref 0), none, none, none, none, none, none] [C []] = some (.nx [some (.d (.scr (ns.map D.int))), some (.d (.int (N : Int))), some (.ref 0), none, none, none, none, none, none] [C [0]]) := by
      have h2 := hL []
      simp only [bcond_ap, bdrop_ap, mmeth_ap, tst_ap, prim_ap, acons_ap, anil_ap, mv_ap, mk_ap, List.getElem?_cons_succ, List.getElem?_cons_zero, Option.bind_some, h2, eq_int, wbl_ap]
      rfl
    rw [hY, Option.bind_some]
    exact hm
  · obtain ⟨ms, hm⟩ := rest cs none (List.length_pos_iff.mpr hz) (by omega)
    refine ⟨ms, ?_⟩
    have hne : ¬ ((cs.length : Int) = 0) := fun z => hz (List.eq_nil_of_length_eq_zero (by omega))
    have hY : bcond (tst (prim fEq (acons (prim fLen (acons (mv 2) anil)) (acons (mk (.int 0)) anil)))) (bdrop (mmeth tAppend (mv 2) (acons (mk (.int 0)) anil))) bnil [some (.d (.scr (ns.map D.int))), some (.d (.int (N : Int))), some (.ref 0), none, none, none, none, none, none] [C cs] = some (.nx [some (.d (.scr (ns.map D.int))), some (.d (.int (N : Int))), some (.ref 0), none, none, none, none, none, none] [C cs]) := by
      have h2 := hL cs
      simp only [bcond_ap, bdrop_ap, mmeth_ap, tst_ap, prim_ap, acons_ap, anil_ap, mv_ap, mk_ap, List.getElem?_cons_succ, List.getElem?_cons_zero, Option.bind_some, h2, eq_int, wbl_ap, bnil_ap]
      rw [decide_eq_false hne]
      rfl
    rw [hY, Option.bind_some]
    exact hm
end Kx

set_option Elab.async false
set_option linter.all false
set_option maxRecDepth 100000
set_option maxHeartbeats 4000000
set_option autoImplicit false
namespace GM
open PySem L2
/-! ### tables as lists of rows -/
def tabL (n : Nat) (M : Nat → Nat → Int) : List (List Int) := (List.range n).map fun a => (List.range n).map fun b => M a b
theorem eT_tabL (n : Nat) (M : Nat → Nat → Int) : eT (eT D.int) (tabL n M) = tab n M := by
  unfold eT tabL tab rowD
  rw [List.map_map]
  congr 1
  apply List.map_congr_left
  intro a _
  show D.tup (((List.range n).map fun b => M a b).map D.int) = _
  rw [List.map_map]; rfl
def pm (n : Nat) (ds : List Int) (a b : Nat) : Int := if a < b then ds.getD ((prN n).idxOf (a, b)) 0 else if b < a then ds.getD ((prN n).idxOf (b, a)) 0 else 0
theorem tabL_congr {n : Nat} {M M' : Nat → Nat → Int} (h : ∀ a b, a < n → b < n → M a b = M' a b) : tabL n M = tabL n M' := by
  unfold tabL
  apply List.map_congr_left
  intro a ha
  apply List.map_congr_left
  intro b hb
  exact h a b (List.mem_range.mp ha) (List.mem_range.mp hb)
def okDB : Nat → D → Bool
  | _, .non => true
  | _, .bl _ => true
  | _, .int _ => true
  | n + 1, .tup ds => decide (ds.length ≤ 1000000) && ds.all (okDB n)
  | n + 1, .lst ds => decide (ds.length ≤ 1000000) && ds.all (okDB n)
  | _, _ => false
theorem okDB_ok : ∀ (n : Nat) (d : D), okDB n d = true → okD n d := by
  intro n
  induction n with
  | zero => intro d h; cases d <;> first | trivial | (simp [okDB] at h)
  | succ n ih =>
    intro d h
    cases d with
    | tup ds =>
      simp only [okDB, Bool.and_eq_true, decide_eq_true_eq, List.all_eq_true] at h
      exact ⟨h.1, fun x hx => ih x (h.2 x hx)⟩
    | lst ds =>
      simp only [okDB, Bool.and_eq_true, decide_eq_true_eq, List.all_eq_true] at h
      exact ⟨h.1, fun x hx => ih x (h.2 x hx)⟩
    | str _ => simp [okDB] at h
    | scr _ => simp [okDB] at h
    | _ => trivial
theorem vw1 {B : Bs} {S : Sto} {ws : List W} {d : D} (h : Vws B S ws [d]) : ∃ w, ws = [w] ∧ Vw B S w d := by
  cases h with
  | cons a t => cases t; exact ⟨_, rfl, a⟩
theorem vw2 {B : Bs} {S : Sto} {ws : List W} {d e : D} (h : Vws B S ws [d, e]) : ∃ w u, ws = [w, u] ∧ Vw B S w d ∧ Vw B S u e := by
  cases h with
  | cons a t =>
    obtain ⟨u, rfl, b⟩ := vw1 t
    exact ⟨_, u, rfl, a, b⟩
theorem vw_int {B : Bs} {S : Sto} {w : W} {i : Int} (h : Vw B S w (.int i)) : w = .d (.int i) := h.flat (nl_int i)
end GM
namespace Kx
open PySem L2 GM
def P_take (ns : List Int) (many : Int) : Option (Int × List Int) := match ns.getLast? with
  | none => some (0, [])
  | some a => (omod a many).bind fun v => some (v, ns.dropLast)
theorem t_take (ns : List Int) (m : Int) : Fv m_take [D.int m] ns (P_take ns m) D.int := fun T ws v x ns' hx => by
  obtain ⟨w, rfl, hw⟩ := vw1 v
  cases vw_int hw
  rcases List.eq_nil_or_concat ns with rfl | ⟨l, a, rfl⟩
  · cases hx
    exact ⟨.val (.d (.int 0)), by simp [m_take, b_take, fLen, seqW, end_draw0], rfl⟩
  · unfold P_take at hx
    rw [List.concat_eq_append, List.getLast?_concat] at hx
    obtain ⟨y, h1, h2⟩ := bind_some hx
    obtain ⟨hc, rfl⟩ := ite_some h1
    rw [List.dropLast_concat] at h2
    cases h2
    refine ⟨.val (.d (.int (a % m))), ?_, rfl⟩
    have h0 : ¬ ((ns'.length : Int) + 1 = 0) := by omega
    simp [m_take, b_take, fLen, seqW, h0, lstOf, tPop, mod_int hc, end_draw0, iws]
/-- a draw is some number from 0 on, below many -/
theorem take_P (ns : List Int) (m : Int) (hm : 0 < m) : ∃ v ns', P_take ns m = some (v, ns') ∧ 0 ≤ v ∧ v < m := by
  unfold P_take
  cases ns.getLast? with
  | none => exact ⟨0, [], rfl, Int.le_refl 0, hm⟩
  | some a => exact ⟨a % m, ns.dropLast, by simp [omod, hm], Int.emod_nonneg _ (by omega), Int.emod_lt_of_pos _ hm⟩
def P_same (a b : D) : Option Bool := if a = b ∧ okDB 7 a = true then some true else none
theorem t_same (a b : D) : Fs m_same [eD a, eD b] (P_same a b) D.bl := fun S x hx => by
  obtain ⟨⟨rfl, hk⟩, rfl⟩ := ite_some hx
  exact ⟨_, same_ok (okDB_ok 7 a hk), rfl⟩
theorem same_P {x : D} (h : okDB 7 x = true) : P_same x x = some true := if_pos ⟨rfl, h⟩
def P_from_pairs (n : Int) (ds : List Int) : Option (List (List Int)) := if 0 ≤ n ∧ n ≤ 100 ∧ ds.length = (prN n.toNat).length then some (tabL n.toNat (pm n.toNat ds)) else none
theorem idx_at {n : Nat} {a b : Nat} (h : a < b ∧ b < n) : (prN n)[(prN n).idxOf (a, b)]? = some (a, b) := by
  have hm : (a, b) ∈ prN n := prN_mem.mpr h
  rw [List.getElem?_eq_getElem (List.idxOf_lt_length_iff.mpr hm), List.getElem_idxOf]
theorem pm_dist (n : Nat) (ds : List Int) : Dist (pm n ds) := ⟨fun a => by simp [pm], fun a b => by
  unfold pm
  by_cases h : a < b
  · rw [if_pos h, if_neg (by omega), if_pos h]
  · by_cases h2 : b < a
    · rw [if_neg h, if_pos h2, if_pos h2]
    · rw [if_neg h, if_neg h2, if_neg h2, if_neg h]⟩
theorem t_from_pairs (n : Int) (ds : List Int) : Fq m_from_pairs [D.int n, eL D.int ds] (P_from_pairs n ds) (eT (eT D.int)) := fun S ws v x hx => by
  obtain ⟨w, u, rfl, hw, hu⟩ := vw2 v
  cases vw_int hw
  obtain ⟨⟨h0, h1, h2⟩, rfl⟩ := ite_some hx
  obtain ⟨k, rfl⟩ := Int.eq_ofNat_of_zero_le h0
  rw [Int.toNat_natCast] at h2 ⊢
  have hg : Given S u ds := by
    rcases hu with rfl | ⟨c, d, rfl, e, h3, _⟩
    · exact given_lst S ds
    · cases e
      refine given_ref S c ds ?_
      rw [h3, List.map_map]; rfl
  obtain ⟨M, e1, dm, sp⟩ := from_pairs_ok k (by omega) S u ds hg h2
  refine ⟨_, e1, ?_⟩
  have lt : ∀ a b, a < b → b < k → M a b = pm k ds a b := fun a b hab hb => by
    have e2 := idx_at ⟨hab, hb⟩
    have hl : (prN k).idxOf (a, b) < ds.length := by rw [h2]; exact (List.getElem?_eq_some_iff.mp e2).1
    have := sp _ (a, b) (ds.getD ((prN k).idxOf (a, b)) 0) e2 (GM.getD_at hl)
    rw [this]
    unfold pm
    rw [if_pos hab]
  have : tab k M = eT (eT D.int) (tabL k (pm k ds)) := by
    rw [← eT_tabL]
    rw [tabL_congr fun a b ha hb => ?_]
    rcases Nat.lt_trichotomy a b with z | z | z
    · exact lt a b z hb
    · subst z; rw [dm.1, (pm_dist k ds).1]
    · rw [dm.2, (pm_dist k ds).2]; exact lt b a z ha
  rw [← this]
  rfl
end Kx

set_option Elab.async false
set_option linter.all false
set_option maxRecDepth 100000
set_option maxHeartbeats 4000000
set_option autoImplicit false
namespace GM
open PySem L2
theorem eraseIdx_map {α β : Type} (f : α → β) : ∀ (l : List α) (m : Nat), (l.map f).eraseIdx m = (l.eraseIdx m).map f
  | [], _ => rfl
  | _ :: _, 0 => rfl
  | a :: l, m + 1 => by
    show f a :: (l.map f).eraseIdx m = f a :: (l.eraseIdx m).map f
    rw [eraseIdx_map f l m]
theorem perm_erase {α : Type} : ∀ (l : List α) (m : Nat) (h : m < l.length), (l[m] :: l.eraseIdx m).Perm l
  | [], _, h => absurd h (by simp)
  | _ :: _, 0, _ => .refl _
  | a :: l, m + 1, h => by
    have hm : m < l.length := by simpa using h
    show (l[m] :: a :: l.eraseIdx m).Perm (a :: l)
    exact (List.Perm.swap ..).trans (List.Perm.cons a (perm_erase l m hm))
section
variable {c x y : Cell} {T : Sto}
theorem tw1 : (c :: (T ++ [x, y]))[T.length + 1]? = some x := by simp
theorem tw2 : (c :: (T ++ [x, y]))[T.length + 1 + 1]? = some y := by simp
theorem tws1 {z : Cell} : (T ++ [x, y]).set T.length z = T ++ [z, y] := by simp
theorem tws2 {z : Cell} : (T ++ [x, y]).set (T.length + 1) z = T ++ [x, z] := by simp
end
end GM
namespace Kx
open PySem L2 GM
theorem ite_oo {α : Type} {c : Prop} [Decidable c] {x : Option α} {y : α} (h : (if c then x else none) = some y) : c ∧ x = some y := by
  split at h
  · rename_i hc; exact ⟨hc, h⟩
  · cases h
theorem take_at {ns ns' : List Int} {m v : Int} (T : Sto) (h : P_take ns m = some (v, ns')) : m_take [.ref 0, .d (.int m)] (C ns :: T) = some (.val (.d (.int v)), C ns' :: T) := by
  rcases List.eq_nil_or_concat ns with rfl | ⟨l, a, rfl⟩
  · cases h
    simp [m_take, b_take, fLen, seqW, end_draw0]
  · unfold P_take at h
    rw [List.concat_eq_append, List.getLast?_concat] at h
    obtain ⟨y, h1, h2⟩ := bind_some h
    obtain ⟨hc, rfl⟩ := ite_some h1
    rw [List.dropLast_concat] at h2
    cases h2
    have h0 : ¬ ((ns'.length : Int) + 1 = 0) := by omega
    simp [m_take, b_take, fLen, seqW, h0, lstOf, tPop, mod_int hc, end_draw0, iws]
section
variable {α : Type}
def shufL : Nat → List α → List α → List Int → Option (List α × List Int)
  | 0, _, t, ns => some (t, ns)
  | k + 1, l, t, ns => (P_take ns (l.length : Int)).bind fun p => if 0 ≤ p.1 then l[p.1.toNat]?.bind fun x => shufL k (l.eraseIdx p.1.toNat) (t ++ [x]) p.2 else none
def P_shuffled (ns : List Int) (row : List α) : Option (List α × List Int) := if row.length ≤ 10000 then shufL row.length row [] ns else none
theorem shufL_perm : ∀ (k : Nat) (l t : List α) (ns : List Int), l.length = k → ∃ js ns', shufL k l t ns = some (js, ns') ∧ js.Perm (t ++ l)
  | 0, l, t, ns, h => ⟨t, ns, rfl, by rw [List.eq_nil_of_length_eq_zero h, List.append_nil]⟩
  | k + 1, l, t, ns, h => by
    obtain ⟨v, n1, e1, v1, v2⟩ := take_P ns (l.length : Int) (by omega)
    obtain ⟨m, rfl⟩ := Int.eq_ofNat_of_zero_le v1
    have hm : m < l.length := by omega
    obtain ⟨js, n2, e2, hp⟩ := shufL_perm k (l.eraseIdx m) (t ++ [l[m]]) n1 (by rw [List.length_eraseIdx_of_lt hm]; omega)
    refine ⟨js, n2, ?_, hp.trans ?_⟩
    · show (P_take ns (l.length : Int)).bind _ = _
      rw [e1]
      show (if 0 ≤ (m : Int) then l[(m : Int).toNat]?.bind _ else none) = _
      rw [if_pos (by omega), Int.toNat_natCast, List.getElem?_eq_getElem hm]
      exact e2
    · rw [List.append_assoc]
      exact List.Perm.append_left t (perm_erase l m hm)
theorem shuffled_P (ns : List Int) (row : List α) (h : row.length ≤ 10000) : ∃ js ns', P_shuffled ns row = some (js, ns') ∧ js.Perm row := by
  obtain ⟨js, n1, e, hp⟩ := shufL_perm row.length row [] ns rfl
  exact ⟨js, n1, by unfold P_shuffled; rw [if_pos h, e], by simpa using hp⟩
def ews (e : α → D) (l : List α) : List W := l.map fun x => W.d (e x)
theorem ews_len (e : α → D) (l : List α) : (ews e l).length = l.length := by simp [ews]
end
end Kx

set_option Elab.async false
set_option linter.all false
set_option maxRecDepth 100000
set_option maxHeartbeats 4000000
set_option autoImplicit false
namespace Kx
open PySem L2 GM
def P_pick (ns : List Int) (v_row : (List Int)) : Option (Int × List Int) := (((P_take ns (v_row.length : Int))).bind fun p3 => ((atI v_row p3.1)).bind fun x4 => some (x4, p3.2))
theorem t_pick (ns : List Int) (v_row : (List Int)) : Fv m_pick [(eL D.int) v_row] ns (P_pick ns v_row) D.int :=
  fv_mk rfl fun T => by
    show St (Bd T) false [] ns [some (.w (.ref 0)), some (.r ((eL D.int) v_row))] b_pick Oc.ret (P_pick ns v_row) (fun _ => ([], [])) (fun r => (D.int r.1, r.2))
    unfold b_pick
    exact St.cast (st_retd1 (edv_prim (eav_pure (ew_par (e := (eL D.int)) (i := 1) (x := v_row) rfl) fun x1 => (eav_draw (edv_call (i := 0) rfl (eav_pure ((ed_lenL (ew_par (e := (eL D.int)) (i := 1) (x := v_row) rfl))).ew fun x2 => (eav_nil (t_take _ x2).at))) fun p3 => (eav_nil (prim_nil fun _ => (ed_ixL (ew_par (e := (eL D.int)) (i := 0) (x := x1) rfl) (((ew_par (e := D.int) (i := 1) (x := p3.1) rfl)).ed nl_int))))))) fun p => ⟨p, rfl, rfl⟩) (by simp only [P_pick, eD, Option.bind_some, Option.bind_assoc])
def P_pick_P (ns : List Int) (v_row : (List (Int × Int))) : Option ((Int × Int) × List Int) := (((P_take ns (v_row.length : Int))).bind fun p3 => ((atI v_row p3.1)).bind fun x4 => some (x4, p3.2))
theorem t_pick_P (ns : List Int) (v_row : (List (Int × Int))) : Fv m_pick [(eL (eP D.int D.int)) v_row] ns (P_pick_P ns v_row) (eP D.int D.int) :=
  fv_mk rfl fun T => by
    show St (Bd T) false [] ns [some (.w (.ref 0)), some (.r ((eL (eP D.int D.int)) v_row))] b_pick Oc.ret (P_pick_P ns v_row) (fun _ => ([], [])) (fun r => ((eP D.int D.int) r.1, r.2))
    unfold b_pick
    exact St.cast (st_retd1 (edv_prim (eav_pure (ew_par (e := (eL (eP D.int D.int))) (i := 1) (x := v_row) rfl) fun x1 => (eav_draw (edv_call (i := 0) rfl (eav_pure ((ed_lenL (ew_par (e := (eL (eP D.int D.int))) (i := 1) (x := v_row) rfl))).ew fun x2 => (eav_nil (t_take _ x2).at))) fun p3 => (eav_nil (prim_nil fun _ => (ed_ixL (ew_par (e := (eL (eP D.int D.int))) (i := 0) (x := x1) rfl) (((ew_par (e := D.int) (i := 1) (x := p3.1) rfl)).ed nl_int))))))) fun p => ⟨p, rfl, rfl⟩) (by simp only [P_pick_P, eD, Option.bind_some, Option.bind_assoc])
def P_scale (ns : List Int)  : Option (Int × List Int) := ((((P_take ns (8 : Int))).bind fun p2 => some ((decide (p2.1 = (0 : Int))), p2.2))).bind fun p4 => if p4.1 = true then ((((((((opow (10 : Int) (15 : Int))).bind fun x6 => some ((x6 + (37 : Int))))).bind fun x8 => ((((opow (10 : Int) (40 : Int))).bind fun x7 => some ((x7 + (121 : Int))))).bind fun x9 => some ([(1000003 : Int), x8, x9]))).bind fun x10 => P_pick p4.2 x10)) else (some ((1 : Int), p4.2))
theorem t_scale (ns : List Int)  : Fv m_scale [] ns (P_scale ns ) D.int :=
  fv_mk rfl fun T => by
    show St (Bd T) false [] ns [some (.w (.ref 0))] b_scale Oc.ret (P_scale ns ) (fun _ => ([], [])) (fun r => (D.int r.1, r.2))
    unfold b_scale
    exact St.cast (st_qif (st_ifd (etv_val (edv_prim (eav_draw (edv_call (i := 0) rfl (eav_pure ((ed_int 8)).ew fun x1 => (eav_nil (t_take _ x1).at))) fun p2 => (eav_pure ((ed_int 0)).ew fun x3 => (eav_nil (prim_nil fun _ => (ed_eq eqok_int (ew_par (e := D.int) (i := 0) (x := p2.1) rfl) (ew_par (e := D.int) (i := 1) (x := x3) rfl)))))))) (fun n5 => (st_qret (st_retd1 (edv_call (i := 0) rfl (eav_pure ((ed_frz (ef_dL (el_cons (ed_int 1000003) (el_cons (ed_add (ed_pow (ed_int 10) (ed_int 15)) (ed_int 37)) (el_cons (ed_add (ed_pow (ed_int 10) (ed_int 40)) (ed_int 121)) el_nil)))))).ew fun x10 => (eav_nil (t_pick _ x10).at))) fun p => ⟨p, rfl, rfl⟩))) (fun n5 => (st_qnil (st_retd (g := fun p => p) (edv_of (ed_int 1)) fun p => ⟨p, rfl, rfl⟩))))) (by simp only [P_scale, eD, Option.bind_some, Option.bind_assoc])
def P_pairs (v_n : Int) : Option (List (Int × Int)) := let x1 := ([] : List (Int × Int)); ((((orng1 v_n)).bind fun x9 => ofold (fun (s2 : ((List (Int × Int)))) (x4 : Int) => ((((((orng2 (x4 + (1 : Int)) v_n)).bind fun x6 => ocomp x6 (fun (x5 : Int) => some true) (fun (x5 : Int) => (some (x4, x5))))).bind fun x7 => ocat s2 x7)).bind fun x8 => some x8) x9 x1)).bind fun (s10 : ((List (Int × Int)))) => some s10
theorem t_pairs (v_n : Int) : Fq m_pairs [D.int v_n] (P_pairs v_n) (eL (eP D.int D.int)) :=
  fq_mk rfl fun T => by
    show St (Bp T) false [] [] [some (.r (D.int v_n)), none, none, none] b_pairs Oc.ret (P_pairs v_n) (fun _ => ([], [])) (fun r => ((eL (eP D.int D.int)) r, []))
    unfold b_pairs
    exact St.cast (st_set (ed_frz (ef_dL (el_nil (e := (eP D.int D.int))))) fun x1 => (st_join (PA := (fun (s3 : ((List (Int × Int)))) => ([], [some (.r (D.int v_n)), some (.v ((eL (eP D.int D.int)) s3)), none, none]))) (st_forN (P := (fun (s3 : ((List (Int × Int)))) => ([], [some (.r (D.int v_n)), some (.v ((eL (eP D.int D.int)) s3)), none, none]))) x1 (sr_rng1 (((ew_par (e := D.int) (i := 0) (x := v_n) rfl)).ed nl_int)) rfl (.yes (.yes (.no (.no .nil)))) (fun s2 x4 => tg_nm) (fun s2 x4 => (st_last (st_set (ed_catL ((ed_var (e := (eL (eP D.int D.int))) (i := 1) (x := s2) rfl)).ew ((ed_frz (ef_comp ((sr_rng2 (ed_add (ed_var (e := D.int) (i := 2) (x := x4) rfl) (ed_int 1)) (((ew_par (e := D.int) (i := 0) (x := v_n) rfl)).ed nl_int))).s0 (fun x5 => tg_nm) (fun x5 => et_yes) (fun x5 => (ed_dP (ed_var (e := D.int) (i := 2) (x := x4) rfl) (ed_var (e := D.int) (i := 3) (x := x5) rfl)))))).ew) fun x8 => (st_nil x8 rfl rfl (.yes (.yes (.no (.no .nil))))))))) fun s10 => (st_ret (g := fun x => x) (ed_var (e := (eL (eP D.int D.int))) (i := 1) (x := s10) rfl) fun x => ⟨x, rfl, rfl⟩))) (by simp only [P_pairs, eD, Option.bind_some, Option.bind_assoc])
def P_links (ns : List Int) (v_n : Int) : Option ((List (List Int)) × List Int) := ((P_scale ns )).bind fun p1 => ((P_pick p1.2 [(2 : Int), (3 : Int), (6 : Int), (30 : Int)])).bind fun p3 => let x4 := ([] : List Int); ((((P_pairs v_n)).bind fun x22 => ofold (fun (s5 : ((List Int) × List Int)) (x8 : (Int × Int)) => ((((((P_take s5.2 p3.1)).bind fun p12 => ((omul p1.1 p12.1)).bind fun x13 => some (x13, p12.2))).bind fun p14 => ((((P_take p14.2 (4 : Int))).bind fun p17 => some ((imin (1 : Int) p17.1), p17.2))).bind fun p18 => ((omul p14.1 p18.1)).bind fun x19 => some (x19, p18.2))).bind fun p20 => (oapp s5.1 p20.1).bind fun x9 => some (x9, p20.2)) x22 (x4, p3.2))).bind fun (s23 : ((List Int) × List Int)) => (((P_from_pairs v_n s23.1)).bind fun x26 => some (x26, s23.2))
theorem t_links (ns : List Int) (v_n : Int) : Fv m_links [D.int v_n] ns (P_links ns v_n) (eT (eT D.int)) :=
  fv_mk rfl fun T => by
    show St (Bd T) false [] ns [some (.w (.ref 0)), some (.r (D.int v_n)), none, none, none, none] b_links Oc.ret (P_links ns v_n) (fun _ => ([], [])) (fun r => ((eT (eT D.int)) r.1, r.2))
    unfold b_links
    exact St.cast (st_setd (edv_call (i := 0) rfl (eav_nil (t_scale _ ).at)) fun p1 => (st_setd (edv_call (i := 0) rfl (eav_pure ((ed_frz (ef_dL (el_cons (ed_int 2) (el_cons (ed_int 3) (el_cons (ed_int 6) (el_cons (ed_int 30) el_nil))))))).ew fun x2 => (eav_nil (t_pick _ x2).at))) fun p3 => (st_seto (ef_dL (el_nil (e := D.int))) fun x4 => (st_join (PA := (fun (s6 : ((List Int) × List Int)) => (s6.2, [some (.w (.ref 0)), some (.r (D.int v_n)), some (.v (D.int p1.1)), some (.v (D.int p3.1)), some (.own (s6.1.map D.int)), none]))) (st_forN (P := (fun (s6 : ((List Int) × List Int)) => (s6.2, [some (.w (.ref 0)), some (.r (D.int v_n)), some (.v (D.int p1.1)), some (.v (D.int p3.1)), some (.own (s6.1.map D.int)), none]))) (x4, p3.2) (sr_D (ed_call (ea_cons (ew_par (e := D.int) (i := 1) (x := v_n) rfl) fun x7 => (ea_nil (t_pairs x7).at)))) rfl (.yes (.yes (.yes (.yes (.yes (.no .nil)))))) (fun s5 x8 => tg_nm) (fun s5 x8 => (st_last (st_appd (e := D.int) (l := s5.1) rfl (edv_prim (eav_draw (edv_prim (eav_pure ((ed_var (e := D.int) (i := 2) (x := p1.1) rfl)).ew fun x10 => (eav_draw (edv_call (i := 0) rfl (eav_pure ((ed_var (e := D.int) (i := 3) (x := p3.1) rfl)).ew fun x11 => (eav_nil (t_take _ x11).at))) fun p12 => (eav_nil (prim_nil fun _ => (ed_mul (((ew_par (e := D.int) (i := 0) (x := x10) rfl)).ed nl_int) (((ew_par (e := D.int) (i := 1) (x := p12.1) rfl)).ed nl_int))))))) fun p14 => (eav_draw (edv_prim (eav_pure ((ed_int 1)).ew fun x15 => (eav_draw (edv_call (i := 0) rfl (eav_pure ((ed_int 4)).ew fun x16 => (eav_nil (t_take _ x16).at))) fun p17 => (eav_nil (prim_nil fun _ => (ed_min2 (((ew_par (e := D.int) (i := 0) (x := x15) rfl)).ed nl_int) (((ew_par (e := D.int) (i := 1) (x := p17.1) rfl)).ed nl_int))))))) fun p18 => (eav_nil (prim_nil fun _ => (ed_mul (((ew_par (e := D.int) (i := 0) (x := p14.1) rfl)).ed nl_int) (((ew_par (e := D.int) (i := 1) (x := p18.1) rfl)).ed nl_int))))))) fun x9 n21 => (st_nil (x9, n21) rfl rfl (.yes (.yes (.yes (.yes (.yes (.no .nil))))))))))) fun s23 => (st_retd1 (edv_of (ed_call (ea_cons (ew_par (e := D.int) (i := 1) (x := v_n) rfl) fun x24 => (ea_cons (ew_own (e := D.int) (i := 4) (l := s23.1) rfl) fun x25 => (ea_nil (t_from_pairs x24 x25).at))))) fun p => ⟨p, rfl, rfl⟩))))) (by simp only [P_links, eD, Option.bind_some, Option.bind_assoc])
def P_best (v_pairs : (List (Int × (List Int)))) : Option (Int × (List Int)) := ((atI v_pairs (0 : Int))).bind fun x1 => (ofold (fun (s2 : ((Int × (List Int)))) (x4 : (Int × (List Int))) => if (decide (x4.1 < s2.1)) = true then (let x5 := x4; some x5) else (some s2)) v_pairs x1).bind fun (s6 : ((Int × (List Int)))) => some s6
theorem t_best (v_pairs : (List (Int × (List Int)))) : Fq m_best [(eL (eP D.int (eT D.int))) v_pairs] (P_best v_pairs) (eP D.int (eT D.int)) :=
  fq_mk rfl fun T => by
    show St (Bp T) false [] [] [some (.r ((eL (eP D.int (eT D.int))) v_pairs)), none, none] b_best Oc.ret (P_best v_pairs) (fun _ => ([], [])) (fun r => ((eP D.int (eT D.int)) r, []))
    unfold b_best
    exact St.cast (st_set (ed_ixL (ew_par (e := (eL (eP D.int (eT D.int)))) (i := 0) (x := v_pairs) rfl) (ed_int 0)) fun x1 => (st_join (PA := (fun (s3 : ((Int × (List Int)))) => ([], [some (.r ((eL (eP D.int (eT D.int))) v_pairs)), some (.v ((eP D.int (eT D.int)) s3)), none]))) (st_forN (P := (fun (s3 : ((Int × (List Int)))) => ([], [some (.r ((eL (eP D.int (eT D.int))) v_pairs)), some (.v ((eP D.int (eT D.int)) s3)), none]))) x1 (sr_par (e := (eP D.int (eT D.int))) (i := 0) (l := v_pairs) rfl) rfl (.yes (.yes (.no .nil))) (fun s2 x4 => tg_nm) (fun s2 x4 => (st_if (et_val (ed_lt (ed_ixP (e := (eP D.int (eT D.int))) (f := D.int) (p := fun x => x.1) (ixP_0) nl_P ((ed_var (e := (eP D.int (eT D.int))) (i := 2) (x := x4) rfl)).ew) (ed_ixP (e := (eP D.int (eT D.int))) (f := D.int) (p := fun x => x.1) (ixP_0) nl_P ((ed_var (e := (eP D.int (eT D.int))) (i := 1) (x := s2) rfl)).ew))) (st_last (st_set (ed_var (e := (eP D.int (eT D.int))) (i := 2) (x := x4) rfl) fun x5 => (st_nil x5 rfl rfl (.yes (.yes (.no .nil)))))) (st_nil s2 rfl rfl (.yes (.yes (.no .nil))))))) fun s6 => (st_ret (g := fun x => x) (ed_var (e := (eP D.int (eT D.int))) (i := 1) (x := s6) rfl) fun x => ⟨x, rfl, rfl⟩))) (by simp only [P_best, eD, Option.bind_some, Option.bind_assoc])
def P_mask (v_things : (List Int)) : Option Int := (((ocomp v_things (fun (x1 : Int) => some true) (fun (x1 : Int) => (oshl (1 : Int) x1)))).bind fun x2 => some ((x2).sum))
theorem t_mask (v_things : (List Int)) : Fq m_mask [(eT D.int) v_things] (P_mask v_things) D.int :=
  fq_mk rfl fun T => by
    show St (Bp T) false [] [] [some (.r ((eT D.int) v_things)), none] b_mask Oc.ret (P_mask v_things) (fun _ => ([], [])) (fun r => (D.int r, []))
    unfold b_mask
    exact St.cast (st_ret1 (ed_sum ((ed_frz (ef_comp ((sr_T (ew_par (e := (eT D.int)) (i := 0) (x := v_things) rfl))).s0 (fun x1 => tg_nm) (fun x1 => et_yes) (fun x1 => (ed_shl (ed_int 1) (ed_var (e := D.int) (i := 1) (x := x1) rfl)))))).ew) fun x => ⟨x, rfl, rfl⟩) (by simp only [P_mask, eD, Option.bind_some, Option.bind_assoc])
def P_least_cut (v_weights : (List Int)) (v_sets : (List (List Int))) : Option (Int × (List Int)) := (((ocomp v_sets (fun (x1 : (List Int)) => some true) (fun (x1 : (List Int)) => (((((P_mask x1)).bind fun x3 => atI v_weights x3)).bind fun x4 => some ((x4, x1)))))).bind fun x5 => P_best x5)
theorem t_least_cut (v_weights : (List Int)) (v_sets : (List (List Int))) : Fq m_least_cut [(eL D.int) v_weights, (eL (eT D.int)) v_sets] (P_least_cut v_weights v_sets) (eP D.int (eT D.int)) :=
  fq_mk rfl fun T => by
    show St (Bp T) false [] [] [some (.r ((eL D.int) v_weights)), some (.r ((eL (eT D.int)) v_sets)), none] b_least_cut Oc.ret (P_least_cut v_weights v_sets) (fun _ => ([], [])) (fun r => ((eP D.int (eT D.int)) r, []))
    unfold b_least_cut
    exact St.cast (st_ret1 (ed_call (ea_cons ((ed_frz (ef_comp ((sr_par (e := (eT D.int)) (i := 1) (l := v_sets) rfl)).s0 (fun x1 => tg_nm) (fun x1 => et_yes) (fun x1 => (ed_dP (ed_ixL (ew_par (e := (eL D.int)) (i := 0) (x := v_weights) rfl) (ed_call (ea_cons ((ed_var (e := (eT D.int)) (i := 2) (x := x1) rfl)).ew fun x2 => (ea_nil (t_mask x2).at)))) (ed_var (e := (eT D.int)) (i := 2) (x := x1) rfl)))))).ew fun x6 => (ea_nil (t_best x6).at))) fun x => ⟨x, rfl, rfl⟩) (by simp only [P_least_cut, eD, Option.bind_some, Option.bind_assoc])
def P_p_mask_of (v_things : (List Int)) : Option Int := let x1 := (0 : Int); (ofold (fun (s2 : (Int)) (x4 : Int) => ((((oshl (1 : Int) x4)).bind fun x5 => some ((Builtin.bitOr s2 x5)))).bind fun x6 => some x6) v_things x1).bind fun (s7 : (Int)) => some s7
theorem t_p_mask_of (v_things : (List Int)) : Fq m_p_mask_of [(eT D.int) v_things] (P_p_mask_of v_things) D.int :=
  fq_mk rfl fun T => by
    show St (Bp T) false [] [] [some (.r ((eT D.int) v_things)), none, none] b_p_mask_of Oc.ret (P_p_mask_of v_things) (fun _ => ([], [])) (fun r => (D.int r, []))
    unfold b_p_mask_of
    exact St.cast (st_set (ed_int 0) fun x1 => (st_join (PA := (fun (s3 : (Int)) => ([], [some (.r ((eT D.int) v_things)), some (.v (D.int s3)), none]))) (st_forN (P := (fun (s3 : (Int)) => ([], [some (.r ((eT D.int) v_things)), some (.v (D.int s3)), none]))) x1 (sr_T (ew_par (e := (eT D.int)) (i := 0) (x := v_things) rfl)) rfl (.yes (.yes (.no .nil))) (fun s2 x4 => tg_nm) (fun s2 x4 => (st_last (st_set (ed_or (ed_var (e := D.int) (i := 1) (x := s2) rfl) (ed_shl (ed_int 1) (ed_var (e := D.int) (i := 2) (x := x4) rfl))) fun x6 => (st_nil x6 rfl rfl (.yes (.yes (.no .nil)))))))) fun s7 => (st_ret (g := fun x => x) (ed_var (e := D.int) (i := 1) (x := s7) rfl) fun x => ⟨x, rfl, rfl⟩))) (by simp only [P_p_mask_of, eD, Option.bind_some, Option.bind_assoc])
def P_p_least_among (v_rows : (List Int)) (v_sets : (List (List Int))) : Option (Int × (List Int)) := (((ocomp v_sets (fun (x1 : (List Int)) => some true) (fun (x1 : (List Int)) => (((((P_p_mask_of x1)).bind fun x3 => atI v_rows x3)).bind fun x4 => some ((x4, x1)))))).bind fun x5 => minE (eP D.int (eT D.int)) x5)
theorem t_p_least_among (v_rows : (List Int)) (v_sets : (List (List Int))) : Fq m_p_least_among [(eL D.int) v_rows, (eL (eT D.int)) v_sets] (P_p_least_among v_rows v_sets) (eP D.int (eT D.int)) :=
  fq_mk rfl fun T => by
    show St (Bp T) false [] [] [some (.r ((eL D.int) v_rows)), some (.r ((eL (eT D.int)) v_sets)), none] b_p_least_among Oc.ret (P_p_least_among v_rows v_sets) (fun _ => ([], [])) (fun r => ((eP D.int (eT D.int)) r, []))
    unfold b_p_least_among
    exact St.cast (st_ret1 (ed_minE ((ed_frz (ef_comp ((sr_par (e := (eT D.int)) (i := 1) (l := v_sets) rfl)).s0 (fun x1 => tg_nm) (fun x1 => et_yes) (fun x1 => (ed_dP (ed_ixL (ew_par (e := (eL D.int)) (i := 0) (x := v_rows) rfl) (ed_call (ea_cons ((ed_var (e := (eT D.int)) (i := 2) (x := x1) rfl)).ew fun x2 => (ea_nil (t_p_mask_of x2).at)))) (ed_var (e := (eT D.int)) (i := 2) (x := x1) rfl)))))).ew) fun x => ⟨x, rfl, rfl⟩) (by simp only [P_p_least_among, eD, Option.bind_some, Option.bind_assoc])
def P_p_least_of (v_mask : Int) : Option Int := some (((Builtin.Int.intBits (Builtin.bitAnd v_mask (-v_mask)) : Nat) : Int) - (1 : Int))
theorem t_p_least_of (v_mask : Int) : Fq m_p_least_of [D.int v_mask] (P_p_least_of v_mask) D.int :=
  fq_mk rfl fun T => by
    show St (Bp T) false [] [] [some (.r (D.int v_mask))] b_p_least_of Oc.ret (P_p_least_of v_mask) (fun _ => ([], [])) (fun r => (D.int r, []))
    unfold b_p_least_of
    exact St.cast (st_ret (g := fun x => x) (ed_sub (ed_bits (ed_and (((ew_par (e := D.int) (i := 0) (x := v_mask) rfl)).ed nl_int) (ed_neg (((ew_par (e := D.int) (i := 0) (x := v_mask) rfl)).ed nl_int)))) (ed_int 1)) fun x => ⟨x, rfl, rfl⟩) (by simp only [P_p_least_of, eD, Option.bind_some, Option.bind_assoc])
def P_p_things_of (v_mask : Int) : Option (List Int) := (((orng1 ((Builtin.Int.intBits v_mask : Nat) : Int))).bind fun x4 => ocomp x4 (fun (x1 : Int) => (((((oshr v_mask x1)).bind fun x2 => some ((Builtin.bitAnd x2 (1 : Int))))).bind fun x3 => some ((decide (x3 = (1 : Int)))))) (fun (x1 : Int) => (some x1)))
theorem t_p_things_of (v_mask : Int) : Fq m_p_things_of [D.int v_mask] (P_p_things_of v_mask) (eT D.int) :=
  fq_mk rfl fun T => by
    show St (Bp T) false [] [] [some (.r (D.int v_mask)), none] b_p_things_of Oc.ret (P_p_things_of v_mask) (fun _ => ([], [])) (fun r => ((eT D.int) r, []))
    unfold b_p_things_of
    exact St.cast (st_ret1 (ed_tupleL ((ed_frz (ef_comp ((sr_rng1 (ed_bits (((ew_par (e := D.int) (i := 0) (x := v_mask) rfl)).ed nl_int)))).s0 (fun x1 => tg_nm) (fun x1 => (et_val (ed_eq eqok_int ((ed_and (ed_shr (((ew_par (e := D.int) (i := 0) (x := v_mask) rfl)).ed nl_int) (ed_var (e := D.int) (i := 1) (x := x1) rfl)) (ed_int 1))).ew ((ed_int 1)).ew))) (fun x1 => (ed_var (e := D.int) (i := 1) (x := x1) rfl))))).ew) fun x => ⟨x, rfl, rfl⟩) (by simp only [P_p_things_of, eD, Option.bind_some, Option.bind_assoc])
def P_p_pair_rows (v_table : (List (List Int))) : Option (List Int) := let x1 := (v_table.length : Int); (((((oshl (1 : Int) x1)).bind fun x2 => orep [(0 : Int)] x2))).bind fun x3 => (((((((oshl (1 : Int) x1)).bind fun x6 => orng2 (1 : Int) x6))).bind fun x20 => ofold (fun (s4 : ((List Int))) (x7 : Int) => ((P_p_least_of x7)).bind fun x9 => let x10 := (Builtin.bitAnd x7 (x7 - (1 : Int))); (((((atI s4 x10)).bind fun x16 => ((((((P_p_things_of x10)).bind fun x14 => ocomp x14 (fun (x12 : Int) => some true) (fun (x12 : Int) => (((atI v_table x9)).bind fun x13 => atI x13 x12)))).bind fun x15 => some ((x15).sum))).bind fun x17 => some ((x16 + x17)))).bind fun x19 => (oset s4 x7 x19).bind fun x18 => some x18)) x20 x3)).bind fun (s21 : ((List Int))) => some s21
theorem t_p_pair_rows (v_table : (List (List Int))) : Fq m_p_pair_rows [(eT (eT D.int)) v_table] (P_p_pair_rows v_table) (eL D.int) :=
  fq_mk rfl fun T => by
    show St (Bp T) false [] [] [some (.r ((eT (eT D.int)) v_table)), none, none, none, none, none, none] b_p_pair_rows Oc.ret (P_p_pair_rows v_table) (fun _ => ([], [])) (fun r => ((eL D.int) r, []))
    unfold b_p_pair_rows
    exact St.cast (st_set (ed_lenT (ew_par (e := (eT (eT D.int))) (i := 0) (x := v_table) rfl)) fun x1 => (st_seto (ef_rep ((ed_frz (ef_dL (el_cons (ed_int 0) el_nil)))).ew (ed_shl (ed_int 1) (ed_var (e := D.int) (i := 1) (x := x1) rfl))) fun x3 => (st_join (PA := (fun (s5 : ((List Int))) => ([], [some (.r ((eT (eT D.int)) v_table)), some (.v (D.int x1)), some (.own (s5.map D.int)), none, none, none, none]))) (st_forN (P := (fun (s5 : ((List Int))) => ([], [some (.r ((eT (eT D.int)) v_table)), some (.v (D.int x1)), some (.own (s5.map D.int)), none, none, none, none]))) x3 (sr_rng2 (ed_int 1) (ed_shl (ed_int 1) (ed_var (e := D.int) (i := 1) (x := x1) rfl))) rfl (.yes (.yes (.yes (.no (.no (.no (.no .nil))))))) (fun s4 x7 => tg_nm) (fun s4 x7 => (st_set (ed_call (ea_cons ((ed_var (e := D.int) (i := 3) (x := x7) rfl)).ew fun x8 => (ea_nil (t_p_least_of x8).at))) fun x9 => (st_set (ed_and (ed_var (e := D.int) (i := 3) (x := x7) rfl) (ed_sub (ed_var (e := D.int) (i := 3) (x := x7) rfl) (ed_int 1))) fun x10 => (st_last (st_sub (e := D.int) (l := s4) rfl (ed_add (ed_ixL (ew_own (e := D.int) (i := 2) (l := s4) rfl) (ed_var (e := D.int) (i := 5) (x := x10) rfl)) (ed_sum ((ed_frz (ef_comp ((sr_T ((ed_call (ea_cons ((ed_var (e := D.int) (i := 5) (x := x10) rfl)).ew fun x11 => (ea_nil (t_p_things_of x11).at)))).ew)).s0 (fun x12 => tg_nm) (fun x12 => et_yes) (fun x12 => (ed_ixT ((ed_ixT (ew_par (e := (eT (eT D.int))) (i := 0) (x := v_table) rfl) (ed_var (e := D.int) (i := 4) (x := x9) rfl))).ew (ed_var (e := D.int) (i := 6) (x := x12) rfl)))))).ew)) (ed_var (e := D.int) (i := 3) (x := x7) rfl) fun x18 => (st_nil x18 rfl rfl (.yes (.yes (.yes (.no (.no (.no (.no .nil)))))))))))))) fun s21 => (st_reto (e := D.int) (l := s21) rfl ⟨s21, rfl, rfl⟩)))) (by simp only [P_p_pair_rows, eD, Option.bind_some, Option.bind_assoc])
def P_p_weight_rows (v_links : (List (List Int))) : Option (List Int) := ((P_p_pair_rows v_links)).bind fun x2 => ((orep [(0 : Int)] (x2.length : Int))).bind fun x3 => ((((orng2 (1 : Int) (x2.length : Int))).bind fun x14 => ofold (fun (s4 : ((List Int))) (x6 : Int) => (((((atI s4 (Builtin.bitAnd x6 (x6 - (1 : Int))))).bind fun x10 => ((((((P_p_least_of x6)).bind fun x8 => atI v_links x8)).bind fun x9 => some ((x9).sum))).bind fun x11 => some ((x10 + x11)))).bind fun x13 => (oset s4 x6 x13).bind fun x12 => some x12)) x14 x3)).bind fun (s15 : ((List Int))) => (ocomp (s15.zip x2) (fun (x16 : (Int × Int)) => some true) (fun (x16 : (Int × Int)) => (((omul (2 : Int) x16.2)).bind fun x17 => some ((x16.1 - x17)))))
theorem t_p_weight_rows (v_links : (List (List Int))) : Fq m_p_weight_rows [(eT (eT D.int)) v_links] (P_p_weight_rows v_links) (eL D.int) :=
  fq_mk rfl fun T => by
    show St (Bp T) false [] [] [some (.r ((eT (eT D.int)) v_links)), none, none, none, none, none] b_p_weight_rows Oc.ret (P_p_weight_rows v_links) (fun _ => ([], [])) (fun r => ((eL D.int) r, []))
    unfold b_p_weight_rows
    exact St.cast (st_set (ed_call (ea_cons (ew_par (e := (eT (eT D.int))) (i := 0) (x := v_links) rfl) fun x1 => (ea_nil (t_p_pair_rows x1).at))) fun x2 => (st_seto (ef_rep ((ed_frz (ef_dL (el_cons (ed_int 0) el_nil)))).ew (ed_lenL ((ed_var (e := (eL D.int)) (i := 1) (x := x2) rfl)).ew)) fun x3 => (st_join (PA := (fun (s5 : ((List Int))) => ([], [some (.r ((eT (eT D.int)) v_links)), some (.v ((eL D.int) x2)), some (.own (s5.map D.int)), none, none, none]))) (st_forN (P := (fun (s5 : ((List Int))) => ([], [some (.r ((eT (eT D.int)) v_links)), some (.v ((eL D.int) x2)), some (.own (s5.map D.int)), none, none, none]))) x3 (sr_rng2 (ed_int 1) (ed_lenL ((ed_var (e := (eL D.int)) (i := 1) (x := x2) rfl)).ew)) rfl (.yes (.yes (.yes (.no (.no (.no .nil)))))) (fun s4 x6 => tg_nm) (fun s4 x6 => (st_last (st_sub (e := D.int) (l := s4) rfl (ed_add (ed_ixL (ew_own (e := D.int) (i := 2) (l := s4) rfl) (ed_and (ed_var (e := D.int) (i := 3) (x := x6) rfl) (ed_sub (ed_var (e := D.int) (i := 3) (x := x6) rfl) (ed_int 1)))) (ed_sumT ((ed_ixT (ew_par (e := (eT (eT D.int))) (i := 0) (x := v_links) rfl) (ed_call (ea_cons ((ed_var (e := D.int) (i := 3) (x := x6) rfl)).ew fun x7 => (ea_nil (t_p_least_of x7).at))))).ew)) (ed_var (e := D.int) (i := 3) (x := x6) rfl) fun x12 => (st_nil x12 rfl rfl (.yes (.yes (.yes (.no (.no (.no .nil))))))))))) fun s15 => (st_ret1 (ed_frz (ef_comp (s0_zipL (ew_own (e := D.int) (i := 2) (l := s15) rfl) ((ed_var (e := (eL D.int)) (i := 1) (x := x2) rfl)).ew) (fun x16 => (tg_tp (tgs_cons tg_nm (tgs_cons tg_nm tgs_nil)) rfl)) (fun x16 => et_yes) (fun x16 => (ed_sub (ed_var (e := D.int) (i := 4) (x := x16.1) rfl) (ed_mul (ed_int 2) (ed_var (e := D.int) (i := 5) (x := x16.2) rfl)))))) fun x => ⟨x, rfl, rfl⟩)))) (by simp only [P_p_weight_rows, eD, Option.bind_some, Option.bind_assoc])
def P_p_sets_among (v_things : (List Int)) : Option (List (List Int)) := let x1 := [([] : List Int)]; (ofold (fun (s2 : ((List (List Int)))) (x4 : Int) => ((((((ocomp s2 (fun (x5 : (List Int)) => some true) (fun (x5 : (List Int)) => ocat [x4] x5))).bind fun x6 => ocat [([] : List Int)] x6)).bind fun x7 => ocat x7 (cutW s2 (some (1 : Int)) none))).bind fun x8 => some x8) (v_things.reverse) x1).bind fun (s9 : ((List (List Int)))) => some s9
theorem t_p_sets_among (v_things : (List Int)) : Fq m_p_sets_among [(eT D.int) v_things] (P_p_sets_among v_things) (eL (eT D.int)) :=
  fq_mk rfl fun T => by
    show St (Bp T) false [] [] [some (.r ((eT D.int) v_things)), none, none, none] b_p_sets_among Oc.ret (P_p_sets_among v_things) (fun _ => ([], [])) (fun r => ((eL (eT D.int)) r, []))
    unfold b_p_sets_among
    exact St.cast (st_set (ed_frz (ef_dL (el_cons (ed_dT (el_nil (e := D.int))) el_nil))) fun x1 => (st_join (PA := (fun (s3 : ((List (List Int)))) => ([], [some (.r ((eT D.int) v_things)), some (.v ((eL (eT D.int)) s3)), none, none]))) (st_forN (P := (fun (s3 : ((List (List Int)))) => ([], [some (.r ((eT D.int) v_things)), some (.v ((eL (eT D.int)) s3)), none, none]))) x1 (sr_revT (ew_par (e := (eT D.int)) (i := 0) (x := v_things) rfl)) rfl (.yes (.yes (.no (.no .nil)))) (fun s2 x4 => tg_nm) (fun s2 x4 => (st_last (st_set (ed_catL ((ed_catL ((ed_frz (ef_dL (el_cons (ed_dT (el_nil (e := D.int))) el_nil)))).ew ((ed_frz (ef_comp ((sr_D (ed_var (e := (eL (eT D.int))) (i := 1) (x := s2) rfl))).s0 (fun x5 => tg_nm) (fun x5 => et_yes) (fun x5 => (ed_catT ((ed_dT (el_cons (ed_var (e := D.int) (i := 2) (x := x4) rfl) el_nil))).ew ((ed_var (e := (eT D.int)) (i := 3) (x := x5) rfl)).ew))))).ew)).ew ((ed_slL ((ed_var (e := (eL (eT D.int))) (i := 1) (x := s2) rfl)).ew (eb_some (ed_int 1)) eb_none)).ew) fun x8 => (st_nil x8 rfl rfl (.yes (.yes (.no (.no .nil))))))))) fun s9 => (st_ret (g := fun x => x) (ed_var (e := (eL (eT D.int))) (i := 1) (x := s9) rfl) fun x => ⟨x, rfl, rfl⟩))) (by simp only [P_p_sets_among, eD, Option.bind_some, Option.bind_assoc])
def P_p_cutting_sets (v_n : Int) (v_a : Int) (v_others : (List Int)) : Option (List (List Int)) := ((((orng1 v_n)).bind fun x2 => ocomp x2 (fun (x1 : Int) => some (!decide (x1 ∈ v_others))) (fun (x1 : Int) => (some x1)))).bind fun x3 => (((P_p_sets_among x3)).bind fun x6 => ocomp x6 (fun (x5 : (List Int)) => some (decide (v_a ∈ x5))) (fun (x5 : (List Int)) => (some x5)))
theorem t_p_cutting_sets (v_n : Int) (v_a : Int) (v_others : (List Int)) : Fq m_p_cutting_sets [D.int v_n, D.int v_a, (eL D.int) v_others] (P_p_cutting_sets v_n v_a v_others) (eL (eT D.int)) :=
  fq_mk rfl fun T => by
    show St (Bp T) false [] [] [some (.r (D.int v_n)), some (.r (D.int v_a)), some (.r ((eL D.int) v_others)), none, none, none] b_p_cutting_sets Oc.ret (P_p_cutting_sets v_n v_a v_others) (fun _ => ([], [])) (fun r => ((eL (eT D.int)) r, []))
    unfold b_p_cutting_sets
    exact St.cast (st_set (ed_tupleL ((ed_frz (ef_comp ((sr_rng1 (((ew_par (e := D.int) (i := 0) (x := v_n) rfl)).ed nl_int))).s0 (fun x1 => tg_nm) (fun x1 => (et_val (ed_ninL eqok_int ((ed_var (e := D.int) (i := 4) (x := x1) rfl)).ew (ew_par (e := (eL D.int)) (i := 2) (x := v_others) rfl)))) (fun x1 => (ed_var (e := D.int) (i := 4) (x := x1) rfl))))).ew) fun x3 => (st_ret1 (ed_frz (ef_comp ((sr_D (ed_call (ea_cons ((ed_var (e := (eT D.int)) (i := 3) (x := x3) rfl)).ew fun x4 => (ea_nil (t_p_sets_among x4).at))))).s0 (fun x5 => tg_nm) (fun x5 => (et_val (ed_inT eqok_int (fun _ => rfl) (ew_par (e := D.int) (i := 1) (x := v_a) rfl) ((ed_var (e := (eT D.int)) (i := 5) (x := x5) rfl)).ew))) (fun x5 => (ed_var (e := (eT D.int)) (i := 5) (x := x5) rfl)))) fun x => ⟨x, rfl, rfl⟩)) (by simp only [P_p_cutting_sets, eD, Option.bind_some, Option.bind_assoc])
def P_p_least_cut_between (v_links : (List (List Int))) (v_a : Int) (v_b : Int) : Option (Int × (List Int)) := (((P_p_weight_rows v_links)).bind fun x5 => ((P_p_cutting_sets (v_links.length : Int) v_a [v_b])).bind fun x6 => P_p_least_among x5 x6)
theorem t_p_least_cut_between (v_links : (List (List Int))) (v_a : Int) (v_b : Int) : Fq m_p_least_cut_between [(eT (eT D.int)) v_links, D.int v_a, D.int v_b] (P_p_least_cut_between v_links v_a v_b) (eP D.int (eT D.int)) :=
  fq_mk rfl fun T => by
    show St (Bp T) false [] [] [some (.r ((eT (eT D.int)) v_links)), some (.r (D.int v_a)), some (.r (D.int v_b))] b_p_least_cut_between Oc.ret (P_p_least_cut_between v_links v_a v_b) (fun _ => ([], [])) (fun r => ((eP D.int (eT D.int)) r, []))
    unfold b_p_least_cut_between
    exact St.cast (st_ret1 (ed_call (ea_cons ((ed_call (ea_cons (ew_par (e := (eT (eT D.int))) (i := 0) (x := v_links) rfl) fun x1 => (ea_nil (t_p_weight_rows x1).at)))).ew fun x7 => (ea_cons ((ed_call (ea_cons ((ed_lenT (ew_par (e := (eT (eT D.int))) (i := 0) (x := v_links) rfl))).ew fun x2 => (ea_cons (ew_par (e := D.int) (i := 1) (x := v_a) rfl) fun x3 => (ea_cons ((ed_frz (ef_dL (el_cons (((ew_par (e := D.int) (i := 2) (x := v_b) rfl)).ed nl_int) el_nil)))).ew fun x4 => (ea_nil (t_p_cutting_sets x2 x3 x4).at)))))).ew fun x8 => (ea_nil (t_p_least_among x7 x8).at)))) fun x => ⟨x, rfl, rfl⟩) (by simp only [P_p_least_cut_between, eD, Option.bind_some, Option.bind_assoc])
def P_things (v_mask : Int) : Option (List Int) := (((orng1 (12 : Int))).bind fun x4 => ocomp x4 (fun (x1 : Int) => (((((oshr v_mask x1)).bind fun x2 => some ((Builtin.bitAnd x2 (1 : Int))))).bind fun x3 => some ((decide (x3 = (1 : Int)))))) (fun (x1 : Int) => (some x1)))
theorem t_things (v_mask : Int) : Fq m_things [D.int v_mask] (P_things v_mask) (eT D.int) :=
  fq_mk rfl fun T => by
    show St (Bp T) false [] [] [some (.r (D.int v_mask)), none] b_things Oc.ret (P_things v_mask) (fun _ => ([], [])) (fun r => ((eT D.int) r, []))
    unfold b_things
    exact St.cast (st_ret1 (ed_tupleL ((ed_frz (ef_comp ((sr_rng1 (ed_int 12))).s0 (fun x1 => tg_nm) (fun x1 => (et_val (ed_eq eqok_int ((ed_and (ed_shr (((ew_par (e := D.int) (i := 0) (x := v_mask) rfl)).ed nl_int) (ed_var (e := D.int) (i := 1) (x := x1) rfl)) (ed_int 1))).ew ((ed_int 1)).ew))) (fun x1 => (ed_var (e := D.int) (i := 1) (x := x1) rfl))))).ew) fun x => ⟨x, rfl, rfl⟩) (by simp only [P_things, eD, Option.bind_some, Option.bind_assoc])
def P_group_costs (v_table : (List (List Int))) : Option (List Int) := (((((oshl (1 : Int) (v_table.length : Int))).bind fun x1 => orep [(0 : Int)] x1))).bind fun x2 => ((((orng2 (1 : Int) (x2.length : Int))).bind fun x18 => ofold (fun (s3 : ((List Int))) (x5 : Int) => let x6 := (((Builtin.Int.intBits x5 : Nat) : Int) - (1 : Int)); ((((oshl (1 : Int) x6)).bind fun x7 => some ((Builtin.bitXor x5 x7)))).bind fun x8 => (((((atI s3 x8)).bind fun x14 => ((((((P_things x8)).bind fun x12 => ocomp x12 (fun (x10 : Int) => some true) (fun (x10 : Int) => (((atI v_table x6)).bind fun x11 => atI x11 x10)))).bind fun x13 => some ((x13).sum))).bind fun x15 => some ((x14 + x15)))).bind fun x17 => (oset s3 x5 x17).bind fun x16 => some x16)) x18 x2)).bind fun (s19 : ((List Int))) => some s19
theorem t_group_costs (v_table : (List (List Int))) : Fq m_group_costs [(eT (eT D.int)) v_table] (P_group_costs v_table) (eL D.int) :=
  fq_mk rfl fun T => by
    show St (Bp T) false [] [] [some (.r ((eT (eT D.int)) v_table)), none, none, none, none, none] b_group_costs Oc.ret (P_group_costs v_table) (fun _ => ([], [])) (fun r => ((eL D.int) r, []))
    unfold b_group_costs
    exact St.cast (st_seto (ef_rep ((ed_frz (ef_dL (el_cons (ed_int 0) el_nil)))).ew (ed_shl (ed_int 1) (ed_lenT (ew_par (e := (eT (eT D.int))) (i := 0) (x := v_table) rfl)))) fun x2 => (st_join (PA := (fun (s4 : ((List Int))) => ([], [some (.r ((eT (eT D.int)) v_table)), some (.own (s4.map D.int)), none, none, none, none]))) (st_forN (P := (fun (s4 : ((List Int))) => ([], [some (.r ((eT (eT D.int)) v_table)), some (.own (s4.map D.int)), none, none, none, none]))) x2 (sr_rng2 (ed_int 1) (ed_lenL (ew_own (e := D.int) (i := 1) (l := x2) rfl))) rfl (.yes (.yes (.no (.no (.no (.no .nil)))))) (fun s3 x5 => tg_nm) (fun s3 x5 => (st_set (ed_sub (ed_bits (ed_var (e := D.int) (i := 2) (x := x5) rfl)) (ed_int 1)) fun x6 => (st_set (ed_xor (ed_var (e := D.int) (i := 2) (x := x5) rfl) (ed_shl (ed_int 1) (ed_var (e := D.int) (i := 3) (x := x6) rfl))) fun x8 => (st_last (st_sub (e := D.int) (l := s3) rfl (ed_add (ed_ixL (ew_own (e := D.int) (i := 1) (l := s3) rfl) (ed_var (e := D.int) (i := 4) (x := x8) rfl)) (ed_sum ((ed_frz (ef_comp ((sr_T ((ed_call (ea_cons ((ed_var (e := D.int) (i := 4) (x := x8) rfl)).ew fun x9 => (ea_nil (t_things x9).at)))).ew)).s0 (fun x10 => tg_nm) (fun x10 => et_yes) (fun x10 => (ed_ixT ((ed_ixT (ew_par (e := (eT (eT D.int))) (i := 0) (x := v_table) rfl) (ed_var (e := D.int) (i := 3) (x := x6) rfl))).ew (ed_var (e := D.int) (i := 5) (x := x10) rfl)))))).ew)) (ed_var (e := D.int) (i := 2) (x := x5) rfl) fun x16 => (st_nil x16 rfl rfl (.yes (.yes (.no (.no (.no (.no .nil))))))))))))) fun s19 => (st_reto (e := D.int) (l := s19) rfl ⟨s19, rfl, rfl⟩))) (by simp only [P_group_costs, eD, Option.bind_some, Option.bind_assoc])
def P_cut_weights (v_links : (List (List Int))) : Option (List Int) := ((P_group_costs v_links)).bind fun x2 => ((ocomp v_links (fun (x3 : (List Int)) => some true) (fun (x3 : (List Int)) => (some ((x3).sum))))).bind fun x4 => (((orng1 (x2.length : Int))).bind fun x13 => ocomp x13 (fun (x5 : Int) => some true) (fun (x5 : Int) => (((((((P_things x5)).bind fun x8 => ocomp x8 (fun (x7 : Int) => some true) (fun (x7 : Int) => (atI x4 x7)))).bind fun x9 => some ((x9).sum))).bind fun x11 => ((((atI x2 x5)).bind fun x10 => (omul (2 : Int) x10))).bind fun x12 => some ((x11 - x12)))))
theorem t_cut_weights (v_links : (List (List Int))) : Fq m_cut_weights [(eT (eT D.int)) v_links] (P_cut_weights v_links) (eL D.int) :=
  fq_mk rfl fun T => by
    show St (Bp T) false [] [] [some (.r ((eT (eT D.int)) v_links)), none, none, none, none, none] b_cut_weights Oc.ret (P_cut_weights v_links) (fun _ => ([], [])) (fun r => ((eL D.int) r, []))
    unfold b_cut_weights
    exact St.cast (st_set (ed_call (ea_cons (ew_par (e := (eT (eT D.int))) (i := 0) (x := v_links) rfl) fun x1 => (ea_nil (t_group_costs x1).at))) fun x2 => (st_set (ed_frz (ef_comp ((sr_T (ew_par (e := (eT (eT D.int))) (i := 0) (x := v_links) rfl))).s0 (fun x3 => tg_nm) (fun x3 => et_yes) (fun x3 => (ed_sumT ((ed_var (e := (eT D.int)) (i := 3) (x := x3) rfl)).ew)))) fun x4 => (st_ret1 (ed_frz (ef_comp ((sr_rng1 (ed_lenL ((ed_var (e := (eL D.int)) (i := 1) (x := x2) rfl)).ew))).s0 (fun x5 => tg_nm) (fun x5 => et_yes) (fun x5 => (ed_sub (ed_sum ((ed_frz (ef_comp ((sr_T ((ed_call (ea_cons ((ed_var (e := D.int) (i := 4) (x := x5) rfl)).ew fun x6 => (ea_nil (t_things x6).at)))).ew)).s0 (fun x7 => tg_nm) (fun x7 => et_yes) (fun x7 => (ed_ixL ((ed_var (e := (eL D.int)) (i := 2) (x := x4) rfl)).ew (ed_var (e := D.int) (i := 5) (x := x7) rfl)))))).ew) (ed_mul (ed_int 2) (ed_ixL ((ed_var (e := (eL D.int)) (i := 1) (x := x2) rfl)).ew (ed_var (e := D.int) (i := 4) (x := x5) rfl))))))) fun x => ⟨x, rfl, rfl⟩))) (by simp only [P_cut_weights, eD, Option.bind_some, Option.bind_assoc])
def P_due_weight (v_links : (List (List Int))) (v_things : (List Int)) : Option Int := ((P_pairs (v_links.length : Int))).bind fun x2 => (((ocomp x2 (fun (x3 : (Int × Int)) => some (!decide ((decide (x3.1 ∈ v_things)) = (decide (x3.2 ∈ v_things))))) (fun (x3 : (Int × Int)) => (((atI v_links x3.1)).bind fun x4 => atI x4 x3.2)))).bind fun x5 => some ((x5).sum))
theorem t_due_weight (v_links : (List (List Int))) (v_things : (List Int)) : Fq m_due_weight [(eT (eT D.int)) v_links, (eT D.int) v_things] (P_due_weight v_links v_things) D.int :=
  fq_mk rfl fun T => by
    show St (Bp T) false [] [] [some (.r ((eT (eT D.int)) v_links)), some (.r ((eT D.int) v_things)), none, none] b_due_weight Oc.ret (P_due_weight v_links v_things) (fun _ => ([], [])) (fun r => (D.int r, []))
    unfold b_due_weight
    exact St.cast (st_set (ed_call (ea_cons ((ed_lenT (ew_par (e := (eT (eT D.int))) (i := 0) (x := v_links) rfl))).ew fun x1 => (ea_nil (t_pairs x1).at))) fun x2 => (st_ret1 (ed_sum ((ed_frz (ef_comp ((sr_D (ed_var (e := (eL (eP D.int D.int))) (i := 2) (x := x2) rfl))).s0 (fun x3 => tg_nm) (fun x3 => (et_val (ed_ne eqok_bl ((ed_inT eqok_int (fun _ => rfl) ((ed_ixP (e := (eP D.int D.int)) (f := D.int) (p := fun x => x.1) (ixP_0) nl_P ((ed_var (e := (eP D.int D.int)) (i := 3) (x := x3) rfl)).ew)).ew (ew_par (e := (eT D.int)) (i := 1) (x := v_things) rfl))).ew ((ed_inT eqok_int (fun _ => rfl) ((ed_ixP (e := (eP D.int D.int)) (f := D.int) (p := fun x => x.2) (ixP_1) nl_P ((ed_var (e := (eP D.int D.int)) (i := 3) (x := x3) rfl)).ew)).ew (ew_par (e := (eT D.int)) (i := 1) (x := v_things) rfl))).ew))) (fun x3 => (ed_ixT ((ed_ixT (ew_par (e := (eT (eT D.int))) (i := 0) (x := v_links) rfl) (ed_ixP (e := (eP D.int D.int)) (f := D.int) (p := fun x => x.1) (ixP_0) nl_P ((ed_var (e := (eP D.int D.int)) (i := 3) (x := x3) rfl)).ew))).ew (ed_ixP (e := (eP D.int D.int)) (f := D.int) (p := fun x => x.2) (ixP_1) nl_P ((ed_var (e := (eP D.int D.int)) (i := 3) (x := x3) rfl)).ew)))))).ew) fun x => ⟨x, rfl, rfl⟩)) (by simp only [P_due_weight, eD, Option.bind_some, Option.bind_assoc])
def P_some_of (ns : List Int) (v_things : (List Int)) (v_many : Int) : Option ((List Int) × List Int) := let x1 := ([] : List Int); ((((((P_take ns v_many)).bind fun p7 => some (((1 : Int) + p7.1), p7.2))).bind fun p8 => (orng1 p8.1).bind fun l9 => some (l9, p8.2)).bind fun p11 => ofold (fun (s2 : ((List Int) × List Int)) (x10 : Int) => ((P_pick s2.2 v_things)).bind fun p14 => if (!decide (p14.1 ∈ s2.1)) = true then ((oapp s2.1 p14.1).bind fun x15 => some (x15, p14.2)) else (some (s2.1, p14.2))) p11.1 (x1, p11.2)).bind fun (s16 : ((List Int) × List Int)) => some ((sortI s16.1), s16.2)
theorem t_some_of (ns : List Int) (v_things : (List Int)) (v_many : Int) : Fv m_some_of [(eL D.int) v_things, D.int v_many] ns (P_some_of ns v_things v_many) (eL D.int) :=
  fv_mk rfl fun T => by
    show St (Bd T) false [] ns [some (.w (.ref 0)), some (.r ((eL D.int) v_things)), some (.r (D.int v_many)), none, none, none] b_some_of Oc.ret (P_some_of ns v_things v_many) (fun _ => ([], [])) (fun r => ((eL D.int) r.1, r.2))
    unfold b_some_of
    exact St.cast (st_seto (ef_dL (el_nil (e := D.int))) fun x1 => (st_join (PA := (fun (s4 : ((List Int) × List Int)) => (s4.2, [some (.w (.ref 0)), some (.r ((eL D.int) v_things)), some (.r (D.int v_many)), some (.own (s4.1.map D.int)), none, none]))) (st_forNd (P := (fun (s4 : ((List Int) × List Int)) => (s4.2, [some (.w (.ref 0)), some (.r ((eL D.int) v_things)), some (.r (D.int v_many)), some (.own (s4.1.map D.int)), none, none]))) (fun n12 => (x1, n12)) (srd_rng1 (edv_prim (eav_pure ((ed_int 1)).ew fun x5 => (eav_draw (edv_call (i := 0) rfl (eav_pure (ew_par (e := D.int) (i := 2) (x := v_many) rfl) fun x6 => (eav_nil (t_take _ x6).at))) fun p7 => (eav_nil (prim_nil fun _ => (ed_add (((ew_par (e := D.int) (i := 0) (x := x5) rfl)).ed nl_int) (((ew_par (e := D.int) (i := 1) (x := p7.1) rfl)).ed nl_int)))))))) (fun _ => rfl) (fun _ => (.yes (.yes (.yes (.yes (.no (.no .nil))))))) (fun s2 x10 => tg_nm) (fun s2 x10 => (st_setd (edv_call (i := 0) rfl (eav_pure (ew_par (e := (eL D.int)) (i := 1) (x := v_things) rfl) fun x13 => (eav_nil (t_pick _ x13).at))) fun p14 => (st_if (et_val (ed_ninL eqok_int ((ed_var (e := D.int) (i := 5) (x := p14.1) rfl)).ew (ew_own (e := D.int) (i := 3) (l := s2.1) rfl))) (st_last (st_app (e := D.int) (l := s2.1) rfl (ed_var (e := D.int) (i := 5) (x := p14.1) rfl) fun x15 => (st_nil (x15, p14.2) rfl rfl (.yes (.yes (.yes (.yes (.no (.no .nil))))))))) (st_nil (s2.1, p14.2) rfl rfl (.yes (.yes (.yes (.yes (.no (.no .nil))))))))))) fun s16 => (st_retd (g := fun p => p) (edv_of (ed_frz (ef_sorted (ew_own (e := D.int) (i := 3) (l := s16.1) rfl)))) fun p => ⟨p, rfl, rfl⟩))) (by simp only [P_some_of, eD, Option.bind_some, Option.bind_assoc])
def P_sets (v_things : (List Int)) : Option (List (List Int)) := let x1 := [([] : List Int)]; (ofold (fun (s2 : ((List (List Int)))) (x4 : Int) => ((((ocomp s2 (fun (x5 : (List Int)) => some true) (fun (x5 : (List Int)) => ocat x5 [x4]))).bind fun x6 => ocat s2 x6)).bind fun x7 => some x7) v_things x1).bind fun (s8 : ((List (List Int)))) => (if okSrtE (s8.map (eT D.int)) = true then some (sortE (eT D.int) s8) else none)
theorem t_sets (v_things : (List Int)) : Fq m_sets [(eL D.int) v_things] (P_sets v_things) (eL (eT D.int)) :=
  fq_mk rfl fun T => by
    show St (Bp T) false [] [] [some (.r ((eL D.int) v_things)), none, none, none] b_sets Oc.ret (P_sets v_things) (fun _ => ([], [])) (fun r => ((eL (eT D.int)) r, []))
    unfold b_sets
    exact St.cast (st_set (ed_frz (ef_dL (el_cons (ed_dT (el_nil (e := D.int))) el_nil))) fun x1 => (st_join (PA := (fun (s3 : ((List (List Int)))) => ([], [some (.r ((eL D.int) v_things)), some (.v ((eL (eT D.int)) s3)), none, none]))) (st_forN (P := (fun (s3 : ((List (List Int)))) => ([], [some (.r ((eL D.int) v_things)), some (.v ((eL (eT D.int)) s3)), none, none]))) x1 (sr_par (e := D.int) (i := 0) (l := v_things) rfl) rfl (.yes (.yes (.no (.no .nil)))) (fun s2 x4 => tg_nm) (fun s2 x4 => (st_last (st_set (ed_catL ((ed_var (e := (eL (eT D.int))) (i := 1) (x := s2) rfl)).ew ((ed_frz (ef_comp ((sr_D (ed_var (e := (eL (eT D.int))) (i := 1) (x := s2) rfl))).s0 (fun x5 => tg_nm) (fun x5 => et_yes) (fun x5 => (ed_catT ((ed_var (e := (eT D.int)) (i := 3) (x := x5) rfl)).ew ((ed_dT (el_cons (ed_var (e := D.int) (i := 2) (x := x4) rfl) el_nil))).ew))))).ew) fun x7 => (st_nil x7 rfl rfl (.yes (.yes (.no (.no .nil))))))))) fun s8 => (st_ret1 (ed_frz (ef_sortE ((ed_var (e := (eL (eT D.int))) (i := 1) (x := s8) rfl)).ew)) fun x => ⟨x, rfl, rfl⟩))) (by simp only [P_sets, eD, Option.bind_some, Option.bind_assoc])
def P_sets_between (v_n : Int) (v_a : Int) (v_b : Int) : Option (List (List Int)) := (((((olrg 0 v_n)).bind fun x1 => P_sets x1)).bind fun x4 => ocomp x4 (fun (x3 : (List Int)) => some ((decide (v_a ∈ x3)) && (!decide (v_b ∈ x3)))) (fun (x3 : (List Int)) => (some x3)))
theorem t_sets_between (v_n : Int) (v_a : Int) (v_b : Int) : Fq m_sets_between [D.int v_n, D.int v_a, D.int v_b] (P_sets_between v_n v_a v_b) (eL (eT D.int)) :=
  fq_mk rfl fun T => by
    show St (Bp T) false [] [] [some (.r (D.int v_n)), some (.r (D.int v_a)), some (.r (D.int v_b)), none] b_sets_between Oc.ret (P_sets_between v_n v_a v_b) (fun _ => ([], [])) (fun r => ((eL (eT D.int)) r, []))
    unfold b_sets_between
    exact St.cast (st_ret1 (ed_frz (ef_comp ((sr_D (ed_call (ea_cons ((ed_frz (ef_lrg (ep_1 (((ew_par (e := D.int) (i := 0) (x := v_n) rfl)).ed nl_int))))).ew fun x2 => (ea_nil (t_sets x2).at))))).s0 (fun x3 => tg_nm) (fun x3 => (et_andT (et_val (ed_inT eqok_int (fun _ => rfl) (ew_par (e := D.int) (i := 1) (x := v_a) rfl) ((ed_var (e := (eT D.int)) (i := 3) (x := x3) rfl)).ew)) (et_val (ed_ninT eqok_int (fun _ => rfl) (ew_par (e := D.int) (i := 2) (x := v_b) rfl) ((ed_var (e := (eT D.int)) (i := 3) (x := x3) rfl)).ew)))) (fun x3 => (ed_var (e := (eT D.int)) (i := 3) (x := x3) rfl)))) fun x => ⟨x, rfl, rfl⟩) (by simp only [P_sets_between, eD, Option.bind_some, Option.bind_assoc])
def P_p_weight_of (v_links : (List (List Int))) (v_things : (List Int)) : Option Int := ((((orng1 (v_links.length : Int))).bind fun x2 => ocomp x2 (fun (x1 : Int) => some (!decide (x1 ∈ v_things))) (fun (x1 : Int) => (some x1)))).bind fun x3 => (((ocomp2 v_things (fun (x4 : Int) => some true) (fun (x4 : Int) => (some x3)) (fun (x4 : Int) (x5 : Int) => some true) (fun (x4 : Int) (x5 : Int) => (((atI v_links x4)).bind fun x6 => atI x6 x5)))).bind fun x7 => some ((x7).sum))
theorem t_p_weight_of (v_links : (List (List Int))) (v_things : (List Int)) : Fq m_p_weight_of [(eT (eT D.int)) v_links, (eT D.int) v_things] (P_p_weight_of v_links v_things) D.int :=
  fq_mk rfl fun T => by
    show St (Bp T) false [] [] [some (.r ((eT (eT D.int)) v_links)), some (.r ((eT D.int) v_things)), none, none, none, none] b_p_weight_of Oc.ret (P_p_weight_of v_links v_things) (fun _ => ([], [])) (fun r => (D.int r, []))
    unfold b_p_weight_of
    exact St.cast (st_set (ed_frz (ef_comp ((sr_rng1 (ed_lenT (ew_par (e := (eT (eT D.int))) (i := 0) (x := v_links) rfl)))).s0 (fun x1 => tg_nm) (fun x1 => (et_val (ed_ninT eqok_int (fun _ => rfl) ((ed_var (e := D.int) (i := 3) (x := x1) rfl)).ew (ew_par (e := (eT D.int)) (i := 1) (x := v_things) rfl)))) (fun x1 => (ed_var (e := D.int) (i := 3) (x := x1) rfl)))) fun x3 => (st_ret1 (ed_sum ((ed_frz (ef_comp2 ((sr_T (ew_par (e := (eT D.int)) (i := 1) (x := v_things) rfl))).s0 (fun x4 => tg_nm) (fun x4 => et_yes) (fun x4 => ((sr_D (ed_var (e := (eL D.int)) (i := 2) (x := x3) rfl))).s0) (fun x4 x5 => tg_nm) (fun x4 x5 => et_yes) (fun x4 x5 => (ed_ixT ((ed_ixT (ew_par (e := (eT (eT D.int))) (i := 0) (x := v_links) rfl) (ed_var (e := D.int) (i := 4) (x := x4) rfl))).ew (ed_var (e := D.int) (i := 5) (x := x5) rfl)))))).ew) fun x => ⟨x, rfl, rfl⟩)) (by simp only [P_p_weight_of, eD, Option.bind_some, Option.bind_assoc])
def P_is_right (ns : List Int) (v_links : (List (List Int))) : Option (Bool × List Int) := let x1 := (v_links.length : Int); (((((some (([] : List Int), ns))).bind fun p5 => ((((((olrg 0 x1)).bind fun x7 => some (x7, p5.2))).bind fun p8 => ((((((((olrg 0 x1)).bind fun x10 => P_some_of p8.2 x10 x1)).bind fun p12 => some (p12.1, p12.2))).bind fun p13 => ((some ([], p13.2))).bind fun q15 => some (p13.1 :: q15.1, q15.2))).bind fun q16 => some (p8.1 :: q16.1, q16.2))).bind fun q17 => some (p5.1 :: q17.1, q17.2))).bind fun p19 => ofor (fun (s2 : (List Int)) (x18 : (List Int)) => ((P_due_weight v_links x18)).bind fun x23 => ((((orng1 x1)).bind fun x25 => ocomp x25 (fun (x24 : Int) => some (!decide (x24 ∈ x18))) (fun (x24 : Int) => (some x24)))).bind fun x26 => ((((((((((P_p_weight_of v_links x18)).bind fun x29 => some (D.int x29))).bind fun x30 => P_same x30 (D.int x23))).bind fun x33 => some (!x33))).bind fun x41 => if x41 = true then some true else (((((((P_p_weight_of v_links x26)).bind fun x36 => some (D.int x36))).bind fun x37 => P_same x37 (D.int x23))).bind fun x40 => some (!x40)))).bind fun x43 => if x43 = true then (some (Oc.ret (false, s2))) else (some (Oc.nx s2))) p19.1 p19.2).bind (oseq (fun r => r) fun (s44 : (List Int)) => if (decide (x1 = (1 : Int))) = true then (some (true, s44)) else (((P_cut_weights v_links)).bind fun x47 => ((((orng1 (3 : Int))).bind fun x76 => ofor (fun (s48 : (List Int)) (x50 : Int) => ((((P_pairs x1)).bind fun x52 => P_pick_P s48 x52)).bind fun p53 => (if (decide (x50 = (1 : Int))) = true then (let x55 := p53.1.2; let x56 := p53.1.1; some (x55, x56)) else (some (p53.1.1, p53.1.2)) : Option (Int × Int)).bind fun s57 => ((((P_sets_between x1 s57.1 s57.2)).bind fun x61 => P_least_cut x47 x61)).bind fun x64 => ((((((((P_p_least_cut_between v_links s57.1 s57.2)).bind fun x68 => some ((eP D.int (eT D.int)) x68))).bind fun x69 => P_same x69 ((eP D.int (eT D.int)) x64))).bind fun x72 => some (!x72))).bind fun x74 => if x74 = true then (some (Oc.ret (false, p53.2))) else (some (Oc.nx p53.2))) x76 s44)).bind (oseq (fun r => r) fun (s77 : (List Int)) => some (true, s77))))
theorem t_is_right (ns : List Int) (v_links : (List (List Int))) : Fv m_is_right [(eT (eT D.int)) v_links] ns (P_is_right ns v_links) D.bl :=
  fv_mk rfl fun T => by
    show St (Bd T) false [] ns [some (.w (.ref 0)), some (.r ((eT (eT D.int)) v_links)), none, none, none, none, none, none, none, none, none] b_is_right Oc.ret (P_is_right ns v_links) (fun _ => ([], [])) (fun r => (D.bl r.1, r.2))
    unfold b_is_right
    exact St.cast (st_set (ed_lenT (ew_par (e := (eT (eT D.int))) (i := 1) (x := v_links) rfl)) fun x1 => (st_joinG (PA := (fun (s4 : (List Int)) => (s4, [some (.w (.ref 0)), some (.r ((eT (eT D.int)) v_links)), some (.v (D.int x1)), none, none, none, none, none, none, none, none]))) (er := (fun r => r)) (st_forGd (P := (fun (s4 : (List Int)) => (s4, [some (.w (.ref 0)), some (.r ((eT (eT D.int)) v_links)), some (.v (D.int x1)), none, none, none, none, none, none, none, none]))) (fun n20 => n20) (srd_D (edv_frz (efv_dL (ead_cons (edv_of (ed_dT (el_nil (e := D.int)))) fun n6 => (ead_cons (edv_of (ed_trg (ep_1 (ed_var (e := D.int) (i := 2) (x := x1) rfl)))) fun n9 => (ead_cons (edv_prim (eav_draw (edv_call (i := 0) rfl (eav_pure ((ed_frz (ef_lrg (ep_1 (ed_var (e := D.int) (i := 2) (x := x1) rfl))))).ew fun x10 => (eav_pure ((ed_var (e := D.int) (i := 2) (x := x1) rfl)).ew fun x11 => (eav_nil (t_some_of _ x10 x11).at)))) fun p12 => (eav_nil (prim_nil fun _ => (ed_tupleL (ew_par (e := (eL D.int)) (i := 0) (x := p12.1) rfl)))))) fun n14 => ead_nil)))))) (fun _ => rfl) (fun _ => (.yes (.yes (.yes (.no (.no (.no (.no (.no (.no (.no (.no .nil)))))))))))) (fun s2 x18 => tg_nm) (fun s2 x18 => (st_set (ed_call (ea_cons (ew_par (e := (eT (eT D.int))) (i := 1) (x := v_links) rfl) fun x21 => (ea_cons ((ed_var (e := (eT D.int)) (i := 3) (x := x18) rfl)).ew fun x22 => (ea_nil (t_due_weight x21 x22).at)))) fun x23 => (st_set (ed_tupleL ((ed_frz (ef_comp ((sr_rng1 (ed_var (e := D.int) (i := 2) (x := x1) rfl))).s0 (fun x24 => tg_nm) (fun x24 => (et_val (ed_ninT eqok_int (fun _ => rfl) ((ed_var (e := D.int) (i := 10) (x := x24) rfl)).ew ((ed_var (e := (eT D.int)) (i := 3) (x := x18) rfl)).ew))) (fun x24 => (ed_var (e := D.int) (i := 10) (x := x24) rfl))))).ew) fun x26 => (st_if (et_or (et_not (et_val (ed_calls (eas_cons ((ed_call (ea_cons (ew_par (e := (eT (eT D.int))) (i := 1) (x := v_links) rfl) fun x27 => (ea_cons ((ed_var (e := (eT D.int)) (i := 3) (x := x18) rfl)).ew fun x28 => (ea_nil (t_p_weight_of x27 x28).at))))).any fun x31 => (eas_cons ((ed_var (e := D.int) (i := 4) (x := x23) rfl)).any fun x32 => (eas_nil (t_same x31 x32).at)))))) (et_not (et_val (ed_calls (eas_cons ((ed_call (ea_cons (ew_par (e := (eT (eT D.int))) (i := 1) (x := v_links) rfl) fun x34 => (ea_cons ((ed_var (e := (eT D.int)) (i := 5) (x := x26) rfl)).ew fun x35 => (ea_nil (t_p_weight_of x34 x35).at))))).any fun x38 => (eas_cons ((ed_var (e := D.int) (i := 4) (x := x23) rfl)).any fun x39 => (eas_nil (t_same x38 x39).at))))))) (st_retd (g := fun p => Oc.ret p) (edv_of (ed_bl false)) fun p => ⟨p, rfl, rfl⟩) (st_nil s2 rfl rfl (.yes (.yes (.yes (.no (.no (.no (.no (.no (.no (.no (.no .nil))))))))))))))))) fun s44 => (st_qif (st_if (et_val (ed_eq eqok_int ((ed_var (e := D.int) (i := 2) (x := x1) rfl)).ew ((ed_int 1)).ew)) (st_qret (st_retd (g := fun p => p) (edv_of (ed_bl true)) fun p => ⟨p, rfl, rfl⟩)) (st_qnil (st_set (ed_call (ea_cons (ew_par (e := (eT (eT D.int))) (i := 1) (x := v_links) rfl) fun x46 => (ea_nil (t_cut_weights x46).at))) fun x47 => (st_joinG (PA := (fun (s49 : (List Int)) => (s49, [some (.w (.ref 0)), some (.r ((eT (eT D.int)) v_links)), some (.v (D.int x1)), none, none, none, some (.v ((eL D.int) x47)), none, none, none, none]))) (er := (fun r => r)) (st_forG (P := (fun (s49 : (List Int)) => (s49, [some (.w (.ref 0)), some (.r ((eT (eT D.int)) v_links)), some (.v (D.int x1)), none, none, none, some (.v ((eL D.int) x47)), none, none, none, none]))) s44 (sr_rng1 (ed_int 3)) rfl (.yes (.yes (.yes (.no (.no (.no (.yes (.no (.no (.no (.no .nil))))))))))) (fun s48 x50 => tg_nm) (fun s48 x50 => (st_asgd (edv_call (i := 0) rfl (eav_pure ((ed_call (ea_cons ((ed_var (e := D.int) (i := 2) (x := x1) rfl)).ew fun x51 => (ea_nil (t_pairs x51).at)))).ew fun x52 => (eav_nil (t_pick_P _ x52).at))) (fun x54 => (tg_tp (tgs_cons tg_nm (tgs_cons tg_nm tgs_nil)) rfl)) fun p53 => (st_join (PA := (fun (s75 : (Int × Int)) => (p53.2, [some (.w (.ref 0)), some (.r ((eT (eT D.int)) v_links)), some (.v (D.int x1)), none, none, none, some (.v ((eL D.int) x47)), some (.v (D.int x50)), some (.v (D.int s75.1)), some (.v (D.int s75.2)), none]))) (st_if (et_val (ed_eq eqok_int ((ed_var (e := D.int) (i := 7) (x := x50) rfl)).ew ((ed_int 1)).ew)) (st_last (st_par (ed_var (e := D.int) (i := 9) (x := p53.1.2) rfl) (ed_var (e := D.int) (i := 8) (x := p53.1.1) rfl) fun x55 x56 => (st_nil (x55, x56) rfl rfl (.yes (.yes (.yes (.no (.no (.no (.yes (.yes (.yes (.yes (.no .nil)))))))))))))) (st_nil (p53.1.1, p53.1.2) rfl rfl (.yes (.yes (.yes (.no (.no (.no (.yes (.yes (.yes (.yes (.no .nil))))))))))))) fun s57 => (st_set (ed_call (ea_cons ((ed_var (e := (eL D.int)) (i := 6) (x := x47) rfl)).ew fun x62 => (ea_cons ((ed_call (ea_cons ((ed_var (e := D.int) (i := 2) (x := x1) rfl)).ew fun x58 => (ea_cons ((ed_var (e := D.int) (i := 8) (x := s57.1) rfl)).ew fun x59 => (ea_cons ((ed_var (e := D.int) (i := 9) (x := s57.2) rfl)).ew fun x60 => (ea_nil (t_sets_between x58 x59 x60).at)))))).ew fun x63 => (ea_nil (t_least_cut x62 x63).at)))) fun x64 => (st_if (et_not (et_val (ed_calls (eas_cons ((ed_call (ea_cons (ew_par (e := (eT (eT D.int))) (i := 1) (x := v_links) rfl) fun x65 => (ea_cons ((ed_var (e := D.int) (i := 8) (x := s57.1) rfl)).ew fun x66 => (ea_cons ((ed_var (e := D.int) (i := 9) (x := s57.2) rfl)).ew fun x67 => (ea_nil (t_p_least_cut_between x65 x66 x67).at)))))).any fun x70 => (eas_cons ((ed_var (e := (eP D.int (eT D.int))) (i := 4) (x := x64) rfl)).any fun x71 => (eas_nil (t_same x70 x71).at)))))) (st_retd (g := fun p => Oc.ret p) (edv_of (ed_bl false)) fun p => ⟨p, rfl, rfl⟩) (st_nil p53.2 rfl rfl (.yes (.yes (.yes (.no (.no (.no (.yes (.no (.no (.no (.no .nil)))))))))))))))))) fun s77 => (st_retd (g := fun p => p) (edv_of (ed_bl true)) fun p => ⟨p, rfl, rfl⟩)))))))) (by simp only [P_is_right, eD, Option.bind_some, Option.bind_assoc])
def P_law (ns : List Int) : Option (Bool × List Int) := ((((((P_take ns (6 : Int))).bind fun p3 => some (((1 : Int) + p3.1), p3.2))).bind fun p4 => P_links p4.2 p4.1)).bind fun p5 => ((((((P_is_right p5.2 p5.1)).bind fun p7 => some (!p7.1, p7.2))).bind fun p8 => if p8.1 = true then some (true, p8.2) else (((((P_links p8.2 (5 : Int))).bind fun p11 => P_is_right p11.2 p11.1)).bind fun p12 => some (!p12.1, p12.2)))).bind fun p13 => if p13.1 = true then (some (false, p13.2)) else (((((P_take p13.2 (8 : Int))).bind fun p17 => some ((decide (p17.1 = (0 : Int))), p17.2))).bind fun p19 => if p19.1 = true then (((P_links p19.2 (10 : Int))).bind fun p22 => ((((P_cut_weights p22.1)).bind fun x27 => ((P_sets_between (10 : Int) (9 : Int) (0 : Int))).bind fun x28 => P_least_cut x27 x28)).bind fun x31 => (((((((P_p_least_cut_between p22.1 (9 : Int) (0 : Int))).bind fun x35 => some ((eP D.int (eT D.int)) x35))).bind fun x36 => P_same x36 ((eP D.int (eT D.int)) x31))).bind fun x39 => some (x39, p22.2))) else (((P_links p19.2 (2 : Int))).bind fun p42 => (((((((P_p_least_cut_between p42.1 (1 : Int) (0 : Int))).bind fun x46 => some ((eP D.int (eT D.int)) x46))).bind fun x50 => ((((((((atI p42.1 (0 : Int))).bind fun x47 => atI x47 (1 : Int))).bind fun x48 => some ((x48, [(1 : Int)])))).bind fun x49 => some ((eP D.int (eT D.int)) x49))).bind fun x51 => P_same x50 x51)).bind fun x54 => some (x54, p42.2))))
theorem t_law (script : W) (ms ns' : List Int) (hd : m_draws [script, .d (.int 400)] [] = some (.new (iws ms), [])) (hp : P_law ms = some (true, ns')) : m_law [script] [] = some (.val (.d (.bl true)), []) := by
  refine law_mkd (ns' := ns') (o := P_law ms) (by decide) hd ?_ hp
  show St (Bd []) false [] ms [none, some (.w (.ref 0)), none, none, none] _ Oc.ret (P_law ms) (fun _ => ([], [])) (fun r => (D.bl r.1, r.2))
  exact (fun ns => St.cast (st_setd (edv_call (i := 1) rfl (eav_draw (edv_prim (eav_pure ((ed_int 1)).ew fun x1 => (eav_draw (edv_call (i := 1) rfl (eav_pure ((ed_int 6)).ew fun x2 => (eav_nil (t_take _ x2).at))) fun p3 => (eav_nil (prim_nil fun _ => (ed_add (((ew_par (e := D.int) (i := 0) (x := x1) rfl)).ed nl_int) (((ew_par (e := D.int) (i := 1) (x := p3.1) rfl)).ed nl_int))))))) fun p4 => (eav_nil (t_links _ p4.1).at))) fun p5 => (st_qif (st_ifd (etv_or (etv_not (etv_val (edv_call (i := 1) rfl (eav_pure ((ed_var (e := (eT (eT D.int))) (i := 2) (x := p5.1) rfl)).ew fun x6 => (eav_nil (t_is_right _ x6).at))))) fun n9 => (etv_not (etv_val (edv_call (i := 1) rfl (eav_draw (edv_call (i := 1) rfl (eav_pure ((ed_int 5)).ew fun x10 => (eav_nil (t_links _ x10).at))) fun p11 => (eav_nil (t_is_right _ p11.1).at)))))) (fun n14 => (st_qret (st_retd (g := fun p => p) (edv_of (ed_bl false)) fun p => ⟨p, rfl, rfl⟩))) (fun n14 => (st_qnil (st_qif (st_ifd (etv_val (edv_prim (eav_draw (edv_call (i := 1) rfl (eav_pure ((ed_int 8)).ew fun x16 => (eav_nil (t_take _ x16).at))) fun p17 => (eav_pure ((ed_int 0)).ew fun x18 => (eav_nil (prim_nil fun _ => (ed_eq eqok_int (ew_par (e := D.int) (i := 0) (x := p17.1) rfl) (ew_par (e := D.int) (i := 1) (x := x18) rfl)))))))) (fun n20 => (st_qseq (st_setd (edv_call (i := 1) rfl (eav_pure ((ed_int 10)).ew fun x21 => (eav_nil (t_links _ x21).at))) fun p22 => (st_qseq (st_set (ed_call (ea_cons ((ed_call (ea_cons ((ed_var (e := (eT (eT D.int))) (i := 2) (x := p22.1) rfl)).ew fun x23 => (ea_nil (t_cut_weights x23).at)))).ew fun x29 => (ea_cons ((ed_call (ea_cons ((ed_int 10)).ew fun x24 => (ea_cons ((ed_int 9)).ew fun x25 => (ea_cons ((ed_int 0)).ew fun x26 => (ea_nil (t_sets_between x24 x25 x26).at)))))).ew fun x30 => (ea_nil (t_least_cut x29 x30).at)))) fun x31 => (st_qret (st_retd1 (edv_of (ed_calls (eas_cons ((ed_call (ea_cons ((ed_var (e := (eT (eT D.int))) (i := 2) (x := p22.1) rfl)).ew fun x32 => (ea_cons ((ed_int 9)).ew fun x33 => (ea_cons ((ed_int 0)).ew fun x34 => (ea_nil (t_p_least_cut_between x32 x33 x34).at)))))).any fun x37 => (eas_cons ((ed_var (e := (eP D.int (eT D.int))) (i := 3) (x := x31) rfl)).any fun x38 => (eas_nil (t_same x37 x38).at))))) fun p => ⟨p, rfl, rfl⟩))))))) (fun n20 => (st_qnil (st_setd (edv_call (i := 1) rfl (eav_pure ((ed_int 2)).ew fun x41 => (eav_nil (t_links _ x41).at))) fun p42 => (st_retd1 (edv_of (ed_calls (eas_cons ((ed_call (ea_cons ((ed_var (e := (eT (eT D.int))) (i := 4) (x := p42.1) rfl)).ew fun x43 => (ea_cons ((ed_int 1)).ew fun x44 => (ea_cons ((ed_int 0)).ew fun x45 => (ea_nil (t_p_least_cut_between x43 x44 x45).at)))))).any fun x52 => (eas_cons ((ed_dP (ed_ixT ((ed_ixT ((ed_var (e := (eT (eT D.int))) (i := 4) (x := p42.1) rfl)).ew (ed_int 0))).ew (ed_int 1)) (ed_dT (el_cons (ed_int 1) el_nil)))).any fun x53 => (eas_nil (t_same x52 x53).at))))) fun p => ⟨p, rfl, rfl⟩))))))))))) (by simp only [P_law, eD, obs, Option.bind_assoc]) : ∀ ns : List Int, St (Bd []) false [] ns [none, some (.w (.ref 0)), none, none, none] _ Oc.ret (P_law ns) (fun _ => ([], [])) (fun r => (D.bl r.1, r.2))) ms
end Kx

set_option Elab.async false
set_option linter.all false
set_option maxRecDepth 100000
set_option maxHeartbeats 4000000
set_option autoImplicit false
namespace GM
open PySem L2
/-! ### groups by marks -/
section
variable (mk : Nat → Int)
def fstB (j : Nat) : Bool := (List.range j).all fun i => decide (mk i ≠ mk j)
def occ (n j : Nat) : List Nat := (List.range n).filter fun i => decide (mk i = mk j)
def firsts (n : Nat) : List Nat := (List.range n).filter (fstB mk)
def grpM (n : Nat) : List (List Int) := (firsts mk n).map fun j => (occ mk n j).map fun (i : Nat) => (i : Int)
end
section
variable {mk : Nat → Int}
theorem fstB_iff {j : Nat} : fstB mk j = true ↔ ∀ i, i < j → mk i ≠ mk j := by
  unfold fstB
  rw [List.all_eq_true]
  constructor
  · intro h i hi; exact of_decide_eq_true (h i (List.mem_range.mpr hi))
  · intro h i hi; exact decide_eq_true (h i (List.mem_range.mp hi))
theorem fst_ex : ∀ (i : Nat), ∃ j, j ≤ i ∧ fstB mk j = true ∧ mk j = mk i := by
  intro i
  induction i using Nat.strongRecOn with
  | ind i ih =>
    by_cases h : fstB mk i = true
    · exact ⟨i, Nat.le_refl i, h, rfl⟩
    · have h2 : ∃ k, k < i ∧ mk k = mk i := by
        apply Classical.byContradiction
        intro hn
        exact h (fstB_iff.mpr fun k hk e => hn ⟨k, hk, e⟩)
      obtain ⟨k, hk, e⟩ := h2
      obtain ⟨j, j1, j2, j3⟩ := ih k hk
      exact ⟨j, by omega, j2, j3.trans e⟩
theorem fst_only {i j : Nat} (hi : fstB mk i = true) (hj : fstB mk j = true) (e : mk i = mk j) : i = j := by
  rcases Nat.lt_trichotomy i j with z | z | z
  · exact absurd e (fstB_iff.mp hj i z)
  · exact z
  · exact absurd e.symm (fstB_iff.mp hi j z)
theorem occ_succ {t j : Nat} : occ mk (t + 1) j = if mk t = mk j then occ mk t j ++ [t] else occ mk t j := by
  unfold occ
  rw [List.range_succ, List.filter_append]
  by_cases h : mk t = mk j
  · rw [if_pos h]; simp [h]
  · rw [if_neg h]; simp [h]
theorem firsts_succ {t : Nat} : firsts mk (t + 1) = if fstB mk t = true then firsts mk t ++ [t] else firsts mk t := by
  unfold firsts
  rw [List.range_succ, List.filter_append]
  by_cases h : fstB mk t = true
  · rw [if_pos h]; simp [h]
  · rw [if_neg h]; simp [h]
end
def nws (l : List Nat) : List W := l.map fun (i : Nat) => W.d (.int (i : Int))
def kvG (mk : Nat → Int) (s t : Nat) : List (D × W) := (firsts mk t).map fun j => (.int (mk j), .ref (s + 1 + j))
def clG (mk : Nat → Int) (t : Nat) : Sto := (List.range t).map fun j => .lst (nws (if fstB mk j = true then occ mk t j else []))
theorem dget_kvG {mk : Nat → Int} {s t : Nat} {m : Int} : dget (kvG mk s t) (.int m) = ((firsts mk t).find? fun j => decide (mk j = m)).map fun j => W.ref (s + 1 + j) := by
  unfold dget kvG
  rw [List.find?_map]
  rw [Option.map_map]
  have : ((fun p : D × W => decide (keyD p.1 = keyD (.int m))) ∘ fun j => (D.int (mk j), W.ref (s + 1 + j))) = fun j => decide (mk j = m) := by
    funext j
    simp [keyD]
  rw [this]
  rfl
theorem clG_at {mk : Nat → Int} {t j : Nat} (h : j < t) : (clG mk t)[j]? = some (.lst (nws (if fstB mk j = true then occ mk t j else []))) := by
  unfold clG
  rw [List.getElem?_map, List.getElem?_range h]; rfl
/-- one turn, the mark was met before at j -/
theorem clG_old {mk : Nat → Int} {t j : Nat} (hj : j < t) (h1 : fstB mk j = true) (h2 : mk j = mk t) : (clG mk t ++ [Cell.lst []]).set j (Cell.lst (nws (occ mk t j ++ [t]))) = clG mk (t + 1) := by
  have hn : fstB mk t ≠ true := fun z => absurd h2 (fstB_iff.mp z j hj)
  apply List.ext_getElem?
  intro i
  rw [List.getElem?_set]
  by_cases e : j = i
  · subst e
    rw [if_pos rfl, if_pos (by simp [clG]; omega), clG_at (by omega), if_pos h1, occ_succ, if_pos h2.symm]
  · rw [if_neg e]
    by_cases hi : i < t
    · rw [List.getElem?_append_left (by simpa [clG] using hi), clG_at hi, clG_at (by omega)]
      congr 3
      by_cases hf : fstB mk i = true
      · rw [if_pos hf, if_pos hf, occ_succ, if_neg fun z => e (fst_only h1 hf (h2.trans z))]
      · rw [if_neg hf, if_neg hf]
    · by_cases hi2 : i = t
      · subst hi2
        rw [List.getElem?_append_right (by simp [clG]), clG_at (by omega), if_neg hn]
        simp [clG, nws]
      · rw [List.getElem?_eq_none (by simp [clG]; omega), List.getElem?_eq_none (by simp [clG]; omega)]
/-- .. and for the first time -/
theorem clG_new {mk : Nat → Int} {t : Nat} (h : ∀ j, j < t → mk j ≠ mk t) : clG mk t ++ [Cell.lst (nws [t])] = clG mk (t + 1) := by
  apply List.ext_getElem?
  intro i
  by_cases hi : i < t
  · rw [List.getElem?_append_left (by simpa [clG] using hi), clG_at hi, clG_at (by omega)]
    congr 3
    by_cases hf : fstB mk i = true
    · rw [if_pos hf, if_pos hf, occ_succ, if_neg (Ne.symm (h i hi))]
    · rw [if_neg hf, if_neg hf]
  · by_cases hi2 : i = t
    · subst hi2
      rw [List.getElem?_append_right (by simp [clG]), clG_at (by omega), if_pos (fstB_iff.mpr h)]
      have : occ mk i i = [] := by
        unfold occ
        rw [List.filter_eq_nil_iff]
        intro j hj
        simpa using h j (List.mem_range.mp hj)
      rw [occ_succ, if_pos rfl, this]
      simp [clG]
    · rw [List.getElem?_eq_none (by simp [clG]; omega), List.getElem?_eq_none (by simp [clG]; omega)]
end GM
namespace Kx
open PySem L2 GM
def P_p_grouping_by (marks : List Int) : Option (List (List Int)) := if marks.length ≤ 10000 then some (grpM (fun j => marks.getD j 0) marks.length) else none
theorem occ_len {mk : Nat → Int} {t j : Nat} : (occ mk t j).length ≤ t := by
  unfold occ
  exact Nat.le_trans (List.length_filter_le ..) (by simp)
theorem group_turn (S : Sto) (marks : List Int) (hl : marks.length ≤ 10000) (t : Nat) (ht : t < marks.length) (w0 x2 x3 x4 : Option W) :
    bdrop (mmeth tAppend (mdsetd (mv 1) (mv 3) (thw (primF fLst anil))) (acons (mv 2) anil)) [w0, some (.ref S.length), some (.d (.int (t : Int))), some (.d (.int (marks.getD t 0))), x4] (S ++ (.dct (kvG (fun j => marks.getD j 0) S.length t) :: clG (fun j => marks.getD j 0) t))
      = some (.nx [w0, some (.ref S.length), some (.d (.int (t : Int))), some (.d (.int (marks.getD t 0))), x4] (S ++ (.dct (kvG (fun j => marks.getD j 0) S.length (t + 1)) :: clG (fun j => marks.getD j 0) (t + 1)))) := by
  generalize hmk : (fun j => marks.getD j 0) = mk
  have hm : marks.getD t 0 = mk t := by rw [← hmk]
  rw [hm]
  have d1 : ∀ kv X, dctOf (S ++ (.dct kv :: X)) S.length = some kv := fun kv X => dctOf_eq (by simp)
  have kl : (kvG mk S.length t).length ≤ 1000000 := by
    unfold kvG firsts
    rw [List.length_map]
    have := List.length_filter_le (fstB mk) (List.range t)
    rw [List.length_range] at this
    omega
  have e0 : (S ++ (Cell.dct (kvG mk S.length t) :: clG mk t)) ++ [Cell.lst []] = S ++ (Cell.dct (kvG mk S.length t) :: (clG mk t ++ [Cell.lst []])) := by simp
  have len0 : (S ++ (Cell.dct (kvG mk S.length t) :: clG mk t)).length = S.length + 1 + t := by simp [clG]; omega
  have app : ∀ l : List Nat, l.length ≤ t → tAppend (nws l) [.d (.int (t : Int))] = some (.d .non, nws (l ++ [t])) := fun l h => by
    show (if (nws l).length ≤ 1000000 then _ else none) = _
    rw [if_pos (by unfold nws; rw [List.length_map]; omega)]
    unfold nws
    rw [List.map_append]; rfl
  cases hf : (firsts mk t).find? fun j => decide (mk j = mk t) with
  | some j =>
    have hj := List.find?_some hf
    have hmem := List.mem_of_find?_eq_some hf
    unfold firsts at hmem
    rw [List.mem_filter, List.mem_range] at hmem
    have hj2 : mk j = mk t := by simpa using hj
    have hd : dget (kvG mk S.length t) (.int (mk t)) = some (.ref (S.length + 1 + j)) := by rw [dget_kvG, hf]; rfl
    have nf : ¬ fstB mk t = true := fun z => absurd hj2 (fstB_iff.mp z j hmem.1)
    have kv2 : kvG mk S.length (t + 1) = kvG mk S.length t := by unfold kvG; rw [firsts_succ, if_neg nf]
    have at_ : lstOf (S ++ (Cell.dct (kvG mk S.length t) :: (clG mk t ++ [Cell.lst []]))) (S.length + 1 + j) = some (nws (occ mk t j)) := lstOf_eq (by
      rw [List.getElem?_append_right (by omega), show S.length + 1 + j - S.length = j + 1 by omega, List.getElem?_cons_succ, List.getElem?_append_left (by simpa [clG] using hmem.1), clG_at hmem.1, if_pos hmem.2])
    have st : (S ++ (Cell.dct (kvG mk S.length t) :: (clG mk t ++ [Cell.lst []]))).set (S.length + 1 + j) (.lst (nws (occ mk t j ++ [t]))) = S ++ (Cell.dct (kvG mk S.length (t + 1)) :: clG mk (t + 1)) := by
      rw [List.set_append_right _ _ (by omega), show S.length + 1 + j - S.length = j + 1 by omega, List.set_cons_succ, clG_old hmem.1 hmem.2 hj2, kv2]
    have ms : mdsetd (mv 1) (mv 3) (thw (primF fLst anil)) [w0, some (.ref S.length), some (.d (.int (t : Int))), some (.d (.int (mk t))), x4] (S ++ (.dct (kvG mk S.length t) :: clG mk t)) = some (.ref (S.length + 1 + j), S ++ (Cell.dct (kvG mk S.length t) :: (clG mk t ++ [Cell.lst []]))) := by
      unfold mdsetd
      simp only [mv_ap, List.getElem?_cons_succ, List.getElem?_cons_zero, Option.bind_some, d1, thw_ap, primF_ap, anil_ap, lst_ok1 (show ([] : List W).length ≤ 1000000 by simp), e0, keyD, kl, if_true, hd]
    simp only [bdrop_ap, mmeth_ap, ms, Option.bind_some, at_, acons_ap, anil_ap, mv_ap, List.getElem?_cons_succ, List.getElem?_cons_zero, app _ occ_len, st]
  | none =>
    have hn : ∀ j, j < t → mk j ≠ mk t := fun j hj e => by
      obtain ⟨i, i1, i2, i3⟩ := fst_ex (mk := mk) j
      have := List.find?_eq_none.mp hf i (by unfold firsts; rw [List.mem_filter, List.mem_range]; exact ⟨by omega, i2⟩)
      exact this (by simpa using i3.trans e)
    have hd : dget (kvG mk S.length t) (.int (mk t)) = none := by rw [dget_kvG, hf]; rfl
    have kv2 : kvG mk S.length (t + 1) = kvG mk S.length t ++ [(.int (mk t), .ref (S.length + 1 + t))] := by unfold kvG; rw [firsts_succ, if_pos (fstB_iff.mpr hn), List.map_append]; rfl
    have at_ : lstOf (S ++ (Cell.dct (kvG mk S.length (t + 1)) :: (clG mk t ++ [Cell.lst []]))) (S.length + 1 + t) = some (nws []) := lstOf_eq (by
      rw [List.getElem?_append_right (by omega), show S.length + 1 + t - S.length = t + 1 by omega, List.getElem?_cons_succ, List.getElem?_append_right (by simp [clG])]
      simp [clG, nws])
    have st : (S ++ (Cell.dct (kvG mk S.length (t + 1)) :: (clG mk t ++ [Cell.lst []]))).set (S.length + 1 + t) (.lst (nws ([] ++ [t]))) = S ++ (Cell.dct (kvG mk S.length (t + 1)) :: clG mk (t + 1)) := by
      rw [List.set_append_right _ _ (by omega), show S.length + 1 + t - S.length = t + 1 by omega, List.set_cons_succ, List.set_append_right _ _ (by simp [clG]), ← clG_new hn]
      simp [clG]
    have sd : (S ++ (Cell.dct (kvG mk S.length t) :: (clG mk t ++ [Cell.lst []]))).set S.length (.dct (kvG mk S.length (t + 1))) = S ++ (Cell.dct (kvG mk S.length (t + 1)) :: (clG mk t ++ [Cell.lst []])) := by
      rw [List.set_append_right _ _ (by omega), Nat.sub_self]; rfl
    have ms : mdsetd (mv 1) (mv 3) (thw (primF fLst anil)) [w0, some (.ref S.length), some (.d (.int (t : Int))), some (.d (.int (mk t))), x4] (S ++ (.dct (kvG mk S.length t) :: clG mk t)) = some (.ref (S.length + 1 + t), S ++ (Cell.dct (kvG mk S.length (t + 1)) :: (clG mk t ++ [Cell.lst []]))) := by
      unfold mdsetd
      simp only [mv_ap, List.getElem?_cons_succ, List.getElem?_cons_zero, Option.bind_some, d1, thw_ap, primF_ap, anil_ap, lst_ok1 (show ([] : List W).length ≤ 1000000 by simp), e0, len0, keyD, kl, if_true, hd, ← kv2, sd]
    simp only [bdrop_ap, mmeth_ap, ms, Option.bind_some, at_, acons_ap, anil_ap, mv_ap, List.getElem?_cons_succ, List.getElem?_cons_zero, app [] (Nat.zero_le _), st]
end Kx

set_option Elab.async false
set_option linter.all false
set_option maxRecDepth 100000
set_option maxHeartbeats 4000000
set_option autoImplicit false
namespace GM
open PySem L2
/-! ### joined by links -/
inductive Conn (L : List (Nat × Nat)) : Nat → Nat → Prop
  | refl (i : Nat) : Conn L i i
  | link {a b : Nat} : (a, b) ∈ L → Conn L a b
  | symm {a b : Nat} : Conn L a b → Conn L b a
  | trans {a b c : Nat} : Conn L a b → Conn L b c → Conn L a c
theorem Conn.mono {L L' : List (Nat × Nat)} (h : ∀ p, p ∈ L → p ∈ L') {i j : Nat} (c : Conn L i j) : Conn L' i j := by
  induction c with
  | refl i => exact .refl i
  | link q => exact .link (h _ q)
  | symm _ ih => exact .symm ih
  | trans _ _ i1 i2 => exact .trans i1 i2
theorem Conn.mono' {L L' : List (Nat × Nat)} (h : ∀ a b, (a, b) ∈ L → Conn L' a b) {i j : Nat} (c : Conn L i j) : Conn L' i j := by
  induction c with
  | refl i => exact .refl i
  | link q => exact h _ _ q
  | symm _ ih => exact .symm ih
  | trans _ _ i1 i2 => exact .trans i1 i2
/-- marks tell just what is joined -/
def Tells (L : List (Nat × Nat)) (m : Nat → Int) : Prop := ∀ i j, m i = m j ↔ Conn L i j
theorem tells_nil : Tells [] (fun i => (i : Int)) := fun i j => by
  constructor
  · intro h; have h : (i : Int) = (j : Int) := h
    have : i = j := by omega
    subst this; exact .refl i
  · intro h
    induction h with
    | refl i => rfl
    | link q => simp at q
    | symm _ ih => exact ih.symm
    | trans _ _ i1 i2 => exact i1.trans i2
/-- o gets w, where o and w are the marks of a and b -/
theorem tells_step {L : List (Nat × Nat)} {m : Nat → Int} (h : Tells L m) {a b x y : Nat} (hab : (x = a ∧ y = b) ∨ (x = b ∧ y = a)) : Tells (L ++ [(a, b)]) (fun i => if m i = m x then m y else m i) := fun i j => by
  have up : ∀ {i j}, Conn L i j → Conn (L ++ [(a, b)]) i j := fun c => c.mono fun p q => List.mem_append_left _ q
  have new : Conn (L ++ [(a, b)]) x y := by
    have : Conn (L ++ [(a, b)]) a b := .link (List.mem_append_right _ (by simp))
    rcases hab with ⟨rfl, rfl⟩ | ⟨rfl, rfl⟩
    · exact this
    · exact this.symm
  constructor
  · intro e
    dsimp only at e
    by_cases hi : m i = m x <;> by_cases hj : m j = m x
    · exact up ((h i j).mp (hi.trans hj.symm))
    · rw [if_pos hi, if_neg hj] at e
      exact .trans (up ((h i x).mp hi)) (.trans new (up ((h y j).mp e)))
    · rw [if_neg hi, if_pos hj] at e
      exact .trans (up ((h i y).mp e)) (.trans new.symm (up ((h x j).mp hj.symm)))
    · rw [if_neg hi, if_neg hj] at e
      exact up ((h i j).mp e)
  · intro c
    dsimp only
    have keep : ∀ {i j}, m i = m j → (if m i = m x then m y else m i) = if m j = m x then m y else m j := fun e => by rw [e]
    have hxy : (if m x = m x then m y else m x) = if m y = m x then m y else m y := by rw [if_pos rfl]; split <;> rfl
    induction c with
    | refl i => rfl
    | link q =>
      rcases List.mem_append.mp q with q | q
      · exact keep ((h _ _).mpr (.link q))
      · have q := List.mem_singleton.mp q
        cases q
        rcases hab with ⟨rfl, rfl⟩ | ⟨rfl, rfl⟩
        · exact hxy
        · exact hxy.symm
    | symm _ ih => exact ih.symm
    | trans _ _ i1 i2 => exact i1.trans i2
/-- the marks of the links -/
def lmk (L : List (Nat × Nat)) : Nat → Int := L.foldl (fun m p => fun i => if m i = m p.2 then m p.1 else m i) fun i => (i : Int)
theorem lmk_snoc (L : List (Nat × Nat)) (p : Nat × Nat) : lmk (L ++ [p]) = fun i => if lmk L i = lmk L p.2 then lmk L p.1 else lmk L i := by
  unfold lmk
  rw [List.foldl_append]
  rfl
theorem snoc_ind {α : Type} {P : List α → Prop} (h0 : P []) (hs : ∀ l x, P l → P (l ++ [x])) : ∀ l, P l := fun l => by
  rw [← List.reverse_reverse l]
  induction l.reverse with
  | nil => exact h0
  | cons x r ih => rw [List.reverse_cons]; exact hs _ _ ih
theorem lmk_tells : ∀ L, Tells L (lmk L) := snoc_ind tells_nil fun L p h => by
  rw [lmk_snoc]
  exact tells_step h (.inr ⟨rfl, rfl⟩)
/-- groups say no more than which things have the same mark -/
theorem firsts_congr {m m' : Nat → Int} {n : Nat} (h : ∀ i j, i < n → j < n → (m i = m j ↔ m' i = m' j)) : firsts m n = firsts m' n := by
  unfold firsts
  apply List.filter_congr
  intro j hj
  have hj := List.mem_range.mp hj
  rw [Bool.eq_iff_iff, fstB_iff, fstB_iff]
  exact ⟨fun q i hi e => q i hi ((h i j (by omega) hj).mpr e), fun q i hi e => q i hi ((h i j (by omega) hj).mp e)⟩
theorem grpM_congr {m m' : Nat → Int} {n : Nat} (h : ∀ i j, i < n → j < n → (m i = m j ↔ m' i = m' j)) : grpM m n = grpM m' n := by
  unfold grpM
  rw [firsts_congr h]
  apply List.map_congr_left
  intro j hj
  have hj : j < n := by
    unfold firsts at hj
    exact List.mem_range.mp (List.mem_filter.mp hj).1
  congr 1
  unfold occ
  apply List.filter_congr
  intro i hi
  have hi := List.mem_range.mp hi
  rw [Bool.eq_iff_iff, decide_eq_true_eq, decide_eq_true_eq]
  exact h i j hi hj
theorem tells_grp {L : List (Nat × Nat)} {m m' : Nat → Int} (h : Tells L m) (h' : Tells L m') (n : Nat) : grpM m n = grpM m' n := grpM_congr fun i j _ _ => (h i j).trans (h' i j).symm
def joinG (n : Nat) (L : List (Nat × Nat)) : List (List Int) := grpM (lmk L) n
/-- the near pairs -/
def nearL (n : Nat) (M : Nat → Nat → Int) (d : Int) : List (Nat × Nat) := (prN n).filter fun p => decide (M p.1 p.2 ≤ d)
def nearG (n : Nat) (M : Nat → Nat → Int) (d : Int) : List (List Int) := joinG n (nearL n M d)
theorem nearL_mono {n : Nat} {M M' : Nat → Nat → Int} {d : Int} (h : ∀ a b, a < b → b < n → M' a b ≤ M a b) {i j : Nat} (c : Conn (nearL n M d) i j) : Conn (nearL n M' d) i j := c.mono fun p q => by
  unfold nearL at q ⊢
  rw [List.mem_filter] at q ⊢
  obtain ⟨q1, q2⟩ := q
  obtain ⟨p1, p2⟩ := prN_mem.mp q1
  refine ⟨q1, ?_⟩
  have := h p.1 p.2 p1 p2
  simp only [decide_eq_true_eq] at q2 ⊢
  omega
theorem prI_filter {n : Nat} (p : Int × Int → Bool) (q : Nat × Nat → Bool) (h : ∀ a b : Nat, a < b → b < n → p ((a : Int), (b : Int)) = q (a, b)) : (prI n).filter p = ((prN n).filter q).map fun x => ((x.1 : Int), (x.2 : Int)) := by
  unfold prI
  rw [List.filter_map]
  congr 1
  apply List.filter_congr
  intro x hx
  obtain ⟨h1, h2⟩ := prN_mem.mp hx
  exact h x.1 x.2 h1 h2
/-! ### rows and tables -/
def rowG {α : Type} (n : Nat) (f : Nat → α) : List α := (List.range n).map f
theorem rowG_len {α : Type} (n : Nat) (f : Nat → α) : (rowG n f).length = n := by simp [rowG]
theorem rowG_at {α : Type} {n i : Nat} {f : Nat → α} (h : i < n) : atI (rowG n f) (i : Int) = some (f i) := atI_nat (by unfold rowG; rw [List.getElem?_map, List.getElem?_range h]; rfl)
theorem rowG_map {α β : Type} (n : Nat) (f : Nat → α) (g : α → β) : (rowG n f).map g = rowG n fun i => g (f i) := by unfold rowG; rw [List.map_map]; rfl
theorem tabL_row (n : Nat) (M : Nat → Nat → Int) : tabL n M = rowG n fun a => rowG n (M a) := rfl
theorem tabL_len (n : Nat) (M : Nat → Nat → Int) : (tabL n M).length = n := by simp [tabL]
theorem tabL_at {n a : Nat} {M : Nat → Nat → Int} (h : a < n) : atI (tabL n M) (a : Int) = some (rowG n (M a)) := rowG_at h
theorem rowG_mem {α : Type} {n : Nat} {f : Nat → α} {x : α} : x ∈ rowG n f ↔ ∃ i, i < n ∧ x = f i := by
  unfold rowG
  rw [List.mem_map]
  constructor
  · rintro ⟨i, hi, rfl⟩; exact ⟨i, List.mem_range.mp hi, rfl⟩
  · rintro ⟨i, hi, rfl⟩; exact ⟨i, List.mem_range.mpr hi, rfl⟩
theorem rowG_get {α : Type} {n i : Nat} {f : Nat → α} (h : i < n) : (rowG n f)[i]? = some (f i) := by unfold rowG; rw [List.getElem?_map, List.getElem?_range h]; rfl
theorem rowG_congr {α : Type} {n : Nat} {f g : Nat → α} (h : ∀ i, i < n → f i = g i) : rowG n f = rowG n g := List.map_congr_left fun i hi => h i (List.mem_range.mp hi)
theorem eq_rowG {α : Type} {l : List α} {n : Nat} {f : Nat → α} (hl : l.length = n) (h : ∀ i, i < n → l[i]? = some (f i)) : l = rowG n f := by
  apply List.ext_getElem?
  intro i
  by_cases hi : i < n
  · rw [h i hi, rowG_get hi]
  · rw [List.getElem?_eq_none (by omega), List.getElem?_eq_none (by rw [rowG_len]; omega)]
theorem ixN_lt {n b : Nat} (h : b < n) : ixN n (b : Int) = some b := ixN_nat h
theorem oset_row {α : Type} {n i : Nat} {f : Nat → α} {x : α} (h : i < n) : oset (rowG n f) (i : Int) x = some (rowG n fun j => if j = i then x else f j) := by
  unfold oset
  rw [rowG_len, ixN_nat h]
  show some ((rowG n f).set i x) = _
  congr 1
  refine eq_rowG (by rw [List.length_set, rowG_len]) fun j hj => ?_
  rw [List.getElem?_set]
  by_cases e : i = j
  · subst e; rw [if_pos rfl, if_pos (by rw [rowG_len]; exact h), if_pos rfl]
  · rw [if_neg e, rowG_get hj, if_neg (Ne.symm e)]
/-! groupings are told by small data -/
theorem grp_ok {g : List (List Int)} (h : g.length ≤ 1000000) (h2 : ∀ r ∈ g, r.length ≤ 1000000) : okDB 7 (eT (eT D.int) g) = true := by
  unfold eT
  simp only [okDB, Bool.and_eq_true, decide_eq_true_eq, List.all_eq_true, List.length_map]
  refine ⟨h, fun x hx => ?_⟩
  obtain ⟨r, hr, rfl⟩ := List.mem_map.mp hx
  simp only [okDB, Bool.and_eq_true, decide_eq_true_eq, List.all_eq_true, List.length_map]
  refine ⟨h2 r hr, fun y hy => ?_⟩
  obtain ⟨z, _, rfl⟩ := List.mem_map.mp hy
  rfl
theorem firsts_len (m : Nat → Int) (n : Nat) : (firsts m n).length ≤ n := by
  unfold firsts
  exact Nat.le_trans (List.length_filter_le ..) (by simp)
theorem grpM_ok (m : Nat → Int) (n : Nat) (hn : n ≤ 1000000) : okDB 7 (eT (eT D.int) (grpM m n)) = true := by
  refine grp_ok ?_ fun r hr => ?_
  · unfold grpM
    rw [List.length_map]
    exact Nat.le_trans (firsts_len m n) hn
  · unfold grpM at hr
    obtain ⟨j, _, rfl⟩ := List.mem_map.mp hr
    rw [List.length_map]
    unfold occ
    exact Nat.le_trans (List.length_filter_le ..) (by simpa using hn)
end GM

set_option Elab.async false
set_option linter.all false
set_option maxRecDepth 100000
set_option maxHeartbeats 4000000
set_option autoImplicit false
namespace Kx
open PySem L2 GM
theorem pick_P (ns : List Int) (row : List Int) (h : row ≠ []) : ∃ x ns', P_pick ns row = some (x, ns') ∧ x ∈ row := by
  have hl : 0 < row.length := List.length_pos_iff.mpr h
  obtain ⟨v, ns', e, h1, h2⟩ := take_P ns row.length (by omega)
  obtain ⟨k, rfl⟩ := Int.eq_ofNat_of_zero_le h1
  have hk : k < row.length := by omega
  exact ⟨row[k], ns', by simp only [P_pick, e, Option.bind_some, atI_nat (List.getElem?_eq_getElem hk)], List.getElem_mem hk⟩
theorem prI_T (n i : Nat) : (prT n i).map (fun p => ((p.1 : Int), (p.2 : Int))) ++ ((List.range (n - (i + 1))).map fun (j : Nat) => ((i : Int), ((i + 1 + j : Nat) : Int))) = (prT n (i + 1)).map fun p => ((p.1 : Int), (p.2 : Int)) := by
  rw [prT_succ, List.map_append, List.map_map]; rfl
theorem pairs_P (n : Nat) (hn : n ≤ 100) : P_pairs (n : Int) = some (prI n) := by
  obtain ⟨s, e, q⟩ := ofold_inv (l := zs n) (body := fun (s2 : ((List (Int × Int)))) (x4 : Int) => ((((((orng2 (x4 + (1 : Int)) (n : Int))).bind fun x6 => ocomp x6 (fun (x5 : Int) => some true) (fun (x5 : Int) => (some (x4, x5))))).bind fun x7 => ocat s2 x7)).bind fun x8 => some x8) (fun i s => s = (prT n i).map fun p => ((p.1 : Int), (p.2 : Int))) (fun i s x hx hs => by
    obtain ⟨hi, rfl⟩ := zs_at hx
    subst hs
    have h1 : orng2 ((i : Int) + 1) (n : Int) = some ((List.range (n - (i + 1))).map fun (j : Nat) => ((i + 1 + j : Nat) : Int)) := orng2_nat (a := i + 1) (by omega) (by omega)
    have h2 : ocomp ((List.range (n - (i + 1))).map fun (j : Nat) => ((i + 1 + j : Nat) : Int)) (fun _ => some true) (fun x => some ((i : Int), x)) = some ((List.range (n - (i + 1))).map fun (j : Nat) => ((i : Int), ((i + 1 + j : Nat) : Int))) := by
      rw [ocomp_map (fun x => ((i : Int), x)) (fun x _ => rfl) (by simp; omega), List.map_map]; rfl
    have hl : (prT n i).length ≤ i * n := flat_len n i
    have hl2 : i * n ≤ 100 * 100 := Nat.mul_le_mul (by omega) hn
    refine ⟨_, ?_, rfl⟩
    simp only [h1, Option.bind_some, h2]
    rw [ocat_ok (by rw [List.length_map, List.length_map, List.length_range]; omega)]
    rw [Option.bind_some, prI_T]) (s0 := []) rfl
  subst q
  simp only [P_pairs, orng1_nat (show n ≤ 1000000 by omega), Option.bind_some, e, zs_len]
  rfl
/-! ### joining -/
theorem step_list (n : Nat) (m : Nat → Int) (o w : Int) (f : Int → Option Int) (hf : ∀ x, f x = some (if x = o then w else x)) (hn : n ≤ 1000000) : ocomp (rowG n m) (fun _ => some true) f = some (rowG n fun i => if m i = o then w else m i) := by
  rw [ocomp_map (fun x => if x = o then w else x) (fun x _ => hf x) (by rw [rowG_len]; exact hn), rowG_map]
theorem zs_row (n : Nat) : zs n = rowG n fun (i : Nat) => (i : Int) := rfl
def toI (L : List (Nat × Nat)) : List (Int × Int) := L.map fun p => ((p.1 : Int), (p.2 : Int))
theorem nearL_lt {n : Nat} {M : Nat → Nat → Int} {d : Int} : ∀ p ∈ nearL n M d, p.1 < n ∧ p.2 < n := fun p hp => by
  unfold nearL at hp
  have := prN_mem.mp (List.mem_filter.mp hp).1
  omega
end Kx

set_option Elab.async false
set_option linter.all false
set_option maxRecDepth 100000
set_option maxHeartbeats 4000000
set_option autoImplicit false
namespace Kx
open PySem L2 GM
/-! ### drawn tables and heights -/
def Sc (s : Int) : Prop := 1 ≤ s ∧ s ≤ 10 ^ 40 + 121
theorem scale_P (ns : List Int) : ∃ s ns', P_scale ns = some (s, ns') ∧ Sc s := by
  obtain ⟨v, n1, e, h1, h2⟩ := take_P ns 8 (by omega)
  by_cases hv : v = 0
  · obtain ⟨x, n2, e2, h3⟩ := pick_P n1 [1000003, 10 ^ 15 + 37, 10 ^ 40 + 121] (by simp)
    refine ⟨x, n2, ?_, ?_⟩
    · have p1 : opow 10 15 = some (10 ^ 15) := opow_ok (by omega) (by omega) (by omega)
      have p2 : opow 10 40 = some (10 ^ 40) := opow_ok (by omega) (by omega) (by omega)
      simp only [P_scale, e, Option.bind_some, hv, decide_true, if_true, p1, p2, e2]
    · simp at h3
      unfold Sc
      rcases h3 with rfl | rfl | rfl <;> decide
  · refine ⟨1, n1, ?_, by unfold Sc; decide⟩
    simp only [P_scale, e, Option.bind_some, hv, decide_false]
    rfl
theorem from_pairs_P (n : Nat) (hn : n ≤ 100) (ds : List Int) (h : ds.length = (prN n).length) : P_from_pairs (n : Int) ds = some (tabL n (pm n ds)) := by
  unfold P_from_pairs
  rw [if_pos ⟨by omega, by omega, by rw [Int.toNat_natCast]; exact h⟩, Int.toNat_natCast]
theorem pm_at {n : Nat} {ds : List Int} (h : ds.length = (prN n).length) {i : Nat} {p : Nat × Nat} {v : Int} (hp : (prN n)[i]? = some p) (hv : ds[i]? = some v) : pm n ds p.1 p.2 = v := by
  obtain ⟨h1, h2⟩ := prN_mem.mp (List.mem_of_getElem? hp)
  unfold pm
  rw [if_pos h1]
  have : (prN n).idxOf (p.1, p.2) = i := by
    have e := idx_at ⟨h1, h2⟩
    exact (List.getElem?_inj (List.getElem?_eq_some_iff.mp e).1 (prN_nodup n)).mp (e.trans hp.symm)
  rw [this, List.getD_eq_getElem?_getD, hv]; rfl
theorem pm_all {n : Nat} {ds : List Int} (h : ds.length = (prN n).length) {Q : Nat → Nat → Int → Prop} (hq : ∀ (i : Nat) (p : Nat × Nat) (v : Int), (prN n)[i]? = some p → ds[i]? = some v → Q p.1 p.2 v) {a b : Nat} (hab : a < b) (hb : b < n) : Q a b (pm n ds a b) := by
  obtain ⟨i, hi⟩ := List.getElem?_of_mem (prN_mem.mpr (show (a, b).1 < (a, b).2 ∧ (a, b).2 < n from ⟨hab, hb⟩))
  have hl := (List.getElem?_eq_some_iff.mp hi).1
  have hv := List.getElem?_eq_getElem (show i < ds.length by omega)
  have := hq i (a, b) _ hi hv
  rw [← pm_at h hi hv] at this
  exact this
/-- a table of n things, none below 0 -/
def TabP (f : List Int → Int → Option (List (List Int) × List Int)) (n : Nat) : Prop := ∀ ns, ∃ M ns', f ns (n : Int) = some (tabL n M, ns') ∧ Dist M ∧ NNn n M
end Kx

set_option Elab.async false
set_option linter.all false
set_option maxRecDepth 100000
set_option maxHeartbeats 4000000
set_option autoImplicit false
namespace GM
open PySem L2
/-! ### groupings of some of the things -/
section
variable {n : Nat} {p : Nat → Bool} {m : Nat → Int}
def selN (n : Nat) (p : Nat → Bool) : List Nat := (List.range n).filter p
def selA (n : Nat) (p : Nat → Bool) (i : Nat) : Nat := (selN n p).getD i 0
theorem sel_mem {x : Nat} : x ∈ selN n p ↔ x < n ∧ p x = true := by unfold selN; rw [List.mem_filter, List.mem_range]
theorem sel_lt : (selN n p).Pairwise (· < ·) := List.pairwise_lt_range.filter _
theorem sel_get {i : Nat} (h : i < (selN n p).length) : (selN n p)[i]? = some (selA n p i) := by
  unfold selA
  rw [List.getD_eq_getElem?_getD, List.getElem?_eq_getElem h]; rfl
theorem sel_p {i : Nat} (h : i < (selN n p).length) : selA n p i < n ∧ p (selA n p i) = true := sel_mem.mp (List.mem_of_getElem? (sel_get h))
theorem sel_map : (List.range (selN n p).length).map (selA n p) = selN n p := by
  apply List.ext_getElem?
  intro i
  by_cases h : i < (selN n p).length
  · rw [List.getElem?_map, List.getElem?_range h, sel_get h]; rfl
  · rw [List.getElem?_eq_none (by simp; omega), List.getElem?_eq_none (by omega)]
theorem sel_mono {i j : Nat} (h : i < j) (hj : j < (selN n p).length) : selA n p i < selA n p j := by
  have h1 := sel_get (p := p) (n := n) (i := i) (by omega)
  have h2 := sel_get hj
  obtain ⟨a1, a2⟩ := List.getElem?_eq_some_iff.mp h1
  obtain ⟨b1, b2⟩ := List.getElem?_eq_some_iff.mp h2
  rw [← a2, ← b2]
  exact List.pairwise_iff_getElem.mp sel_lt i j a1 b1 h
theorem sel_ex {x : Nat} (h : x < n) (hp : p x = true) : ∃ i, i < (selN n p).length ∧ selA n p i = x := by
  obtain ⟨i, hi⟩ := List.getElem?_of_mem (sel_mem.mpr ⟨h, hp⟩)
  have hl := (List.getElem?_eq_some_iff.mp hi).1
  refine ⟨i, hl, ?_⟩
  have := sel_get hl
  rw [hi] at this
  exact (Option.some.inj this).symm
theorem sel_lt_iff {i j : Nat} (hi : i < (selN n p).length) (hj : j < (selN n p).length) : selA n p i < selA n p j ↔ i < j := by
  constructor
  · intro h
    rcases Nat.lt_trichotomy i j with z | z | z
    · exact z
    · subst z; omega
    · have := sel_mono z hi; omega
  · intro h; exact sel_mono h hj
theorem sel_inj {i j : Nat} (hi : i < (selN n p).length) (hj : j < (selN n p).length) (h : selA n p i = selA n p j) : i = j := by
  rcases Nat.lt_trichotomy i j with z | z | z
  · have := sel_mono z hj; omega
  · exact z
  · have := sel_mono z hi; omega
theorem firsts_sub (h : ∀ i j, i < n → j < n → m i = m j → p i = true → p j = true) : (firsts m n).filter p = (firsts (fun i => m (selA n p i)) (selN n p).length).map (selA n p) := by
  unfold firsts
  rw [List.filter_filter, show (fun a => p a && fstB m a) = (fun a => fstB m a && p a) from funext fun a => Bool.and_comm .., ← List.filter_filter]
  show (selN n p).filter (fstB m) = _
  rw [← sel_map, List.filter_map]
  congr 1
  rw [sel_map]
  apply List.filter_congr
  intro i hi
  have hi := List.mem_range.mp hi
  obtain ⟨q1, q2⟩ := sel_p hi
  show fstB m (selA n p i) = fstB (fun i => m (selA n p i)) i
  rw [Bool.eq_iff_iff, fstB_iff, fstB_iff]
  constructor
  · intro q j hj
    exact q _ (sel_mono hj hi)
  · intro q x hx e
    obtain ⟨j, hj, rfl⟩ := sel_ex (show x < n by omega) (h _ _ q1 (by omega) e.symm q2)
    exact q j ((sel_lt_iff hj hi).mp hx) e
theorem occ_sub (h : ∀ i j, i < n → j < n → m i = m j → p i = true → p j = true) {j : Nat} (hj : j < (selN n p).length) : occ m n (selA n p j) = (occ (fun i => m (selA n p i)) (selN n p).length j).map (selA n p) := by
  obtain ⟨q1, q2⟩ := sel_p hj
  have e : occ m n (selA n p j) = (selN n p).filter fun i => decide (m i = m (selA n p j)) := by
    unfold occ selN
    rw [List.filter_filter]
    apply List.filter_congr
    intro x hx
    have hx := List.mem_range.mp hx
    by_cases z : m x = m (selA n p j)
    · rw [h _ _ q1 hx z.symm q2, Bool.and_true]
    · rw [decide_eq_false z]; rfl
  rw [e]
  unfold occ
  rw [← sel_map, List.filter_map]
  simp only [sel_map]
  rfl
/-- the groups with first things that p takes: the groups of what p takes -/
theorem grp_sub (h : ∀ i j, i < n → j < n → m i = m j → p i = true → p j = true) : ((firsts m n).filter p).map (fun j => (occ m n j).map fun (i : Nat) => (i : Int)) = (grpM (fun i => m (selA n p i)) (selN n p).length).map fun g => g.map fun i => ((selA n p i.toNat : Nat) : Int) := by
  rw [firsts_sub h]
  unfold grpM
  rw [List.map_map, List.map_map]
  apply List.map_congr_left
  intro j hj
  have hj : j < (selN n p).length := by
    unfold firsts at hj
    exact List.mem_range.mp (List.mem_filter.mp hj).1
  show (occ m n (selA n p j)).map _ = ((occ _ _ j).map _).map _
  rw [occ_sub h hj, List.map_map, List.map_map]
  rfl
/-- links between what p takes -/
theorem conn_sel {L L' : List (Nat × Nat)} (h : ∀ a b, (a, b) ∈ L ↔ ∃ i j, (i, j) ∈ L' ∧ a = selA n p i ∧ b = selA n p j) (h' : ∀ i j, (i, j) ∈ L' → i < (selN n p).length ∧ j < (selN n p).length) :
    (∀ a b, Conn L a b → a = b ∨ ∃ i j, i < (selN n p).length ∧ j < (selN n p).length ∧ a = selA n p i ∧ b = selA n p j ∧ Conn L' i j) ∧ (∀ i j, Conn L' i j → Conn L (selA n p i) (selA n p j)) := by
  refine ⟨fun a b c => ?_, fun i j c => ?_⟩
  · induction c with
    | refl i => exact .inl rfl
    | link q =>
      obtain ⟨i, j, q, e1, e2⟩ := (h _ _).mp q
      exact .inr ⟨i, j, (h' _ _ q).1, (h' _ _ q).2, e1, e2, .link q⟩
    | symm _ ih =>
      rcases ih with ih | ⟨i, j, a, b, c, d, e⟩
      · exact .inl ih.symm
      · exact .inr ⟨j, i, b, a, d, c, e.symm⟩
    | trans _ _ i1 i2 =>
      rcases i1 with rfl | ⟨i, j, a, b, c, d, e⟩
      · exact i2
      · rcases i2 with rfl | ⟨i', j', a', b', c', d', e'⟩
        · exact .inr ⟨i, j, a, b, c, d, e⟩
        · have : j = i' := sel_inj b a' (d.symm.trans c')
          subst this
          exact .inr ⟨i, j', a, b', c, d', e.trans e'⟩
  · induction c with
    | refl i => exact .refl _
    | link q => exact .link ((h _ _).mpr ⟨_, _, q, rfl, rfl⟩)
    | symm _ ih => exact ih.symm
    | trans _ _ i1 i2 => exact i1.trans i2
theorem sel_grp {L L' : List (Nat × Nat)} (h : ∀ a b, (a, b) ∈ L ↔ ∃ i j, (i, j) ∈ L' ∧ a = selA n p i ∧ b = selA n p j) (h' : ∀ i j, (i, j) ∈ L' → i < (selN n p).length ∧ j < (selN n p).length) :
    ((firsts (lmk L) n).filter p).map (fun j => (occ (lmk L) n j).map fun (i : Nat) => (i : Int)) = (joinG (selN n p).length L').map fun g => g.map fun i => ((selA n p i.toNat : Nat) : Int) := by
  obtain ⟨c1, c2⟩ := conn_sel h h'
  rw [grp_sub fun i j hi hj e hp => ?_]
  · unfold joinG
    congr 1
    refine grpM_congr fun i j hi hj => ?_
    rw [lmk_tells L', lmk_tells L]
    constructor
    · intro c
      rcases c1 _ _ c with c | ⟨i', j', a, b, c, d, e⟩
      · rw [sel_inj hi hj c]; exact .refl _
      · rw [sel_inj hi a c, sel_inj hj b d]; exact e
    · exact c2 i j
  · rcases c1 _ _ ((lmk_tells L i j).mp e) with c | ⟨i', j', a, b, c, d, e⟩
    · rw [← c]; exact hp
    · rw [d]; exact (sel_p b).2
end
/-! ### a grouping has each thing once -/
theorem occ_first {m : Nat → Int} {n j : Nat} (hj : j < n) (hf : fstB m j = true) : ∃ r, occ m n j = j :: r := by
  have hm : j ∈ occ m n j := by unfold occ; rw [List.mem_filter, List.mem_range]; exact ⟨hj, by simp⟩
  have hp : (occ m n j).Pairwise (· < ·) := List.pairwise_lt_range.filter _
  cases e : occ m n j with
  | nil => rw [e] at hm; simp at hm
  | cons x r =>
    rw [e] at hm hp
    rcases List.mem_cons.mp hm with h | h
    · exact ⟨r, by rw [h]⟩
    · have := (List.pairwise_cons.mp hp).1 j h
      have hx : x ∈ occ m n j := by rw [e]; exact List.mem_cons_self ..
      unfold occ at hx
      rw [List.mem_filter] at hx
      exact absurd (of_decide_eq_true hx.2) (fstB_iff.mp hf x this)
theorem grp_perm (m : Nat → Int) (n : Nat) : ((firsts m n).flatMap fun j => occ m n j).Perm (List.range n) := by
  refine (List.perm_ext_iff_of_nodup (List.pairwise_flatMap.mpr ⟨fun j _ => List.nodup_range.filter _, ?_⟩) List.nodup_range).mpr fun x => ?_
  · refine List.Pairwise.imp_of_mem ?_ (List.nodup_range.filter (fstB m) : (firsts m n).Nodup)
    intro a b ha hb hab x hx y hy hxy
    subst hxy
    unfold firsts at ha hb
    have hx := List.mem_filter.mp hx
    have hy := List.mem_filter.mp hy
    rw [List.mem_filter] at ha hb
    have e : m a = m b := (of_decide_eq_true hx.2).symm.trans (of_decide_eq_true hy.2)
    rcases Nat.lt_trichotomy a b with z | z | z
    · exact fstB_iff.mp hb.2 a z e
    · exact hab z
    · exact fstB_iff.mp ha.2 b z e.symm
  · rw [List.mem_flatMap, List.mem_range]
    constructor
    · rintro ⟨j, _, hx⟩
      exact List.mem_range.mp (List.mem_filter.mp hx).1
    · intro hx
      obtain ⟨j, j1, j2, j3⟩ := fst_ex (mk := m) x
      refine ⟨j, ?_, ?_⟩
      · unfold firsts; rw [List.mem_filter, List.mem_range]; exact ⟨by omega, j2⟩
      · exact List.mem_filter.mpr ⟨List.mem_range.mpr hx, by rw [j3]; simp⟩
theorem sort_zs {l : List Int} {n : Nat} (h : l.Perm (zs n)) : sortI l = zs n := List.Perm.eq_of_pairwise (le := fun x y => x ≤ y) (fun a b _ _ h1 h2 => by omega) (sortI_sorted l) (by
  unfold zs
  exact List.Pairwise.map _ (fun a b (h : a < b) => by show (a : Int) ≤ (b : Int); omega) List.pairwise_lt_range) ((sortI_perm l).trans h)
/-! ### what may be compared -/
theorem okDB_int (n : Nat) (x : Int) : okDB n (D.int x) = true := by cases n <;> rfl
theorem okDB_bl (n : Nat) (x : Bool) : okDB n (D.bl x) = true := by cases n <;> rfl
theorem okDB_T {α : Type} {n : Nat} {e : α → D} {l : List α} (h : l.length ≤ 1000000) (h2 : ∀ x ∈ l, okDB n (e x) = true) : okDB (n + 1) (eT e l) = true := by
  show (decide ((l.map e).length ≤ 1000000) && (l.map e).all (okDB n)) = true
  rw [Bool.and_eq_true, decide_eq_true_eq, List.length_map, List.all_eq_true]
  refine ⟨h, ?_⟩
  intro x hx
  obtain ⟨y, hy, rfl⟩ := List.mem_map.mp hx
  exact h2 y hy
theorem okDB_L {α : Type} {n : Nat} {e : α → D} {l : List α} (h : l.length ≤ 1000000) (h2 : ∀ x ∈ l, okDB n (e x) = true) : okDB (n + 1) (eL e l) = true := by
  show (decide ((l.map e).length ≤ 1000000) && (l.map e).all (okDB n)) = true
  rw [Bool.and_eq_true, decide_eq_true_eq, List.length_map, List.all_eq_true]
  refine ⟨h, ?_⟩
  intro x hx
  obtain ⟨y, hy, rfl⟩ := List.mem_map.mp hx
  exact h2 y hy
theorem okDB_P {α β : Type} {n : Nat} {e : α → D} {f : β → D} {p : α × β} (h1 : okDB n (e p.1) = true) (h2 : okDB n (f p.2) = true) : okDB (n + 1) (eP e f p) = true := by
  show (decide (2 ≤ 1000000) && [e p.1, f p.2].all (okDB n)) = true
  simp [h1, h2]
theorem okDB_P3 {α β γ : Type} {n : Nat} {e : α → D} {f : β → D} {g : γ → D} {p : α × β × γ} (h1 : okDB n (e p.1) = true) (h2 : okDB n (f p.2.1) = true) (h3 : okDB n (g p.2.2) = true) : okDB (n + 1) (eP3 e f g p) = true := by
  show (decide (3 ≤ 1000000) && [e p.1, f p.2.1, g p.2.2].all (okDB n)) = true
  simp [h1, h2, h3]
/-! ### walks with numbers -/
def nI (l : List Nat) : List Int := l.map fun (i : Nat) => (i : Int)
theorem zs_filter (n : Nat) (P : Int → Bool) : (zs n).filter P = nI ((List.range n).filter fun i => P (i : Int)) := by
  unfold zs nI
  rw [List.filter_map]; rfl
theorem nI_mem {l : List Nat} {x : Int} : x ∈ nI l ↔ ∃ i, i ∈ l ∧ x = (i : Int) := by
  unfold nI
  rw [List.mem_map]
  constructor
  · rintro ⟨i, h, rfl⟩; exact ⟨i, h, rfl⟩
  · rintro ⟨i, h, rfl⟩; exact ⟨i, h, rfl⟩
theorem nI_mem' {l : List Nat} {i : Nat} : (i : Int) ∈ nI l ↔ i ∈ l := by
  rw [nI_mem]
  constructor
  · rintro ⟨j, h, e⟩
    have : i = j := by omega
    subst this; exact h
  · intro h; exact ⟨i, h, rfl⟩
theorem nI_sel (n : Nat) (p : Nat → Bool) : nI (selN n p) = rowG (selN n p).length fun i => ((selA n p i : Nat) : Int) := by
  unfold nI rowG
  conv => lhs; rw [← sel_map, List.map_map]
  rfl
theorem ienum_row {α : Type} (g : List α) (d : α) : ienum g = rowG g.length fun k => ((k : Int), g.getD k d) := by
  apply List.ext_getElem?
  intro i
  unfold ienum rowG
  by_cases h : i < g.length
  · rw [List.getElem?_map, List.getElem?_zipIdx, List.getElem?_map, List.getElem?_range h, List.getElem?_eq_getElem h]
    simp [h]
  · rw [List.getElem?_eq_none (by simp; omega), List.getElem?_eq_none (by simp; omega)]
/-- pairs of numbers below k with what is asked of them -/
theorem pairs_comp {β : Type} (k : Nat) (hk : k ≤ 100) (c1 : Int → Int → Option Bool) (f : Int → Int → Option β) (q : Nat × Nat → Bool) (g : Nat × Nat → β) (h : ∀ i j : Nat, i < j → j < k → c1 (i : Int) (j : Int) = some (q (i, j))) (h2 : ∀ i j : Nat, i < j → j < k → q (i, j) = true → f (i : Int) (j : Int) = some (g (i, j))) :
    ocomp2 (zs k) (fun _ => some true) (fun x => orng2 (x + 1) (k : Int)) c1 f = some (((prN k).filter q).map g) := by
  unfold ocomp2
  rw [ocomp2L_ok (fun x => (((List.range (k - (x.toNat + 1))).map fun j => (x.toNat, x.toNat + 1 + j)).filter q).map g) fun x hx => ⟨rfl, ?_⟩]
  · have e : (zs k).flatMap (fun x => (((List.range (k - (x.toNat + 1))).map fun j => (x.toNat, x.toNat + 1 + j)).filter q).map g) = ((prN k).filter q).map g := by
      unfold zs prN
      rw [List.flatMap_map, List.filter_flatMap, List.map_flatMap]
      rfl
    rw [e]
    exact if_pos (by rw [List.length_map]; have := List.length_filter_le q (prN k); have := prN_small hk; omega)
  · obtain ⟨i, hi, rfl⟩ := zs_mem.mp hx
    have h1 : orng2 ((i : Int) + 1) (k : Int) = some ((List.range (k - (i + 1))).map fun (j : Nat) => ((i + 1 + j : Nat) : Int)) := orng2_nat (a := i + 1) (by omega) (by omega)
    show (orng2 ((i : Int) + 1) (k : Int)).bind _ = _
    rw [h1, Option.bind_some, ocompL_ok (fun y => q (i, y.toNat)) (fun y => g (i, y.toNat)) fun y hy => ?_]
    · rw [List.filter_map, List.map_map, Int.toNat_natCast, List.filter_map, List.map_map]
      rfl
    · obtain ⟨j, hj, rfl⟩ := List.mem_map.mp hy
      have hj := List.mem_range.mp hj
      exact ⟨h i (i + 1 + j) (by omega) (by omega), fun e => h2 i (i + 1 + j) (by omega) (by omega) e⟩
end GM

set_option Elab.async false
set_option linter.all false
set_option maxRecDepth 100000
set_option maxHeartbeats 4000000
set_option autoImplicit false
namespace GM
open PySem L2
theorem min_some {l : List Int} (h : l ≠ []) : l.min? = some (l.min?.getD 0) := by
  cases l with
  | nil => exact absurd rfl h
  | cons a r => rw [List.min?_cons']; rfl
/-! ### tuples of ints in order -/
theorem py_ints (x : List Int) : D.py (eT D.int x) = .tuple (x.map .int) := by
  show D.py (.tup (x.map D.int)) = _
  rw [D.py, pys_map, List.map_map]
  congr 1
theorem leD_ints (x y : List Int) : leD (eT D.int x) (eT D.int y) = decide (x ≤ y) := by
  have h : (!PySem.W.dataLt (.list (y.map .int)) (.list (x.map .int))) = decide (x ≤ y) := congrFun (congrFun (PySem.W.dataLe_rows (fun b : List Int => b)) x) y
  show (!PySem.W.dataLt (D.py (eT D.int y)) (D.py (eT D.int x))) = _
  rw [py_ints, py_ints, ← h, PySem.W.dataLt_tuple, PySem.W.dataLt_list]
theorem okSrt_ints {l : List (List Int)} (h : ∀ x ∈ l, x ≠ []) : okSrt (l.map (eT D.int)) = true := by
  unfold okSrt
  simp only [Bool.and_eq_true, List.all_eq_true, decide_eq_true_eq, List.mem_map]
  refine ⟨⟨?_, ?_⟩, ?_⟩
  · rintro d ⟨x, hx, rfl⟩
    have := h x hx
    cases x with
    | nil => exact absurd rfl this
    | cons a r => rfl
  · rintro d ⟨x, hx, rfl⟩
    rw [py_ints]
    simp [PyData.depth, PySem.W.depth_ints]
  · rintro d ⟨x, hx, rfl⟩ e ⟨y, hy, rfl⟩
    rw [py_ints, py_ints]
    show PySem.W.alikeAll _ _ = true
    exact PySem.W.alike_ints x y
theorem sortE_ints (l : List (List Int)) : (sortE (eT D.int) l).Pairwise (· ≤ ·) := by
  have h := List.pairwise_mergeSort (le := fun x y : List Int => leD (eT D.int x) (eT D.int y)) (fun a b c h1 h2 => ?_) (fun a b => ?_) l
  · exact h.imp fun {a b} h => by rw [leD_ints] at h; exact of_decide_eq_true h
  · rw [leD_ints] at h1 h2 ⊢
    exact decide_eq_true (List.le_trans (of_decide_eq_true h1) (of_decide_eq_true h2))
  · rw [leD_ints, leD_ints]
    rcases List.le_total a b with h | h
    · simp [h]
    · simp [h]
/-- the one list that is sorted -/
theorem sortE_only {l s : List (List Int)} (hp : s.Perm l) (hs : s.Pairwise (· ≤ ·)) : sortE (eT D.int) l = s :=
  List.Perm.eq_of_pairwise (le := fun x y : List Int => x ≤ y) (fun a b _ _ h1 h2 => List.le_antisymm h1 h2) (sortE_ints l) hs ((sortE_perm _ l).trans hp.symm)
theorem grp_pairs (m : Nat → Int) (n : Nat) : (grpM m n).Pairwise (· < ·) := by
  unfold grpM
  rw [List.pairwise_map]
  refine List.Pairwise.imp_of_mem ?_ (List.pairwise_lt_range.filter (fstB m) : (firsts m n).Pairwise (· < ·))
  intro a b ha hb hab
  have ha := List.mem_filter.mp ha
  have hb := List.mem_filter.mp hb
  obtain ⟨r, e1⟩ := occ_first (List.mem_range.mp ha.1) ha.2
  obtain ⟨t, e2⟩ := occ_first (List.mem_range.mp hb.1) hb.2
  rw [e1, e2, List.map_cons, List.map_cons]
  exact List.cons_lt_cons_iff.mpr (.inl (by omega))
theorem grp_sorted (m : Nat → Int) (n : Nat) : (grpM m n).Pairwise (· ≤ ·) := (grp_pairs m n).imp fun h => List.le_of_lt h
theorem grp_nodup (m : Nat → Int) (n : Nat) : (grpM m n).Nodup := (grp_pairs m n).imp fun {a b} h e => by
  subst e
  exact List.lt_irrefl a h
theorem occ_of {m : Nat → Int} {n i j : Nat} (h : m i = m j) : occ m n i = occ m n j := by unfold occ; rw [h]
theorem grp_mem {m : Nat → Int} {n : Nat} {g : List Int} : g ∈ grpM m n ↔ ∃ i, i < n ∧ g = nI (occ m n i) := by
  unfold grpM
  rw [List.mem_map]
  constructor
  · rintro ⟨j, hj, rfl⟩
    exact ⟨j, List.mem_range.mp (List.mem_filter.mp hj).1, rfl⟩
  · rintro ⟨i, hi, rfl⟩
    obtain ⟨j, j1, j2, j3⟩ := fst_ex (mk := m) i
    refine ⟨j, List.mem_filter.mpr ⟨List.mem_range.mpr (by omega), j2⟩, ?_⟩
    rw [occ_of j3]; rfl
theorem occ_in {m : Nat → Int} {n i x : Nat} : x ∈ occ m n i ↔ x < n ∧ m x = m i := by
  unfold occ
  rw [List.mem_filter, List.mem_range, decide_eq_true_eq]
theorem nI_inj {l k : List Nat} (h : nI l = nI k) : l = k := by
  have : (nI l).map Int.toNat = (nI k).map Int.toNat := by rw [h]
  unfold nI at this
  rw [List.map_map, List.map_map] at this
  have e : (Int.toNat ∘ fun (i : Nat) => (i : Int)) = id := by funext i; simp
  rwa [e, List.map_id, List.map_id] at this
theorem nI_sorted {l : List Nat} (h : l.Pairwise (· < ·)) : (nI l).Pairwise (· ≤ ·) := by
  unfold nI
  exact List.Pairwise.map _ (fun a b (h : a < b) => by show (a : Int) ≤ (b : Int); omega) h
/-- the groups that p takes, all their things -/
theorem grp_filter_perm {m : Nat → Int} {n : Nat} {p : Nat → Bool} (h : ∀ i j, i < n → j < n → m i = m j → p i = p j) : (((firsts m n).filter p).flatMap fun j => occ m n j).Perm ((List.range n).filter p) := by
  have h1 := (grp_perm m n).filter p
  rw [List.filter_flatMap] at h1
  have e : ∀ l : List Nat, (∀ j ∈ l, j < n) → (l.flatMap fun j => (occ m n j).filter p) = (l.filter p).flatMap fun j => occ m n j := fun l => by
    induction l with
    | nil => intro _; rfl
    | cons x r ih =>
      intro hl
      have hx := hl x (List.mem_cons_self ..)
      have ih := ih fun j hj => hl j (List.mem_cons_of_mem _ hj)
      rw [List.flatMap_cons, ih]
      by_cases c : p x = true
      · rw [List.filter_cons_of_pos c, List.flatMap_cons, List.filter_eq_self.mpr fun y hy => ?_]
        obtain ⟨y1, y2⟩ := occ_in.mp hy
        rw [h y x y1 hx y2]; exact c
      · rw [List.filter_cons_of_neg c, List.filter_eq_nil_iff.mpr fun y hy => ?_]
        · rfl
        · obtain ⟨y1, y2⟩ := occ_in.mp hy
          rw [h y x y1 hx y2]; exact c
  rwa [e (firsts m n) fun j hj => List.mem_range.mp (List.mem_filter.mp hj).1] at h1
end GM

set_option Elab.async false
set_option linter.all false
set_option maxRecDepth 100000
set_option maxHeartbeats 4000000
set_option autoImplicit false
namespace GM
open PySem L2
theorem cutW_len {α : Type} (l : List α) (a b : Option Int) : (cutW l a b).length ≤ l.length := by
  unfold cutW
  rw [List.length_take, List.length_drop]
  omega
theorem cut_tail {α : Type} (x : α) (r : List α) : cutW (x :: r) (some 1) none = r := by
  unfold cutW
  rw [show HT.sIx (x :: r).length 0 (some (1 : Int)) = min 1 (x :: r).length from HT.sIx_nat (x :: r).length 0 1]
  show ((x :: r).drop (min 1 (r.length + 1))).take ((r.length + 1) - min 1 (r.length + 1)) = r
  rw [show min 1 (r.length + 1) = 1 by omega]
  show r.take (r.length + 1 - 1) = r
  rw [List.take_of_length_le (by omega)]
/-! ### sets as masks below 1024 -/
def bits (m : Nat) : List Nat := (List.range 12).filter fun i => m.testBit i
def msk (l : List Nat) : Nat := l.foldr (fun i m => 2 ^ i + m) 0
/-- the sum over the pairs of a list -/
def pairS (M : Nat → Nat → Int) : List Nat → Int
  | [] => 0
  | a :: r => pairS M r + (r.map fun b => M a b).sum
theorem pairS_snoc {M : Nat → Nat → Int} (hM : ∀ a b, M a b = M b a) : ∀ (l : List Nat) (t : Nat), pairS M (l ++ [t]) = pairS M l + (l.map fun b => M t b).sum
  | [], t => rfl
  | a :: r, t => by
    show pairS M (r ++ [t]) + ((r ++ [t]).map fun b => M a b).sum = pairS M r + (r.map fun b => M a b).sum + ((a :: r).map fun b => M t b).sum
    rw [pairS_snoc hM r t, List.map_append, List.sum_append, List.map_cons, List.map_nil, List.sum_cons, List.sum_nil, List.map_cons, List.sum_cons, hM a t]
    omega
/-- ascending lists -/
def Asc (l : List Nat) : Prop := l.Pairwise (· < ·)
def setsP : List Nat → List (List Nat)
  | [] => [[]]
  | t :: r => [[]] ++ (setsP r).map (fun m => t :: m) ++ (setsP r).tail
theorem setsP_head : ∀ l, ∃ r, setsP l = [] :: r
  | [] => ⟨[], rfl⟩
  | t :: r => ⟨_, rfl⟩
theorem setsP_mem : ∀ {l : List Nat}, Asc l → ∀ x, x ∈ setsP l ↔ Asc x ∧ ∀ y ∈ x, y ∈ l
  | [], _, x => by
    show x ∈ [[]] ↔ _
    rw [List.mem_singleton]
    constructor
    · rintro rfl; exact ⟨List.Pairwise.nil, by simp⟩
    · rintro ⟨_, h⟩
      exact List.eq_nil_iff_forall_not_mem.mpr fun y hy => by have := h y hy; simp at this
  | t :: r, ha, x => by
    obtain ⟨h1, h2⟩ := List.pairwise_cons.mp ha
    have ih := setsP_mem h2
    obtain ⟨s, hs⟩ := setsP_head r
    show x ∈ [[]] ++ (setsP r).map (fun m => t :: m) ++ (setsP r).tail ↔ _
    rw [List.mem_append, List.mem_append, List.mem_singleton, List.mem_map]
    have htail : ∀ x, x ∈ (setsP r).tail → x ∈ setsP r := fun x hx => List.mem_of_mem_tail hx
    have htail2 : x ≠ [] → x ∈ setsP r → x ∈ (setsP r).tail := fun h0 hx => by
      rw [hs] at hx ⊢
      rcases List.mem_cons.mp hx with e | e
      · exact absurd e h0
      · exact e
    constructor
    · rintro ((rfl | ⟨m, hm, rfl⟩) | hx)
      · exact ⟨List.Pairwise.nil, by simp⟩
      · obtain ⟨a1, a2⟩ := (ih m).mp hm
        exact ⟨List.pairwise_cons.mpr ⟨fun y hy => h1 y (a2 y hy), a1⟩, fun y hy => (List.mem_cons.mp hy).elim (fun e => by rw [e]; exact List.mem_cons_self ..) fun e => List.mem_cons_of_mem _ (a2 y e)⟩
      · obtain ⟨a1, a2⟩ := (ih x).mp (htail x hx)
        exact ⟨a1, fun y hy => List.mem_cons_of_mem _ (a2 y hy)⟩
    · rintro ⟨a1, a2⟩
      cases x with
      | nil => exact .inl (.inl rfl)
      | cons y m =>
        obtain ⟨b1, b2⟩ := List.pairwise_cons.mp a1
        rcases List.mem_cons.mp (a2 y (List.mem_cons_self ..)) with e | e
        · refine .inl (.inr ⟨m, (ih m).mpr ⟨b2, fun z hz => ?_⟩, by rw [e]⟩)
          rcases List.mem_cons.mp (a2 z (List.mem_cons_of_mem _ hz)) with w | w
          · have := b1 z hz; omega
          · exact w
        · refine .inr (htail2 (by simp) ((ih _).mpr ⟨a1, fun z hz => ?_⟩))
          rcases List.mem_cons.mp (a2 z hz) with w | w
          · rcases List.mem_cons.mp hz with v | v
            · rw [v]; exact e
            · have := b1 z v
              have := h1 y e
              omega
          · exact w
def setsL : Nat → List (List Nat)
  | 0 => [[]]
  | n + 1 => setsL n ++ (setsL n).map fun m => m ++ [n]
theorem setsL_head : ∀ n, ∃ r, setsL n = [] :: r
  | 0 => ⟨[], rfl⟩
  | n + 1 => by
    obtain ⟨r, e⟩ := setsL_head n
    show ∃ r, setsL n ++ _ = _
    rw [e]; exact ⟨_, rfl⟩
theorem setsP_short : ∀ (l : List Nat), ∀ x ∈ setsP l, x.length ≤ l.length
  | [], x, h => by rw [List.mem_singleton.mp h]; exact Nat.le_refl _
  | t :: r, x, h => by
    have ih := setsP_short r
    rcases List.mem_append.mp (show x ∈ [[]] ++ (setsP r).map (fun m => t :: m) ++ (setsP r).tail from h) with h | h
    · rcases List.mem_append.mp h with h | h
      · rw [List.mem_singleton.mp h]; exact Nat.zero_le _
      · obtain ⟨m, hm, rfl⟩ := List.mem_map.mp h
        have := ih m hm
        rw [List.length_cons, List.length_cons]; omega
    · have := ih x (List.mem_of_mem_tail h)
      rw [List.length_cons]; omega
theorem setsL_len : ∀ n, (setsL n).length = 2 ^ n
  | 0 => rfl
  | n + 1 => by
    show (setsL n ++ _).length = _
    rw [List.length_append, List.length_map, setsL_len n, Nat.pow_succ]; omega
theorem setsP_len : ∀ l : List Nat, (setsP l).length ≤ 2 ^ l.length
  | [] => Nat.le_refl _
  | t :: r => by
    obtain ⟨s, hs⟩ := setsP_head r
    have ih := setsP_len r
    show ([[]] ++ (setsP r).map (fun m => t :: m) ++ (setsP r).tail).length ≤ _
    have e : (t :: r).length = r.length + 1 := rfl
    rw [e, Nat.pow_succ, List.length_append, List.length_append, List.length_map, List.length_tail]
    rw [hs] at ih ⊢
    simp only [List.length_cons, List.length_nil] at ih ⊢
    omega
theorem setsL_mem : ∀ (n : Nat) (x : List Nat), x ∈ setsL n ↔ Asc x ∧ ∀ y ∈ x, y < n
  | 0, x => by
    show x ∈ [[]] ↔ _
    rw [List.mem_singleton]
    constructor
    · rintro rfl; exact ⟨List.Pairwise.nil, by simp⟩
    · rintro ⟨_, h⟩
      exact List.eq_nil_iff_forall_not_mem.mpr fun y hy => by have := h y hy; omega
  | n + 1, x => by
    have ih := setsL_mem n
    show x ∈ setsL n ++ (setsL n).map (fun m => m ++ [n]) ↔ _
    rw [List.mem_append, List.mem_map]
    constructor
    · rintro (hx | ⟨m, hm, rfl⟩)
      · obtain ⟨a1, a2⟩ := (ih x).mp hx
        exact ⟨a1, fun y hy => by have := a2 y hy; omega⟩
      · obtain ⟨a1, a2⟩ := (ih m).mp hm
        refine ⟨List.pairwise_append.mpr ⟨a1, by simp, fun a ha b hb => by rw [List.mem_singleton.mp hb]; exact a2 a ha⟩, fun y hy => ?_⟩
        rcases List.mem_append.mp hy with e | e
        · have := a2 y e; omega
        · rw [List.mem_singleton.mp e]; omega
    · rintro ⟨a1, a2⟩
      by_cases hn : n ∈ x
      · have hne : x ≠ [] := List.ne_nil_of_mem hn
        obtain ⟨m, d, e⟩ : ∃ m d, x = m ++ [d] := ⟨_, _, (List.dropLast_concat_getLast hne).symm⟩
        subst e
        obtain ⟨p1, p2, p3⟩ := List.pairwise_append.mp a1
        have hd : d = n := by
          rcases List.mem_append.mp hn with w | w
          · have h1 := p3 n w d (by simp)
            have h2 := a2 d (by simp)
            omega
          · exact (List.mem_singleton.mp w).symm
        subst hd
        exact .inr ⟨m, (ih m).mpr ⟨p1, fun y hy => p3 y hy d (by simp)⟩, rfl⟩
      · exact .inl ((ih x).mpr ⟨a1, fun y hy => by
          have := a2 y hy
          have : y ≠ n := fun e => hn (by rw [← e]; exact hy)
          omega⟩)
theorem range_asc (n : Nat) : Asc (List.range n) := List.pairwise_lt_range
/-- each set of numbers below 10 is a mask -/
theorem all_msk : ∀ x ∈ setsL 10, bits (msk x) = x ∧ msk x < 1024 := by
  have h : ((setsL 10).all fun x => decide (bits (msk x) = x ∧ msk x < 1024)) = true := by decide +kernel
  intro x hx
  exact of_decide_eq_true (List.all_eq_true.mp h x hx)
theorem msk_bound : ∀ n : Fin 11, ∀ m : Fin 1024, (bits m.val).all (fun y => decide (y < n.val)) = true → m.val < 2 ^ n.val := by decide +kernel
theorem bits_bound : ∀ n : Fin 11, ∀ m : Fin 1024, m.val < 2 ^ n.val → (bits m.val).all (fun y => decide (y < n.val)) = true := by decide +kernel
theorem set_mask {n : Nat} (hn : n ≤ 10) {x : List Nat} (ha : Asc x) (hx : ∀ y ∈ x, y < n) : ∃ m, m < 2 ^ n ∧ m < 1024 ∧ bits m = x := by
  obtain ⟨h1, h2⟩ := all_msk x ((setsL_mem 10 x).mpr ⟨ha, fun y hy => by have := hx y hy; omega⟩)
  refine ⟨msk x, ?_, h2, h1⟩
  refine msk_bound ⟨n, by omega⟩ ⟨msk x, h2⟩ ?_
  rw [List.all_eq_true]
  intro y hy
  dsimp only at hy
  rw [h1] at hy
  simpa using hx y hy
theorem bits_lt {n m : Nat} (hn : n ≤ 10) (hm : m < 2 ^ n) (h : m < 1024) : ∀ y ∈ bits m, y < n := fun y hy => by
  have := bits_bound ⟨n, by omega⟩ ⟨m, h⟩ hm
  simpa using List.all_eq_true.mp this y hy
theorem pow_1024 {n : Nat} (hn : n ≤ 10) : 2 ^ n ≤ 1024 := Nat.pow_le_pow_right (by omega) (by omega : n ≤ 10)
/-- lowest and highest thing -/
theorem low_bits : ∀ m : Fin 1024, 0 < m.val → bits m.val = ((Builtin.Int.intBits (Builtin.bitAnd (m.val : Int) (-(m.val : Int))) : Int) - 1).toNat :: bits (Builtin.bitAnd (m.val : Int) ((m.val : Int) - 1)).toNat ∧ 0 ≤ (Builtin.Int.intBits (Builtin.bitAnd (m.val : Int) (-(m.val : Int))) : Int) - 1 ∧ 0 ≤ Builtin.bitAnd (m.val : Int) ((m.val : Int) - 1) ∧ Builtin.bitAnd (m.val : Int) ((m.val : Int) - 1) < (m.val : Int) := by decide +kernel
theorem top_bits : ∀ m : Fin 1024, 0 < m.val → bits m.val = bits (Builtin.bitXor (m.val : Int) (1 * 2 ^ ((Builtin.Int.intBits (m.val : Int) : Int) - 1).toNat)).toNat ++ [((Builtin.Int.intBits (m.val : Int) : Int) - 1).toNat] ∧ 0 ≤ (Builtin.Int.intBits (m.val : Int) : Int) - 1 ∧ (Builtin.Int.intBits (m.val : Int) : Int) - 1 ≤ 100 ∧ 0 ≤ Builtin.bitXor (m.val : Int) (1 * 2 ^ ((Builtin.Int.intBits (m.val : Int) : Int) - 1).toNat) ∧ Builtin.bitXor (m.val : Int) (1 * 2 ^ ((Builtin.Int.intBits (m.val : Int) : Int) - 1).toNat) < (m.val : Int) := by decide +kernel
end GM
namespace Kx
open PySem L2 GM
theorem p_things_all : ∀ m : Fin 1024, P_p_things_of (m.val : Int) = some (nI (bits m.val)) := by decide +kernel
theorem things_all : ∀ m : Fin 1024, P_things (m.val : Int) = some (nI (bits m.val)) := by decide +kernel
theorem p_mask_all : ∀ m : Fin 1024, P_p_mask_of (nI (bits m.val)) = some (m.val : Int) := by decide +kernel
theorem mask_all : ∀ m : Fin 1024, P_mask (nI (bits m.val)) = some (m.val : Int) := by decide +kernel
end Kx

set_option Elab.async false
set_option linter.all false
set_option maxRecDepth 100000
set_option maxHeartbeats 4000000
set_option autoImplicit false
namespace GM
open PySem L2
/-! ### the least of pairs (weight, things) -/
def kk (z : Int × List Int) : List Int := z.1 :: z.2
theorem kk_inj {z z' : Int × List Int} (h : kk z = kk z') : z = z' := by
  obtain ⟨a, b⟩ := z
  obtain ⟨c, d⟩ := z'
  unfold kk at h
  injection h with h1 h2
  dsimp only at h1 h2
  rw [h1, h2]
theorem ltD_kk (z z' : Int × List Int) : ltD (eP D.int (eT D.int) z) (eP D.int (eT D.int) z') = decide (kk z < kk z') := by
  obtain ⟨w, x⟩ := z
  obtain ⟨w', x'⟩ := z'
  have hp : ∀ (w : Int) (x : List Int), D.py (eP D.int (eT D.int) (w, x)) = .tuple [.int w, .tuple (x.map .int)] := fun w x => by
    show D.py (.tup [.int w, eT D.int x]) = _
    rw [D.py, D.pys, D.pys, D.pys, py_ints, D.py]
  unfold ltD
  rw [hp, hp, PySem.W.dataLt_pair (by rfl) (by exact PySem.W.alike_ints x x'), PySem.W.dataLt_int]
  have e2 : PySem.W.dataLt (.tuple (x.map .int)) (.tuple (x'.map .int)) = decide (x < x') := by
    rw [PySem.W.dataLt_tuple]; exact PySem.W.dataLt_ints x x'
  rw [e2]
  have e1 : PyData.eqv (.int w) (.int w') = decide (w = w') := by
    simp only [PyData.eqv]
    by_cases h : w = w' <;> simp [h]
  rw [e1]
  by_cases h : w = w'
  · subst h
    rw [decide_eq_true rfl, if_pos rfl]
    have e3 : decide (kk (w, x) < kk (w, x')) = decide (x < x') := decide_eq_decide.mpr (by
      unfold kk
      rw [List.cons_lt_cons_iff]
      exact ⟨fun z => z.elim (fun z => absurd z (Int.lt_irrefl _)) fun z => z.2, fun z => .inr ⟨rfl, z⟩⟩)
    rw [e3]
    split
    · rename_i he
      have hx : x = x' := ((eqok_T eqok_int).inj x x').mp (by unfold eqD; rw [py_ints, py_ints]; exact he)
      subst hx
      exact (decide_eq_false (List.lt_irrefl _)).symm
    · rfl
  · rw [decide_eq_false h, if_neg (by simp)]
    exact decide_eq_decide.mpr (by
      unfold kk
      rw [List.cons_lt_cons_iff]
      exact ⟨fun z => .inl z, fun z => z.elim (fun z => z) fun z => absurd z.1 h⟩)
theorem min_fold : ∀ (r : List (Int × List Int)) (a : Int × List Int), (r.foldl (fun b y => if ltD (eP D.int (eT D.int) y) (eP D.int (eT D.int) b) = true then y else b) a) ∈ a :: r ∧ ∀ z ∈ a :: r, kk (r.foldl (fun b y => if ltD (eP D.int (eT D.int) y) (eP D.int (eT D.int) b) = true then y else b) a) ≤ kk z
  | [], a => ⟨by simp, fun z hz => by rw [List.mem_singleton.mp hz]; exact List.le_refl _⟩
  | y :: r, a => by
    rw [List.foldl_cons, ltD_kk]
    by_cases h : kk y < kk a
    · rw [if_pos (decide_eq_true h)]
      obtain ⟨h1, h2⟩ := min_fold r y
      refine ⟨List.mem_cons_of_mem _ h1, fun z hz => ?_⟩
      rcases List.mem_cons.mp hz with e | e
      · rw [e]; exact List.le_trans (h2 y (List.mem_cons_self ..)) (List.le_of_lt h)
      · exact h2 z e
    · rw [if_neg (by simpa using h)]
      obtain ⟨h1, h2⟩ := min_fold r a
      refine ⟨?_, fun z hz => ?_⟩
      · rcases List.mem_cons.mp h1 with e | e
        · exact List.mem_cons.mpr (.inl e)
        · exact List.mem_cons_of_mem _ (List.mem_cons_of_mem _ e)
      · rcases List.mem_cons.mp hz with e | e
        · rw [e]; exact h2 a (List.mem_cons_self ..)
        · rcases List.mem_cons.mp e with e | e
          · rw [e]; exact List.le_trans (h2 a (List.mem_cons_self ..)) (List.not_lt.mp h)
          · exact h2 z (List.mem_cons_of_mem _ e)
theorem okSrt_W (l : List (Int × List Int)) : okSrt (l.map (eP D.int (eT D.int))) = true ∧ (l.map (eP D.int (eT D.int))).all (plT 12) = true := by
  have hp : ∀ z : Int × List Int, D.py (eP D.int (eT D.int) z) = .tuple [.int z.1, .tuple (z.2.map .int)] := fun z => by
    show D.py (.tup [.int z.1, eT D.int z.2]) = _
    rw [D.py, D.pys, D.pys, D.pys, py_ints, D.py]
  constructor
  · unfold okSrt
    simp only [Bool.and_eq_true, List.all_eq_true, decide_eq_true_eq, List.mem_map]
    refine ⟨⟨?_, ?_⟩, ?_⟩
    · rintro d ⟨z, hz, rfl⟩; rfl
    · rintro d ⟨z, hz, rfl⟩
      rw [hp]
      simp [PyData.depth, PyData.depthAll, PySem.W.depth_ints]
    · rintro d ⟨z, hz, rfl⟩ e ⟨z', hz', rfl⟩
      rw [hp, hp]
      show PySem.W.alikeAll _ _ = true
      have h1 : PySem.W.alike (.tuple (z.2.map .int)) (.tuple (z'.2.map .int)) = true := PySem.W.alike_ints _ _
      simp only [PySem.W.alikeAll, PySem.W.alike, Bool.true_and, Bool.and_true] at h1 ⊢
      exact h1
  · rw [List.all_eq_true]
    intro d hd
    obtain ⟨z, hz, rfl⟩ := List.mem_map.mp hd
    show ([D.int z.1, eT D.int z.2].all (plT 11)) = true
    simp only [List.all_cons, List.all_nil, Bool.and_true, Bool.and_eq_true]
    refine ⟨rfl, ?_⟩
    show ((z.2.map D.int).all (plT 10)) = true
    rw [List.all_map, List.all_eq_true]
    intro x _
    rfl
theorem minE_W {l : List (Int × List Int)} (h : l ≠ []) : ∃ r, minE (eP D.int (eT D.int)) l = some r ∧ r ∈ l ∧ ∀ z ∈ l, kk r ≤ kk z := by
  cases l with
  | nil => exact absurd rfl h
  | cons a r =>
    obtain ⟨h1, h2⟩ := min_fold r a
    exact ⟨_, if_pos (okSrt_W (a :: r)), h1, h2⟩
theorem ofold_app {σ α : Type} (body : σ → α → Option σ) : ∀ (l1 l2 : List α) (s : σ), ofold body (l1 ++ l2) s = (ofold body l1 s).bind fun s' => ofold body l2 s'
  | [], l2, s => rfl
  | x :: r, l2, s => by
    show (body s x).bind (fun s' => ofold body (r ++ l2) s') = ((body s x).bind fun s' => ofold body r s').bind _
    cases body s x with
    | none => rfl
    | some s' => exact ofold_app body r l2 s'
theorem rep0 (k : Nat) (hk : k ≤ 1000000) : orep [(0 : Int)] (k : Int) = some (rowG k fun _ => 0) := by
  unfold orep
  rw [if_pos ⟨by omega, by simp; omega⟩]
  congr 1
  rw [Int.toNat_natCast]
  unfold rowG
  have : ∀ k : Nat, (List.replicate k [(0 : Int)]).flatten = List.replicate k 0 := fun k => by
    induction k with
    | zero => rfl
    | succ k ih => rw [List.replicate_succ, List.flatten_cons, ih]; rfl
  rw [this, List.map_const', List.length_range]
theorem rng1 (k : Nat) (hk : k ≤ 1000000) : orng2 (1 : Int) (k : Int) = some ((List.range (k - 1)).map fun (i : Nat) => ((1 + i : Nat) : Int)) := orng2_nat (a := 1) (by omega) hk
/-- a list filled mask by mask -/
theorem fill_rows {V : Nat → Int} (k : Nat) (h0 : V 0 = 0) (body : List Int → Int → Option (List Int)) (hb : ∀ m, 0 < m → m < k → ∀ W : Nat → Int, (∀ r, r < m → W r = V r) → body (rowG k W) (m : Int) = some (rowG k fun j => if j = m then V m else W j)) :
    ofold body ((List.range (k - 1)).map fun (i : Nat) => ((1 + i : Nat) : Int)) (rowG k fun _ => 0) = some (rowG k V) := by
  obtain ⟨s, e, q⟩ := ofold_inv (body := body) (l := (List.range (k - 1)).map fun (i : Nat) => ((1 + i : Nat) : Int)) (fun i s => s = rowG k fun j => if j < i + 1 then V j else 0) (fun i s x hx hs => by
    rw [List.getElem?_map] at hx
    obtain ⟨j, hj, rfl⟩ := Option.map_eq_some_iff.mp hx
    have hi : i < k - 1 := by have := (List.getElem?_eq_some_iff.mp hj).1; simpa using this
    rw [List.getElem?_range hi] at hj
    cases hj
    subst hs
    refine ⟨_, hb (1 + i) (by omega) (by omega) _ fun r hr => if_pos (by omega), ?_⟩
    refine rowG_congr fun j _ => ?_
    by_cases z : j = 1 + i
    · rw [if_pos z, if_pos (by omega), z]
    · rw [if_neg z]
      by_cases w : j < i + 1
      · rw [if_pos w, if_pos (by omega)]
      · rw [if_neg w, if_neg (by omega)]) (s0 := rowG k fun _ => 0) (rowG_congr fun j _ => by
      by_cases z : j < 0 + 1
      · rw [if_pos z, show j = 0 by omega, h0]
      · rw [if_neg z])
  rw [e, q, List.length_map, List.length_range]
  congr 1
  exact rowG_congr fun j hj => if_pos (by omega)
def wt (n : Nat) (M : Nat → Nat → Int) (m : Nat) : Int := ((bits m).map fun a => (rowG n (M a)).sum).sum - 2 * pairS M (bits m)
theorem sum_nI (l : List Nat) (f : Nat → Int) : ((nI l).map fun x => f x.toNat).sum = (l.map f).sum := by
  unfold nI
  rw [List.map_map]
  rfl
end GM
namespace GM
open PySem L2
/-! ### sums over a set and its rest -/
def sumR (n : Nat) (f : Nat → Int) : Int := ((List.range n).map f).sum
theorem sumR_succ (n : Nat) (f : Nat → Int) : sumR (n + 1) f = sumR n f + f n := by
  unfold sumR
  rw [List.range_succ, List.map_append, List.sum_append]
  simp
theorem sumR_add (n : Nat) (f g : Nat → Int) : sumR n (fun i => f i + g i) = sumR n f + sumR n g := by
  induction n with
  | zero => rfl
  | succ n ih => rw [sumR_succ, sumR_succ, sumR_succ, ih]; omega
theorem sumR_congr {n : Nat} {f g : Nat → Int} (h : ∀ i, i < n → f i = g i) : sumR n f = sumR n g := by
  unfold sumR
  rw [List.map_congr_left fun i hi => h i (List.mem_range.mp hi)]
theorem sum_filter {α : Type} (p : α → Bool) (f : α → Int) : ∀ l : List α, ((l.filter p).map f).sum = (l.map fun x => if p x = true then f x else 0).sum
  | [] => rfl
  | x :: r => by
    by_cases h : p x = true
    · rw [List.filter_cons_of_pos h, List.map_cons, List.map_cons, List.sum_cons, List.sum_cons, sum_filter p f r, if_pos h]
    · rw [List.filter_cons_of_neg h, List.map_cons, List.sum_cons, sum_filter p f r, if_neg h]; omega
theorem sum_perm {l l' : List Int} (h : l.Perm l') : l.sum = l'.sum := by
  induction h with
  | nil => rfl
  | cons x _ ih => rw [List.sum_cons, List.sum_cons, ih]
  | swap x y l => rw [List.sum_cons, List.sum_cons, List.sum_cons, List.sum_cons]; omega
  | trans _ _ i1 i2 => exact i1.trans i2
theorem sum_flat {α : Type} (f : α → List Int) : ∀ l : List α, (l.flatMap f).sum = (l.map fun x => (f x).sum).sum
  | [] => rfl
  | x :: r => by rw [List.flatMap_cons, List.sum_append, sum_flat f r, List.map_cons, List.sum_cons]
def prS (n : Nat) (f : Nat × Nat → Int) : Int := ((prN n).map f).sum
theorem prS_succ (n : Nat) (f : Nat × Nat → Int) : prS (n + 1) f = prS n f + sumR n fun a => f (a, n) := by
  have hp : (prN (n + 1)).Perm (prN n ++ (List.range n).map fun a => (a, n)) := by
    refine (List.perm_ext_iff_of_nodup (prN_nodup _) (List.nodup_append.mpr ⟨prN_nodup _, ?_, ?_⟩)).mpr fun x => ?_
    · rw [List.nodup_iff_pairwise_ne, List.pairwise_map]
      exact List.nodup_range.imp fun h e => h (by injection e)
    · intro a ha b hb e
      subst e
      obtain ⟨i, hi, rfl⟩ := List.mem_map.mp hb
      have := (prN_mem.mp ha).2
      dsimp only at this
      omega
    · rw [List.mem_append, prN_mem, prN_mem, List.mem_map]
      constructor
      · rintro ⟨h1, h2⟩
        by_cases z : x.2 = n
        · exact .inr ⟨x.1, List.mem_range.mpr (by omega), by rw [← z]⟩
        · exact .inl ⟨h1, by omega⟩
      · rintro (⟨h1, h2⟩ | ⟨i, hi, rfl⟩)
        · exact ⟨h1, by omega⟩
        · have := List.mem_range.mp hi
          exact ⟨this, by show n < n + 1; omega⟩
  unfold prS sumR
  rw [sum_perm (hp.map f), List.map_append, List.sum_append, List.map_map]
  rfl
theorem cut_sum {M : Nat → Nat → Int} (hM : ∀ a b, M a b = M b a) (p : Nat → Bool) : ∀ n : Nat, sumR n (fun i => sumR n fun j => if (p i && !p j) = true then M i j else 0) = prS n fun q => if (!decide (p q.1 = p q.2)) = true then M q.1 q.2 else 0
  | 0 => rfl
  | n + 1 => by
    rw [prS_succ, ← cut_sum hM p n, sumR_succ]
    have e1 : sumR n (fun i => sumR (n + 1) fun j => if (p i && !p j) = true then M i j else 0) = sumR n (fun i => sumR n fun j => if (p i && !p j) = true then M i j else 0) + sumR n fun i => if (p i && !p n) = true then M i n else 0 := by
      rw [← sumR_add]
      exact sumR_congr fun i _ => sumR_succ _ _
    rw [e1, sumR_succ]
    have e2 : (if (p n && !p n) = true then M n n else 0) = 0 := by cases p n <;> rfl
    have e3 : sumR n (fun a => if (!decide (p a = p n)) = true then M a n else 0) = sumR n (fun i => if (p i && !p n) = true then M i n else 0) + sumR n (fun j => if (p n && !p j) = true then M n j else 0) := by
      rw [← sumR_add]
      refine sumR_congr fun i _ => ?_
      rw [hM n i]
      cases p i <;> cases p n <;> simp
    rw [e2, e3]
    omega
end GM
namespace Kx
open PySem L2 GM
section
variable (n : Nat) (hn : n ≤ 10) (M : Nat → Nat → Int) (hM : ∀ a b, M a b = M b a)
include hn
theorem shl_n : oshl (1 : Int) (n : Int) = some ((2 ^ n : Nat) : Int) := by
  unfold oshl
  rw [if_pos ⟨by omega, by omega, by decide⟩, Int.toNat_natCast, Int.one_mul]
  congr 1
theorem row_sum_P (a : Nat) (ha : a < n) (l : List Nat) (hl : ∀ y ∈ l, y < n) (hll : l.length ≤ 1000000) : ocomp (nI l) (fun (x12 : Int) => some true) (fun (x12 : Int) => (((atI (tabL n M) (a : Int))).bind fun x13 => atI x13 x12)) = some ((nI l).map fun x => M a x.toNat) := ocomp_map _ (fun x hx => by
  obtain ⟨i, hi, rfl⟩ := nI_mem.mp hx
  rw [tabL_at ha, Option.bind_some, rowG_at (hl i hi)]; rfl) (by unfold nI; rw [List.length_map]; exact hll)
theorem bits_len (m : Nat) : (bits m).length ≤ 12 := by
  have := List.length_filter_le (fun i => m.testBit i) (List.range 12)
  rw [List.length_range] at this
  exact this
theorem pair_rows_P : P_p_pair_rows (tabL n M) = some (rowG (2 ^ n) fun m => pairS M (bits m)) := by
  have hp := pow_1024 hn
  unfold P_p_pair_rows
  rw [tabL_len]
  dsimp only
  rw [shl_n n hn, Option.bind_some, rep0 _ (by omega), Option.bind_some, Option.bind_some, rng1 _ (by omega), Option.bind_some]
  rw [fill_rows (V := fun m => pairS M (bits m)) (2 ^ n) (by rfl) _ (fun m h0 hm W hW => ?_), Option.bind_some]
  obtain ⟨l1, l2, l3, l4⟩ := low_bits ⟨m, by omega⟩ h0
  dsimp only at l1 l2 l3 l4
  obtain ⟨a, ea⟩ := Int.eq_ofNat_of_zero_le l2
  obtain ⟨r, er⟩ := Int.eq_ofNat_of_zero_le l3
  rw [ea, er, Int.toNat_natCast, Int.toNat_natCast] at l1
  have hr : r < m := by omega
  have hb := bits_lt hn hm (by omega)
  rw [l1] at hb
  show (P_p_least_of (m : Int)).bind _ = _
  rw [show P_p_least_of (m : Int) = some (a : Int) from congrArg some ea, Option.bind_some, er, rowG_at (show r < 2 ^ n by omega), Option.bind_some, show P_p_things_of (r : Int) = some (nI (bits r)) from p_things_all ⟨r, by omega⟩, Option.bind_some, row_sum_P n hn M a (hb a (List.mem_cons_self ..)) (bits r) (fun y hy => hb y (List.mem_cons_of_mem _ hy)) (by have := bits_len n hn r; omega), Option.bind_some, Option.bind_some, Option.bind_some, oset_row hm, Option.bind_some]
  congr 1
  refine rowG_congr fun j _ => ?_
  by_cases z : j = m
  · rw [if_pos z, if_pos z, hW r hr, sum_nI, l1]
    rfl
  · rw [if_neg z, if_neg z]
include hM
theorem group_costs_P : P_group_costs (tabL n M) = some (rowG (2 ^ n) fun m => pairS M (bits m)) := by
  have hp := pow_1024 hn
  unfold P_group_costs
  rw [tabL_len, shl_n n hn, Option.bind_some, rep0 _ (by omega), Option.bind_some]
  rw [rowG_len, rng1 _ (by omega), Option.bind_some]
  rw [fill_rows (V := fun m => pairS M (bits m)) (2 ^ n) (by rfl) _ (fun m h0 hm W hW => ?_), Option.bind_some]
  obtain ⟨l1, l2, l2', l3, l4⟩ := top_bits ⟨m, by omega⟩ h0
  dsimp only at l1 l2 l2' l3 l4
  obtain ⟨a, ea⟩ := Int.eq_ofNat_of_zero_le l2
  obtain ⟨r, er⟩ := Int.eq_ofNat_of_zero_le l3
  rw [ea] at er l2'
  rw [ea, Int.toNat_natCast] at l1
  rw [ea] at l4
  rw [Int.toNat_natCast] at er l4
  rw [er, Int.toNat_natCast] at l1
  rw [er] at l4
  have hr : r < m := by omega
  have hb := bits_lt hn hm (by omega)
  rw [l1] at hb
  have hs : oshl (1 : Int) (a : Int) = some (1 * 2 ^ a) := by
    unfold oshl
    rw [if_pos ⟨by omega, by omega, by decide⟩, Int.toNat_natCast]
  dsimp only
  rw [ea, hs, Option.bind_some, Option.bind_some, er, rowG_at (show r < 2 ^ n by omega), Option.bind_some, show P_things (r : Int) = some (nI (bits r)) from things_all ⟨r, by omega⟩, Option.bind_some, row_sum_P n hn M a (hb a (by simp)) (bits r) (fun y hy => hb y (List.mem_append_left _ hy)) (by have := bits_len n hn r; omega), Option.bind_some, Option.bind_some, Option.bind_some, oset_row hm, Option.bind_some]
  congr 1
  refine rowG_congr fun j _ => ?_
  by_cases z : j = m
  · rw [if_pos z, if_pos z, hW r hr, sum_nI, l1, pairS_snoc hM]
  · rw [if_neg z, if_neg z]
omit hM
theorem weight_rows_P : P_p_weight_rows (tabL n M) = some (rowG (2 ^ n) (wt n M)) := by
  have hp := pow_1024 hn
  unfold P_p_weight_rows
  rw [pair_rows_P n hn M, Option.bind_some, rowG_len, rep0 _ (by omega), Option.bind_some, rng1 _ (by omega), Option.bind_some]
  rw [fill_rows (V := fun m => ((bits m).map fun a => (rowG n (M a)).sum).sum) (2 ^ n) (by rfl) _ (fun m h0 hm W hW => ?_), Option.bind_some]
  · have ez : (rowG (2 ^ n) fun m => ((bits m).map fun a => (rowG n (M a)).sum).sum).zip (rowG (2 ^ n) fun m => pairS M (bits m)) = rowG (2 ^ n) fun m => (((bits m).map fun a => (rowG n (M a)).sum).sum, pairS M (bits m)) := by
      unfold rowG
      rw [List.zip_map']
    rw [ez, ocomp_map (fun x => x.1 - 2 * x.2) (fun x _ => by rw [omul_sm (.inl (by decide)), Option.bind_some]) (by rw [rowG_len]; omega), rowG_map]
    rfl
  · obtain ⟨l1, l2, l3, l4⟩ := low_bits ⟨m, by omega⟩ h0
    dsimp only at l1 l2 l3 l4
    obtain ⟨a, ea⟩ := Int.eq_ofNat_of_zero_le l2
    obtain ⟨r, er⟩ := Int.eq_ofNat_of_zero_le l3
    rw [ea, er, Int.toNat_natCast, Int.toNat_natCast] at l1
    have hr : r < m := by omega
    have hb := bits_lt hn hm (by omega)
    rw [l1] at hb
    rw [er, rowG_at (show r < 2 ^ n by omega), Option.bind_some, show P_p_least_of (m : Int) = some (a : Int) from congrArg some ea, Option.bind_some, tabL_at (hb a (List.mem_cons_self ..)), Option.bind_some, Option.bind_some, Option.bind_some, oset_row hm, Option.bind_some]
    congr 1
    refine rowG_congr fun j _ => ?_
    by_cases z : j = m
    · rw [if_pos z, if_pos z, hW r hr, l1, List.map_cons, List.sum_cons]
      omega
    · rw [if_neg z, if_neg z]
include hM
theorem cut_weights_P : P_cut_weights (tabL n M) = some (rowG (2 ^ n) (wt n M)) := by
  have hp := pow_1024 hn
  unfold P_cut_weights
  rw [group_costs_P n hn M hM, Option.bind_some]
  rw [ocomp_map (f := fun (x3 : List Int) => some x3.sum) (fun x => x.sum) (fun _ _ => rfl) (by rw [tabL_len]; omega), tabL_row, rowG_map, Option.bind_some, rowG_len, orng1_nat (by omega), Option.bind_some]
  rw [ocomp_map (fun x => wt n M x.toNat) (fun x hx => by
    obtain ⟨m, hm, rfl⟩ := zs_mem.mp hx
    have hb := bits_lt hn hm (by omega)
    rw [show P_things (m : Int) = some (nI (bits m)) from things_all ⟨m, by omega⟩, Option.bind_some, ocomp_map (fun y => (rowG n (M y.toNat)).sum) (fun y hy => by
      obtain ⟨i, hi, rfl⟩ := nI_mem.mp hy
      rw [rowG_at (hb i hi)]; rfl) (by unfold nI; rw [List.length_map]; have := bits_len n hn m; omega), Option.bind_some, Option.bind_some, rowG_at hm, Option.bind_some, omul_sm (.inl (by decide)), Option.bind_some, Int.toNat_natCast]
    congr 1
    unfold wt
    rw [← sum_nI (bits m) fun a => (rowG n (M a)).sum]) (by rw [zs_len]; omega), zs_map]
  rfl
omit hM
theorem sets_among_P : ∀ (l : List Nat), l.length ≤ 10 → P_p_sets_among (nI l) = some ((setsP l).map nI) := by
  have key : ∀ (l : List Nat), l.length ≤ 10 → ofold (fun (s2 : ((List (List Int)))) (x4 : Int) => ((((((ocomp s2 (fun (x5 : (List Int)) => some true) (fun (x5 : (List Int)) => ocat [x4] x5))).bind fun x6 => ocat [([] : List Int)] x6)).bind fun x7 => ocat x7 (cutW s2 (some (1 : Int)) none))).bind fun x8 => some x8) (nI l).reverse [([] : List Int)] = some ((setsP l).map nI) := fun l => by
    induction l with
    | nil => intro _; rfl
    | cons t r ih =>
      intro hl
      have hr : r.length ≤ 9 := by rw [List.length_cons] at hl; omega
      have e : (nI (t :: r)).reverse = (nI r).reverse ++ [(t : Int)] := by unfold nI; rw [List.map_cons, List.reverse_cons]
      rw [e, ofold_app, ih (by omega), Option.bind_some]
      have hlen := setsP_len r
      have h2 : 2 ^ r.length ≤ 2 ^ 9 := Nat.pow_le_pow_right (by omega) hr
      have h3 : (2 : Nat) ^ 9 = 512 := by decide
      have hin : ∀ x ∈ setsP r, x.length ≤ 10000 := fun x hx => by have := setsP_short r x hx; omega
      show ((((((ocomp ((setsP r).map nI) _ _).bind _).bind _).bind _).bind fun s' => ofold _ [] s')) = _
      rw [ocomp_map (f := fun (x5 : (List Int)) => ocat [(t : Int)] x5) (fun x5 => (t : Int) :: x5) (fun x hx => by
        obtain ⟨y, hy, rfl⟩ := List.mem_map.mp hx
        have := hin y hy
        rw [ocat_ok (by unfold nI; rw [List.length_map, List.length_singleton]; omega)]; rfl) (by rw [List.length_map]; omega), Option.bind_some, ocat_ok (by simp; omega), Option.bind_some]
      obtain ⟨s, hs⟩ := setsP_head r
      rw [ocat_ok (by
        have := cutW_len ((setsP r).map nI) (some 1) none
        simp at this ⊢
        omega), Option.bind_some, Option.bind_some]
      show some _ = some _
      congr 1
      rw [hs, List.map_cons, cut_tail]
      show _ = ([[]] ++ (setsP r).map (fun m => t :: m) ++ (setsP r).tail).map nI
      rw [hs]
      simp [nI]
  intro l hl
  unfold P_p_sets_among
  dsimp only
  rw [key l hl]
  rfl
theorem sets_P : ∃ S, P_sets (zs n) = some S ∧ S.Perm ((setsL n).map nI) ∧ S.Pairwise (· ≤ ·) := by
  have hin : ∀ k, k ≤ 10 → ∀ x ∈ setsL k, x.length ≤ 10000 := fun k hk x hx => by
    obtain ⟨a1, a2⟩ := (setsL_mem k x).mp hx
    have : x.length ≤ (List.range k).length := List.Nodup.length_le_of_subset (a1.imp fun h => by omega) fun y hy => List.mem_range.mpr (a2 y hy)
    rw [List.length_range] at this
    omega
  obtain ⟨s, e, q⟩ := ofold_inv (l := zs n) (body := fun (s2 : ((List (List Int)))) (x4 : Int) => ((((ocomp s2 (fun (x5 : (List Int)) => some true) (fun (x5 : (List Int)) => ocat x5 [x4]))).bind fun x6 => ocat s2 x6)).bind fun x7 => some x7) (fun i s => s = (setsL i).map nI) (fun i s x hx hs => by
    obtain ⟨hi, rfl⟩ := zs_at hx
    subst hs
    have hl := setsL_len i
    have h2 : 2 ^ i ≤ 2 ^ 10 := Nat.pow_le_pow_right (by omega) (by omega)
    have h3 : (2 : Nat) ^ 10 = 1024 := by decide
    refine ⟨_, ?_, rfl⟩
    rw [ocomp_map (f := fun (x5 : (List Int)) => ocat x5 [(i : Int)]) (fun x5 => x5 ++ [(i : Int)]) (fun x hx => by
      obtain ⟨y, hy, rfl⟩ := List.mem_map.mp hx
      have := hin i (by omega) y hy
      rw [ocat_ok (by unfold nI; rw [List.length_map, List.length_singleton]; omega)]) (by rw [List.length_map]; omega), Option.bind_some, ocat_ok (by rw [List.length_map, List.length_map, List.length_map]; omega), Option.bind_some]
    congr 1
    show _ = (setsL i ++ (setsL i).map fun m => m ++ [i]).map nI
    rw [List.map_append, List.map_map, List.map_map]
    congr 1
    apply List.map_congr_left
    intro m _
    simp [nI]) (s0 := [([] : List Int)]) rfl
  rw [zs_len] at q
  subst q
  have hok : okSrtE (((setsL n).map nI).map (eT D.int)) = true := by
    obtain ⟨r, er⟩ := setsL_head n
    unfold okSrtE okSrt0
    rw [Bool.or_eq_true]
    refine .inr ?_
    simp only [Bool.and_eq_true, List.all_eq_true, decide_eq_true_eq]
    refine ⟨⟨⟨?_, ?_⟩, ?_⟩, ?_⟩
    · rw [er]; rfl
    · intro d hd
      obtain ⟨x, _, rfl⟩ := List.mem_map.mp hd
      rfl
    · intro d hd
      obtain ⟨x, _, rfl⟩ := List.mem_map.mp hd
      rw [py_ints]
      simp [PyData.depth, PySem.W.depth_ints]
    · intro d hd e he
      obtain ⟨x, _, rfl⟩ := List.mem_map.mp hd
      obtain ⟨y, _, rfl⟩ := List.mem_map.mp he
      rw [py_ints, py_ints]
      show PySem.W.alikeAll _ _ = true
      exact PySem.W.alike_ints x y
  refine ⟨_, ?_, sortE_perm _ _, sortE_ints _⟩
  unfold P_sets
  dsimp only
  rw [e, Option.bind_some, if_pos hok]
/-- the pair of a set -/
def FW (n : Nat) (M : Nat → Nat → Int) (x : List Int) : Int × List Int := (wt n M (msk (x.map Int.toNat)), x)
theorem nI_back (y : List Nat) : (nI y).map Int.toNat = y := by
  unfold nI
  rw [List.map_map]
  conv => rhs; rw [← List.map_id y]
  exact List.map_congr_left fun i _ => rfl
theorem among_P (LP : List (List Int)) (hl : LP.length ≤ 10000) (h : ∀ x ∈ LP, ∃ y, x = nI y ∧ Asc y ∧ ∀ z ∈ y, z < n) :
    ocomp LP (fun (x1 : (List Int)) => some true) (fun (x1 : (List Int)) => (((((P_p_mask_of x1)).bind fun x3 => atI (rowG (2 ^ n) (wt n M)) x3)).bind fun x4 => some ((x4, x1)))) = some (LP.map (FW n M)) ∧
    ocomp LP (fun (x1 : (List Int)) => some true) (fun (x1 : (List Int)) => (((((P_mask x1)).bind fun x3 => atI (rowG (2 ^ n) (wt n M)) x3)).bind fun x4 => some ((x4, x1)))) = some (LP.map (FW n M)) := by
  have key : ∀ x ∈ LP, P_p_mask_of x = some ((msk (x.map Int.toNat) : Nat) : Int) ∧ P_mask x = some ((msk (x.map Int.toNat) : Nat) : Int) ∧ msk (x.map Int.toNat) < 2 ^ n := fun x hx => by
    obtain ⟨y, rfl, ha, hy⟩ := h x hx
    rw [nI_back n hn y]
    obtain ⟨h1, h2⟩ := all_msk y ((setsL_mem 10 y).mpr ⟨ha, fun z hz => by have := hy z hz; omega⟩)
    have p1 := p_mask_all ⟨msk y, h2⟩
    have p2 := mask_all ⟨msk y, h2⟩
    dsimp only at p1 p2
    rw [h1] at p1 p2
    refine ⟨p1, p2, msk_bound ⟨n, by omega⟩ ⟨msk y, h2⟩ ?_⟩
    rw [List.all_eq_true]
    intro z hz
    dsimp only at hz
    rw [h1] at hz
    simpa using hy z hz
  constructor
  · exact ocomp_map _ (fun x hx => by
      obtain ⟨k1, k2, k3⟩ := key x hx
      rw [k1, Option.bind_some, rowG_at k3]; rfl) (by omega)
  · exact ocomp_map _ (fun x hx => by
      obtain ⟨k1, k2, k3⟩ := key x hx
      rw [k2, Option.bind_some, rowG_at k3]; rfl) (by omega)
omit hn
theorem best_P {l : List (Int × List Int)} (h : l ≠ []) (hs : l.Pairwise fun x y => x.2 ≤ y.2) : ∃ r, P_best l = some r ∧ r ∈ l ∧ ∀ z ∈ l, kk r ≤ kk z := by
  cases l with
  | nil => exact absurd rfl h
  | cons a t =>
    obtain ⟨s, e, q1, q2⟩ := ofold_inv (l := a :: t) (body := fun (s2 : ((Int × (List Int)))) (x4 : (Int × (List Int))) => if (decide (x4.1 < s2.1)) = true then (let x5 := x4; some x5) else (some s2)) (fun i s => s ∈ a :: t ∧ (i = 0 → s = a) ∧ ∃ j, j ≤ i ∧ (a :: t)[j]? = some s ∧ ∀ (k : Nat) z, k < i → (a :: t)[k]? = some z → s.1 < z.1 ∨ (s.1 = z.1 ∧ j ≤ k)) (fun i s x hx ⟨h1, h0, j, hj, h2, h3⟩ => by
      by_cases z : x.1 < s.1
      · refine ⟨x, by rw [if_pos (decide_eq_true z)], List.mem_of_getElem? hx, fun e => by omega, i, by omega, hx, fun k y hk hy => ?_⟩
        by_cases w : k = i
        · subst w; rw [hx] at hy; cases hy; exact .inr ⟨rfl, Nat.le_refl _⟩
        · rcases h3 k y (by omega) hy with v | v
          · exact .inl (by omega)
          · exact .inl (by omega)
      · refine ⟨s, by rw [if_neg (by simpa using z)], h1, fun e => by omega, j, by omega, h2, fun k y hk hy => ?_⟩
        by_cases w : k = i
        · subst w; rw [hx] at hy; cases hy
          by_cases v : s.1 < x.1
          · exact .inl v
          · exact .inr ⟨by omega, hj⟩
        · exact h3 k y (by omega) hy) (s0 := a) ⟨List.mem_cons_self .., fun _ => rfl, 0, Nat.le_refl _, rfl, fun k z hk _ => by omega⟩
    obtain ⟨_, j, hj, h2, h3⟩ := q2
    refine ⟨s, ?_, q1, fun z hz => ?_⟩
    · unfold P_best
      rw [show atI (a :: t) 0 = some a from atI_nat (j := 0) rfl, Option.bind_some, e]
      rfl
    · obtain ⟨k, hk⟩ := List.getElem?_of_mem hz
      have hkl := (List.getElem?_eq_some_iff.mp hk).1
      unfold kk
      rw [List.cons_le_cons_iff]
      rcases h3 k z hkl hk with v | ⟨v, w⟩
      · exact .inl v
      · refine .inr ⟨v, ?_⟩
        obtain ⟨j1, j2⟩ := List.getElem?_eq_some_iff.mp h2
        obtain ⟨k1, k2⟩ := List.getElem?_eq_some_iff.mp hk
        by_cases c : j = k
        · subst c; rw [h2] at hk; cases hk; exact List.le_refl _
        · have := List.pairwise_iff_getElem.mp hs j k j1 k1 (by omega)
          rw [j2, k2] at this
          exact this
include hn hM
/-- the least cut, both ways -/
theorem cut_P (a b : Nat) (ha : a < n) (hb : b < n) (hab : a ≠ b) : ∃ r, P_p_least_cut_between (tabL n M) (a : Int) (b : Int) = some r ∧ ((P_sets_between (n : Int) (a : Int) (b : Int)).bind fun x61 => P_least_cut (rowG (2 ^ n) (wt n M)) x61) = some r ∧ ∃ y, r = FW n M (nI y) ∧ Asc y ∧ (∀ z ∈ y, z < n ∧ z ≠ b) ∧ a ∈ y := by
  have hp := pow_1024 hn
  obtain ⟨S, eS, pS, sS⟩ := sets_P n hn
  -- the program's sets
  have hfl : ((List.range n).filter fun i => decide (i ≠ b)).length ≤ 10 := by
    have := List.length_filter_le (fun i => decide (i ≠ b)) (List.range n)
    rw [List.length_range] at this; omega
  have hfa : Asc ((List.range n).filter fun i => decide (i ≠ b)) := (range_asc n).filter _
  have hspl := setsP_len ((List.range n).filter fun i => decide (i ≠ b))
  have h2k : 2 ^ ((List.range n).filter fun i => decide (i ≠ b)).length ≤ 1024 := pow_1024 hfl
  have memP : ∀ x, x ∈ ((setsP ((List.range n).filter fun i => decide (i ≠ b))).map nI).filter (fun x => decide ((a : Int) ∈ x)) ↔ ∃ y, x = nI y ∧ Asc y ∧ (∀ z ∈ y, z < n ∧ z ≠ b) ∧ a ∈ y := fun x => by
    rw [List.mem_filter, List.mem_map, decide_eq_true_eq]
    constructor
    · rintro ⟨⟨y, hy, rfl⟩, hx⟩
      obtain ⟨a1, a2⟩ := (setsP_mem hfa y).mp hy
      refine ⟨y, rfl, a1, fun z hz => ?_, nI_mem'.mp hx⟩
      have := a2 z hz
      rw [List.mem_filter, List.mem_range, decide_eq_true_eq] at this
      exact this
    · rintro ⟨y, rfl, a1, a2, a3⟩
      refine ⟨⟨y, (setsP_mem hfa y).mpr ⟨a1, fun z hz => ?_⟩, rfl⟩, nI_mem'.mpr a3⟩
      rw [List.mem_filter, List.mem_range, decide_eq_true_eq]
      exact a2 z hz
  have memL : ∀ x, x ∈ S.filter (fun x => decide ((a : Int) ∈ x) && !decide ((b : Int) ∈ x)) ↔ ∃ y, x = nI y ∧ Asc y ∧ (∀ z ∈ y, z < n ∧ z ≠ b) ∧ a ∈ y := fun x => by
    rw [List.mem_filter, pS.mem_iff, List.mem_map, Bool.and_eq_true, decide_eq_true_eq, Bool.not_eq_true', decide_eq_false_iff_not]
    constructor
    · rintro ⟨⟨y, hy, rfl⟩, hx, hx2⟩
      obtain ⟨a1, a2⟩ := (setsL_mem n y).mp hy
      exact ⟨y, rfl, a1, fun z hz => ⟨a2 z hz, fun e => hx2 (nI_mem'.mpr (by rw [← e]; exact hz))⟩, nI_mem'.mp hx⟩
    · rintro ⟨y, rfl, a1, a2, a3⟩
      exact ⟨⟨y, (setsL_mem n y).mpr ⟨a1, fun z hz => (a2 z hz).1⟩, rfl⟩, nI_mem'.mpr a3, fun hx => (a2 b (nI_mem'.mp hx)).2 rfl⟩
  have one : ∃ y, nI [a] = nI y ∧ Asc y ∧ (∀ z ∈ y, z < n ∧ z ≠ b) ∧ a ∈ y := ⟨[a], rfl, List.pairwise_singleton .., fun z hz => by rw [List.mem_singleton.mp hz]; exact ⟨ha, hab⟩, by simp⟩
  have lenS : S.length ≤ 1024 := by rw [pS.length_eq, List.length_map, setsL_len]; omega
  obtain ⟨f1, _⟩ := among_P n hn M (((setsP ((List.range n).filter fun i => decide (i ≠ b))).map nI).filter (fun x => decide ((a : Int) ∈ x))) (by
    have := List.length_filter_le (fun x => decide ((a : Int) ∈ x)) ((setsP ((List.range n).filter fun i => decide (i ≠ b))).map nI)
    rw [List.length_map] at this; omega) fun x hx => by
      obtain ⟨y, rfl, a1, a2, _⟩ := (memP x).mp hx
      exact ⟨y, rfl, a1, fun z hz => (a2 z hz).1⟩
  obtain ⟨_, f2⟩ := among_P n hn M (S.filter (fun x => decide ((a : Int) ∈ x) && !decide ((b : Int) ∈ x))) (by
    have := List.length_filter_le (fun x => decide ((a : Int) ∈ x) && !decide ((b : Int) ∈ x)) S
    omega) fun x hx => by
      obtain ⟨y, rfl, a1, a2, _⟩ := (memL x).mp hx
      exact ⟨y, rfl, a1, fun z hz => (a2 z hz).1⟩
  obtain ⟨r, e1, r1, r2⟩ := minE_W (l := (((setsP ((List.range n).filter fun i => decide (i ≠ b))).map nI).filter (fun x => decide ((a : Int) ∈ x))).map (FW n M)) (List.ne_nil_of_mem (List.mem_map.mpr ⟨_, (memP _).mpr one, rfl⟩))
  obtain ⟨r', e2, q1, q2⟩ := best_P (l := (S.filter (fun x => decide ((a : Int) ∈ x) && !decide ((b : Int) ∈ x))).map (FW n M)) (List.ne_nil_of_mem (List.mem_map.mpr ⟨_, (memL _).mpr one, rfl⟩)) (by
    rw [List.pairwise_map]
    exact sS.filter _)
  obtain ⟨x, hx, er⟩ := List.mem_map.mp r1
  obtain ⟨x', hx', er'⟩ := List.mem_map.mp q1
  have same : r = r' := by
    refine kk_inj (List.le_antisymm ?_ ?_)
    · exact r2 r' (List.mem_map.mpr ⟨x', (memP _).mpr ((memL _).mp hx'), er'⟩)
    · exact q2 r (List.mem_map.mpr ⟨x, (memL _).mpr ((memP _).mp hx), er⟩)
  subst same
  refine ⟨r, ?_, ?_, ?_⟩
  · unfold P_p_least_cut_between P_p_cutting_sets P_p_least_among
    rw [weight_rows_P n hn M, Option.bind_some, tabL_len, orng1_nat (show n ≤ 1000000 by omega), Option.bind_some]
    rw [ocomp_filter (fun x => decide (x.toNat ≠ b)) (fun x hx => by
      obtain ⟨i, hi, rfl⟩ := zs_mem.mp hx
      by_cases z : i = b
      · subst z; simp
      · have : ¬ (i : Int) = (b : Int) := by omega
        simp [this, z]) (by rw [zs_len]; omega), zs_filter, Option.bind_some]
    rw [show ((List.range n).filter fun i : Nat => decide ((i : Int).toNat ≠ b)) = (List.range n).filter fun i => decide (i ≠ b) from rfl, sets_among_P n hn _ hfl, Option.bind_some]
    rw [ocomp_filter (c := fun (x5 : (List Int)) => some (decide ((a : Int) ∈ x5))) (fun x => decide ((a : Int) ∈ x)) (fun _ _ => rfl) (by rw [List.length_map]; omega), Option.bind_some, f1, Option.bind_some, e1]
  · unfold P_sets_between P_least_cut
    rw [olrg_nat (show n ≤ 1000000 by omega), Option.bind_some, eS, Option.bind_some]
    rw [ocomp_filter (fun x => decide ((a : Int) ∈ x) && !decide ((b : Int) ∈ x)) (fun _ _ => rfl) (by omega), Option.bind_some, f2, Option.bind_some, e2]
  · obtain ⟨y, rfl, h⟩ := (memP x).mp hx
    exact ⟨y, er.symm, h⟩
/-- the weight of a set -/
theorem weight_P (T : List Int) (hT : T.Nodup) (hT2 : ∀ x ∈ T, x ∈ zs n) (U : List Int) (hU : U.Nodup) (hU2 : ∀ x ∈ U, x ∈ zs n) (c : Bool) (hc : ∀ x ∈ zs n, decide (x ∈ U) = (decide (x ∈ T) == c)) : ∃ w, P_due_weight (tabL n M) T = some w ∧ P_p_weight_of (tabL n M) U = some w := by
  have hlm := prN_small (show n ≤ 100 by omega)
  have hlen : U.length ≤ n := by
    have := hU.length_le_of_subset hU2
    rwa [zs_len] at this
  refine ⟨prS n fun q => if (!decide (decide ((q.1 : Int) ∈ T) = decide ((q.2 : Int) ∈ T))) = true then M q.1 q.2 else 0, ?_, ?_⟩
  · unfold P_due_weight
    rw [tabL_len, pairs_P n (by omega), Option.bind_some]
    rw [ocomp_ok (c := fun (x3 : (Int × Int)) => some (!decide ((decide (x3.1 ∈ T)) = (decide (x3.2 ∈ T))))) (fun (x : Int × Int) => !decide (decide (x.1 ∈ T) = decide (x.2 ∈ T))) (fun x => M x.1.toNat x.2.toNat) (fun x hx => ⟨rfl, fun _ => by
      obtain ⟨a, b, hab, hb, rfl⟩ := prI_mem hx
      rw [tabL_at (by omega), Option.bind_some, rowG_at hb]; rfl⟩) (by rw [prI_len]; omega), Option.bind_some]
    congr 1
    unfold prI
    rw [List.filter_map, List.map_map]
    unfold prS
    rw [← sum_filter (fun q : Nat × Nat => !decide (decide ((q.1 : Int) ∈ T) = decide ((q.2 : Int) ∈ T))) (fun q => M q.1 q.2)]
    rfl
  · unfold P_p_weight_of
    rw [tabL_len, orng1_nat (show n ≤ 1000000 by omega), Option.bind_some]
    rw [ocomp_filter (fun x => !decide (x ∈ U)) (fun _ _ => rfl) (by rw [zs_len]; omega), zs_filter, Option.bind_some]
    have hol : (nI ((List.range n).filter fun i : Nat => !decide ((i : Int) ∈ U))).length ≤ 10 := by
      unfold nI
      rw [List.length_map]
      have := List.length_filter_le (fun i : Nat => !decide ((i : Int) ∈ U)) (List.range n)
      rw [List.length_range] at this
      omega
    have hfl : ∀ l : List Int, (l.flatMap fun x => (nI ((List.range n).filter fun i : Nat => !decide ((i : Int) ∈ U))).map fun y => M x.toNat y.toNat).length ≤ l.length * 10 := fun l => by
      induction l with
      | nil => simp
      | cons x r ih => rw [List.flatMap_cons, List.length_append, List.length_map, List.length_cons, Nat.succ_mul]; omega
    unfold ocomp2
    rw [ocomp2L_ok (fun x => (nI ((List.range n).filter fun i : Nat => !decide ((i : Int) ∈ U))).map fun y => M x.toNat y.toNat) fun x hx => ⟨rfl, ?_⟩]
    · rw [Option.bind_some, show olim (U.flatMap fun x => (nI ((List.range n).filter fun i : Nat => !decide ((i : Int) ∈ U))).map fun y => M x.toNat y.toNat) = some (U.flatMap fun x => (nI ((List.range n).filter fun i : Nat => !decide ((i : Int) ∈ U))).map fun y => M x.toNat y.toNat) from if_pos (by have := hfl U; omega), Option.bind_some]
      congr 1
      have hp : U.Perm (nI ((List.range n).filter fun i : Nat => decide ((i : Int) ∈ U))) := by
        refine (List.perm_ext_iff_of_nodup hU ?_).mpr fun x => ?_
        · unfold nI
          rw [List.nodup_iff_pairwise_ne, List.pairwise_map]
          exact (List.nodup_range.filter _).imp fun h e => h (by omega)
        · rw [nI_mem]
          constructor
          · intro hx
            obtain ⟨i, hi, rfl⟩ := zs_mem.mp (hU2 x hx)
            exact ⟨i, List.mem_filter.mpr ⟨List.mem_range.mpr hi, by simpa using hx⟩, rfl⟩
          · rintro ⟨i, hi, rfl⟩
            simpa using (List.mem_filter.mp hi).2
      rw [sum_flat, sum_perm (hp.map _), sum_nI (f := fun i => ((nI ((List.range n).filter fun i : Nat => !decide ((i : Int) ∈ U))).map fun y => M i y.toNat).sum), sum_filter]
      have e1 : ∀ i, ((nI ((List.range n).filter fun i : Nat => !decide ((i : Int) ∈ U))).map fun y => M i y.toNat).sum = sumR n fun j => if (!decide ((j : Int) ∈ U)) = true then M i j else 0 := fun i => by
        rw [sum_nI (f := fun j => M i j), sum_filter]
        rfl
      have e2 : ((List.range n).map fun x : Nat => if decide ((x : Int) ∈ U) = true then ((nI ((List.range n).filter fun i : Nat => !decide ((i : Int) ∈ U))).map fun y => M x y.toNat).sum else 0).sum = sumR n fun i => sumR n fun j => if (decide ((i : Int) ∈ U) && !decide ((j : Int) ∈ U)) = true then M i j else 0 := by
        show sumR n _ = _
        refine sumR_congr fun i hi => ?_
        by_cases z : (i : Int) ∈ U
        · rw [if_pos (by simpa using z), e1]
          refine sumR_congr fun j _ => ?_
          rw [decide_eq_true z, Bool.true_and]
        · rw [if_neg (by simpa using z)]
          have : ∀ k : Nat, sumR k (fun j => if (decide ((i : Int) ∈ U) && !decide ((j : Int) ∈ U)) = true then M i j else 0) = 0 := fun k => by
            induction k with
            | zero => rfl
            | succ k ih => rw [sumR_succ, ih, decide_eq_false z]; rfl
          exact (this n).symm
      rw [e2, cut_sum hM (fun i => decide ((i : Int) ∈ U))]
      unfold prS
      congr 1
      apply List.map_congr_left
      intro q hq
      obtain ⟨q1, q2⟩ := prN_mem.mp hq
      have h1 := hc (q.1 : Int) (zs_mem.mpr ⟨q.1, by omega, rfl⟩)
      have h2 := hc (q.2 : Int) (zs_mem.mpr ⟨q.2, q2, rfl⟩)
      rw [h1, h2]
      cases decide ((q.1 : Int) ∈ T) <;> cases decide ((q.2 : Int) ∈ T) <;> cases c <;> rfl
    · have hxn := hU2 x hx
      obtain ⟨i, hi, rfl⟩ := zs_mem.mp hxn
      show (some _).bind _ = _
      rw [Option.bind_some, ocompL_ok (fun _ => true) (fun y => M i y.toNat) fun y hy => ⟨rfl, fun _ => ?_⟩]
      · rw [List.filter_eq_self.mpr fun _ _ => rfl]
        rfl
      · obtain ⟨j, hj, rfl⟩ := nI_mem.mp hy
        have hjn := List.mem_range.mp (List.mem_filter.mp hj).1
        dsimp only
        rw [tabL_at hi, Option.bind_some, rowG_at hjn]; rfl
end
theorem take_S (ns : List Int) (m : Int) (hm : 0 < m) : Sat (P_take ns m) (fun r => 0 ≤ r.1 ∧ r.1 < m) := by
  obtain ⟨v, n', e, h⟩ := take_P ns m hm
  exact ⟨_, e, h⟩
theorem pick_S (ns : List Int) (row : List Int) (h : row ≠ []) : Sat (P_pick ns row) (fun r => r.1 ∈ row) := by
  obtain ⟨v, n', e, h⟩ := pick_P ns row h
  exact ⟨_, e, h⟩
theorem pickP_S (ns : List Int) (row : List (Int × Int)) (h : row ≠ []) : Sat (P_pick_P ns row) (fun r => r.1 ∈ row) := by
  have hl : 0 < row.length := List.length_pos_iff.mpr h
  unfold P_pick_P
  refine Sat.bind (take_S ns row.length (by omega)) fun p3 h3 => ?_
  obtain ⟨k, hk⟩ := Int.eq_ofNat_of_zero_le h3.1
  have hkl : k < row.length := by omega
  rw [hk, atI_nat (List.getElem?_eq_getElem hkl), Option.bind_some]
  exact Sat.pure (List.getElem_mem hkl)
theorem some_of_S (ns : List Int) (n : Nat) (h1 : 1 ≤ n) (hn : n ≤ 100) : Sat (P_some_of ns (zs n) (n : Int)) (fun r => r.1.Nodup ∧ ∀ x ∈ r.1, x ∈ zs n) := by
  have hne : zs n ≠ [] := by
    intro z
    have := congrArg List.length z
    rw [zs_len] at this
    simp at this; omega
  unfold P_some_of
  dsimp only
  rw [Option.bind_assoc]
  refine Sat.bind (A := fun (p : List Int × List Int) => p.1.length ≤ 200) ?_ fun p11 h11 => ?_
  · refine Sat.bind (Sat.bind (take_S ns n (by omega)) fun r hr => Sat.pure (Q := fun (r : Int × List Int) => 1 ≤ r.1 ∧ r.1 ≤ 100) (by dsimp only; omega)) fun p8 h8 => ?_
    obtain ⟨k, hk⟩ := Int.eq_ofNat_of_zero_le (show 0 ≤ p8.1 by omega)
    rw [hk, orng1_nat (show k ≤ 1000000 by omega), Option.bind_some]
    exact Sat.pure (by rw [zs_len]; omega)
  · refine Sat.bind (Sat.ofold (fun i s => s.1.length ≤ i ∧ s.1.Nodup ∧ ∀ x ∈ s.1, x ∈ zs n) ⟨by simp, by simp, by simp⟩ fun i s x hx hs => ?_) fun s hs => Sat.pure ?_
    · have hi : i < 200 := by have := (List.getElem?_eq_some_iff.mp hx).1; omega
      obtain ⟨q1, q2, q3⟩ := hs
      refine Sat.bind (pick_S s.2 (zs n) hne) fun p14 h14 => ?_
      by_cases z : p14.1 ∈ s.1
      · rw [if_neg (by simpa using z)]
        exact Sat.pure ⟨by dsimp only; omega, q2, q3⟩
      · rw [if_pos (by simpa using z), oapp_ok (by omega), Option.bind_some]
        refine Sat.pure ⟨by rw [List.length_append, List.length_singleton]; omega, List.nodup_append.mpr ⟨q2, by simp, fun a ha b hb e => ?_⟩, fun x hx => ?_⟩
        · rw [List.mem_singleton.mp hb] at e
          exact z (by rw [← e]; exact ha)
        · rcases List.mem_append.mp hx with h | h
          · exact q3 x h
          · rw [List.mem_singleton.mp h]; exact h14
    · obtain ⟨q1, q2, q3⟩ := hs
      exact ⟨(sortI_perm s.1).nodup_iff.mpr q2, fun x hx => q3 x ((sortI_perm s.1).mem_iff.mp hx)⟩
theorem links_S (ns : List Int) (n : Nat) (hn : n ≤ 100) : Sat (P_links ns (n : Int)) (fun r => ∃ M, r.1 = tabL n M ∧ Dist M) := by
  have hlm := prN_small hn
  obtain ⟨sc, n1, e1, hs⟩ := scale_P ns
  unfold P_links
  rw [e1, Option.bind_some]
  refine Sat.bind (pick_S n1 [2, 3, 6, 30] (by simp)) fun p3 h3 => ?_
  have h30 : 0 < p3.1 ∧ p3.1 ≤ 30 := by
    simp only [List.mem_cons, List.not_mem_nil, or_false] at h3
    omega
  dsimp only
  rw [pairs_P n hn, Option.bind_some]
  refine Sat.bind (Sat.ofold (fun i s => s.1.length = i) rfl fun i s x hx hs => ?_) fun s hs => ?_
  · have hi : i < (prI n).length := (List.getElem?_eq_some_iff.mp hx).1
    rw [prI_len] at hi
    refine Sat.bind (A := fun _ => True) ?_ fun p20 _ => ?_
    · refine Sat.bind (A := fun _ => True) (Sat.bind (take_S s.2 p3.1 h30.1) fun p12 h12 => by rw [omul_sm (x := sc) (y := p12.1) (.inr (by omega)), Option.bind_some]; exact Sat.pure trivial) fun p14 _ => ?_
      refine Sat.bind (Sat.bind (take_S _ 4 (by omega)) fun p17 h17 => Sat.pure (Q := fun (r : Int × List Int) => 0 ≤ r.1 ∧ r.1 ≤ 1) (by dsimp only; unfold imin; split <;> omega)) fun p18 h18 => ?_
      rw [omul_sm (x := p14.1) (y := p18.1) (.inr (by omega)), Option.bind_some]
      exact Sat.pure trivial
    · rw [oapp_ok (by omega), Option.bind_some]
      exact Sat.pure (by rw [List.length_append, List.length_singleton]; omega)
  · rw [prI_len] at hs
    rw [from_pairs_P n hn _ hs, Option.bind_some]
    exact Sat.pure ⟨_, rfl, pm_dist n _⟩
theorem sameI (x : Int) : P_same (D.int x) (D.int x) = some true := same_P rfl
theorem sameW (n : Nat) (hn : n ≤ 10) (M : Nat → Nat → Int) (y : List Nat) (ha : Asc y) (hy : ∀ z ∈ y, z < n) : P_same (eP D.int (eT D.int) (FW n M (nI y))) (eP D.int (eT D.int) (FW n M (nI y))) = some true := by
  have : y.length ≤ (List.range n).length := List.Nodup.length_le_of_subset (ha.imp fun h => by omega) fun z hz => List.mem_range.mpr (hy z hz)
  rw [List.length_range] at this
  exact same_P (okDB_P (okDB_int _ _) (okDB_T (by unfold FW nI; dsimp only; rw [List.length_map]; omega) fun x _ => okDB_int _ x))
theorem is_right_S (ns : List Int) (n : Nat) (h1 : 1 ≤ n) (hn : n ≤ 10) (M : Nat → Nat → Int) (dM : Dist M) : Sat (P_is_right ns (tabL n M)) (fun r => r.1 = true) := by
  have hM := dM.2
  have hlm := prN_small (show n ≤ 100 by omega)
  have ol : olrg 0 (n : Int) = some (zs n) := olrg_nat (by omega)
  have zn : (zs n).Nodup := by
    unfold zs
    exact List.Pairwise.map _ (fun a b (h : a ≠ b) h2 => h (Int.ofNat.inj h2)) List.nodup_range
  unfold P_is_right
  rw [tabL_len]
  dsimp only
  rw [Option.bind_assoc]
  refine Sat.bind (A := fun (p : List (List Int) × List Int) => ∀ T ∈ p.1, T.Nodup ∧ ∀ x ∈ T, x ∈ zs n) ?_ fun p19 h19 => ?_
  · rw [Option.bind_some]
    refine Sat.bind (A := fun (p : List (List Int) × List Int) => ∀ T ∈ p.1, T.Nodup ∧ ∀ x ∈ T, x ∈ zs n) ?_ fun q17 h17 => Sat.pure (by
      intro T hT
      rcases List.mem_cons.mp hT with h | h
      · rw [h]; exact ⟨List.nodup_nil, by simp⟩
      · exact h17 T h)
    rw [ol, Option.bind_some, Option.bind_some]
    refine Sat.bind (A := fun (p : List (List Int) × List Int) => ∀ T ∈ p.1, T.Nodup ∧ ∀ x ∈ T, x ∈ zs n) ?_ fun q16 h16 => Sat.pure (by
      intro T hT
      rcases List.mem_cons.mp hT with h | h
      · rw [h]; exact ⟨zn, fun x hx => hx⟩
      · exact h16 T h)
    rw [Option.bind_some]
    refine Sat.bind (Sat.bind (some_of_S _ n h1 (by omega)) fun p12 h12 => Sat.pure (Q := fun (p : List Int × List Int) => p.1.Nodup ∧ ∀ x ∈ p.1, x ∈ zs n) h12) fun p13 h13 => Sat.bind (Sat.pure (Q := fun (q : List (List Int) × List Int) => q.1 = []) rfl) fun q15 h15 => Sat.pure (by
      intro T hT
      rcases List.mem_cons.mp hT with h | h
      · rw [h]; exact h13
      · rw [h15] at h; cases h)
  refine Sat.ofor (fun _ _ => True) trivial (fun i s T hT _ => ?_) fun s _ => ?_
  · obtain ⟨t1, t2⟩ := h19 T (List.mem_of_getElem? hT)
    obtain ⟨w, e1, e2⟩ := weight_P n hn M hM T t1 t2 T t1 t2 true fun x _ => by cases decide (x ∈ T) <;> rfl
    have hU : ocomp (zs n) (fun (x24 : Int) => some (!decide (x24 ∈ T))) (fun (x24 : Int) => (some x24)) = some ((zs n).filter fun x => !decide (x ∈ T)) := ocomp_filter _ (fun _ _ => rfl) (by rw [zs_len]; omega)
    obtain ⟨w', e1', e2'⟩ := weight_P n hn M hM T t1 t2 ((zs n).filter fun x => !decide (x ∈ T)) (zn.filter _) (fun x hx => (List.mem_filter.mp hx).1) false fun x hx => by
      by_cases z : x ∈ T
      · have : ¬ x ∈ (zs n).filter fun x => !decide (x ∈ T) := fun h => by
          have := (List.mem_filter.mp h).2
          simp [z] at this
        rw [decide_eq_true z, decide_eq_false this]; rfl
      · have : x ∈ (zs n).filter fun x => !decide (x ∈ T) := List.mem_filter.mpr ⟨hx, by simp [z]⟩
        rw [decide_eq_false z, decide_eq_true this]; rfl
    have ew : w' = w := by rw [e1] at e1'; exact (Option.some.inj e1').symm
    subst ew
    rw [e1, Option.bind_some, orng1_nat (show n ≤ 1000000 by omega), Option.bind_some, hU, Option.bind_some, e2, Option.bind_some, Option.bind_some, sameI, Option.bind_some, Option.bind_some, if_neg (by simp), e2', Option.bind_some, Option.bind_some, sameI, Option.bind_some, Option.bind_some, if_neg (by simp)]
    exact Sat.pure ⟨_, rfl, trivial⟩
  · simp only [oseq]
    refine Sat.ite (fun _ => Sat.pure rfl) fun hn1 => ?_
    have h2 : 2 ≤ n := by
      have : ¬ (n : Int) = 1 := by simpa using hn1
      omega
    have hne : prI n ≠ [] := by
      have : (((0 : Nat) : Int), ((1 : Nat) : Int)) ∈ prI n := by
        unfold prI
        exact List.mem_map.mpr ⟨(0, 1), prN_mem.mpr ⟨by omega, by omega⟩, rfl⟩
      exact List.ne_nil_of_mem this
    rw [cut_weights_P n hn M hM, Option.bind_some, show orng1 3 = some (zs 3) from orng1_nat (n := 3) (by omega), Option.bind_some]
    refine Sat.ofor (fun _ _ => True) trivial (fun i s x hx _ => ?_) fun s _ => ?_
    · rw [pairs_P n (by omega), Option.bind_some]
      refine Sat.bind (pickP_S s _ hne) fun p53 h53 => ?_
      obtain ⟨a, b, hab, hb, ep⟩ := prI_mem h53
      refine Sat.bind (A := fun (q : Int × Int) => ∃ a b : Nat, a < n ∧ b < n ∧ a ≠ b ∧ q = ((a : Int), (b : Int))) ?_ fun s57 ⟨a, b, ha, hb, hab, e57⟩ => ?_
      · rw [ep]
        refine Sat.ite (fun _ => Sat.pure ⟨b, a, hb, by omega, by omega, rfl⟩) fun _ => Sat.pure ⟨a, b, by omega, hb, by omega, rfl⟩
      · obtain ⟨r, e1, e2, y, er, ya, yb, yc⟩ := cut_P n hn M hM a b ha hb hab
        subst er
        rw [e57]
        dsimp only
        rw [e2, Option.bind_some, e1, Option.bind_some, Option.bind_some, sameW n hn M y ya fun z hz => (yb z hz).1, Option.bind_some, Option.bind_some, if_neg (by simp)]
        exact Sat.pure ⟨_, rfl, trivial⟩
    · simp only [oseq]
      exact Sat.pure rfl
theorem law_S (ms : List Int) : Sat (P_law ms) (fun r => r.1 = true) := by
  unfold P_law
  refine Sat.bind (A := fun (r : List (List Int) × List Int) => ∃ n M, 1 ≤ n ∧ n ≤ 10 ∧ r.1 = tabL n M ∧ Dist M) (Sat.bind (Sat.bind (take_S ms 6 (by omega)) fun r hr => Sat.pure (Q := fun (r : Int × List Int) => 1 ≤ r.1 ∧ r.1 ≤ 6) (by dsimp only; omega)) fun p4 h4 => ?_) fun p5 ⟨n, M, n1, n2, hM, dM⟩ => ?_
  · obtain ⟨n, hn⟩ := Int.eq_ofNat_of_zero_le (show 0 ≤ p4.1 by omega)
    rw [hn]
    exact (links_S p4.2 n (by omega)).mono fun q ⟨M, h1, h2⟩ => ⟨n, M, by omega, by omega, h1, h2⟩
  rw [hM]
  refine Sat.bind (A := fun (r : Bool × List Int) => r.1 = false) ?_ fun p13 h13 => ?_
  · refine Sat.bind (Sat.bind (is_right_S _ n n1 n2 M dM) fun r hr => Sat.pure (Q := fun (r : Bool × List Int) => r.1 = false) (by rw [hr]; rfl)) fun p8 h8 => ?_
    rw [if_neg (by rw [h8]; simp)]
    refine Sat.bind (Sat.bind (show Sat (P_links p8.2 5) _ from links_S p8.2 5 (by omega)) fun p11 ⟨M, hM, dM⟩ => ?_) fun r (hr : r.1 = true) => Sat.pure (by rw [hr]; rfl)
    rw [hM]
    exact is_right_S _ 5 (by omega) (by omega) M dM
  · rw [if_neg (by rw [h13]; simp)]
    refine Sat.bind (Sat.bind (take_S _ 8 (by omega)) fun r hr => Sat.pure (Q := fun _ => True) trivial) fun p19 _ => Sat.ite (fun _ => ?_) fun _ => ?_
    · refine Sat.bind (show Sat (P_links p19.2 10) _ from links_S p19.2 10 (by omega)) fun p22 ⟨M, hM, dM⟩ => ?_
      obtain ⟨r, e1, e2, y, er, ya, yb, yc⟩ := cut_P 10 (by omega) M dM.2 9 0 (by omega) (by omega) (by omega)
      subst er
      have e1' : P_p_least_cut_between (tabL 10 M) 9 0 = some (FW 10 M (nI y)) := e1
      have e2' : ((P_sets_between 10 9 0).bind fun x28 => P_least_cut (rowG (2 ^ 10) (wt 10 M)) x28) = some (FW 10 M (nI y)) := e2
      rw [hM, cut_weights_P 10 (by omega) M dM.2, Option.bind_some, e2', Option.bind_some, e1', Option.bind_some, Option.bind_some, sameW 10 (by omega) M y ya fun z hz => (yb z hz).1, Option.bind_some]
      exact Sat.pure rfl
    · refine Sat.bind (show Sat (P_links p19.2 2) _ from links_S p19.2 2 (by omega)) fun p42 ⟨M, hM, dM⟩ => ?_
      obtain ⟨r, e1, e2, y, er, ya, yb, yc⟩ := cut_P 2 (by omega) M dM.2 1 0 (by omega) (by omega) (by omega)
      subst er
      have e1' : P_p_least_cut_between (tabL 2 M) 1 0 = some (FW 2 M (nI y)) := e1
      have ey : y = [1] := by
        have h1 : ∀ z ∈ y, z = 1 := fun z hz => by have := yb z hz; omega
        cases y with
        | nil => cases yc
        | cons z r =>
          have hz := h1 z (List.mem_cons_self ..)
          subst hz
          cases r with
          | nil => rfl
          | cons w t =>
            have hw := h1 w (by simp)
            have := (List.pairwise_cons.mp ya).1 w (List.mem_cons_self ..)
            omega
      subst ey
      have ef : FW 2 M (nI [1]) = (M 0 1, [1]) := by
        unfold FW
        rw [nI_back 2 (by omega) [1]]
        have hb : bits (msk [1]) = [1] := by decide +kernel
        unfold wt
        rw [hb]
        show (([(rowG 2 (M 1)).sum] : List Int).sum - 2 * (0 + 0), nI [1]) = _
        have : (rowG 2 (M 1)).sum = M 1 0 + (M 1 1 + 0) := rfl
        simp only [List.sum_cons, List.sum_nil, this, dM.1 1, dM.2 1 0]
        refine Prod.ext ?_ rfl
        dsimp only
        omega
      have a1 : atI (tabL 2 M) 0 = some (rowG 2 (M 0)) := tabL_at (n := 2) (a := 0) (by omega)
      have a2 : atI (rowG 2 (M 0)) 1 = some (M 0 1) := rowG_at (n := 2) (i := 1) (by omega)
      rw [hM, e1', Option.bind_some, Option.bind_some, a1, Option.bind_some, a2, Option.bind_some, Option.bind_some, Option.bind_some, ef, show P_same (eP D.int (eT D.int) (M 0 1, [1])) (eP D.int (eT D.int) (M 0 1, [1])) = some true from same_P (okDB_P (okDB_int _ _) (okDB_T (by simp) fun x _ => okDB_int _ x)), Option.bind_some]
      exact Sat.pure rfl
theorem plain (ns : List Int) (h : ns.length ≤ 63) : m_law [.d (.scr (ns.map D.int))] [] = some (.val (.d (.bl true)), []) := by
  obtain ⟨ms, e0⟩ := draws_ok 400 (by omega) ns h
  obtain ⟨⟨b, ns'⟩, e1, h1⟩ := law_S ms
  cases h1
  exact t_law _ ms ns' e0 e1
end Kx

open PySem PySem.W PyProof.Rows
set_option maxHeartbeats 0 in
theorem PySem.Challenge.cw_groupsnear_k43_weights_and_least_cuts_holds : PySem.Challenge.rw_groupsnear_k43_weights_and_least_cuts.Holds := by
  w_on; o_law; k_head; (case hw => w_witness2)
  k_fill
  refine L2.walk_of (l := PySem.Challenge.rw_groupsnear_k43_weights_and_least_cuts) (n := 63) (k := 11) (x := "script") (CX := fun _ => L2.CX0) (sp := fun w => GM.spM _ Kx.m_law) rfl (by decide) rfl ⟨rfl, by decide, by decide⟩ (fun w h Y => PySem.W.kIn_of Y) ?F (fun _ H a ns hl hO hS => GM.law_end (Kx.plain ns hl) hO hS) (fun _ _ _ _ _ h => h)
  case F =>
    intro w mg fa h KX G hmg
    refine' Kx.all_mk KX G hmg ?a0 ?l0 ?c0 ?k0 ?a1 ?l1 ?c1 ?k1 ?a2 ?l2 ?c2 ?k2 ?a3 ?l3 ?c3 ?k3 ?a4 ?l4 ?c4 ?k4 ?a5 ?l5 ?c5 ?k5 ?a6 ?l6 ?c6 ?k6 ?a7 ?l7 ?c7 ?k7 ?a8 ?l8 ?c8 ?k8 ?a9 ?l9 ?c9 ?k9 ?a10 ?l10 ?c10 ?k10 ?a11 ?l11 ?c11 ?k11 ?a12 ?l12 ?c12 ?k12 ?a13 ?l13 ?c13 ?k13 ?a14 ?l14 ?c14 ?k14 ?a15 ?l15 ?c15 ?k15 ?a16 ?l16 ?c16 ?k16 ?a17 ?l17 ?c17 ?k17 ?a18 ?l18 ?c18 ?k18 ?a19 ?l19 ?c19 ?k19 ?a20 ?l20 ?c20 ?k20 ?a21 ?l21 ?c21 ?k21 ?a22 ?l22 ?c22 ?k22 ?a23 ?l23 ?c23 ?k23 ?a24 ?l24 ?c24 ?k24 ?a25 ?l25 ?c25 ?k25 ?a26 ?l26 ?c26 ?k26 ?a27 ?l27 ?c27 ?k27 ?a28 ?l28 ?c28 ?k28 ?a29 ?l29 ?c29 ?k29 ?z0 ?z1 ?z2 ?z3 ?z4 ?z5 ?z6 ?z7 ?z8 ?z9 ?z10 ?z11 ?z12 ?z13 ?z14 ?z15 ?z16 ?z17 ?z18
    (case a0 => k_is); (case l0 => k_is); (case c0 => k_is); (case k0 => k_is); (case a1 => k_is); (case l1 => k_is); (case c1 => k_is); (case k1 => k_is); (case a2 => k_is); (case l2 => k_is); (case c2 => k_is); (case k2 => k_is); (case a3 => k_is); (case l3 => k_is); (case c3 => k_is); (case k3 => k_is); (case a4 => k_is); (case l4 => k_is); (case c4 => k_is); (case k4 => k_is); (case a5 => k_is); (case l5 => k_is); (case c5 => k_is); (case k5 => k_is); (case a6 => k_is); (case l6 => k_is); (case c6 => k_is); (case k6 => k_is); (case a7 => k_is); (case l7 => k_is); (case c7 => k_is); (case k7 => k_is); (case a8 => k_is); (case l8 => k_is); (case c8 => k_is); (case k8 => k_is); (case a9 => k_is); (case l9 => k_is); (case c9 => k_is); (case k9 => k_is); (case a10 => k_is); (case l10 => k_is); (case c10 => k_is); (case k10 => k_is); (case a11 => k_is); (case l11 => k_is); (case c11 => k_is); (case k11 => k_is); (case a12 => k_is); (case l12 => k_is); (case c12 => k_is); (case k12 => k_is); (case a13 => k_is); (case l13 => k_is); (case c13 => k_is); (case k13 => k_is); (case a14 => k_is); (case l14 => k_is); (case c14 => k_is); (case k14 => k_is); (case a15 => k_is); (case l15 => k_is); (case c15 => k_is); (case k15 => k_is); (case a16 => k_is); (case l16 => k_is); (case c16 => k_is); (case k16 => k_is); (case a17 => k_is); (case l17 => k_is); (case c17 => k_is); (case k17 => k_is); (case a18 => k_is); (case l18 => k_is); (case c18 => k_is); (case k18 => k_is); (case a19 => k_is); (case l19 => k_is); (case c19 => k_is); (case k19 => k_is); (case a20 => k_is); (case l20 => k_is); (case c20 => k_is); (case k20 => k_is); (case a21 => k_is); (case l21 => k_is); (case c21 => k_is); (case k21 => k_is); (case a22 => k_is); (case l22 => k_is); (case c22 => k_is); (case k22 => k_is); (case a23 => k_is); (case l23 => k_is); (case c23 => k_is); (case k23 => k_is); (case a24 => k_is); (case l24 => k_is); (case c24 => k_is); (case k24 => k_is); (case a25 => k_is); (case l25 => k_is); (case c25 => k_is); (case k25 => k_is); (case a26 => k_is); (case l26 => k_is); (case c26 => k_is); (case k26 => k_is); (case a27 => k_is); (case l27 => k_is); (case c27 => k_is); (case k27 => k_is); (case a28 => k_is); (case l28 => k_is); (case c28 => k_is); (case k28 => k_is); (case a29 => k_is); (case l29 => k_is); (case c29 => k_is); (case k29 => k_is); (case z0 => k_is); (case z1 => k_is); (case z2 => k_is); (case z3 => k_is); (case z4 => k_is); (case z5 => k_is); (case z6 => k_is); (case z7 => k_is); (case z8 => k_is); (case z9 => k_is); (case z10 => k_is); (case z11 => k_is); (case z12 => k_is); (case z13 => k_is); (case z14 => k_is); (case z15 => k_is); (case z16 => k_is); (case z17 => k_is); (case z18 => k_is)
