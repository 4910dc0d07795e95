import PyProof.Rows.All
import Wide.All
import OpenK.AllK
import Wide.FinOn
import HandS.ForMost
import HandS.Wide
import HandS.Flow
import HandS.Sort
import HandS.Strs
import HandS.Small
import HandS.Conv
import HandS.TupAny
import HandS.Deep
import HandS.SetFor
import HandS.SortInts
import HandS.SetKeys
import HandS.IsInst
import HandS.TupMul
import HandS.TupSets
import HandS.Rev
import HandS.Style
import HandS.TupLe
import HandS.List
import PyProof.WalksMore
import PySem.Challenge.RW_sentintime_k17_whole_never_twice_in_any
set_option Elab.async false
set_option linter.all false
set_option maxRecDepth 100000
set_option maxHeartbeats 4000000
/-! L3: a typed layer over the hand layer. -/
namespace L3
open PySem PySem.Spec PyProof.Rows L2

abbrev Fg := PySem.W.Frag
abbrev PHp := L2.Hp

/-! ### heaps -/
def Sub (B B' : Hp) : Prop := ∀ a o, B a = some o → B' a = some o
def NLo : HO → Bool
  | .tup _ => true
  | .frz _ _ => true
  | _ => false
def TSub (B B' : Hp) : Prop := ∀ a o, B a = some o → NLo o = true → B' a = some o
theorem Sub.refl (B : Hp) : Sub B B := fun _ _ h => h
theorem Sub.trans {A B C : Hp} (h : Sub A B) (k : Sub B C) : Sub A C := fun a o e => k a o (h a o e)
theorem Sub.t {B B' : Hp} (h : Sub B B') : TSub B B' := fun a o e _ => h a o e
theorem Sub.upd {B : Hp} {p : Addr} {o : HO} (h : B p = none) : Sub B (upd B p o) := fun a u e => by
  rw [upd_ne (ne_of_none e h)]; exact e
theorem Sub.none {B H : Hp} (h : Sub B H) {p : Addr} (e : H p = none) : B p = none := by
  cases q : B p with
  | none => rfl
  | some o => rw [h p o q] at e; cases e
theorem Sub.upd2 {B H : Hp} (h : Sub B H) {p : Addr} {o : HO} : Sub (L2.upd B p o) (L2.upd H p o) := fun a u e => by
  by_cases hp : a = p
  · subst hp; rw [upd_same] at e ⊢; exact e
  · rw [upd_ne hp] at e ⊢; exact h a u e
theorem Sub.ext {B H : Hp} (h : Sub B H) {p : Addr} {o : HO} (e : H p = some o) : Sub (L2.upd B p o) H := fun a u q => by
  by_cases hp : a = p
  · subst hp; rw [upd_same] at q; cases q; exact e
  · rw [upd_ne hp] at q; exact h a u q
theorem Sub.rd {B B' : Hp} (h : Sub B B') {a : Addr} {u : HO} (r : Rd B a u) : Rd B' a u := by
  rcases r with r | ⟨o, r⟩
  · exact .inl (h _ _ r)
  · exact .inr ⟨o, h _ _ r⟩
theorem Sub.seqL {K : Fg} {B B' : Hp} (h : Sub B B') {a : Addr} {xs : List V} (r : SqL K B a xs) : SqL K B' a xs := by
  rcases r with r | r
  · exact .inl (h.rd r)
  · exact .inr r
theorem Sub.seqT {K : Fg} {B B' : Hp} (h : Sub B B') {a : Addr} {xs : List V} (r : SqT K B a xs) : SqT K B' a xs := by
  rcases r with r | r
  · exact .inl (h.rd r)
  · exact .inr r
theorem TSub.seqT {K : Fg} {B B' : Hp} (h : TSub B B') {a : Addr} {xs : List V} (r : SqT K B a xs) : SqT K B' a xs := by
  rcases r with (r | ⟨o, r⟩) | r
  · exact .inl (.inl (h _ _ r rfl))
  · exact .inl (.inr ⟨o, h _ _ r rfl⟩)
  · exact .inr r
theorem TSub.refl (B : Hp) : TSub B B := fun _ _ h _ => h
theorem TSub.trans {A B C : Hp} (h : TSub A B) (k : TSub B C) : TSub A C := fun a o e n => k a o (h a o e n) n

/-! ### types -/
structure Ty (α : Type) where
  rep : Fg → Hp → V → α → Prop
  mono : ∀ {K B B' v x}, Sub B B' → rep K B v x → rep K B' v x
  nn : Bool
  nnok : nn = true → ∀ {K B v x}, rep K B v x → v ≠ V.non
  to : Bool
  took : to = true → ∀ {K B B' v x}, TSub B B' → rep K B v x → rep K B' v x

def tInt : Ty Int where
  rep := fun _ _ v x => v = .int x
  mono := fun _ h => h
  nn := true
  nnok := fun _ _ _ _ _ h e => by rw [h] at e; cases e
  to := true
  took := fun _ _ _ _ _ _ _ h => h
def tBool : Ty Bool where
  rep := fun _ _ v x => v = .bl x
  mono := fun _ h => h
  nn := true
  nnok := fun _ _ _ _ _ h e => by rw [h] at e; cases e
  to := true
  took := fun _ _ _ _ _ _ _ h => h
def tStr : Ty Str where
  rep := fun _ _ v x => v = .str x
  mono := fun _ h => h
  nn := true
  nnok := fun _ _ _ _ _ h e => by rw [h] at e; cases e
  to := true
  took := fun _ _ _ _ _ _ _ h => h
def tNon : Ty Unit where
  rep := fun _ _ v _ => v = .non
  mono := fun _ h => h
  nn := false
  nnok := fun h => nomatch h
  to := true
  took := fun _ _ _ _ _ _ _ h => h
def tOpt {α : Type} (T : Ty α) : Ty (Option α) where
  rep := fun K B v x => match x with
    | none => v = .non
    | some y => T.rep K B v y ∧ v ≠ .non
  mono := fun {K B B' v x} s h => by
    cases x with
    | none => exact h
    | some y => exact ⟨T.mono s h.1, h.2⟩
  nn := false
  nnok := fun h => nomatch h
  to := T.to
  took := fun ht K B B' v x s h => by
    cases x with
    | none => exact h
    | some y => exact ⟨T.took ht s h.1, h.2⟩

structure Tys (β : Type) where
  rep : Fg → Hp → List V → β → Prop
  mono : ∀ {K B B' vs x}, Sub B B' → rep K B vs x → rep K B' vs x
  to : Bool
  took : to = true → ∀ {K B B' vs x}, TSub B B' → rep K B vs x → rep K B' vs x
def rNil : Tys Unit where
  rep := fun _ _ vs _ => vs = []
  mono := fun _ h => h
  to := true
  took := fun _ _ _ _ _ _ _ h => h
def rOne {α : Type} (T : Ty α) : Tys α where
  rep := fun K B vs x => ∃ v, vs = [v] ∧ T.rep K B v x
  mono := fun s ⟨v, e, r⟩ => ⟨v, e, T.mono s r⟩
  to := T.to
  took := fun h _ _ _ _ _ s ⟨v, e, r⟩ => ⟨v, e, T.took h s r⟩
def rCons {α β : Type} (T : Ty α) (R : Tys β) : Tys (α × β) where
  rep := fun K B vs x => ∃ v r, vs = v :: r ∧ T.rep K B v x.1 ∧ R.rep K B r x.2
  mono := fun s ⟨v, r, e, h, k⟩ => ⟨v, r, e, T.mono s h, R.mono s k⟩
  to := T.to && R.to
  took := fun h _ _ _ _ _ s ⟨v, r, e, h1, k1⟩ => by
    rw [Bool.and_eq_true] at h
    exact ⟨v, r, e, T.took h.1 s h1, R.took h.2 s k1⟩
theorem Pmap {α β : Type} {F G : α → β → Prop} {xs : List α} {ys : List β} (h : Paired F xs ys) (k : ∀ a b, F a b → G a b) : Paired G xs ys := by
  induction h with
  | nil => exact .nil
  | cons r _ ih => exact .cons (k _ _ r) ih
def rAll {α : Type} (T : Ty α) : Tys (List α) where
  rep := fun K B vs x => Paired (T.rep K B) vs x ∧ x.length ≤ sizeLine
  mono := fun s h => ⟨Pmap h.1 fun _ _ r => T.mono s r, h.2⟩
  to := T.to
  took := fun h _ _ _ _ _ s k => ⟨Pmap k.1 fun _ _ r => T.took h s r, k.2⟩
def rLen {α : Type} (T : Ty α) (n : Nat) : Tys (List α) where
  rep := fun K B vs x => Paired (T.rep K B) vs x ∧ x.length = n
  mono := fun s h => ⟨Pmap h.1 fun _ _ r => T.mono s r, h.2⟩
  to := T.to
  took := fun h _ _ _ _ _ s k => ⟨Pmap k.1 fun _ _ r => T.took h s r, k.2⟩
/-- a tuple that never changes -/
def tTup {β : Type} (R : Tys β) : Ty β where
  rep := fun K B v x => ∃ a vs, v = .ref a ∧ SqT K B a vs ∧ R.rep K B vs x
  mono := fun s ⟨a, vs, e, h, k⟩ => ⟨a, vs, e, s.seqT h, R.mono s k⟩
  nn := true
  nnok := fun _ _ _ _ _ ⟨a, vs, e, _⟩ z => by rw [e] at z; cases z
  to := R.to
  took := fun h _ _ _ _ _ s ⟨a, vs, e, k, r⟩ => ⟨a, vs, e, s.seqT k, R.took h s r⟩
/-- a list that changes no more -/
def tLst {α : Type} (T : Ty α) : Ty (List α) where
  rep := fun K B v x => ∃ a vs, v = .ref a ∧ B a = some (.lst vs) ∧ (rAll T).rep K B vs x
  mono := fun s ⟨a, vs, e, h, k⟩ => ⟨a, vs, e, s _ _ h, (rAll T).mono s k⟩
  nn := true
  nnok := fun _ _ _ _ _ ⟨a, vs, e, _⟩ z => by rw [e] at z; cases z
  to := false
  took := fun h => nomatch h
/-- the script -/
def tScr {α : Type} (T : Ty α) : Ty (List α) where
  rep := fun K B v x => ∃ a vs, v = .ref a ∧ SqL K B a vs ∧ (rAll T).rep K B vs x
  mono := fun s ⟨a, vs, e, h, k⟩ => ⟨a, vs, e, s.seqL h, (rAll T).mono s k⟩
  nn := true
  nnok := fun _ _ _ _ _ ⟨a, vs, e, _⟩ z => by rw [e] at z; cases z
  to := false
  took := fun h => nomatch h
abbrev tAll {α : Type} (T : Ty α) : Ty (List α) := tTup (rAll T)
abbrev tPair {α β : Type} (T : Ty α) (U : Ty β) : Ty (α × β) := tTup (rCons T (rOne U))
abbrev tTrip {α β γ : Type} (T : Ty α) (U : Ty β) (W : Ty γ) : Ty (α × β × γ) := tTup (rCons T (rCons U (rOne W)))
abbrev tQuad {α β γ δ : Type} (T : Ty α) (U : Ty β) (W : Ty γ) (Z : Ty δ) : Ty (α × β × γ × δ) := tTup (rCons T (rCons U (rCons W (rOne Z))))

/-- an object of one's own -/
structure OTy (α : Type) where
  rep : Fg → Hp → HO → α → Prop
  mono : ∀ {K B B' o x}, Sub B B' → rep K B o x → rep K B' o x
  mtb : ∀ {K B o x}, rep K B o x → Mut (some o)
  fz : Ty α
  fzok : ∀ {K B a o x}, B a = some o → rep K B o x → fz.rep K B (.ref a) x
  to : Bool
  took : to = true → ∀ {K B B' o x}, TSub B B' → rep K B o x → rep K B' o x
def oLst {α : Type} (T : Ty α) : OTy (List α) where
  rep := fun K B o x => ∃ vs, o = .lst vs ∧ (rAll T).rep K B vs x
  mono := fun s ⟨vs, e, h⟩ => ⟨vs, e, (rAll T).mono s h⟩
  mtb := fun ⟨vs, e, h⟩ => by subst e; trivial
  fz := tLst T
  fzok := fun {K B a o x} h ⟨vs, e, k⟩ => ⟨a, vs, rfl, by subst e; exact h, k⟩
  to := T.to
  took := fun h _ _ _ _ _ s ⟨vs, e, k⟩ => ⟨vs, e, (rAll T).took h s k⟩

/-! ### slots -/
structure Loc where
  α : Type
  holds : Fg → Hp → Hp → List Addr → Option V → α → Prop
  frame : ∀ {K B B' H H' own s x}, Sub B B' → (∀ a ∈ own, H' a = H a) → holds K B H own s x → holds K B' H' own s x
  there : ∀ {K B H own s x}, holds K B H own s x → ∀ a ∈ own, H a ≠ none
def lNone : Loc where
  α := Unit
  holds := fun _ _ _ own _ _ => own = []
  frame := fun _ _ h => h
  there := fun h a m => by rw [h] at m; cases m
def lImm {α : Type} (T : Ty α) : Loc where
  α := α
  holds := fun K B _ own s x => own = [] ∧ ∃ v, s = some v ∧ T.rep K B v x
  frame := fun s _ ⟨h, v, e, r⟩ => ⟨h, v, e, T.mono s r⟩
  there := fun h a m => by rw [h.1] at m; cases m
def lOwn {α : Type} (O : OTy α) (f : Option Addr) : Loc where
  α := α
  holds := fun K B H own s x => ∃ l o, own = [l] ∧ s = some (.ref l) ∧ H l = some o ∧ O.rep K B o x ∧ ∀ d, f = some d → l = d
  frame := fun s k ⟨l, o, h, e, q, r, z⟩ => ⟨l, o, h, e, by rw [k l (by rw [h]; exact List.mem_singleton.mpr rfl)]; exact q, O.mono s r, z⟩
  there := fun ⟨l, o, h, e, q, r, z⟩ a m => by
    rw [h] at m
    rw [List.mem_singleton.mp m, q]
    exact fun z => nomatch z

@[reducible] def Env : List Loc → Type
  | [] => Unit
  | l :: L => l.α × Env L
inductive Ix : Loc → Nat → List Loc → Type 1
  | z {l L} : Ix l 0 (l :: L)
  | s {l n k L} : Ix l n L → Ix l (n + 1) (k :: L)
inductive Put : Loc → Nat → List Loc → List Loc → Type 1
  | z {l k L} : Put l 0 (k :: L) (l :: L)
  | s {l n k L L'} : Put l n L L' → Put l (n + 1) (k :: L) (k :: L')
@[reducible] def Ix.get : {l : Loc} → {n : Nat} → {L : List Loc} → Ix l n L → Env L → l.α
  | _, _, _, .z, ρ => ρ.1
  | _, _, _, .s i, ρ => i.get ρ.2
@[reducible] def Ix.set : {l : Loc} → {n : Nat} → {L : List Loc} → Ix l n L → l.α → Env L → Env L
  | _, _, _, .z, x, ρ => (x, ρ.2)
  | _, _, _, .s i, x, ρ => (ρ.1, i.set x ρ.2)
@[reducible] def Put.put : {l : Loc} → {n : Nat} → {L L' : List Loc} → Put l n L L' → l.α → Env L → Env L'
  | _, _, _, _, .z, x, ρ => (x, ρ.2)
  | _, _, _, _, .s i, x, ρ => (ρ.1, i.put x ρ.2)

def Rel (K : Fg) (B H : Hp) : (L : List Loc) → List Addr → List (Option V) → Env L → Prop
  | [], own, σ, _ => own = [] ∧ σ = []
  | l :: L, own, σ, ρ => ∃ o1 o2 s σ', own = o1 ++ o2 ∧ σ = s :: σ' ∧ l.holds K B H o1 s ρ.1 ∧ Rel K B H L o2 σ' ρ.2

section
variable {K : Fg} {B B' H H' : Hp}
theorem Rel.frame (s : Sub B B') : ∀ {L : List Loc} {own : List Addr} {σ : List (Option V)} {ρ : Env L}, (∀ a ∈ own, H' a = H a) → Rel K B H L own σ ρ → Rel K B' H' L own σ ρ
  | [], _, _, _, _, h => h
  | l :: L, own, σ, ρ, k, ⟨o1, o2, v, σ', e1, e2, h, r⟩ => by
    subst e1
    exact ⟨o1, o2, v, σ', rfl, e2, l.frame s (fun a m => k a (List.mem_append_left _ m)) h, Rel.frame s (fun a m => k a (List.mem_append_right _ m)) r⟩
theorem Rel.there : ∀ {L : List Loc} {own : List Addr} {σ : List (Option V)} {ρ : Env L}, Rel K B H L own σ ρ → ∀ a ∈ own, H a ≠ none
  | [], _, _, _, h, a, m => by rw [h.1] at m; cases m
  | l :: L, own, σ, ρ, ⟨o1, o2, v, σ', e1, e2, h, r⟩, a, m => by
    subst e1
    rcases List.mem_append.mp m with m | m
    · exact l.there h a m
    · exact Rel.there r a m
theorem Rel.imm {α : Type} {T : Ty α} : ∀ {n : Nat} {L : List Loc} (i : Ix (lImm T) n L) {own σ} {ρ : Env L}, Rel K B H L own σ ρ → ∃ v, σ[n]? = some (some v) ∧ T.rep K B v (i.get ρ)
  | _, _, .z, own, σ, ρ, ⟨o1, o2, s, σ', e1, e2, ⟨_, v, e3, r⟩, _⟩ => ⟨v, by rw [e2, e3]; rfl, r⟩
  | _, _, .s i, own, σ, ρ, ⟨o1, o2, s, σ', e1, e2, h, k⟩ => by
    obtain ⟨v, e, r⟩ := Rel.imm i k
    exact ⟨v, by rw [e2]; exact e, r⟩
theorem Rel.own {α : Type} {O : OTy α} {f : Option Addr} : ∀ {n : Nat} {L : List Loc} (i : Ix (lOwn O f) n L) {own σ} {ρ : Env L}, Rel K B H L own σ ρ → ∃ l o, σ[n]? = some (some (.ref l)) ∧ l ∈ own ∧ H l = some o ∧ O.rep K B o (i.get ρ) ∧ ∀ d, f = some d → l = d
  | _, _, .z, own, σ, ρ, ⟨o1, o2, s, σ', e1, e2, ⟨l, o, a1, a2, a3, a4⟩, _⟩ => ⟨l, o, by rw [e2, a2]; rfl, by rw [e1, a1]; exact List.mem_append_left _ (List.mem_singleton.mpr rfl), a3, a4⟩
  | _, _, .s i, own, σ, ρ, ⟨o1, o2, s, σ', e1, e2, h, k⟩ => by
    obtain ⟨l, o, e, m, q, r⟩ := Rel.own i k
    exact ⟨l, o, by rw [e2]; exact e, by rw [e1]; exact List.mem_append_right _ m, q, r⟩
theorem Rel.put {l : Loc} : ∀ {n : Nat} {L L' : List Loc} (p : Put l n L L') {own σ} {ρ : Env L} {o : List Addr} {v : Option V} {x : l.α}, l.holds K B H o v x → Rel K B H L own σ ρ →
    ∃ own' own2 : List Addr, Rel K B H L' own' (σ.set n v) (p.put x ρ) ∧ own2.Sublist own ∧ (own'.Perm (o ++ own2))
  | _, _, _, .z, own, σ, ρ, o, v, x, h, ⟨o1, o2, s, σ', e1, e2, _, k⟩ => by
    subst e1 e2
    exact ⟨o ++ o2, o2, ⟨o, o2, v, σ', rfl, rfl, h, k⟩, List.sublist_append_right _ _, .refl _⟩
  | _, _, _, .s i, own, σ, ρ, o, v, x, h, ⟨o1, o2, s, σ', e1, e2, h2, k⟩ => by
    subst e1 e2
    obtain ⟨own', own2, r, s1, p1⟩ := Rel.put i h k
    refine ⟨o1 ++ own', o1 ++ own2, ⟨o1, own', s, _, rfl, rfl, h2, r⟩, s1.append_left o1, ?_⟩
    refine (p1.append_left o1).trans ?_
    rw [← List.append_assoc, ← List.append_assoc]
    exact (List.perm_append_comm).append_right own2
/-- own objects of two slots are two -/
def OneOwn (l : Loc) : Prop := ∀ {K B H own s x}, l.holds K B H own s x → ∃ a, own = [a] ∧ s = some (.ref a)
theorem Rel.has {l : Loc} (h1 : OneOwn l) : ∀ {n : Nat} {L : List Loc} (i : Ix l n L) {own σ} {ρ : Env L}, Rel K B H L own σ ρ → ∃ a, σ[n]? = some (some (.ref a)) ∧ a ∈ own
  | _, _, .z, own, σ, ρ, ⟨o1, o2, s, σ', e1, e2, h, _⟩ => by
    obtain ⟨a, z1, z2⟩ := h1 h
    exact ⟨a, by rw [e2, z2]; rfl, by rw [e1, z1]; exact List.mem_append_left _ (List.mem_singleton.mpr rfl)⟩
  | _, _, .s i, own, σ, ρ, ⟨o1, o2, s, σ', e1, e2, h, k⟩ => by
    obtain ⟨a, e, m⟩ := Rel.has h1 i k
    exact ⟨a, by rw [e2]; exact e, by rw [e1]; exact List.mem_append_right _ m⟩
theorem Rel.apart0 {l1 l2 : Loc} (h1 : OneOwn l1) (h2 : OneOwn l2) : ∀ {n j : Nat} {L : List Loc} (i : Ix l1 n L) (k : Ix l2 j L) {own σ} {ρ : Env L} {l m : Addr}, n ≠ j → own.Nodup →
    Rel K B H L own σ ρ → σ[n]? = some (some (.ref l)) → σ[j]? = some (some (.ref m)) → m ≠ l := by
  intro n j L i
  induction i generalizing j with
  | z =>
    intro k
    cases k with
    | z => exact fun h => absurd rfl h
    | s k =>
      rename_i j
      intro own σ ρ l m _ nd ⟨o1, o2, s, σ', e1, e2, h, r⟩ q1 q2
      obtain ⟨a, z1, z2⟩ := h1 h
      subst e1 e2 z1 z2
      have e3 : a = l := by simpa using q1
      obtain ⟨b, b1, b2⟩ := Rel.has h2 k r
      have q2' : σ'[j]? = some (some (V.ref m)) := q2
      rw [b1] at q2'
      have e4 : b = m := by simpa using q2'
      subst e3 e4
      intro z
      subst z
      exact (List.nodup_cons.mp nd).1 b2
  | s i ih =>
    rename_i n _ _
    intro k
    cases k with
    | z =>
      intro own σ ρ l m _ nd ⟨o1, o2, s, σ', e1, e2, h, r⟩ q1 q2
      obtain ⟨a, z1, z2⟩ := h2 h
      subst e1 e2 z1 z2
      have e3 : a = m := by simpa using q2
      obtain ⟨b, b1, b2⟩ := Rel.has h1 i r
      have q1' : σ'[n]? = some (some (V.ref l)) := q1
      rw [b1] at q1'
      have e4 : b = l := by simpa using q1'
      subst e3 e4
      intro z
      subst z
      exact (List.nodup_cons.mp nd).1 b2
    | s k =>
      intro own σ ρ l m h nd ⟨o1, o2, s, σ', e1, e2, _, r⟩ q1 q2
      subst e1 e2
      exact ih k (fun z => h (by rw [z])) (List.nodup_append.mp nd).2.1 r q1 q2
theorem oneOwn {α : Type} {O : OTy α} {f : Option Addr} : OneOwn (lOwn O f) := fun ⟨l, o, h, e, _⟩ => ⟨l, h, e⟩
theorem Rel.apart {α β : Type} {O : OTy α} {P : OTy β} {f g : Option Addr} {n j : Nat} {L : List Loc} (i : Ix (lOwn O f) n L) (k : Ix (lOwn P g) j L) {own σ} {ρ : Env L} {l m : Addr} (h : n ≠ j) (nd : own.Nodup)
    (r : Rel K B H L own σ ρ) (q1 : σ[n]? = some (some (.ref l))) (q2 : σ[j]? = some (some (.ref m))) : m ≠ l := Rel.apart0 oneOwn oneOwn i k h nd r q1 q2
/-- the content of an own object is changed -/
theorem Rel.setc {α : Type} {O : OTy α} {f : Option Addr} {o' : HO} {x' : α} (h : O.rep K B o' x') : ∀ {n : Nat} {L : List Loc} (i : Ix (lOwn O f) n L) {own σ} {ρ : Env L} {l : Addr}, σ[n]? = some (some (.ref l)) → own.Nodup → Rel K B H L own σ ρ →
    Rel K B (upd H l o') L own σ (i.set x' ρ)
  | _, _, .z, own, σ, ρ, l, e, nd, ⟨o1, o2, s, σ', e1, e2, ⟨l1, ob, a1, a2, a3, a4, a5⟩, k⟩ => by
    subst e2 a2 a1 e1
    have e3 : l1 = l := by
      have := e
      simp at this
      exact this
    subst e3
    refine ⟨[l1], o2, _, σ', rfl, rfl, ⟨l1, o', rfl, rfl, upd_same, h, a5⟩, k.frame (Sub.refl B) fun a m => ?_⟩
    refine upd_ne fun z => ?_
    subst z
    exact (List.nodup_cons.mp nd).1 m
  | n + 1, _, .s i, own, σ, ρ, l, e, nd, ⟨o1, o2, s, σ', e1, e2, h2, k⟩ => by
    subst e1 e2
    have e' : σ'[n]? = some (some (V.ref l)) := e
    have r := Rel.setc h i (l := l) e' ((List.nodup_append.mp nd).2.1) k
    obtain ⟨l2, ob, q1, q2, _⟩ := Rel.own i k
    rw [q1] at e'
    have : l2 = l := by
      simp at e'
      exact e'
    subst this
    refine ⟨o1, o2, s, σ', rfl, rfl, Loc.frame _ (Sub.refl B) (fun a m => ?_) h2, r⟩
    refine upd_ne fun z => ?_
    subst z
    exact (List.nodup_append.mp nd).2.2 _ m _ q2 rfl
theorem Rel.len : ∀ {L : List Loc} {own σ} {ρ : Env L}, Rel K B H L own σ ρ → σ.length = L.length
  | [], _, _, _, ⟨_, e⟩ => by rw [e]; rfl
  | l :: L, _, _, _, ⟨_, _, _, _, _, e, _, r⟩ => by rw [e, List.length_cons, List.length_cons, r.len]
/-- an own object is locked for good -/
theorem Rel.lock {α : Type} {O : OTy α} {f : Option Addr} : ∀ {n : Nat} {L L' : List Loc} (i : Ix (lOwn O f) n L) (p : Put (lImm O.fz) n L L') {own σ} {ρ : Env L}, Rel K B H L own σ ρ → own.Nodup → (∀ a ∈ own, B a = none) →
    ∃ l o own', σ[n]? = some (some (.ref l)) ∧ H l = some o ∧ l ∈ own ∧ own'.Sublist own ∧ l ∉ own' ∧ Rel K (upd B l o) H L' own' σ (p.put (i.get ρ) ρ)
  | _, _, _, .z, .z, own, σ, ρ, ⟨o1, o2, s, σ', e1, e2, ⟨l, o, a1, a2, a3, a4, _⟩, k⟩, nd, nb => by
    subst e1 e2 a1 a2
    have hb : B l = none := nb l (List.mem_append_left _ (List.mem_singleton.mpr rfl))
    have sb : Sub B (upd B l o) := Sub.upd hb
    exact ⟨l, o, o2, rfl, a3, List.mem_append_left _ (List.mem_singleton.mpr rfl), List.sublist_append_right _ _, (List.nodup_cons.mp nd).1,
      [], o2, _, σ', rfl, rfl, ⟨rfl, _, rfl, O.fzok upd_same (O.mono sb a4)⟩, k.frame sb fun _ _ => rfl⟩
  | _, _, _, .s i, .s p, own, σ, ρ, ⟨o1, o2, s, σ', e1, e2, h2, k⟩, nd, nb => by
    subst e1 e2
    obtain ⟨l, o, own', q1, q2, q3, q4, q5, q6⟩ := Rel.lock i p k ((List.nodup_append.mp nd).2.1) fun a m => nb a (List.mem_append_right _ m)
    have hb : B l = none := nb l (List.mem_append_right _ q3)
    refine ⟨l, o, o1 ++ own', q1, q2, List.mem_append_right _ q3, q4.append_left o1, fun m => ?_, o1, own', s, σ', rfl, rfl, Loc.frame _ (Sub.upd hb) (fun _ _ => rfl) h2, q6⟩
    rcases List.mem_append.mp m with m | m
    · exact (List.nodup_append.mp nd).2.2 _ m _ q3 rfl
    · exact q5 m
end

/-! ### the state -/
structure Fr where
  H0 : Hp
  B0 : Hp
  M : List Addr
structure StO (K : Fg) (F : Fr) (L : List Loc) (own : List Addr) (B : Hp) (ρ : Env L) (σ : List (Option V)) (H : Hp) : Prop where
  base : Sub F.B0 B
  sub : Sub B H
  keep : ∀ a o, a ∉ F.M → F.H0 a = some o → H a = some o
  old : ∀ a, F.H0 a ≠ none → B a ≠ none → F.B0 a ≠ none ∨ a ∈ F.M
  rel : Rel K B H L own σ ρ
  nd : own.Nodup
  own : ∀ a ∈ own, B a = none ∧ (F.H0 a = none ∨ a ∈ F.M)
def Stt (K : Fg) (F : Fr) (L : List Loc) (B : Hp) (ρ : Env L) (σ : List (Option V)) (H : Hp) : Prop := ∃ own, StO K F L own B ρ σ H

/-- what grows and changes nothing -/
structure Grow (B H B' H' : Hp) : Prop where
  b : Sub B B'
  h : Sub H H'
  s : Sub B' H'
  old : ∀ a, B' a ≠ none → B a ≠ none ∨ H a = none
theorem Grow.refl {B H : Hp} (s : Sub B H) : Grow B H B H := ⟨Sub.refl B, Sub.refl H, s, fun _ h => .inl h⟩
theorem Grow.new {B H : Hp} (s : Sub B H) {p : Addr} {o : HO} (e : H p = none) : Grow B H (upd B p o) (upd H p o) :=
  ⟨Sub.upd (s.none e), Sub.upd e, s.upd2, fun a h => by
    by_cases hp : a = p
    · subst hp; exact .inr e
    · rw [upd_ne hp] at h; exact .inl h⟩
theorem Grow.trans {B H B1 H1 B2 H2 : Hp} (g : Grow B H B1 H1) (k : Grow B1 H1 B2 H2) : Grow B H B2 H2 :=
  ⟨g.b.trans k.b, g.h.trans k.h, k.s, fun a h => by
    rcases k.old a h with z | z
    · exact g.old a z
    · exact .inr (g.h.none z)⟩

section
variable {K : Fg} {F : Fr} {L L' : List Loc} {B B' H H' : Hp} {ρ : Env L} {σ : List (Option V)}
theorem StO.grow {own : List Addr} (S : StO K F L own B ρ σ H) (g : Grow B H B' H') : StO K F L own B' ρ σ H' where
  base := S.base.trans g.b
  sub := g.s
  keep := fun a o m e => g.h a o (S.keep a o m e)
  old := fun a h0 hb => by
    rcases g.old a hb with z | z
    · exact S.old a h0 z
    · by_cases hm : a ∈ F.M
      · exact .inr hm
      · cases e : F.H0 a with
        | none => exact absurd e h0
        | some o => rw [S.keep a o hm e] at z; cases z
  rel := S.rel.frame g.b fun a m => by
    cases e : H a with
    | none => exact absurd e (S.rel.there a m)
    | some o => exact g.h a o e
  nd := S.nd
  own := fun a m => ⟨by
    cases e : B' a with
    | none => rfl
    | some o =>
      rcases g.old a (by rw [e]; simp) with z | z
      · exact absurd (S.own a m).1 z
      · exact absurd z (S.rel.there a m), (S.own a m).2⟩
theorem Stt.grow (S : Stt K F L B ρ σ H) (g : Grow B H B' H') : Stt K F L B' ρ σ H' := let ⟨own, S⟩ := S; ⟨own, S.grow g⟩
/-- the frame at a point within -/
abbrev frAt (H B : Hp) (own : List Addr) : Fr := ⟨H, B, own⟩
theorem StO.inner {own : List Addr} (S : StO K F L own B ρ σ H) : StO K (frAt H B own) L own B ρ σ H :=
  ⟨Sub.refl B, S.sub, fun _ _ _ e => e, fun a _ h => .inl h, S.rel, S.nd, fun a m => ⟨(S.own a m).1, .inr m⟩⟩
theorem StO.outer {own own' : List Addr} {ρ' : Env L'} {σ' : List (Option V)} (S : StO K F L own B ρ σ H) (S' : StO K (frAt H B own) L' own' B' ρ' σ' H') : StO K F L' own' B' ρ' σ' H' where
  base := S.base.trans S'.base
  sub := S'.sub
  keep := fun a o m e => S'.keep a o (fun z => by
    rcases (S.own a z).2 with h | h
    · rw [e] at h; cases h
    · exact m h) (S.keep a o m e)
  old := fun a h0 hb => by
    by_cases hm : a ∈ F.M
    · exact .inr hm
    · cases e : F.H0 a with
      | none => exact absurd e h0
      | some o =>
        rcases S'.old a (by show H a ≠ none; rw [S.keep a o hm e]; exact fun z => nomatch z) hb with z | z
        · exact S.old a h0 z
        · rcases (S.own a z).2 with y | y
          · exact absurd y h0
          · exact .inr y
  rel := S'.rel
  nd := S'.nd
  own := fun a m => ⟨(S'.own a m).1, by
    by_cases hm : a ∈ F.M
    · exact .inr hm
    · cases e : F.H0 a with
      | none => exact .inl rfl
      | some o =>
        have e1 := S.keep a o hm e
        rcases (S'.own a m).2 with z | z
        · rw [show (frAt H B own).H0 a = H a from rfl, e1] at z; cases z
        · rcases (S.own a z).2 with y | y
          · rw [e] at y; cases y
          · exact absurd y hm⟩
/-- an address that is neither tracked at the start nor in use -/
theorem StO.fresh {own : List Addr} (S : StO K F L own B ρ σ H) {p : Addr} (h : H p = none) : B p = none ∧ p ∉ own ∧ (F.H0 p = none ∨ p ∈ F.M) :=
  ⟨S.sub.none h, fun m => S.rel.there p m h, by
    by_cases hm : p ∈ F.M
    · exact .inr hm
    · cases e : F.H0 p with
      | none => exact .inl rfl
      | some o => rw [S.keep p o hm e] at h; cases h⟩
/-- a slot is stored, a value of an immutable type -/
theorem StO.putI {own : List Addr} (S : StO K F L own B ρ σ H) {α : Type} {T : Ty α} {n : Nat} (p : Put (lImm T) n L L') {v : V} {x : α} (r : T.rep K B v x) : Stt K F L' B (p.put x ρ) (σ.set n (some v)) H := by
  obtain ⟨own', own2, r', s1, p1⟩ := S.rel.put p (o := []) (v := some v) (x := x) ⟨rfl, v, rfl, r⟩
  refine ⟨own', S.base, S.sub, S.keep, S.old, r', p1.nodup_iff.mpr (by simpa using S.nd.sublist s1), fun a m => S.own a (s1.subset (by simpa using p1.mem_iff.mp m))⟩
theorem Stt.putI (S : Stt K F L B ρ σ H) {α : Type} {T : Ty α} {n : Nat} (p : Put (lImm T) n L L') {v : V} {x : α} (r : T.rep K B v x) : Stt K F L' B (p.put x ρ) (σ.set n (some v)) H := let ⟨_, S⟩ := S; S.putI p r
/-- a slot is stored, a new object -/
theorem StO.putO {own : List Addr} (S : StO K F L own B ρ σ H) {α : Type} {O : OTy α} {n : Nat} (p : Put (lOwn O none) n L L') {l : Addr} {o : HO} {x : α} (h : H l = some o) (r : O.rep K B o x) (hb : B l = none) (hl : l ∉ own) (hf : F.H0 l = none ∨ l ∈ F.M) :
    Stt K F L' B (p.put x ρ) (σ.set n (some (.ref l))) H := by
  obtain ⟨own', own2, r', s1, p1⟩ := S.rel.put p (o := [l]) (v := some (.ref l)) (x := x) ⟨l, o, rfl, rfl, h, r, fun _ z => nomatch z⟩
  refine ⟨own', S.base, S.sub, S.keep, S.old, r', p1.nodup_iff.mpr (List.nodup_cons.mpr ⟨fun m => hl (s1.subset m), S.nd.sublist s1⟩), fun a m => ?_⟩
  rcases List.mem_cons.mp (p1.mem_iff.mp m) with e | e
  · subst e; exact ⟨hb, hf⟩
  · exact S.own a (s1.subset e)
/-- a slot is forgotten (whatever it holds) -/
theorem Stt.drop (S : Stt K F L B ρ σ H) {n : Nat} (p : Put lNone n L L') (v : Option V) : Stt K F L' B (p.put () ρ) (σ.set n v) H := by
  obtain ⟨own, S⟩ := S
  obtain ⟨own', own2, r', s1, p1⟩ := S.rel.put p (o := []) (v := v) (x := ()) rfl
  refine ⟨own', S.base, S.sub, S.keep, S.old, r', p1.nodup_iff.mpr (by simpa using S.nd.sublist s1), fun a m => S.own a (s1.subset (by simpa using p1.mem_iff.mp m))⟩
theorem set_self {α : Type} : ∀ {l : List α} {n : Nat} {x : α}, l[n]? = some x → l.set n x = l
  | [], _, _, h => by simp at h
  | a :: l, 0, x, h => by simp at h; subst h; rfl
  | a :: l, n + 1, x, h => by
    show a :: l.set n x = a :: l
    rw [set_self (by simpa using h)]
theorem set_out {α : Type} : ∀ {l : List α} {n : Nat} {x : α}, l[n]? = none → l.set n x = l
  | [], _, _, h => rfl
  | a :: l, 0, x, h => by simp at h
  | a :: l, n + 1, x, h => by
    show a :: l.set n x = a :: l
    rw [set_out (by simpa using h)]
theorem Stt.forget (S : Stt K F L B ρ σ H) {n : Nat} (p : Put lNone n L L') : Stt K F L' B (p.put () ρ) σ H := by
  cases e : σ[n]? with
  | none =>
    have := S.drop p none
    rwa [set_out e] at this
  | some v =>
    have := S.drop p v
    rwa [set_self e] at this
/-- a new object, locked at once -/
theorem Stt.newB (S : Stt K F L B ρ σ H) {p : Addr} {o : HO} (h : H p = none) : Stt K F L (upd B p o) ρ σ (upd H p o) := let ⟨_, S'⟩ := S; S.grow (Grow.new S'.sub h)
/-- a new object, own -/
theorem StO.newH {own : List Addr} (S : StO K F L own B ρ σ H) {p : Addr} {o : HO} (h : H p = none) : StO K F L own B ρ σ (upd H p o) where
  base := S.base
  sub := S.sub.trans (Sub.upd h)
  keep := fun a u m e => by
    have := S.keep a u m e
    rw [upd_ne (ne_of_none this h)]; exact this
  old := S.old
  rel := S.rel.frame (Sub.refl B) fun a m => upd_ne fun z => S.rel.there a m (by rw [z]; exact h)
  nd := S.nd
  own := S.own
/-- an own object of a slot is changed -/
theorem StO.setc {own : List Addr} (S : StO K F L own B ρ σ H) {α : Type} {O : OTy α} {f : Option Addr} {n : Nat} (i : Ix (lOwn O f) n L) {l : Addr} {o' : HO} {x' : α} (e : σ[n]? = some (some (.ref l))) (hl : l ∈ own) (r : O.rep K B o' x') : StO K F L own B (i.set x' ρ) σ (upd H l o') where
  base := S.base
  sub := fun a o q => by
    have hb := (S.own l hl).1
    rw [upd_ne (ne_of_none q hb)]; exact S.sub a o q
  keep := fun a o m q => by
    refine (upd_ne fun z => ?_).trans (S.keep a o m q)
    subst z
    rcases (S.own a hl).2 with y | y
    · rw [q] at y; cases y
    · exact m y
  old := S.old
  rel := Rel.setc r i e S.nd S.rel
  nd := S.nd
  own := S.own
/-- an own object is locked for good -/
theorem Stt.lock (S : Stt K F L B ρ σ H) {α : Type} {O : OTy α} {f : Option Addr} {n : Nat} (i : Ix (lOwn O f) n L) (p : Put (lImm O.fz) n L L') : ∃ B', Sub B B' ∧ Stt K F L' B' (p.put (i.get ρ) ρ) σ H := by
  obtain ⟨own, S⟩ := S
  obtain ⟨l, o, own', q1, q2, q3, q4, q5, q6⟩ := Rel.lock i p S.rel S.nd fun a m => (S.own a m).1
  have hb := (S.own l q3).1
  refine ⟨upd B l o, Sub.upd hb, own', S.base.trans (Sub.upd hb), S.sub.ext q2, S.keep, fun a h0 h1 => ?_, q6, S.nd.sublist q4, fun a m => ⟨?_, (S.own a (q4.subset m)).2⟩⟩
  · by_cases z : a = l
    · subst z
      rcases (S.own a q3).2 with y | y
      · exact absurd y h0
      · exact .inr y
    · rw [upd_ne z] at h1; exact S.old a h0 h1
  · rw [upd_ne fun z => q5 (by rw [← z]; exact m)]
    exact (S.own a (q4.subset m)).1
end
end L3

/-! L3: the judgements and the rules of statements. -/
namespace L3
open PySem PySem.Spec PyProof.Rows L2

/-- what an expression does, with what follows: on a state, what to do with its value and the state behind -/
abbrev Mo (L : List Loc) (α : Type) := (ω : Type) → Env L → (α → Env L → Option ω) → Option ω
/-- an expression of type T -/
def tE (K : Fg) (L : List Loc) {α : Type} (T : Ty α) (m : Mo L α) : TE := fun σ H Q => ∃ (F : Fr) (B : Hp) (ρ : Env L) (ω : Type) (k : α → Env L → Option ω) (o : ω), Stt K F L B ρ σ H ∧ m ω ρ k = some o ∧
  ∀ B' v H' x ρ', Sub B B' → Stt K F L B' ρ' σ H' → T.rep K B' v x → k x ρ' = some o → Q v H'
/-- .. that makes a new object -/
def tO (K : Fg) (L : List Loc) {α : Type} (O : OTy α) (m : Mo L α) : TE := fun σ H Q => ∃ (F : Fr) (B : Hp) (ρ : Env L) (ω : Type) (k : α → Env L → Option ω) (o : ω), Stt K F L B ρ σ H ∧ m ω ρ k = some o ∧
  ∀ B' p u H' own x ρ', Sub B B' → StO K F L own B' ρ' σ H' → H' p = some u → O.rep K B' u x → B' p = none → p ∉ own → (F.H0 p = none ∨ p ∈ F.M) → k x ρ' = some o → Q (.ref p) H'
def tC (K : Fg) (L : List Loc) (m : Mo L Bool) : TT := fun σ H Q => ∃ (F : Fr) (B : Hp) (ρ : Env L) (ω : Type) (k : Bool → Env L → Option ω) (o : ω), Stt K F L B ρ σ H ∧ m ω ρ k = some o ∧
  ∀ B' H' x ρ', Sub B B' → Stt K F L B' ρ' σ H' → k x ρ' = some o → Q x H'
def tAr (K : Fg) (L : List Loc) {β : Type} (R : Tys β) (m : Mo L β) : TA := fun σ H Q => ∃ (F : Fr) (B : Hp) (ρ : Env L) (ω : Type) (k : β → Env L → Option ω) (o : ω), Stt K F L B ρ σ H ∧ m ω ρ k = some o ∧
  ∀ B' vs H' x ρ', Sub B B' → Stt K F L B' ρ' σ H' → R.rep K B' vs x → k x ρ' = some o → Q vs H'
/-- several values, one after another, no argument list's -/
theorem pe_weak {X : Cx} {e : Expr} {t t' : TE} (h : PE X e t) (k : ∀ σ H Q, t' σ H Q → t σ H Q) : PE X e t' := ⟨fun pins s σ H Q I q => h.run pins s σ H Q I (k σ H Q q)⟩
theorem pt_weak {X : Cx} {e : Expr} {t t' : TT} (h : PT X e t) (k : ∀ σ H Q, t' σ H Q → t σ H Q) : PT X e t' := ⟨fun pins s σ H Q I q => h.run pins s σ H Q I (k σ H Q q)⟩
theorem pw_weak {X : Cx} {e : Expr} {t t' : TT} (h : PW X e t) (k : ∀ σ H Q, t' σ H Q → t σ H Q) : PW X e t' := ⟨fun wh pins s σ H Q I q => h.run wh pins s σ H Q I (k σ H Q q)⟩
theorem pa_weak {X : Cx} {e : List Expr} {t t' : TA} (h : PA X e t) (k : ∀ σ H Q, t' σ H Q → t σ H Q) : PA X e t' := ⟨fun pos pins s σ H Q I q => h.run pos pins s σ H Q I (k σ H Q q)⟩
theorem ps_weak {X : Cx} {e : Stmt} {t t' : TS} (h : PS X e t) (k : ∀ D σ H, t' D σ H → t D σ H) : PS X e t' := ⟨fun pins s σ H D I q => h.run pins s σ H D I (k D σ H q)⟩
theorem pss_weak {X : Cx} {e : List Stmt} {t t' : TS} (h : PSs X e t) (k : ∀ D σ H, t' D σ H → t D σ H) : PSs X e t' := ⟨fun pins s σ H D I q => h.run pins s σ H D I (k D σ H q)⟩
theorem pg_weak {X : Cx} {e : Expr} {t t' : TG} (h : PG X e t) (k : ∀ v σ H Q, t' v σ H Q → t v σ H Q) : PG X e t' := ⟨fun pins s σ H v u Q I r q => h.run pins s σ H v u Q I r (k v σ H Q q)⟩
theorem pi_weak {X : Cx} {tg e : Expr} {t t' : TI} (h : PI X tg e t) (k : ∀ σ H R, t' σ H R → t σ H R) : PI X tg e t' := ⟨fun pins s σ H R I q => h.run pins s σ H R I (k σ H R q)⟩

/-! ### outcomes -/
inductive Out (N C R : Type) where
  | nx (n : N) | bk (c : C) | ct (c : C) | rt (r : R)
/-- what is handed back -/
structure RS where
  R : Type
  ok : Fg → Fr → V → Hp → R → Prop
abbrev Ms (L L' Lh : List Loc) (S : RS) := (ω : Type) → Env L → (Out (Env L') (Env Lh) S.R → Option ω) → Option ω
def After (K : Fg) (F : Fr) (L' Lh : List Loc) (S : RS) (B : Hp) (D : Ends) : Out (Env L') (Env Lh) S.R → Prop
  | .nx ρ' => ∀ B' σ' H', Sub B B' → Stt K F L' B' ρ' σ' H' → D.nx σ' H'
  | .bk ρ' => ∀ B' σ' H', Sub B B' → Stt K F Lh B' ρ' σ' H' → D.bk σ' H'
  | .ct ρ' => ∀ B' σ' H', Sub B B' → Stt K F Lh B' ρ' σ' H' → D.ct σ' H'
  | .rt r => ∀ v H', S.ok K F v H' r → D.rt v H'
def tS (K : Fg) (L L' Lh : List Loc) (S : RS) (m : Ms L L' Lh S) : TS := fun D σ H => ∃ (F : Fr) (B : Hp) (ρ : Env L) (ω : Type) (k : Out (Env L') (Env Lh) S.R → Option ω) (o : ω), Stt K F L B ρ σ H ∧ m ω ρ k = some o ∧
  ∀ out, k out = some o → After K F L' Lh S B D out
theorem After.sub {K : Fg} {F : Fr} {L' Lh : List Loc} {S : RS} {B B1 : Hp} {D : Ends} {o : Out (Env L') (Env Lh) S.R} (h : After K F L' Lh S B D o) (s : Sub B B1) : After K F L' Lh S B1 D o := by
  cases o with
  | nx r => exact fun B' σ' H' s' => h B' σ' H' (s.trans s')
  | bk r => exact fun B' σ' H' s' => h B' σ' H' (s.trans s')
  | ct r => exact fun B' σ' H' s' => h B' σ' H' (s.trans s')
  | rt r => exact h
@[reducible] def seqO {N N' C R ω : Type} (k2 : N → (Out N' C R → Option ω) → Option ω) (k : Out N' C R → Option ω) : Out N C R → Option ω
  | .nx n => k2 n k
  | .bk c => k (.bk c)
  | .ct c => k (.ct c)
  | .rt r => k (.rt r)
/-- a value that nothing unfolds -/
noncomputable def blk {α : Type} (x : α) : α := Classical.choose (⟨x, rfl⟩ : ∃ y, y = x)
theorem blk_eq {α : Type} (x : α) : blk x = x := Classical.choose_spec (⟨x, rfl⟩ : ∃ y, y = x)
theorem bind_some {α β : Type} {a : Option α} {f : α → Option β} {y : β} (h : a.bind f = some y) : ∃ x, a = some x ∧ f x = some y := by
  cases a with
  | none => cases h
  | some x => exact ⟨x, rfl, h⟩
theorem map_some {α β : Type} {a : Option α} {f : α → β} {y : β} (h : a.map f = some y) : ∃ x, a = some x ∧ f x = y := by
  cases a with
  | none => cases h
  | some x => exact ⟨x, rfl, Option.some.inj h⟩

section
variable {X : Cx} {K : Fg} {L L' La Lc Lh : List Loc} {S : RS} {st : Stmt} {rest : List Stmt} {e : Expr} {pos : Pos}
theorem y_nil : PSs X [] (tS K L L Lh S fun _ ρ k => k (.nx ρ)) := by
  refine pss_weak pss_nil fun D σ H ⟨F, B, ρ, ω, k, o, h, e, q⟩ => ?_
  exact q _ e B σ H (Sub.refl B) h
theorem y_cons {m : Ms L La Lh S} {m2 : Ms La L' Lh S} (h1 : PS X st (tS K L La Lh S m)) (h2 : PSs X rest (tS K La L' Lh S m2)) : PSs X (st :: rest) (tS K L L' Lh S fun ω ρ k => m ω ρ (seqO (m2 ω) k)) := by
  refine pss_weak (pss_cons h1 h2) fun D σ H ⟨F, B, ρ, ω, k, o, h, e, q⟩ => ?_
  refine ⟨F, B, ρ, ω, seqO (m2 ω) k, o, h, e, fun out eo => ?_⟩
  cases out with
  | nx r => exact fun B' σ' H' s' st' => ⟨F, B', r, ω, k, o, st', eo, fun o2 e2 => (q o2 e2).sub s'⟩
  | bk r => exact q _ eo
  | ct r => exact q _ eo
  | rt r => exact q _ eo
/-- the last statement -/
theorem y_one {m : Ms L L' Lh S} (h1 : PS X st (tS K L L' Lh S m)) : PSs X [st] (tS K L L' Lh S m) := pss_one h1
/-- a name is forgotten -/
theorem y_fg {n : Nat} {m : Ms La L' Lh S} (p : Put lNone n L La) (h : PSs X rest (tS K La L' Lh S m)) : PSs X rest (tS K L L' Lh S fun ω ρ k => m ω (p.put () ρ) k) := by
  refine pss_weak h fun D σ H ⟨F, B, ρ, ω, k, o, h, e, q⟩ => ⟨F, B, _, ω, k, o, h.forget p, e, q⟩
/-- a list is locked for good -/
theorem y_lock {n : Nat} {α : Type} {O : OTy α} {f : Option Addr} {m : Ms La L' Lh S} (i : Ix (lOwn O f) n L) (p : Put (lImm O.fz) n L La) (h : PSs X rest (tS K La L' Lh S m)) : PSs X rest (tS K L L' Lh S fun ω ρ k => m ω (p.put (i.get ρ) ρ) k) := by
  refine pss_weak h fun D σ H ⟨F, B, ρ, ω, k, o, h, e, q⟩ => ?_
  obtain ⟨B', s, h'⟩ := h.lock i p
  exact ⟨F, B', _, ω, k, o, h', e, fun o2 e2 => (q o2 e2).sub s⟩
theorem y_pass : PS X (.Pass pos) (tS K L L Lh S fun _ ρ k => k (.nx ρ)) := by
  refine ps_weak ps_pass fun D σ H ⟨F, B, ρ, ω, k, o, h, e, q⟩ => ?_
  exact q _ e B σ H (Sub.refl B) h
theorem y_break : PS X (.Break pos) (tS K L L' L S fun _ ρ k => k (.bk ρ)) := by
  refine ps_weak ps_break fun D σ H ⟨F, B, ρ, ω, k, o, h, e, q⟩ => ?_
  exact q _ e B σ H (Sub.refl B) h
theorem y_continue : PS X (.Continue pos) (tS K L L' L S fun _ ρ k => k (.ct ρ)) := by
  refine ps_weak ps_continue fun D σ H ⟨F, B, ρ, ω, k, o, h, e, q⟩ => ?_
  exact q _ e B σ H (Sub.refl B) h
theorem y_asg {α : Type} {T : Ty α} {m : Mo L α} {i : Nat} {x : Str} {pos' : Pos} (p : Put (lImm T) i L L') (hN : X.N.Nodup) (hi : X.N[i]? = some x) (hx : L2.Loc X.env.scope x) (he : PE X e (tE K L T m))
    (hs : swapsWith e (some (.Name x pos')) pos.line X.env = pure false := by rfl) (hf : X.fn x = true ∨ X.env.scope.names.lookup x = some .local := by first | exact .inl rfl | exact .inr rfl | assumption) :
    PS X (.Assign [.Name x pos'] e pos) (tS K L L' Lh S fun ω ρ k => m ω ρ fun x ρ' => k (.nx (p.put x ρ'))) := by
  refine ps_weak (ps_set (i := i) hN hi hx he hs hf) fun D σ H ⟨F, B, ρ, ω, k, o, h, e, q⟩ => ?_
  exact ⟨F, B, ρ, ω, _, o, h, e, fun B' v H' a ρ' s st' r e2 => q _ e2 B' _ H' s (st'.putI p r)⟩
theorem y_asgO {α : Type} {O : OTy α} {m : Mo L α} {i : Nat} {x : Str} {pos' : Pos} (p : Put (lOwn O none) i L L') (hN : X.N.Nodup) (hi : X.N[i]? = some x) (hx : L2.Loc X.env.scope x) (he : PE X e (tO K L O m))
    (hs : swapsWith e (some (.Name x pos')) pos.line X.env = pure false := by rfl) (hf : X.fn x = true ∨ X.env.scope.names.lookup x = some .local := by first | exact .inl rfl | exact .inr rfl | assumption) :
    PS X (.Assign [.Name x pos'] e pos) (tS K L L' Lh S fun ω ρ k => m ω ρ fun x ρ' => k (.nx (p.put x ρ'))) := by
  refine ps_weak (ps_set (i := i) hN hi hx he hs hf) fun D σ H ⟨F, B, ρ, ω, k, o, h, e, q⟩ => ?_
  exact ⟨F, B, ρ, ω, _, o, h, e, fun B' v u H' own a ρ' s st' h1 h2 h3 h4 h5 e2 => q _ e2 B' _ H' s (st'.putO p h1 h2 h3 h4 h5)⟩
/-- the value of an expression is dropped -/
theorem y_expr {α : Type} {T : Ty α} {m : Mo L α} (he : PE X e (tE K L T m)) (hs : swapsWith e none pos.line X.env = pure false := by rfl) : PS X (.Expr e pos) (tS K L L Lh S fun ω ρ k => m ω ρ fun _ ρ' => k (.nx ρ')) := by
  refine ps_weak (ps_expr he hs) fun D σ H ⟨F, B, ρ, ω, k, o, h, e, q⟩ => ?_
  exact ⟨F, B, ρ, ω, _, o, h, e, fun B' v H' a ρ' s st' r e2 => q _ e2 B' _ H' s st'⟩
/-- one branch at most goes on -/
theorem y_if {c : Expr} {a b : List Stmt} {mc : Mo L Bool} {ma mb : Ms L L' Lh S} (hc : PT X c (tC K L mc)) (ha : PSs X a (tS K L L' Lh S ma)) (hb : PSs X b (tS K L L' Lh S mb)) :
    PS X (.If c a b pos) (tS K L L' Lh S fun ω ρ k => mc ω ρ fun t ρ' => if t = true then ma ω ρ' k else mb ω ρ' k) := by
  refine ps_weak (ps_if hc ha hb) fun D σ H ⟨F, B, ρ, ω, k, o, h, e, q⟩ => ?_
  refine ⟨F, B, ρ, ω, _, o, h, e, fun B' H' t ρ' s st' e2 => ?_⟩
  cases t with
  | true => exact ⟨F, B', ρ', ω, k, o, st', e2, fun o2 e3 => (q o2 e3).sub s⟩
  | false => exact ⟨F, B', ρ', ω, k, o, st', e2, fun o2 e3 => (q o2 e3).sub s⟩
/-- both branches go on -/
theorem y_ifJ {c : Expr} {a b : List Stmt} {mc : Mo L Bool} {ma mb : Ms L L' Lh S} (hc : PT X c (tC K L mc)) (ha : PSs X a (tS K L L' Lh S ma)) (hb : PSs X b (tS K L L' Lh S mb)) :
    PS X (.If c a b pos) (tS K L L' Lh S fun ω ρ k => mc ω ρ fun t ρ' => (if t = true then ma _ ρ' some else mb _ ρ' some).bind k) := by
  refine ps_weak (ps_if hc ha hb) fun D σ H ⟨F, B, ρ, ω, k, o, h, e, q⟩ => ?_
  refine ⟨F, B, ρ, ω, _, o, h, e, fun B' H' t ρ' s st' e2 => ?_⟩
  obtain ⟨u, e3, e4⟩ := bind_some e2
  cases t with
  | true => exact ⟨F, B', ρ', _, some, u, st', e3, fun o2 e5 => by cases e5; exact (q _ e4).sub s⟩
  | false => exact ⟨F, B', ρ', _, some, u, st', e3, fun o2 e5 => by cases e5; exact (q _ e4).sub s⟩

/-! ### loops -/
/-- how a loop ends: with this state, or handed back -/
inductive Fin (A R : Type) where
  | go (a : A) | rt (r : R)
@[reducible] def finO {A C R ω : Type} (k : Out A C R → Option ω) : Fin A R → Option ω
  | .go a => k (.nx a)
  | .rt r => k (.rt r)
def loopM {β A R : Type} (f : β → A → Option (Out A A R)) : List β → A → Option (Fin A R)
  | [], s => some (.go s)
  | x :: xs, s => (f x s).bind fun o => match o with
    | .nx s' => loopM f xs s'
    | .ct s' => loopM f xs s'
    | .bk s' => some (.go s')
    | .rt r => some (.rt r)
def whileM {A R : Type} (f : A → Option (Option (Out A A R) × A)) : Nat → A → Option (Fin A R)
  | 0, _ => none
  | n + 1, s => (f s).bind fun q => match q.1 with
    | none => some (.go q.2)
    | some o => match o with
      | .nx s' => whileM f n s'
      | .ct s' => whileM f n s'
      | .bk s' => some (.go s')
      | .rt r => some (.rt r)
/-- an iterator that gives these values, one after another -/
def ItOk (K : Fg) (J : It) (B : Hp) {β : Type} (T : Ty β) (xs : List β) : Prop := ∀ (i : Nat) (B1 H : Hp), Sub B B1 → Sub B1 H → (xs.length ≤ i → J.stop i H) ∧
  ∀ x, xs[i]? = some x → J.go i H ∧ ∀ v H', J.yld i H v H' → ∃ B', Grow B1 H B' H' ∧ T.rep K B' v x
def tIt (K : Fg) (L : List Loc) {β : Type} (T : Ty β) (m : Mo L (List β)) : TI := fun σ H R => ∃ (F : Fr) (B : Hp) (ρ : Env L) (ω : Type) (k : List β → Env L → Option ω) (o : ω), Stt K F L B ρ σ H ∧ m ω ρ k = some o ∧
  ∀ B' J H' xs ρ', Sub B B' → Stt K F L B' ρ' σ H' → ItOk K J B' T xs → k xs ρ' = some o → R J H'
def Only' (vs : List Nat) (σ σ' : List (Option V)) : Prop := σ'.length = σ.length ∧ ∀ i, i ∉ vs → σ'[i]? = σ[i]?
theorem Only'.trans {vs ws : List Nat} {a b c : List (Option V)} (h : Only' vs a b) (k : Only' ws b c) : Only' (vs ++ ws) a c := ⟨k.1.trans h.1, fun i hi => by
  rw [List.mem_append, not_or] at hi
  exact (k.2 i hi.2).trans (h.2 i hi.1)⟩
/-- vs: the slots that it stores -/
def tGt (K : Fg) (L L' : List Loc) (vs : List Nat) {β : Type} (T : Ty β) (b : β → Env L → Env L') : TG := fun v σ H Q => ∃ F B ρ x, Stt K F L B ρ σ H ∧ T.rep K B v x ∧
  ∀ σ', Only' vs σ σ' → Stt K F L' B (b x ρ) σ' H → Q σ' H
theorem y_for {vs : List Nat} {tg iter : Expr} {body : List Stmt} {β : Type} {T : Ty β} {Lb : List Loc} {mi : Mo L (List β)} {bd : β → Env L → Env Lb} {mb : Ms Lb L L S}
    (hp : PassesOwn (model X.prog X.w) X.A X.env X.xe) (hc : X.calm = true) (hi : PI X tg iter (tIt K L T mi)) (hg : PG X tg (tGt K L Lb vs T bd)) (hb : PSs X body (tS K Lb L L S mb))
    (hs : ∀ x, foldedSetIterable iter X.env x = pure x := by intro _; rfl) :
    PS X (.For tg iter body [] pos) (tS K L L Lh S fun ω ρ k => mi ω ρ fun xs ρ' => (loopM (fun x s => mb _ (bd x s) some) xs ρ').bind (finO k)) := by
  refine ps_weak (ps_for hp hc hi hg hb hs) fun D σ H ⟨F, B, ρ, ω, kk, o', h, e, q'⟩ => ?_
  refine ⟨F, B, ρ, ω, _, o', h, e, fun B1 J H1 xs ρ' s1 st1 it e0 => ?_⟩
  obtain ⟨o, e2, e2'⟩ := bind_some e0
  refine ⟨fun i m σ H => m = xs.length - i ∧ i ≤ xs.length ∧ ∃ Bi ρi, Sub B1 Bi ∧ Stt K F L Bi ρi σ H ∧ loopM (fun x s => mb _ (bd x s) some) (xs.drop i) ρi = some o, ⟨xs.length, by simp, Nat.zero_le _, B1, ρ', Sub.refl _, st1, by rw [List.drop_zero]; exact e2⟩, ?_⟩
  rintro i m σ2 H2 ⟨rfl, hle, Bi, ρi, si, sti, ei⟩
  obtain ⟨own, sto⟩ := id sti
  obtain ⟨hstop, hgo⟩ := it i Bi H2 si sto.sub
  by_cases hlt : i < xs.length
  · have hx : xs[i]? = some xs[i] := List.getElem?_eq_getElem hlt
    obtain ⟨go, yl⟩ := hgo _ hx
    rw [List.drop_eq_getElem_cons hlt] at ei
    obtain ⟨o1, f1, f2⟩ := bind_some ei
    refine .inr ⟨go, fun σ' H' => ∃ Bi ρi, Sub B1 Bi ∧ Stt K F L Bi ρi σ' H' ∧ loopM (fun x s => mb _ (bd x s) some) (xs.drop (i + 1)) ρi = some o, fun σ' H' p => ⟨xs.length - (i + 1), by omega, rfl, hlt, p⟩, fun v H' y => ?_⟩
    obtain ⟨B3, g, r⟩ := yl v H' y
    refine ⟨F, B3, ρi, xs[i], sti.grow g, r, fun σ' _ st' => ?_⟩
    refine ⟨F, B3, _, _, some, o1, st', f1, fun o2 e3 => ?_⟩
    cases e3
    have sB : Sub B B3 := (s1.trans si).trans g.b
    have sB1 : Sub B1 B3 := si.trans g.b
    cases o1 with
    | nx r' => exact fun B' σ' H' s' st2 => ⟨B', r', sB1.trans s', st2, f2⟩
    | ct r' => exact fun B' σ' H' s' st2 => ⟨B', r', sB1.trans s', st2, f2⟩
    | bk r' =>
      cases f2
      exact fun B' σ' H' s' st2 => q' _ e2' B' σ' H' (sB.trans s') st2
    | rt r' =>
      cases f2
      exact q' _ e2'
  · refine .inl ⟨hstop (by omega), ?_⟩
    rw [List.drop_eq_nil_of_le (by omega)] at ei
    cases ei
    exact q' _ e2' Bi σ2 H2 (s1.trans si) sti
theorem y_while {c : Expr} {body : List Stmt} {mc : Mo L Bool} {mb : Ms L L L S} (fuel : Env L → Nat)
    (hp : PassesOwn (model X.prog X.w) X.A X.env X.xe) (hc : PT X c (tC K L mc)) (hb : PSs X body (tS K L L L S mb)) :
    PS X (.While c body [] pos) (tS K L L Lh S fun ω ρ k => (whileM (fun s => mc _ s fun t s1 => if t = true then mb _ s1 fun o => some (some o, s1) else some (none, s1)) (fuel ρ) ρ).bind (finO k)) := by
  refine ps_weak (ps_while hp hc hb) fun D σ H ⟨F, B, ρ, ω, kk, o', h, e, q'⟩ => ?_
  obtain ⟨o, e2, e2'⟩ := bind_some e
  refine ⟨fun n σ H => ∃ Bi ρi, Sub B Bi ∧ Stt K F L Bi ρi σ H ∧ whileM (fun s => mc _ s fun t s1 => if t = true then mb _ s1 fun o => some (some o, s1) else some (none, s1)) n ρi = some o, ⟨fuel ρ, B, ρ, Sub.refl _, h, e2⟩, ?_⟩
  rintro n σ2 H2 ⟨Bi, ρi, si, sti, ei⟩
  cases n with
  | zero => cases ei
  | succ n =>
    obtain ⟨⟨w, ρ2⟩, f1, f2⟩ := bind_some ei
    refine ⟨F, Bi, ρi, _, _, _, sti, f1, fun B1 H1 t ρ' s1 st1 e3 => ?_⟩
    have sB : Sub B B1 := si.trans s1
    cases t with
    | false =>
      cases e3
      cases f2
      exact q' _ e2' B1 σ2 H1 sB st1
    | true =>
      refine ⟨fun σ' H' => ∃ Bi ρi, Sub B Bi ∧ Stt K F L Bi ρi σ' H' ∧ whileM (fun s => mc _ s fun t s1 => if t = true then mb _ s1 fun o => some (some o, s1) else some (none, s1)) n ρi = some o, fun σ' H' p => ⟨n, Nat.lt_succ_self n, p⟩, ?_⟩
      refine ⟨F, B1, ρ', _, _, _, st1, e3, fun o1 e4 => ?_⟩
      cases e4
      cases o1 with
      | nx r' => exact fun B' σ' H' s' st2 => ⟨B', r', sB.trans s', st2, f2⟩
      | ct r' => exact fun B' σ' H' s' st2 => ⟨B', r', sB.trans s', st2, f2⟩
      | bk r' =>
        cases f2
        exact fun B' σ' H' s' st2 => q' _ e2' B' σ' H' (sB.trans s') st2
      | rt r' =>
        cases f2
        exact q' _ e2'
end

/-! ### targets -/
section
variable {X : Cx} {K : Fg} {L L' La Lc Lh : List Loc} {pos : Pos}
theorem g_name {α : Type} {T : Ty α} {i : Nat} {x : Str} (p : Put (lImm T) i L L') (hN : X.N.Nodup) (hi : X.N[i]? = some x) (hx : L2.Loc X.env.scope x) (hf : X.fn x = true ∨ X.env.scope.names.lookup x = some .local := by first | exact .inl rfl | exact .inr rfl | assumption) :
    PG X (.Name x pos) (tGt K L L' [i] T fun v ρ => p.put v ρ) := by
  refine pg_weak (pg_name (i := i) hN hi hx hf) fun v σ H Q ⟨F, B, ρ, x, h, r, q⟩ => ?_
  exact q _ ⟨List.length_set, fun j hj => List.getElem?_set_ne (fun z => hj (by rw [z]; simp))⟩ (h.putI p r)
def tGts (K : Fg) (L L' : List Loc) (ws : List Nat) {β : Type} (R : Tys β) (b : β → Env L → Env L') : TGs := fun vs σ H Q => ∃ F B ρ x, Stt K F L B ρ σ H ∧ R.rep K B vs x ∧
  ∀ σ', Only' ws σ σ' → Stt K F L' B (b x ρ) σ' H → Q σ' H
theorem gs_one {ws : List Nat} {e : Expr} {α : Type} {T : Ty α} {b : α → Env L → Env L'} (h : PG X e (tGt K L L' ws T b)) (hs : (assignEach [e] X.env).map (·.2) = assign e X.env :: (assignEach [] X.env).map (·.2) := by rfl) : PGs X [e] (tGts K L L' ws (rOne T) b) := by
  have h2 := pgs_cons h (pgs_nil (X := X)) hs
  refine ⟨fun pins s σ H vs us Q I r q => h2.run pins s σ H vs us Q I r ?_⟩
  obtain ⟨F, B, ρ, x, st, ⟨v, e1, r1⟩, q⟩ := q
  exact ⟨v, [], e1, F, B, ρ, x, st, r1, fun σ' ho st' => ⟨rfl, q σ' ho st'⟩⟩
theorem gs_cons {ws us : List Nat} {e : Expr} {es : List Expr} {α β : Type} {T : Ty α} {R : Tys β} {b : α → Env L → Env La} {c : β → Env La → Env L'} (h : PG X e (tGt K L La ws T b)) (h2 : PGs X es (tGts K La L' us R c))
    (hs : (assignEach (e :: es) X.env).map (·.2) = assign e X.env :: (assignEach es X.env).map (·.2) := by rfl) : PGs X (e :: es) (tGts K L L' (ws ++ us) (rCons T R) fun x ρ => c x.2 (b x.1 ρ)) := by
  have h3 := pgs_cons h h2 hs
  refine ⟨fun pins s σ H vs us Q I r q => h3.run pins s σ H vs us Q I r ?_⟩
  obtain ⟨F, B, ρ, x, st, ⟨v, r', e1, r1, r2⟩, q⟩ := q
  exact ⟨v, r', e1, F, B, ρ, x.1, st, r1, fun σ' ho st' => ⟨F, B, _, x.2, st', r2, fun σ2 ho2 st2 => q σ2 (ho.trans ho2) st2⟩⟩
theorem g_tup {ws : List Nat} {es : List Expr} {k : Nat} {β : Type} {R : Tys β} {b : β → Env L → Env L'} {n : Nat} (hc : X.calm = true) (h : PGs X es (tGts X.K L L' ws R b)) (hl : ∀ {K B vs x}, R.rep K B vs x → vs.length = n)
    (hn : (assignEach es X.env).length = n := by rfl) (hst : (assignEach es X.env).findIdx? (·.1) = none := by rfl) : PG X (.Tuple es k pos) (tGt X.K L L' ws (tTup R) b) := by
  refine pg_weak (pg_tup hc h hn hst) fun v σ H Q ⟨F, B, ρ, x, st, ⟨a, vs, e, sq, r⟩, q⟩ => ?_
  obtain ⟨own, sto⟩ := id st
  exact ⟨a, vs, e, sto.sub.seqT sq, hl r, F, B, ρ, x, st, r, q⟩
theorem rl2 {α β : Type} {T : Ty α} {U : Ty β} {K B vs x} (h : (rCons T (rOne U)).rep K B vs x) : vs.length = 2 := by
  obtain ⟨v, r, rfl, _, w, rfl, _⟩ := h
  rfl
theorem rl3 {α β γ : Type} {T : Ty α} {U : Ty β} {W : Ty γ} {K B vs x} (h : (rCons T (rCons U (rOne W))).rep K B vs x) : vs.length = 3 := by
  obtain ⟨v, r, rfl, _, w, r2, rfl, _, z, rfl, _⟩ := h
  rfl
theorem rl4 {α β γ δ : Type} {T : Ty α} {U : Ty β} {W : Ty γ} {Z : Ty δ} {K B vs x} (h : (rCons T (rCons U (rCons W (rOne Z)))).rep K B vs x) : vs.length = 4 := by
  obtain ⟨v, r, rfl, _, w, r2, rfl, _, z, r3, rfl, _, z2, rfl, _⟩ := h
  rfl
end

/-! ### what a def promises -/
section
/-- handed back: a value of an immutable type -/
def rsT {α : Type} (T : Ty α) : RS where
  R := α
  ok := fun K F v H' r => ∃ B', Sub F.B0 B' ∧ Sub B' H' ∧ (∀ a o, a ∉ F.M → F.H0 a = some o → H' a = some o) ∧ (∀ a, F.H0 a ≠ none → B' a ≠ none → F.B0 a ≠ none ∨ a ∈ F.M) ∧ T.rep K B' v r
def spP (K : Fg) {β γ : Type} (R : Tys β) (T : Ty γ) (f : β → Option γ) : Sp := fun vs H Q _ => ∃ B x r, Sub B H ∧ R.rep K B vs x ∧ f x = some r ∧ ∀ B' v H', Grow B H B' H' → T.rep K B' v r → Q v H'
/-- .. a new object -/
def rsO {α : Type} (O : OTy α) : RS where
  R := α
  ok := fun K F v H' r => ∃ B' p o, v = .ref p ∧ Sub F.B0 B' ∧ Sub B' H' ∧ (∀ a o, a ∉ F.M → F.H0 a = some o → H' a = some o) ∧ (∀ a, F.H0 a ≠ none → B' a ≠ none → F.B0 a ≠ none ∨ a ∈ F.M) ∧ H' p = some o ∧ B' p = none ∧ (F.H0 p = none ∨ p ∈ F.M) ∧ O.rep K B' o r
def spO (K : Fg) {β γ : Type} (R : Tys β) (O : OTy γ) (f : β → Option γ) : Sp := fun vs H Q _ => ∃ B x r, Sub B H ∧ R.rep K B vs x ∧ f x = some r ∧
  ∀ B' p o H', Grow B H B' H' → H p = none → B' p = none → H' p = some o → O.rep K B' o r → Q (.ref p) H'
/-- with a first argument that is changed -/
structure GrowM (d : Addr) (B H B' H' : Hp) : Prop where
  b : Sub B B'
  h : ∀ a o, a ≠ d → H a = some o → H' a = some o
  s : Sub B' H'
  old : ∀ a, B' a ≠ none → B a ≠ none ∨ H a = none
def rsM {α δ : Type} (d : Addr) (O : OTy δ) (T : Ty α) : RS where
  R := α × δ
  ok := fun K F v H' r => ∃ B' o, Sub F.B0 B' ∧ Sub B' H' ∧ (∀ a o, a ∉ F.M → F.H0 a = some o → H' a = some o) ∧ (∀ a, F.H0 a ≠ none → B' a ≠ none → F.B0 a ≠ none ∨ a ∈ F.M) ∧ T.rep K B' v r.1 ∧ H' d = some o ∧ B' d = none ∧ O.rep K B' o r.2
def spM (K : Fg) {β γ δ : Type} (O : OTy δ) (R : Tys β) (T : Ty γ) (f : δ → β → Option (γ × δ)) : Sp := fun vs H Q _ => ∃ B d vs' o x0 x r, vs = .ref d :: vs' ∧ Sub B H ∧ H d = some o ∧ B d = none ∧ O.rep K B o x0 ∧ R.rep K B vs' x ∧ f x0 x = some r ∧
  ∀ B' v o' H', GrowM d B H B' H' → H' d = some o' → B' d = none → O.rep K B' o' r.2 → T.rep K B' v r.1 → Q v H'
/-- both -/
def rsMO {α δ : Type} (d : Addr) (O : OTy δ) (P : OTy α) : RS where
  R := α × δ
  ok := fun K F v H' r => ∃ B' o p u, v = .ref p ∧ Sub F.B0 B' ∧ Sub B' H' ∧ (∀ a o, a ∉ F.M → F.H0 a = some o → H' a = some o) ∧ (∀ a, F.H0 a ≠ none → B' a ≠ none → F.B0 a ≠ none ∨ a ∈ F.M) ∧
    H' p = some u ∧ B' p = none ∧ (F.H0 p = none ∨ p ∈ F.M) ∧ p ≠ d ∧ P.rep K B' u r.1 ∧ H' d = some o ∧ B' d = none ∧ O.rep K B' o r.2
def spMO (K : Fg) {β γ δ : Type} (O : OTy δ) (R : Tys β) (P : OTy γ) (f : δ → β → Option (γ × δ)) : Sp := fun vs H Q _ => ∃ B d vs' o x0 x r, vs = .ref d :: vs' ∧ Sub B H ∧ H d = some o ∧ B d = none ∧ O.rep K B o x0 ∧ R.rep K B vs' x ∧ f x0 x = some r ∧
  ∀ B' p u o' H', GrowM d B H B' H' → H' d = some o' → B' d = none → O.rep K B' o' r.2 → H p = none → p ≠ d → B' p = none → H' p = some u → P.rep K B' u r.1 → Q (.ref p) H'

variable {X : Cx} {K : Fg} {L L' La Lc Lh : List Loc} {pos : Pos} {e : Expr}
theorem y_ret {α : Type} {T : Ty α} {m : Mo L α} (he : PE X e (tE K L T m)) : PS X (.Return (some e) pos) (tS K L L' Lh (rsT T) fun ω ρ k => m ω ρ fun x _ => k (.rt x)) := by
  refine ps_weak (ps_ret he) fun D σ H ⟨F, B, ρ, ω, k, o, h, e, q⟩ => ?_
  exact ⟨F, B, ρ, ω, _, o, h, e, fun B' v H' a ρ' s ⟨own, st'⟩ r e2 => q _ e2 v H' ⟨B', st'.base, st'.sub, st'.keep, st'.old, r⟩⟩
theorem y_retO {α : Type} {O : OTy α} {m : Mo L α} (he : PE X e (tO K L O m)) : PS X (.Return (some e) pos) (tS K L L' Lh (rsO O) fun ω ρ k => m ω ρ fun x _ => k (.rt x)) := by
  refine ps_weak (ps_ret he) fun D σ H ⟨F, B, ρ, ω, k, o, h, e, q⟩ => ?_
  exact ⟨F, B, ρ, ω, _, o, h, e, fun B' p u H' own a ρ' s st' h1 h2 h3 h4 h5 e2 => q _ e2 _ H' ⟨B', p, u, rfl, st'.base, st'.sub, st'.keep, st'.old, h1, h3, h5, h2⟩⟩
/-- an own object at a name is handed back -/
theorem y_retN {α : Type} {O : OTy α} {f : Option Addr} {n : Nat} {x : Str} {p : Pos} (i : Ix (lOwn O f) n L) (hN : X.N[n]? = some x) (hv : Vis X.env.scope x) (hd : (x == ("__debug__" : Str)) = false := by decide) (hcd : (x == ("__classdict__" : Str)) = false := by decide) :
    PS X (.Return (some (.Name x p)) pos) (tS K L L' Lh (rsO O) fun _ ρ k => k (.rt (i.get ρ))) := by
  refine ps_weak (ps_ret (pe_var hN hv hd hcd)) fun D σ H ⟨F, B, ρ, ω, k, o, h, e, q'⟩ => ?_
  have q := q' _ e
  obtain ⟨own, h⟩ := h
  obtain ⟨l, u, e1, e2, e3, e4, _⟩ := h.rel.own i
  exact ⟨.ref l, e1, q _ H ⟨B, l, u, rfl, h.base, h.sub, h.keep, h.old, e3, (h.own l e2).1, (h.own l e2).2, e4⟩⟩
/-- a value, and the first argument as it is now -/
theorem y_retM {α δ : Type} {d : Addr} {T : Ty α} {O : OTy δ} {m : Mo L α} {n : Nat} (i : Ix (lOwn O (some d)) n L) (he : PE X e (tE K L T m)) :
    PS X (.Return (some e) pos) (tS K L L' Lh (rsM d O T) fun ω ρ k => m ω ρ fun x ρ' => k (.rt (x, i.get ρ'))) := by
  refine ps_weak (ps_ret he) fun D σ H ⟨F, B, ρ, ω, k, o, h, e, q'⟩ => ?_
  refine ⟨F, B, ρ, ω, _, o, h, e, fun B' v H' a ρ' s ⟨own, st'⟩ r e2 => ?_⟩
  have q := q' _ e2
  obtain ⟨l, u, q1, q2, q3, q4, q5⟩ := st'.rel.own i
  obtain rfl := q5 d rfl
  exact q v H' ⟨B', u, st'.base, st'.sub, st'.keep, st'.old, r, q3, (st'.own l q2).1, q4⟩
theorem y_retMO {α δ : Type} {d : Addr} {P : OTy α} {O : OTy δ} {m : Mo L α} {n : Nat} (i : Ix (lOwn O (some d)) n L) (he : PE X e (tO K L P m)) :
    PS X (.Return (some e) pos) (tS K L L' Lh (rsMO d O P) fun ω ρ k => m ω ρ fun x ρ' => k (.rt (x, i.get ρ'))) := by
  refine ps_weak (ps_ret he) fun D σ H ⟨F, B, ρ, ω, k, o, h, e, q'⟩ => ?_
  refine ⟨F, B, ρ, ω, _, o, h, e, fun B' p w H' own a ρ' s st' h1 h2 h3 h4 h5 e2 => ?_⟩
  have q := q' _ e2
  obtain ⟨l, u, q1, q2, q3, q4, q5⟩ := st'.rel.own i
  obtain rfl := q5 d rfl
  exact q _ H' ⟨B', u, p, w, rfl, st'.base, st'.sub, st'.keep, st'.old, h1, h3, h5, fun z => h4 (by rw [z]; exact q2), h2, q3, (st'.own l q2).1, q4⟩
theorem y_retMN {α δ : Type} {d : Addr} {P : OTy α} {O : OTy δ} {n j : Nat} {x : Str} {p : Pos} (i : Ix (lOwn O (some d)) n L) (ij : Ix (lOwn P none) j L) (hne : n ≠ j) (hN : X.N[j]? = some x) (hv : Vis X.env.scope x) (hd : (x == ("__debug__" : Str)) = false := by decide) (hcd : (x == ("__classdict__" : Str)) = false := by decide) :
    PS X (.Return (some (.Name x p)) pos) (tS K L L' Lh (rsMO d O P) fun _ ρ k => k (.rt (ij.get ρ, i.get ρ))) := by
  refine ps_weak (ps_ret (pe_var hN hv hd hcd)) fun D σ H ⟨F, B, ρ, ω, kk, o, h, e, q'⟩ => ?_
  have q := q' _ e
  obtain ⟨own, h⟩ := h
  obtain ⟨l, u, q1, q2, q3, q4, q5⟩ := h.rel.own i
  obtain ⟨k, w, r1, r2, r3, r4, r5⟩ := h.rel.own ij
  obtain rfl := q5 d rfl
  exact ⟨.ref k, r1, q _ H ⟨B, u, k, w, rfl, h.base, h.sub, h.keep, h.old, r3, (h.own k r2).1, (h.own k r2).2, Rel.apart i ij hne h.nd h.rel q1 r1, r4, q3, (h.own l q2).1, q4⟩⟩
end

/-! ### defs -/
/-- what a body hands back at last -/
@[reducible] def retO {N C R : Type} : Out N C R → Option R
  | .rt r => some r
  | _ => none
theorem retO_of {N C R : Type} {o : Out N C R} {r : R} (h : retO o = some r) : o = .rt r := by
  cases o with
  | rt q => cases h; rfl
  | _ => cases h
section
variable {P : Program} {w : World} {K : Fg} {mg : Str → Option Value} {base : Heap}
/-- the slots at the start: the parameters, then names without a value -/
def Params (K : Fg) {β : Type} (R : Tys β) (L : List Loc) (e : β → Env L) (N : List Str) : Prop :=
  ∀ {B H : Hp} {vs x}, R.rep K B vs x → Rel K B H L [] (start N vs) (e x) ∧ vs.length ≤ N.length
theorem fnP {x qual : Str} {st : Stmt} {f : Addr} {fd : FuncData} {N ps : List Str} {k : Nat} {β γ : Type} {R : Tys β} {T : Ty γ} {L L' : List Loc} {fm : β → Option γ} {m : Ms L L' [] (rsT T)} (e : β → Env L)
    (F : Fun K x qual st f fd) (S : FnScope N ps (defScope st)) (hl : ∀ {B vs y}, R.rep K B vs y → vs.length = ps.length) (hp : Params K R L e N)
    (hm : ∀ y, fm y = m γ (e y) retO)
    (hb : ∀ (cdv : Value) (A : Around) (outer : List PySem.Env) (s : Shared) (H : Hp) (E : XK), Room k (A.deeper (envOfC qual (defScope st) s.heap.objs.size f cdv)) →
      PSs (cxOf CX0 P w K mg base N qual (defScope st) f cdv A outer s H E).nox (defBody st) (tS K L L' [] (rsT T) m)) :
    FnOk P w K mg base CX0 (k + 1) f fd ps (spP K R T fm) := by
  refine F.ok S (fun vs H Q E h => ?_) (fun cdv A outer s H vs Q E hr h => ?_)
  · obtain ⟨B, y, r, sb, rp, _⟩ := h
    exact hl rp
  · obtain ⟨B, y, r, sb, rp, e1, q⟩ := h
    refine ⟨_, hb cdv A outer s H E hr, ?_⟩
    refine ⟨⟨H, B, []⟩, B, e y, γ, retO, r, ⟨[], Sub.refl B, sb, fun _ _ _ z => z, fun _ _ z => .inl z, (hp rp).1, List.nodup_nil, fun a z => nomatch z⟩, by rw [← hm y]; exact e1, fun out e2 => ?_⟩
    obtain rfl := retO_of e2
    intro v H' ⟨B', s1, s2, s3, s4, rv⟩
    refine q B' v H' ⟨s1, fun a o z => s3 a o (by simp) z, s2, fun a z => ?_⟩ rv
    cases z2 : H a with
    | none => exact .inr rfl
    | some o =>
      rcases s4 a (by show H a ≠ none; rw [z2]; exact fun y => nomatch y) z with y | y
      · exact .inl y
      · exact nomatch y
theorem fnO {x qual : Str} {st : Stmt} {f : Addr} {fd : FuncData} {N ps : List Str} {k : Nat} {β γ : Type} {R : Tys β} {O : OTy γ} {L L' : List Loc} {fm : β → Option γ} {m : Ms L L' [] (rsO O)} (e : β → Env L)
    (F : Fun K x qual st f fd) (S : FnScope N ps (defScope st)) (hl : ∀ {B vs y}, R.rep K B vs y → vs.length = ps.length) (hp : Params K R L e N)
    (hm : ∀ y, fm y = m γ (e y) retO)
    (hb : ∀ (cdv : Value) (A : Around) (outer : List PySem.Env) (s : Shared) (H : Hp) (E : XK), Room k (A.deeper (envOfC qual (defScope st) s.heap.objs.size f cdv)) →
      PSs (cxOf CX0 P w K mg base N qual (defScope st) f cdv A outer s H E).nox (defBody st) (tS K L L' [] (rsO O) m)) :
    FnOk P w K mg base CX0 (k + 1) f fd ps (spO K R O fm) := by
  refine F.ok S (fun vs H Q E h => ?_) (fun cdv A outer s H vs Q E hr h => ?_)
  · obtain ⟨B, y, r, sb, rp, _⟩ := h
    exact hl rp
  · obtain ⟨B, y, r, sb, rp, e1, q⟩ := h
    refine ⟨_, hb cdv A outer s H E hr, ?_⟩
    refine ⟨⟨H, B, []⟩, B, e y, γ, retO, r, ⟨[], Sub.refl B, sb, fun _ _ _ z => z, fun _ _ z => .inl z, (hp rp).1, List.nodup_nil, fun a z => nomatch z⟩, by rw [← hm y]; exact e1, fun out e2 => ?_⟩
    obtain rfl := retO_of e2
    intro v H' ⟨B', p, o, ev, s1, s2, s3, s4, h1, h2, h3, rv⟩
    subst ev
    refine q B' p o H' ⟨s1, fun a o z => s3 a o (by simp) z, s2, fun a z => ?_⟩ ?_ h2 h1 rv
    · cases z2 : H a with
      | none => exact .inr rfl
      | some o =>
        rcases s4 a (by show H a ≠ none; rw [z2]; exact fun y => nomatch y) z with y | y
        · exact .inl y
        · exact nomatch y
    · rcases h3 with y | y
      · exact y
      · exact nomatch y
def ParamsM (K : Fg) {β δ : Type} (d : Addr) (O : OTy δ) (R : Tys β) (L : List Loc) (e : δ → β → Env L) (N : List Str) : Prop :=
  ∀ {B H : Hp} {vs o x0 x}, H d = some o → O.rep K B o x0 → R.rep K B vs x → Rel K B H L [d] (start N (.ref d :: vs)) (e x0 x)
theorem fnM {x qual : Str} {st : Stmt} {f : Addr} {fd : FuncData} {N ps : List Str} {k : Nat} {β γ δ : Type} {O : OTy δ} {R : Tys β} {T : Ty γ} {L : Addr → List Loc} {L' : Addr → List Loc} {fm : δ → β → Option (γ × δ)} {m : (d : Addr) → Ms (L d) (L' d) [] (rsM d O T)} (e : (d : Addr) → δ → β → Env (L d))
    (F : Fun K x qual st f fd) (S : FnScope N ps (defScope st)) (hl : ∀ {B vs y}, R.rep K B vs y → vs.length + 1 = ps.length) (hp : ∀ d, ParamsM K d O R (L d) (e d) N)
    (hm : ∀ d y0 y, fm y0 y = m d (γ × δ) (e d y0 y) retO)
    (hb : ∀ (d : Addr) (cdv : Value) (A : Around) (outer : List PySem.Env) (s : Shared) (H : Hp) (E : XK), Room k (A.deeper (envOfC qual (defScope st) s.heap.objs.size f cdv)) →
      PSs (cxOf CX0 P w K mg base N qual (defScope st) f cdv A outer s H E).nox (defBody st) (tS K (L d) (L' d) [] (rsM d O T) (m d))) :
    FnOk P w K mg base CX0 (k + 1) f fd ps (spM K O R T fm) := by
  refine F.ok S (fun vs H Q E h => ?_) (fun cdv A outer s H vs Q E hr h => ?_)
  · obtain ⟨B, d, vs', o, x0, y, r, rfl, sb, hd, hb, ro, rp, _⟩ := h
    exact hl rp
  · obtain ⟨B, d, vs', o, x0, y, r, rfl, sb, hd, hbn, ro, rp, e1, q⟩ := h
    refine ⟨_, hb d cdv A outer s H E hr, ?_⟩
    refine ⟨⟨H, B, [d]⟩, B, e d x0 y, γ × δ, retO, r, ⟨[d], Sub.refl B, sb, fun _ _ _ z => z, fun _ _ z => .inl z, hp d hd ro rp, (by simp), fun a z => ?_⟩, by rw [← hm d x0 y]; exact e1, fun out e2 => ?_⟩
    · obtain rfl := List.mem_singleton.mp z
      exact ⟨hbn, .inr z⟩
    · obtain rfl := retO_of e2
      intro v H' ⟨B', o', s1, s2, s3, s4, rv, h1, h2, h3⟩
      refine q B' v o' H' ⟨s1, fun a u n z => s3 a u (fun y => n (List.mem_singleton.mp y)) z, s2, fun a z => ?_⟩ h1 h2 h3 rv
      cases z2 : H a with
      | none => exact .inr rfl
      | some u =>
        rcases s4 a (by show H a ≠ none; rw [z2]; exact fun y => nomatch y) z with y | y
        · exact .inl y
        · obtain rfl := List.mem_singleton.mp y
          exact absurd h2 z
theorem fnMO {x qual : Str} {st : Stmt} {f : Addr} {fd : FuncData} {N ps : List Str} {k : Nat} {β γ δ : Type} {O : OTy δ} {R : Tys β} {Po : OTy γ} {L : Addr → List Loc} {L' : Addr → List Loc} {fm : δ → β → Option (γ × δ)} {m : (d : Addr) → Ms (L d) (L' d) [] (rsMO d O Po)} (e : (d : Addr) → δ → β → Env (L d))
    (F : Fun K x qual st f fd) (S : FnScope N ps (defScope st)) (hl : ∀ {B vs y}, R.rep K B vs y → vs.length + 1 = ps.length) (hp : ∀ d, ParamsM K d O R (L d) (e d) N)
    (hm : ∀ d y0 y, fm y0 y = m d (γ × δ) (e d y0 y) retO)
    (hb : ∀ (d : Addr) (cdv : Value) (A : Around) (outer : List PySem.Env) (s : Shared) (H : Hp) (E : XK), Room k (A.deeper (envOfC qual (defScope st) s.heap.objs.size f cdv)) →
      PSs (cxOf CX0 P w K mg base N qual (defScope st) f cdv A outer s H E).nox (defBody st) (tS K (L d) (L' d) [] (rsMO d O Po) (m d))) :
    FnOk P w K mg base CX0 (k + 1) f fd ps (spMO K O R Po fm) := by
  refine F.ok S (fun vs H Q E h => ?_) (fun cdv A outer s H vs Q E hr h => ?_)
  · obtain ⟨B, d, vs', o, x0, y, r, rfl, sb, hd, hb, ro, rp, _⟩ := h
    exact hl rp
  · obtain ⟨B, d, vs', o, x0, y, r, rfl, sb, hd, hbn, ro, rp, e1, q⟩ := h
    refine ⟨_, hb d cdv A outer s H E hr, ?_⟩
    refine ⟨⟨H, B, [d]⟩, B, e d x0 y, γ × δ, retO, r, ⟨[d], Sub.refl B, sb, fun _ _ _ z => z, fun _ _ z => .inl z, hp d hd ro rp, (by simp), fun a z => ?_⟩, by rw [← hm d x0 y]; exact e1, fun out e2 => ?_⟩
    · obtain rfl := List.mem_singleton.mp z
      exact ⟨hbn, .inr z⟩
    · obtain rfl := retO_of e2
      intro v H' ⟨B', o', p, u, ev, s1, s2, s3, s4, p1, p2, p3, p4, p5, h1, h2, h3⟩
      subst ev
      refine q B' p u o' H' ⟨s1, fun a u n z => s3 a u (fun y => n (List.mem_singleton.mp y)) z, s2, fun a z => ?_⟩ h1 h2 h3 ?_ p4 p2 p1 p5
      · cases z2 : H a with
        | none => exact .inr rfl
        | some u =>
          rcases s4 a (by show H a ≠ none; rw [z2]; exact fun y => nomatch y) z with y | y
          · exact .inl y
          · obtain rfl := List.mem_singleton.mp y
            exact absurd h2 z
      · rcases p3 with y | y
        · exact y
        · exact absurd (List.mem_singleton.mp y) p4
end
end L3

/-! L3: the rules of expressions. -/
namespace L3
open PySem PySem.Spec PyProof.Rows L2

/-! ### what is asked of an operation by values -/
def Op2 (K : Fg) (r : R2) {α β γ : Type} (Ta : Ty α) (Tb : Ty β) (Tc : Ty γ) (g : α → β → Option γ) : Prop :=
  ∀ {B H x y z v w Q}, Sub B H → Ta.rep K B v x → Tb.rep K B w y → g x y = some z → (∀ B' H' u, Grow B H B' H' → Tc.rep K B' u z → Q u H') → r v w H Q
def Op1 (K : Fg) (r : V → Hp → VK → Prop) {α γ : Type} (Ta : Ty α) (Tc : Ty γ) (g : α → Option γ) : Prop :=
  ∀ {B H x z v Q}, Sub B H → Ta.rep K B v x → g x = some z → (∀ B' H' u, Grow B H B' H' → Tc.rep K B' u z → Q u H') → r v H Q
def OpN (K : Fg) (r : List V → Hp → VK → Prop) {β γ : Type} (R : Tys β) (Tc : Ty γ) (g : β → Option γ) : Prop :=
  ∀ {B H y z vs Q}, Sub B H → R.rep K B vs y → g y = some z → (∀ B' H' u, Grow B H B' H' → Tc.rep K B' u z → Q u H') → r vs H Q
/-- .. that make a new object -/
def Op2O (K : Fg) (r : R2) {α β γ : Type} (Ta : Ty α) (Tb : Ty β) (O : OTy γ) (g : α → β → Option γ) : Prop :=
  ∀ {B H x y z v w Q}, Sub B H → Ta.rep K B v x → Tb.rep K B w y → g x y = some z → (∀ p o, H p = none → O.rep K B o z → Q (.ref p) (upd H p o)) → r v w H Q
def OpNO (K : Fg) (r : List V → Hp → VK → Prop) {β γ : Type} (R : Tys β) (O : OTy γ) (g : β → Option γ) : Prop :=
  ∀ {B H y z vs Q}, Sub B H → R.rep K B vs y → g y = some z → (∀ p o, H p = none → O.rep K B o z → Q (.ref p) (upd H p o)) → r vs H Q

section
variable {X : Cx} {K : Fg} {L L' La Lc : List Loc} {e a b c : Expr} {pos : Pos}
theorem Stt.sb {F : Fr} {B H : Hp} {ρ : Env L} {σ} (S : Stt K F L B ρ σ H) : Sub B H := let ⟨_, S⟩ := S; S.sub
/-- behind a new object -/
theorem Stt.made {F : Fr} {B H : Hp} {ρ : Env L} {σ} (S : Stt K F L B ρ σ H) {p : Addr} {o : HO} (h : H p = none) :
    ∃ own, StO K F L own B ρ σ (upd H p o) ∧ (upd H p o) p = some o ∧ B p = none ∧ p ∉ own ∧ (F.H0 p = none ∨ p ∈ F.M) := by
  obtain ⟨own, S⟩ := S
  obtain ⟨h1, h2, h3⟩ := S.fresh h
  exact ⟨own, S.newH h, upd_same, h1, h2, h3⟩
theorem Stt.lockNew {F : Fr} {B H : Hp} {ρ : Env L} {σ} {own : List Addr} (S : StO K F L own B ρ σ H) {p : Addr} {o : HO} (e : H p = some o) (hb : B p = none) (ho : p ∉ own) (hf : F.H0 p = none ∨ p ∈ F.M) : Stt K F L (upd B p o) ρ σ H := by
  refine ⟨own, S.base.trans (Sub.upd hb), S.sub.ext e, S.keep, fun a h0 h1 => ?_, S.rel.frame (Sub.upd hb) fun _ _ => rfl, S.nd, fun a m => ⟨?_, (S.own a m).2⟩⟩
  · by_cases z : a = p
    · subst z
      rcases hf with y | y
      · exact absurd y h0
      · exact .inr y
    · rw [upd_ne z] at h1; exact S.old a h0 h1
  · rw [upd_ne fun z => ho (by rw [← z]; exact m)]
    exact (S.own a m).1

/-! ### names, constants -/
theorem y_var {α : Type} {T : Ty α} {n : Nat} {x : Str} (i : Ix (lImm T) n L) (hN : X.N[n]? = some x) (hv : Vis X.env.scope x) (hd : (x == ("__debug__" : Str)) = false := by decide) (hcd : (x == ("__classdict__" : Str)) = false := by decide) :
    PE X (.Name x pos) (tE K L T fun _ ρ k => k (i.get ρ) ρ) := by
  refine pe_weak (pe_var hN hv hd hcd) fun σ H Q ⟨F, B, ρ, ω, k, o, h, e1, q⟩ => ?_
  obtain ⟨own, S⟩ := id h
  obtain ⟨v, e2, r⟩ := S.rel.imm i
  exact ⟨v, e2, q B v H _ _ (Sub.refl B) h r e1⟩
theorem y_int {i : Int} {j : Nat} : PE X (.Constant (.int i) j pos) (tE K L tInt fun _ ρ k => k i ρ) := by
  refine pe_weak pe_int fun σ H Q ⟨F, B, ρ, ω, k, o, h, e1, q⟩ => ?_
  exact q B _ H _ _ (Sub.refl B) h rfl e1
theorem y_bl {b : Bool} {j : Nat} : PE X (.Constant (.bool b) j pos) (tE K L tBool fun _ ρ k => k b ρ) := by
  refine pe_weak pe_bl fun σ H Q ⟨F, B, ρ, ω, k, o, h, e1, q⟩ => ?_
  exact q B _ H _ _ (Sub.refl B) h rfl e1
theorem y_str {b : Str} {j : Nat} : PE X (.Constant (.str b) j pos) (tE K L tStr fun _ ρ k => k b ρ) := by
  refine pe_weak pe_str fun σ H Q ⟨F, B, ρ, ω, k, o, h, e1, q⟩ => ?_
  exact q B _ H _ _ (Sub.refl B) h rfl e1
theorem y_none {α : Type} {T : Ty α} {j : Nat} : PE X (.Constant .none j pos) (tE K L (tOpt T) fun _ ρ k => k none ρ) := by
  refine pe_weak pe_non fun σ H Q ⟨F, B, ρ, ω, k, o, h, e1, q⟩ => ?_
  exact q B _ H none ρ (Sub.refl B) h rfl e1
/-- a constant of the module -/
theorem y_glob {α : Type} {T : Ty α} {x : Str} {v : V} {u : Value} {c : α} (hg : Gl X x) (hm : X.mg x = some u) (r : RelV v u) (ht : ∀ B, T.rep K B v c) (hd : (x == ("__debug__" : Str)) = false := by decide) :
    PE X (.Name x pos) (tE K L T fun _ ρ k => k c ρ) := by
  refine pe_weak (pe_glob hg hm r hd) fun σ H Q ⟨F, B, ρ, ω, k, o, h, e1, q⟩ => ?_
  exact q B _ H _ _ (Sub.refl B) h (ht B) e1

/-! ### from one type to another -/
theorem y_cast {α β : Type} {T : Ty α} {U : Ty β} {m : Mo L α} (g : α → β) (hg : ∀ {B v x}, T.rep K B v x → U.rep K B v (g x)) (h : PE X e (tE K L T m)) : PE X e (tE K L U fun ω ρ k => m ω ρ fun x ρ' => k (g x) ρ') := by
  refine pe_weak h fun σ H Q ⟨F, B, ρ, ω, k, o, h, e1, q⟩ => ?_
  exact ⟨F, B, ρ, ω, _, o, h, e1, fun B' v H' x ρ' s st r e2 => q B' v H' _ _ s st (hg r) e2⟩
theorem y_some {α : Type} {T : Ty α} {m : Mo L α} (hn : T.nn = true) (h : PE X e (tE K L T m)) : PE X e (tE K L (tOpt T) fun ω ρ k => m ω ρ fun x ρ' => k (some x) ρ') := by
  refine pe_weak h fun σ H Q ⟨F, B, ρ, ω, k, o, h, e1, q⟩ => ?_
  exact ⟨F, B, ρ, ω, _, o, h, e1, fun B' v H' x ρ' s st r e2 => q B' v H' (some x) ρ' s st ⟨r, T.nnok hn r⟩ e2⟩
theorem y_unw {α : Type} {T : Ty α} {m : Mo L (Option α)} (h : PE X e (tE K L (tOpt T) m)) : PE X e (tE K L T fun ω ρ k => m ω ρ fun x ρ' => x.bind fun z => k z ρ') := by
  refine pe_weak h fun σ H Q ⟨F, B, ρ, ω, k, o, h, e1, q⟩ => ?_
  refine ⟨F, B, ρ, ω, _, o, h, e1, fun B' v H' x ρ' s st r e2 => ?_⟩
  cases x with
  | none => cases e2
  | some z => exact q B' v H' z ρ' s st r.1 e2
/-- a new object is locked -/
theorem y_fz {α : Type} {O : OTy α} {m : Mo L α} (h : PE X e (tO K L O m)) : PE X e (tE K L O.fz m) := by
  refine pe_weak h fun σ H Q ⟨F, B, ρ, ω, k, o, h, e1, q⟩ => ?_
  exact ⟨F, B, ρ, ω, k, o, h, e1, fun B' p u H' own x ρ' s st h1 h2 h3 h4 h5 e2 => q (upd B' p u) _ H' x ρ' (s.trans (Sub.upd h3)) (Stt.lockNew st h1 h3 h4 h5) (O.fzok upd_same (O.mono (Sub.upd h3) h2)) e2⟩

/-! ### operators -/
abbrev bin2 {α β γ : Type} (ma : Mo L α) (mb : Mo L β) (g : α → β → Option γ) : Mo L γ := fun ω ρ k => ma ω ρ fun x ρ1 => mb ω ρ1 fun y ρ2 => (g x y).bind fun z => k z ρ2
/-- .. that never fail -/
abbrev binT {α β γ : Type} (ma : Mo L α) (mb : Mo L β) (g : α → β → γ) : Mo L γ := fun ω ρ k => ma ω ρ fun x ρ1 => mb ω ρ1 fun y ρ2 => k (g x y) ρ2
theorem bin_fin {α β γ : Type} {Ta : Ty α} {Tb : Ty β} {Tc : Ty γ} {g : α → β → Option γ} {ma : Mo L α} {mb : Mo L β} {r : R2} (h : Op2 K r Ta Tb Tc g) {σ : L2.St} {H : Hp} {Q : VK} (w : tE K L Tc (bin2 ma mb g) σ H Q) : tOp r (tE K L Ta ma) (tE K L Tb mb) σ H Q := by
  obtain ⟨F, B, ρ, ω, k, o, st, e1, q⟩ := w
  refine ⟨F, B, ρ, ω, _, o, st, e1, fun B1 v H1 x ρ1 s1 st1 r1 e2 => ⟨F, B1, ρ1, ω, _, o, st1, e2, fun B2 w H2 y ρ2 s2 st2 r2 e3 => ?_⟩⟩
  obtain ⟨z, e4, e5⟩ := bind_some e3
  exact h st2.sb (Ta.mono s2 r1) r2 e4 fun B' H' u gr ru => q B' u H' z ρ2 ((s1.trans s2).trans gr.b) (st2.grow gr) ru e5
theorem bin_finT {α β γ : Type} {Ta : Ty α} {Tb : Ty β} {Tc : Ty γ} {g : α → β → γ} {ma : Mo L α} {mb : Mo L β} {r : R2} (h : Op2 K r Ta Tb Tc fun x y => some (g x y)) {σ : L2.St} {H : Hp} {Q : VK} (w : tE K L Tc (binT ma mb g) σ H Q) : tOp r (tE K L Ta ma) (tE K L Tb mb) σ H Q :=
  bin_fin (g := fun x y => some (g x y)) h w
theorem bin_finO {α β γ : Type} {Ta : Ty α} {Tb : Ty β} {O : OTy γ} {g : α → β → Option γ} {ma : Mo L α} {mb : Mo L β} {r : R2} (h : Op2O K r Ta Tb O g) {σ : L2.St} {H : Hp} {Q : VK} (w : tO K L O (bin2 ma mb g) σ H Q) : tOp r (tE K L Ta ma) (tE K L Tb mb) σ H Q := by
  obtain ⟨F, B, ρ, ω, k, o, st, e1, q⟩ := w
  refine ⟨F, B, ρ, ω, _, o, st, e1, fun B1 v H1 x ρ1 s1 st1 r1 e2 => ⟨F, B1, ρ1, ω, _, o, st1, e2, fun B2 w H2 y ρ2 s2 st2 r2 e3 => ?_⟩⟩
  obtain ⟨z, e4, e5⟩ := bind_some e3
  refine h st2.sb (Ta.mono s2 r1) r2 e4 fun p u hp ro => ?_
  obtain ⟨own, S, h1, h2, h3, h4⟩ := st2.made (o := u) hp
  exact q B2 p u _ own z ρ2 (s1.trans s2) S h1 ro h2 h3 h4 e5
theorem y_bin {op : Operator} {r : R2} {α β γ : Type} {Ta : Ty α} {Tb : Ty β} {Tc : Ty γ} {g : α → β → Option γ} {ma : Mo L α} {mb : Mo L β} (ho : OpR X (binaryOp op) r) (h : Op2 K r Ta Tb Tc g) (ha : PE X a (tE K L Ta ma)) (hb : PE X b (tE K L Tb mb)) :
    PE X (.BinOp a op b pos) (tE K L Tc (bin2 ma mb g)) := pe_weak (pe_op ho ha hb) fun σ H Q w => bin_fin h w
theorem y_binT {op : Operator} {r : R2} {α β γ : Type} {Ta : Ty α} {Tb : Ty β} {Tc : Ty γ} {g : α → β → γ} {ma : Mo L α} {mb : Mo L β} (ho : OpR X (binaryOp op) r) (h : Op2 K r Ta Tb Tc fun x y => some (g x y)) (ha : PE X a (tE K L Ta ma)) (hb : PE X b (tE K L Tb mb)) :
    PE X (.BinOp a op b pos) (tE K L Tc (binT ma mb g)) := pe_weak (pe_op ho ha hb) fun σ H Q w => bin_finT h w
/-- an operation on two written ints, by its value -/
theorem y_lit {op : Operator} {r : R2} {i j c : Int} {n1 n2 : Nat} {p1 p2 : Pos} {g : Int → Int → Option Int} (ho : OpR X (binaryOp op) r) (h : Op2 K r tInt tInt tInt g) (hv : g i j = some c) :
    PE X (.BinOp (.Constant (.int i) n1 p1) op (.Constant (.int j) n2 p2) pos) (tE K L tInt fun _ ρ k => k c ρ) := by
  refine pe_weak (y_bin ho h (y_int (i := i)) (y_int (i := j))) fun σ H Q ⟨F, B, ρ, ω, k, o, st, e1, q⟩ => ⟨F, B, ρ, ω, k, o, st, ?_, q⟩
  show (g i j).bind (fun z => k z ρ) = some o
  rw [hv]
  exact e1
theorem y_binO {op : Operator} {r : R2} {α β γ : Type} {Ta : Ty α} {Tb : Ty β} {O : OTy γ} {g : α → β → Option γ} {ma : Mo L α} {mb : Mo L β} (ho : OpR X (binaryOp op) r) (h : Op2O K r Ta Tb O g) (ha : PE X a (tE K L Ta ma)) (hb : PE X b (tE K L Tb mb)) :
    PE X (.BinOp a op b pos) (tO K L O (bin2 ma mb g)) := pe_weak (pe_op ho ha hb) fun σ H Q w => bin_finO h w
theorem y_cmp {op : CmpOp} {r : R2} {α β : Type} {Ta : Ty α} {Tb : Ty β} {g : α → β → Bool} {ma : Mo L α} {mb : Mo L β} (ho : OpR X (compareOp op) r) (h : Op2 K r Ta Tb tBool fun x y => some (g x y)) (ha : PE X a (tE K L Ta ma)) (hb : PE X b (tE K L Tb mb)) (hm : behindInMarks op b = false) :
    PE X (.Compare a [op] [b] pos) (tE K L tBool (binT ma mb g)) := pe_weak (pe_cmpR ho ha hb hm) fun σ H Q w => bin_finT h w
theorem y_cmpT {op : CmpOp} {r : R2} {α β : Type} {Ta : Ty α} {Tb : Ty β} {g : α → β → Bool} {ma : Mo L α} {mb : Mo L β} (ho : OpR X (compareOp op) r) (h : Op2 K r Ta Tb tBool fun x y => some (g x y)) (ha : PE X a (tE K L Ta ma)) (hb : PE X b (tE K L Tb mb)) (hm : behindInMarks op b = false) :
    PT X (.Compare a [op] [b] pos) (tC K L (binT ma mb g)) := by
  refine pt_weak (pt_cmpR ho ha hb hm) fun σ H Q ⟨F, B, ρ, ω, k, o, st, e1, q⟩ => ?_
  refine bin_finT (Tc := tBool) h ⟨F, B, ρ, ω, k, o, st, e1, fun B' v H' x ρ' s st' r e2 => ?_⟩
  exact ⟨x, r, q B' H' x ρ' s st' e2⟩
/-- a value that is True or False, as a test -/
theorem y_val {m : Mo L Bool} (h : PE X e (tE K L tBool m)) (he : ∀ whole, isTrue e X.env whole = (do let v ← whole; standAt e.pos; holding [v] (truthy v)) := by intro _; rfl) : PT X e (tC K L m) := by
  refine pt_weak (pt_val h he) fun σ H Q ⟨F, B, ρ, ω, k, o, st, e1, q⟩ => ?_
  exact ⟨F, B, ρ, ω, k, o, st, e1, fun B' v H' x ρ' s st' r e2 => ⟨x, r, q B' H' x ρ' s st' e2⟩⟩
theorem y_un {op : UnaryOp} {r : V → Hp → VK → Prop} {α γ : Type} {Ta : Ty α} {Tc : Ty γ} {g : α → γ} {ma : Mo L α} (ho : UnR X (unaryOp op) r) (h : Op1 K r Ta Tc fun x => some (g x)) (ha : PE X a (tE K L Ta ma)) :
    PE X (.UnaryOp op a pos) (tE K L Tc fun ω ρ k => ma ω ρ fun x ρ' => k (g x) ρ') := by
  refine pe_weak (pe_un ho ha) fun σ H Q ⟨F, B, ρ, ω, k, o, st, e1, q⟩ => ?_
  exact ⟨F, B, ρ, ω, _, o, st, e1, fun B' v H' x ρ' s st' r1 e2 => h st'.sb r1 rfl fun B2 H2 u gr ru => q B2 u H2 _ ρ' (s.trans gr.b) (st'.grow gr) ru e2⟩
theorem y_ix {r : R2} {α β γ : Type} {Ta : Ty α} {Tb : Ty β} {Tc : Ty γ} {g : α → β → Option γ} {ma : Mo L α} {mb : Mo L β} (hr : IxR X r) (h : Op2 K r Ta Tb Tc g) (ha : PE X a (tE K L Ta ma)) (hb : PE X b (tE K L Tb mb)) (hs : PlainIx b := by intro _ _; rfl) :
    PE X (.Subscript a b pos) (tE K L Tc (bin2 ma mb g)) := pe_weak (pe_ix hr ha hb hs) fun σ H Q w => bin_fin h w
/-- at a written place -/
theorem y_ixN {r : R2} {α γ : Type} {Ta : Ty α} {Tc : Ty γ} {i : Int} {j : Nat} {p : Pos} {g : α → γ} {ma : Mo L α} (hr : IxR X r) (h : Op2 K r Ta tInt Tc fun x y => if y = i then some (g x) else none) (ha : PE X a (tE K L Ta ma)) (hs : PlainIx (.Constant (.int i) j p) := by intro _ _; rfl) :
    PE X (.Subscript a (.Constant (.int i) j p) pos) (tE K L Tc fun ω ρ k => ma ω ρ fun x ρ' => k (g x) ρ') := by
  refine pe_weak (y_ix hr h ha y_int hs) fun σ H Q ⟨F, B, ρ, ω, k, o, st, e1, q⟩ => ?_
  refine ⟨F, B, ρ, ω, k, o, st, ?_, q⟩
  show ma ω ρ (fun x ρ1 => (if i = i then some (g x) else none).bind fun z => k z ρ1) = some o
  rw [show (fun x ρ1 => (if i = i then some (g x) else none).bind fun z => k z ρ1) = fun x ρ1 => k (g x) ρ1 from by
    funext x ρ1
    rw [if_pos rfl]
    rfl]
  exact e1

/-! ### tests -/
theorem y_and1 {ma : Mo L Bool} (ha : PT X a (tC K L ma)) : PW X (.BoolOp .And [a] pos) (tC K L ma) := pw_and1 ha
theorem y_or1 {ma : Mo L Bool} (ha : PT X a (tC K L ma)) : PW X (.BoolOp .Or [a] pos) (tC K L ma) := pw_or1 ha
/-- both; the second is asked only if the first holds. What follows is said once -/
abbrev andM (ma mb : Mo L Bool) : Mo L Bool := fun ω ρ k => (ma _ ρ fun t ρ1 => if t = true then mb _ ρ1 fun u ρ2 => some (u, ρ2) else some (false, ρ1)).bind fun p => k p.1 p.2
abbrev orM (ma mb : Mo L Bool) : Mo L Bool := fun ω ρ k => (ma _ ρ fun t ρ1 => if t = true then some (true, ρ1) else mb _ ρ1 fun u ρ2 => some (u, ρ2)).bind fun p => k p.1 p.2
theorem y_and {rest : List Expr} {ma mb : Mo L Bool} (ha : PT X a (tC K L ma)) (hb : PW X (.BoolOp .And (b :: rest) pos) (tC K L mb)) : PW X (.BoolOp .And (a :: b :: rest) pos) (tC K L (andM ma mb)) := by
  refine pw_weak (pw_and ha hb) fun σ H Q ⟨F, B, ρ, ω, k, o, st, e1, q⟩ => ?_
  obtain ⟨⟨u, ρ2⟩, e2, e3⟩ := bind_some e1
  refine ⟨F, B, ρ, _, _, _, st, e2, fun B' H' x ρ1 s st' e4 => ?_⟩
  cases x with
  | true => exact ⟨F, B', ρ1, _, _, _, st', e4, fun B2 H2 x2 ρ2 s2 st2 e5 => by cases e5; exact q B2 H2 _ _ (s.trans s2) st2 e3⟩
  | false =>
    cases e4
    exact q B' H' _ _ s st' e3
theorem y_or {rest : List Expr} {ma mb : Mo L Bool} (ha : PT X a (tC K L ma)) (hb : PW X (.BoolOp .Or (b :: rest) pos) (tC K L mb)) : PW X (.BoolOp .Or (a :: b :: rest) pos) (tC K L (orM ma mb)) := by
  refine pw_weak (pw_or ha hb) fun σ H Q ⟨F, B, ρ, ω, k, o, st, e1, q⟩ => ?_
  obtain ⟨⟨u, ρ2⟩, e2, e3⟩ := bind_some e1
  refine ⟨F, B, ρ, _, _, _, st, e2, fun B' H' x ρ1 s st' e4 => ?_⟩
  cases x with
  | false => exact ⟨F, B', ρ1, _, _, _, st', e4, fun B2 H2 x2 ρ2 s2 st2 e5 => by cases e5; exact q B2 H2 _ _ (s.trans s2) st2 e3⟩
  | true =>
    cases e4
    exact q B' H' _ _ s st' e3
/-- .. where neither can fail nor change anything: as Bools -/
def PureM (m : Mo L Bool) (f : Env L → Bool) : Prop := ∀ (ω : Type) (ρ : Env L) (k : Bool → Env L → Option ω), m ω ρ k = k (f ρ) ρ
theorem y_andP {rest : List Expr} {ma mb : Mo L Bool} {f g : Env L → Bool} (pa : PureM ma f) (pb : PureM mb g) (ha : PT X a (tC K L ma)) (hb : PW X (.BoolOp .And (b :: rest) pos) (tC K L mb)) : PW X (.BoolOp .And (a :: b :: rest) pos) (tC K L fun _ ρ k => k (f ρ && g ρ) ρ) := by
  refine pw_weak (y_and ha hb) fun σ H Q ⟨F, B, ρ, ω, k, o, st, e1, q⟩ => ⟨F, B, ρ, ω, k, o, st, ?_, q⟩
  show (ma _ ρ fun t ρ1 => if t = true then mb _ ρ1 fun u ρ2 => some (u, ρ2) else some (false, ρ1)).bind (fun p => k p.1 p.2) = some o
  rw [pa, pb]
  have e1 : k (f ρ && g ρ) ρ = some o := e1
  cases h : f ρ <;> rw [h] at e1 <;> exact e1
theorem y_orP {rest : List Expr} {ma mb : Mo L Bool} {f g : Env L → Bool} (pa : PureM ma f) (pb : PureM mb g) (ha : PT X a (tC K L ma)) (hb : PW X (.BoolOp .Or (b :: rest) pos) (tC K L mb)) : PW X (.BoolOp .Or (a :: b :: rest) pos) (tC K L fun _ ρ k => k (f ρ || g ρ) ρ) := by
  refine pw_weak (y_or ha hb) fun σ H Q ⟨F, B, ρ, ω, k, o, st, e1, q⟩ => ⟨F, B, ρ, ω, k, o, st, ?_, q⟩
  show (ma _ ρ fun t ρ1 => if t = true then some (true, ρ1) else mb _ ρ1 fun u ρ2 => some (u, ρ2)).bind (fun p => k p.1 p.2) = some o
  rw [pa, pb]
  have e1 : k (f ρ || g ρ) ρ = some o := e1
  cases h : f ρ <;> rw [h] at e1 <;> exact e1
abbrev notM (ma : Mo L Bool) : Mo L Bool := fun ω ρ k => ma ω ρ fun t ρ' => k (!t) ρ'
theorem y_not {ma : Mo L Bool} (ha : PT X a (tC K L ma)) : PT X (.UnaryOp .Not a pos) (tC K L (notM ma)) := by
  refine pt_weak (pt_not ha) fun σ H Q ⟨F, B, ρ, ω, k, o, st, e1, q⟩ => ?_
  exact ⟨F, B, ρ, ω, _, o, st, e1, fun B' H' x ρ' s st' e2 => q B' H' _ _ s st' e2⟩
theorem y_ifE {α : Type} {T : Ty α} {mc : Mo L Bool} {ma mb : Mo L α} (hc : PT X c (tC K L mc)) (ha : PE X a (tE K L T ma)) (hb : PE X b (tE K L T mb)) :
    PE X (.IfExp c a b pos) (tE K L T fun ω ρ k => mc ω ρ fun t ρ' => (if t = true then ma _ ρ' fun x ρ2 => some (x, ρ2) else mb _ ρ' fun x ρ2 => some (x, ρ2)).bind fun p => k p.1 p.2) := by
  refine pe_weak (pe_ifExp hc ha hb) fun σ H Q ⟨F, B, ρ, ω, k, o, st, e1, q⟩ => ?_
  refine ⟨F, B, ρ, ω, _, o, st, e1, fun B' H' t ρ' s st' e2 => ?_⟩
  obtain ⟨⟨x, ρ3⟩, e3, e4⟩ := bind_some e2
  cases t with
  | true => exact ⟨F, B', ρ', _, _, _, st', e3, fun B2 v H2 x2 ρ2 s2 st2 r2 e5 => by cases e5; exact q B2 v H2 _ _ (s.trans s2) st2 r2 e4⟩
  | false => exact ⟨F, B', ρ', _, _, _, st', e3, fun B2 v H2 x2 ρ2 s2 st2 r2 e5 => by cases e5; exact q B2 v H2 _ _ (s.trans s2) st2 r2 e4⟩
/-- .. where the branches can neither fail nor change anything -/
theorem y_ifP {α : Type} {T : Ty α} {mc : Mo L Bool} {f g : Env L → α} (hc : PT X c (tC K L mc)) (ha : PE X a (tE K L T fun _ ρ k => k (f ρ) ρ)) (hb : PE X b (tE K L T fun _ ρ k => k (g ρ) ρ)) :
    PE X (.IfExp c a b pos) (tE K L T fun ω ρ k => mc ω ρ fun t ρ' => k (if t = true then f ρ' else g ρ') ρ') := by
  refine pe_weak (y_ifE hc ha hb) fun σ H Q ⟨F, B, ρ, ω, k, o, st, e1, q⟩ => ⟨F, B, ρ, ω, k, o, st, ?_, q⟩
  show mc ω ρ (fun t ρ' => (if t = true then some (f ρ', ρ') else some (g ρ', ρ')).bind fun p => k p.1 p.2) = some o
  rw [show (fun t ρ' => (if t = true then some (f ρ', ρ') else some (g ρ', ρ')).bind fun p => k p.1 p.2) = fun t ρ' => k (if t = true then f ρ' else g ρ') ρ' from by
    funext t ρ'
    cases t <;> rfl]
  exact e1
/-- and, or, not as values -/
theorem y_vone {op : BoolOp} {ma : Mo L Bool} (ha : PE X a (tE K L tBool ma)) : PE X (.BoolOp op [a] pos) (tE K L tBool ma) := pe_one ha
theorem y_vand {rest : List Expr} {ma mb : Mo L Bool} (ha : PE X a (tE K L tBool ma)) (hb : PE X (.BoolOp .And (b :: rest) pos) (tE K L tBool mb)) : PE X (.BoolOp .And (a :: b :: rest) pos) (tE K L tBool (andM ma mb)) := by
  refine pe_weak (pe_and ha hb) fun σ H Q ⟨F, B, ρ, ω, k, o, st, e1, q⟩ => ?_
  obtain ⟨⟨u, ρ2⟩, e2, e3⟩ := bind_some e1
  refine ⟨F, B, ρ, _, _, _, st, e2, fun B' v H' x ρ1 s st' r e4 => ⟨x, r, ?_⟩⟩
  cases x with
  | true => exact ⟨F, B', ρ1, _, _, _, st', e4, fun B2 v2 H2 x2 ρ2 s2 st2 r2 e5 => by cases e5; exact q B2 v2 H2 _ _ (s.trans s2) st2 r2 e3⟩
  | false =>
    cases e4
    exact q B' _ H' _ _ s st' rfl e3
theorem y_vor {rest : List Expr} {ma mb : Mo L Bool} (ha : PE X a (tE K L tBool ma)) (hb : PE X (.BoolOp .Or (b :: rest) pos) (tE K L tBool mb)) : PE X (.BoolOp .Or (a :: b :: rest) pos) (tE K L tBool (orM ma mb)) := by
  refine pe_weak (pe_or ha hb) fun σ H Q ⟨F, B, ρ, ω, k, o, st, e1, q⟩ => ?_
  obtain ⟨⟨u, ρ2⟩, e2, e3⟩ := bind_some e1
  refine ⟨F, B, ρ, _, _, _, st, e2, fun B' v H' x ρ1 s st' r e4 => ⟨x, r, ?_⟩⟩
  cases x with
  | false => exact ⟨F, B', ρ1, _, _, _, st', e4, fun B2 v2 H2 x2 ρ2 s2 st2 r2 e5 => by cases e5; exact q B2 v2 H2 _ _ (s.trans s2) st2 r2 e3⟩
  | true =>
    cases e4
    exact q B' _ H' _ _ s st' rfl e3
theorem y_vnot {ma : Mo L Bool} (ha : PE X a (tE K L tBool ma)) : PE X (.UnaryOp .Not a pos) (tE K L tBool (notM ma)) := by
  refine pe_weak (pe_not ha) fun σ H Q ⟨F, B, ρ, ω, k, o, st, e1, q⟩ => ?_
  exact ⟨F, B, ρ, ω, _, o, st, e1, fun B' v H' x ρ' s st' r e2 => ⟨x, r, q B' _ H' _ _ s st' rfl e2⟩⟩
/-- a op b op' c -/
abbrev chainM {α β γ : Type} (g : α → β → Bool) (g' : β → γ → Bool) (ma : Mo L α) (mb : Mo L β) (mc : Mo L γ) : Mo L Bool := fun ω ρ k => ma ω ρ fun x ρ1 => mb ω ρ1 fun y ρ2 => (if g x y = true then mc _ ρ2 fun z ρ3 => some (g' y z, ρ3) else some (false, ρ2)).bind fun p => k p.1 p.2
theorem y_chain {op op' : CmpOp} {r r' : R2} {α β γ : Type} {Ta : Ty α} {Tb : Ty β} {Tc : Ty γ} {g : α → β → Bool} {g' : β → γ → Bool} {ma : Mo L α} {mb : Mo L β} {mc : Mo L γ} (ho : OpR X (compareOp op) r) (ho' : OpR X (compareOp op') r') (h : Op2 K r Ta Tb tBool fun x y => some (g x y)) (h' : Op2 K r' Tb Tc tBool fun x y => some (g' x y))
    (ha : PE X a (tE K L Ta ma)) (hb : PE X b (tE K L Tb mb)) (hc : PE X c (tE K L Tc mc)) (hm : lastMarks [op, op'] [b, c] = false := by with_unfolding_all rfl) :
    PE X (.Compare a [op, op'] [b, c] pos) (tE K L tBool (chainM g g' ma mb mc)) := by
  refine pe_weak (pe_chain ho ho' ha hb hc hm) fun σ H Q ⟨F, B, ρ, ω, k, o, st, e1, q⟩ => ?_
  refine ⟨F, B, ρ, ω, _, o, st, e1, fun B1 v H1 x1 ρ1 s1 st1 r1 e2 => ⟨F, B1, ρ1, ω, _, o, st1, e2, fun B2 w H2 x2 ρ2 s2 st2 r2 e3 => ?_⟩⟩
  obtain ⟨⟨t, ρ3⟩, e4, e5⟩ := bind_some e3
  refine h st2.sb (Ta.mono s2 r1) r2 rfl fun B3 H3 u gr ru => ⟨_, ru, ?_⟩
  have st3 := st2.grow gr
  have s3 := (s1.trans s2).trans gr.b
  cases hg : g x1 x2 with
  | false =>
    rw [hg] at e4
    cases e4
    exact q B3 _ H3 _ _ s3 st3 rfl e5
  | true =>
    rw [hg] at e4
    exact ⟨F, B3, ρ2, _, _, _, st3, e4, fun B4 v4 H4 x4 ρ4 s4 st4 r4 e6 => by
      cases e6
      exact h' st4.sb (Tb.mono (gr.b.trans s4) r2) r4 rfl fun B5 H5 u5 gr5 ru5 => q B5 u5 H5 _ _ ((s3.trans s4).trans gr5.b) (st4.grow gr5) ru5 e5⟩
theorem y_chainT {op op' : CmpOp} {r r' : R2} {α β γ : Type} {Ta : Ty α} {Tb : Ty β} {Tc : Ty γ} {g : α → β → Bool} {g' : β → γ → Bool} {ma : Mo L α} {mb : Mo L β} {mc : Mo L γ} (ho : OpR X (compareOp op) r) (ho' : OpR X (compareOp op') r') (h : Op2 K r Ta Tb tBool fun x y => some (g x y)) (h' : Op2 K r' Tb Tc tBool fun x y => some (g' x y))
    (ha : PE X a (tE K L Ta ma)) (hb : PE X b (tE K L Tb mb)) (hc : PE X c (tE K L Tc mc)) (hm : lastMarks [op, op'] [b, c] = false := by with_unfolding_all rfl) :
    PT X (.Compare a [op, op'] [b, c] pos) (tC K L (chainM g g' ma mb mc)) := by
  refine pt_weak (pt_chain ho ho' ha hb hc hm) fun σ H Q ⟨F, B, ρ, ω, k, o, st, e1, q⟩ => ?_
  refine ⟨F, B, ρ, ω, _, o, st, e1, fun B1 v H1 x1 ρ1 s1 st1 r1 e2 => ⟨F, B1, ρ1, ω, _, o, st1, e2, fun B2 w H2 x2 ρ2 s2 st2 r2 e3 => ?_⟩⟩
  obtain ⟨⟨t, ρ3⟩, e4, e5⟩ := bind_some e3
  refine h st2.sb (Ta.mono s2 r1) r2 rfl fun B3 H3 u gr ru => ⟨_, ru, ?_⟩
  have st3 := st2.grow gr
  have s3 := (s1.trans s2).trans gr.b
  cases hg : g x1 x2 with
  | false =>
    rw [hg] at e4
    cases e4
    exact ⟨_, rfl, q B3 H3 _ _ s3 st3 e5⟩
  | true =>
    rw [hg] at e4
    exact ⟨F, B3, ρ2, _, _, _, st3, e4, fun B4 v4 H4 x4 ρ4 s4 st4 r4 e6 => by
      cases e6
      exact h' st4.sb (Tb.mono (gr.b.trans s4) r2) r4 rfl fun B5 H5 u5 gr5 ru5 => ⟨_, ru5, q B5 H5 _ _ ((s3.trans s4).trans gr5.b) (st4.grow gr5) e5⟩⟩

/-! ### arguments, displays, calls -/
theorem a_nil : PA X [] (tAr K L rNil fun _ ρ k => k () ρ) := by
  refine pa_weak pa_nil fun σ H Q ⟨F, B, ρ, ω, k, o, st, e1, q⟩ => ?_
  exact q B [] H () ρ (Sub.refl B) st rfl e1
theorem a_one {α : Type} {T : Ty α} {m : Mo L α} (h : PE X e (tE K L T m)) (hs : starEach [e] X.env = (false, eval e X.env) :: starEach [] X.env := by rfl) : PA X [e] (tAr K L (rOne T) m) := by
  refine pa_weak (pa_cons h pa_nil hs) fun σ H Q ⟨F, B, ρ, ω, k, o, st, e1, q⟩ => ?_
  exact ⟨F, B, ρ, ω, k, o, st, e1, fun B' v H' x ρ' s st' r e2 => q B' [v] H' x ρ' s st' ⟨v, rfl, r⟩ e2⟩
theorem a_cons {α β : Type} {T : Ty α} {R : Tys β} {es : List Expr} {m : Mo L α} {m2 : Mo L β} (h : PE X e (tE K L T m)) (h2 : PA X es (tAr K L R m2)) (hs : starEach (e :: es) X.env = (false, eval e X.env) :: starEach es X.env := by rfl) :
    PA X (e :: es) (tAr K L (rCons T R) fun ω ρ k => m ω ρ fun x ρ1 => m2 ω ρ1 fun y ρ2 => k (x, y) ρ2) := by
  refine pa_weak (pa_cons h h2 hs) fun σ H Q ⟨F, B, ρ, ω, k, o, st, e1, q⟩ => ?_
  exact ⟨F, B, ρ, ω, _, o, st, e1, fun B1 v H1 x ρ1 s1 st1 r1 e2 => ⟨F, B1, ρ1, ω, _, o, st1, e2, fun B2 vs H2 y ρ2 s2 st2 r2 e3 => q B2 (v :: vs) H2 _ _ (s1.trans s2) st2 ⟨v, vs, rfl, T.mono s2 r1, r2⟩ e3⟩⟩
/-- items of one type -/
theorem a_nilA {α : Type} {T : Ty α} : PA X [] (tAr K L (rLen T 0) fun _ ρ k => k [] ρ) := by
  refine pa_weak pa_nil fun σ H Q ⟨F, B, ρ, ω, k, o, st, e1, q⟩ => ?_
  exact q B [] H [] ρ (Sub.refl B) st ⟨.nil, rfl⟩ e1
theorem a_consA {α : Type} {T : Ty α} {n : Nat} {es : List Expr} {m : Mo L α} {m2 : Mo L (List α)} (h : PE X e (tE K L T m)) (h2 : PA X es (tAr K L (rLen T n) m2)) (hs : starEach (e :: es) X.env = (false, eval e X.env) :: starEach es X.env := by rfl) :
    PA X (e :: es) (tAr K L (rLen T (n + 1)) fun ω ρ k => m ω ρ fun x ρ1 => m2 ω ρ1 fun y ρ2 => k (x :: y) ρ2) := by
  refine pa_weak (pa_cons h h2 hs) fun σ H Q ⟨F, B, ρ, ω, k, o, st, e1, q⟩ => ?_
  exact ⟨F, B, ρ, ω, _, o, st, e1, fun B1 v H1 x ρ1 s1 st1 r1 e2 => ⟨F, B1, ρ1, ω, _, o, st1, e2, fun B2 vs H2 y ρ2 s2 st2 r2 e3 => q B2 (v :: vs) H2 _ _ (s1.trans s2) st2 ⟨.cons (T.mono s2 r1) r2.1, by show y.length + 1 = n + 1; rw [show y.length = n from r2.2]⟩ e3⟩⟩
theorem y_tup {es : List Expr} {x1} {β : Type} {R : Tys β} {m : Mo L β} (h : PA X es (tAr K L R m)) (hl : ∀ {K B vs x}, R.rep K B vs x → vs.length ≤ sizeLine) : PE X (.Tuple es x1 pos) (tE K L (tTup R) m) := by
  refine pe_weak (pe_tup h) fun σ H Q ⟨F, B, ρ, ω, k, o, st, e1, q⟩ => ?_
  refine ⟨F, B, ρ, ω, k, o, st, e1, fun B' vs H' x ρ' s st' r e2 => ⟨hl r, fun p hp => ?_⟩⟩
  have g := Grow.new (o := HO.tup vs) st'.sb hp
  exact q _ _ _ x ρ' (s.trans g.b) (st'.grow g) ⟨p, vs, rfl, .inl (.inl upd_same), R.mono g.b r⟩ e2
theorem rLen.all {α : Type} {T : Ty α} {n : Nat} (hn : n ≤ 16777216) {B vs x} (h : (rLen T n).rep K B vs x) : (rAll T).rep K B vs x := ⟨h.1, by rw [h.2, sizeLine_eq]; exact hn⟩
/-- a tuple of things of one type -/
theorem y_tupA {es : List Expr} {x1} {α : Type} {T : Ty α} {n : Nat} {m : Mo L (List α)} (h : PA X es (tAr K L (rLen T n) m)) (hn : n ≤ 16777216 := by decide) : PE X (.Tuple es x1 pos) (tE K L (tAll T) m) := by
  refine pe_weak (pe_tup h) fun σ H Q ⟨F, B, ρ, ω, k, o, st, e1, q⟩ => ?_
  refine ⟨F, B, ρ, ω, k, o, st, e1, fun B' vs H' x ρ' s st' r e2 => ?_⟩
  have r := rLen.all hn r
  refine ⟨by rw [Paired.length r.1]; exact r.2, fun p hp => ?_⟩
  have g := Grow.new (o := HO.tup vs) st'.sb hp
  exact q _ _ _ x ρ' (s.trans g.b) (st'.grow g) ⟨p, vs, rfl, .inl (.inl upd_same), (rAll T).mono g.b r⟩ e2
theorem y_lst {es : List Expr} {α : Type} {T : Ty α} {n : Nat} {m : Mo L (List α)} (h : PA X es (tAr K L (rLen T n) m)) (hn : n ≤ 16777216 := by decide) : PE X (.List es pos) (tO K L (oLst T) m) := by
  refine pe_weak (pe_lst h) fun σ H Q ⟨F, B, ρ, ω, k, o, st, e1, q⟩ => ?_
  refine ⟨F, B, ρ, ω, k, o, st, e1, fun B' vs H' x ρ' s st' r e2 => ?_⟩
  have r := rLen.all hn r
  refine ⟨by rw [Paired.length r.1]; exact r.2, fun p hp => ?_⟩
  obtain ⟨own, S, h1, h2, h3, h4⟩ := st'.made (o := HO.lst vs) hp
  exact q B' p _ _ own x ρ' s S h1 ⟨vs, rfl, r⟩ h2 h3 h4 e2
theorem hl1 {α : Type} {T : Ty α} {K B vs x} (h : (rOne T).rep K B vs x) : vs.length ≤ sizeLine := by
  obtain ⟨v, rfl, _⟩ := h
  rw [sizeLine_eq, List.length_singleton]; decide
theorem hl2 {α β : Type} {T : Ty α} {U : Ty β} {K B vs x} (h : (rCons T (rOne U)).rep K B vs x) : vs.length ≤ sizeLine := by
  rw [rl2 h, sizeLine_eq]; decide
theorem hl3 {α β γ : Type} {T : Ty α} {U : Ty β} {W : Ty γ} {K B vs x} (h : (rCons T (rCons U (rOne W))).rep K B vs x) : vs.length ≤ sizeLine := by
  rw [rl3 h, sizeLine_eq]; decide
theorem hl4 {α β γ δ : Type} {T : Ty α} {U : Ty β} {W : Ty γ} {Z : Ty δ} {K B vs x} (h : (rCons T (rCons U (rCons W (rOne Z)))).rep K B vs x) : vs.length ≤ sizeLine := by
  rw [rl4 h, sizeLine_eq]; decide
theorem hlA {α : Type} {T : Ty α} {K B vs x} (h : (rAll T).rep K B vs x) : vs.length ≤ sizeLine := by rw [Paired.length h.1]; exact h.2
theorem hl0 {K B vs x} (h : rNil.rep K B vs x) : vs.length ≤ sizeLine := by
  obtain rfl := h
  exact Nat.zero_le _
variable {x : Str} {p : Pos} {es : List Expr}
theorem cN_fin {r : List V → Hp → VK → Prop} {β γ : Type} {R : Tys β} {Tc : Ty γ} {g : β → Option γ} {m : Mo L β} (h : OpN K r R Tc g) {σ : L2.St} {H : Hp} {Q : VK} (w : tE K L Tc (fun ω ρ k => m ω ρ fun x ρ' => (g x).bind fun z => k z ρ') σ H Q) : tCB r (tAr K L R m) σ H Q := by
  obtain ⟨F, B, ρ, ω, k, o, st, e1, q⟩ := w
  refine ⟨F, B, ρ, ω, _, o, st, e1, fun B' vs H' x ρ' s st' r1 e2 => ?_⟩
  obtain ⟨z, e3, e4⟩ := bind_some e2
  exact h st'.sb r1 e3 fun B2 H2 u gr ru => q B2 u H2 _ _ (s.trans gr.b) (st'.grow gr) ru e4
theorem cN_finO {r : List V → Hp → VK → Prop} {β γ : Type} {R : Tys β} {O : OTy γ} {g : β → Option γ} {m : Mo L β} (h : OpNO K r R O g) {σ : L2.St} {H : Hp} {Q : VK} (w : tO K L O (fun ω ρ k => m ω ρ fun x ρ' => (g x).bind fun z => k z ρ') σ H Q) : tCB r (tAr K L R m) σ H Q := by
  obtain ⟨F, B, ρ, ω, k, o, st, e1, q⟩ := w
  refine ⟨F, B, ρ, ω, _, o, st, e1, fun B' vs H' x ρ' s st' r1 e2 => ?_⟩
  obtain ⟨z, e3, e4⟩ := bind_some e2
  refine h st'.sb r1 e3 fun p u hp ro => ?_
  obtain ⟨own, S, h1, h2, h3, h4⟩ := st'.made (o := u) hp
  exact q B' p u _ own _ _ s S h1 ro h2 h3 h4 e4
theorem y_cB {id : String} {r : List V → Hp → VK → Prop} {β γ : Type} {R : Tys β} {Tc : Ty γ} {g : β → Option γ} {m : Mo L β} (hc : CallR X (.builtin id) r) (h : OpN K r R Tc g) (hg : Gl X x) (hm : X.mg x = none) (hv : bootBuiltins x = some (.builtin id)) (ha : PA X (e :: es) (tAr K L R m)) (hn : x ≠ "__name__" := by decide) (hdb : (x == ("__debug__" : Str)) = false := by decide)
    (he : starEach (e :: es) X.env = (false, eval e X.env) :: starEach es X.env := by rfl) (hpl : (backTo pos (starEach es X.env)).any (·.1) = false := by rfl) : PE X (.Call (.Name x p) (e :: es) [] pos) (tE K L Tc fun ω ρ k => m ω ρ fun x ρ' => (g x).bind fun z => k z ρ') :=
  pe_weak (pe_callB hc hg hm hv ha hn hdb he hpl) fun σ H Q w => cN_fin h w
theorem y_cBO {id : String} {r : List V → Hp → VK → Prop} {β γ : Type} {R : Tys β} {O : OTy γ} {g : β → Option γ} {m : Mo L β} (hc : CallR X (.builtin id) r) (h : OpNO K r R O g) (hg : Gl X x) (hm : X.mg x = none) (hv : bootBuiltins x = some (.builtin id)) (ha : PA X (e :: es) (tAr K L R m)) (hn : x ≠ "__name__" := by decide) (hdb : (x == ("__debug__" : Str)) = false := by decide)
    (he : starEach (e :: es) X.env = (false, eval e X.env) :: starEach es X.env := by rfl) (hpl : (backTo pos (starEach es X.env)).any (·.1) = false := by rfl) : PE X (.Call (.Name x p) (e :: es) [] pos) (tO K L O fun ω ρ k => m ω ρ fun x ρ' => (g x).bind fun z => k z ρ') :=
  pe_weak (pe_callB hc hg hm hv ha hn hdb he hpl) fun σ H Q w => cN_finO h w
theorem y_cT {T : String} {r : List V → Hp → VK → Prop} {β γ : Type} {R : Tys β} {Tc : Ty γ} {g : β → Option γ} {m : Mo L β} (hc : CallR X (.type T) r) (h : OpN K r R Tc g) (hg : Gl X x) (hm : X.mg x = none) (hv : bootBuiltins x = some (.type T)) (ha : PA X (e :: es) (tAr K L R m)) (hn : x ≠ "__name__" := by decide) (hdb : (x == ("__debug__" : Str)) = false := by decide)
    (he : starEach (e :: es) X.env = (false, eval e X.env) :: starEach es X.env := by rfl) (hpl : (backTo pos (starEach es X.env)).any (·.1) = false := by rfl) : PE X (.Call (.Name x p) (e :: es) [] pos) (tE K L Tc fun ω ρ k => m ω ρ fun x ρ' => (g x).bind fun z => k z ρ') :=
  pe_weak (pe_callTy hc hg hm hv ha hn hdb he hpl) fun σ H Q w => cN_fin h w
theorem y_cTO {T : String} {r : List V → Hp → VK → Prop} {β γ : Type} {R : Tys β} {O : OTy γ} {g : β → Option γ} {m : Mo L β} (hc : CallR X (.type T) r) (h : OpNO K r R O g) (hg : Gl X x) (hm : X.mg x = none) (hv : bootBuiltins x = some (.type T)) (ha : PA X (e :: es) (tAr K L R m)) (hn : x ≠ "__name__" := by decide) (hdb : (x == ("__debug__" : Str)) = false := by decide)
    (he : starEach (e :: es) X.env = (false, eval e X.env) :: starEach es X.env := by rfl) (hpl : (backTo pos (starEach es X.env)).any (·.1) = false := by rfl) : PE X (.Call (.Name x p) (e :: es) [] pos) (tO K L O fun ω ρ k => m ω ρ fun x ρ' => (g x).bind fun z => k z ρ') :=
  pe_weak (pe_callTy hc hg hm hv ha hn hdb he hpl) fun σ H Q w => cN_finO h w
variable {lv : Nat} {f : Addr} {fd : FuncData} {ps : List Str}
theorem y_call {β γ : Type} {R : Tys β} {T : Ty γ} {fm : β → Option γ} {m : Mo L β} (G : FnOk X.prog X.w X.K X.mg X.base CX0 lv f fd ps (spP K R T fm)) (hr : Room lv X.A) (hg : Gl X x) (hm : X.mg x = some (.ref f)) (hk : PySem.W.keepIn X.K (.ref f) = true) (hb : Binds X.K fd ps [])
    (ha : PA X (e :: es) (tAr K L R m)) (hdb : (x == ("__debug__" : Str)) = false := by decide) (he : starEach (e :: es) X.env = (false, eval e X.env) :: starEach es X.env := by rfl) (hpl : (backTo pos (starEach es X.env)).any (·.1) = false := by rfl) :
    PE X (.Call (.Name x p) (e :: es) [] pos) (tE K L T fun ω ρ k => m ω ρ fun x ρ' => (fm x).bind fun z => k z ρ') := by
  refine pe_weak (pe_call G hr hg hm hk hb .nil pass0 ha hdb he hpl) fun σ H Q ⟨F, B, ρ, ω, k, o, st, e1, q⟩ => ?_
  refine ⟨F, B, ρ, ω, _, o, st, e1, fun B' vs H' x ρ' s st' r1 e2 => ?_⟩
  obtain ⟨z, e3, e4⟩ := bind_some e2
  show spP K R T fm (vs ++ []) H' Q E0
  rw [List.append_nil]
  exact ⟨B', x, _, st'.sb, r1, e3, fun B2 v H2 gr rv => q B2 v H2 _ _ (s.trans gr.b) (st'.grow gr) rv e4⟩
theorem y_callO {β γ : Type} {R : Tys β} {O : OTy γ} {fm : β → Option γ} {m : Mo L β} (G : FnOk X.prog X.w X.K X.mg X.base CX0 lv f fd ps (spO K R O fm)) (hr : Room lv X.A) (hg : Gl X x) (hm : X.mg x = some (.ref f)) (hk : PySem.W.keepIn X.K (.ref f) = true) (hb : Binds X.K fd ps [])
    (ha : PA X (e :: es) (tAr K L R m)) (hdb : (x == ("__debug__" : Str)) = false := by decide) (he : starEach (e :: es) X.env = (false, eval e X.env) :: starEach es X.env := by rfl) (hpl : (backTo pos (starEach es X.env)).any (·.1) = false := by rfl) :
    PE X (.Call (.Name x p) (e :: es) [] pos) (tO K L O fun ω ρ k => m ω ρ fun x ρ' => (fm x).bind fun z => k z ρ') := by
  refine pe_weak (pe_call G hr hg hm hk hb .nil pass0 ha hdb he hpl) fun σ H Q ⟨F, B, ρ, ω, k, oo, st, e1, q⟩ => ?_
  refine ⟨F, B, ρ, ω, _, oo, st, e1, fun B' vs H' x ρ' s st' r1 e2 => ?_⟩
  obtain ⟨z, e3, e4⟩ := bind_some e2
  show spO K R O fm (vs ++ []) H' Q E0
  rw [List.append_nil]
  refine ⟨B', x, _, st'.sb, r1, e3, fun B2 q2 o H2 gr h1 h2 h3 ro => ?_⟩
  obtain ⟨own, S⟩ := st'
  have f := S.fresh h1
  exact q B2 q2 o H2 own _ _ (s.trans gr.b) (S.grow gr) h3 ro h2 f.2.1 f.2.2 e4
/-- the state behind a call that changed an own object of a slot -/
theorem StO.growM {F : Fr} {own : List Addr} {B H B' H' : Hp} {ρ : Env L} {σ} (S : StO K F L own B ρ σ H) {δ : Type} {O : OTy δ} {fo : Option Addr} {n : Nat} (i : Ix (lOwn O fo) n L) {d : Addr} {o' : HO} {x' : δ} (e : σ[n]? = some (some (.ref d))) (hl : d ∈ own)
    (g : GrowM d B H B' H') (h : H' d = some o') (hb : B' d = none) (r : O.rep K B' o' x') : StO K F L own B' (i.set x' ρ) σ H' := by
  have r1 := Rel.setc (l := d) r i e S.nd (S.rel.frame g.b fun _ _ => rfl)
  refine ⟨S.base.trans g.b, g.s, fun a u m q => ?_, fun a h0 h1 => ?_, r1.frame (Sub.refl _) fun a m => ?_, S.nd, fun a m => ⟨?_, (S.own a m).2⟩⟩
  · have q1 := S.keep a u m q
    refine g.h a u (fun z => ?_) q1
    subst z
    rcases (S.own a hl).2 with y | y
    · rw [q] at y; cases y
    · exact m y
  · rcases g.old a h1 with z | z
    · exact S.old a h0 z
    · by_cases hm : a ∈ F.M
      · exact .inr hm
      · cases q : F.H0 a with
        | none => exact absurd q h0
        | some u => rw [S.keep a u hm q] at z; cases z
  · by_cases z : a = d
    · subst z; rw [upd_same]; exact h
    · rw [upd_ne z]
      cases q : H a with
      | none => exact absurd q (S.rel.there a m)
      | some u => exact g.h a u z q
  · by_cases z : a = d
    · subst z; exact hb
    · cases q : B' a with
      | none => rfl
      | some u =>
        rcases g.old a (by rw [q]; exact fun y => nomatch y) with y | y
        · exact absurd (S.own a m).1 y
        · exact absurd y (S.rel.there a m)
/-- f(draws, ..): an own object at a name, then other arguments -/
theorem y_callM {β γ δ : Type} {O : OTy δ} {fo : Option Addr} {R : Tys β} {T : Ty γ} {fm : δ → β → Option (γ × δ)} {m : Mo L β} {n : Nat} {y : Str} {p2 : Pos} (i : Ix (lOwn O fo) n L) (hN : X.N[n]? = some y) (hv : Vis X.env.scope y)
    (G : FnOk X.prog X.w X.K X.mg X.base CX0 lv f fd ps (spM K O R T fm)) (hr : Room lv X.A) (hg : Gl X x) (hm : X.mg x = some (.ref f)) (hk : PySem.W.keepIn X.K (.ref f) = true) (hb : Binds X.K fd ps [])
    (ha : PA X es (tAr K L R m)) (hdb : (x == ("__debug__" : Str)) = false := by decide) (he : starEach (.Name y p2 :: es) X.env = (false, eval (.Name y p2) X.env) :: starEach es X.env := by rfl) (hpl : (backTo pos (starEach es X.env)).any (·.1) = false := by rfl) (hd2 : (y == ("__debug__" : Str)) = false := by decide) (hcd : (y == ("__classdict__" : Str)) = false := by decide) :
    PE X (.Call (.Name x p) (.Name y p2 :: es) [] pos) (tE K L T fun ω ρ k => m ω ρ fun x ρ' => (fm (i.get ρ') x).bind fun z => k z.1 (i.set z.2 ρ')) := by
  refine pe_weak (pe_call G hr hg hm hk hb .nil pass0 (pa_cons (pe_var hN hv hd2 hcd) ha he) hdb he hpl) fun σ H Q ⟨F, B, ρ, ω, k, oo, st, e1, q⟩ => ?_
  obtain ⟨own0, S0⟩ := id st
  obtain ⟨d, _, w1, _, _⟩ := S0.rel.own i
  refine ⟨.ref d, w1, F, B, ρ, ω, _, oo, st, e1, fun B' vs H' x ρ1 s st' r1 e2 => ?_⟩
  obtain ⟨z, e4, e5⟩ := bind_some e2
  obtain ⟨own, S⟩ := st'
  obtain ⟨d', o, w2, w3, w4, w5, _⟩ := S.rel.own i
  have ed : d' = d := by
    rw [w1] at w2
    simp at w2
    exact w2.symm
  subst ed
  show spM K O R T fm ((.ref d' :: vs) ++ []) H' Q E0
  rw [List.append_nil]
  refine ⟨B', d', vs, o, _, x, z, rfl, S.sub, w4, (S.own d' w3).1, w5, r1, e4, fun B2 v o' H2 gr h1 h2 ro rv => ?_⟩
  exact q B2 v H2 _ _ (s.trans gr.b) ⟨own, S.growM i w2 w3 gr h1 h2 ro⟩ rv e5
theorem y_callMO {β γ δ : Type} {O : OTy δ} {fo : Option Addr} {R : Tys β} {Po : OTy γ} {fm : δ → β → Option (γ × δ)} {m : Mo L β} {n : Nat} {y : Str} {p2 : Pos} (i : Ix (lOwn O fo) n L) (hN : X.N[n]? = some y) (hv : Vis X.env.scope y)
    (G : FnOk X.prog X.w X.K X.mg X.base CX0 lv f fd ps (spMO K O R Po fm)) (hr : Room lv X.A) (hg : Gl X x) (hm : X.mg x = some (.ref f)) (hk : PySem.W.keepIn X.K (.ref f) = true) (hb : Binds X.K fd ps [])
    (ha : PA X es (tAr K L R m)) (hdb : (x == ("__debug__" : Str)) = false := by decide) (he : starEach (.Name y p2 :: es) X.env = (false, eval (.Name y p2) X.env) :: starEach es X.env := by rfl) (hpl : (backTo pos (starEach es X.env)).any (·.1) = false := by rfl) (hd2 : (y == ("__debug__" : Str)) = false := by decide) (hcd : (y == ("__classdict__" : Str)) = false := by decide) :
    PE X (.Call (.Name x p) (.Name y p2 :: es) [] pos) (tO K L Po fun ω ρ k => m ω ρ fun x ρ' => (fm (i.get ρ') x).bind fun z => k z.1 (i.set z.2 ρ')) := by
  refine pe_weak (pe_call G hr hg hm hk hb .nil pass0 (pa_cons (pe_var hN hv hd2 hcd) ha he) hdb he hpl) fun σ H Q ⟨F, B, ρ, ω, k, oo, st, e1, q⟩ => ?_
  obtain ⟨own0, S0⟩ := id st
  obtain ⟨d, _, w1, _, _⟩ := S0.rel.own i
  refine ⟨.ref d, w1, F, B, ρ, ω, _, oo, st, e1, fun B' vs H' x ρ1 s st' r1 e2 => ?_⟩
  obtain ⟨z, e4, e5⟩ := bind_some e2
  obtain ⟨own, S⟩ := st'
  obtain ⟨d', o, w2, w3, w4, w5, _⟩ := S.rel.own i
  have ed : d' = d := by
    rw [w1] at w2
    simp at w2
    exact w2.symm
  subst ed
  show spMO K O R Po fm ((.ref d' :: vs) ++ []) H' Q E0
  rw [List.append_nil]
  refine ⟨B', d', vs, o, _, x, z, rfl, S.sub, w4, (S.own d' w3).1, w5, r1, e4, fun B2 q2 u o' H2 gr h1 h2 ro h3 h4 h5 h6 rv => ?_⟩
  have fr := S.fresh h3
  exact q B2 q2 u H2 own _ _ (s.trans gr.b) (S.growM i w2 w3 gr h1 h2 ro) h6 rv h5 fr.2.1 fr.2.2 e5
end
end L3

/-! L3: what single operations do, by types. -/
namespace L3
open PySem PySem.Spec PyProof.Rows L2

/-! ### ints -/
section
variable {K : Fg}
theorem gr0 {B H : Hp} (s : Sub B H) : Grow B H B H := Grow.refl s
theorem o_add : Op2 K (rI0 fun i j => .int (i + j)) tInt tInt tInt fun x y => some (x + y) := fun s hx hy e q => by
  cases hx; cases hy; cases e
  exact ⟨_, _, rfl, rfl, q _ _ _ (gr0 s) rfl⟩
theorem o_sub : Op2 K (rI0 fun i j => .int (i - j)) tInt tInt tInt fun x y => some (x - y) := fun s hx hy e q => by
  cases hx; cases hy; cases e
  exact ⟨_, _, rfl, rfl, q _ _ _ (gr0 s) rfl⟩
/-- products of numbers that are not huge -/
def mulOk (x y : Int) : Bool := x.natAbs < 2 ^ 64 || y.natAbs < 2 ^ 64 || (x.natAbs < 2 ^ 40000 && y.natAbs < 2 ^ 40000)
noncomputable def mulC (x y : Int) : Option Int := blk (if mulOk x y = true then some (x * y) else none)
theorem mulC_eq (x y : Int) : mulC x y = if mulOk x y = true then some (x * y) else none := blk_eq _
theorem mulOk_w {x y : Int} (h : mulOk x y = true) : CMul x y ∨ CMulW x y := by
  unfold mulOk at h
  simp only [Bool.or_eq_true, Bool.and_eq_true, decide_eq_true_eq] at h
  rcases h with (h | h) | h
  · exact .inl (.inl ⟨by omega, by omega⟩)
  · exact .inl (.inr ⟨by omega, by omega⟩)
  · exact .inr (wide_mul h.1 h.2 (by decide) (by decide) (by decide))
def rMulA : R2 := fun x y H Q => rI CMul (fun i j => .int (i * j)) x y H Q ∨ rI CMulW (fun i j => .int (i * j)) x y H Q
theorem op_mulA {X : Cx} : OpR X (binaryOp .Mult) rMulA := op_mul.or op_mulW
theorem o_mul : Op2 K rMulA tInt tInt tInt mulC := fun s hx hy e q => by
  cases hx; cases hy
  rw [mulC_eq] at e
  split at e
  · rename_i h
    cases e
    rcases mulOk_w h with h | h
    · exact .inl ⟨_, _, rfl, rfl, h, q _ _ _ (gr0 s) rfl⟩
    · exact .inr ⟨_, _, rfl, rfl, h, q _ _ _ (gr0 s) rfl⟩
  · cases e
def modC (x y : Int) : Option Int := if 0 < y then some (x % y) else none
theorem o_mod : Op2 K (rI (fun _ j => 0 < j) fun i j => .int (i % j)) tInt tInt tInt modC := fun s hx hy e q => by
  cases hx; cases hy
  unfold modC at e
  split at e
  · rename_i h
    cases e
    exact ⟨_, _, rfl, rfl, h, q _ _ _ (gr0 s) rfl⟩
  · cases e
noncomputable def divC (x y : Int) : Option Int := blk (if 0 < y ∧ y.natAbs < 2 ^ 9000 then some (x / y) else none)
theorem divC_eq (x y : Int) : divC x y = if 0 < y ∧ y.natAbs < 2 ^ 9000 then some (x / y) else none := blk_eq _
theorem o_div : Op2 K (rI CDivW fun i j => .int (i / j)) tInt tInt tInt divC := fun s hx hy e q => by
  cases hx; cases hy
  rw [divC_eq] at e
  split at e
  · rename_i h
    cases e
    exact ⟨_, _, rfl, rfl, wide_div h.1 h.2 (by decide) (by decide), q _ _ _ (gr0 s) rfl⟩
  · cases e
noncomputable def powC (x y : Int) : Option Int := blk (if 0 ≤ y ∧ y ≤ 1000000 ∧ x.natAbs < 2 ^ 64 then some (x ^ y.toNat) else none)
theorem powC_eq (x y : Int) : powC x y = if 0 ≤ y ∧ y ≤ 1000000 ∧ x.natAbs < 2 ^ 64 then some (x ^ y.toNat) else none := blk_eq _
theorem o_pow : Op2 K (rI CPow fun i j => .int (i ^ j.toNat)) tInt tInt tInt powC := fun s hx hy e q => by
  cases hx; cases hy
  rw [powC_eq] at e
  split at e
  · rename_i h
    cases e
    exact ⟨_, _, rfl, rfl, h, q _ _ _ (gr0 s) rfl⟩
  · cases e
theorem o_neg : Op1 K (rU fun i => .int (-i)) tInt tInt fun x => some (-x) := fun s hx e q => by
  cases hx; cases e
  exact ⟨_, rfl, q _ _ _ (gr0 s) rfl⟩
theorem o_lt : Op2 K (rI0 fun i j => .bl (decide (i < j))) tInt tInt tBool fun x y => some (decide (x < y)) := fun s hx hy e q => by
  cases hx; cases hy; cases e
  exact ⟨_, _, rfl, rfl, q _ _ _ (gr0 s) rfl⟩
theorem o_le : Op2 K (rI0 fun i j => .bl (decide (i ≤ j))) tInt tInt tBool fun x y => some (decide (x ≤ y)) := fun s hx hy e q => by
  cases hx; cases hy; cases e
  exact ⟨_, _, rfl, rfl, q _ _ _ (gr0 s) rfl⟩
theorem o_gt : Op2 K (rI0 fun i j => .bl (decide (j < i))) tInt tInt tBool fun x y => some (decide (y < x)) := fun s hx hy e q => by
  cases hx; cases hy; cases e
  exact ⟨_, _, rfl, rfl, q _ _ _ (gr0 s) rfl⟩
theorem o_ge : Op2 K (rI0 fun i j => .bl (decide (j ≤ i))) tInt tInt tBool fun x y => some (decide (y ≤ x)) := fun s hx hy e q => by
  cases hx; cases hy; cases e
  exact ⟨_, _, rfl, rfl, q _ _ _ (gr0 s) rfl⟩
theorem o_eqI : Op2 K rEq tInt tInt tBool fun x y => some (decide (x = y)) := fun {B H x y z v w Q} s hx hy e q => by
  cases hx; cases hy; cases e
  exact ⟨rfl, q _ _ _ (gr0 s) (by rw [show decide (V.int x = V.int y) = decide (x = y) by simp]; rfl)⟩
theorem o_neI : Op2 K rNe tInt tInt tBool fun x y => some (!decide (x = y)) := fun {B H x y z v w Q} s hx hy e q => by
  cases hx; cases hy; cases e
  exact ⟨rfl, q _ _ _ (gr0 s) (by rw [show decide (V.int x = V.int y) = decide (x = y) by simp]; rfl)⟩
theorem o_eqB : Op2 K rEq tBool tBool tBool fun x y => some (decide (x = y)) := fun {B H x y z v w Q} s hx hy e q => by
  cases hx; cases hy; cases e
  exact ⟨rfl, q _ _ _ (gr0 s) (by rw [show decide (V.bl x = V.bl y) = decide (x = y) by simp]; rfl)⟩
theorem o_neB : Op2 K rNe tBool tBool tBool fun x y => some (!decide (x = y)) := fun {B H x y z v w Q} s hx hy e q => by
  cases hx; cases hy; cases e
  exact ⟨rfl, q _ _ _ (gr0 s) (by rw [show decide (V.bl x = V.bl y) = decide (x = y) by simp]; rfl)⟩
theorem o_eqS : Op2 K rEq tStr tStr tBool fun x y => some (decide (x = y)) := fun {B H x y z v w Q} s hx hy e q => by
  cases hx; cases hy; cases e
  exact ⟨rfl, q _ _ _ (gr0 s) (by rw [show decide (V.str x = V.str y) = decide (x = y) by simp]; rfl)⟩
theorem o_neS : Op2 K rNe tStr tStr tBool fun x y => some (!decide (x = y)) := fun {B H x y z v w Q} s hx hy e q => by
  cases hx; cases hy; cases e
  exact ⟨rfl, q _ _ _ (gr0 s) (by rw [show decide (V.str x = V.str y) = decide (x = y) by simp]; rfl)⟩
/-- an int that may be None against one that may be -/
theorem o_eqOI : Op2 K rEq (tOpt tInt) (tOpt tInt) tBool fun x y => some (decide (x = y)) := fun {B H x y z v w Q} s hx hy e q => by
  cases e
  cases x with
  | none =>
    have hx : v = .non := hx
    subst hx
    cases y with
    | none =>
      have hy : w = .non := hy
      subst hy
      exact ⟨rfl, q _ _ _ (gr0 s) (by simp; rfl)⟩
    | some y =>
      have hy : w = .int y := hy.1
      subst hy
      exact ⟨rfl, q _ _ _ (gr0 s) (by simp; rfl)⟩
  | some x =>
    have hx : v = .int x := hx.1
    subst hx
    cases y with
    | none =>
      have hy : w = .non := hy
      subst hy
      exact ⟨rfl, q _ _ _ (gr0 s) (by simp; rfl)⟩
    | some y =>
      have hy : w = .int y := hy.1
      subst hy
      exact ⟨rfl, q _ _ _ (gr0 s) (by rw [show decide (V.int x = V.int y) = decide (some x = some y) by simp]; rfl)⟩
theorem o_neOI : Op2 K rNe (tOpt tInt) (tOpt tInt) tBool fun x y => some (!decide (x = y)) := fun {B H x y z v w Q} s hx hy e q => by
  cases e
  cases x with
  | none =>
    have hx : v = .non := hx
    subst hx
    cases y with
    | none =>
      have hy : w = .non := hy
      subst hy
      exact ⟨rfl, q _ _ _ (gr0 s) (by simp; rfl)⟩
    | some y =>
      have hy : w = .int y := hy.1
      subst hy
      exact ⟨rfl, q _ _ _ (gr0 s) (by simp; rfl)⟩
  | some x =>
    have hx : v = .int x := hx.1
    subst hx
    cases y with
    | none =>
      have hy : w = .non := hy
      subst hy
      exact ⟨rfl, q _ _ _ (gr0 s) (by simp; rfl)⟩
    | some y =>
      have hy : w = .int y := hy.1
      subst hy
      exact ⟨rfl, q _ _ _ (gr0 s) (by rw [show decide (V.int x = V.int y) = decide (some x = some y) by simp]; rfl)⟩
/-- x is None -/
theorem o_isN {α : Type} {T : Ty α} : Op2 K (fun x y H Q => y = .non ∧ Q (.bl (decide (x = .non))) H) (tOpt T) (tOpt T) tBool fun x y => if y.isNone = true then some x.isNone else none := fun {B H x y z v w Q} s hx hy e q => by
  cases y with
  | some y => cases e
  | none =>
    have hw : w = .non := hy
    cases e
    refine ⟨hw, q _ _ _ (gr0 s) ?_⟩
    cases x with
    | none =>
      have hv : v = .non := hx
      subst hv
      rfl
    | some x =>
      have hv : v ≠ .non := hx.2
      show V.bl (decide (v = .non)) = .bl false
      rw [decide_eq_false hv]
theorem o_notN {α : Type} {T : Ty α} : Op2 K (fun x y H Q => y = .non ∧ Q (.bl (!decide (x = .non))) H) (tOpt T) (tOpt T) tBool fun x y => if y.isNone = true then some x.isSome else none := fun {B H x y z v w Q} s hx hy e q => by
  cases y with
  | some y => cases e
  | none =>
    have hw : w = .non := hy
    cases e
    refine ⟨hw, q _ _ _ (gr0 s) ?_⟩
    cases x with
    | none =>
      have hv : v = .non := hx
      subst hv
      rfl
    | some x =>
      have hv : v ≠ .non := hx.2
      show V.bl (!decide (v = .non)) = .bl true
      rw [decide_eq_false hv]
      rfl

/-! ### built-ins of one or two ints -/
theorem c_int : OpN K (fun xs H Q => (∃ i, xs = [.int i] ∧ Q (.int i) H) ∨ ∃ k, xs = [.bl k] ∧ Q (.int (if k then 1 else 0)) H) (rOne tInt) tInt fun x => some x := fun s h e q => by
  obtain ⟨v, rfl, r⟩ := h
  cases r; cases e
  exact .inl ⟨_, rfl, q _ _ _ (gr0 s) rfl⟩
def b01 (b : Bool) : Int := if b = true then 1 else 0
theorem c_intB : OpN K (fun xs H Q => (∃ i, xs = [.int i] ∧ Q (.int i) H) ∨ ∃ k, xs = [.bl k] ∧ Q (.int (if k then 1 else 0)) H) (rOne tBool) tInt fun x => some (b01 x) := fun s h e q => by
  obtain ⟨v, rfl, r⟩ := h
  cases r; cases e
  exact .inr ⟨_, rfl, q _ _ _ (gr0 s) rfl⟩
theorem c_abs : OpN K (fun xs H Q => ∃ i, xs = [.int i] ∧ Q (.int (if i < 0 then -i else i)) H) (rOne tInt) tInt fun x => some (x.natAbs : Int) := fun {B H y z vs Q} s h e q => by
  obtain ⟨v, rfl, r⟩ := h
  cases r; cases e
  refine ⟨_, rfl, q _ _ _ (gr0 s) ?_⟩
  show V.int _ = V.int _
  congr 1
  split <;> omega
theorem c_max2 : OpN K (fun xs H Q => ∃ i j, xs = [.int i, .int j] ∧ Q (.int (if j > i then j else i)) H) (rCons tInt (rOne tInt)) tInt fun p => some (max p.1 p.2) := fun {B H y z vs Q} s h e q => by
  obtain ⟨v, _, rfl, r, w, rfl, r2⟩ := h
  cases r; cases r2; cases e
  refine ⟨_, _, rfl, q _ _ _ (gr0 s) ?_⟩
  show V.int _ = V.int _
  congr 1
  split <;> omega
theorem c_min2 : OpN K (fun xs H Q => ∃ i j, xs = [.int i, .int j] ∧ Q (.int (if j < i then j else i)) H) (rCons tInt (rOne tInt)) tInt fun p => some (min p.1 p.2) := fun {B H y z vs Q} s h e q => by
  obtain ⟨v, _, rfl, r, w, rfl, r2⟩ := h
  cases r; cases r2; cases e
  refine ⟨_, _, rfl, q _ _ _ (gr0 s) ?_⟩
  show V.int _ = V.int _
  congr 1
  split <;> omega
end

/-! ### lists and tuples: pairs of lists -/
section
variable {α β : Type} {F : α → β → Prop}
theorem P_get : ∀ {xs : List α} {ys : List β} {i : Nat} {y : β}, Paired F xs ys → ys[i]? = some y → ∃ x, xs[i]? = some x ∧ F x y
  | _, _, _, _, .nil, h => by simp at h
  | _, _, 0, _, .cons r _, h => by simp at h; subst h; exact ⟨_, rfl, r⟩
  | _, _, i + 1, _, .cons _ t, h => by
    obtain ⟨x, e, r⟩ := P_get t (by simpa using h)
    exact ⟨x, by simpa using e, r⟩
theorem P_app : ∀ {xs us : List α} {ys ws : List β}, Paired F xs ys → Paired F us ws → Paired F (xs ++ us) (ys ++ ws)
  | _, _, _, _, .nil, s => s
  | _, _, _, _, .cons r t, s => .cons r (P_app t s)
theorem P_take : ∀ {xs : List α} {ys : List β} (n : Nat), Paired F xs ys → Paired F (xs.take n) (ys.take n)
  | _, _, 0, _ => .nil
  | _, _, _ + 1, .nil => .nil
  | _, _, n + 1, .cons r t => .cons r (P_take n t)
theorem P_drop : ∀ {xs : List α} {ys : List β} (n : Nat), Paired F xs ys → Paired F (xs.drop n) (ys.drop n)
  | _, _, 0, h => h
  | _, _, _ + 1, .nil => .nil
  | _, _, n + 1, .cons _ t => P_drop n t
theorem P_set : ∀ {xs : List α} {ys : List β} (n : Nat) {x y}, Paired F xs ys → F x y → Paired F (xs.set n x) (ys.set n y)
  | _, _, _, _, _, .nil, _ => .nil
  | _, _, 0, _, _, .cons _ t, h => .cons h t
  | _, _, n + 1, _, _, .cons r t, h => .cons r (P_set n t h)
theorem P_rev {xs : List α} {ys : List β} (h : Paired F xs ys) : Paired F xs.reverse ys.reverse := by
  induction h with
  | nil => exact .nil
  | cons r _ ih =>
    rw [List.reverse_cons, List.reverse_cons]
    exact P_app ih (.cons r .nil)
theorem P_erase : ∀ {xs : List α} {ys : List β} (n : Nat), Paired F xs ys → Paired F (xs.eraseIdx n) (ys.eraseIdx n)
  | _, _, _, .nil => .nil
  | _, _, 0, .cons _ t => t
  | _, _, n + 1, .cons r t => .cons r (P_erase n t)
theorem P_rep {x : α} {y : β} (h : F x y) : ∀ n : Nat, Paired F (List.replicate n x) (List.replicate n y)
  | 0 => .nil
  | n + 1 => .cons h (P_rep h n)
theorem P_map {γ δ : Type} {G : γ → δ → Prop} {f : α → γ} {g : β → δ} (k : ∀ a b, F a b → G (f a) (g b)) : ∀ {xs : List α} {ys : List β}, Paired F xs ys → Paired G (xs.map f) (ys.map g)
  | _, _, .nil => .nil
  | _, _, .cons r t => .cons (k _ _ r) (P_map k t)
theorem P_ints : ∀ {vs : List V} {xs : List Int}, Paired (fun v x => v = V.int x) vs xs → vs = xs.map V.int
  | _, _, .nil => rfl
  | _, _, .cons r t => by rw [r, P_ints t]; rfl
theorem P_bls : ∀ {vs : List V} {xs : List Bool}, Paired (fun v x => v = V.bl x) vs xs → vs = xs.map V.bl
  | _, _, .nil => rfl
  | _, _, .cons r t => by rw [r, P_bls t]; rfl
theorem P_strs : ∀ {vs : List V} {xs : List Str}, Paired (fun v x => v = V.str x) vs xs → vs = xs.map V.str
  | _, _, .nil => rfl
  | _, _, .cons r t => by rw [r, P_strs t]; rfl
theorem P_ofInts : ∀ (xs : List Int), Paired (fun v x => v = V.int x) (xs.map V.int) xs
  | [] => .nil
  | _ :: r => .cons rfl (P_ofInts r)
end

/-- the item at i, from the end if below 0 -/
def getI {α : Type} (xs : List α) (i : Int) : Option α := if 0 ≤ i then xs[i.toNat]? else if -(xs.length : Int) ≤ i then xs[(i + xs.length).toNat]? else none
theorem atI_getI {α : Type} (xs : List α) (i : Int) : atI xs i = getI xs i := by
  unfold atI ixN getI
  by_cases h : 0 ≤ i
  · rw [if_pos h, if_pos h]
    by_cases h2 : i < xs.length
    · rw [if_pos h2]; rfl
    · rw [if_neg h2]
      exact (List.getElem?_eq_none_iff.mpr (by omega)).symm
  · rw [if_neg h, if_neg h]
    by_cases h2 : -(xs.length : Int) ≤ i
    · rw [if_pos h2, if_pos h2]; rfl
    · rw [if_neg h2, if_neg h2]; rfl
theorem P_getI {α β : Type} {F : α → β → Prop} {xs : List α} {ys : List β} {i : Int} {y : β} (p : Paired F xs ys) (h : getI ys i = some y) : ∃ x, atI xs i = some x ∧ F x y := by
  rw [atI_getI]
  unfold getI at h ⊢
  rw [Paired.length p]
  by_cases h0 : 0 ≤ i
  · rw [if_pos h0] at h ⊢; exact P_get p h
  · rw [if_neg h0] at h ⊢
    by_cases h2 : -(ys.length : Int) ≤ i
    · rw [if_pos h2] at h ⊢; exact P_get p h
    · rw [if_neg h2] at h; cases h
section
variable {K : Fg} {α : Type} {T : Ty α}
theorem ix_c : Op2 K (rIxL K) (tScr T) tInt T getI := fun {B H x y z v w Q} s hx hy e q => by
  obtain ⟨a, vs, rfl, sq, r⟩ := hx
  cases hy
  obtain ⟨u, e2, r2⟩ := P_getI r.1 e
  exact ⟨a, vs, _, u, rfl, rfl, s.seqL sq, e2, q _ _ _ (gr0 s) r2⟩
theorem lstScr {B v} {x : List α} (h : (tLst T).rep K B v x) : (tScr T).rep K B v x := let ⟨a, vs, e, sq, r⟩ := h; ⟨a, vs, e, .inl (.inl sq), r⟩
theorem ix_l : Op2 K (rIxL K) (tLst T) tInt T getI := fun s hx hy e q => ix_c s (lstScr hx) hy e q
theorem ix_t : Op2 K (rIxT K) (tAll T) tInt T getI := fun {B H x y z v w Q} s hx hy e q => by
  obtain ⟨a, vs, rfl, sq, r⟩ := hx
  cases hy
  obtain ⟨u, e2, r2⟩ := P_getI r.1 e
  exact ⟨a, vs, _, u, rfl, rfl, s.seqT sq, e2, q _ _ _ (gr0 s) r2⟩
/-- a place of a tuple of unlike things: the place is written -/
def Nth {β : Type} (R : Tys β) (i : Int) {γ : Type} (U : Ty γ) (g : β → γ) : Prop := ∀ {B vs x}, R.rep K B vs x → ∃ v, atI vs i = some v ∧ U.rep K B v (g x)
theorem ix_n {β γ : Type} {R : Tys β} {U : Ty γ} {i : Int} {g : β → γ} (n : Nth (K := K) R i U g) : Op2 K (rIxT K) (tTup R) tInt U fun x j => if j = i then some (g x) else none := fun {B H x y z v w Q} s hx hy e q => by
  obtain ⟨a, vs, rfl, sq, r⟩ := hx
  cases hy
  dsimp only at e
  split at e
  · rename_i h
    subst h
    cases e
    obtain ⟨u, e2, r2⟩ := n r
    exact ⟨a, vs, _, u, rfl, rfl, s.seqT sq, e2, q _ _ _ (gr0 s) r2⟩
  · cases e
variable {β γ δ : Type} {U : Ty β} {W : Ty γ} {Z : Ty δ} {R : Tys γ}
theorem n0 {R : Tys β} : Nth (K := K) (rCons T R) 0 T fun x => x.1 := fun ⟨v, r, e, h, k⟩ => ⟨v, by rw [e]; exact atI_nat (j := 0) rfl, h⟩
theorem n1 : Nth (K := K) (rCons T (rOne U)) 1 U fun x => x.2 := fun ⟨v, r, e, h, w, e2, k⟩ => ⟨w, by rw [e, e2]; exact atI_nat (j := 1) rfl, k⟩
theorem n1' : Nth (K := K) (rCons T (rCons U R)) 1 U fun x => x.2.1 := fun ⟨v, r, e, h, w, r2, e2, k, _⟩ => ⟨w, by rw [e, e2]; exact atI_nat (j := 1) rfl, k⟩
theorem n2 : Nth (K := K) (rCons T (rCons U (rOne W))) 2 W fun x => x.2.2 := fun ⟨v, r, e, h, w, r2, e2, k, z, e3, l⟩ => ⟨z, by rw [e, e2, e3]; exact atI_nat (j := 2) rfl, l⟩
theorem n2' {R : Tys δ} : Nth (K := K) (rCons T (rCons U (rCons W R))) 2 W fun x => x.2.2.1 := fun ⟨v, r, e, h, w, r2, e2, k, z, r3, e3, l, _⟩ => ⟨z, by rw [e, e2, e3]; exact atI_nat (j := 2) rfl, l⟩
theorem n3 : Nth (K := K) (rCons T (rCons U (rCons W (rOne Z)))) 3 Z fun x => x.2.2.2 := fun ⟨v, r, e, h, w, r2, e2, k, z, r3, e3, l, y, e4, m⟩ => ⟨y, by rw [e, e2, e3, e4]; exact atI_nat (j := 3) rfl, m⟩

/-! ### len, list, tuple -/
theorem c_lenC : OpN K (fun xs H Q => ∃ p ys, xs = [.ref p] ∧ (SqL K H p ys ∨ SqT K H p ys) ∧ Q (.int ys.length) H) (rOne (tScr T)) tInt fun x => some (x.length : Int) := fun s h e q => by
  obtain ⟨v, rfl, a, vs, rfl, sq, r⟩ := h
  cases e
  exact ⟨a, vs, rfl, .inl (s.seqL sq), q _ _ _ (gr0 s) (by rw [Paired.length r.1]; rfl)⟩
theorem c_lenL : OpN K (fun xs H Q => ∃ p ys, xs = [.ref p] ∧ (SqL K H p ys ∨ SqT K H p ys) ∧ Q (.int ys.length) H) (rOne (tLst T)) tInt fun x => some (x.length : Int) := fun s ⟨v, e1, r⟩ e q => c_lenC s ⟨v, e1, lstScr r⟩ e q
theorem c_lenT : OpN K (fun xs H Q => ∃ p ys, xs = [.ref p] ∧ (SqL K H p ys ∨ SqT K H p ys) ∧ Q (.int ys.length) H) (rOne (tAll T)) tInt fun x => some (x.length : Int) := fun s h e q => by
  obtain ⟨v, rfl, a, vs, rfl, sq, r⟩ := h
  cases e
  exact ⟨a, vs, rfl, .inr (s.seqT sq), q _ _ _ (gr0 s) (by rw [Paired.length r.1]; rfl)⟩
/-- len of a tuple of a written number of things -/
theorem c_lenN {β : Type} {R : Tys β} {n : Nat} (hl : ∀ {K B vs x}, R.rep K B vs x → vs.length = n) : OpN K (fun xs H Q => ∃ p ys, xs = [.ref p] ∧ (SqL K H p ys ∨ SqT K H p ys) ∧ Q (.int ys.length) H) (rOne (tTup R)) tInt fun _ => some (n : Int) := fun s h e q => by
  obtain ⟨v, rfl, a, vs, rfl, sq, r⟩ := h
  cases e
  exact ⟨a, vs, rfl, .inr (s.seqT sq), q _ _ _ (gr0 s) (by rw [hl r]; rfl)⟩
theorem c_lenS : OpN K (fun xs H Q => ∃ z, xs = [.str z] ∧ z.length ≤ sizeLine ∧ Q (.int z.length) H) (rOne tStr) tInt fun x => if x.length ≤ 16777216 then some (x.length : Int) else none := fun s h e q => by
  obtain ⟨v, rfl, r⟩ := h
  cases r
  dsimp only at e
  split at e
  · rename_i h
    cases e
    exact ⟨_, rfl, by rw [sizeLine_eq]; exact h, q _ _ _ (gr0 s) rfl⟩
  · cases e
theorem c_listC : OpNO K (fun xs H Q => ∃ p ys, xs = [.ref p] ∧ (SqL K H p ys ∨ SqT K H p ys) ∧ ∀ l, H l = none → Q (.ref l) (upd H l (.lst ys))) (rOne (tScr T)) (oLst T) fun x => some x := fun s h e q => by
  obtain ⟨v, rfl, a, vs, rfl, sq, r⟩ := h
  cases e
  exact ⟨a, vs, rfl, .inl (s.seqL sq), fun l hl => q l _ hl ⟨vs, rfl, r⟩⟩
theorem c_list : OpNO K (fun xs H Q => ∃ p ys, xs = [.ref p] ∧ (SqL K H p ys ∨ SqT K H p ys) ∧ ∀ l, H l = none → Q (.ref l) (upd H l (.lst ys))) (rOne (tLst T)) (oLst T) fun x => some x := fun s ⟨v, e1, r⟩ e q => c_listC s ⟨v, e1, lstScr r⟩ e q
theorem c_listT : OpNO K (fun xs H Q => ∃ p ys, xs = [.ref p] ∧ (SqL K H p ys ∨ SqT K H p ys) ∧ ∀ l, H l = none → Q (.ref l) (upd H l (.lst ys))) (rOne (tAll T)) (oLst T) fun x => some x := fun s h e q => by
  obtain ⟨v, rfl, a, vs, rfl, sq, r⟩ := h
  cases e
  exact ⟨a, vs, rfl, .inr (s.seqT sq), fun l hl => q l _ hl ⟨vs, rfl, r⟩⟩
theorem c_tupleC : OpN K (fun xs H Q => ∃ p ys, xs = [.ref p] ∧ ((SqL K H p ys ∧ ∀ l, H l = none → Q (.ref l) (upd H l (.tup ys))) ∨ (SqT K H p ys ∧ Q (.ref p) H))) (rOne (tScr T)) (tAll T) fun x => some x := fun s h e q => by
  obtain ⟨v, rfl, a, vs, rfl, sq, r⟩ := h
  cases e
  refine ⟨a, vs, rfl, .inl ⟨s.seqL sq, fun l hl => ?_⟩⟩
  have g := Grow.new (o := HO.tup vs) s hl
  exact q _ _ _ g ⟨l, vs, rfl, .inl (.inl upd_same), (rAll T).mono g.b r⟩
theorem c_tuple : OpN K (fun xs H Q => ∃ p ys, xs = [.ref p] ∧ ((SqL K H p ys ∧ ∀ l, H l = none → Q (.ref l) (upd H l (.tup ys))) ∨ (SqT K H p ys ∧ Q (.ref p) H))) (rOne (tLst T)) (tAll T) fun x => some x := fun s ⟨v, e1, r⟩ e q => c_tupleC s ⟨v, e1, lstScr r⟩ e q
theorem c_tupleT : OpN K (fun xs H Q => ∃ p ys, xs = [.ref p] ∧ ((SqL K H p ys ∧ ∀ l, H l = none → Q (.ref l) (upd H l (.tup ys))) ∨ (SqT K H p ys ∧ Q (.ref p) H))) (rOne (tAll T)) (tAll T) fun x => some x := fun s h e q => by
  obtain ⟨v, rfl, a, vs, rfl, sq, r⟩ := h
  cases e
  exact ⟨a, vs, rfl, .inr ⟨s.seqT sq, q _ _ _ (gr0 s) ⟨a, vs, rfl, sq, r⟩⟩⟩

/-! ### + and * -/
def catC {α : Type} (xs ys : List α) : Option (List α) := if xs.length + ys.length ≤ 16777216 then some (xs ++ ys) else none
theorem catC_of {α : Type} {xs ys z : List α} (e : catC xs ys = some z) : xs.length + ys.length ≤ 16777216 ∧ z = xs ++ ys := by
  unfold catC at e
  split at e
  · rename_i h
    cases e
    exact ⟨h, rfl⟩
  · cases e
theorem o_catT : Op2 K (rCatA K) (tAll T) (tAll T) (tAll T) catC := fun {B H x y z v w Q} s hx hy e q => by
  obtain ⟨hz, rfl⟩ := catC_of e
  obtain ⟨a, vs, rfl, sq, r⟩ := hx
  obtain ⟨b, ws, rfl, sq2, r2⟩ := hy
  have hr : (rAll T).rep K B (vs ++ ws) (x ++ y) := ⟨P_app r.1 r2.1, by rw [sizeLine_eq, List.length_append]; exact hz⟩
  refine ⟨a, b, vs, ws, rfl, rfl, s.seqT sq, s.seqT sq2, ?_, fun e1 => ?_, fun _ e2 => ?_, fun _ _ p hp => ?_⟩
  · rw [Paired.length r.1, Paired.length r2.1, sizeLine_eq]; exact hz
  · subst e1
    rw [List.nil_append] at hr
    exact q _ _ _ (gr0 s) ⟨b, ws, rfl, sq2, hr⟩
  · subst e2
    rw [List.append_nil] at hr
    exact q _ _ _ (gr0 s) ⟨a, vs, rfl, sq, hr⟩
  · have g := Grow.new (o := HO.tup (vs ++ ws)) s hp
    exact q _ _ _ g ⟨p, _, rfl, .inl (.inl upd_same), (rAll T).mono g.b hr⟩
theorem o_catL : Op2O K rCat (tLst T) (tLst T) (oLst T) catC := fun {B H x y z v w Q} s hx hy e q => by
  obtain ⟨hz, rfl⟩ := catC_of e
  obtain ⟨a, vs, rfl, sq, r⟩ := hx
  obtain ⟨b, ws, rfl, sq2, r2⟩ := hy
  refine ⟨a, b, vs, ws, rfl, rfl, s _ _ sq, s _ _ sq2, by rw [Paired.length r.1, Paired.length r2.1, sizeLine_eq]; exact hz, fun p hp => q p _ hp ⟨_, rfl, P_app r.1 r2.1, ?_⟩⟩
  rw [sizeLine_eq, List.length_append]; exact hz
theorem P_flat {F : V → α → Prop} {vs : List V} {xs : List α} (h : Paired F vs xs) : ∀ n : Nat, Paired F (List.replicate n vs).flatten (List.replicate n xs).flatten
  | 0 => .nil
  | n + 1 => by
    rw [List.replicate_succ, List.replicate_succ, List.flatten_cons, List.flatten_cons]
    exact P_app h (P_flat h n)
theorem len_flat {α : Type} (xs : List α) : ∀ n : Nat, (List.replicate n xs).flatten.length = xs.length * n
  | 0 => rfl
  | n + 1 => by
    rw [List.replicate_succ, List.flatten_cons, List.length_append, len_flat xs n, Nat.mul_succ]
    omega
/-- [..] * n -/
noncomputable def repC {α : Type} (xs : List α) (n : Int) : Option (List α) := blk (if n < 2 ^ 63 ∧ -(2 ^ 63) ≤ n ∧ xs.length * n.toNat ≤ 16777216 then some (List.replicate n.toNat xs).flatten else none)
theorem repC_eq {α : Type} (xs : List α) (n : Int) : repC xs n = if n < 2 ^ 63 ∧ -(2 ^ 63) ≤ n ∧ xs.length * n.toNat ≤ 16777216 then some (List.replicate n.toNat xs).flatten else none := blk_eq _
theorem o_rep : Op2O K rRep (tLst T) tInt (oLst T) repC := fun {B H x y z v w Q} s hx hy e q => by
  obtain ⟨a, vs, rfl, sq, r⟩ := hx
  cases hy
  rw [repC_eq] at e
  split at e
  · rename_i h
    cases e
    refine ⟨a, _, vs, rfl, rfl, s _ _ sq, h.2.1, h.1, by rw [Paired.length r.1, sizeLine_eq]; exact h.2.2, fun p hp => q p _ hp ⟨_, rfl, P_flat r.1 _, ?_⟩⟩
    rw [len_flat, sizeLine_eq]; exact h.2.2
  · cases e

/-! ### slices -/
def cutI {α : Type} (xs : List α) (lo hi : Option Int) : List α := (xs.drop (HT.sIx xs.length 0 lo)).take (HT.sIx xs.length xs.length hi - HT.sIx xs.length 0 lo)
theorem cutI_len {α : Type} (xs : List α) (lo hi : Option Int) : (cutI xs lo hi).length ≤ xs.length := by
  unfold cutI
  rw [List.length_take, List.length_drop]
  omega
theorem P_cut {F : V → α → Prop} {vs : List V} {xs : List α} (h : Paired F vs xs) (lo hi : Option Int) : Paired F (cutV vs lo hi) (cutI xs lo hi) := by
  unfold cutV cutI
  rw [Paired.length h]
  exact P_take _ (P_drop _ h)
variable {X : Cx} {L : List Loc} {e : Expr} {lo hi : Option Expr} {pos p2 : Pos}
/-- a bound of a slice -/
def tPt (K : Fg) (L : List Loc) (m : Mo L (Option Int)) : TO := fun σ H Q => ∃ (F : Fr) (B : Hp) (ρ : Env L) (ω : Type) (k : Option Int → Env L → Option ω) (o : ω), Stt K F L B ρ σ H ∧ m ω ρ k = some o ∧
  ∀ B' H' x ρ', Sub B B' → Stt K F L B' ρ' σ H' → k x ρ' = some o → Q x H'
theorem po_weak {o : Option Expr} {t t' : TO} (h : PO X o t) (k : ∀ σ H Q, t' σ H Q → t σ H Q) : PO X o t' := ⟨fun pins s σ H Q I q => h.run pins s σ H Q I (k σ H Q q)⟩
theorem p_none : PO X none (tPt K L fun _ ρ k => k none ρ) := by
  refine po_weak po_none fun σ H Q ⟨F, B, ρ, ω, k, o, st, e1, q⟩ => ?_
  exact q B H _ _ (Sub.refl B) st e1
theorem p_some {m : Mo L Int} (h : PE X e (tE K L tInt m)) : PO X (some e) (tPt K L fun ω ρ k => m ω ρ fun x ρ' => k (some x) ρ') := by
  refine po_weak (po_some h) fun σ H Q ⟨F, B, ρ, ω, k, o, st, e1, q⟩ => ?_
  exact ⟨F, B, ρ, ω, _, o, st, e1, fun B' v H' x ρ' s st' r e2 => ⟨x, r, q B' H' _ _ s st' e2⟩⟩
theorem y_slL {m : Mo L (List α)} {ml mh : Mo L (Option Int)} (he : PE X e (tE X.K L (tLst T) m)) (hl : PO X lo (tPt X.K L ml)) (hh : PO X hi (tPt X.K L mh)) :
    PE X (.Subscript e (.Slice lo hi none p2) pos) (tO X.K L (oLst T) fun ω ρ k => m ω ρ fun x ρ1 => ml ω ρ1 fun lo ρ2 => mh ω ρ2 fun hi ρ3 => k (cutI x lo hi) ρ3) := by
  refine pe_weak (pe_slice sl_list he hl hh) fun σ H Q ⟨F, B, ρ, ω, k, o, st, e1, q⟩ => ?_
  refine ⟨F, B, ρ, ω, _, o, st, e1, fun B1 v H1 x1 ρ1 s1 st1 r1 e2 => ⟨F, B1, ρ1, ω, _, o, st1, e2, fun B2 H2 x2 ρ2 s2 st2 e3 => ⟨F, B2, ρ2, ω, _, o, st2, e3, fun B3 H3 x3 ρ3 s3 st3 e4 => ?_⟩⟩⟩
  obtain ⟨a, vs, rfl, sq, r⟩ := (tLst T).mono (s2.trans s3) r1
  refine ⟨a, vs, rfl, .inl (.inl (st3.sb _ _ sq)), fun p hp => ?_⟩
  obtain ⟨own, S, h1, h2, h3, h4⟩ := st3.made (o := HO.lst (cutV vs x2 x3)) hp
  exact q B3 p _ _ own _ _ ((s1.trans s2).trans s3) S h1 ⟨_, rfl, P_cut r.1 _ _, Nat.le_trans (cutI_len _ _ _) r.2⟩ h2 h3 h4 e4
theorem cut_whole {α : Type} {xs : List α} {lo hi : Option Int} (h : HT.sIx xs.length 0 lo = 0 ∧ HT.sIx xs.length xs.length hi = xs.length) : cutI xs lo hi = xs := by
  unfold cutI
  rw [h.1, h.2, List.drop_zero, Nat.sub_zero, List.take_length]
theorem y_slT {m : Mo L (List α)} {ml mh : Mo L (Option Int)} (he : PE X e (tE X.K L (tAll T) m)) (hl : PO X lo (tPt X.K L ml)) (hh : PO X hi (tPt X.K L mh)) :
    PE X (.Subscript e (.Slice lo hi none p2) pos) (tE X.K L (tAll T) fun ω ρ k => m ω ρ fun x ρ1 => ml ω ρ1 fun lo ρ2 => mh ω ρ2 fun hi ρ3 => k (cutI x lo hi) ρ3) := by
  refine pe_weak (pe_slice sl_tupA he hl hh) fun σ H Q ⟨F, B, ρ, ω, k, o, st, e1, q⟩ => ?_
  refine ⟨F, B, ρ, ω, _, o, st, e1, fun B1 v H1 x1 ρ1 s1 st1 r1 e2 => ⟨F, B1, ρ1, ω, _, o, st1, e2, fun B2 H2 x2 ρ2 s2 st2 e3 => ⟨F, B2, ρ2, ω, _, o, st2, e3, fun B3 H3 x3 ρ3 s3 st3 e4 => ?_⟩⟩⟩
  obtain ⟨a, vs, rfl, sq, r⟩ := (tAll T).mono (s2.trans s3) r1
  refine ⟨a, vs, rfl, st3.sb.seqT sq, fun hw => ?_, fun _ p hp => ?_⟩
  · rw [Paired.length r.1] at hw
    have := cut_whole hw
    exact q B3 _ H3 _ _ ((s1.trans s2).trans s3) st3 ⟨a, vs, rfl, sq, by show (rAll T).rep X.K B3 vs (cutI x1 x2 x3); rw [this]; exact r⟩ e4
  · have g := Grow.new (o := HO.tup (cutV vs x2 x3)) st3.sb hp
    exact q _ _ _ _ _ (((s1.trans s2).trans s3).trans g.b) (st3.grow g) ⟨p, _, rfl, .inl (.inl upd_same), (rAll T).mono g.b ⟨P_cut r.1 _ _, Nat.le_trans (cutI_len _ _ _) r.2⟩⟩ e4
end

/-! ### an own list, read and changed -/
section
variable {X : Cx} {L L' Lh : List Loc} {S : RS} {e : Expr} {es : List Expr} {pos cpos apos px : Pos} {α : Type} {T : Ty α} {fo : Option Addr} {n : Nat} {x : Str}
/-- o.m(e, ..), a method that changes the list o: f says what it hands back and the list behind it -/
def OpMet (K : Fg) (r : V → List V → Hp → VK → Prop) {β γ δ : Type} (O : OTy δ) (R : Tys β) (U : Ty γ) (f : δ → β → Option (γ × δ)) : Prop :=
  ∀ {B H l o xs vs y z Q}, Sub B H → H l = some o → O.rep K B o xs → R.rep K B vs y → f xs y = some z → (∀ o' u, O.rep K B o' z.2 → U.rep K B u z.1 → Q u (upd H l o')) → r (.ref l) vs H Q
theorem ownTy {B H : Hp} {K : Fg} {l : Addr} {o : HO} {xs : List α} (h : H l = some o) (r : (oLst T).rep K B o xs) : tyV K "list" (.ref l) H := by
  obtain ⟨vs, rfl, _⟩ := r
  exact .inl ⟨rfl, vs, .inl (.inl h)⟩
theorem y_met {Tn idm : String} {name : Str} {r : V → List V → Hp → VK → Prop} {β γ δ : Type} {O : OTy δ} {R : Tys β} {U : Ty γ} {f : δ → β → Option (γ × δ)} {m : Mo L β} (i : Ix (lOwn O fo) n L) (hN : X.N[n]? = some x) (hv : Vis X.env.scope x)
    (pa : PlainAttrs Tn) (slot : Slot Tn name idm) (hty : typeOf (.builtin idm) = pure (.type "method_descriptor")) (hm : MtR X idm r) (hO : ∀ {B H l o xs}, H l = some o → O.rep X.K B o xs → tyV X.K Tn (.ref l) H) (h : OpMet X.K r O R U f)
    (ha : PA X (e :: es) (tAr X.K L R m)) (hd2 : (x == ("__debug__" : Str)) = false := by decide) (hcd : (x == ("__classdict__" : Str)) = false := by decide)
    (hbase : attributeBase (.Name x px) name X.env (eval (.Name x px) X.env) = eval (.Name x px) X.env := by rfl) (hfew : ((backTo cpos (starEach (e :: es) X.env)).all (fun x => !x.1) && (backToKw cpos (keywordEach [] X.env)).all (fun x => x.1.isSome) && decide ((e :: es).length + ([] : List Keyword).length + (if ([] : List Keyword).isEmpty then 0 else 1) < 30)) = true := by rfl)
    (hline : (apos.endLine == cpos.line) = true := by rfl) (hs : starEach (e :: es) X.env = (false, eval e X.env) :: starEach es X.env := by rfl) (hplain : (backTo cpos (starEach es X.env)).any (·.1) = false := by rfl) :
    PE X (.Call (.Attribute (.Name x px) name apos) (e :: es) [] cpos) (tE X.K L U fun ω ρ k => m ω ρ fun y ρ' => (f (i.get ρ') y).bind fun z => k z.1 (i.set z.2 ρ')) := by
  refine pe_weak (pe_bm pa slot hty hm (pe_var hN hv hd2 hcd) ha hbase hfew hline hs hplain) fun σ H Q ⟨F, B, ρ, ω, k, oo, st, e1, q⟩ => ?_
  obtain ⟨own0, S0⟩ := id st
  obtain ⟨d, o0, w1, _, w3, w4, _⟩ := S0.rel.own i
  refine ⟨.ref d, w1, hO w3 w4, F, B, ρ, ω, _, oo, st, e1, fun B' vs H' y ρ1 s st' r1 e2 => ?_⟩
  obtain ⟨z, e4, e5⟩ := bind_some e2
  obtain ⟨own, S⟩ := st'
  obtain ⟨d', o, v1, v2, v3, v4, _⟩ := S.rel.own i
  have ed : d' = d := by
    rw [w1] at v1
    simp at v1
    exact v1.symm
  subst ed
  exact h S.sub v3 v4 r1 e4 fun o' u ro ru => q B' u _ _ _ s ⟨own, S.setc i v1 v2 ro⟩ ru e5
theorem y_met0 {Tn idm : String} {name : Str} {r : V → List V → Hp → VK → Prop} {γ δ : Type} {O : OTy δ} {U : Ty γ} {f : δ → Unit → Option (γ × δ)} (i : Ix (lOwn O fo) n L) (hN : X.N[n]? = some x) (hv : Vis X.env.scope x)
    (pa : PlainAttrs Tn) (slot : Slot Tn name idm) (hty : typeOf (.builtin idm) = pure (.type "method_descriptor")) (hm : MtR X idm r) (hO : ∀ {B H l o xs}, H l = some o → O.rep X.K B o xs → tyV X.K Tn (.ref l) H) (h : OpMet X.K r O rNil U f)
    (hd2 : (x == ("__debug__" : Str)) = false := by decide) (hcd : (x == ("__classdict__" : Str)) = false := by decide)
    (hbase : attributeBase (.Name x px) name X.env (eval (.Name x px) X.env) = eval (.Name x px) X.env := by rfl) (hline : (apos.endLine == cpos.line) = true := by rfl) :
    PE X (.Call (.Attribute (.Name x px) name apos) [] [] cpos) (tE X.K L U fun _ ρ k => (f (i.get ρ) ()).bind fun z => k z.1 (i.set z.2 ρ)) := by
  refine pe_weak (pe_bm0 pa slot hty hm (pe_var hN hv hd2 hcd) hbase hline) fun σ H Q ⟨F, B, ρ, ω, k, oo, st, e1, q⟩ => ?_
  obtain ⟨z, e4, e5⟩ := bind_some e1
  obtain ⟨own, S⟩ := id st
  obtain ⟨d, o, v1, v2, v3, v4, _⟩ := S.rel.own i
  exact ⟨.ref d, v1, hO v3 v4, h (y := ()) S.sub v3 v4 rfl e4 fun o' u ro ru => q B u _ _ _ (Sub.refl B) ⟨own, S.setc i v1 v2 ro⟩ ru e5⟩
variable {K : Fg}
def appC {α : Type} (xs : List α) (y : α) : Option (Unit × List α) := if xs.length < 16777216 then some ((), xs ++ [y]) else none
theorem m_append : OpMet K rAppend (oLst T) (rOne T) tNon appC := fun {B H l o xs vs y z Q} s h ro r e q => by
  obtain ⟨us, rfl, rp⟩ := ro
  obtain ⟨v, rfl, rv⟩ := r
  unfold appC at e
  split at e
  · rename_i hz
    cases e
    refine ⟨l, us, v, rfl, rfl, h, by rw [Paired.length rp.1, sizeLine_eq]; exact hz, q _ _ ⟨_, rfl, P_app rp.1 (.cons rv .nil), ?_⟩ rfl⟩
    rw [sizeLine_eq, List.length_append, List.length_singleton]
    omega
  · cases e
def popC {α : Type} (xs : List α) (_ : Unit) : Option (α × List α) := xs.getLast?.map fun y => (y, xs.dropLast)
theorem P_dropLast {F : V → α → Prop} {vs : List V} {xs : List α} (h : Paired F vs xs) : Paired F vs.dropLast xs.dropLast := by
  rw [List.dropLast_eq_take, List.dropLast_eq_take, Paired.length h]
  exact P_take _ h
theorem m_pop : OpMet K rPop (oLst T) rNil T popC := fun {B H l o xs vs y z Q} s h ro r e q => by
  obtain ⟨us, rfl, rp⟩ := ro
  obtain rfl : vs = [] := r
  obtain ⟨w, e1, e2⟩ := map_some e
  subst e2
  rw [List.getLast?_eq_getElem?] at e1
  obtain ⟨v, e3, rv⟩ := P_get rp.1 e1
  refine ⟨l, us, v, rfl, rfl, h, by rw [Paired.length rp.1]; exact e3, q _ _ ⟨_, rfl, P_dropLast rp.1, ?_⟩ rv⟩
  rw [List.length_dropLast]
  exact Nat.le_trans (Nat.sub_le _ _) rp.2
def popAtC {α : Type} (xs : List α) (i : Int) : Option (α × List α) := if 0 ≤ i ∧ i < 2 ^ 63 then xs[i.toNat]?.map fun y => (y, xs.eraseIdx i.toNat) else none
theorem m_popAt : OpMet K rPopAt (oLst T) (rOne tInt) T popAtC := fun {B H l o xs vs y z Q} s h ro r e q => by
  obtain ⟨us, rfl, rp⟩ := ro
  obtain ⟨v, rfl, rfl⟩ := r
  unfold popAtC at e
  split at e
  · rename_i hz
    obtain ⟨w, e1, e2⟩ := map_some e
    subst e2
    obtain ⟨v, e3, rv⟩ := P_get rp.1 e1
    have hlt := (List.getElem?_eq_some_iff.mp e3).1
    refine ⟨l, us, _, y.toNat, v, rfl, rfl, h, by omega, hz.2, PySem.StrLaws.seqIndex_nonneg hz.1 (by omega), e3, q _ _ ⟨_, rfl, P_erase _ rp.1, ?_⟩ rv⟩
    have := rp.2
    have h2 := List.length_eraseIdx_le xs y.toNat
    show (xs.eraseIdx y.toNat).length ≤ sizeLine
    omega
  · cases e
theorem m_reverse : OpMet K rReverse (oLst T) rNil tNon fun xs _ => some ((), xs.reverse) := fun {B H l o xs vs y z Q} s h ro r e q => by
  obtain ⟨us, rfl, rp⟩ := ro
  obtain rfl : vs = [] := r
  cases e
  exact ⟨l, us, rfl, rfl, h, q _ _ ⟨_, rfl, P_rev rp.1, by rw [List.length_reverse]; exact rp.2⟩ rfl⟩
/-- remove: the first that is equal -/
def remC (xs : List Int) (k : Int) : Option (Unit × List Int) := if k ∈ xs then some ((), xs.eraseIdx (xs.idxOf k)) else none
theorem idxOf_get {xs : List Int} {k : Int} (h : k ∈ xs) : xs[xs.idxOf k]? = some k ∧ ∀ m : Nat, m < xs.idxOf k → xs[m]? ≠ some k := by
  induction xs with
  | nil => cases h
  | cons a r ih =>
    rw [List.idxOf_cons]
    by_cases e : a = k
    · subst e
      simp
    · have e' : (a == k) = false := by simpa using e
      rw [e']
      have hm : k ∈ r := by
        rcases List.mem_cons.mp h with z | z
        · exact absurd z.symm e
        · exact z
      obtain ⟨h1, h2⟩ := ih hm
      refine ⟨by simpa using h1, fun m hlt => ?_⟩
      cases m with
      | zero => simpa using e
      | succ m => simpa using h2 m (by simpa using hlt)
theorem m_remove : OpMet K rRemI (oLst tInt) (rOne tInt) tNon remC := fun {B H l o xs vs y z Q} s h ro r e q => by
  obtain ⟨us, rfl, rp⟩ := ro
  obtain ⟨v, rfl, rfl⟩ := r
  unfold remC at e
  split at e
  · rename_i hz
    cases e
    obtain ⟨h1, h2⟩ := idxOf_get hz
    refine ⟨l, xs, _, xs.idxOf y, rfl, rfl, by rw [h, P_ints rp.1], h1, h2, q _ _ ⟨_, rfl, P_ofInts _, ?_⟩ rfl⟩
    have := rp.2
    have h3 := List.length_eraseIdx_le xs (xs.idxOf y)
    exact Nat.le_trans h3 this
  · cases e
/-- xs[i] = e -/
def setC {α : Type} (xs : List α) (i : Int) (y : α) : Option (List α) := (ixN xs.length i).map fun j => xs.set j y
theorem y_setL {mi : Mo L Int} {me : Mo L α} {ie : Expr} {tpos : Pos} (i : Ix (lOwn (oLst T) fo) n L) (hN : X.N[n]? = some x) (hv : Vis X.env.scope x) (he : PE X e (tE X.K L T me)) (hi : PE X ie (tE X.K L tInt mi))
    (hd2 : (x == ("__debug__" : Str)) = false := by decide) (hcd : (x == ("__classdict__" : Str)) = false := by decide)
    (ha : ∀ v, assign (.Subscript (.Name x px) ie tpos) X.env v = (do let ov ← holding [v] (eval (.Name x px) X.env); let iv ← holding [v, ov] (eval ie X.env); standAt tpos; holding [v, ov, iv] (setItem ov iv v); release [v, ov, iv] []) := by intro _; rfl)
    (hs : swapsWithSole [.Subscript (.Name x px) ie tpos] e pos.line X.env = pure false := by rfl) (hw : swappedStores [.Subscript (.Name x px) ie tpos] e X.env = pure none := by rfl)
    (h1 : (assignEach [.Subscript (.Name x px) ie tpos] X.env).map (·.2) = [assign (.Subscript (.Name x px) ie tpos) X.env] := by rfl) :
    PS X (.Assign [.Subscript (.Name x px) ie tpos] e pos) (tS X.K L L Lh S fun ω ρ k => me ω ρ fun v ρ1 => mi ω ρ1 fun j ρ2 => (setC (i.get ρ2) j v).bind fun z => k (.nx (i.set z ρ2))) := by
  refine ps_weak (ps_asg he (pg_sub (pe_var hN hv hd2 hcd) hi set_list ha) hs hw h1) fun D σ H ⟨F, B, ρ, ω, k, oo, st, e1, q'⟩ => ?_
  refine ⟨F, B, ρ, ω, _, oo, st, e1, fun B1 v H1 x1 ρ1 s1 st1 r1 e2 => ?_⟩
  obtain ⟨own1, S1⟩ := id st1
  obtain ⟨d, o1, w1, _⟩ := S1.rel.own i
  refine ⟨.ref d, w1, F, B1, ρ1, ω, _, oo, st1, e2, fun B2 w H2 x2 ρ2 s2 st2 r2 e3 => ?_⟩
  obtain ⟨z, e6, e7⟩ := bind_some e3
  have q := q' _ e7
  cases r2
  obtain ⟨own, S⟩ := id st2
  obtain ⟨d', o2, v1, v2, v3, v4, _⟩ := S.rel.own i
  have ed : d' = d := by
    rw [w1] at v1
    simp at v1
    exact v1.symm
  subst ed
  obtain ⟨us, rfl, rp⟩ := v4
  obtain ⟨j, e8, e9⟩ := map_some e6
  subst e9
  refine ⟨d', us, _, j, rfl, rfl, v3, by rw [Paired.length rp.1]; exact e8, ?_⟩
  exact q B2 σ _ (s1.trans s2) ⟨own, S.setc i v1 v2 ⟨_, rfl, P_set j rp.1 (T.mono s2 r1), Nat.le_trans (Nat.le_of_eq List.length_set) rp.2⟩⟩
end
end L3

/-! L3: what is walked, comprehensions. -/
namespace L3
open PySem PySem.Spec PyProof.Rows L2

/-! ### what a loop walks -/
section
variable {X : Cx} {K : Fg} {L L' La Lc : List Loc} {e a b c : Expr} {pos p : Pos} {tg : Expr} {α : Type} {T : Ty α}
theorem itl_ok {ad : Addr} {vs : List V} {xs : List α} {B : Hp} (hB : SqL K B ad vs) (r : Paired (T.rep K B) vs xs) : ItOk K (Itl K ad) B T xs := fun i B1 H s1 s2 => by
  have hH : SqL K H ad vs := (s1.trans s2).seqL hB
  refine ⟨fun h => ⟨vs, hH, by rw [Paired.length r]; exact h⟩, fun x hx => ?_⟩
  obtain ⟨v, e1, rv⟩ := P_get r hx
  refine ⟨⟨vs, v, hH, e1⟩, fun u H' hy => ?_⟩
  obtain ⟨rfl, hy⟩ := hy
  have := (hy vs hH).symm.trans e1
  cases this
  exact ⟨B1, Grow.refl s2, T.mono s1 rv⟩
theorem itt_ok {ad : Addr} {vs : List V} {xs : List α} {B : Hp} (hB : SqT K B ad vs) (r : Paired (T.rep K B) vs xs) : ItOk K (Itt K ad) B T xs := fun i B1 H s1 s2 => by
  have hH : SqT K H ad vs := (s1.trans s2).seqT hB
  refine ⟨fun h => ⟨vs, hH, by rw [Paired.length r]; exact h⟩, fun x hx => ?_⟩
  obtain ⟨v, e1, rv⟩ := P_get r hx
  refine ⟨⟨vs, v, hH, e1⟩, fun u H' hy => ?_⟩
  obtain ⟨rfl, hy⟩ := hy
  have := (hy vs hH).symm.trans e1
  cases this
  exact ⟨B1, Grow.refl s2, T.mono s1 rv⟩
/-- lo, lo + 1, .., below hi -/
def rangeL (lo hi : Int) : List Int := (List.range (hi - lo).toNat).map fun (i : Nat) => lo + (i : Int)
theorem itr_ok {lo : Int} {n : Nat} {B : Hp} : ItOk K (Itr lo n) B tInt ((List.range n).map fun (i : Nat) => lo + (i : Int)) := fun i B1 H s1 s2 => by
  refine ⟨fun h => by
    have h2 : n ≤ i := by simpa using h
    exact h2, fun x hx => ?_⟩
  rw [List.getElem?_map] at hx
  have hlt : i < n := by
    cases q : (List.range n)[i]? with
    | none => rw [q] at hx; cases hx
    | some k => simpa using (List.getElem?_eq_some_iff.mp q).1
  rw [List.getElem?_range hlt] at hx
  cases hx
  refine ⟨hlt, fun u H' hy => ?_⟩
  obtain ⟨rfl, rfl⟩ := hy
  exact ⟨B1, Grow.refl s2, rfl⟩
theorem i_list {m : Mo L (List α)} (h : PE X e (tE X.K L (tLst T) m)) : PI X tg e (tIt X.K L T m) := by
  refine pi_weak (pi_list h) fun σ H R ⟨F, B, ρ, ω, k, o, st, e1, q⟩ => ?_
  refine ⟨F, B, ρ, ω, k, o, st, e1, fun B' v H' xs ρ' s st' r e2 => ?_⟩
  obtain ⟨ad, vs, rfl, hl, r⟩ := r
  exact ⟨ad, rfl, ⟨vs, .inl (.inl (st'.sb _ _ hl))⟩, q B' _ H' xs ρ' s st' (itl_ok (.inl (.inl hl)) r.1) e2⟩
theorem i_scr {m : Mo L (List α)} (h : PE X e (tE X.K L (tScr T) m)) : PI X tg e (tIt X.K L T m) := by
  refine pi_weak (pi_list h) fun σ H R ⟨F, B, ρ, ω, k, o, st, e1, q⟩ => ?_
  refine ⟨F, B, ρ, ω, k, o, st, e1, fun B' v H' xs ρ' s st' r e2 => ?_⟩
  obtain ⟨ad, vs, rfl, hl, r⟩ := r
  exact ⟨ad, rfl, ⟨vs, st'.sb.seqL hl⟩, q B' _ H' xs ρ' s st' (itl_ok hl r.1) e2⟩
theorem i_tup {m : Mo L (List α)} (h : PE X e (tE X.K L (tAll T) m)) : PI X tg e (tIt X.K L T m) := by
  refine pi_weak (pi_tup h) fun σ H R ⟨F, B, ρ, ω, k, o, st, e1, q⟩ => ?_
  refine ⟨F, B, ρ, ω, k, o, st, e1, fun B' v H' xs ρ' s st' r e2 => ?_⟩
  obtain ⟨ad, vs, rfl, hl, r⟩ := r
  exact ⟨ad, rfl, ⟨vs, st'.sb.seqT hl⟩, q B' _ H' xs ρ' s st' (itt_ok hl r.1) e2⟩
noncomputable def rng1 (n : Int) : Option (List Int) := blk (if -(2 ^ 62) ≤ n ∧ n < 2 ^ 62 then some (rangeL 0 n) else none)
theorem rng1_eq (n : Int) : rng1 n = if -(2 ^ 62) ≤ n ∧ n < 2 ^ 62 then some (rangeL 0 n) else none := blk_eq _
noncomputable def rng2 (lo hi : Int) : Option (List Int) := blk (if -(2 ^ 62) ≤ lo ∧ lo < 2 ^ 62 ∧ -(2 ^ 62) ≤ hi ∧ hi < 2 ^ 62 then some (rangeL lo hi) else none)
theorem rng2_eq (lo hi : Int) : rng2 lo hi = if -(2 ^ 62) ≤ lo ∧ lo < 2 ^ 62 ∧ -(2 ^ 62) ≤ hi ∧ hi < 2 ^ 62 then some (rangeL lo hi) else none := blk_eq _
theorem i_range {m : Mo L Int} (hg : Gl X "range") (hm : X.mg "range" = none) (h : PE X a (tE K L tInt m)) (hs : starEach [a] X.env = [(false, eval a X.env)] := by rfl) :
    PI X tg (.Call (.Name "range" p) [a] [] pos) (tIt K L tInt fun ω ρ k => m ω ρ fun n ρ' => (rng1 n).bind fun z => k z ρ') := by
  refine pi_weak (pi_range1 hg hm (pa_cons h pa_nil hs) hs) fun σ H R ⟨F, B, ρ, ω, k, o, st, e1, q⟩ => ?_
  refine ⟨F, B, ρ, ω, _, o, st, e1, fun B' v H' x ρ' s st' r e2 => ?_⟩
  obtain ⟨z, e4, e5⟩ := bind_some e2
  rw [rng1_eq] at e4
  split at e4
  · rename_i hb
    cases e4
    refine ⟨x, by rw [r], hb.1, hb.2, ?_⟩
    refine q B' (Itr 0 x.toNat) H' _ ρ' s st' ?_ e5
    show ItOk K (Itr 0 x.toNat) B' tInt (rangeL 0 x)
    unfold rangeL
    rw [show (x - 0).toNat = x.toNat by omega]
    exact itr_ok
  · cases e4
theorem i_range2 {m m2 : Mo L Int} (hg : Gl X "range") (hm : X.mg "range" = none) (h : PE X a (tE K L tInt m)) (h2 : PE X b (tE K L tInt m2)) (hs : starEach [a, b] X.env = [(false, eval a X.env), (false, eval b X.env)] := by rfl) (hs2 : starEach [b] X.env = [(false, eval b X.env)] := by rfl) :
    PI X tg (.Call (.Name "range" p) [a, b] [] pos) (tIt K L tInt (bin2 m m2 rng2)) := by
  refine pi_weak (pi_range2 hg hm (pa_cons h (pa_cons h2 pa_nil hs2) (by rw [hs, hs2])) hs hs2) fun σ H R ⟨F, B, ρ, ω, k, o, st, e1, q⟩ => ?_
  refine ⟨F, B, ρ, ω, _, o, st, e1, fun B' v H' x ρ1 s st' r e2 => ⟨F, B', ρ1, ω, _, o, st', e2, fun B2 w H2 y ρ2 s2 st2 r2 e3 => ?_⟩⟩
  obtain ⟨z, e4, e5⟩ := bind_some e3
  rw [rng2_eq] at e4
  split at e4
  · rename_i hb
    cases e4
    refine ⟨x, y, by rw [r, r2], hb, ?_⟩
    exact q B2 (Itr x (y - x).toNat) H2 _ _ (s.trans s2) st2 itr_ok e5
  · cases e4
def lrng (n : Int) : Option (List Int) := if -(2 ^ 24) ≤ n ∧ n ≤ 2 ^ 24 then some (rangeL 0 n) else none
/-- list(range(n)) -/
theorem y_lrange {m : Mo L Int} {p2 pos2 : Pos} (hc : X.calm = true) (hg : Gl X "list") (hm : X.mg "list" = none) (hg2 : Gl X "range") (hm2 : X.mg "range" = none) (h : PE X a (tE K L tInt m)) (nb : starEach [a] X.env = (false, eval a X.env) :: starEach [] X.env := by rfl)
    (na : starEach [.Call (.Name "range" p2) [a] [] pos2] X.env = (false, eval (.Call (.Name "range" p2) [a] [] pos2) X.env) :: starEach [] X.env := by rfl) :
    PE X (.Call (.Name "list" p) [.Call (.Name "range" p2) [a] [] pos2] [] pos) (tO K L (oLst tInt) fun ω ρ k => m ω ρ fun n ρ' => (lrng n).bind fun z => k z ρ') := by
  refine pe_weak (pe_listRg hc hg hm (prg_1 hg2 hm2 h nb) na) fun σ H Q ⟨F, B, ρ, ω, k, oo, st, e1, q⟩ => ?_
  refine ⟨F, B, ρ, ω, _, oo, st, e1, fun B' v H' x ρ' s st' r e2 => ?_⟩
  obtain ⟨z, e3, e4⟩ := bind_some e2
  unfold lrng at e3
  split at e3
  · rename_i hb
    cases e3
    refine ⟨x, r, ⟨by decide, by decide, by omega, by omega, by omega⟩, fun l hl => ?_⟩
    obtain ⟨own, S, h1, h2, h3, h4⟩ := st'.made (o := HO.lst (rgV 0 x)) hl
    refine q B' l _ _ own _ _ s S h1 ⟨_, rfl, ?_, ?_⟩ h2 h3 h4 e4
    · show Paired _ (rgV 0 x) (rangeL 0 x)
      rw [show rgV 0 x = (rangeL 0 x).map V.int from ?_]
      · exact P_ofInts _
      · unfold rgV rangeL
        rw [List.map_map]
        rfl
    · show (rangeL 0 x).length ≤ sizeLine
      unfold rangeL
      rw [List.length_map, List.length_range, sizeLine_eq]
      omega
  · cases e3
end

/-! ### comprehensions -/
inductive Wp (vs : List Nat) : Nat → List Loc → List Loc → Type 1
  | nil {k} : Wp vs k [] []
  | keep {k l L L'} (h : k ∉ vs) (w : Wp vs (k + 1) L L') : Wp vs k (l :: L) (l :: L')
  | imm {k L L'} {α : Type} {T : Ty α} (w : Wp vs (k + 1) L L') : Wp vs k (lImm T :: L) (lNone :: L')
  | non {k L L'} (w : Wp vs (k + 1) L L') : Wp vs k (lNone :: L) (lNone :: L')
@[reducible] def Wp.env {vs : List Nat} : {k : Nat} → {L L' : List Loc} → Wp vs k L L' → Env L → Env L'
  | _, _, _, .nil, _ => ()
  | _, _, _, .keep _ w, ρ => (ρ.1, w.env ρ.2)
  | _, _, _, .imm w, ρ => ((), w.env ρ.2)
  | _, _, _, .non w, ρ => ((), w.env ρ.2)
/-- back: the wiped slots as they were -/
@[reducible] def Wp.back {vs : List Nat} : {k : Nat} → {L L' : List Loc} → Wp vs k L L' → Env L → Env L' → Env L
  | _, _, _, .nil, _, _ => ()
  | _, _, _, .keep _ w, ρ, τ => (τ.1, w.back ρ.2 τ.2)
  | _, _, _, .imm w, ρ, τ => (ρ.1, w.back ρ.2 τ.2)
  | _, _, _, .non w, ρ, τ => (ρ.1, w.back ρ.2 τ.2)
section
variable {K : Fg} {B B' H H' : Hp} {vs : List Nat}
theorem Rel.wipe : ∀ {k : Nat} {L L' : List Loc} (w : Wp vs k L L') {own : List Addr} {σ σ' : List (Option V)} {ρ : Env L}, Rel K B H L own σ ρ → σ'.length = σ.length → (∀ i, (i + k) ∉ vs → σ'[i]? = σ[i]?) → Rel K B H L' own σ' (w.env ρ)
  | _, _, _, .nil, own, σ, σ', ρ, ⟨e1, e2⟩, hl, hh => ⟨e1, by subst e2; exact List.eq_nil_of_length_eq_zero hl⟩
  | k, _, _, .keep h w, own, σ, σ', ρ, ⟨o1, o2, s, τ, e1, e2, hd, r⟩, hl, hh => by
    subst e2
    cases σ' with
    | nil => cases hl
    | cons s' τ' =>
      have := hh 0 (by rw [Nat.zero_add]; exact h)
      simp at this
      subst this
      exact ⟨o1, o2, _, τ', e1, rfl, hd, Rel.wipe w r (by simpa using hl) fun i hi => by simpa using hh (i + 1) (by rw [show i + 1 + k = i + (k + 1) by omega]; exact hi)⟩
  | k, _, _, .imm w, own, σ, σ', ρ, ⟨o1, o2, s, τ, e1, e2, hd, r⟩, hl, hh => by
    subst e2
    cases σ' with
    | nil => cases hl
    | cons s' τ' => exact ⟨o1, o2, s', τ', e1, rfl, hd.1, Rel.wipe w r (by simpa using hl) fun i hi => by simpa using hh (i + 1) (by rw [show i + 1 + k = i + (k + 1) by omega]; exact hi)⟩
  | k, _, _, .non w, own, σ, σ', ρ, ⟨o1, o2, s, τ, e1, e2, hd, r⟩, hl, hh => by
    subst e2
    cases σ' with
    | nil => cases hl
    | cons s' τ' => exact ⟨o1, o2, s', τ', e1, rfl, hd, Rel.wipe w r (by simpa using hl) fun i hi => by simpa using hh (i + 1) (by rw [show i + 1 + k = i + (k + 1) by omega]; exact hi)⟩
theorem Rel.unwipe (sb : Sub B B') : ∀ {k : Nat} {L L' : List Loc} (w : Wp vs k L L') {own own0 : List Addr} {σ σ' : List (Option V)} {ρ : Env L} {τ : Env L'}, Rel K B H L own0 σ ρ → Rel K B' H' L' own σ' τ → σ'.length = σ.length → (∀ i, (i + k) ∉ vs → σ'[i]? = σ[i]?) →
    Rel K B' H' L own σ (w.back ρ τ)
  | _, _, _, .nil, own, own0, σ, σ', ρ, τ, ⟨e1, e2⟩, ⟨e3, e4⟩, hl, hh => ⟨e3, e2⟩
  | k, _, _, .keep h w, own, own0, σ, σ', ρ, τ, ⟨o1, o2, s, t, e1, e2, hd, r⟩, ⟨o3, o4, s', t', e3, e4, hd', r'⟩, hl, hh => by
    subst e2 e4
    have := hh 0 (by rw [Nat.zero_add]; exact h)
    simp at this
    subst this
    exact ⟨o3, o4, _, t, e3, rfl, hd', Rel.unwipe sb w r r' (by simpa using hl) fun i hi => by simpa using hh (i + 1) (by rw [show i + 1 + k = i + (k + 1) by omega]; exact hi)⟩
  | k, _, _, .imm (T := T) w, own, own0, σ, σ', ρ, τ, ⟨o1, o2, s, t, e1, e2, hd, r⟩, ⟨o3, o4, s', t', e3, e4, hd', r'⟩, hl, hh => by
    subst e2 e4
    obtain ⟨h1, v, h2, h3⟩ := hd
    exact ⟨o3, o4, s, t, e3, rfl, ⟨hd', v, h2, T.mono sb h3⟩, Rel.unwipe sb w r r' (by simpa using hl) fun i hi => by simpa using hh (i + 1) (by rw [show i + 1 + k = i + (k + 1) by omega]; exact hi)⟩
  | k, _, _, .non w, own, own0, σ, σ', ρ, τ, ⟨o1, o2, s, t, e1, e2, hd, r⟩, ⟨o3, o4, s', t', e3, e4, hd', r'⟩, hl, hh => by
    subst e2 e4
    exact ⟨o3, o4, s, t, e3, rfl, hd', Rel.unwipe sb w r r' (by simpa using hl) fun i hi => by simpa using hh (i + 1) (by rw [show i + 1 + k = i + (k + 1) by omega]; exact hi)⟩
theorem wipe_get {σ : L2.St} {i : Nat} : ∀ {ws : List Nat}, i ∈ ws → (wipe σ ws)[i]? = if i < σ.length then some none else none
  | v :: ws, h => by
    unfold wipe
    by_cases e : v = i
    · subst e
      by_cases hv : v < σ.length
      · rw [if_pos hv, List.getElem?_set_self (by rw [wipe_length]; exact hv)]
      · rw [if_neg hv, List.getElem?_eq_none (by rw [List.length_set, wipe_length]; omega)]
    · rw [List.getElem?_set_ne e]
      rcases List.mem_cons.mp h with z | z
      · exact absurd z.symm e
      · exact wipe_get z
theorem wipe_same {σ σ2 : L2.St} (hl : σ2.length = σ.length) (h : ∀ i, i ∉ vs → σ2[i]? = (wipe σ vs)[i]?) : wipe σ2 vs = wipe σ vs := by
  refine List.ext_getElem? fun i => ?_
  by_cases hi : i ∈ vs
  · rw [wipe_get hi, wipe_get hi, hl]
  · rw [wipe_out hi, h i hi]
end
/-- one item after another: tests and element by f; none: the item is left out -/
def compM {β A γ : Type} (f : β → A → Option (Option γ × A)) : List β → A → Option (List γ × A)
  | [], s => some ([], s)
  | x :: xs, s => (f x s).bind fun p => (compM f xs p.2).map fun q => (match p.1 with | some y => y :: q.1 | none => q.1, q.2)
theorem compM_len {β A γ : Type} {f : β → A → Option (Option γ × A)} : ∀ {xs : List β} {s : A} {ys : List γ} {s' : A}, compM f xs s = some (ys, s') → ys.length ≤ xs.length
  | [], s, ys, s', h => by cases h; exact Nat.le_refl _
  | x :: xs, s, ys, s', h => by
    obtain ⟨p, e1, e2⟩ := bind_some h
    obtain ⟨q, e3, e4⟩ := map_some e2
    have := compM_len e3
    cases e4
    cases p.1 with
    | none => exact Nat.le_succ_of_le this
    | some y => exact Nat.succ_le_succ this
section
variable {X : Cx} {L Lw Lb : List Loc} {pos p : Pos}
/-- one turn: the tests, the element -/
abbrev turnM {γ : Type} (mc : Mo Lb Bool) (me : Mo Lb γ) (fw : Env Lb → Env Lw) (b : Env Lb) : Option (Option γ × Env Lw) := mc _ b fun t b1 => if t = true then me _ b1 fun y b2 => some (some y, fw b2) else some (none, fw b1)
abbrev compO {L Lw Lb : List Loc} {β γ : Type} (mi : Mo L (List β)) (bd : β → Env Lw → Env Lb) (mc : Mo Lb Bool) (me : Mo Lb γ) (we : Env L → Env Lw) (wb : Env Lb → Env Lw) (bk : Env L → Env Lw → Env L) : Mo L (List γ) :=
  fun ω ρ k => mi ω ρ fun xs ρ' => if xs.length ≤ 16777216 then (compM (fun x s => turnM mc me wb (bd x s)) xs (we ρ')).bind fun z => k z.1 (bk ρ' z.2) else none
theorem y_compR {X : Cx} {L Lw Lb : List Loc} {vs ws : List Nat} {own : List (Str × Nat)} {β γ : Type} {T : Ty β} {U : Ty γ} {mi : Mo L (List β)} {bd : β → Env Lw → Env Lb} {mc : Mo Lb Bool} {me : Mo Lb γ}
    (w : Wp vs 0 L Lw) (wb : Wp vs 0 Lb Lw) (hv : own.map (·.2) = vs) (hsub : ∀ i ∈ ws, i ∈ vs) {σ : L2.St} {H : Hp} {Q : VK} (h : tO X.K L (oLst U) (compO mi bd mc me w.env wb.env w.back) σ H Q) :
    tLc (tIt X.K L T mi) (tGt X.K Lw Lb ws T bd) (tC X.K Lb mc) (tE X.K Lb U me) (own.map (·.2)) σ H Q := by
  obtain ⟨F, B, ρ, ω, kk, oo, st, e1, q⟩ := h
  rw [hv]
  refine ⟨F, B, ρ, ω, _, oo, st, e1, fun B1 J H1 xs ρ1 s1 st1 it e3 => fun D hD => ?_⟩
  by_cases hxs : xs.length ≤ 16777216
  case neg =>
    rw [if_neg hxs] at e3
    cases e3
  rw [if_pos hxs] at e3
  obtain ⟨⟨ys, τ⟩, e4, e5⟩ := bind_some e3
  obtain ⟨own1, S1⟩ := id st1
  obtain ⟨hbD, hoD, hfD⟩ := S1.fresh hD
  have hlen := S1.rel.len
  -- what holds between two turns
  refine ⟨fun i m H => m = xs.length - i ∧ i ≤ xs.length ∧ ∃ Bi τi owni vsd done rest, Sub B1 Bi ∧ StO X.K F Lw owni Bi τi (wipe σ vs) H ∧ H D = some (.lst vsd) ∧ Bi D = none ∧ D ∉ owni ∧ Paired (U.rep X.K Bi) vsd done ∧
      compM (fun x s => turnM mc me wb.env (bd x s)) (xs.drop i) τi = some (rest, τ) ∧ done ++ rest = ys ∧ done.length ≤ i, ⟨xs.length, by simp, Nat.zero_le _, B1, w.env ρ1, own1, [], [], ys, Sub.refl _, ?_, upd_same, hbD, hoD, .nil, by rw [List.drop_zero]; exact e4, rfl, Nat.le_refl _⟩, ?_⟩
  · have S2 := S1.newH (o := HO.lst []) hD
    exact ⟨S2.base, S2.sub, S2.keep, S2.old, S2.rel.wipe w (wipe_length _ _) fun i hi => wipe_out (by simpa using hi), S2.nd, S2.own⟩
  rintro i m H2 ⟨rfl, hle, Bi, τi, owni, vsd, done, rest, si, Si, hDi, hbi, hoi, pr, ei, ed, dl⟩
  obtain ⟨hstop, hgo⟩ := it i Bi H2 si Si.sub
  have hyl := compM_len e4
  by_cases hlt : i < xs.length
  · have hx : xs[i]? = some xs[i] := List.getElem?_eq_getElem hlt
    obtain ⟨go, yl⟩ := hgo _ hx
    rw [List.drop_eq_getElem_cons hlt] at ei
    obtain ⟨⟨o1, τ1⟩, f1, f2⟩ := bind_some ei
    obtain ⟨⟨rest1, τ2⟩, f3, f4⟩ := map_some f2
    refine .inr ⟨go, fun H => ∃ Bi τi owni vsd done rest, Sub B1 Bi ∧ StO X.K F Lw owni Bi τi (wipe σ vs) H ∧ H D = some (.lst vsd) ∧ Bi D = none ∧ D ∉ owni ∧ Paired (U.rep X.K Bi) vsd done ∧
      compM (fun x s => turnM mc me wb.env (bd x s)) (xs.drop (i + 1)) τi = some (rest, τ) ∧ done ++ rest = ys ∧ done.length ≤ i + 1, fun H' p => ⟨xs.length - (i + 1), by omega, rfl, hlt, p⟩, fun v H' yy => ?_⟩
    obtain ⟨B3, g, r⟩ := yl v H' yy
    have Sg := Si.grow g
    have hDg : H' D = some (.lst vsd) := g.h D _ hDi
    have hbg : B3 D = none := by
      cases z : B3 D with
      | none => rfl
      | some u =>
        rcases g.old D (by rw [z]; exact fun y => nomatch y) with y | y
        · exact absurd hbi y
        · rw [hDi] at y; cases y
    refine ⟨frAt H' B3 owni, B3, τi, xs[i], ⟨owni, Sg.inner⟩, r, fun σ2 ho st2 => ⟨?_, ?_⟩⟩
    · refine wipe_same (ho.1.trans (wipe_length _ _)) fun j hj => ho.2 j fun z => hj (hsub j z)
    have hws : wipe σ2 vs = wipe σ vs := wipe_same (ho.1.trans (wipe_length _ _)) fun j hj => ho.2 j fun z => hj (hsub j z)
    -- back to the turn's end
    have fin : ∀ {B5 : Hp} {b5 : Env Lb} {H5 : Hp}, Sub B3 B5 → Stt X.K (frAt H' B3 owni) Lb B5 b5 σ2 H5 → ∃ own5, StO X.K F Lw own5 B5 (wb.env b5) (wipe σ vs) H5 ∧ H5 D = some (.lst vsd) ∧ B5 D = none ∧ D ∉ own5 := by
      intro B5 b5 H5 s5 ⟨own5, S5⟩
      have So := Sg.outer S5
      refine ⟨own5, ⟨So.base, So.sub, So.keep, So.old, ?_, So.nd, So.own⟩, S5.keep D _ hoi hDg, ?_, fun m5 => ?_⟩
      · have := So.rel.wipe wb (wipe_length σ2 vs) fun j hj => wipe_out (by simpa using hj)
        rwa [hws] at this
      · cases z : B5 D with
        | none => rfl
        | some u =>
          rcases S5.old D (by show H' D ≠ none; rw [hDg]; exact fun y => nomatch y) (by rw [z]; exact fun y => nomatch y) with y | y
          · exact absurd hbg y
          · exact absurd y hoi
      · rcases (S5.own D m5).2 with y | y
        · rw [show (frAt H' B3 owni).H0 D = H' D from rfl, hDg] at y; cases y
        · exact absurd y hoi
    refine ⟨frAt H' B3 owni, B3, _, _, _, _, st2, f1, fun B4 H4 k b1 s4 st4 f6 => ?_⟩
    cases k with
    | false =>
      cases f6
      obtain ⟨own5, S5, h1, h2, h3⟩ := fin s4 st4
      cases f4
      refine ⟨B4, _, own5, vsd, done, rest1, (si.trans g.b).trans s4, S5, h1, h2, h3, Pmap pr fun _ _ z => U.mono (g.b.trans s4) z, f3, ed, by omega⟩
    | true =>
      refine ⟨frAt H' B3 owni, B4, b1, _, _, _, st4, f6, fun B5 v5 H5 u b2 s5 st5 r5 f8 => ?_⟩
      cases f8
      cases f4
      obtain ⟨own5, S5, h1, h2, h3⟩ := fin (s4.trans s5) st5
      have lp := Paired.length pr
      refine ⟨vsd, h1, by rw [lp, sizeLine_eq]; omega, B5, _, own5, vsd ++ [v5], done ++ [u], rest1, ((si.trans g.b).trans s4).trans s5, ?_, upd_same, h2, h3, P_app (Pmap pr fun _ _ z => U.mono ((g.b.trans s4).trans s5) z) (.cons r5 .nil), f3, ?_, ?_⟩
      · refine ⟨S5.base, fun a o z => ?_, fun a o m z => ?_, S5.old, S5.rel.frame (Sub.refl _) fun a m => upd_ne fun z => h3 (by rw [← z]; exact m), S5.nd, S5.own⟩
        · rw [upd_ne (ne_of_none z h2)]; exact S5.sub a o z
        · refine (upd_ne fun y => ?_).trans (S5.keep a o m z)
          subst y
          rcases hfD with y | y
          · rw [z] at y; cases y
          · exact m y
      · rw [List.append_assoc]; exact ed
      · rw [List.length_append, List.length_singleton]; omega
  · refine .inl ⟨hstop (by omega), ?_⟩
    rw [List.drop_eq_nil_of_le (by omega)] at ei
    cases ei
    rw [List.append_nil] at ed
    subst ed
    refine q Bi D _ H2 owni _ _ (s1.trans si) ⟨Si.base, Si.sub, Si.keep, Si.old, ?_, Si.nd, Si.own⟩ hDi ⟨vsd, rfl, pr, by
      show done.length ≤ sizeLine
      rw [sizeLine_eq]; omega⟩ hbi hoi hfD e5
    exact Rel.unwipe si w S1.rel Si.rel (wipe_length _ _) fun j hj => wipe_out (by simpa using hj)
theorem y_comp {vs ws : List Nat} {elt tg iter : Expr} {ifs : List Expr} {scope : Scope} {own : List (Str × Nat)} {β γ : Type} {T : Ty β} {U : Ty γ} {mi : Mo L (List β)} {bd : β → Env Lw → Env Lb} {mc : Mo Lb Bool} {me : Mo Lb γ}
    (w : Wp vs 0 L Lw) (wb : Wp vs 0 Lb Lw) (hv : own.map (·.2) = vs) (hsub : ∀ i ∈ ws, i ∈ vs)
    (hc : X.calm = true) (hN : X.N.Nodup) (hi : PI X tg iter (tIt X.K L T mi)) (ok : BlkOk X.N X.env.scope scope own)
    (hg : ∀ (s : Shared) (H : Hp) (C : Addr) (cl : List (Str × Addr)) (fp : List Addr), PG (X.blk s H scope (compEnvC scope cl C X.env) fp) tg (tGt X.K Lw Lb ws T bd))
    (ht : ∀ (s : Shared) (H : Hp) (C : Addr) (cl : List (Str × Addr)) (fp : List Addr), PTs (X.blk s H scope (compEnvC scope cl C X.env) fp) ifs (tC X.K Lb mc))
    (he : ∀ (s : Shared) (H : Hp) (C : Addr) (cl : List (Str × Addr)) (fp : List Addr), PE (X.blk s H scope (compEnvC scope cl C X.env) fp) elt (tE X.K Lb U me)) (hs : ∀ x, foldedSetIterable iter X.env x = pure x := by intro _; rfl) :
    PE X (.ListComp elt [⟨tg, iter, ifs, 0⟩] scope pos) (tO X.K L (oLst U) (compO mi bd mc me w.env wb.env w.back)) := pe_weak (pe_lc (own := own) hc hN hi ok hg ht he hs) fun σ H Q h => y_compR w wb hv hsub h
theorem t_nil : PTs X [] (tC X.K L fun _ ρ k => k true ρ) := by
  refine ⟨fun pins s σ H Q I h => pts_nil.run pins s σ H Q I ?_⟩
  obtain ⟨F, B, ρ, ω, k, o, st, e1, q⟩ := h
  exact q B H _ _ (Sub.refl B) st e1
theorem t_one {c : Expr} {mc : Mo L Bool} (h : PT X c (tC X.K L mc)) : PTs X [c] (tC X.K L mc) := pts_one h
end
end L3

/-! L3: more statements; words with their usual answers filled in. -/
namespace L3
open PySem PySem.Spec PyProof.Rows L2
section
variable {X : Cx} {L L' La Lc Lh : List Loc} {S : RS} {e a b : Expr} {pos : Pos}
/-- a, b = e -/
theorem y_asgG {vs : List Nat} {tg : Expr} {β : Type} {T : Ty β} {m : Mo L β} {bd : β → Env L → Env L'} (hg : PG X tg (tGt X.K L L' vs T bd)) (he : PE X e (tE X.K L T m))
    (hs : swapsWithSole [tg] e pos.line X.env = pure false := by rfl) (hw : swappedStores [tg] e X.env = pure none := by rfl) (h1 : (assignEach [tg] X.env).map (·.2) = [assign tg X.env] := by rfl) :
    PS X (.Assign [tg] e pos) (tS X.K L L' Lh S fun ω ρ k => m ω ρ fun x ρ' => k (.nx (bd x ρ'))) := by
  refine ps_weak (ps_asg he hg hs hw h1) fun D σ H ⟨F, B, ρ, ω, k, o, h, e, q⟩ => ?_
  exact ⟨F, B, ρ, ω, _, o, h, e, fun B' v H' a ρ' s st' r e2 => ⟨F, B', ρ', a, st', r, fun σ' _ st2 => q _ e2 B' σ' H' s st2⟩⟩
/-- a, b = c, d -/
theorem y_par {α β : Type} {T : Ty α} {U : Ty β} {m : Mo L (α × β)} {i j : Nat} {x y : Str} {px py pt : Pos} {kt k2 pt2} (p : Put (lImm T) i L La) (p2 : Put (lImm U) j La L') (hc : X.calm = true) (hN : X.N.Nodup) (hi : X.N[i]? = some x) (hj : X.N[j]? = some y) (hij : i ≠ j)
    (hx : X.env.scope.names.lookup x = some .local) (hy : X.env.scope.names.lookup y = some .local) (ha : PA X [a, b] (tAr X.K L (rCons T (rOne U)) m))
    (hw : swappedStores [.Tuple [.Name x px, .Name y py] kt pt] (.Tuple [a, b] k2 pt2) X.env = pure (some [x, y]))
    (hs : swapsWithSole [.Tuple [.Name x px, .Name y py] kt pt] (.Tuple [a, b] k2 pt2) pos.line X.env = pure false := by rfl) :
    PS X (.Assign [.Tuple [.Name x px, .Name y py] kt pt] (.Tuple [a, b] k2 pt2) pos) (tS X.K L L' Lh S fun ω ρ k => m ω ρ fun v ρ' => k (.nx (p2.put v.2 (p.put v.1 ρ')))) := by
  refine ps_weak (ps_par (i := i) (j := j) hc hN hi hj hij hx hy ha hw hs) fun D σ H ⟨F, B, ρ, ω, k, o, h, e, q⟩ => ?_
  refine ⟨F, B, ρ, ω, _, o, h, e, fun B' vs H' v ρ' s st' r e2 => ?_⟩
  obtain ⟨v1, _, rfl, r1, v2, rfl, r2⟩ := r
  exact ⟨v1, v2, rfl, q _ e2 B' _ H' s ((st'.putI p r1).putI p2 r2)⟩
/-- x op= e -/
theorem y_aug {op : Operator} {r : R2} {α β γ : Type} {T : Ty α} {U : Ty β} {W : Ty γ} {g : α → β → Option γ} {m : Mo L β} {n : Nat} {x : Str} {pos' : Pos} (i : Ix (lImm T) n L) (p : Put (lImm W) n L L') (ho : OpR X (inplaceOp op) r) (h : Op2 X.K r T U W g)
    (hN : X.N.Nodup) (hi : X.N[n]? = some x) (hx : L2.Loc X.env.scope x) (he : PE X e (tE X.K L U m)) (hf : X.fn x = true ∨ X.env.scope.names.lookup x = some .local := by first | exact .inl rfl | exact .inr rfl | assumption) :
    PS X (.AugAssign (.Name x pos') op e pos) (tS X.K L L' Lh S fun ω ρ k => m ω ρ fun y ρ' => (g (i.get ρ) y).bind fun z => k (.nx (p.put z ρ'))) := by
  refine ps_weak (ps_aug (i := n) hN hi hx he ho hf) fun D σ H ⟨F, B, ρ, ω, k, o, st, e, q⟩ => ?_
  obtain ⟨own, S0⟩ := id st
  obtain ⟨v, e1, r1⟩ := S0.rel.imm i
  refine ⟨v, e1, F, B, ρ, ω, _, o, st, e, fun B' w H' y ρ' s st' r2 e2 => ?_⟩
  obtain ⟨z, e3, e4⟩ := bind_some e2
  exact h st'.sb (T.mono s r1) r2 e3 fun B2 H2 u gr ru => q _ e4 B2 _ H2 (s.trans gr.b) ((st'.grow gr).putI p ru)
theorem y_augT {op : Operator} {r : R2} {α β γ : Type} {T : Ty α} {U : Ty β} {W : Ty γ} {g : α → β → γ} {m : Mo L β} {n : Nat} {x : Str} {pos' : Pos} (i : Ix (lImm T) n L) (p : Put (lImm W) n L L') (ho : OpR X (inplaceOp op) r) (h : Op2 X.K r T U W fun x y => some (g x y))
    (hN : X.N.Nodup) (hi : X.N[n]? = some x) (hx : L2.Loc X.env.scope x) (he : PE X e (tE X.K L U m)) (hf : X.fn x = true ∨ X.env.scope.names.lookup x = some .local := by first | exact .inl rfl | exact .inr rfl | assumption) :
    PS X (.AugAssign (.Name x pos') op e pos) (tS X.K L L' Lh S fun ω ρ k => m ω ρ fun y ρ' => k (.nx (p.put (g (i.get ρ) y) ρ'))) := y_aug i p ho h hN hi hx he hf
end

/-! ### an own list, read -/
section
variable {X : Cx} {L : List Loc} {e : Expr} {pos p px : Pos} {α : Type} {T : Ty α} {fo : Option Addr} {n : Nat} {x f : Str}
theorem y_lenO (i : Ix (lOwn (oLst T) fo) n L) (hN : X.N[n]? = some x) (hv : Vis X.env.scope x) (hg : Gl X "len") (hm : X.mg "len" = none) (hd2 : (x == ("__debug__" : Str)) = false := by decide) (hcd : (x == ("__classdict__" : Str)) = false := by decide)
    (he : starEach [.Name x px] X.env = (false, eval (.Name x px) X.env) :: starEach [] X.env := by rfl) : PE X (.Call (.Name "len" p) [.Name x px] [] pos) (tE X.K L tInt fun _ ρ k => k ((i.get ρ).length : Int) ρ) := by
  refine pe_weak (pe_callB call_len_seq hg hm PySem.boot_len (pa_cons (pe_var hN hv hd2 hcd) pa_nil he) (he := he)) fun σ H Q ⟨F, B, ρ, ω, k, o, st, e1, q⟩ => ?_
  obtain ⟨own, S⟩ := id st
  obtain ⟨d, u, v1, v2, v3, ⟨vs, rfl, rp⟩, _⟩ := S.rel.own i
  exact ⟨.ref d, v1, d, vs, rfl, .inl (.inl (.inl v3)), by rw [Paired.length rp.1]; exact q B _ H _ ρ (Sub.refl B) st rfl e1⟩
theorem y_ixO {m : Mo L Int} (i : Ix (lOwn (oLst T) fo) n L) (hN : X.N[n]? = some x) (hv : Vis X.env.scope x) (he : PE X e (tE X.K L tInt m)) (hd2 : (x == ("__debug__" : Str)) = false := by decide) (hcd : (x == ("__classdict__" : Str)) = false := by decide) (hs : PlainIx e := by intro _ _; rfl) :
    PE X (.Subscript (.Name x px) e pos) (tE X.K L T fun ω ρ k => m ω ρ fun j ρ' => (getI (i.get ρ') j).bind fun y => k y ρ') := by
  refine pe_weak (pe_ix ix_list (pe_var hN hv hd2 hcd) he hs) fun σ H Q ⟨F, B, ρ, ω, k, o, st, e1, q⟩ => ?_
  obtain ⟨own0, S0⟩ := id st
  obtain ⟨d0, _, w1, _⟩ := S0.rel.own i
  refine ⟨.ref d0, w1, F, B, ρ, ω, _, o, st, e1, fun B' v H' j ρ' s st' r e2 => ?_⟩
  obtain ⟨y, e3, e4⟩ := bind_some e2
  obtain ⟨own, S⟩ := id st'
  obtain ⟨d, u, v1, v2, v3, ⟨vs, rfl, rp⟩, _⟩ := S.rel.own i
  have ed : d = d0 := by
    rw [w1] at v1
    simp at v1
    exact v1.symm
  subst ed
  obtain ⟨z, e5, rz⟩ := P_getI rp.1 e3
  cases r
  exact ⟨d, vs, _, z, rfl, rfl, .inl (.inl v3), e5, q B' z H' y ρ' s st' rz e4⟩
end
/-! ### is None -/
section
variable {X : Cx} {L L' Lh : List Loc} {S : RS} {a e : Expr} {pos p : Pos} {α : Type} {T : Ty α} {j : Nat} {ma : Mo L (Option α)}
theorem y_isN (ha : PE X a (tE X.K L (tOpt T) ma)) : PE X (.Compare a [.Is] [.Constant .none j p] pos) (tE X.K L tBool fun ω ρ k => ma ω ρ fun x ρ' => k x.isNone ρ') := by
  refine pe_weak (pe_cmpR op_isN ha (y_none (K := X.K) (L := L) (T := T)) (nomark _)) fun σ H Q ⟨F, B, ρ, ω, k, o, st, e1, q⟩ => ?_
  refine bin_fin (g := fun x y => if y.isNone = true then some x.isNone else none) o_isN ⟨F, B, ρ, ω, k, o, st, ?_, q⟩
  exact e1
theorem y_notN (ha : PE X a (tE X.K L (tOpt T) ma)) : PE X (.Compare a [.IsNot] [.Constant .none j p] pos) (tE X.K L tBool fun ω ρ k => ma ω ρ fun x ρ' => k x.isSome ρ') := by
  refine pe_weak (pe_cmpR op_notN ha (y_none (K := X.K) (L := L) (T := T)) (nomark _)) fun σ H Q ⟨F, B, ρ, ω, k, o, st, e1, q⟩ => ?_
  refine bin_fin (g := fun x y => if y.isNone = true then some x.isSome else none) o_notN ⟨F, B, ρ, ω, k, o, st, ?_, q⟩
  exact e1
theorem y_isNT (ha : PE X a (tE X.K L (tOpt T) ma)) : PT X (.Compare a [.Is] [.Constant .none j p] pos) (tC X.K L fun ω ρ k => ma ω ρ fun x ρ' => k x.isNone ρ') := by
  refine pt_weak (pt_cmpR op_isN ha (y_none (K := X.K) (L := L) (T := T)) (nomark _)) fun σ H Q ⟨F, B, ρ, ω, k, o, st, e1, q⟩ => ?_
  refine bin_fin (g := fun x y => if y.isNone = true then some x.isNone else none) (Tc := tBool) o_isN ⟨F, B, ρ, ω, k, o, st, ?_, fun B' v H' x ρ' s st' r e2 => ⟨x, r, q B' H' x ρ' s st' e2⟩⟩
  exact e1
theorem y_notNT (ha : PE X a (tE X.K L (tOpt T) ma)) : PT X (.Compare a [.IsNot] [.Constant .none j p] pos) (tC X.K L fun ω ρ k => ma ω ρ fun x ρ' => k x.isSome ρ') := by
  refine pt_weak (pt_cmpR op_notN ha (y_none (K := X.K) (L := L) (T := T)) (nomark _)) fun σ H Q ⟨F, B, ρ, ω, k, o, st, e1, q⟩ => ?_
  refine bin_fin (g := fun x y => if y.isNone = true then some x.isSome else none) (Tc := tBool) o_notN ⟨F, B, ρ, ω, k, o, st, ?_, fun B' v H' x ρ' s st' r e2 => ⟨x, r, q B' H' x ρ' s st' e2⟩⟩
  exact e1
/-- y = [..] on one line -/
theorem y_compS {Lw Lb : List Loc} {vs ws : List Nat} {i : Nat} {y : Str} {py : Pos} {elt tg iter : Expr} {ifs : List Expr} {scope : Scope} {own : List (Str × Nat)} {spos : Pos} {β γ : Type} {T : Ty β} {U : Ty γ} {mi : Mo L (List β)} {bd : β → Env Lw → Env Lb} {mc : Mo Lb Bool} {me : Mo Lb γ}
    (pp : Put (lOwn (oLst U) none) i L L') (hy : X.N[i]? = some y) (hyl : X.env.scope.names.lookup y = some .local) (hsw : swapsWith (.ListComp elt [⟨tg, iter, ifs, 0⟩] scope pos) (some (.Name y py)) spos.line X.env = pure true)
    (w : Wp vs 0 L Lw) (wb : Wp vs 0 Lb Lw) (hv : own.map (·.2) = vs) (hsub : ∀ i ∈ ws, i ∈ vs)
    (hc : X.calm = true) (hN : X.N.Nodup) (hi : PI X tg iter (tIt X.K L T mi)) (ok : BlkOk X.N X.env.scope scope own)
    (hg : ∀ (s : Shared) (H : Hp) (C : Addr) (cl : List (Str × Addr)) (fp : List Addr), PG (X.blk s H scope (compEnvC scope cl C X.env) fp) tg (tGt X.K Lw Lb ws T bd))
    (ht : ∀ (s : Shared) (H : Hp) (C : Addr) (cl : List (Str × Addr)) (fp : List Addr), PTs (X.blk s H scope (compEnvC scope cl C X.env) fp) ifs (tC X.K Lb mc))
    (he : ∀ (s : Shared) (H : Hp) (C : Addr) (cl : List (Str × Addr)) (fp : List Addr), PE (X.blk s H scope (compEnvC scope cl C X.env) fp) elt (tE X.K Lb U me)) (hs : ∀ x, foldedSetIterable iter X.env x = pure x := by intro _; rfl) :
    PS X (.Assign [.Name y py] (.ListComp elt [⟨tg, iter, ifs, 0⟩] scope pos) spos) (tS X.K L L' Lh S fun ω ρ k => compO mi bd mc me w.env wb.env w.back ω ρ fun x ρ' => k (.nx (pp.put x ρ'))) := by
  refine ps_weak (ps_setLc (own := own) (i := i) hc hN hy hyl hsw hi ok hg ht he hs) fun D σ H ⟨F, B, ρ, ω, k, o, st, e1, q⟩ => ?_
  refine y_compR w wb hv hsub ⟨F, B, ρ, ω, _, o, st, e1, fun B' p u H' own x ρ' s st' h1 h2 h3 h4 h5 e2 => ?_⟩
  exact q _ e2 B' _ H' s (st'.putO pp h1 h2 h3 h4 h5)
end

/-! ### the start of a def -/
section
variable {X : Cx} {L : List Loc} {pos : Pos}
theorem v_ {α : Type} {T : Ty α} {n : Nat} {x : Str} (i : Ix (lImm T) n L) (hN : X.N[n]? = some x := by rfl) (hv : Vis X.env.scope x := by first | exact .inl rfl | exact .inr (.inl rfl) | exact .inr (.inr rfl)) (hd : (x == ("__debug__" : Str)) = false := by decide)
    (hcd : (x == ("__classdict__" : Str)) = false := by decide) : PE X (.Name x pos) (tE X.K L T fun _ ρ k => k (i.get ρ) ρ) := y_var i hN hv hd hcd
@[reducible] def nones : (n : Nat) → Env (List.replicate n lNone)
  | 0 => ()
  | n + 1 => ((), nones n)
theorem rel_nones {K : Fg} {B H : Hp} : ∀ n : Nat, Rel K B H (List.replicate n lNone) [] (List.replicate n none) (nones n)
  | 0 => ⟨rfl, rfl⟩
  | n + 1 => ⟨[], [], none, _, rfl, rfl, rfl, rel_nones n⟩
theorem rel_imm {K : Fg} {B H : Hp} {α : Type} {T : Ty α} {v : V} {x : α} {own : List Addr} {σ : List (Option V)} {ρ : Env L} (r : T.rep K B v x) (h : Rel K B H L own σ ρ) : Rel K B H (lImm T :: L) own (some v :: σ) ((x, ρ) : Env (lImm T :: L)) :=
  ⟨[], own, some v, σ, rfl, rfl, ⟨rfl, v, rfl, r⟩, h⟩
theorem rel_bor {K : Fg} {B H : Hp} {α : Type} {O : OTy α} {d : Addr} {o : HO} {x : α} {σ : List (Option V)} {ρ : Env L} (hd : H d = some o) (r : O.rep K B o x) (h : Rel K B H L [] σ ρ) : Rel K B H (lOwn O (some d) :: L) [d] (some (.ref d) :: σ) ((x, ρ) : Env (lOwn O (some d) :: L)) :=
  ⟨[d], [], some (.ref d), σ, rfl, rfl, ⟨d, o, rfl, rfl, hd, r, fun e z => by cases z; rfl⟩, h⟩
end
section
variable {K : Fg} {N : List Str} {n : Nat}
theorem pars0  (hN : N.length = n + 0) : Params K rNil (List.replicate n lNone) (fun y => nones n) N := fun {B H vs y} h => by
  obtain rfl := h
  refine ⟨?_, by rw [hN]; exact Nat.le_add_left _ _⟩
  unfold L2.start
  rw [hN, show n + 0 - ([] : List V).length = n from Nat.add_sub_cancel n 0]
  exact (rel_nones n)
theorem parsM0 {δ : Type} {O : OTy δ} {d : Addr} (hN : N.length = n + 1) : ParamsM K d O rNil (lOwn O (some d) :: List.replicate n lNone) (fun y0 y => (y0, nones n)) N := fun {B H vs o x0 y} hd ro h => by
  obtain rfl := h
  unfold L2.start
  rw [hN, show n + 1 - ([V.ref d] : List V).length = n from Nat.add_sub_cancel n 1]
  exact rel_bor hd ro (rel_nones n)
theorem hs0  {B vs y} (h : rNil.rep K B vs y) : vs.length = 0 := by
  obtain rfl := h
  rfl
theorem hsM0  {B vs y} (h : rNil.rep K B vs y) : vs.length + 1 = 1 := by
  obtain rfl := h
  rfl
theorem pars1 {α0 : Type} {T0 : Ty α0} (hN : N.length = n + 1) : Params K (rOne T0) (lImm T0 :: List.replicate n lNone) (fun y => (y, nones n)) N := fun {B H vs y} h => by
  obtain ⟨v0, rfl, r0⟩ := h
  refine ⟨?_, by rw [hN]; exact Nat.le_add_left _ _⟩
  unfold L2.start
  rw [hN, show n + 1 - ([v0] : List V).length = n from Nat.add_sub_cancel n 1]
  exact (rel_imm r0 (rel_nones n))
theorem parsM1 {α0 : Type} {T0 : Ty α0} {δ : Type} {O : OTy δ} {d : Addr} (hN : N.length = n + 2) : ParamsM K d O (rOne T0) (lOwn O (some d) :: lImm T0 :: List.replicate n lNone) (fun y0 y => (y0, (y, nones n))) N := fun {B H vs o x0 y} hd ro h => by
  obtain ⟨v0, rfl, r0⟩ := h
  unfold L2.start
  rw [hN, show n + 2 - ([V.ref d, v0] : List V).length = n from Nat.add_sub_cancel n 2]
  exact rel_bor hd ro (rel_imm r0 (rel_nones n))
theorem hs1 {α0 : Type} {T0 : Ty α0} {B vs y} (h : (rOne T0).rep K B vs y) : vs.length = 1 := by
  obtain ⟨v0, rfl, r0⟩ := h
  rfl
theorem hsM1 {α0 : Type} {T0 : Ty α0} {B vs y} (h : (rOne T0).rep K B vs y) : vs.length + 1 = 2 := by
  obtain ⟨v0, rfl, r0⟩ := h
  rfl
theorem pars2 {α0 : Type} {T0 : Ty α0} {α1 : Type} {T1 : Ty α1} (hN : N.length = n + 2) : Params K (rCons T0 (rOne T1)) (lImm T0 :: lImm T1 :: List.replicate n lNone) (fun y => (y.1, y.2, nones n)) N := fun {B H vs y} h => by
  obtain ⟨v0, _, rfl, r0, v1, rfl, r1⟩ := h
  refine ⟨?_, by rw [hN]; exact Nat.le_add_left _ _⟩
  unfold L2.start
  rw [hN, show n + 2 - ([v0, v1] : List V).length = n from Nat.add_sub_cancel n 2]
  exact (rel_imm r0 (rel_imm r1 (rel_nones n)))
theorem parsM2 {α0 : Type} {T0 : Ty α0} {α1 : Type} {T1 : Ty α1} {δ : Type} {O : OTy δ} {d : Addr} (hN : N.length = n + 3) : ParamsM K d O (rCons T0 (rOne T1)) (lOwn O (some d) :: lImm T0 :: lImm T1 :: List.replicate n lNone) (fun y0 y => (y0, (y.1, y.2, nones n))) N := fun {B H vs o x0 y} hd ro h => by
  obtain ⟨v0, _, rfl, r0, v1, rfl, r1⟩ := h
  unfold L2.start
  rw [hN, show n + 3 - ([V.ref d, v0, v1] : List V).length = n from Nat.add_sub_cancel n 3]
  exact rel_bor hd ro (rel_imm r0 (rel_imm r1 (rel_nones n)))
theorem hs2 {α0 : Type} {T0 : Ty α0} {α1 : Type} {T1 : Ty α1} {B vs y} (h : (rCons T0 (rOne T1)).rep K B vs y) : vs.length = 2 := by
  obtain ⟨v0, _, rfl, r0, v1, rfl, r1⟩ := h
  rfl
theorem hsM2 {α0 : Type} {T0 : Ty α0} {α1 : Type} {T1 : Ty α1} {B vs y} (h : (rCons T0 (rOne T1)).rep K B vs y) : vs.length + 1 = 3 := by
  obtain ⟨v0, _, rfl, r0, v1, rfl, r1⟩ := h
  rfl
theorem pars3 {α0 : Type} {T0 : Ty α0} {α1 : Type} {T1 : Ty α1} {α2 : Type} {T2 : Ty α2} (hN : N.length = n + 3) : Params K (rCons T0 (rCons T1 (rOne T2))) (lImm T0 :: lImm T1 :: lImm T2 :: List.replicate n lNone) (fun y => (y.1, y.2.1, y.2.2, nones n)) N := fun {B H vs y} h => by
  obtain ⟨v0, _, rfl, r0, v1, _, rfl, r1, v2, rfl, r2⟩ := h
  refine ⟨?_, by rw [hN]; exact Nat.le_add_left _ _⟩
  unfold L2.start
  rw [hN, show n + 3 - ([v0, v1, v2] : List V).length = n from Nat.add_sub_cancel n 3]
  exact (rel_imm r0 (rel_imm r1 (rel_imm r2 (rel_nones n))))
theorem parsM3 {α0 : Type} {T0 : Ty α0} {α1 : Type} {T1 : Ty α1} {α2 : Type} {T2 : Ty α2} {δ : Type} {O : OTy δ} {d : Addr} (hN : N.length = n + 4) : ParamsM K d O (rCons T0 (rCons T1 (rOne T2))) (lOwn O (some d) :: lImm T0 :: lImm T1 :: lImm T2 :: List.replicate n lNone) (fun y0 y => (y0, (y.1, y.2.1, y.2.2, nones n))) N := fun {B H vs o x0 y} hd ro h => by
  obtain ⟨v0, _, rfl, r0, v1, _, rfl, r1, v2, rfl, r2⟩ := h
  unfold L2.start
  rw [hN, show n + 4 - ([V.ref d, v0, v1, v2] : List V).length = n from Nat.add_sub_cancel n 4]
  exact rel_bor hd ro (rel_imm r0 (rel_imm r1 (rel_imm r2 (rel_nones n))))
theorem hs3 {α0 : Type} {T0 : Ty α0} {α1 : Type} {T1 : Ty α1} {α2 : Type} {T2 : Ty α2} {B vs y} (h : (rCons T0 (rCons T1 (rOne T2))).rep K B vs y) : vs.length = 3 := by
  obtain ⟨v0, _, rfl, r0, v1, _, rfl, r1, v2, rfl, r2⟩ := h
  rfl
theorem hsM3 {α0 : Type} {T0 : Ty α0} {α1 : Type} {T1 : Ty α1} {α2 : Type} {T2 : Ty α2} {B vs y} (h : (rCons T0 (rCons T1 (rOne T2))).rep K B vs y) : vs.length + 1 = 4 := by
  obtain ⟨v0, _, rfl, r0, v1, _, rfl, r1, v2, rfl, r2⟩ := h
  rfl
theorem pars4 {α0 : Type} {T0 : Ty α0} {α1 : Type} {T1 : Ty α1} {α2 : Type} {T2 : Ty α2} {α3 : Type} {T3 : Ty α3} (hN : N.length = n + 4) : Params K (rCons T0 (rCons T1 (rCons T2 (rOne T3)))) (lImm T0 :: lImm T1 :: lImm T2 :: lImm T3 :: List.replicate n lNone) (fun y => (y.1, y.2.1, y.2.2.1, y.2.2.2, nones n)) N := fun {B H vs y} h => by
  obtain ⟨v0, _, rfl, r0, v1, _, rfl, r1, v2, _, rfl, r2, v3, rfl, r3⟩ := h
  refine ⟨?_, by rw [hN]; exact Nat.le_add_left _ _⟩
  unfold L2.start
  rw [hN, show n + 4 - ([v0, v1, v2, v3] : List V).length = n from Nat.add_sub_cancel n 4]
  exact (rel_imm r0 (rel_imm r1 (rel_imm r2 (rel_imm r3 (rel_nones n)))))
theorem parsM4 {α0 : Type} {T0 : Ty α0} {α1 : Type} {T1 : Ty α1} {α2 : Type} {T2 : Ty α2} {α3 : Type} {T3 : Ty α3} {δ : Type} {O : OTy δ} {d : Addr} (hN : N.length = n + 5) : ParamsM K d O (rCons T0 (rCons T1 (rCons T2 (rOne T3)))) (lOwn O (some d) :: lImm T0 :: lImm T1 :: lImm T2 :: lImm T3 :: List.replicate n lNone) (fun y0 y => (y0, (y.1, y.2.1, y.2.2.1, y.2.2.2, nones n))) N := fun {B H vs o x0 y} hd ro h => by
  obtain ⟨v0, _, rfl, r0, v1, _, rfl, r1, v2, _, rfl, r2, v3, rfl, r3⟩ := h
  unfold L2.start
  rw [hN, show n + 5 - ([V.ref d, v0, v1, v2, v3] : List V).length = n from Nat.add_sub_cancel n 5]
  exact rel_bor hd ro (rel_imm r0 (rel_imm r1 (rel_imm r2 (rel_imm r3 (rel_nones n)))))
theorem hs4 {α0 : Type} {T0 : Ty α0} {α1 : Type} {T1 : Ty α1} {α2 : Type} {T2 : Ty α2} {α3 : Type} {T3 : Ty α3} {B vs y} (h : (rCons T0 (rCons T1 (rCons T2 (rOne T3)))).rep K B vs y) : vs.length = 4 := by
  obtain ⟨v0, _, rfl, r0, v1, _, rfl, r1, v2, _, rfl, r2, v3, rfl, r3⟩ := h
  rfl
theorem hsM4 {α0 : Type} {T0 : Ty α0} {α1 : Type} {T1 : Ty α1} {α2 : Type} {T2 : Ty α2} {α3 : Type} {T3 : Ty α3} {B vs y} (h : (rCons T0 (rCons T1 (rCons T2 (rOne T3)))).rep K B vs y) : vs.length + 1 = 5 := by
  obtain ⟨v0, _, rfl, r0, v1, _, rfl, r1, v2, _, rfl, r2, v3, rfl, r3⟩ := h
  rfl
theorem pars5 {α0 : Type} {T0 : Ty α0} {α1 : Type} {T1 : Ty α1} {α2 : Type} {T2 : Ty α2} {α3 : Type} {T3 : Ty α3} {α4 : Type} {T4 : Ty α4} (hN : N.length = n + 5) : Params K (rCons T0 (rCons T1 (rCons T2 (rCons T3 (rOne T4))))) (lImm T0 :: lImm T1 :: lImm T2 :: lImm T3 :: lImm T4 :: List.replicate n lNone) (fun y => (y.1, y.2.1, y.2.2.1, y.2.2.2.1, y.2.2.2.2, nones n)) N := fun {B H vs y} h => by
  obtain ⟨v0, _, rfl, r0, v1, _, rfl, r1, v2, _, rfl, r2, v3, _, rfl, r3, v4, rfl, r4⟩ := h
  refine ⟨?_, by rw [hN]; exact Nat.le_add_left _ _⟩
  unfold L2.start
  rw [hN, show n + 5 - ([v0, v1, v2, v3, v4] : List V).length = n from Nat.add_sub_cancel n 5]
  exact (rel_imm r0 (rel_imm r1 (rel_imm r2 (rel_imm r3 (rel_imm r4 (rel_nones n))))))
theorem parsM5 {α0 : Type} {T0 : Ty α0} {α1 : Type} {T1 : Ty α1} {α2 : Type} {T2 : Ty α2} {α3 : Type} {T3 : Ty α3} {α4 : Type} {T4 : Ty α4} {δ : Type} {O : OTy δ} {d : Addr} (hN : N.length = n + 6) : ParamsM K d O (rCons T0 (rCons T1 (rCons T2 (rCons T3 (rOne T4))))) (lOwn O (some d) :: lImm T0 :: lImm T1 :: lImm T2 :: lImm T3 :: lImm T4 :: List.replicate n lNone) (fun y0 y => (y0, (y.1, y.2.1, y.2.2.1, y.2.2.2.1, y.2.2.2.2, nones n))) N := fun {B H vs o x0 y} hd ro h => by
  obtain ⟨v0, _, rfl, r0, v1, _, rfl, r1, v2, _, rfl, r2, v3, _, rfl, r3, v4, rfl, r4⟩ := h
  unfold L2.start
  rw [hN, show n + 6 - ([V.ref d, v0, v1, v2, v3, v4] : List V).length = n from Nat.add_sub_cancel n 6]
  exact rel_bor hd ro (rel_imm r0 (rel_imm r1 (rel_imm r2 (rel_imm r3 (rel_imm r4 (rel_nones n))))))
theorem hs5 {α0 : Type} {T0 : Ty α0} {α1 : Type} {T1 : Ty α1} {α2 : Type} {T2 : Ty α2} {α3 : Type} {T3 : Ty α3} {α4 : Type} {T4 : Ty α4} {B vs y} (h : (rCons T0 (rCons T1 (rCons T2 (rCons T3 (rOne T4))))).rep K B vs y) : vs.length = 5 := by
  obtain ⟨v0, _, rfl, r0, v1, _, rfl, r1, v2, _, rfl, r2, v3, _, rfl, r3, v4, rfl, r4⟩ := h
  rfl
theorem hsM5 {α0 : Type} {T0 : Ty α0} {α1 : Type} {T1 : Ty α1} {α2 : Type} {T2 : Ty α2} {α3 : Type} {T3 : Ty α3} {α4 : Type} {T4 : Ty α4} {B vs y} (h : (rCons T0 (rCons T1 (rCons T2 (rCons T3 (rOne T4))))).rep K B vs y) : vs.length + 1 = 6 := by
  obtain ⟨v0, _, rfl, r0, v1, _, rfl, r1, v2, _, rfl, r2, v3, _, rfl, r3, v4, rfl, r4⟩ := h
  rfl
theorem pars6 {α0 : Type} {T0 : Ty α0} {α1 : Type} {T1 : Ty α1} {α2 : Type} {T2 : Ty α2} {α3 : Type} {T3 : Ty α3} {α4 : Type} {T4 : Ty α4} {α5 : Type} {T5 : Ty α5} (hN : N.length = n + 6) : Params K (rCons T0 (rCons T1 (rCons T2 (rCons T3 (rCons T4 (rOne T5)))))) (lImm T0 :: lImm T1 :: lImm T2 :: lImm T3 :: lImm T4 :: lImm T5 :: List.replicate n lNone) (fun y => (y.1, y.2.1, y.2.2.1, y.2.2.2.1, y.2.2.2.2.1, y.2.2.2.2.2, nones n)) N := fun {B H vs y} h => by
  obtain ⟨v0, _, rfl, r0, v1, _, rfl, r1, v2, _, rfl, r2, v3, _, rfl, r3, v4, _, rfl, r4, v5, rfl, r5⟩ := h
  refine ⟨?_, by rw [hN]; exact Nat.le_add_left _ _⟩
  unfold L2.start
  rw [hN, show n + 6 - ([v0, v1, v2, v3, v4, v5] : List V).length = n from Nat.add_sub_cancel n 6]
  exact (rel_imm r0 (rel_imm r1 (rel_imm r2 (rel_imm r3 (rel_imm r4 (rel_imm r5 (rel_nones n)))))))
theorem parsM6 {α0 : Type} {T0 : Ty α0} {α1 : Type} {T1 : Ty α1} {α2 : Type} {T2 : Ty α2} {α3 : Type} {T3 : Ty α3} {α4 : Type} {T4 : Ty α4} {α5 : Type} {T5 : Ty α5} {δ : Type} {O : OTy δ} {d : Addr} (hN : N.length = n + 7) : ParamsM K d O (rCons T0 (rCons T1 (rCons T2 (rCons T3 (rCons T4 (rOne T5)))))) (lOwn O (some d) :: lImm T0 :: lImm T1 :: lImm T2 :: lImm T3 :: lImm T4 :: lImm T5 :: List.replicate n lNone) (fun y0 y => (y0, (y.1, y.2.1, y.2.2.1, y.2.2.2.1, y.2.2.2.2.1, y.2.2.2.2.2, nones n))) N := fun {B H vs o x0 y} hd ro h => by
  obtain ⟨v0, _, rfl, r0, v1, _, rfl, r1, v2, _, rfl, r2, v3, _, rfl, r3, v4, _, rfl, r4, v5, rfl, r5⟩ := h
  unfold L2.start
  rw [hN, show n + 7 - ([V.ref d, v0, v1, v2, v3, v4, v5] : List V).length = n from Nat.add_sub_cancel n 7]
  exact rel_bor hd ro (rel_imm r0 (rel_imm r1 (rel_imm r2 (rel_imm r3 (rel_imm r4 (rel_imm r5 (rel_nones n)))))))
theorem hs6 {α0 : Type} {T0 : Ty α0} {α1 : Type} {T1 : Ty α1} {α2 : Type} {T2 : Ty α2} {α3 : Type} {T3 : Ty α3} {α4 : Type} {T4 : Ty α4} {α5 : Type} {T5 : Ty α5} {B vs y} (h : (rCons T0 (rCons T1 (rCons T2 (rCons T3 (rCons T4 (rOne T5)))))).rep K B vs y) : vs.length = 6 := by
  obtain ⟨v0, _, rfl, r0, v1, _, rfl, r1, v2, _, rfl, r2, v3, _, rfl, r3, v4, _, rfl, r4, v5, rfl, r5⟩ := h
  rfl
theorem hsM6 {α0 : Type} {T0 : Ty α0} {α1 : Type} {T1 : Ty α1} {α2 : Type} {T2 : Ty α2} {α3 : Type} {T3 : Ty α3} {α4 : Type} {T4 : Ty α4} {α5 : Type} {T5 : Ty α5} {B vs y} (h : (rCons T0 (rCons T1 (rCons T2 (rCons T3 (rCons T4 (rOne T5)))))).rep K B vs y) : vs.length + 1 = 7 := by
  obtain ⟨v0, _, rfl, r0, v1, _, rfl, r1, v2, _, rfl, r2, v3, _, rfl, r3, v4, _, rfl, r4, v5, rfl, r5⟩ := h
  rfl
theorem pars7 {α0 : Type} {T0 : Ty α0} {α1 : Type} {T1 : Ty α1} {α2 : Type} {T2 : Ty α2} {α3 : Type} {T3 : Ty α3} {α4 : Type} {T4 : Ty α4} {α5 : Type} {T5 : Ty α5} {α6 : Type} {T6 : Ty α6} (hN : N.length = n + 7) : Params K (rCons T0 (rCons T1 (rCons T2 (rCons T3 (rCons T4 (rCons T5 (rOne T6))))))) (lImm T0 :: lImm T1 :: lImm T2 :: lImm T3 :: lImm T4 :: lImm T5 :: lImm T6 :: List.replicate n lNone) (fun y => (y.1, y.2.1, y.2.2.1, y.2.2.2.1, y.2.2.2.2.1, y.2.2.2.2.2.1, y.2.2.2.2.2.2, nones n)) N := fun {B H vs y} h => by
  obtain ⟨v0, _, rfl, r0, v1, _, rfl, r1, v2, _, rfl, r2, v3, _, rfl, r3, v4, _, rfl, r4, v5, _, rfl, r5, v6, rfl, r6⟩ := h
  refine ⟨?_, by rw [hN]; exact Nat.le_add_left _ _⟩
  unfold L2.start
  rw [hN, show n + 7 - ([v0, v1, v2, v3, v4, v5, v6] : List V).length = n from Nat.add_sub_cancel n 7]
  exact (rel_imm r0 (rel_imm r1 (rel_imm r2 (rel_imm r3 (rel_imm r4 (rel_imm r5 (rel_imm r6 (rel_nones n))))))))
theorem parsM7 {α0 : Type} {T0 : Ty α0} {α1 : Type} {T1 : Ty α1} {α2 : Type} {T2 : Ty α2} {α3 : Type} {T3 : Ty α3} {α4 : Type} {T4 : Ty α4} {α5 : Type} {T5 : Ty α5} {α6 : Type} {T6 : Ty α6} {δ : Type} {O : OTy δ} {d : Addr} (hN : N.length = n + 8) : ParamsM K d O (rCons T0 (rCons T1 (rCons T2 (rCons T3 (rCons T4 (rCons T5 (rOne T6))))))) (lOwn O (some d) :: lImm T0 :: lImm T1 :: lImm T2 :: lImm T3 :: lImm T4 :: lImm T5 :: lImm T6 :: List.replicate n lNone) (fun y0 y => (y0, (y.1, y.2.1, y.2.2.1, y.2.2.2.1, y.2.2.2.2.1, y.2.2.2.2.2.1, y.2.2.2.2.2.2, nones n))) N := fun {B H vs o x0 y} hd ro h => by
  obtain ⟨v0, _, rfl, r0, v1, _, rfl, r1, v2, _, rfl, r2, v3, _, rfl, r3, v4, _, rfl, r4, v5, _, rfl, r5, v6, rfl, r6⟩ := h
  unfold L2.start
  rw [hN, show n + 8 - ([V.ref d, v0, v1, v2, v3, v4, v5, v6] : List V).length = n from Nat.add_sub_cancel n 8]
  exact rel_bor hd ro (rel_imm r0 (rel_imm r1 (rel_imm r2 (rel_imm r3 (rel_imm r4 (rel_imm r5 (rel_imm r6 (rel_nones n))))))))
theorem hs7 {α0 : Type} {T0 : Ty α0} {α1 : Type} {T1 : Ty α1} {α2 : Type} {T2 : Ty α2} {α3 : Type} {T3 : Ty α3} {α4 : Type} {T4 : Ty α4} {α5 : Type} {T5 : Ty α5} {α6 : Type} {T6 : Ty α6} {B vs y} (h : (rCons T0 (rCons T1 (rCons T2 (rCons T3 (rCons T4 (rCons T5 (rOne T6))))))).rep K B vs y) : vs.length = 7 := by
  obtain ⟨v0, _, rfl, r0, v1, _, rfl, r1, v2, _, rfl, r2, v3, _, rfl, r3, v4, _, rfl, r4, v5, _, rfl, r5, v6, rfl, r6⟩ := h
  rfl
theorem hsM7 {α0 : Type} {T0 : Ty α0} {α1 : Type} {T1 : Ty α1} {α2 : Type} {T2 : Ty α2} {α3 : Type} {T3 : Ty α3} {α4 : Type} {T4 : Ty α4} {α5 : Type} {T5 : Ty α5} {α6 : Type} {T6 : Ty α6} {B vs y} (h : (rCons T0 (rCons T1 (rCons T2 (rCons T3 (rCons T4 (rCons T5 (rOne T6))))))).rep K B vs y) : vs.length + 1 = 8 := by
  obtain ⟨v0, _, rfl, r0, v1, _, rfl, r1, v2, _, rfl, r2, v3, _, rfl, r3, v4, _, rfl, r4, v5, _, rfl, r5, v6, rfl, r6⟩ := h
  rfl
theorem pars8 {α0 : Type} {T0 : Ty α0} {α1 : Type} {T1 : Ty α1} {α2 : Type} {T2 : Ty α2} {α3 : Type} {T3 : Ty α3} {α4 : Type} {T4 : Ty α4} {α5 : Type} {T5 : Ty α5} {α6 : Type} {T6 : Ty α6} {α7 : Type} {T7 : Ty α7} (hN : N.length = n + 8) : Params K (rCons T0 (rCons T1 (rCons T2 (rCons T3 (rCons T4 (rCons T5 (rCons T6 (rOne T7)))))))) (lImm T0 :: lImm T1 :: lImm T2 :: lImm T3 :: lImm T4 :: lImm T5 :: lImm T6 :: lImm T7 :: List.replicate n lNone) (fun y => (y.1, y.2.1, y.2.2.1, y.2.2.2.1, y.2.2.2.2.1, y.2.2.2.2.2.1, y.2.2.2.2.2.2.1, y.2.2.2.2.2.2.2, nones n)) N := fun {B H vs y} h => by
  obtain ⟨v0, _, rfl, r0, v1, _, rfl, r1, v2, _, rfl, r2, v3, _, rfl, r3, v4, _, rfl, r4, v5, _, rfl, r5, v6, _, rfl, r6, v7, rfl, r7⟩ := h
  refine ⟨?_, by rw [hN]; exact Nat.le_add_left _ _⟩
  unfold L2.start
  rw [hN, show n + 8 - ([v0, v1, v2, v3, v4, v5, v6, v7] : List V).length = n from Nat.add_sub_cancel n 8]
  exact (rel_imm r0 (rel_imm r1 (rel_imm r2 (rel_imm r3 (rel_imm r4 (rel_imm r5 (rel_imm r6 (rel_imm r7 (rel_nones n)))))))))
theorem parsM8 {α0 : Type} {T0 : Ty α0} {α1 : Type} {T1 : Ty α1} {α2 : Type} {T2 : Ty α2} {α3 : Type} {T3 : Ty α3} {α4 : Type} {T4 : Ty α4} {α5 : Type} {T5 : Ty α5} {α6 : Type} {T6 : Ty α6} {α7 : Type} {T7 : Ty α7} {δ : Type} {O : OTy δ} {d : Addr} (hN : N.length = n + 9) : ParamsM K d O (rCons T0 (rCons T1 (rCons T2 (rCons T3 (rCons T4 (rCons T5 (rCons T6 (rOne T7)))))))) (lOwn O (some d) :: lImm T0 :: lImm T1 :: lImm T2 :: lImm T3 :: lImm T4 :: lImm T5 :: lImm T6 :: lImm T7 :: List.replicate n lNone) (fun y0 y => (y0, (y.1, y.2.1, y.2.2.1, y.2.2.2.1, y.2.2.2.2.1, y.2.2.2.2.2.1, y.2.2.2.2.2.2.1, y.2.2.2.2.2.2.2, nones n))) N := fun {B H vs o x0 y} hd ro h => by
  obtain ⟨v0, _, rfl, r0, v1, _, rfl, r1, v2, _, rfl, r2, v3, _, rfl, r3, v4, _, rfl, r4, v5, _, rfl, r5, v6, _, rfl, r6, v7, rfl, r7⟩ := h
  unfold L2.start
  rw [hN, show n + 9 - ([V.ref d, v0, v1, v2, v3, v4, v5, v6, v7] : List V).length = n from Nat.add_sub_cancel n 9]
  exact rel_bor hd ro (rel_imm r0 (rel_imm r1 (rel_imm r2 (rel_imm r3 (rel_imm r4 (rel_imm r5 (rel_imm r6 (rel_imm r7 (rel_nones n)))))))))
theorem hs8 {α0 : Type} {T0 : Ty α0} {α1 : Type} {T1 : Ty α1} {α2 : Type} {T2 : Ty α2} {α3 : Type} {T3 : Ty α3} {α4 : Type} {T4 : Ty α4} {α5 : Type} {T5 : Ty α5} {α6 : Type} {T6 : Ty α6} {α7 : Type} {T7 : Ty α7} {B vs y} (h : (rCons T0 (rCons T1 (rCons T2 (rCons T3 (rCons T4 (rCons T5 (rCons T6 (rOne T7)))))))).rep K B vs y) : vs.length = 8 := by
  obtain ⟨v0, _, rfl, r0, v1, _, rfl, r1, v2, _, rfl, r2, v3, _, rfl, r3, v4, _, rfl, r4, v5, _, rfl, r5, v6, _, rfl, r6, v7, rfl, r7⟩ := h
  rfl
theorem hsM8 {α0 : Type} {T0 : Ty α0} {α1 : Type} {T1 : Ty α1} {α2 : Type} {T2 : Ty α2} {α3 : Type} {T3 : Ty α3} {α4 : Type} {T4 : Ty α4} {α5 : Type} {T5 : Ty α5} {α6 : Type} {T6 : Ty α6} {α7 : Type} {T7 : Ty α7} {B vs y} (h : (rCons T0 (rCons T1 (rCons T2 (rCons T3 (rCons T4 (rCons T5 (rCons T6 (rOne T7)))))))).rep K B vs y) : vs.length + 1 = 9 := by
  obtain ⟨v0, _, rfl, r0, v1, _, rfl, r1, v2, _, rfl, r2, v3, _, rfl, r3, v4, _, rfl, r4, v5, _, rfl, r5, v6, _, rfl, r6, v7, rfl, r7⟩ := h
  rfl
end
end L3

/-! L3: values as data: isinstance, equality of nested tuples, _law_same. -/
namespace L3
open PySem PySem.Spec PyProof.Rows L2

theorem PA_of_Dp {K : Fg} {B : Hp} : ∀ {vs : List V} {ds : List PyData}, DpAll K B vs ds → Paired (Dp K B) vs ds
  | _, _, .nil => .nil
  | _, _, .cons h t => .cons h (PA_of_Dp t)
theorem Dp_of_PA {K : Fg} {B : Hp} {vs : List V} {ds : List PyData} (h : Paired (Dp K B) vs ds) : DpAll K B vs ds := by
  induction h with
  | nil => exact .nil
  | cons r _ ih => exact .cons r ih
mutual
theorem Dp.up {K : Fg} {B B' : Hp} (s : Sub B B') : ∀ {d : PyData} {v : V}, Dp K B v d → Dp K B' v d
  | .none, _, h => by cases h; exact .non
  | .bool _, _, h => by cases h; exact .bl _
  | .int _, _, h => by cases h; exact .int _
  | .str _, _, h => by cases h; exact .str _
  | .list ds, _, h => by
    cases h with
    | lst q r => exact .lst (s.seqL q) (DpAll.up s r)
  | .tuple ds, _, h => by
    cases h with
    | tup q r => exact .tup (s.seqT q) (DpAll.up s r)
  | .dict _, _, h => by cases h
theorem DpAll.up {K : Fg} {B B' : Hp} (s : Sub B B') : ∀ {ds : List PyData} {vs : List V}, DpAll K B vs ds → DpAll K B' vs ds
  | [], _, h => by cases h; exact .nil
  | d :: ds, _, h => by
    cases h with
    | cons a t => exact .cons (Dp.up s a) (DpAll.up s t)
end
def tDat : Ty PyData where
  rep := fun K B v x => Dp K B v x
  mono := fun s h => Dp.up s h
  nn := false
  nnok := fun h => nomatch h
  to := false
  took := fun h => nomatch h
def tCls (n : String) : Ty Unit where
  rep := fun _ _ v _ => v = .ty n
  mono := fun _ h => h
  nn := false
  nnok := fun h => nomatch h
  to := true
  took := fun _ _ _ _ _ _ _ h => h

section
variable {X : Cx} {K : Fg} {L : List Loc} {e a b : Expr} {pos : Pos}
theorem y_cls {T : String} {x : Str} (hg : Gl X x) (hm : X.mg x = none) (hv : bootBuiltins x = some (.type T)) (hn : x ≠ "__name__" := by decide) (hd : (x == ("__debug__" : Str)) = false := by decide) :
    PE X (.Name x pos) (tE K L (tCls T) fun _ ρ k => k () ρ) := by
  refine pe_weak (pe_bltn hg hm hv (v := .ty T) rfl hn hd) fun σ H Q ⟨F, B, ρ, ω, k, o, h, e1, q⟩ => ?_
  exact q B _ H _ _ (Sub.refl B) h rfl e1
/-- what isinstance answers -/
def IsT {α : Type} (T : Ty α) (nm : String) (g : α → Bool) : Prop := ∀ {K B v x}, T.rep K B v x → ∃ t, TyX K B v t ∧ PySem.W.kitOne K t (.type nm) = some (g x)
theorem TyX_up {K : Fg} {B H : Hp} (s : Sub B H) {v : V} {t : Value} (h : TyX K B v t) : TyX K H v t := by
  cases h with
  | base h => cases h with
    | non => exact .base .non
    | bl x => exact .base (.bl x)
    | int x => exact .base (.int x)
    | str x => exact .base (.str x)
    | flt x => exact .base (.flt x)
    | lst e => exact .base (.lst (s _ _ e))
    | frz e => exact .base (.frz (s _ _ e))
    | tup e => exact .base (.tup (s _ _ e))
    | dK e => exact .base (.dK (s _ _ e))
    | dT e => exact .base (.dT (s _ _ e))
    | ins e c a1 a2 a3 a4 => exact .base (.ins (s _ _ e) c a1 a2 a3 a4)
  | byt b => exact .byt b
  | set e => exact .set (s _ _ e)
  | kList e c => exact .kList e c
  | kTuple e c => exact .kTuple e c
  | kDict e c => exact .kDict e c
  | fTuple e => exact .fTuple (s _ _ e)
  | fDict e => exact .fDict (s _ _ e)
theorem TyX_T {K : Fg} {B : Hp} {a : Addr} {xs : List V} (h : SqT K B a xs) : TyX K B (.ref a) (.type "tuple") := by
  rcases h with (h | ⟨o, h⟩) | ⟨o, its, n, h, c, _⟩
  · exact .base (.tup h)
  · exact .fTuple h
  · exact .kTuple h c
theorem TyX_L {K : Fg} {B : Hp} {a : Addr} {xs : List V} (h : SqL K B a xs) : TyX K B (.ref a) (.type "list") := by
  rcases h with (h | ⟨o, h⟩) | ⟨o, its, n, h, c, _⟩
  · exact .base (.lst h)
  · exact .base (.frz h)
  · exact .kList h c
theorem c_isi {α : Type} {T : Ty α} {nm : String} {g : α → Bool} (h : IsT T nm g) : OpN K (rIsi K) (rCons T (rOne (tCls nm))) tBool fun p => some (g p.1) := fun {B H y z vs Q} s ⟨v, r, e1, h1, w, e2, h2⟩ e q => by
  subst e1 e2
  cases e
  obtain rfl : w = .ty nm := h2
  obtain ⟨t, ty, k⟩ := h h1
  exact ⟨v, .ty nm, t, .type nm, _, rfl, .ty nm, TyX_up s ty, k, q _ _ _ (gr0 s) rfl⟩
theorem y_isi {α : Type} {T : Ty α} {nm : String} {x : Str} {p p2 : Pos} {g : α → Bool} {m : Mo L α} (h : IsT T nm g) (hg : Gl X "isinstance") (hm : X.mg "isinstance" = none) (hgt : Gl X x) (hmt : X.mg x = none) (hv : bootBuiltins x = some (.type nm)) (he : PE X e (tE X.K L T m))
    (hn : x ≠ "__name__" := by decide) (hd : (x == ("__debug__" : Str)) = false := by decide)
    (hs : starEach [e, .Name x p2] X.env = (false, eval e X.env) :: starEach [.Name x p2] X.env := by rfl) (hpl : (backTo pos (starEach [.Name x p2] X.env)).any (·.1) = false := by rfl) :
    PE X (.Call (.Name "isinstance" p) [e, .Name x p2] [] pos) (tE X.K L tBool fun ω ρ k => m ω ρ fun y ρ' => k (g y) ρ') :=
  y_cB (id := "isinstance") call_isi (c_isi h) hg hm PyProof.Rows.boot_isinstance (a_cons he (a_one (y_cls hgt hmt hv hn hd)) hs) (by decide) (by decide) hs hpl
theorem kit_of' {K : Fg} {a b : String} {r : Bool} (h : kitB a b = some r) : PySem.W.kitOne K (.type a) (.type b) = some r := h
def isD (nm : String) : PyData → Bool
  | .bool _ => nm == "bool" || nm == "int"
  | .int _ => nm == "int"
  | .str _ => nm == "str"
  | .list _ => nm == "list"
  | .tuple _ => nm == "tuple"
  | _ => false
theorem isT_D {nm : String} (h : (nm = "bool" ∨ nm = "int") ∨ nm = "str" ∨ nm = "tuple" := by decide) : IsT tDat nm (isD nm) := fun {K B v x} r => by
  cases r with
  | non => exact ⟨_, .base .non, by rcases h with (rfl | rfl) | rfl | rfl <;> exact kit_of' (by decide +kernel)⟩
  | bl b => exact ⟨_, .base (.bl b), by rcases h with (rfl | rfl) | rfl | rfl <;> exact kit_of' (by simp only [isD]; decide +kernel)⟩
  | int b => exact ⟨_, .base (.int b), by rcases h with (rfl | rfl) | rfl | rfl <;> exact kit_of' (by simp only [isD]; decide +kernel)⟩
  | str b => exact ⟨_, .base (.str b), by rcases h with (rfl | rfl) | rfl | rfl <;> exact kit_of' (by simp only [isD]; decide +kernel)⟩
  | lst q _ => exact ⟨_, TyX_L q, by rcases h with (rfl | rfl) | rfl | rfl <;> exact kit_of' (by simp only [isD]; decide +kernel)⟩
  | tup q _ => exact ⟨_, TyX_T q, by rcases h with (rfl | rfl) | rfl | rfl <;> exact kit_of' (by simp only [isD]; decide +kernel)⟩
theorem isT_tup {β : Type} {R : Tys β} : IsT (tTup R) "tuple" fun _ => true := fun {K B v x} ⟨a, vs, e, q, _⟩ => ⟨.type "tuple", by subst e; exact TyX_T q, kit_of' (show kitB "tuple" "tuple" = some true by decide +kernel)⟩
theorem isT_lst {α : Type} {T : Ty α} : IsT (tLst T) "list" fun _ => true := fun {K B v x} ⟨a, vs, e, q, _⟩ => ⟨.type "list", by subst e; exact TyX_L (.inl (.inl q)), kit_of' (show kitB "list" "list" = some true by decide +kernel)⟩
theorem isT_lstT {α : Type} {T : Ty α} : IsT (tLst T) "tuple" fun _ => false := fun {K B v x} ⟨a, vs, e, q, _⟩ => ⟨.type "list", by subst e; exact TyX_L (.inl (.inl q)), kit_of' (show kitB "list" "tuple" = some false by decide +kernel)⟩
theorem isT_int : IsT tInt "int" fun _ => true := fun {K B v x} e => ⟨.type "int", by cases e; exact .base (.int x), kit_of' (show kitB "int" "int" = some true by decide +kernel)⟩
theorem isT_intB : IsT tInt "bool" fun _ => false := fun {K B v x} e => ⟨.type "int", by cases e; exact .base (.int x), kit_of' (show kitB "int" "bool" = some false by decide +kernel)⟩
theorem isT_bool : IsT tBool "bool" fun _ => true := fun {K B v x} e => ⟨.type "bool", by cases e; exact .base (.bl x), kit_of' (show kitB "bool" "bool" = some true by decide +kernel)⟩
theorem isT_str : IsT tStr "str" fun _ => true := fun {K B v x} e => ⟨.type "str", by cases e; exact .base (.str x), kit_of' (show kitB "str" "str" = some true by decide +kernel)⟩
def optD : PyData → Option PyData
  | .none => none
  | d => some d
theorem y_datO {m : Mo L PyData} (h : PE X e (tE K L tDat m)) : PE X e (tE K L (tOpt tDat) fun ω ρ k => m ω ρ fun x ρ' => k (optD x) ρ') :=
  y_cast optD (fun {B v x} r => by
    cases r with
    | non => rfl
    | bl b => exact ⟨.bl b, fun z => nomatch z⟩
    | int b => exact ⟨.int b, fun z => nomatch z⟩
    | str b => exact ⟨.str b, fun z => nomatch z⟩
    | lst q r => exact ⟨.lst q r, fun z => nomatch z⟩
    | tup q r => exact ⟨.tup q r, fun z => nomatch z⟩) h
def lenD : PyData → Option Int
  | .tuple ds => some (ds.length : Int)
  | _ => none
theorem c_lenDat : OpN K (fun xs H Q => ∃ p ys, xs = [.ref p] ∧ (SqL K H p ys ∨ SqT K H p ys) ∧ Q (.int ys.length) H) (rOne tDat) tInt lenD := fun {B H y z vs Q} s ⟨v, e1, r⟩ e q => by
  subst e1
  cases r with
  | tup h t =>
    cases e
    refine ⟨_, _, rfl, .inr (s.seqT h), ?_⟩
    rw [Paired.length (PA_of_Dp t)]
    exact q _ _ _ (gr0 s) rfl
  | _ => cases e
def ixD : PyData → Int → Option PyData
  | .tuple ds, i => getI ds i
  | _, _ => none
theorem ix_d : Op2 K (rIxT K) tDat tInt tDat ixD := fun {B H x y z v w Q} s hx hy e q => by
  cases hx with
  | tup h t =>
    obtain rfl : w = .int y := hy
    have e : getI _ y = some z := e
    obtain ⟨u, e2, r⟩ := P_getI (PA_of_Dp t) e
    exact ⟨_, _, _, u, rfl, rfl, s.seqT h, e2, q _ _ _ (gr0 s) r⟩
  | _ => cases e
def eqD0 : PyData → PyData → Option Bool
  | .bool a, .bool b => some (decide (a = b))
  | .int a, .int b => some (decide (a = b))
  | .str a, .str b => some (decide (a = b))
  | _, _ => none
theorem o_eqD0 : Op2 K rEq tDat tDat tBool eqD0 := fun {B H x y z v w Q} s hx hy e q => by
  cases hx <;> cases hy <;> first
  | exact o_eqB (K := K) s rfl rfl e q
  | exact o_eqI (K := K) s rfl rfl e q
  | exact o_eqS (K := K) s rfl rfl e q
  | cases e
theorem FnOk.void {P : Program} {w : World} {mg : Str → Option Value} {base : Heap} {CX : CXT} {k : Nat} {f : Addr} {fd : FuncData} {ps : List Str} {sp : Sp} (h : ∀ vs H Q E, ¬ sp vs H Q E) : FnOk P w K mg base CX k f fd ps sp :=
  ⟨fun vs H Q E x => absurd x (h vs H Q E), fun A outer s H args us vs Q E hr I b r x => absurd x (h _ _ _ _)⟩
theorem y_cmpO {op : CmpOp} {r : R2} {α β : Type} {Ta : Ty α} {Tb : Ty β} {g : α → β → Option Bool} {ma : Mo L α} {mb : Mo L β} (ho : OpR X (compareOp op) r) (h : Op2 K r Ta Tb tBool g) (ha : PE X a (tE K L Ta ma)) (hb : PE X b (tE K L Tb mb)) (hm : behindInMarks op b = false) :
    PE X (.Compare a [op] [b] pos) (tE K L tBool (bin2 ma mb g)) := pe_weak (pe_cmpR ho ha hb hm) fun σ H Q w => bin_fin h w
end

/-! ### types whose values are data -/
def Dn : Nat → PyData → Prop
  | _, .none => True
  | _, .bool _ => True
  | _, .int _ => True
  | _, .str _ => True
  | n + 1, .tuple ds => ds.length ≤ 16777216 ∧ ∀ z ∈ ds, Dn n z
  | _, _ => False
theorem Dn.tup {n : Nat} {ds : List PyData} (l : ds.length ≤ 16777216) (h : ∀ z ∈ ds, Dn n z) : Dn (n + 1) (.tuple ds) := by
  unfold Dn; exact ⟨l, h⟩
structure Emb {α : Type} (T : Ty α) where
  to : α → PyData
  rep : ∀ {K B v x}, T.rep K B v x → Dp K B v (to x)
  inj : ∀ {x y}, to x = to y → x = y
  eqv : ∀ {x y}, PyData.eqv (to x) (to y) = true ↔ x = y
  dn : Nat
  dep : ∀ x, (to x).depth ≤ dn
  nl : Bool
  nlok : nl = true → ∀ n, dn ≤ n → ∀ {K B v x}, T.rep K B v x → Dn n (to x)
  ly : Bool
  lyok : ly = true → ∀ x, (to x).canLay0 = true
  nz : Bool
  nzok : nz = true → ∀ x, to x ≠ .none
def dInt : Emb tInt where
  to := .int
  rep := fun h => by cases h; exact .int _
  inj := fun h => by cases h; rfl
  eqv := fun {x y} => by simp [PyData.eqv]
  dn := 0
  dep := fun _ => by simp [PyData.depth]
  nl := true
  nlok := fun _ n _ _ _ _ _ _ => by cases n <;> trivial
  ly := true
  lyok := fun _ x => by simp [PyData.canLay0]
  nz := true
  nzok := fun _ _ h => nomatch h
def dBool : Emb tBool where
  to := .bool
  rep := fun h => by cases h; exact .bl _
  inj := fun h => by cases h; rfl
  eqv := fun {x y} => by simp [PyData.eqv]
  dn := 0
  dep := fun _ => by simp [PyData.depth]
  nl := true
  nlok := fun _ n _ _ _ _ _ _ => by cases n <;> trivial
  ly := true
  lyok := fun _ x => by simp [PyData.canLay0]
  nz := true
  nzok := fun _ _ h => nomatch h
def dStr : Emb tStr where
  to := .str
  rep := fun h => by cases h; exact .str _
  inj := fun h => by cases h; rfl
  eqv := fun {x y} => by simp [PyData.eqv]
  dn := 0
  dep := fun _ => by simp [PyData.depth]
  nl := true
  nlok := fun _ n _ _ _ _ _ _ => by cases n <;> trivial
  ly := false
  lyok := fun h => nomatch h
  nz := true
  nzok := fun _ _ h => nomatch h
def dOpt {α : Type} {T : Ty α} (d : Emb T) (h : d.nz = true := by rfl) : Emb (tOpt T) where
  to := fun x => match x with
    | none => .none
    | some y => d.to y
  rep := fun {K B v x} r => by
    cases x with
    | none => cases (show v = .non from r); exact .non
    | some y => exact d.rep r.1
  inj := fun {x y} e => by
    cases x with
    | none => cases y with
      | none => rfl
      | some y => exact absurd e.symm (d.nzok h y)
    | some x => cases y with
      | none => exact absurd e (d.nzok h x)
      | some y => exact congrArg some (d.inj e)
  eqv := fun {x y} => by
    cases x with
    | none => cases y with
      | none => simp [PyData.eqv]
      | some y =>
        have q := d.nzok h y
        show PyData.eqv .none (d.to y) = true ↔ _
        cases e : d.to y <;> simp [PyData.eqv]
        exact absurd e q
    | some x => cases y with
      | none =>
        have q := d.nzok h x
        show PyData.eqv (d.to x) .none = true ↔ _
        cases e : d.to x <;> simp [PyData.eqv]
        exact absurd e q
      | some y =>
        show PyData.eqv (d.to x) (d.to y) = true ↔ _
        rw [d.eqv]
        exact ⟨fun e => by rw [e], fun e => by cases e; rfl⟩
  dn := d.dn
  dep := fun x => by
    cases x with
    | none => simp [PyData.depth]
    | some y => exact d.dep y
  nl := d.nl
  nlok := fun q n l {K B v x} r => by
    cases x with
    | none => cases n <;> trivial
    | some y => exact d.nlok q n l r.1
  ly := d.ly
  lyok := fun q x => by
    cases x with
    | none => simp [PyData.canLay0]
    | some y => exact d.lyok q y
  nz := false
  nzok := fun h => nomatch h
structure EmbR {β : Type} (R : Tys β) where
  to : β → List PyData
  rep : ∀ {K B vs x}, R.rep K B vs x → Paired (Dp K B) vs (to x)
  inj : ∀ {x y}, to x = to y → x = y
  eqv : ∀ {x y}, PyData.eqvAll (to x) (to y) = true ↔ x = y
  ln : Nat
  lnok : ∀ {K B vs x}, R.rep K B vs x → (to x).length ≤ ln
  dn : Nat
  dep : ∀ x, PyData.depthAll (to x) ≤ dn
  nl : Bool
  nlok : nl = true → ∀ n, dn ≤ n → ∀ {K B vs x}, R.rep K B vs x → ∀ z ∈ to x, Dn n z
  ly : Bool
  lyok : ly = true → ∀ x, PyData.canLayAll0 (to x) = true
def eOne {α : Type} {T : Ty α} (d : Emb T) : EmbR (rOne T) where
  ln := 1
  lnok := fun _ => Nat.le_refl 1
  to := fun x => [d.to x]
  rep := fun ⟨v, e, r⟩ => by subst e; exact .cons (d.rep r) .nil
  inj := fun e => d.inj (List.cons.inj e).1
  eqv := fun {x y} => by simp [PyData.eqvAll, d.eqv]
  dn := d.dn
  dep := fun x => by simp [PyData.depthAll]; exact d.dep x
  nl := d.nl
  nlok := fun q n l {K B vs x} ⟨v, e, r⟩ z m => by rw [List.mem_singleton.mp m]; exact d.nlok q n l r
  ly := d.ly
  lyok := fun q x => by simp [PyData.canLayAll0, d.lyok q x]
def eCons {α β : Type} {T : Ty α} {R : Tys β} (d : Emb T) (e : EmbR R) : EmbR (rCons T R) where
  ln := e.ln + 1
  lnok := fun ⟨v, r, _, h, k⟩ => Nat.succ_le_succ (e.lnok k)
  to := fun x => d.to x.1 :: e.to x.2
  rep := fun ⟨v, r, q, h, k⟩ => by subst q; exact .cons (d.rep h) (e.rep k)
  inj := fun {x y} q => Prod.ext (d.inj (List.cons.inj q).1) (e.inj (List.cons.inj q).2)
  eqv := fun {x y} => by
    simp only [PyData.eqvAll, Bool.and_eq_true, d.eqv, e.eqv]
    exact ⟨fun q => Prod.ext q.1 q.2, fun q => by rw [q]; exact ⟨rfl, rfl⟩⟩
  dn := max d.dn e.dn
  dep := fun x => by
    have a := d.dep x.1
    have b := e.dep x.2
    simp only [PyData.depthAll]
    omega
  nl := d.nl && e.nl
  nlok := fun q n l {K B vs x} ⟨v, r, _, h, k⟩ z m => by
    rw [Bool.and_eq_true] at q
    rcases List.mem_cons.mp m with rfl | m
    · exact d.nlok q.1 n (by omega) h
    · exact e.nlok q.2 n (by omega) k z m
  ly := d.ly && e.ly
  lyok := fun q x => by
    rw [Bool.and_eq_true] at q
    simp only [PyData.canLayAll0, d.lyok q.1, e.lyok q.2, Bool.and_self]
theorem all_inj {α : Type} {f : α → PyData} (h : ∀ {x y}, f x = f y → x = y) : ∀ {xs ys : List α}, xs.map f = ys.map f → xs = ys
  | [], [], _ => rfl
  | [], _ :: _, e => by simp at e
  | _ :: _, [], e => by simp at e
  | x :: xs, y :: ys, e => by
    simp only [List.map_cons, List.cons.injEq] at e
    rw [h e.1, all_inj h e.2]
theorem all_eqv {α : Type} {f : α → PyData} (h : ∀ {x y}, PyData.eqv (f x) (f y) = true ↔ x = y) : ∀ {xs ys : List α}, PyData.eqvAll (xs.map f) (ys.map f) = true ↔ xs = ys
  | [], [] => by simp [PyData.eqvAll]
  | [], _ :: _ => by simp [PyData.eqvAll]
  | _ :: _, [] => by simp [PyData.eqvAll]
  | x :: xs, y :: ys => by
    simp only [List.map_cons, PyData.eqvAll, Bool.and_eq_true, h, all_eqv h, List.cons.injEq]
theorem all_dep {α : Type} {f : α → PyData} {n : Nat} (h : ∀ x, (f x).depth ≤ n) : ∀ xs : List α, PyData.depthAll (xs.map f) ≤ n
  | [] => by simp [PyData.depthAll]
  | x :: xs => by
    have a := h x
    have b := all_dep h xs
    simp only [List.map_cons, PyData.depthAll]
    omega
theorem all_lay {α : Type} {f : α → PyData} (h : ∀ x, (f x).canLay0 = true) : ∀ xs : List α, PyData.canLayAll0 (xs.map f) = true
  | [] => by simp [PyData.canLayAll0]
  | x :: xs => by simp only [List.map_cons, PyData.canLayAll0, h x, all_lay h xs, Bool.and_self]
def eAll {α : Type} {T : Ty α} (d : Emb T) : EmbR (rAll T) where
  ln := 16777216
  lnok := fun h => by rw [List.length_map]; exact h.2
  to := fun x => x.map d.to
  rep := fun {K B vs x} h => by
    have p := h.1
    clear h
    induction p with
    | nil => exact .nil
    | cons r _ ih => exact .cons (d.rep r) ih
  inj := fun e => all_inj d.inj e
  eqv := all_eqv d.eqv
  dn := d.dn
  dep := fun x => all_dep d.dep x
  nl := d.nl
  nlok := fun q n l {K B vs x} h z m => by
    obtain ⟨p, hl⟩ := h
    clear hl
    induction p with
    | nil => cases m
    | cons r t ih =>
      rcases List.mem_cons.mp m with rfl | m
      · exact d.nlok q n l r
      · exact ih m
  ly := d.ly
  lyok := fun q x => all_lay (d.lyok q) x
def dTup {β : Type} {R : Tys β} (e : EmbR R) : Emb (tTup R) where
  to := fun x => .tuple (e.to x)
  rep := fun ⟨a, vs, q, h, k⟩ => by subst q; exact .tup h (Dp_of_PA (e.rep k))
  inj := fun q => e.inj (by injection q)
  eqv := fun {x y} => by simp only [PyData.eqv, e.eqv]
  dn := e.dn + 1
  dep := fun x => by simp only [PyData.depth]; exact Nat.succ_le_succ (e.dep x)
  nl := e.nl && decide (e.ln ≤ 16777216)
  nlok := fun q n l {K B v x} ⟨a, vs, _, _, k⟩ => by
    cases n with
    | zero => omega
    | succ n =>
      rw [Bool.and_eq_true] at q
      exact Dn.tup (Nat.le_trans (e.lnok k) (of_decide_eq_true q.2)) (e.nlok q.1 n (by omega) k)
  ly := e.ly
  lyok := fun q x => by simp only [PyData.canLay0]; exact e.lyok q x
  nz := true
  nzok := fun _ _ h => nomatch h
abbrev dAll {α : Type} {T : Ty α} (d : Emb T) : Emb (tAll T) := dTup (eAll d)
def dLst {α : Type} {T : Ty α} (d : Emb T) : Emb (tLst T) where
  to := fun x => .list (x.map d.to)
  rep := fun {K B v x} ⟨a, vs, q, h, k⟩ => by subst q; exact .lst (.inl (.inl h)) (Dp_of_PA ((eAll d).rep k))
  inj := fun q => (eAll d).inj (by injection q)
  eqv := fun {x y} => by simp only [PyData.eqv]; exact (eAll d).eqv
  dn := d.dn + 1
  dep := fun x => by simp only [PyData.depth]; exact Nat.succ_le_succ ((eAll d).dep x)
  nl := false
  nlok := fun h => nomatch h
  ly := d.ly
  lyok := fun q x => by simp only [PyData.canLay0]; exact (eAll d).lyok q x
  nz := true
  nzok := fun _ _ h => nomatch h
theorem Emb.shp {α : Type} {T : Ty α} (d : Emb T) (h : (d.ly && decide (d.dn ≤ 64)) = true) (x : α) : SeqAt.shaped (d.to x) = true := by
  rw [Bool.and_eq_true] at h
  show ((d.to x).canLay0 && decide ((d.to x).depth ≤ 64)) = true
  rw [d.lyok h.1 x, Bool.true_and]
  exact decide_eq_true (Nat.le_trans (d.dep x) (of_decide_eq_true h.2))
theorem dec_iff {p : Prop} [Decidable p] {b : Bool} (h : b = true ↔ p) : b = decide p := by
  cases b with
  | true => exact (decide_eq_true (h.mp rfl)).symm
  | false => exact (decide_eq_false fun q => absurd (h.mpr q) (fun z => nomatch z)).symm
theorem o_eqD {K : Fg} {α : Type} {T : Ty α} [DecidableEq α] (d : Emb T) (h : (d.ly && decide (d.dn ≤ 64)) = true := by rfl) : Op2 K (rEqD K) T T tBool fun x y => some (decide (x = y)) := fun {B H x y z v w Q} s hx hy e q => by
  cases e
  refine ⟨_, _, Dp.up s (d.rep hx), Dp.up s (d.rep hy), d.shp h x, d.shp h y, ?_⟩
  rw [dec_iff d.eqv]
  exact q _ _ _ (gr0 s) rfl
theorem o_neD {K : Fg} {α : Type} {T : Ty α} [DecidableEq α] (d : Emb T) (h : (d.ly && decide (d.dn ≤ 64)) = true := by rfl) : Op2 K (rNeD K) T T tBool fun x y => some (!decide (x = y)) := fun {B H x y z v w Q} s hx hy e q => by
  cases e
  refine ⟨_, _, Dp.up s (d.rep hx), Dp.up s (d.rep hy), d.shp h x, d.shp h y, ?_⟩
  rw [dec_iff d.eqv]
  exact q _ _ _ (gr0 s) rfl
theorem o_inD {K : Fg} {α : Type} {T : Ty α} [DecidableEq α] (d : Emb T) (h : (d.ly && decide (d.dn < 64)) = true := by rfl) : Op2 K (rInD K) T (tLst T) tBool fun x ys => some (decide (x ∈ ys)) := fun {B H x y z v w Q} s hx hy e q => by
  cases e
  have h2 : ((dLst d).ly && decide ((dLst d).dn ≤ 64)) = true := h
  have h1 : (d.ly && decide (d.dn ≤ 64)) = true := by
    rw [Bool.and_eq_true] at h ⊢
    exact ⟨h.1, decide_eq_true (Nat.le_of_lt (of_decide_eq_true h.2))⟩
  refine ⟨_, y.map d.to, Dp.up s (d.rep hx), Dp.up s ((dLst d).rep hy), d.shp h1 x, (dLst d).shp h2 y, ?_⟩
  have q2 : ((y.map d.to).any fun z => PyData.eqv z (d.to x)) = decide (x ∈ y) := dec_iff ?_
  · rw [q2]
    exact q _ _ _ (gr0 s) rfl
  · simp only [List.any_eq_true, List.mem_map]
    constructor
    · rintro ⟨z, ⟨y, m, rfl⟩, e⟩
      rw [d.eqv] at e
      exact e ▸ m
    · intro m
      exact ⟨_, ⟨x, m, rfl⟩, d.eqv.mpr rfl⟩
theorem o_notInD {K : Fg} {α : Type} {T : Ty α} [DecidableEq α] (d : Emb T) (h : (d.ly && decide (d.dn < 64)) = true := by rfl) : Op2 K (rNotInD K) T (tLst T) tBool fun x ys => some (!decide (x ∈ ys)) := fun {B H x y z v w Q} s hx hy e q => by
  cases e
  obtain ⟨dd, ds, a1, a2, a3, a4, a5⟩ := o_inD (K := K) d h (Q := fun u H' => Q (match u with | .bl b => .bl (!b) | _ => u) H') s hx hy rfl fun B' H' u g r => by
    cases (show u = .bl (decide (x ∈ y)) from r)
    exact q _ _ _ g rfl
  exact ⟨dd, ds, a1, a2, a3, a4, a5⟩
/-- what is shown of the mirror of _law_same -/
def SameOk (m : Nat → PyData × PyData → Option Bool) : Prop := ∀ n d e, Dn n e → ∃ b, m (n + 1) (d, e) = some b ∧ (b = true ↔ d = e)
section
variable {X : Cx} {K : Fg} {L : List Loc} {a b : Expr} {pos p : Pos} {x : Str}
theorem same_imp {P : Program} {w : World} {K : Fg} {mg : Str → Option Value} {base : Heap} {k : Nat} {ps : List Str} {α : Type} {T : Ty α} [DecidableEq α] {f : Addr} {fd : FuncData} {mS : Nat → PyData × PyData → Option Bool} (d : Emb T) (hd : d.nl = true) (hS : SameOk mS)
    (G : FnOk P w K mg base CX0 k f fd ps (spP K (rCons tDat (rOne tDat)) tBool (mS (d.dn + 1)))) : FnOk P w K mg base CX0 k f fd ps (spP K (rCons T (rOne T)) tBool fun p => some (decide (p.1 = p.2))) := by
  refine G.imp fun vs H Q E ⟨B, x, r, s, ⟨v1, r1, e1, h1, v2, e2, h2⟩, e, q⟩ => ?_
  subst e1 e2
  refine ⟨B, (d.to x.1, d.to x.2), r, s, ⟨v1, _, rfl, d.rep h1, v2, rfl, d.rep h2⟩, ?_, q⟩
  obtain ⟨b, e3, h⟩ := hS d.dn (d.to x.1) (d.to x.2) (d.nlok hd d.dn (Nat.le_refl _) h2)
  rw [e3]
  have e4 : b = decide (x.1 = x.2) := dec_iff (h.trans ⟨fun q => d.inj q, fun q => by rw [q]⟩)
  rw [e4]
  exact e
theorem y_same {α : Type} {T : Ty α} [DecidableEq α] {ma mb : Mo L α} {f : Addr} {fd : FuncData} {mS : Nat → PyData × PyData → Option Bool} (d : Emb T) (hS : SameOk mS)
    (G : ∀ n, FnOk X.prog X.w X.K X.mg X.base CX0 (n + 1) f fd ["actual", "due"] (spP X.K (rCons tDat (rOne tDat)) tBool (mS n))) (hr : Room 40 X.A) (hg : Gl X x) (hm : X.mg x = some (.ref f)) (hk : PySem.W.keepIn X.K (.ref f) = true) (hb : Binds X.K fd ["actual", "due"] [])
    (h1 : PE X a (tE X.K L T ma)) (h2 : PE X b (tE X.K L T mb)) (hd : (d.nl && decide (d.dn + 2 ≤ 40)) = true := by rfl) (hdb : (x == ("__debug__" : Str)) = false := by decide)
    (he1 : starEach [a, b] X.env = (false, eval a X.env) :: starEach [b] X.env := by rfl) (he2 : starEach [b] X.env = (false, eval b X.env) :: starEach [] X.env := by rfl) (hpl : (backTo pos (starEach [b] X.env)).any (·.1) = false := by rfl) :
    PE X (.Call (.Name x p) [a, b] [] pos) (tE X.K L tBool fun ω ρ k => ma ω ρ fun x ρ1 => mb ω ρ1 fun y ρ2 => k (decide (x = y)) ρ2) := by
  rw [Bool.and_eq_true] at hd
  exact y_call (pos := pos) (p := p) (same_imp d hd.1 hS (G (d.dn + 1))) (hr.mono (of_decide_eq_true hd.2)) hg hm hk hb (a_cons h1 (a_one h2 he2) he1) hdb he1 hpl
end
/-! ### _law_same -/
namespace Sm
abbrev S4 := PyData × PyData × Unit × Unit
@[reducible] def body (f : PyData × PyData → Option Bool) (i : Int) (s : S4) : Option (Out S4 S4 Bool) :=
  (ixD s.1 i).bind fun x => (ixD s.2.1 i).bind fun y => (f (x, y)).bind fun z => if (!z) = true then some (.rt false) else some (.nx (s.1, s.2.1, (), s.2.2.2))
abbrev finD : Fin S4 Bool → Option Bool := finO (seqO (N := S4) (N' := S4) (C := S4) (R := Bool) (fun _ k => k (Out.rt true)) retO)
@[reducible] noncomputable def tail (f : PyData × PyData → Option Bool) (d e : PyData) : Option Bool :=
  (if (!isD "tuple" d) = true then some (true, ((d, e, (), ()) : S4)) else (lenD d).bind fun x => (lenD e).bind fun y => some (!decide (x = y), ((d, e, (), ()) : S4))).bind fun p =>
    if p.1 = true then some false else (lenD p.2.2.1).bind fun z => (rng1 z).bind fun zs => (loopM (body f) zs p.2).bind finD
@[reducible] def two (d e : PyData) (a : Bool) : Option Bool := (if a = true then (eqD0 d e).bind fun z => some (z, ((d, e, (), ()) : S4)) else some (false, ((d, e, (), ()) : S4))).bind fun p => some p.1
@[reducible] def three (d e : PyData) : Option Bool := (if isD "int" d = true then ((if (!isD "bool" d) = true then (eqD0 d e).bind fun z => some (z, ((d, e, (), ()) : S4)) else some (false, ((d, e, (), ()) : S4))).bind fun p => some (p.1, p.2)) else some (false, ((d, e, (), ()) : S4))).bind fun p => some p.1
noncomputable def stepA (f : PyData × PyData → Option Bool) (d e : PyData) : Option Bool :=
  if isD "bool" e = true then two d e (isD "bool" d) else if isD "int" e = true then three d e else if isD "str" e = true then two d e (isD "str" d) else if (optD e).isNone = true then some (optD d).isNone else tail f d e
noncomputable def stepB (f : PyData × PyData → Option Bool) (d e : PyData) : Option Bool :=
  if (optD e).isNone = true then some (optD d).isNone else if isD "bool" e = true then two d e (isD "bool" d) else if isD "int" e = true then three d e else if isD "str" e = true then two d e (isD "str" d) else tail f d e
theorem two_ok {d e : PyData} : ∃ b, two d e false = some b ∧ b = false := ⟨_, rfl, rfl⟩
theorem getI_nat {α : Type} (xs : List α) (i : Nat) : getI xs (i : Int) = xs[i]? := by
  unfold getI
  rw [if_pos (by omega), Int.toNat_natCast]
def finB : Fin S4 Bool → Bool
  | .go _ => true
  | .rt r => r
theorem loop_ok {f : PyData × PyData → Option Bool} {n : Nat} (hf : ∀ d e, Dn n e → ∃ b, f (d, e) = some b ∧ (b = true ↔ d = e)) {ds es : List PyData} (hn : ∀ z ∈ es, Dn n z) (hl : ds.length = es.length) :
    ∀ (m k : Nat), k + m = es.length → ds.take k = es.take k → ∃ o, loopM (body f) ((List.range' k m).map fun (i : Nat) => (i : Int)) ((.tuple ds, .tuple es, (), ()) : S4) = some o ∧ (finB o = true ↔ ds = es)
  | 0, k, h, ht => by
    refine ⟨.go (.tuple ds, .tuple es, (), ()), rfl, ?_⟩
    have h1 : k = es.length := by omega
    subst h1
    rw [List.take_length, ← hl, List.take_length] at ht
    simp [ht, finB]
  | m + 1, k, h, ht => by
    have hk : k < es.length := by omega
    have hk2 : k < ds.length := by omega
    obtain ⟨b, e, hb⟩ := hf ds[k] es[k] (hn _ (List.getElem_mem hk))
    have hb1 : body f ((k : Nat) : Int) ((.tuple ds, .tuple es, (), ()) : S4) = if (!b) = true then some (.rt false) else some (.nx (.tuple ds, .tuple es, (), ())) := by
      show (getI ds (k : Int)).bind (fun x => (getI es (k : Int)).bind fun y => (f (x, y)).bind fun z => if (!z) = true then some (Out.rt false) else some (.nx ((.tuple ds, .tuple es, (), ()) : S4))) = _
      rw [getI_nat, getI_nat, List.getElem?_eq_getElem hk, List.getElem?_eq_getElem hk2]
      show (f (ds[k], es[k])).bind (fun z => if (!z) = true then some (Out.rt false) else some (.nx ((.tuple ds, .tuple es, (), ()) : S4))) = _
      rw [e]
      rfl
    rw [List.range'_succ, List.map_cons]
    cases b with
    | false =>
      refine ⟨.rt false, ?_, ?_⟩
      · show (body f _ _).bind _ = _
        rw [hb1]
        rfl
      · simp only [finB, Bool.false_eq_true, false_iff]
        intro q
        subst q
        exact absurd (hb.mpr rfl) (fun z => nomatch z)
    | true =>
      obtain ⟨o, h1, h2⟩ := loop_ok hf hn hl m (k + 1) (by omega) (by
        rw [List.take_succ_eq_append_getElem hk, List.take_succ_eq_append_getElem hk2, ht, hb.mp rfl])
      refine ⟨o, ?_, h2⟩
      show (body f _ _).bind _ = _
      rw [hb1]
      exact h1
theorem isD_t (ds : List PyData) : isD "tuple" (.tuple ds) = true := rfl
theorem tail_tt (f : PyData × PyData → Option Bool) (ds es : List PyData) (n m : Nat) (hd : lenD (.tuple ds) = some (n : Int)) (he : lenD (.tuple es) = some (m : Int)) : tail f (.tuple ds) (.tuple es) = if (!decide ((n : Int) = (m : Int))) = true then some false else (rng1 (m : Int)).bind fun zs => (loopM (body f) zs ((.tuple ds, .tuple es, (), ()) : S4)).bind finD := by
  unfold tail
  rw [hd, isD_t, if_neg (by simp), Option.bind_some, he, Option.bind_some, Option.bind_some]
  show (if (!decide ((n : Int) = (m : Int))) = true then some false else (lenD (.tuple es)).bind fun z => _) = _
  rw [he, Option.bind_some]
theorem tail_ok {f : PyData × PyData → Option Bool} {n : Nat} (hf : ∀ d e, Dn n e → ∃ b, f (d, e) = some b ∧ (b = true ↔ d = e)) {es : List PyData} (hn : ∀ z ∈ es, Dn n z) (hz : es.length ≤ 16777216) : ∀ d, ∃ b, tail f d (.tuple es) = some b ∧ (b = true ↔ d = .tuple es)
  | .none => ⟨false, rfl, by simp⟩
  | .bool _ => ⟨false, rfl, by simp⟩
  | .int _ => ⟨false, rfl, by simp⟩
  | .str _ => ⟨false, rfl, by simp⟩
  | .list _ => ⟨false, rfl, by simp⟩
  | .dict _ => ⟨false, rfl, by simp⟩
  | .tuple ds => by
    by_cases hl : ds.length = es.length
    · obtain ⟨o, h1, h2⟩ := loop_ok hf hn hl es.length 0 (by omega) rfl
      have hr : rng1 (es.length : Int) = some ((List.range' 0 es.length).map fun (i : Nat) => (i : Int)) := by
        rw [rng1_eq]
        unfold rangeL
        rw [if_pos (by omega), List.range_eq_range', Int.sub_zero, Int.toNat_natCast]
        congr 2
        funext i
        omega
      refine ⟨finB o, ?_, h2.trans (by simp)⟩
      rw [tail_tt f ds es _ _ rfl rfl, hl, decide_eq_true rfl, hr, if_neg (by simp), Option.bind_some, h1, Option.bind_some]
      cases o <;> rfl
    · refine ⟨false, ?_, by simp; intro q; exact hl (by rw [q])⟩
      rw [tail_tt f ds es _ _ rfl rfl, decide_eq_false (by omega), if_pos (by simp)]
theorem dn_case {P : PyData → Prop} {n : Nat} (h1 : P .none) (h2 : ∀ b, P (.bool b)) (h3 : ∀ b, P (.int b)) (h4 : ∀ b, P (.str b)) (h5 : ∀ k ds, n = k + 1 → ds.length ≤ 16777216 → (∀ z ∈ ds, Dn k z) → P (.tuple ds)) : ∀ e, Dn n e → P e
  | .none, _ => h1
  | .bool b, _ => h2 b
  | .int b, _ => h3 b
  | .str b, _ => h4 b
  | .tuple ds, h => by
    cases n with
    | zero => exact absurd h (by unfold Dn; simp)
    | succ k =>
      unfold Dn at h
      exact h5 k ds rfl h.1 h.2
  | .list ds, h => by cases n <;> exact absurd h (by unfold Dn; simp)
  | .dict ds, h => by cases n <;> exact absurd h (by unfold Dn; simp)
theorem ok_of {m : Nat → PyData × PyData → Option Bool} {step : (PyData × PyData → Option Bool) → PyData → PyData → Option Bool} (hm : ∀ n d e, m (n + 1) (d, e) = step (m n) d e)
    (h1 : ∀ f d, step f d .none = some (optD d).isNone) (h2 : ∀ f d b, step f d (.bool b) = two d (.bool b) (isD "bool" d)) (h3 : ∀ f d b, step f d (.int b) = three d (.int b)) (h4 : ∀ f d b, step f d (.str b) = two d (.str b) (isD "str" d)) (h5 : ∀ f d b, step f d (.tuple b) = tail f d (.tuple b)) : SameOk m := by
  intro n
  induction n with
  | zero =>
    intro d e he
    rw [hm]
    revert d
    refine dn_case (P := fun e => ∀ d, ∃ b, step (m 0) d e = some b ∧ (b = true ↔ d = e)) (n := 0) ?_ ?_ ?_ ?_ ?_ e he
    · intro d; rw [h1]; cases d <;> exact ⟨_, rfl, by simp [optD]⟩
    · intro b d; rw [h2]; cases d <;> exact ⟨_, rfl, by simp⟩
    · intro b d; rw [h3]; cases d <;> exact ⟨_, rfl, by simp⟩
    · intro b d; rw [h4]; cases d <;> exact ⟨_, rfl, by simp⟩
    · intro k ds q; cases q
  | succ n ih =>
    intro d e he
    rw [hm]
    revert d
    refine dn_case (P := fun e => ∀ d, ∃ b, step (m (n + 1)) d e = some b ∧ (b = true ↔ d = e)) (n := n + 1) ?_ ?_ ?_ ?_ ?_ e he
    · intro d; rw [h1]; cases d <;> exact ⟨_, rfl, by simp [optD]⟩
    · intro b d; rw [h2]; cases d <;> exact ⟨_, rfl, by simp⟩
    · intro b d; rw [h3]; cases d <;> exact ⟨_, rfl, by simp⟩
    · intro b d; rw [h4]; cases d <;> exact ⟨_, rfl, by simp⟩
    · intro k ds q l hn d
      cases q
      rw [h5]
      exact tail_ok ih hn l d
end Sm
theorem same_A {m : Nat → PyData × PyData → Option Bool} (h : ∀ n d e, m (n + 1) (d, e) = Sm.stepA (m n) d e) : SameOk m :=
  Sm.ok_of h (fun _ _ => rfl) (fun _ _ _ => rfl) (fun _ _ _ => rfl) (fun _ _ _ => rfl) (fun _ _ _ => rfl)
theorem same_B {m : Nat → PyData × PyData → Option Bool} (h : ∀ n d e, m (n + 1) (d, e) = Sm.stepB (m n) d e) : SameOk m :=
  Sm.ok_of h (fun _ _ => rfl) (fun _ _ _ => rfl) (fun _ _ _ => rfl) (fun _ _ _ => rfl) (fun _ _ _ => rfl)
end L3

/-! L3: operations on tuples that the hand layer has for lists alone. -/
namespace L3
open PySem PySem.Spec PyProof.Rows L2

/-! ### t += u -/
theorem tupNoI : typeLookup (.type "tuple") (dunderI "add") = pure none := by rw [typeLookup_type, builtinLookup_eq_fast]; kernel_rfl
section
variable {X : Cx}
theorem iop_catA : OpR X (inplaceOp .Add) (rCatA X.K) := by
  intro pins s σ H x y v u Q I rx ry ⟨a, b, xs, ys, ex, ey, ha, hb, hz, q0, q1, q2⟩
  subst ex ey
  cases rx
  cases ry
  obtain ⟨is1, rv1, ⟨⟨c1, d1, dt1, sl1⟩, ho1, hc1, n1, hd1⟩, _⟩ := I.tuple ha
  obtain ⟨is2, rv2, ⟨⟨c2, d2, dt2, sl2⟩, ho2, hc2, n2, hd2⟩, _⟩ := I.tuple hb
  simp only at hc1 hd1 hc2 hd2
  subst hc1 hd1 hc2 hd2
  have l1 := rv1.length
  have l2 := rv2.length
  have road : ∀ {Q' : Value → Shared → Prop} {E'}, wpAny (model X.prog X.w) X.A (call (.builtin "tuple.__add__") [.ref a, .ref b]) Q' E' s → wpAny (model X.prog X.w) X.A (inplaceOp .Add (.ref a) (.ref b)) Q' E' s :=
    fun hh => inplaceOp_concat ⟨_, ho1, rfl⟩ ⟨_, ho2, rfl⟩ tupNoI noFill_tuple_add seq_tuple_add hh
  by_cases hx : xs = []
  · refine road (call_meets PySem.F.slot_tuple_add ⟨_, ho1, rfl⟩ PySem.F.entry_tuple_add (PySem.F.args_tuple_add_2 _ _) (tuple_addW0 a b is1.toArray is2.toArray n1 n2 d1 d2 sl1 sl2 ?_) ⟨ho1, ho2, ⟨.ref b, H, I, rfl, q0 hx⟩⟩)
    rw [rv1.nil_iff.mpr hx]
    rfl
  · by_cases hy : ys = []
    · refine road (call_meets PySem.F.slot_tuple_add ⟨_, ho1, rfl⟩ PySem.F.entry_tuple_add (PySem.F.args_tuple_add_2 _ _) (tuple_addW1 a b is1.toArray is2.toArray n1 n2 d1 d2 sl1 sl2 ?_ ?_) ⟨ho1, ho2, ⟨.ref a, H, I, rfl, q1 hx hy⟩⟩)
      · simp
        exact fun z => hx (rv1.nil_iff.mp z)
      · simp
        exact rv2.nil_iff.mpr hy
    · refine road (call_meets PySem.F.slot_tuple_add ⟨_, ho1, rfl⟩ PySem.F.entry_tuple_add (PySem.F.args_tuple_add_2 _ _) (tuple_addW2 a b is1.toArray is2.toArray n1 n2 d1 d2 sl1 sl2 ?_ ?_ ?_) ⟨ho1, ho2, ?_⟩)
      · simp
        exact fun z => hx (rv1.nil_iff.mp z)
      · simp
        exact fun z => hy (rv2.nil_iff.mp z)
      · rw [List.size_toArray, List.size_toArray]
        omega
      · have e : is1.toArray ++ is2.toArray = (is1 ++ is2).toArray := by simp
        rw [e]
        refine ⟨.ref s.heap.objs.size, _, I.laid (t' := s.toks) (o := .tup (xs ++ ys)) (fun b ob q => Heap.get?_push_of_some _ q) (Nat.le_refl _) ?_, rfl, q2 hx hy _ (I.hok.fresh (Nat.le_refl _))⟩
        exact ⟨by rw [List.length_append]; exact hz, _, rv1.append rv2, IsTup.new _ _⟩

/-! ### t * k -/
theorem mulSame (l : Addr) (its : Array Value) (n : Nat) (dd : Option Addr) (sl : Array (Option Value)) (u : Tok) :
    Meets (Builtin.«tuple.__mul__» ⟨[.ref l, .int 1 u], []⟩) (fun _ R s => s.heap.get? l = some { cls := .type "tuple", dict := dd, data := .seq its n, slots := sl } ∧ R (.ok (.ret (Value.ref l))) { s with heap := s.heap, toks := s.toks }) :=
  .of_wp fun prog w A R s h => by
    obtain ⟨hp, g, d, tk, os⟩ := s
    obtain ⟨hl, h⟩ := h
    have f1 := AutoSeq1.idx_int
    have c1 : (its.isEmpty || (1 : Int) == 1) = true := by simp
    wp_walk using wpAny_loadPart' hl
    exact ⟨_, rfl, h⟩
theorem mulNone (l : Addr) (its : Array Value) (n : Nat) (dd : Option Addr) (sl : Array (Option Value)) (x : Int) (u : Tok) (c0 : (decide (x < -(2 ^ 63)) || decide (x ≥ 2 ^ 63)) = false) (c1 : (its.isEmpty || x == 1) = false) (c2 : (decide (x ≤ 0) || its.isEmpty) = true) :
    Meets (Builtin.«tuple.__mul__» ⟨[.ref l, .int x u], []⟩) (fun _ R s => s.heap.get? l = some { cls := .type "tuple", dict := dd, data := .seq its n, slots := sl } ∧
      R (.ok (.ret (Value.ref s.heap.objs.size))) { s with heap := s.heap.push { cls := Value.type "tuple", data := Data.seq #[] }, toks := s.toks }) :=
  .of_wp fun prog w A R s h => by
    obtain ⟨hp, g, d, tk, os⟩ := s
    obtain ⟨hl, h⟩ := h
    have f1 := AutoSeq1.idx_int
    wp_walk using wpAny_loadPart' hl
    repeat (first
      | (refine wpAny_ite_false (decide_eq_false (by rw [c0]; exact Bool.false_ne_true)) ?_; wp_walk using wpAny_loadPart' hl)
      | (refine wpAny_ite_false (decide_eq_false (by rw [c1]; exact Bool.false_ne_true)) ?_; wp_walk using wpAny_loadPart' hl)
      | (refine wpAny_ite_true (decide_eq_true (by rw [c2])) ?_; wp_walk using wpAny_loadPart' hl))
    exact ⟨_, rfl, h⟩
def rRepA (K : PySem.W.Frag) : R2 := fun x y H Q => ∃ l k xs, x = .ref l ∧ y = .int k ∧ SqT K H l xs ∧ xs ≠ [] ∧ -(2 ^ 63) ≤ k ∧ k < 2 ^ 63 ∧ xs.length * k.toNat ≤ 16777216 ∧
  (k = 1 → Q (.ref l) H) ∧ (k ≠ 1 → ∀ p, H p = none → Q (.ref p) (upd H p (.tup (List.replicate k.toNat xs).flatten)))
theorem op_repA : OpR X (binaryOp .Mult) (rRepA X.K) := by
  intro pins s σ H x y v u Q I rx ry ⟨l, k, xs, ex, ey, hT, hne, h1, h2, hz, q1, q2⟩
  subst ex ey
  cases rx
  obtain ⟨tk, rfl⟩ := ry
  obtain ⟨is1, rv1, ⟨⟨c1, d1, dt1, sl1⟩, ho1, hc1, n1, hd1⟩, _⟩ := I.tuple hT
  simp only at hc1 hd1
  subst hc1 hd1
  have l1 : is1.length = xs.length := rv1.length.symm
  have hn : is1 ≠ [] := fun z => hne (rv1.nil_iff.mp z)
  have hi : is1.toArray.isEmpty = false := by
    cases is1 with
    | nil => exact absurd rfl hn
    | cons a b => rfl
  have c0 : (decide (k < -(2 ^ 63)) || decide (k ≥ 2 ^ 63)) = false := by
    rw [decide_eq_false (by omega), decide_eq_false (by omega)] <;> rfl
  have road : ∀ {Q' : Value → Shared → Prop} {E'}, wpAny (model X.prog X.w) X.A (call (.builtin "tuple.__mul__") [.ref l, .int k tk]) Q' E' s → wpAny (model X.prog X.w) X.A (binaryOp .Mult (.ref l) (.int k tk)) Q' E' s := fun hh =>
    wpAny_binaryOp_repeat_ref (T := "tuple") (U := "int") (by decide) ⟨_, ho1, rfl⟩ (fun s' => typeIs_int s' k tk) noFill_tuple_mul F.fills_int_mul F.slot_int_rmul repeat_tuple F.slot_int_index.lookup
      (call_meets F.slot_int_rmul (typeIs_int s k tk) F.entry_int_rmul (F.args_int_rmul_2 _ _) (int_rmul_tuple k tk l is1.toArray n1 d1 sl1) ⟨ho1, rfl, ⟨_, ho1, rfl⟩, hh⟩)
  by_cases hk : k = 1
  · subst hk
    exact road (call_meets F.slot_tuple_mul ⟨_, ho1, rfl⟩ F.entry_tuple_mul (F.args_tuple_mul_2 _ _) (mulSame l is1.toArray n1 d1 sl1 tk) ⟨ho1, ⟨.ref l, H, I, rfl, q1 rfl⟩⟩)
  have c1 : (is1.toArray.isEmpty || k == 1) = false := by
    rw [hi, Bool.false_or]
    exact beq_eq_false_iff_ne.mpr hk
  by_cases h0 : k ≤ 0
  · have e0 : k.toNat = 0 := by omega
    have q2' := q2 hk
    rw [e0] at q2'
    refine road (call_meets F.slot_tuple_mul ⟨_, ho1, rfl⟩ F.entry_tuple_mul (F.args_tuple_mul_2 _ _) (mulNone l is1.toArray n1 d1 sl1 k tk c0 c1 (by rw [decide_eq_true h0]; rfl)) ⟨ho1, ?_⟩)
    refine ⟨.ref s.heap.objs.size, _, I.laid (t' := s.toks) (o := .tup []) (fun b ob q => Heap.get?_push_of_some _ q) (Nat.le_refl _) ?_, rfl, q2' _ (I.hok.fresh (Nat.le_refl _))⟩
    exact ⟨Nat.zero_le _, [], .nil, IsTup.new _ _⟩
  · have c2 : (decide (k ≤ 0) || is1.toArray.isEmpty) = false := by
      rw [hi, Bool.or_false]
      exact decide_eq_false h0
    have hm : ((is1.toArray.size : Nat) : Int) * k ≤ 16777216 := by
      have e : k = (k.toNat : Int) := by omega
      rw [e, ← Int.natCast_mul, List.size_toArray, l1]
      omega
    have flen : (List.replicate k.toNat is1).flatten.length ≤ sizeLine := by
      rw [PyProof.Rows.lm_len_rep_flat, l1, sizeLine_eq, Nat.mul_comm]
      omega
    have c4 : Builtin.Tuple.tupleTooMany (((is1.toArray.size : Nat) : Int) * k) = false := by
      unfold Builtin.Tuple.tupleTooMany
      rw [sizeLine_eq]
      exact decide_eq_false (by omega)
    refine road (call_meets F.slot_tuple_mul ⟨_, ho1, rfl⟩ F.entry_tuple_mul (F.args_tuple_mul_2 _ _) (tuple_mulW l is1.toArray n1 d1 sl1 k tk c0 c1 c2 (by omega) c4 (by rw [size_rep, List.size_toArray]; exact flen)) ⟨ho1, ?_⟩)
    rw [size_rep]
    refine ⟨.ref s.heap.objs.size, _, I.laid (t' := s.toks) (o := .tup (List.replicate k.toNat xs).flatten) (fun b ob q => Heap.get?_push_of_some _ q) (Nat.le_refl _) ?_, rfl, q2 hk _ (I.hok.fresh (Nat.le_refl _))⟩
    exact ⟨by rw [PyProof.Rows.lm_len_rep_flat, sizeLine_eq, Nat.mul_comm]; omega, _, rv1.rep k.toNat, IsTup.new _ _⟩
noncomputable def repT {α : Type} (xs : List α) (n : Int) : Option (List α) := blk (if xs.isEmpty = false ∧ n < 2 ^ 63 ∧ -(2 ^ 63) ≤ n ∧ xs.length * n.toNat ≤ 16777216 then some (List.replicate n.toNat xs).flatten else none)
theorem repT_eq {α : Type} (xs : List α) (n : Int) : repT xs n = if xs.isEmpty = false ∧ n < 2 ^ 63 ∧ -(2 ^ 63) ≤ n ∧ xs.length * n.toNat ≤ 16777216 then some (List.replicate n.toNat xs).flatten else none := blk_eq _
theorem P_nil {α β : Type} {F : α → β → Prop} {xs : List α} {ys : List β} (h : Paired F xs ys) (e : xs = []) : ys = [] := by
  subst e; cases h; rfl
theorem o_repT {K : Fg} {α : Type} {T : Ty α} : Op2 K (rRepA K) (tAll T) tInt (tAll T) repT := fun {B H x y z v w Q} s hx hy e q => by
  obtain ⟨a, vs, rfl, sq, r⟩ := hx
  obtain rfl : w = .int y := hy
  rw [repT_eq] at e
  split at e
  · rename_i hc
    cases e
    have hl := Paired.length r.1
    have hne : vs ≠ [] := fun z => by
      rw [P_nil r.1 z] at hc
      cases hc.1
    have hrow : ∀ {C : Hp}, Sub B C → (rAll T).rep K C (List.replicate y.toNat vs).flatten (List.replicate y.toNat x).flatten := fun sc => by
      refine ⟨P_flat (Pmap r.1 fun _ _ h => T.mono sc h) _, ?_⟩
      rw [len_flat, sizeLine_eq]
      exact hc.2.2.2
    refine ⟨a, y, vs, rfl, rfl, s.seqT sq, hne, hc.2.2.1, hc.2.1, by rw [hl]; exact hc.2.2.2, fun h1 => ?_, fun h1 p hp => ?_⟩
    · subst h1
      refine q _ _ _ (gr0 s) ⟨a, vs, rfl, sq, ?_⟩
      have := hrow (Sub.refl B)
      simpa using this
    · exact q _ _ _ (Grow.new s hp) ⟨p, _, rfl, .inl (.inl upd_same), hrow (Sub.upd (s.none hp))⟩
  · cases e

/-! ### sum, max, min, sorted of a tuple of ints -/
theorem iterT {prog : Program} {w : World} {A : Around} {E : Value → Shared → Prop} {s : Shared} {l : Addr} {vs : Array Value} {Q : Value → Shared → Prop} (hl : s.heap.IsTuple l vs)
    (h : ∀ s₂ : Shared, s₂ = { s with heap := s.heap.push { cls := .type "tuple_iterator", data := .fields #[.ref l, .int 0 0] } } → (s₂.heap.IsTupleIter s.heap.objs.size l 0 ∧ s₂.heap.IsTuple l vs) → (∀ b ∈ [s.heap.objs.size, l], b < s₂.heap.objs.size) → l ≠ s.heap.objs.size → Q (.ref s.heap.objs.size) s₂) :
    wpAny (model prog w) A (pyIter (.ref l)) Q E s := by
  have hlt : l < s.heap.objs.size := by
    obtain ⟨_, e, _⟩ := hl
    exact Heap.lt_size e
  refine wpAny_pyIter_tuple hl (h _ rfl ⟨⟨_, Heap.get?_push_size _ rfl, rfl, rfl⟩, hl.push _⟩ (fun b hb => ?_) (Nat.ne_of_lt hlt))
  show b < (s.heap.push _).objs.size
  rw [Heap.size_push]
  rcases List.mem_cons.mp hb with rfl | hb
  · exact Nat.lt_succ_self _
  · rw [List.mem_singleton.mp hb]
    exact Nat.lt_succ_of_lt hlt
section
variable {prog : Program} {w : World} {A : Around} {E : Value → Shared → Prop} {s : Shared} {l : Addr} {xs : Array (Int × Tok)} {Q : Value → Shared → Prop} {its : List Value} {ns : List Int}
theorem keptI {o : Obj} {h' : Heap} (hk : ∀ b ob, b ∉ [s.heap.objs.size] → (s.heap.push o).get? b = some ob → h'.get? b = some ob) : ∀ b ob, s.heap.get? b = some ob → h'.get? b = some ob := fun b ob e =>
  hk b ob (fun m => by
    rw [List.mem_singleton.mp m] at e
    exact Nat.lt_irrefl _ (Heap.lt_size e)) (Heap.get?_push_of_some _ e)
theorem sumT_raw (hh : A.handled = none) (hl : s.heap.IsTuple l its.toArray) (hi : IntsAre its ns)
    (h : ∀ h' tk t', (∀ b o, s.heap.get? b = some o → h'.get? b = some o) → Q (.int ns.sum t') { s with heap := h', toks := tk }) : wpAny (model prog w) A (call (.builtin "sum") [.ref l]) Q E s := by
  obtain ⟨xs, e⟩ := hi.allInts.items
  have hn : numsOf (intItems xs).toList = ns := by rw [← e]; exact hi.numsOf
  rw [nums_intItems] at hn
  rw [e] at hl
  refine call_sum_walkG (iterT hl fun s2 e2 st hfp hlI => ?_)
  subst e2
  refine ⟨_, _, _, _, _, _, numAt xs, rfl, Walks.tuple (A := A.in1) hh _ l hlI (intItems xs), st, hfp, (fun _ _ => intItems_at), fun h' tk t' hk => ?_⟩
  have g := h h' tk t' (keptI hk)
  have e3 : preSum (numAt xs) (intItems xs).size = ns.sum := by
    rw [preSum_eq, List.take_of_length_le (by simp [intItems]), hn]
  rw [e3]
  exact g
theorem maxT_raw (hh : A.handled = none) (hl : s.heap.IsTuple l its.toArray) (hi : IntsAre its ns) (hne : 0 < ns.length)
    (h : ∀ h' tk M t', (∀ b o, s.heap.get? b = some o → h'.get? b = some o) → M ∈ ns → (∀ a, a ∈ ns → a ≤ M) → Q (.int M t') { s with heap := h', toks := tk }) : wpAny (model prog w) A (call (.builtin "max") [.ref l]) Q E s := by
  obtain ⟨xs, e⟩ := hi.allInts.items
  have hn : numsOf (intItems xs).toList = ns := by rw [← e]; exact hi.numsOf
  rw [nums_intItems] at hn
  subst hn
  rw [e] at hl
  have hsz : 0 < xs.size := by simpa using hne
  refine call_max_walk (iterT hl fun s2 e2 st hfp hlI => ?_)
  subst e2
  refine ⟨_, _, _, _, _, _, _, rfl, Walks.tuple (A := A.in1) hh _ l hlI (intItems xs), st, hfp, by simpa [intItems] using hsz, CmpOf.ints_gt (numAt xs) (fun _ _ => intItems_at), fun v h' tk hP hk => ?_⟩
  have hP' : (intItems xs)[argBest (fun i j => decide (numAt xs i > numAt xs j)) (xs.size - 1)]? = some v := by simpa [intItems] using hP
  obtain ⟨t, rfl⟩ := intItems_at hP'
  obtain ⟨h1, h2⟩ := argBest_gt (numAt xs) (xs.size - 1)
  refine h h' tk _ t (keptI hk) ?_ fun a ha => ?_
  · rw [numAt_eq]; exact PySem.getD_mem (by rw [List.length_map, Array.length_toList]; omega)
  · obtain ⟨j, hj, rfl⟩ := mem_getD ha
    rw [List.length_map, Array.length_toList] at hj
    rw [← numAt_eq]; exact h2 j (by omega)
theorem minT_raw (hh : A.handled = none) (hl : s.heap.IsTuple l its.toArray) (hi : IntsAre its ns) (hne : 0 < ns.length)
    (h : ∀ h' tk M t', (∀ b o, s.heap.get? b = some o → h'.get? b = some o) → M ∈ ns → (∀ a, a ∈ ns → M ≤ a) → Q (.int M t') { s with heap := h', toks := tk }) : wpAny (model prog w) A (call (.builtin "min") [.ref l]) Q E s := by
  obtain ⟨xs, e⟩ := hi.allInts.items
  have hn : numsOf (intItems xs).toList = ns := by rw [← e]; exact hi.numsOf
  rw [nums_intItems] at hn
  subst hn
  rw [e] at hl
  have hsz : 0 < xs.size := by simpa using hne
  refine call_min_walk (iterT hl fun s2 e2 st hfp hlI => ?_)
  subst e2
  refine ⟨_, _, _, _, _, _, _, rfl, Walks.tuple (A := A.in1) hh _ l hlI (intItems xs), st, hfp, by simpa [intItems] using hsz, CmpOf.ints_lt (numAt xs) (fun _ _ => intItems_at), fun v h' tk hP hk => ?_⟩
  have hP' : (intItems xs)[argBest (fun i j => decide (numAt xs i < numAt xs j)) (xs.size - 1)]? = some v := by simpa [intItems] using hP
  obtain ⟨t, rfl⟩ := intItems_at hP'
  obtain ⟨h1, h2⟩ := argBest_lt (numAt xs) (xs.size - 1)
  refine h h' tk _ t (keptI hk) ?_ fun a ha => ?_
  · rw [numAt_eq]; exact PySem.getD_mem (by rw [List.length_map, Array.length_toList]; omega)
  · obtain ⟨j, hj, rfl⟩ := mem_getD ha
    rw [List.length_map, Array.length_toList] at hj
    rw [← numAt_eq]; exact h2 j (by omega)
end
def rSumT (K : PySem.W.Frag) : List V → Hp → VK → Prop := fun vs H Q => ∃ (a : Addr) (ns : List Int), vs = [V.ref a] ∧ SqT K H a (ns.map V.int) ∧ Q (.int ns.sum) H
def rMaxT (K : PySem.W.Frag) : List V → Hp → VK → Prop := fun vs H Q => ∃ (a : Addr) (ns : List Int), vs = [V.ref a] ∧ SqT K H a (ns.map V.int) ∧ 0 < ns.length ∧ ∀ m, m ∈ ns → (∀ y, y ∈ ns → y ≤ m) → Q (.int m) H
def rMinT (K : PySem.W.Frag) : List V → Hp → VK → Prop := fun vs H Q => ∃ (a : Addr) (ns : List Int), vs = [V.ref a] ∧ SqT K H a (ns.map V.int) ∧ 0 < ns.length ∧ ∀ m, m ∈ ns → (∀ y, y ∈ ns → m ≤ y) → Q (.int m) H
theorem tupHold {pins : List (Addr × Obj)} {σ : L2.St} {H : Hp} {s : Shared} (I : Inv X pins σ H s) {a : Addr} {xs : List V} (h : SqT X.K H a xs) : ∃ its, Vals xs its ∧ s.heap.IsTuple a its.toArray ∧ xs.length ≤ sizeLine := by
  obtain ⟨its, r, ⟨o, ho, hc, n, hd⟩, hz⟩ := I.tuple h
  exact ⟨its, r, ⟨o, ho, hc, n, hd⟩, hz⟩
theorem cr_sumT (hc : X.calm = true) : CallR X (.builtin "sum") (rSumT X.K) := fun {pins s σ H vs us Q} I r ⟨a, ns, e, hs, q⟩ => by
  subst e
  obtain ⟨its, rv, hl, _⟩ := tupHold I hs
  rw [Vals.ref1 r]
  exact sumT_raw (I.ok.hd hc) hl rv.ints fun h' tk t' hk => ⟨.int _, H, I.kept hk, ⟨_, rfl⟩, q⟩
theorem cr_maxT (hc : X.calm = true) : CallR X (.builtin "max") (rMaxT X.K) := fun {pins s σ H vs us Q} I r ⟨a, ns, e, hs, hne, q⟩ => by
  subst e
  obtain ⟨its, rv, hl, _⟩ := tupHold I hs
  rw [Vals.ref1 r]
  exact maxT_raw (I.ok.hd hc) hl rv.ints hne fun h' tk m t' hk h1 h2 => ⟨.int _, H, I.kept hk, ⟨_, rfl⟩, q m h1 h2⟩
theorem cr_minT (hc : X.calm = true) : CallR X (.builtin "min") (rMinT X.K) := fun {pins s σ H vs us Q} I r ⟨a, ns, e, hs, hne, q⟩ => by
  subst e
  obtain ⟨its, rv, hl, _⟩ := tupHold I hs
  rw [Vals.ref1 r]
  exact minT_raw (I.ok.hd hc) hl rv.ints hne fun h' tk m t' hk h1 h2 => ⟨.int _, H, I.kept hk, ⟨_, rfl⟩, q m h1 h2⟩
section
variable {prog : Program} {w : World} {A : Around} {E : Value → Shared → Prop} {s : Shared}
theorem collectT {l : Addr} {vs : List Value} {Q : List Value → Shared → Prop} (hl : s.heap.IsTuple l vs.toArray) (hsz : vs.length ≤ sizeLine)
    (h : Q vs { s with heap := (s.heap.push (seqObj "list" #[] 0)).update s.heap.objs.size (Obj.mapSeq (· ++ vs.toArray)) }) :
    wpAny (model prog w) A (collect (.ref l)) Q E s := by
  obtain ⟨ob, ho, hc, nn, hd⟩ := id hl
  unfold collect
  refine wpAny_bind (wpAny_runValue (codeAny_builtin entry_proto_collect' ?_))
  show wpAny _ _ (do again (.builtin "list.__iadd__" ⟨[← newList [], .ref l], []⟩)) _ _ s
  refine wpAny_bind (wpAny_newList (wpAny_pure ⟨Code.quiet_builtin _ (by decide +kernel), codeAny_builtin entry_list_iadd' ?_⟩))
  show wpAny _ _ (Builtin.List.listExtendWith (.ref s.heap.objs.size) (.ref l) (.ref s.heap.objs.size)) _ _ { s with heap := s.heap.push (seqObj "list" #[] 0) }
  unfold Builtin.List.listExtendWith
  have hob : (s.heap.push (seqObj "list" #[] 0)).get? l = some ob := Heap.get?_push_of_some _ ho
  refine wpAny_bind (wpAny_typeOf (T := "tuple") ⟨ob, hob, hc⟩ ?_)
  have hty : (Value.type "tuple" == Value.type "tuple") = true := by rfl
  rw [if_pos (by rw [hty]; simp)]
  refine wpAny_bind (listItems_at hob hd ?_)
  refine wpAny_bind (listItems_at (xs := #[]) (n := 0) (Heap.get?_push_size _ rfl) rfl ?_)
  rw [if_neg (by simp)]
  refine wpAny_bind (listUpdate_at (xs := #[]) (n := 0) (Heap.get?_push_size _ rfl) rfl ?_ (Nat.zero_le _) (by show (#[] ++ vs.toArray).size ≤ sizeLine + 1; simp only [Array.size_append, List.size_toArray, List.length_nil]; omega))
  refine wpAny_pure ?_
  show wpAny (model prog w) A (do
      let o ← load s.heap.objs.size
      match o.data with
      | .seq xs _ => pure xs.toList
      | _ => unsupported "internal:collect") Q E { s with heap := (s.heap.push (seqObj "list" #[] 0)).update s.heap.objs.size (Obj.mapSeq (· ++ vs.toArray)) }
  refine wpAny_bind (wpAny_load (get?_update_seq (Heap.get?_push_size _ rfl) _) ?_)
  show wpAny _ _ (pure ((#[] : Array Value) ++ vs.toArray).toList) Q E _
  have hlist : ((#[] : Array Value) ++ vs.toArray).toList = vs := by simp
  rw [hlist]
  exact wpAny_pure h
theorem sortedT_ord {l : Addr} {vs : List Value} {ltv : Value → Value → Bool} {Q : Value → Shared → Prop} (O : SrtO.Swo ltv) (hl : s.heap.IsTuple l vs.toArray) (hz : vs.length ≤ sizeLine)
    (hS : 2 ≤ vs.length → ∀ (h₁ : Heap) (a : Addr), h₁.get? a = some (seqObj "list" vs.toArray 0) → (∀ b o, s.heap.get? b = some o → b ≠ a ∧ h₁.get? b = some o) → SrtO.SortableO prog w A.in1.in1 { s with heap := h₁ } a vs ltv)
    (h : ∀ out : List Value, SrtO.Srtd ltv out → SrtO.Stb ltv out vs → Q (.ref (s.heap.objs.size + 1)) { s with heap := sortedAll s.heap vs out.toArray }) :
    wpAny (model prog w) A (call (.builtin "sorted") [.ref l]) Q E s := by
  refine Calls.call_function_entry kind_sorted plain_sorted entry_sorted (args_sorted1 _) ?_
  unfold Builtin.«sorted»
  refine wpAny_bind (m := checkCount "sorted" 1 1 _) (wpAny_pure ?_)
  refine wpAny_bind (collectT hl hz ?_)
  refine wpAny_bind (wpAny_newList ?_ hz)
  have h1 : ((s.heap.push (seqObj "list" #[] 0)).update s.heap.objs.size (Obj.mapSeq (· ++ vs.toArray))).objs.size = s.heap.objs.size + 1 := by
    rw [Heap.size_update, size_push']
  have h2 : (((s.heap.push (seqObj "list" #[] 0)).update s.heap.objs.size (Obj.mapSeq (· ++ vs.toArray))).push (seqObj "list" vs.toArray 0)).get? (s.heap.objs.size + 1) = some (seqObj "list" vs.toArray 0) := by
    rw [← h1]; exact Heap.get?_push_size _ rfl
  have h3 : ∀ b o, s.heap.get? b = some o → b ≠ s.heap.objs.size + 1 ∧ (((s.heap.push (seqObj "list" #[] 0)).update s.heap.objs.size (Obj.mapSeq (· ++ vs.toArray))).push (seqObj "list" vs.toArray 0)).get? b = some o := fun b o q => by
    have hb : b < s.heap.objs.size := Heap.lt_size q
    refine ⟨Nat.ne_of_lt (Nat.lt_succ_of_lt hb), Heap.get?_push_of_some _ ?_⟩
    rw [Heap.get?_update_ne _ _ _ _ (Nat.ne_of_lt hb)]
    exact Heap.get?_push_of_some _ q
  show wpAny _ _ _ _ _ { s with heap := ((s.heap.push (seqObj "list" #[] 0)).update s.heap.objs.size (Obj.mapSeq (· ++ vs.toArray))).push (seqObj "list" vs.toArray 0) }
  rw [h1]
  refine wpAny_bind (wpAny_holding (wpAny_call_entry slot_list_sort ⟨_, h2, rfl⟩ entry_list_sort (SrtO.list_sort_ord O h2 hz (fun g2 => hS g2 _ _ h2 h3) fun out hs hb => ⟨_, rfl, ?_⟩) (args_list_sort _)))
  exact wpAny_pure ⟨_, rfl, h out hs hb⟩
end
def rSortedIT (K : PySem.W.Frag) : List V → Hp → VK → Prop := fun vs H Q => ∃ (a : Addr) (ns : List Int), vs = [V.ref a] ∧ SqT K H a (ns.map V.int) ∧
  ∀ (ns' : List Int) (p : Addr), ns'.Perm ns → ns'.Pairwise (· ≤ ·) → H p = none → Q (.ref p) (upd H p (.lst (ns'.map V.int)))
theorem cr_sortedIT : CallR X (.builtin "sorted") (rSortedIT X.K) := fun {pins s σ H vs us Q} I r ⟨a, ns, e, hs, q⟩ => by
  subst e
  obtain ⟨its, rv, hl, hz⟩ := tupHold I hs
  rw [Vals.ref1 r]
  have hi := rv.ints
  refine sortedT_ord SrtO.swo_int hl (by rw [← rv.length]; exact hz) (fun g2 g a' _ _ => SrtO.ints_sortable hi g2) fun out g1 g2 => ?_
  obtain ⟨k1, k2, k3⟩ := SrtO.ints_out hi g1 g2
  obtain ⟨ep, he'⟩ := PyProof.Rows.sortedAll_at s.heap its out.toArray
  have hlen : ((out.map SrtO.iv).map V.int).length ≤ sizeLine := by
    rw [List.length_map] at hz ⊢
    rw [k2.length_eq]
    exact hz
  refine ⟨.ref _, upd H (s.heap.objs.size + 1) (.lst ((out.map SrtO.iv).map V.int)), I.laid (t' := s.toks) (fun _ _ => PyProof.Rows.sortedAll_old) (Nat.le_succ _) ?_, rfl, q _ _ k2 k3 (I.hok.fresh (Nat.le_succ _))⟩
  exact ⟨hlen, out, ep, vals_of_ints k1, he'⟩

/-! ### what these give by typed values -/
section
variable {K : Fg}
theorem intsT {B : Hp} {v : V} {x : List Int} (h : (tAll tInt).rep K B v x) : ∃ a, v = .ref a ∧ SqT K B a (x.map V.int) ∧ x.length ≤ sizeLine := by
  obtain ⟨a, vs, e, sq, r⟩ := h
  have e2 := P_ints (Pmap r.1 fun _ _ h => h)
  subst e2
  exact ⟨a, e, sq, r.2⟩
theorem intsL {B : Hp} {v : V} {x : List Int} (h : (tLst tInt).rep K B v x) : ∃ a, v = .ref a ∧ SqL K B a (x.map V.int) ∧ x.length ≤ sizeLine := by
  obtain ⟨a, vs, e, sq, r⟩ := h
  have e2 := P_ints (Pmap r.1 fun _ _ h => h)
  subst e2
  exact ⟨a, e, .inl (.inl sq), r.2⟩
theorem blsL {B : Hp} {v : V} {x : List Bool} (h : (tLst tBool).rep K B v x) : ∃ a, v = .ref a ∧ SqL K B a (x.map V.bl) := by
  obtain ⟨a, vs, e, sq, r⟩ := h
  have e2 := P_bls (Pmap r.1 fun _ _ h => h)
  subst e2
  exact ⟨a, e, .inl (.inl sq)⟩
theorem c_sumT : OpN K (rSumT K) (rOne (tAll tInt)) tInt fun x => some x.sum := fun {B H y z vs Q} s ⟨v, e1, h⟩ e q => by
  subst e1
  cases e
  obtain ⟨a, rfl, sq, _⟩ := intsT h
  exact ⟨a, y, rfl, s.seqT sq, q _ _ _ (gr0 s) rfl⟩
theorem c_sum : OpN K (rSum K) (rOne (tLst tInt)) tInt fun x => some x.sum := fun {B H y z vs Q} s ⟨v, e1, h⟩ e q => by
  subst e1
  cases e
  obtain ⟨a, rfl, sq, _⟩ := intsL h
  exact ⟨a, y, rfl, s.seqL sq, q _ _ _ (gr0 s) rfl⟩
theorem c_any : OpN K (rAny K) (rOne (tLst tBool)) tBool fun x => some (x.any id) := fun {B H y z vs Q} s ⟨v, e1, h⟩ e q => by
  subst e1
  cases e
  obtain ⟨a, rfl, sq⟩ := blsL h
  exact ⟨a, y, rfl, s.seqL sq, q _ _ _ (gr0 s) rfl⟩
theorem c_all : OpN K (L2.rAll K) (rOne (tLst tBool)) tBool fun x => some (x.all id) := fun {B H y z vs Q} s ⟨v, e1, h⟩ e q => by
  subst e1
  cases e
  obtain ⟨a, rfl, sq⟩ := blsL h
  exact ⟨a, y, rfl, s.seqL sq, q _ _ _ (gr0 s) rfl⟩
theorem max_one {xs : List Int} {m z : Int} (h : xs.max? = some z) (h1 : m ∈ xs) (h2 : ∀ y ∈ xs, y ≤ m) : m = z := by
  obtain ⟨g1, g2⟩ := List.max?_eq_some_iff.mp h
  have a := g2 m h1
  have b := h2 z g1
  omega
theorem min_one {xs : List Int} {m z : Int} (h : xs.min? = some z) (h1 : m ∈ xs) (h2 : ∀ y ∈ xs, m ≤ y) : m = z := by
  obtain ⟨g1, g2⟩ := List.min?_eq_some_iff.mp h
  have a := g2 m h1
  have b := h2 z g1
  omega
theorem max_len {xs : List Int} {z : Int} (h : xs.max? = some z) : 0 < xs.length := by
  cases xs with
  | nil => cases h
  | cons a l => exact Nat.succ_pos _
theorem min_len {xs : List Int} {z : Int} (h : xs.min? = some z) : 0 < xs.length := by
  cases xs with
  | nil => cases h
  | cons a l => exact Nat.succ_pos _
theorem c_maxT : OpN K (rMaxT K) (rOne (tAll tInt)) tInt fun x => x.max? := fun {B H y z vs Q} s ⟨v, e1, h⟩ e q => by
  subst e1
  obtain ⟨a, rfl, sq, _⟩ := intsT h
  exact ⟨a, y, rfl, s.seqT sq, max_len e, fun m h1 h2 => q _ _ _ (gr0 s) (congrArg V.int (max_one e h1 h2))⟩
theorem c_minT : OpN K (rMinT K) (rOne (tAll tInt)) tInt fun x => x.min? := fun {B H y z vs Q} s ⟨v, e1, h⟩ e q => by
  subst e1
  obtain ⟨a, rfl, sq, _⟩ := intsT h
  exact ⟨a, y, rfl, s.seqT sq, min_len e, fun m h1 h2 => q _ _ _ (gr0 s) (congrArg V.int (min_one e h1 h2))⟩
theorem c_maxL : OpN K (rMax K) (rOne (tLst tInt)) tInt fun x => x.max? := fun {B H y z vs Q} s ⟨v, e1, h⟩ e q => by
  subst e1
  obtain ⟨a, rfl, sq, _⟩ := intsL h
  exact ⟨a, y, rfl, s.seqL sq, max_len e, fun m h1 h2 => q _ _ _ (gr0 s) (congrArg V.int (max_one e h1 h2))⟩
theorem c_minL : OpN K (rMin K) (rOne (tLst tInt)) tInt fun x => x.min? := fun {B H y z vs Q} s ⟨v, e1, h⟩ e q => by
  subst e1
  obtain ⟨a, rfl, sq, _⟩ := intsL h
  exact ⟨a, y, rfl, s.seqL sq, min_len e, fun m h1 h2 => q _ _ _ (gr0 s) (congrArg V.int (min_one e h1 h2))⟩
def sortI (xs : List Int) : List Int := xs.mergeSort fun a b => decide (a ≤ b)
theorem sortI_perm (xs : List Int) : (sortI xs).Perm xs := List.mergeSort_perm xs _
theorem sortI_srt (xs : List Int) : (sortI xs).Pairwise (· ≤ ·) := by
  have h := List.pairwise_mergeSort (le := fun a b : Int => decide (a ≤ b)) (fun a b c h1 h2 => by simp only [decide_eq_true_eq] at *; omega) (fun a b => by simp only [Bool.or_eq_true, decide_eq_true_eq]; omega) xs
  exact h.imp fun h => by simpa using h
theorem sortI_eq {xs ys : List Int} (h : ys.Perm xs) (h2 : ys.Pairwise (· ≤ ·)) : ys = sortI xs :=
  List.Perm.eq_of_pairwise (fun a b _ _ h1 h2 => Int.le_antisymm h1 h2) h2 (sortI_srt xs) (h.trans (sortI_perm xs).symm)
theorem sortRow {B : Hp} {x : List Int} (h : x.length ≤ sizeLine) : (oLst tInt).rep K B (.lst ((sortI x).map V.int)) (sortI x) :=
  ⟨_, rfl, Pmap (P_ofInts _) fun _ _ h => h, by rw [(sortI_perm x).length_eq]; exact h⟩
theorem c_sortL : OpNO K (rSortedI K) (rOne (tLst tInt)) (oLst tInt) fun x => some (sortI x) := fun {B H y z vs Q} s ⟨v, e1, h⟩ e q => by
  subst e1
  cases e
  obtain ⟨a, rfl, sq, hl⟩ := intsL h
  refine ⟨a, y, rfl, s.seqL sq, fun ns p h1 h2 hp => ?_⟩
  rw [sortI_eq h1 h2]
  exact q p _ hp (sortRow hl)
theorem c_sortT : OpNO K (rSortedIT K) (rOne (tAll tInt)) (oLst tInt) fun x => some (sortI x) := fun {B H y z vs Q} s ⟨v, e1, h⟩ e q => by
  subst e1
  cases e
  obtain ⟨a, rfl, sq, hl⟩ := intsT h
  refine ⟨a, y, rfl, s.seqT sq, fun ns p h1 h2 hp => ?_⟩
  rw [sortI_eq h1 h2]
  exact q p _ hp (sortRow hl)
theorem o_isB : Op2 K (fun x y H Q => ∃ a b, x = .bl a ∧ y = .bl b ∧ Q (.bl (decide (a = b))) H) tBool tBool tBool fun x y => some (decide (x = y)) := fun {B H x y z v w Q} s hx hy e q => by
  cases e
  exact ⟨x, y, hx, hy, q _ _ _ (gr0 s) rfl⟩
theorem o_isnotB : Op2 K (fun x y H Q => ∃ a b, x = .bl a ∧ y = .bl b ∧ Q (.bl (!decide (a = b))) H) tBool tBool tBool fun x y => some (!decide (x = y)) := fun {B H x y z v w Q} s hx hy e q => by
  cases e
  exact ⟨x, y, hx, hy, q _ _ _ (gr0 s) rfl⟩
end
end
end L3

/-! L3: further words. -/
namespace L3
open PySem PySem.Spec PyProof.Rows L2
section
variable {X : Cx} {L : List Loc} {e a b : Expr} {elo ehi : Option Expr} {pos p2 : Pos}
/-- a written part of a tuple of unlike things -/
def CutN {β γ : Type} (R : Tys β) (R' : Tys γ) (lo hi : Option Int) (g : β → γ) : Prop := ∀ {K B vs x}, R.rep K B vs x → R'.rep K B (cutV vs lo hi) (g x)
theorem y_slN {β γ : Type} {R : Tys β} {R' : Tys γ} {lo hi : Option Int} {g : β → γ} {m : Mo L β} (hc : CutN R R' lo hi g) (he : PE X e (tE X.K L (tTup R) m)) (hl : PO X elo (tPt X.K L fun _ ρ k => k lo ρ)) (hh : PO X ehi (tPt X.K L fun _ ρ k => k hi ρ)) :
    PE X (.Subscript e (.Slice elo ehi none p2) pos) (tE X.K L (tTup R') fun ω ρ k => m ω ρ fun x ρ1 => k (g x) ρ1) := by
  refine pe_weak (pe_slice sl_tupA he hl hh) fun σ H Q ⟨F, B, ρ, ω, k, o, st, e1, q⟩ => ?_
  refine ⟨F, B, ρ, ω, _, o, st, e1, fun B1 v H1 x1 ρ1 s1 st1 r1 e2 => ⟨F, B1, ρ1, ω, fun x ρ2 => if x = lo then k (g x1) ρ2 else none, o, st1, by show (if lo = lo then k (g x1) ρ1 else none) = some o; rw [if_pos rfl]; exact e2, fun B2 H2 x2 ρ2 s2 st2 e3 => ?_⟩⟩
  by_cases q1 : x2 = lo
  case neg =>
    have e3 : (if x2 = lo then k (g x1) ρ2 else none) = some o := e3
    rw [if_neg q1] at e3
    cases e3
  have e3 : (if x2 = lo then k (g x1) ρ2 else none) = some o := e3
  rw [if_pos q1] at e3
  have e3' : k (g x1) ρ2 = some o := e3
  clear e3
  subst q1
  refine ⟨F, B2, ρ2, ω, fun x ρ3 => if x = hi then k (g x1) ρ3 else none, o, st2, by show (if hi = hi then k (g x1) ρ2 else none) = some o; rw [if_pos rfl]; exact e3', fun B3 H3 x3 ρ3 s3 st3 e4 => ?_⟩
  by_cases q2 : x3 = hi
  case neg =>
    have e4 : (if x3 = hi then k (g x1) ρ3 else none) = some o := e4
    rw [if_neg q2] at e4
    cases e4
  have e4 : (if x3 = hi then k (g x1) ρ3 else none) = some o := e4
  rw [if_pos q2] at e4
  have e4' : k (g x1) ρ3 = some o := e4
  subst q2
  obtain ⟨a, vs, rfl, sq, r⟩ := (tTup R).mono (s2.trans s3) r1
  have rc := hc r
  refine ⟨a, vs, rfl, st3.sb.seqT sq, fun hw => ?_, fun _ p hp => ?_⟩
  · have hv : cutV vs x2 x3 = vs := by
      unfold cutV
      rw [hw.1, hw.2, List.drop_zero, Nat.sub_zero, List.take_length]
    rw [hv] at rc
    exact q B3 _ H3 _ _ ((s1.trans s2).trans s3) st3 ⟨a, vs, rfl, sq, rc⟩ e4'
  · have gr := Grow.new (o := HO.tup (cutV vs x2 x3)) st3.sb hp
    exact q _ _ _ _ _ (((s1.trans s2).trans s3).trans gr.b) (st3.grow gr) ⟨p, _, rfl, .inl (.inl upd_same), R'.mono gr.b rc⟩ e4'
/-- t[:2] of three -/
theorem cut_02 {α β γ : Type} {T : Ty α} {U : Ty β} {W : Ty γ} : CutN (rCons T (rCons U (rOne W))) (rCons T (rOne U)) none (some 2) fun x => (x.1, x.2.1) := fun {K B vs x} ⟨v, r, e, h, w, r2, e2, k, z, e3, l⟩ => by
  subst e e2 e3
  exact ⟨v, [w], rfl, h, w, rfl, k⟩
end
end L3

/-! L3: plain facts of the mirrors' words. -/
namespace L3
open PySem
theorem loop_ix {β A R : Type} {f : β → A → Option (Out A A R)} {P : Nat → A → Prop} : ∀ (xs : List β) (i : Nat) (s : A), (∀ j x s, xs[j]? = some x → P (i + j) s → ∃ s', f x s = some (.nx s') ∧ P (i + j + 1) s') → P i s → ∃ s', loopM f xs s = some (.go s') ∧ P (i + xs.length) s'
  | [], i, s, _, h => ⟨s, rfl, h⟩
  | x :: xs, i, s, hs, h => by
    obtain ⟨s1, e, h1⟩ := hs 0 x s rfl h
    obtain ⟨s2, e2, h2⟩ := loop_ix (f := f) (P := P) xs (i + 1) s1 (fun j x s hx hp => by
      have := hs (j + 1) x s (by simpa using hx) (by rw [show i + (j + 1) = i + 1 + j by omega]; exact hp)
      rw [show i + (j + 1) + 1 = i + 1 + j + 1 by omega] at this
      exact this) h1
    refine ⟨s2, ?_, by rw [List.length_cons, show i + (xs.length + 1) = i + 1 + xs.length by omega]; exact h2⟩
    show (f x s).bind _ = _
    rw [e]
    exact e2
theorem loop_inv {β A R : Type} {f : β → A → Option (Out A A R)} {P : A → Prop} {xs : List β} {s : A} (hs : ∀ x ∈ xs, ∀ s, P s → ∃ s', f x s = some (.nx s') ∧ P s') (h : P s) : ∃ s', loopM f xs s = some (.go s') ∧ P s' := by
  obtain ⟨s', e, h'⟩ := loop_ix (P := fun _ => P) xs 0 s (fun j x s hx hp => hs x (List.mem_of_getElem? hx) s hp) h
  exact ⟨s', e, h'⟩
theorem loop_bind {β A R γ : Type} {f : β → A → Option (Out A A R)} {P : Nat → A → Prop} {xs : List β} {s : A} {K : Fin A R → Option γ} {r : Option γ} (hs : ∀ j x s, xs[j]? = some x → P j s → ∃ s', f x s = some (.nx s') ∧ P (j + 1) s') (h : P 0 s) (hk : ∀ s', P xs.length s' → K (.go s') = r) : (loopM f xs s).bind K = r := by
  obtain ⟨s', e, h'⟩ := loop_ix xs 0 s (fun j x s hx hp => by
    rw [Nat.zero_add] at hp ⊢
    exact hs j x s hx hp) h
  rw [e, Option.bind_some]
  rw [Nat.zero_add] at h'
  exact hk s' h'
theorem loop_ex {β A R γ τ : Type} {f : β → A → Option (Out A A R)} {P : A → Prop} {xs : List β} {s : A} {K : Fin A R → Option γ} {g : τ → γ} {Q : τ → Prop} (hs : ∀ x ∈ xs, ∀ s, P s → ∃ s', f x s = some (.nx s') ∧ P s') (h : P s) (hk : ∀ s', P s' → ∃ t, K (.go s') = some (g t) ∧ Q t) : ∃ t, (loopM f xs s).bind K = some (g t) ∧ Q t := by
  obtain ⟨s', e, h'⟩ := loop_inv hs h
  rw [e, Option.bind_some]
  exact hk s' h'
theorem loop_ex0 {β A R γ τ : Type} {f : β → A → Option (Out A A R)} {P : A → Prop} {xs : List β} {s : A} {K : Fin A R → Option γ} {g : τ → γ} (hs : ∀ x ∈ xs, ∀ s, P s → ∃ s', f x s = some (.nx s') ∧ P s') (h : P s) (hk : ∀ s', P s' → ∃ t, K (.go s') = some (g t)) : ∃ t, (loopM f xs s).bind K = some (g t) := by
  obtain ⟨s', e, h'⟩ := loop_inv hs h
  rw [e, Option.bind_some]
  exact hk s' h'
theorem loop_ixe {β A R γ τ : Type} {f : β → A → Option (Out A A R)} {P : Nat → A → Prop} {xs : List β} {s : A} {K : Fin A R → Option γ} {g : τ → γ} {Q : τ → Prop} (hs : ∀ j x s, xs[j]? = some x → P j s → ∃ s', f x s = some (.nx s') ∧ P (j + 1) s') (h : P 0 s) (hk : ∀ s', P xs.length s' → ∃ t, K (.go s') = some (g t) ∧ Q t) : ∃ t, (loopM f xs s).bind K = some (g t) ∧ Q t := by
  obtain ⟨s', e, h'⟩ := loop_ix xs 0 s (fun j x s hx hp => by
    rw [Nat.zero_add] at hp ⊢
    exact hs j x s hx hp) h
  rw [e, Option.bind_some]
  rw [Nat.zero_add] at h'
  exact hk s' h'
theorem any_fm {α : Type} {g : α → Option Bool} : ∀ xs : List α, (xs.filterMap g).any id = xs.any fun x => (g x).getD false
  | [] => rfl
  | x :: xs => by
    rw [List.filterMap_cons, List.any_cons, ← any_fm xs]
    cases g x <;> simp
theorem len_fm {α β : Type} {g : α → Option β} : ∀ xs : List α, decide (0 < ((xs.filterMap g).length : Int)) = xs.any fun x => (g x).isSome
  | [] => rfl
  | x :: xs => by
    rw [List.filterMap_cons, List.any_cons, ← len_fm xs]
    cases g x with
    | none => simp
    | some y => simp
theorem any_same {α : Type} {p q : α → Bool} {xs : List α} (h : ∀ x ∈ xs, p x = q x) : xs.any p = xs.any q := by
  induction xs with
  | nil => rfl
  | cons x xs ih => rw [List.any_cons, List.any_cons, h x (List.mem_cons_self ..), ih fun y m => h y (List.mem_cons_of_mem _ m)]
theorem mem_range' {n : Nat} {x : Int} (h : x ∈ (List.range n).map fun (i : Nat) => (i : Int)) : ∃ j : Nat, x = (j : Int) ∧ j < n := by
  obtain ⟨j, h1, h2⟩ := List.mem_map.mp h
  exact ⟨j, h2.symm, List.mem_range.mp h1⟩
theorem ix_range {n j : Nat} {x : Int} (h : ((List.range n).map fun (i : Nat) => (i : Int))[j]? = some x) : x = (j : Int) ∧ j < n := by
  obtain ⟨h1, h2⟩ := List.getElem?_eq_some_iff.mp h
  have h3 : j < n := by simpa using h1
  exact ⟨by simpa using h2.symm, h3⟩
theorem comp_pure {β A γ : Type} {f : β → A → Option (Option γ × A)} {g : β → Option γ} {s : A} : ∀ (xs : List β), (∀ x ∈ xs, f x s = some (g x, s)) → compM f xs s = some (xs.filterMap g, s)
  | [], _ => rfl
  | x :: xs, h => by
    show (f x s).bind _ = _
    rw [h x (List.mem_cons_self ..), Option.bind_some, comp_pure xs fun y hy => h y (List.mem_cons_of_mem _ hy)]
    cases e : g x <;> simp [List.filterMap_cons, e]
theorem comp_inv {β A γ : Type} {f : β → A → Option (Option γ × A)} {P : A → Prop} {C : γ → Prop} : ∀ (xs : List β) (s : A), (∀ x ∈ xs, ∀ s, P s → ∃ y s', f x s = some (some y, s') ∧ P s' ∧ C y) → P s → ∃ ys s', compM f xs s = some (ys, s') ∧ P s' ∧ (∀ y ∈ ys, C y) ∧ ys.length = xs.length
  | [], s, _, h => ⟨[], s, rfl, h, (by intro y m; cases m), rfl⟩
  | x :: xs, s, hs, h => by
    obtain ⟨y, s1, e, h1, c⟩ := hs x (List.mem_cons_self ..) s h
    obtain ⟨ys, s2, e2, h2, c2, l⟩ := comp_inv (f := f) (P := P) (C := C) xs s1 (fun z hz => hs z (List.mem_cons_of_mem _ hz)) h1
    refine ⟨y :: ys, s2, ?_, h2, ?_, by simp [l]⟩
    · show (f x s).bind _ = _
      rw [e, Option.bind_some]
      dsimp only
      rw [e2]
      rfl
    · intro z m
      rcases List.mem_cons.mp m with rfl | m
      · exact c
      · exact c2 z m
theorem comp_ex {β A γ δ τ : Type} {f : β → A → Option (Option γ × A)} {P : A → Prop} {C : γ → Prop} {xs : List β} {s : A} {K : List γ × A → Option δ} {g : τ → δ} {Q : τ → Prop} (hs : ∀ x ∈ xs, ∀ s, P s → ∃ y s', f x s = some (some y, s') ∧ P s' ∧ C y) (h : P s)
    (hk : ∀ ys s', ys.length = xs.length → (∀ y ∈ ys, C y) → P s' → ∃ t, K (ys, s') = some (g t) ∧ Q t) : ∃ t, (compM f xs s).bind K = some (g t) ∧ Q t := by
  obtain ⟨ys, s', e, h1, h2, h3⟩ := comp_inv xs s hs h
  rw [e, Option.bind_some]
  exact hk ys s' h3 h2 h1
theorem rng1_nat {n : Nat} (h : n ≤ 4000000000) : rng1 (n : Int) = some ((List.range n).map fun (i : Nat) => (i : Int)) := by
  rw [rng1_eq, if_pos (by omega)]
  unfold rangeL
  rw [Int.sub_zero, Int.toNat_natCast]
  congr 2
  funext i
  omega
theorem getI_at {α : Type} {xs : List α} {i : Nat} (h : i < xs.length) : getI xs (i : Int) = some xs[i] := by
  unfold getI
  rw [if_pos (by omega), Int.toNat_natCast, List.getElem?_eq_getElem h]
theorem getI_ok {α : Type} {xs : List α} {i : Int} (h : 0 ≤ i) (h2 : i < xs.length) : ∃ y, getI xs i = some y ∧ y ∈ xs := by
  obtain ⟨n, rfl⟩ := Int.eq_ofNat_of_zero_le h
  have hn : n < xs.length := by omega
  exact ⟨_, getI_at hn, List.getElem_mem hn⟩
theorem getI_last {α : Type} {xs : List α} {y : α} : getI (xs ++ [y]) (-1) = some y := by
  unfold getI
  rw [if_neg (by omega), if_pos (by simp; omega)]
  have : (-1 + ((xs ++ [y]).length : Int)).toNat = xs.length := by simp; omega
  rw [this]
  simp
theorem modC_ok {x y : Int} (h : 0 < y) : ∃ r, modC x y = some r ∧ 0 ≤ r ∧ r < y := ⟨_, by unfold modC; rw [if_pos h], Int.emod_nonneg _ (by omega), Int.emod_lt_of_pos _ h⟩
theorem mulC_ok {x y : Int} (h : y.natAbs < 2 ^ 64) : mulC x y = some (x * y) := by
  rw [mulC_eq, if_pos (by simp [mulOk, h])]
theorem mulC_ok' {x y : Int} (h : x.natAbs < 2 ^ 64) : mulC x y = some (x * y) := by
  rw [mulC_eq, if_pos (by simp [mulOk, h])]
theorem small9000 {y : Int} (h : y < 2 ^ 64) (h0 : 0 < y) : y.natAbs < 2 ^ 9000 := by
  refine Nat.lt_of_lt_of_le (m := 2 ^ 64) (by omega) (Nat.pow_le_pow_right (by omega) (by omega))
theorem divC_ok {x y : Int} (h0 : 0 < y) (h : y < 2 ^ 64) : divC x y = some (x / y) := by
  rw [divC_eq, if_pos ⟨h0, small9000 h h0⟩]
theorem appC_ok {α : Type} {xs : List α} {y : α} (h : xs.length < 16777216) : appC xs y = some ((), xs ++ [y]) := by
  unfold appC
  rw [if_pos h]
theorem catC_ok {α : Type} {xs ys : List α} (h : xs.length + ys.length ≤ 16777216) : catC xs ys = some (xs ++ ys) := by
  unfold catC
  rw [if_pos h]
theorem setC_ok {α : Type} {xs : List α} {i : Int} {y : α} (h : 0 ≤ i) (h2 : i < xs.length) : ∃ zs, setC xs i y = some zs ∧ zs.length = xs.length := by
  refine ⟨xs.set i.toNat y, ?_, List.length_set ..⟩
  unfold setC L2.ixN
  rw [if_pos h, if_pos h2]
  rfl
theorem popC_ok {xs : List Int} (h : xs ≠ []) : ∃ y ys, popC xs () = some (y, ys) := ⟨_, _, by unfold popC; rw [List.getLast?_eq_some_getLast h]; rfl⟩
theorem loop_hit {β A R γ : Type} {f : β → A → Option (Out A A R)} {P : A → Prop} {y : β} {post : List β} {r : R} {K : Fin A R → Option γ} : ∀ (pre : List β) {xs : List β} {s : A}, xs = pre ++ y :: post → (∀ x ∈ pre, ∀ s, P s → ∃ s', f x s = some (.nx s') ∧ P s') → P s → (∀ s, P s → f y s = some (.rt r)) → (loopM f xs s).bind K = K (.rt r)
  | [], xs, s, e, _, h, hy => by
    subst e
    show Option.bind ((f y s).bind _) K = _
    rw [hy s h]
    rfl
  | x :: pre, xs, s, e, hs, h, hy => by
    subst e
    obtain ⟨s1, e1, h1⟩ := hs x (List.mem_cons_self ..) s h
    show Option.bind ((f x s).bind _) K = _
    rw [e1]
    exact loop_hit pre rfl (fun z m => hs z (List.mem_cons_of_mem _ m)) h1 hy
theorem mem_rangeL {lo hi x : Int} (h : x ∈ rangeL lo hi) : lo ≤ x ∧ x < hi := by
  unfold rangeL at h
  obtain ⟨i, hi, rfl⟩ := List.mem_map.mp h
  have := List.mem_range.mp hi
  omega
theorem rangeL_cons {lo hi : Int} (h : lo < hi) : rangeL lo hi = lo :: rangeL (lo + 1) hi := by
  unfold rangeL
  rw [show (hi - lo).toNat = (hi - (lo + 1)).toNat + 1 by omega, List.range_succ_eq_map, List.map_cons, List.map_map]
  congr 1
  · omega
  · refine List.map_congr_left fun i _ => ?_
    simp only [Function.comp]
    omega
theorem rangeL_split : ∀ (n : Nat) {lo m hi : Int}, (m - lo).toNat = n → lo ≤ m → m < hi → rangeL lo hi = rangeL lo m ++ m :: rangeL (m + 1) hi
  | 0, lo, m, hi, hn, h1, h2 => by
    have e : m = lo := by omega
    subst e
    rw [rangeL_cons h2]
    unfold rangeL
    simp
  | n + 1, lo, m, hi, hn, h1, h2 => by
    rw [rangeL_cons (show lo < hi by omega), rangeL_cons (show lo < m by omega), rangeL_split n (lo := lo + 1) (by omega) (by omega) h2]
    rfl
theorem rng1_L {n : Int} (h : -(2 ^ 62) ≤ n) (h2 : n < 2 ^ 62) : rng1 n = some (rangeL 0 n) := by
  rw [rng1_eq, if_pos ⟨h, h2⟩]
end L3

namespace Wk17
open PySem PySem.Spec PyProof.Rows L2 L3
def topS (i : Nat) : Stmt := PySem.Challenge.pw_sentintime_k17_whole_never_twice_in_any.main.body.getD i (.Pass ⟨0, 0, 0, 0⟩)
abbrev s_planned : Stmt := topS 1
abbrev s_known_by : Stmt := topS 2
abbrev s_sent_minutes : Stmt := topS 3
abbrev s_is_twice : Stmt := topS 4
abbrev s_first_later : Stmt := topS 5
abbrev s_never_twice : Stmt := topS 6
abbrev s_twice_course : Stmt := topS 7
abbrev s_most_sent : Stmt := topS 8
abbrev s_all_sent_by : Stmt := topS 9
abbrev s_waits_for : Stmt := topS 10
abbrev s_law_draws : Stmt := topS 12
abbrev s_law_take : Stmt := topS 13
abbrev s_law_cell : Stmt := topS 14
abbrev s_law_same : Stmt := topS 15
abbrev s_law_every : Stmt := topS 16
abbrev s_law_is_twice : Stmt := topS 17
abbrev s_law_least : Stmt := topS 18
abbrev s_law_small_right : Stmt := topS 19
abbrev s_law_great_right : Stmt := topS 20
abbrev s_law : Stmt := topS 21
/-- what the top leaves: where each def stands, that the built-ins are what they are -/
structure Txt (K : Fg) (mg : Str → Option Value) where
  (a_planned : Addr) (d_planned : FuncData) (F_planned : Fun K "planned" "planned" s_planned a_planned d_planned) (m_planned : mg "planned" = some (.ref a_planned)) (b_planned : Binds K d_planned ["waits"] [])
  (a_known_by : Addr) (d_known_by : FuncData) (F_known_by : Fun K "known_by" "known_by" s_known_by a_known_by d_known_by) (m_known_by : mg "known_by" = some (.ref a_known_by)) (b_known_by : Binds K d_known_by ["read", "late"] [])
  (a_sent_minutes : Addr) (d_sent_minutes : FuncData) (F_sent_minutes : Fun K "sent_minutes" "sent_minutes" s_sent_minutes a_sent_minutes d_sent_minutes) (m_sent_minutes : mg "sent_minutes" = some (.ref a_sent_minutes)) (b_sent_minutes : Binds K d_sent_minutes ["waits", "read", "late"] [])
  (a_is_twice : Addr) (d_is_twice : FuncData) (F_is_twice : Fun K "is_twice" "is_twice" s_is_twice a_is_twice d_is_twice) (m_is_twice : mg "is_twice" = some (.ref a_is_twice)) (b_is_twice : Binds K d_is_twice ["waits", "read", "late"] [])
  (a_first_later : Addr) (d_first_later : FuncData) (F_first_later : Fun K "first_later" "first_later" s_first_later a_first_later d_first_later) (m_first_later : mg "first_later" = some (.ref a_first_later)) (b_first_later : Binds K d_first_later ["waits"] [])
  (a_never_twice : Addr) (d_never_twice : FuncData) (F_never_twice : Fun K "never_twice" "never_twice" s_never_twice a_never_twice d_never_twice) (m_never_twice : mg "never_twice" = some (.ref a_never_twice)) (b_never_twice : Binds K d_never_twice ["waits", "lag"] [])
  (a_twice_course : Addr) (d_twice_course : FuncData) (F_twice_course : Fun K "twice_course" "twice_course" s_twice_course a_twice_course d_twice_course) (m_twice_course : mg "twice_course" = some (.ref a_twice_course)) (b_twice_course : Binds K d_twice_course ["waits", "lag"] [])
  (a_most_sent : Addr) (d_most_sent : FuncData) (F_most_sent : Fun K "most_sent" "most_sent" s_most_sent a_most_sent d_most_sent) (m_most_sent : mg "most_sent" = some (.ref a_most_sent)) (b_most_sent : Binds K d_most_sent ["waits", "lag", "minute"] [])
  (a_all_sent_by : Addr) (d_all_sent_by : FuncData) (F_all_sent_by : Fun K "all_sent_by" "all_sent_by" s_all_sent_by a_all_sent_by d_all_sent_by) (m_all_sent_by : mg "all_sent_by" = some (.ref a_all_sent_by)) (b_all_sent_by : Binds K d_all_sent_by ["waits"] [])
  (a_waits_for : Addr) (d_waits_for : FuncData) (F_waits_for : Fun K "waits_for" "waits_for" s_waits_for a_waits_for d_waits_for) (m_waits_for : mg "waits_for" = some (.ref a_waits_for)) (b_waits_for : Binds K d_waits_for ["n", "last"] [])
  (a_law_draws : Addr) (d_law_draws : FuncData) (F_law_draws : Fun K "_law_draws" "_law_draws" s_law_draws a_law_draws d_law_draws) (m_law_draws : mg "_law_draws" = some (.ref a_law_draws)) (b_law_draws : Binds K d_law_draws ["script", "many"] [])
  (a_law_take : Addr) (d_law_take : FuncData) (F_law_take : Fun K "_law_take" "_law_take" s_law_take a_law_take d_law_take) (m_law_take : mg "_law_take" = some (.ref a_law_take)) (b_law_take : Binds K d_law_take ["draws", "many"] [])
  (a_law_cell : Addr) (d_law_cell : FuncData) (F_law_cell : Fun K "_law_cell" "_law_cell" s_law_cell a_law_cell d_law_cell) (m_law_cell : mg "_law_cell" = some (.ref a_law_cell)) (b_law_cell : Binds K d_law_cell ["script", "at"] [])
  (a_law_same : Addr) (d_law_same : FuncData) (F_law_same : Fun K "_law_same" "_law_same" s_law_same a_law_same d_law_same) (m_law_same : mg "_law_same" = some (.ref a_law_same)) (b_law_same : Binds K d_law_same ["actual", "due"] [])
  (a_law_every : Addr) (d_law_every : FuncData) (F_law_every : Fun K "_law_every" "_law_every" s_law_every a_law_every d_law_every) (m_law_every : mg "_law_every" = some (.ref a_law_every)) (b_law_every : Binds K d_law_every ["waits"] [])
  (a_law_is_twice : Addr) (d_law_is_twice : FuncData) (F_law_is_twice : Fun K "_law_is_twice" "_law_is_twice" s_law_is_twice a_law_is_twice d_law_is_twice) (m_law_is_twice : mg "_law_is_twice" = some (.ref a_law_is_twice)) (b_law_is_twice : Binds K d_law_is_twice ["waits", "machine", "minute", "late"] [])
  (a_law_least : Addr) (d_law_least : FuncData) (F_law_least : Fun K "_law_least" "_law_least" s_law_least a_law_least d_law_least) (m_law_least : mg "_law_least" = some (.ref a_law_least)) (b_law_least : Binds K d_law_least ["waits", "lag"] [])
  (a_law_small_right : Addr) (d_law_small_right : FuncData) (F_law_small_right : Fun K "_law_small_right" "_law_small_right" s_law_small_right a_law_small_right d_law_small_right) (m_law_small_right : mg "_law_small_right" = some (.ref a_law_small_right)) (b_law_small_right : Binds K d_law_small_right ["draws", "waits", "lag"] [])
  (a_law_great_right : Addr) (d_law_great_right : FuncData) (F_law_great_right : Fun K "_law_great_right" "_law_great_right" s_law_great_right a_law_great_right d_law_great_right) (m_law_great_right : mg "_law_great_right" = some (.ref a_law_great_right)) (b_law_great_right : Binds K d_law_great_right ["draws", "script", "waits", "lag"] [])
  (a_law : Addr) (d_law : FuncData) (F_law : Fun K "law" "law" s_law a_law d_law) (m_law : mg "law" = some (.ref a_law)) (b_law : Binds K d_law ["script"] [])
  (n_abs : mg "abs" = none)
  (n_any : mg "any" = none)
  (n_bool : mg "bool" = none)
  (n_int : mg "int" = none)
  (n_isinstance : mg "isinstance" = none)
  (n_len : mg "len" = none)
  (n_list : mg "list" = none)
  (n_max : mg "max" = none)
  (n_min : mg "min" = none)
  (n_range : mg "range" = none)
  (n_str : mg "str" = none)
  (n_sum : mg "sum" = none)
  (n_tuple : mg "tuple" = none)
theorem sc_planned : FnScope ["waits", "found", "wait"] ["waits"] (defScope s_planned) := ⟨rfl, rfl, rfl, by decide +kernel, rfl, by decide +kernel, by decide +kernel⟩
abbrev L_planned_0 : List L3.Loc := [lImm (tAll tInt), lNone, lNone]
abbrev L_planned_1 : List L3.Loc := [lImm (tAll tInt), lImm (tAll tInt), lNone]
abbrev L_planned_2 : List L3.Loc := [lImm (tAll tInt), lImm (tAll tInt), lImm tInt]
set_option maxHeartbeats 8000000 in
/-- def planned(waits): -/
noncomputable def D_planned : { m : Ms (L_planned_0) [] [] (rsT (tAll tInt)) // ∀ {P : Program} {w : World} {K : Fg} {mg : Str → Option Value} {base : Heap} (T : Txt K mg) (cdv : Value) (A : Around) (outer : List PySem.Env) (s : Shared) (H : Hp) (E : XK), Room 0 (A.deeper (envOfC "planned" (defScope s_planned) s.heap.objs.size T.a_planned cdv)) →
    PSs (cxOf CX0 P w K mg base ["waits", "found", "wait"] "planned" (defScope s_planned) T.a_planned cdv A outer s H E).nox (defBody s_planned) (tS K (L_planned_0) [] [] (rsT (tAll tInt)) (m)) } :=
  ⟨_, fun {P w K mg base} T cdv A outer s H E hr =>
    have h : PSs (cxOf CX0 P w K mg base ["waits", "found", "wait"] "planned" (defScope s_planned) T.a_planned cdv A outer s H E).nox (defBody s_planned) (tS K (L_planned_0) [] [] (rsT (tAll tInt)) _) :=
    (y_cons (La := L_planned_1) (y_asg (.s .z) sc_planned.nd rfl (by first | exact .inl rfl | exact .inr rfl) (y_tupA (a_consA y_int a_nilA)))
      (y_cons (La := L_planned_1) (y_for (vs := [2]) (Lb := L_planned_2) PassesOwn.never rfl (i_tup (v_ .z)) (g_name (i := 2) (.s (.s .z)) (by exact sc_planned.nd) rfl (by first | exact .inl rfl | exact .inr rfl))
       (y_cons (La := L_planned_2) (y_aug (.s .z) (.s .z) iop_catA o_catT sc_planned.nd rfl (by first | exact .inl rfl | exact .inr rfl) (y_tupA (a_consA (y_binT op_add o_add (y_ix ix_tup ix_t (v_ (.s .z)) (y_un un_neg o_neg y_int)) (v_ (.s (.s .z)))) a_nilA)))
      (y_fg (La := L_planned_1) (.s (.s .z)) y_nil)))
      (y_one (y_ret (v_ (.s .z))))))
    (by exact h)⟩
noncomputable def m_planned (y : (List Int)) : Option (List Int) := D_planned.1 _ ((y, (), (), ()) : Env L_planned_0) retO
theorem ok_planned {P : Program} {w : World} {K : Fg} {mg : Str → Option Value} {base : Heap} (T : Txt K mg) : FnOk P w K mg base CX0 1 T.a_planned T.d_planned ["waits"] (spP K (rOne (tAll tInt)) (tAll tInt) m_planned) :=
  fnP (k := 0) (L := L_planned_0) (L' := []) (m := D_planned.1) (fun y => (y, (), (), ())) T.F_planned sc_planned hs1 (pars1 (n := 2) rfl) (fun _ => rfl) (fun cdv A outer s H E hr => D_planned.2 T cdv A outer s H E hr)
theorem sc_known_by : FnScope ["read", "late"] ["read", "late"] (defScope s_known_by) := ⟨rfl, rfl, rfl, by decide +kernel, rfl, by decide +kernel, by decide +kernel⟩
abbrev L_known_by_0 : List L3.Loc := [lImm (tOpt (tTup (rCons tInt (rOne tInt)))), lImm tInt]
set_option maxHeartbeats 8000000 in
/-- def known_by(read, late): -/
noncomputable def D_known_by : { m : Ms (L_known_by_0) [] [] (rsT (tOpt tInt)) // ∀ {P : Program} {w : World} {K : Fg} {mg : Str → Option Value} {base : Heap} (T : Txt K mg) (cdv : Value) (A : Around) (outer : List PySem.Env) (s : Shared) (H : Hp) (E : XK), Room 0 (A.deeper (envOfC "known_by" (defScope s_known_by) s.heap.objs.size T.a_known_by cdv)) →
    PSs (cxOf CX0 P w K mg base ["read", "late"] "known_by" (defScope s_known_by) T.a_known_by cdv A outer s H E).nox (defBody s_known_by) (tS K (L_known_by_0) [] [] (rsT (tOpt tInt)) (m)) } :=
  ⟨_, fun {P w K mg base} T cdv A outer s H E hr =>
    have h : PSs (cxOf CX0 P w K mg base ["read", "late"] "known_by" (defScope s_known_by) T.a_known_by cdv A outer s H E).nox (defBody s_known_by) (tS K (L_known_by_0) [] [] (rsT (tOpt tInt)) _) :=
    (y_one (y_ret (y_ifE (y_isNT (v_ .z)) y_none (y_some rfl (y_binT op_add o_add (y_ixN ix_tup (ix_n n1) (y_unw (v_ .z))) (v_ (.s .z)))))))
    (by exact h)⟩
noncomputable def m_known_by (y : (Option (Int × Int)) × Int) : Option (Option Int) := D_known_by.1 _ ((y.1, y.2, ()) : Env L_known_by_0) retO
theorem ok_known_by {P : Program} {w : World} {K : Fg} {mg : Str → Option Value} {base : Heap} (T : Txt K mg) : FnOk P w K mg base CX0 1 T.a_known_by T.d_known_by ["read", "late"] (spP K (rCons (tOpt (tTup (rCons tInt (rOne tInt)))) (rOne tInt)) (tOpt tInt) m_known_by) :=
  fnP (k := 0) (L := L_known_by_0) (L' := []) (m := D_known_by.1) (fun y => (y.1, y.2, ())) T.F_known_by sc_known_by hs2 (pars2 (n := 0) rfl) (fun _ => rfl) (fun cdv A outer s H E hr => D_known_by.2 T cdv A outer s H E hr)
theorem sc_sent_minutes : FnScope ["waits", "read", "late", "known", "minute"] ["waits", "read", "late"] (defScope s_sent_minutes) := ⟨rfl, rfl, rfl, by decide +kernel, rfl, by decide +kernel, by decide +kernel⟩
abbrev L_sent_minutes_0 : List L3.Loc := [lImm (tAll tInt), lImm (tOpt (tTup (rCons tInt (rOne tInt)))), lImm tInt, lNone, lNone]
abbrev L_sent_minutes_1 : List L3.Loc := [lImm (tAll tInt), lImm (tOpt (tTup (rCons tInt (rOne tInt)))), lImm tInt, lImm (tOpt tInt), lNone]
abbrev L_sent_minutes_2 : List L3.Loc := [lImm (tAll tInt), lImm (tOpt (tTup (rCons tInt (rOne tInt)))), lImm tInt, lImm (tOpt tInt), lImm tInt]
set_option maxHeartbeats 8000000 in
/-- def sent_minutes(waits, read, late): -/
noncomputable def D_sent_minutes : { m : Ms (L_sent_minutes_0) [] [] (rsT (tAll tInt)) // ∀ {P : Program} {w : World} {K : Fg} {mg : Str → Option Value} {base : Heap} (T : Txt K mg) (cdv : Value) (A : Around) (outer : List PySem.Env) (s : Shared) (H : Hp) (E : XK), Room 1 (A.deeper (envOfC "sent_minutes" (defScope s_sent_minutes) s.heap.objs.size T.a_sent_minutes cdv)) →
    PSs (cxOf CX0 P w K mg base ["waits", "read", "late", "known", "minute"] "sent_minutes" (defScope s_sent_minutes) T.a_sent_minutes cdv A outer s H E).nox (defBody s_sent_minutes) (tS K (L_sent_minutes_0) [] [] (rsT (tAll tInt)) (m)) } :=
  ⟨_, fun {P w K mg base} T cdv A outer s H E hr =>
    have h : PSs (cxOf CX0 P w K mg base ["waits", "read", "late", "known", "minute"] "sent_minutes" (defScope s_sent_minutes) T.a_sent_minutes cdv A outer s H E).nox (defBody s_sent_minutes) (tS K (L_sent_minutes_0) [] [] (rsT (tAll tInt)) _) :=
    (y_cons (La := L_sent_minutes_1) (y_asg (.s (.s (.s .z))) sc_sent_minutes.nd rfl (by first | exact .inl rfl | exact .inr rfl) (y_call (ok_known_by T) (hr.mono (by decide)) (by rfl) T.m_known_by T.F_known_by.kp T.b_known_by (a_cons (v_ (.s .z)) (a_one (v_ (.s (.s .z)))))))
      (y_one (y_ret (y_cT call_tuple_of c_tuple (by rfl) T.n_tuple (by decide +kernel) (a_one (y_fz (O := (oLst tInt)) (y_comp (own := [("minute", 4)]) (vs := [4]) (ws := [4]) (Lw := L_sent_minutes_1) (Lb := L_sent_minutes_2) (.keep (by decide) (.keep (by decide) (.keep (by decide) (.keep (by decide) (.non .nil))))) (.keep (by decide) (.keep (by decide) (.keep (by decide) (.keep (by decide) (.imm .nil))))) rfl (by decide) rfl sc_sent_minutes.nd (i_tup (y_call (ok_planned T) (hr.mono (by decide)) (by rfl) T.m_planned T.F_planned.kp T.b_planned (a_one (v_ .z)))) (blkOk_by (own := [("minute", 4)]) (N := ["waits", "read", "late", "known", "minute"]) (sc := defScope s_sent_minutes) (by decide +kernel)) (fun _ _ _ _ _ => (g_name (i := 4) (.s (.s (.s (.s .z)))) (by exact sc_sent_minutes.nd) rfl (by first | exact .inl rfl | exact .inr rfl))) (fun _ _ _ _ _ => (t_one (PW.pt (y_or (y_isNT (v_ (.s (.s (.s .z))))) (y_or1 (y_cmpT op_lt o_lt (v_ (.s (.s (.s (.s .z))))) (y_unw (v_ (.s (.s (.s .z))))) (nomark _))))))) (fun _ _ _ _ _ => (v_ (.s (.s (.s (.s .z)))))))))))))
    (by exact h)⟩
noncomputable def m_sent_minutes (y : (List Int) × (Option (Int × Int)) × Int) : Option (List Int) := D_sent_minutes.1 _ ((y.1, y.2.1, y.2.2, (), (), ()) : Env L_sent_minutes_0) retO
theorem ok_sent_minutes {P : Program} {w : World} {K : Fg} {mg : Str → Option Value} {base : Heap} (T : Txt K mg) : FnOk P w K mg base CX0 2 T.a_sent_minutes T.d_sent_minutes ["waits", "read", "late"] (spP K (rCons (tAll tInt) (rCons (tOpt (tTup (rCons tInt (rOne tInt)))) (rOne tInt))) (tAll tInt) m_sent_minutes) :=
  fnP (k := 1) (L := L_sent_minutes_0) (L' := []) (m := D_sent_minutes.1) (fun y => (y.1, y.2.1, y.2.2, (), (), ())) T.F_sent_minutes sc_sent_minutes hs3 (pars3 (n := 2) rfl) (fun _ => rfl) (fun cdv A outer s H E hr => D_sent_minutes.2 T cdv A outer s H E hr)
theorem sc_is_twice : FnScope ["waits", "read", "late", "machine", "minute", "sent", "other"] ["waits", "read", "late"] (defScope s_is_twice) := ⟨rfl, rfl, rfl, by decide +kernel, rfl, by decide +kernel, by decide +kernel⟩
abbrev L_is_twice_0 : List L3.Loc := [lImm (tAll tInt), lImm (tOpt (tTup (rCons tInt (rOne tInt)))), lImm tInt, lNone, lNone, lNone, lNone]
abbrev L_is_twice_1 : List L3.Loc := [lImm (tAll tInt), lImm (tOpt (tTup (rCons tInt (rOne tInt)))), lImm tInt, lImm tInt, lNone, lNone, lNone]
abbrev L_is_twice_2 : List L3.Loc := [lImm (tAll tInt), lImm (tOpt (tTup (rCons tInt (rOne tInt)))), lImm tInt, lImm tInt, lImm tInt, lNone, lNone]
abbrev L_is_twice_3 : List L3.Loc := [lImm (tAll tInt), lImm (tOpt (tTup (rCons tInt (rOne tInt)))), lImm tInt, lImm tInt, lImm tInt, lImm (tAll tInt), lNone]
abbrev L_is_twice_4 : List L3.Loc := [lImm (tAll tInt), lImm (tOpt (tTup (rCons tInt (rOne tInt)))), lImm tInt, lImm tInt, lImm tInt, lImm (tAll tInt), lImm tInt]
set_option maxHeartbeats 8000000 in
/-- def is_twice(waits, read, late): -/
noncomputable def D_is_twice : { m : Ms (L_is_twice_0) [] [] (rsT tBool) // ∀ {P : Program} {w : World} {K : Fg} {mg : Str → Option Value} {base : Heap} (T : Txt K mg) (cdv : Value) (A : Around) (outer : List PySem.Env) (s : Shared) (H : Hp) (E : XK), Room 2 (A.deeper (envOfC "is_twice" (defScope s_is_twice) s.heap.objs.size T.a_is_twice cdv)) →
    PSs (cxOf CX0 P w K mg base ["waits", "read", "late", "machine", "minute", "sent", "other"] "is_twice" (defScope s_is_twice) T.a_is_twice cdv A outer s H E).nox (defBody s_is_twice) (tS K (L_is_twice_0) [] [] (rsT tBool) (m)) } :=
  ⟨_, fun {P w K mg base} T cdv A outer s H E hr =>
    have h : PSs (cxOf CX0 P w K mg base ["waits", "read", "late", "machine", "minute", "sent", "other"] "is_twice" (defScope s_is_twice) T.a_is_twice cdv A outer s H E).nox (defBody s_is_twice) (tS K (L_is_twice_0) [] [] (rsT tBool) _) :=
    (y_cons (La := L_is_twice_0) (y_if (y_isNT (v_ (.s .z)))
       (y_one (y_ret y_bl))
       y_nil)
      (y_cons (La := L_is_twice_2) (y_asgG (g_tup rfl (gs_cons (La := L_is_twice_1) (g_name (i := 3) (.s (.s (.s .z))) (by exact sc_is_twice.nd) rfl (by first | exact .inl rfl | exact .inr rfl)) (gs_one (g_name (i := 4) (.s (.s (.s (.s .z)))) (by exact sc_is_twice.nd) rfl (by first | exact .inl rfl | exact .inr rfl)))) rl2) (y_unw (v_ (.s .z))))
      (y_cons (La := L_is_twice_3) (y_asg (.s (.s (.s (.s (.s .z))))) sc_is_twice.nd rfl (by first | exact .inl rfl | exact .inr rfl) (y_call (ok_sent_minutes T) (hr.mono (by decide)) (by rfl) T.m_sent_minutes T.F_sent_minutes.kp T.b_sent_minutes (a_cons (v_ .z) (a_cons (v_ (.s .z)) (a_one (v_ (.s (.s .z))))))))
      (y_one (y_ret (y_cB (cr_any rfl) c_any (by rfl) T.n_any (by decide +kernel) (a_one (y_fz (O := (oLst tBool)) (y_comp (own := [("other", 6)]) (vs := [6]) (ws := [6]) (Lw := L_is_twice_3) (Lb := L_is_twice_4) (.keep (by decide) (.keep (by decide) (.keep (by decide) (.keep (by decide) (.keep (by decide) (.keep (by decide) (.non .nil))))))) (.keep (by decide) (.keep (by decide) (.keep (by decide) (.keep (by decide) (.keep (by decide) (.keep (by decide) (.imm .nil))))))) rfl (by decide) rfl sc_is_twice.nd (i_range (by rfl) T.n_range (y_cB call_len_seq c_lenT (by rfl) T.n_len (by decide +kernel) (a_one (v_ (.s (.s (.s (.s (.s .z))))))))) (blkOk_by (own := [("other", 6)]) (N := ["waits", "read", "late", "machine", "minute", "sent", "other"]) (sc := defScope s_is_twice) (by decide +kernel)) (fun _ _ _ _ _ => (g_name (i := 6) (.s (.s (.s (.s (.s (.s .z)))))) (by exact sc_is_twice.nd) rfl (by first | exact .inl rfl | exact .inr rfl))) (fun _ _ _ _ _ => (t_one (y_cmpT op_ne o_neI (v_ (.s (.s (.s (.s (.s (.s .z))))))) (v_ (.s (.s (.s .z)))) (nomark _)))) (fun _ _ _ _ _ => (y_cmp op_ge o_ge (y_ix ix_tup ix_t (v_ (.s (.s (.s (.s (.s .z)))))) (v_ (.s (.s (.s (.s (.s (.s .z)))))))) (v_ (.s (.s (.s (.s .z))))) (nomark _))))))))))))
    (by exact h)⟩
noncomputable def m_is_twice (y : (List Int) × (Option (Int × Int)) × Int) : Option Bool := D_is_twice.1 _ ((y.1, y.2.1, y.2.2, (), (), (), (), ()) : Env L_is_twice_0) retO
theorem ok_is_twice {P : Program} {w : World} {K : Fg} {mg : Str → Option Value} {base : Heap} (T : Txt K mg) : FnOk P w K mg base CX0 3 T.a_is_twice T.d_is_twice ["waits", "read", "late"] (spP K (rCons (tAll tInt) (rCons (tOpt (tTup (rCons tInt (rOne tInt)))) (rOne tInt))) tBool m_is_twice) :=
  fnP (k := 2) (L := L_is_twice_0) (L' := []) (m := D_is_twice.1) (fun y => (y.1, y.2.1, y.2.2, (), (), (), (), ())) T.F_is_twice sc_is_twice hs3 (pars3 (n := 4) rfl) (fun _ => rfl) (fun cdv A outer s H E hr => D_is_twice.2 T cdv A outer s H E hr)
theorem sc_first_later : FnScope ["waits", "later", "minute"] ["waits"] (defScope s_first_later) := ⟨rfl, rfl, rfl, by decide +kernel, rfl, by decide +kernel, by decide +kernel⟩
abbrev L_first_later_0 : List L3.Loc := [lImm (tAll tInt), lNone, lNone]
abbrev L_first_later_1 : List L3.Loc := [lImm (tAll tInt), lNone, lImm tInt]
abbrev L_first_later_2 : List L3.Loc := [lImm (tAll tInt), lOwn (oLst tInt) none, lNone]
abbrev L_first_later_3 : List L3.Loc := [lImm (tAll tInt), lImm (tLst tInt), lNone]
set_option maxHeartbeats 8000000 in
/-- def first_later(waits): -/
noncomputable def D_first_later : { m : Ms (L_first_later_0) [] [] (rsT (tOpt tInt)) // ∀ {P : Program} {w : World} {K : Fg} {mg : Str → Option Value} {base : Heap} (T : Txt K mg) (cdv : Value) (A : Around) (outer : List PySem.Env) (s : Shared) (H : Hp) (E : XK), Room 1 (A.deeper (envOfC "first_later" (defScope s_first_later) s.heap.objs.size T.a_first_later cdv)) →
    PSs (cxOf CX0 P w K mg base ["waits", "later", "minute"] "first_later" (defScope s_first_later) T.a_first_later cdv A outer s H E).nox (defBody s_first_later) (tS K (L_first_later_0) [] [] (rsT (tOpt tInt)) (m)) } :=
  ⟨_, fun {P w K mg base} T cdv A outer s H E hr =>
    have h : PSs (cxOf CX0 P w K mg base ["waits", "later", "minute"] "first_later" (defScope s_first_later) T.a_first_later cdv A outer s H E).nox (defBody s_first_later) (tS K (L_first_later_0) [] [] (rsT (tOpt tInt)) _) :=
    (y_cons (La := L_first_later_2) (y_compS (i := 1) (.s .z) rfl rfl (sw_true rfl rfl rfl (by decide +kernel)) (own := [("minute", 2)]) (vs := [2]) (ws := [2]) (Lw := L_first_later_0) (Lb := L_first_later_1) (.keep (by decide) (.keep (by decide) (.non .nil))) (.keep (by decide) (.keep (by decide) (.imm .nil))) rfl (by decide) rfl sc_first_later.nd (i_tup (y_call (ok_planned T) (hr.mono (by decide)) (by rfl) T.m_planned T.F_planned.kp T.b_planned (a_one (v_ .z)))) (blkOk_by (own := [("minute", 2)]) (N := ["waits", "later", "minute"]) (sc := defScope s_first_later) (by decide +kernel)) (fun _ _ _ _ _ => (g_name (i := 2) (.s (.s .z)) (by exact sc_first_later.nd) rfl (by first | exact .inl rfl | exact .inr rfl))) (fun _ _ _ _ _ => (t_one (y_cmpT op_gt o_gt (v_ (.s (.s .z))) y_int (nomark _)))) (fun _ _ _ _ _ => (v_ (.s (.s .z)))))
      (y_lock (La := L_first_later_3) (.s .z) (.s .z) (y_one (y_ret (y_ifE (y_cmpT op_gt o_gt (y_cB call_len_seq c_lenL (by rfl) T.n_len (by decide +kernel) (a_one (v_ (.s .z)))) y_int (nomark _)) (y_some rfl (y_cB (cr_min rfl) c_minL (by rfl) T.n_min (by decide +kernel) (a_one (v_ (.s .z))))) y_none)))))
    (by exact h)⟩
noncomputable def m_first_later (y : (List Int)) : Option (Option Int) := D_first_later.1 _ ((y, (), (), ()) : Env L_first_later_0) retO
theorem ok_first_later {P : Program} {w : World} {K : Fg} {mg : Str → Option Value} {base : Heap} (T : Txt K mg) : FnOk P w K mg base CX0 2 T.a_first_later T.d_first_later ["waits"] (spP K (rOne (tAll tInt)) (tOpt tInt) m_first_later) :=
  fnP (k := 1) (L := L_first_later_0) (L' := []) (m := D_first_later.1) (fun y => (y, (), (), ())) T.F_first_later sc_first_later hs1 (pars1 (n := 2) rfl) (fun _ => rfl) (fun cdv A outer s H E hr => D_first_later.2 T cdv A outer s H E hr)
theorem sc_never_twice : FnScope ["waits", "lag"] ["waits", "lag"] (defScope s_never_twice) := ⟨rfl, rfl, rfl, by decide +kernel, rfl, by decide +kernel, by decide +kernel⟩
abbrev L_never_twice_0 : List L3.Loc := [lImm (tAll tInt), lImm tInt]
set_option maxHeartbeats 8000000 in
/-- def never_twice(waits, lag): -/
noncomputable def D_never_twice : { m : Ms (L_never_twice_0) [] [] (rsT tBool) // ∀ {P : Program} {w : World} {K : Fg} {mg : Str → Option Value} {base : Heap} (T : Txt K mg) (cdv : Value) (A : Around) (outer : List PySem.Env) (s : Shared) (H : Hp) (E : XK), Room 2 (A.deeper (envOfC "never_twice" (defScope s_never_twice) s.heap.objs.size T.a_never_twice cdv)) →
    PSs (cxOf CX0 P w K mg base ["waits", "lag"] "never_twice" (defScope s_never_twice) T.a_never_twice cdv A outer s H E).nox (defBody s_never_twice) (tS K (L_never_twice_0) [] [] (rsT tBool) (m)) } :=
  ⟨_, fun {P w K mg base} T cdv A outer s H E hr =>
    have h : PSs (cxOf CX0 P w K mg base ["waits", "lag"] "never_twice" (defScope s_never_twice) T.a_never_twice cdv A outer s H E).nox (defBody s_never_twice) (tS K (L_never_twice_0) [] [] (rsT tBool) _) :=
    (y_one (y_ret (y_vor (y_cmp op_eq o_eqI (v_ (.s .z)) y_int (nomark _)) (y_vone (y_isN (y_call (ok_first_later T) (hr.mono (by decide)) (by rfl) T.m_first_later T.F_first_later.kp T.b_first_later (a_one (v_ .z))))))))
    (by exact h)⟩
noncomputable def m_never_twice (y : (List Int) × Int) : Option Bool := D_never_twice.1 _ ((y.1, y.2, ()) : Env L_never_twice_0) retO
theorem ok_never_twice {P : Program} {w : World} {K : Fg} {mg : Str → Option Value} {base : Heap} (T : Txt K mg) : FnOk P w K mg base CX0 3 T.a_never_twice T.d_never_twice ["waits", "lag"] (spP K (rCons (tAll tInt) (rOne tInt)) tBool m_never_twice) :=
  fnP (k := 2) (L := L_never_twice_0) (L' := []) (m := D_never_twice.1) (fun y => (y.1, y.2, ())) T.F_never_twice sc_never_twice hs2 (pars2 (n := 0) rfl) (fun _ => rfl) (fun cdv A outer s H E hr => D_never_twice.2 T cdv A outer s H E hr)
theorem sc_twice_course : FnScope ["waits", "lag", "later", "minute"] ["waits", "lag"] (defScope s_twice_course) := ⟨rfl, rfl, rfl, by decide +kernel, rfl, by decide +kernel, by decide +kernel⟩
abbrev L_twice_course_0 : List L3.Loc := [lImm (tAll tInt), lImm tInt, lNone, lNone]
abbrev L_twice_course_1 : List L3.Loc := [lImm (tAll tInt), lImm tInt, lImm (tOpt tInt), lNone]
abbrev L_twice_course_2 : List L3.Loc := [lImm (tAll tInt), lImm tInt, lImm (tOpt tInt), lImm tInt]
set_option maxHeartbeats 8000000 in
/-- def twice_course(waits, lag): -/
noncomputable def D_twice_course : { m : Ms (L_twice_course_0) [] [] (rsT (tOpt (tTup (rCons tInt (rCons tInt (rOne tInt)))))) // ∀ {P : Program} {w : World} {K : Fg} {mg : Str → Option Value} {base : Heap} (T : Txt K mg) (cdv : Value) (A : Around) (outer : List PySem.Env) (s : Shared) (H : Hp) (E : XK), Room 3 (A.deeper (envOfC "twice_course" (defScope s_twice_course) s.heap.objs.size T.a_twice_course cdv)) →
    PSs (cxOf CX0 P w K mg base ["waits", "lag", "later", "minute"] "twice_course" (defScope s_twice_course) T.a_twice_course cdv A outer s H E).nox (defBody s_twice_course) (tS K (L_twice_course_0) [] [] (rsT (tOpt (tTup (rCons tInt (rCons tInt (rOne tInt)))))) (m)) } :=
  ⟨_, fun {P w K mg base} T cdv A outer s H E hr =>
    have h : PSs (cxOf CX0 P w K mg base ["waits", "lag", "later", "minute"] "twice_course" (defScope s_twice_course) T.a_twice_course cdv A outer s H E).nox (defBody s_twice_course) (tS K (L_twice_course_0) [] [] (rsT (tOpt (tTup (rCons tInt (rCons tInt (rOne tInt)))))) _) :=
    (y_cons (La := L_twice_course_0) (y_if (y_val (y_call (ok_never_twice T) (hr.mono (by decide)) (by rfl) T.m_never_twice T.F_never_twice.kp T.b_never_twice (a_cons (v_ .z) (a_one (v_ (.s .z))))))
       (y_one (y_ret y_none))
       y_nil)
      (y_cons (La := L_twice_course_1) (y_asg (.s (.s .z)) sc_twice_course.nd rfl (by first | exact .inl rfl | exact .inr rfl) (y_call (ok_first_later T) (hr.mono (by decide)) (by rfl) T.m_first_later T.F_first_later.kp T.b_first_later (a_one (v_ .z))))
      (y_cons (La := L_twice_course_2) (y_asg (.s (.s (.s .z))) sc_twice_course.nd rfl (by first | exact .inl rfl | exact .inr rfl) (y_cB (call_max2 rfl) c_max2 (by rfl) T.n_max (by decide +kernel) (a_cons y_int (a_one (y_binT op_add o_add (y_binT op_sub o_sub (y_unw (v_ (.s (.s .z)))) (v_ (.s .z))) y_int)))))
      (y_one (y_ret (y_some rfl (y_tup (a_cons y_int (a_cons (v_ (.s (.s (.s .z)))) (a_one (y_binT op_add o_add (y_binT op_sub o_sub (y_unw (v_ (.s (.s .z)))) (v_ (.s (.s (.s .z))))) y_int)))) hl3)))))))
    (by exact h)⟩
noncomputable def m_twice_course (y : (List Int) × Int) : Option (Option (Int × Int × Int)) := D_twice_course.1 _ ((y.1, y.2, (), (), ()) : Env L_twice_course_0) retO
theorem ok_twice_course {P : Program} {w : World} {K : Fg} {mg : Str → Option Value} {base : Heap} (T : Txt K mg) : FnOk P w K mg base CX0 4 T.a_twice_course T.d_twice_course ["waits", "lag"] (spP K (rCons (tAll tInt) (rOne tInt)) (tOpt (tTup (rCons tInt (rCons tInt (rOne tInt))))) m_twice_course) :=
  fnP (k := 3) (L := L_twice_course_0) (L' := []) (m := D_twice_course.1) (fun y => (y.1, y.2, (), (), ())) T.F_twice_course sc_twice_course hs2 (pars2 (n := 2) rfl) (fun _ => rfl) (fun cdv A outer s H E hr => D_twice_course.2 T cdv A outer s H E hr)
theorem sc_most_sent : FnScope ["waits", "lag", "minute", "own"] ["waits", "lag", "minute"] (defScope s_most_sent) := ⟨rfl, rfl, rfl, by decide +kernel, rfl, by decide +kernel, by decide +kernel⟩
abbrev L_most_sent_0 : List L3.Loc := [lImm (tAll tInt), lImm tInt, lImm tInt, lNone]
abbrev L_most_sent_1 : List L3.Loc := [lImm (tAll tInt), lImm tInt, lImm tInt, lImm tInt]
set_option maxHeartbeats 8000000 in
/-- def most_sent(waits, lag, minute): -/
noncomputable def D_most_sent : { m : Ms (L_most_sent_0) [] [] (rsT tInt) // ∀ {P : Program} {w : World} {K : Fg} {mg : Str → Option Value} {base : Heap} (T : Txt K mg) (cdv : Value) (A : Around) (outer : List PySem.Env) (s : Shared) (H : Hp) (E : XK), Room 1 (A.deeper (envOfC "most_sent" (defScope s_most_sent) s.heap.objs.size T.a_most_sent cdv)) →
    PSs (cxOf CX0 P w K mg base ["waits", "lag", "minute", "own"] "most_sent" (defScope s_most_sent) T.a_most_sent cdv A outer s H E).nox (defBody s_most_sent) (tS K (L_most_sent_0) [] [] (rsT tInt) (m)) } :=
  ⟨_, fun {P w K mg base} T cdv A outer s H E hr =>
    have h : PSs (cxOf CX0 P w K mg base ["waits", "lag", "minute", "own"] "most_sent" (defScope s_most_sent) T.a_most_sent cdv A outer s H E).nox (defBody s_most_sent) (tS K (L_most_sent_0) [] [] (rsT tInt) _) :=
    (y_one (y_ret (y_cB call_len_seq c_lenL (by rfl) T.n_len (by decide +kernel) (a_one (y_fz (O := (oLst tInt)) (y_comp (own := [("own", 3)]) (vs := [3]) (ws := [3]) (Lw := L_most_sent_0) (Lb := L_most_sent_1) (.keep (by decide) (.keep (by decide) (.keep (by decide) (.non .nil)))) (.keep (by decide) (.keep (by decide) (.keep (by decide) (.imm .nil)))) rfl (by decide) rfl sc_most_sent.nd (i_tup (y_call (ok_planned T) (hr.mono (by decide)) (by rfl) T.m_planned T.F_planned.kp T.b_planned (a_one (v_ .z)))) (blkOk_by (own := [("own", 3)]) (N := ["waits", "lag", "minute", "own"]) (sc := defScope s_most_sent) (by decide +kernel)) (fun _ _ _ _ _ => (g_name (i := 3) (.s (.s (.s .z))) (by exact sc_most_sent.nd) rfl (by first | exact .inl rfl | exact .inr rfl))) (fun _ _ _ _ _ => (t_one (y_cmpT op_lt o_lt (v_ (.s (.s (.s .z)))) (y_binT op_add o_add (v_ (.s (.s .z))) (v_ (.s .z))) (nomark _)))) (fun _ _ _ _ _ => (v_ (.s (.s (.s .z)))))))))))
    (by exact h)⟩
noncomputable def m_most_sent (y : (List Int) × Int × Int) : Option Int := D_most_sent.1 _ ((y.1, y.2.1, y.2.2, (), ()) : Env L_most_sent_0) retO
theorem ok_most_sent {P : Program} {w : World} {K : Fg} {mg : Str → Option Value} {base : Heap} (T : Txt K mg) : FnOk P w K mg base CX0 2 T.a_most_sent T.d_most_sent ["waits", "lag", "minute"] (spP K (rCons (tAll tInt) (rCons tInt (rOne tInt))) tInt m_most_sent) :=
  fnP (k := 1) (L := L_most_sent_0) (L' := []) (m := D_most_sent.1) (fun y => (y.1, y.2.1, y.2.2, (), ())) T.F_most_sent sc_most_sent hs3 (pars3 (n := 1) rfl) (fun _ => rfl) (fun cdv A outer s H E hr => D_most_sent.2 T cdv A outer s H E hr)
theorem sc_all_sent_by : FnScope ["waits"] ["waits"] (defScope s_all_sent_by) := ⟨rfl, rfl, rfl, by decide +kernel, rfl, by decide +kernel, by decide +kernel⟩
abbrev L_all_sent_by_0 : List L3.Loc := [lImm (tAll tInt)]
set_option maxHeartbeats 8000000 in
/-- def all_sent_by(waits): -/
noncomputable def D_all_sent_by : { m : Ms (L_all_sent_by_0) [] [] (rsT tInt) // ∀ {P : Program} {w : World} {K : Fg} {mg : Str → Option Value} {base : Heap} (T : Txt K mg) (cdv : Value) (A : Around) (outer : List PySem.Env) (s : Shared) (H : Hp) (E : XK), Room 1 (A.deeper (envOfC "all_sent_by" (defScope s_all_sent_by) s.heap.objs.size T.a_all_sent_by cdv)) →
    PSs (cxOf CX0 P w K mg base ["waits"] "all_sent_by" (defScope s_all_sent_by) T.a_all_sent_by cdv A outer s H E).nox (defBody s_all_sent_by) (tS K (L_all_sent_by_0) [] [] (rsT tInt) (m)) } :=
  ⟨_, fun {P w K mg base} T cdv A outer s H E hr =>
    have h : PSs (cxOf CX0 P w K mg base ["waits"] "all_sent_by" (defScope s_all_sent_by) T.a_all_sent_by cdv A outer s H E).nox (defBody s_all_sent_by) (tS K (L_all_sent_by_0) [] [] (rsT tInt) _) :=
    (y_one (y_ret (y_ix ix_tup ix_t (y_call (ok_planned T) (hr.mono (by decide)) (by rfl) T.m_planned T.F_planned.kp T.b_planned (a_one (v_ .z))) (y_un un_neg o_neg y_int))))
    (by exact h)⟩
noncomputable def m_all_sent_by (y : (List Int)) : Option Int := D_all_sent_by.1 _ ((y, ()) : Env L_all_sent_by_0) retO
theorem ok_all_sent_by {P : Program} {w : World} {K : Fg} {mg : Str → Option Value} {base : Heap} (T : Txt K mg) : FnOk P w K mg base CX0 2 T.a_all_sent_by T.d_all_sent_by ["waits"] (spP K (rOne (tAll tInt)) tInt m_all_sent_by) :=
  fnP (k := 1) (L := L_all_sent_by_0) (L' := []) (m := D_all_sent_by.1) (fun y => (y, ())) T.F_all_sent_by sc_all_sent_by hs1 (pars1 (n := 0) rfl) (fun _ => rfl) (fun cdv A outer s H E hr => D_all_sent_by.2 T cdv A outer s H E hr)
theorem sc_waits_for : FnScope ["n", "last", "each", "more"] ["n", "last"] (defScope s_waits_for) := ⟨rfl, rfl, rfl, by decide +kernel, rfl, by decide +kernel, by decide +kernel⟩
abbrev L_waits_for_0 : List L3.Loc := [lImm tInt, lImm tInt, lNone, lNone]
abbrev L_waits_for_1 : List L3.Loc := [lImm tInt, lImm tInt, lImm tInt, lNone]
abbrev L_waits_for_2 : List L3.Loc := [lImm tInt, lImm tInt, lImm tInt, lImm tInt]
set_option maxHeartbeats 8000000 in
/-- def waits_for(n, last): -/
noncomputable def D_waits_for : { m : Ms (L_waits_for_0) [] [] (rsT (tAll tInt)) // ∀ {P : Program} {w : World} {K : Fg} {mg : Str → Option Value} {base : Heap} (T : Txt K mg) (cdv : Value) (A : Around) (outer : List PySem.Env) (s : Shared) (H : Hp) (E : XK), Room 0 (A.deeper (envOfC "waits_for" (defScope s_waits_for) s.heap.objs.size T.a_waits_for cdv)) →
    PSs (cxOf CX0 P w K mg base ["n", "last", "each", "more"] "waits_for" (defScope s_waits_for) T.a_waits_for cdv A outer s H E).nox (defBody s_waits_for) (tS K (L_waits_for_0) [] [] (rsT (tAll tInt)) (m)) } :=
  ⟨_, fun {P w K mg base} T cdv A outer s H E hr =>
    have h : PSs (cxOf CX0 P w K mg base ["n", "last", "each", "more"] "waits_for" (defScope s_waits_for) T.a_waits_for cdv A outer s H E).nox (defBody s_waits_for) (tS K (L_waits_for_0) [] [] (rsT (tAll tInt)) _) :=
    (y_cons (La := L_waits_for_2) (y_par (i := 2) (j := 3) (La := L_waits_for_1) (.s (.s .z)) (.s (.s (.s .z))) rfl sc_waits_for.nd rfl rfl (by decide) rfl rfl (a_cons (y_bin op_fdivW o_div (v_ (.s .z)) (y_binT op_sub o_sub (v_ .z) y_int)) (a_one (y_bin op_mod o_mod (v_ (.s .z)) (y_binT op_sub o_sub (v_ .z) y_int)))) (by rfl))
      (y_one (y_ret (y_bin op_catA o_catT (y_bin op_repA o_repT (y_tupA (a_consA (v_ (.s (.s .z))) a_nilA)) (y_binT op_sub o_sub (y_binT op_sub o_sub (v_ .z) y_int) (v_ (.s (.s (.s .z)))))) (y_bin op_repA o_repT (y_tupA (a_consA (y_binT op_add o_add (v_ (.s (.s .z))) y_int) a_nilA)) (v_ (.s (.s (.s .z)))))))))
    (by exact h)⟩
noncomputable def m_waits_for (y : Int × Int) : Option (List Int) := D_waits_for.1 _ ((y.1, y.2, (), (), ()) : Env L_waits_for_0) retO
theorem ok_waits_for {P : Program} {w : World} {K : Fg} {mg : Str → Option Value} {base : Heap} (T : Txt K mg) : FnOk P w K mg base CX0 1 T.a_waits_for T.d_waits_for ["n", "last"] (spP K (rCons tInt (rOne tInt)) (tAll tInt) m_waits_for) :=
  fnP (k := 0) (L := L_waits_for_0) (L' := []) (m := D_waits_for.1) (fun y => (y.1, y.2, (), (), ())) T.F_waits_for sc_waits_for hs2 (pars2 (n := 2) rfl) (fun _ => rfl) (fun cdv A outer s H E hr => D_waits_for.2 T cdv A outer s H E hr)
theorem sc_law_draws : FnScope ["script", "many", "cells", "rest", "draws", "k", "at", "once", "cell"] ["script", "many"] (defScope s_law_draws) := ⟨rfl, rfl, rfl, by decide +kernel, rfl, by decide +kernel, by decide +kernel⟩
abbrev L_law_draws_0 : List L3.Loc := [lImm (tScr tInt), lImm tInt, lNone, lNone, lNone, lNone, lNone, lNone, lNone]
abbrev L_law_draws_1 : List L3.Loc := [lImm (tScr tInt), lImm tInt, lNone, lNone, lNone, lNone, lNone, lNone, lImm tInt]
abbrev L_law_draws_2 : List L3.Loc := [lImm (tScr tInt), lImm tInt, lOwn (oLst tInt) none, lNone, lNone, lNone, lNone, lNone, lNone]
abbrev L_law_draws_3 : List L3.Loc := [lNone, lImm tInt, lOwn (oLst tInt) none, lNone, lNone, lNone, lNone, lNone, lNone]
abbrev L_law_draws_4 : List L3.Loc := [lNone, lImm tInt, lImm (tLst tInt), lOwn (oLst tInt) none, lNone, lNone, lNone, lNone, lNone]
abbrev L_law_draws_5 : List L3.Loc := [lNone, lImm tInt, lImm (tLst tInt), lOwn (oLst tInt) none, lOwn (oLst tInt) none, lNone, lNone, lNone, lNone]
abbrev L_law_draws_6 : List L3.Loc := [lNone, lImm tInt, lImm (tLst tInt), lOwn (oLst tInt) none, lOwn (oLst tInt) none, lImm tInt, lNone, lNone, lNone]
abbrev L_law_draws_7 : List L3.Loc := [lNone, lImm tInt, lImm (tLst tInt), lOwn (oLst tInt) none, lOwn (oLst tInt) none, lImm tInt, lImm tInt, lNone, lNone]
abbrev L_law_draws_8 : List L3.Loc := [lNone, lImm tInt, lImm (tLst tInt), lOwn (oLst tInt) none, lOwn (oLst tInt) none, lImm tInt, lImm tInt, lImm tInt, lNone]
abbrev L_law_draws_9 : List L3.Loc := [lNone, lImm tInt, lImm (tLst tInt), lOwn (oLst tInt) none, lOwn (oLst tInt) none, lNone, lImm tInt, lNone, lNone]
abbrev L_law_draws_10 : List L3.Loc := [lNone, lImm tInt, lImm (tLst tInt), lOwn (oLst tInt) none, lOwn (oLst tInt) none, lNone, lNone, lImm tInt, lNone]
abbrev L_law_draws_11 : List L3.Loc := [lNone, lImm tInt, lImm (tLst tInt), lOwn (oLst tInt) none, lOwn (oLst tInt) none, lNone, lImm tInt, lImm tInt, lNone]
abbrev L_law_draws_12 : List L3.Loc := [lNone, lImm tInt, lImm (tLst tInt), lNone, lNone, lNone, lNone, lNone, lNone]
set_option maxHeartbeats 8000000 in
/-- def _law_draws(script, many): -/
noncomputable def D_law_draws : { m : Ms (L_law_draws_0) [] [] (rsO (oLst tInt)) // ∀ {P : Program} {w : World} {K : Fg} {mg : Str → Option Value} {base : Heap} (T : Txt K mg) (cdv : Value) (A : Around) (outer : List PySem.Env) (s : Shared) (H : Hp) (E : XK), Room 0 (A.deeper (envOfC "_law_draws" (defScope s_law_draws) s.heap.objs.size T.a_law_draws cdv)) →
    PSs (cxOf CX0 P w K mg base ["script", "many", "cells", "rest", "draws", "k", "at", "once", "cell"] "_law_draws" (defScope s_law_draws) T.a_law_draws cdv A outer s H E).nox (defBody s_law_draws) (tS K (L_law_draws_0) [] [] (rsO (oLst tInt)) (m)) } :=
  ⟨_, fun {P w K mg base} T cdv A outer s H E hr =>
    have h : PSs (cxOf CX0 P w K mg base ["script", "many", "cells", "rest", "draws", "k", "at", "once", "cell"] "_law_draws" (defScope s_law_draws) T.a_law_draws cdv A outer s H E).nox (defBody s_law_draws) (tS K (L_law_draws_0) [] [] (rsO (oLst tInt)) _) :=
    (y_cons (La := L_law_draws_2) (y_compS (i := 2) (.s (.s .z)) rfl rfl (sw_true rfl rfl rfl (by decide +kernel)) (own := [("cell", 8)]) (vs := [8]) (ws := [8]) (Lw := L_law_draws_0) (Lb := L_law_draws_1) (.keep (by decide) (.keep (by decide) (.keep (by decide) (.keep (by decide) (.keep (by decide) (.keep (by decide) (.keep (by decide) (.keep (by decide) (.non .nil))))))))) (.keep (by decide) (.keep (by decide) (.keep (by decide) (.keep (by decide) (.keep (by decide) (.keep (by decide) (.keep (by decide) (.keep (by decide) (.imm .nil))))))))) rfl (by decide) rfl sc_law_draws.nd (i_scr (v_ .z)) (blkOk_by (own := [("cell", 8)]) (N := ["script", "many", "cells", "rest", "draws", "k", "at", "once", "cell"]) (sc := defScope s_law_draws) (by decide +kernel)) (fun _ _ _ _ _ => (g_name (i := 8) (.s (.s (.s (.s (.s (.s (.s (.s .z)))))))) (by exact sc_law_draws.nd) rfl (by first | exact .inl rfl | exact .inr rfl))) (fun _ _ _ _ _ => t_nil) (fun _ _ _ _ _ => (y_cT call_int1 c_int (by rfl) T.n_int (by decide +kernel) (a_one (v_ (.s (.s (.s (.s (.s (.s (.s (.s .z)))))))))))))
      (y_cons (La := L_law_draws_3) (y_ifJ (y_cmpT op_eq o_eqI (y_lenO (.s (.s .z)) rfl (by first | exact .inl rfl | exact .inr (.inl rfl) | exact .inr (.inr rfl)) (by rfl) T.n_len) y_int (nomark _))
       (y_cons (La := L_law_draws_2) (y_expr (y_met (.s (.s .z)) rfl (by first | exact .inl rfl | exact .inr (.inl rfl) | exact .inr (.inr rfl)) PySem.F.plainAttrs_list PySem.F.slot_list_append PySem.F.type_list_append mt_append ownTy m_append (a_one y_int)))
      (y_fg (La := L_law_draws_3) .z y_nil))
       (y_fg (La := L_law_draws_3) .z y_nil))
      (y_lock (La := L_law_draws_12) (.s (.s .z)) (.s (.s .z)) (y_cons (La := L_law_draws_4) (y_asgO (.s (.s (.s .z))) sc_law_draws.nd rfl (by first | exact .inl rfl | exact .inr rfl) (y_cTO call_list_of c_list (by rfl) T.n_list (by decide +kernel) (a_one (v_ (.s (.s .z))))))
      (y_cons (La := L_law_draws_5) (y_asgO (.s (.s (.s (.s .z)))) sc_law_draws.nd rfl (by first | exact .inl rfl | exact .inr rfl) (y_lst a_nilA))
      (y_cons (La := L_law_draws_5) (y_for (vs := [5]) (Lb := L_law_draws_6) PassesOwn.never rfl (i_range (by rfl) T.n_range (v_ (.s .z))) (g_name (i := 5) (.s (.s (.s (.s (.s .z))))) (by exact sc_law_draws.nd) rfl (by first | exact .inl rfl | exact .inr rfl))
       (y_cons (La := L_law_draws_7) (y_asg (.s (.s (.s (.s (.s (.s .z)))))) sc_law_draws.nd rfl (by first | exact .inl rfl | exact .inr rfl) (y_bin op_mod o_mod (v_ (.s (.s (.s (.s (.s .z)))))) (y_cB call_len_seq c_lenL (by rfl) T.n_len (by decide +kernel) (a_one (v_ (.s (.s .z)))))))
      (y_cons (La := L_law_draws_5) (y_ifJ (PW.pt (y_and (y_cmpT op_ge o_ge (y_ix ix_list ix_l (v_ (.s (.s .z))) (v_ (.s (.s (.s (.s (.s (.s .z)))))))) (y_lit (c := 1000000000000000000) op_pow o_pow (by first | (rw [powC_eq]; decide +kernel) | (rw [mulC_eq]; decide +kernel) | (rw [divC_eq]; decide +kernel) | decide +kernel)) (nomark _)) (y_and1 (y_cmpT op_gt o_gt (y_ixO (.s (.s (.s .z))) rfl (by first | exact .inl rfl | exact .inr (.inl rfl) | exact .inr (.inr rfl)) (v_ (.s (.s (.s (.s (.s (.s .z)))))))) y_int (nomark _)))))
       (y_cons (La := L_law_draws_7) (y_expr (y_met (.s (.s (.s (.s .z)))) rfl (by first | exact .inl rfl | exact .inr (.inl rfl) | exact .inr (.inr rfl)) PySem.F.plainAttrs_list PySem.F.slot_list_append PySem.F.type_list_append mt_append ownTy m_append (a_one (y_bin op_mod o_mod (y_cT call_int1 c_int (by rfl) T.n_int (by decide +kernel) (a_one (y_ixO (.s (.s (.s .z))) rfl (by first | exact .inl rfl | exact .inr (.inl rfl) | exact .inr (.inr rfl)) (v_ (.s (.s (.s (.s (.s (.s .z)))))))))) y_int))))
      (y_cons (La := L_law_draws_7) (y_setL (.s (.s (.s .z))) rfl (by first | exact .inl rfl | exact .inr (.inl rfl) | exact .inr (.inr rfl)) (y_bin op_fdivW o_div (y_ixO (.s (.s (.s .z))) rfl (by first | exact .inl rfl | exact .inr (.inl rfl) | exact .inr (.inr rfl)) (v_ (.s (.s (.s (.s (.s (.s .z)))))))) y_int) (v_ (.s (.s (.s (.s (.s (.s .z))))))))
      (y_fg (La := L_law_draws_9) (.s (.s (.s (.s (.s .z))))) (y_fg (La := L_law_draws_5) (.s (.s (.s (.s (.s (.s .z)))))) y_nil))))
       (y_cons (La := L_law_draws_8) (y_asg (.s (.s (.s (.s (.s (.s (.s .z))))))) sc_law_draws.nd rfl (by first | exact .inl rfl | exact .inr rfl) (y_bin op_mod o_mod (y_cT call_int1 c_int (by rfl) T.n_int (by decide +kernel) (a_one (y_binT op_add o_add (y_binT op_add o_add (y_bin op_mulA o_mul (y_ix ix_list ix_l (v_ (.s (.s .z))) (v_ (.s (.s (.s (.s (.s (.s .z)))))))) y_int) (y_bin op_mulA o_mul (v_ (.s (.s (.s (.s (.s .z)))))) y_int)) y_int))) y_int))
      (y_cons (La := L_law_draws_8) (y_expr (y_met (.s (.s (.s (.s .z)))) rfl (by first | exact .inl rfl | exact .inr (.inl rfl) | exact .inr (.inr rfl)) PySem.F.plainAttrs_list PySem.F.slot_list_append PySem.F.type_list_append mt_append ownTy m_append (a_one (y_bin op_mod o_mod (y_cT call_int1 c_int (by rfl) T.n_int (by decide +kernel) (a_one (y_binT op_add o_add (y_binT op_add o_add (y_bin op_mulA o_mul (v_ (.s (.s (.s (.s (.s (.s (.s .z)))))))) (v_ (.s (.s (.s (.s (.s (.s (.s .z))))))))) (y_bin op_mulA o_mul y_int (v_ (.s (.s (.s (.s (.s (.s (.s .z)))))))))) (v_ (.s (.s (.s (.s (.s .z))))))))) y_int))))
      (y_fg (La := L_law_draws_11) (.s (.s (.s (.s (.s .z))))) (y_fg (La := L_law_draws_10) (.s (.s (.s (.s (.s (.s .z)))))) (y_fg (La := L_law_draws_5) (.s (.s (.s (.s (.s (.s (.s .z))))))) y_nil))))))
      y_nil)))
      (y_cons (La := L_law_draws_5) (y_expr (y_met0 (.s (.s (.s (.s .z)))) rfl (by first | exact .inl rfl | exact .inr (.inl rfl) | exact .inr (.inr rfl)) PySem.F.plainAttrs_list PySem.F.slot_list_reverse PySem.F.type_list_reverse mt_reverse ownTy m_reverse))
      (y_one (y_retN (.s (.s (.s (.s .z)))) rfl (by first | exact .inl rfl | exact .inr (.inl rfl) | exact .inr (.inr rfl)))))))))))
    (by exact h)⟩
noncomputable def m_law_draws (y : (List Int) × Int) : Option (List Int) := D_law_draws.1 _ ((y.1, y.2, (), (), (), (), (), (), (), ()) : Env L_law_draws_0) retO
theorem ok_law_draws {P : Program} {w : World} {K : Fg} {mg : Str → Option Value} {base : Heap} (T : Txt K mg) : FnOk P w K mg base CX0 1 T.a_law_draws T.d_law_draws ["script", "many"] (spO K (rCons (tScr tInt) (rOne tInt)) (oLst tInt) m_law_draws) :=
  fnO (k := 0) (L := L_law_draws_0) (L' := []) (m := D_law_draws.1) (fun y => (y.1, y.2, (), (), (), (), (), (), (), ())) T.F_law_draws sc_law_draws hs2 (pars2 (n := 7) rfl) (fun _ => rfl) (fun cdv A outer s H E hr => D_law_draws.2 T cdv A outer s H E hr)
theorem sc_law_take : FnScope ["draws", "many"] ["draws", "many"] (defScope s_law_take) := ⟨rfl, rfl, rfl, by decide +kernel, rfl, by decide +kernel, by decide +kernel⟩
abbrev L_law_take_0 (d : Addr) : List L3.Loc := [lOwn (oLst tInt) (some d), lImm tInt]
set_option maxHeartbeats 8000000 in
/-- def _law_take(draws, many): -/
noncomputable def D_law_take : { m : (d : Addr) → Ms (L_law_take_0 d) [] [] (rsM d (oLst tInt) tInt) // ∀ {P : Program} {w : World} {K : Fg} {mg : Str → Option Value} {base : Heap} (T : Txt K mg) (d : Addr) (cdv : Value) (A : Around) (outer : List PySem.Env) (s : Shared) (H : Hp) (E : XK), Room 0 (A.deeper (envOfC "_law_take" (defScope s_law_take) s.heap.objs.size T.a_law_take cdv)) →
    PSs (cxOf CX0 P w K mg base ["draws", "many"] "_law_take" (defScope s_law_take) T.a_law_take cdv A outer s H E).nox (defBody s_law_take) (tS K (L_law_take_0 d) [] [] (rsM d (oLst tInt) tInt) (m d)) } :=
  ⟨_, fun {P w K mg base} T d cdv A outer s H E hr =>
    have h : PSs (cxOf CX0 P w K mg base ["draws", "many"] "_law_take" (defScope s_law_take) T.a_law_take cdv A outer s H E).nox (defBody s_law_take) (tS K (L_law_take_0 d) [] [] (rsM d (oLst tInt) tInt) _) :=
    (y_cons (La := (L_law_take_0 d)) (y_if (y_cmpT op_eq o_eqI (y_lenO .z rfl (by first | exact .inl rfl | exact .inr (.inl rfl) | exact .inr (.inr rfl)) (by rfl) T.n_len) y_int (nomark _))
       (y_one (y_retM .z y_int))
       y_nil)
      (y_one (y_retM .z (y_bin op_mod o_mod (y_cT call_int1 c_int (by rfl) T.n_int (by decide +kernel) (a_one (y_met0 .z rfl (by first | exact .inl rfl | exact .inr (.inl rfl) | exact .inr (.inr rfl)) PySem.F.plainAttrs_list PySem.F.slot_list_pop PySem.F.type_list_pop mt_pop ownTy m_pop))) (v_ (.s .z))))))
    (by exact h)⟩
noncomputable def m_law_take (y0 : (List Int)) (y : Int) : Option (Int × (List Int)) := (D_law_take.1 0) _ ((y0, y, ()) : Env (L_law_take_0 0)) retO
theorem ok_law_take {P : Program} {w : World} {K : Fg} {mg : Str → Option Value} {base : Heap} (T : Txt K mg) : FnOk P w K mg base CX0 1 T.a_law_take T.d_law_take ["draws", "many"] (spM K (oLst tInt) (rOne tInt) tInt m_law_take) :=
  fnM (k := 0) (L := fun d => L_law_take_0 d) (L' := fun _ => []) (m := D_law_take.1) (fun d y0 y => (y0, y, ())) T.F_law_take sc_law_take hsM1 (fun d => parsM1 (n := 0) rfl) (fun _ _ _ => rfl) (fun d cdv A outer s H E hr => D_law_take.2 T d cdv A outer s H E hr)
theorem sc_law_cell : FnScope ["script", "at", "cell"] ["script", "at"] (defScope s_law_cell) := ⟨rfl, rfl, rfl, by decide +kernel, rfl, by decide +kernel, by decide +kernel⟩
abbrev L_law_cell_0 : List L3.Loc := [lImm (tScr tInt), lImm tInt, lNone]
abbrev L_law_cell_1 : List L3.Loc := [lImm (tScr tInt), lImm tInt, lImm tInt]
set_option maxHeartbeats 8000000 in
/-- def _law_cell(script, at): -/
noncomputable def D_law_cell : { m : Ms (L_law_cell_0) [] [] (rsT tInt) // ∀ {P : Program} {w : World} {K : Fg} {mg : Str → Option Value} {base : Heap} (T : Txt K mg) (cdv : Value) (A : Around) (outer : List PySem.Env) (s : Shared) (H : Hp) (E : XK), Room 0 (A.deeper (envOfC "_law_cell" (defScope s_law_cell) s.heap.objs.size T.a_law_cell cdv)) →
    PSs (cxOf CX0 P w K mg base ["script", "at", "cell"] "_law_cell" (defScope s_law_cell) T.a_law_cell cdv A outer s H E).nox (defBody s_law_cell) (tS K (L_law_cell_0) [] [] (rsT tInt) (m)) } :=
  ⟨_, fun {P w K mg base} T cdv A outer s H E hr =>
    have h : PSs (cxOf CX0 P w K mg base ["script", "at", "cell"] "_law_cell" (defScope s_law_cell) T.a_law_cell cdv A outer s H E).nox (defBody s_law_cell) (tS K (L_law_cell_0) [] [] (rsT tInt) _) :=
    (y_cons (La := L_law_cell_0) (y_if (y_cmpT op_eq o_eqI (y_cB call_len_seq c_lenC (by rfl) T.n_len (by decide +kernel) (a_one (v_ .z))) y_int (nomark _))
       (y_one (y_ret y_int))
       y_nil)
      (y_cons (La := L_law_cell_1) (y_asg (.s (.s .z)) sc_law_cell.nd rfl (by first | exact .inl rfl | exact .inr rfl) (y_cT call_int1 c_int (by rfl) T.n_int (by decide +kernel) (a_one (y_ix ix_list ix_c (v_ .z) (y_bin op_mod o_mod (y_cT call_int1 c_int (by rfl) T.n_int (by decide +kernel) (a_one (v_ (.s .z)))) (y_cB call_len_seq c_lenC (by rfl) T.n_len (by decide +kernel) (a_one (v_ .z))))))))
      (y_one (y_ret (y_bin op_mulA o_mul (y_bin op_mod o_mod (y_cB call_abs c_abs (by rfl) T.n_abs (by decide +kernel) (a_one (v_ (.s (.s .z))))) (y_lit (c := 1000000000000000000000000000000000000000000000000000000000000) op_pow o_pow (by first | (rw [powC_eq]; decide +kernel) | (rw [mulC_eq]; decide +kernel) | (rw [divC_eq]; decide +kernel) | decide +kernel))) (y_ix ix_list ix_l (y_fz (O := (oLst tInt)) (y_lst (a_consA y_int (a_consA (y_un un_neg o_neg y_int) a_nilA)))) (y_cT call_int1 c_intB (by rfl) T.n_int (by decide +kernel) (a_one (y_cmp op_lt o_lt (v_ (.s (.s .z))) y_int (nomark _))))))))))
    (by exact h)⟩
noncomputable def m_law_cell (y : (List Int) × Int) : Option Int := D_law_cell.1 _ ((y.1, y.2, (), ()) : Env L_law_cell_0) retO
theorem ok_law_cell {P : Program} {w : World} {K : Fg} {mg : Str → Option Value} {base : Heap} (T : Txt K mg) : FnOk P w K mg base CX0 1 T.a_law_cell T.d_law_cell ["script", "at"] (spP K (rCons (tScr tInt) (rOne tInt)) tInt m_law_cell) :=
  fnP (k := 0) (L := L_law_cell_0) (L' := []) (m := D_law_cell.1) (fun y => (y.1, y.2, (), ())) T.F_law_cell sc_law_cell hs2 (pars2 (n := 1) rfl) (fun _ => rfl) (fun cdv A outer s H E hr => D_law_cell.2 T cdv A outer s H E hr)
theorem sc_law_same : FnScope ["actual", "due", "k"] ["actual", "due"] (defScope s_law_same) := ⟨rfl, rfl, rfl, by decide +kernel, rfl, by decide +kernel, by decide +kernel⟩
abbrev L_law_same_0 : List L3.Loc := [lImm tDat, lImm tDat, lNone]
abbrev L_law_same_1 : List L3.Loc := [lImm tDat, lImm tDat, lImm tInt]
set_option maxHeartbeats 8000000 in
/-- def _law_same(actual, due): -/
noncomputable def D_law_same : { m : (PyData × PyData → Option Bool) → Ms (L_law_same_0) [] [] (rsT tBool) // ∀ (f : PyData × PyData → Option Bool) (n : Nat) {P : Program} {w : World} {K : Fg} {mg : Str → Option Value} {base : Heap} (T : Txt K mg) (G : FnOk P w K mg base CX0 n T.a_law_same T.d_law_same ["actual", "due"] (spP K (rCons tDat (rOne tDat)) tBool f)) (cdv : Value) (A : Around) (outer : List PySem.Env) (s : Shared) (H : Hp) (E : XK), Room n (A.deeper (envOfC "_law_same" (defScope s_law_same) s.heap.objs.size T.a_law_same cdv)) →
    PSs (cxOf CX0 P w K mg base ["actual", "due", "k"] "_law_same" (defScope s_law_same) T.a_law_same cdv A outer s H E).nox (defBody s_law_same) (tS K (L_law_same_0) [] [] (rsT tBool) (m f)) } :=
  ⟨fun f => _, fun f n {P w K mg base} T G cdv A outer s H E hr =>
    have h : PSs (cxOf CX0 P w K mg base ["actual", "due", "k"] "_law_same" (defScope s_law_same) T.a_law_same cdv A outer s H E).nox (defBody s_law_same) (tS K (L_law_same_0) [] [] (rsT tBool) _) :=
    (y_cons (La := L_law_same_0) (y_if (y_val (y_isi (nm := "bool") isT_D (by rfl) T.n_isinstance (by rfl) T.n_bool (by decide +kernel) (v_ (.s .z))))
       (y_one (y_ret (y_vand (y_isi (nm := "bool") isT_D (by rfl) T.n_isinstance (by rfl) T.n_bool (by decide +kernel) (v_ .z)) (y_vone (y_cmpO op_eq o_eqD0 (v_ .z) (v_ (.s .z)) (nomark _))))))
       y_nil)
      (y_cons (La := L_law_same_0) (y_if (y_val (y_isi (nm := "int") isT_D (by rfl) T.n_isinstance (by rfl) T.n_int (by decide +kernel) (v_ (.s .z))))
       (y_one (y_ret (y_vand (y_isi (nm := "int") isT_D (by rfl) T.n_isinstance (by rfl) T.n_int (by decide +kernel) (v_ .z)) (y_vand (y_vnot (y_isi (nm := "bool") isT_D (by rfl) T.n_isinstance (by rfl) T.n_bool (by decide +kernel) (v_ .z))) (y_vone (y_cmpO op_eq o_eqD0 (v_ .z) (v_ (.s .z)) (nomark _)))))))
       y_nil)
      (y_cons (La := L_law_same_0) (y_if (y_val (y_isi (nm := "str") isT_D (by rfl) T.n_isinstance (by rfl) T.n_str (by decide +kernel) (v_ (.s .z))))
       (y_one (y_ret (y_vand (y_isi (nm := "str") isT_D (by rfl) T.n_isinstance (by rfl) T.n_str (by decide +kernel) (v_ .z)) (y_vone (y_cmpO op_eq o_eqD0 (v_ .z) (v_ (.s .z)) (nomark _))))))
       y_nil)
      (y_cons (La := L_law_same_0) (y_if (y_isNT (y_datO (v_ (.s .z))))
       (y_one (y_ret (y_isN (y_datO (v_ .z)))))
       y_nil)
      (y_cons (La := L_law_same_0) (y_if (PW.pt (y_or (y_not (y_val (y_isi (nm := "tuple") isT_D (by rfl) T.n_isinstance (by rfl) T.n_tuple (by decide +kernel) (v_ .z)))) (y_or1 (y_cmpT op_ne o_neI (y_cB call_len_seq c_lenDat (by rfl) T.n_len (by decide +kernel) (a_one (v_ .z))) (y_cB call_len_seq c_lenDat (by rfl) T.n_len (by decide +kernel) (a_one (v_ (.s .z)))) (nomark _)))))
       (y_one (y_ret y_bl))
       y_nil)
      (y_cons (La := L_law_same_0) (y_for (vs := [2]) (Lb := L_law_same_1) PassesOwn.never rfl (i_range (by rfl) T.n_range (y_cB call_len_seq c_lenDat (by rfl) T.n_len (by decide +kernel) (a_one (v_ (.s .z))))) (g_name (i := 2) (.s (.s .z)) (by exact sc_law_same.nd) rfl (by first | exact .inl rfl | exact .inr rfl))
       (y_cons (La := L_law_same_0) (y_if (y_not (y_val (y_call G hr (by rfl) T.m_law_same T.F_law_same.kp T.b_law_same (a_cons (y_ix ix_tup ix_d (v_ .z) (v_ (.s (.s .z)))) (a_one (y_ix ix_tup ix_d (v_ (.s .z)) (v_ (.s (.s .z)))))))))
       (y_one (y_ret y_bl))
       (y_fg (La := L_law_same_0) (.s (.s .z)) y_nil))
      y_nil))
      (y_one (y_ret y_bl))))))))
    (by exact h)⟩
noncomputable def m_law_same : Nat → PyData × PyData → Option Bool
  | 0 => fun _ => none
  | n + 1 => fun y => D_law_same.1 (m_law_same n) _ ((y.1, y.2, (), ()) : Env L_law_same_0) retO
theorem ok_law_same {P : Program} {w : World} {K : Fg} {mg : Str → Option Value} {base : Heap} (T : Txt K mg) : ∀ n, FnOk P w K mg base CX0 (n + 1) T.a_law_same T.d_law_same ["actual", "due"] (spP K (rCons tDat (rOne tDat)) tBool (m_law_same n))
  | 0 => FnOk.void fun _ _ _ _ ⟨_, _, _, _, _, h, _⟩ => nomatch h
  | n + 1 => fnP (k := n + 1) (L := L_law_same_0) (L' := []) (m := D_law_same.1 (m_law_same n)) (fun y => (y.1, y.2, (), ())) T.F_law_same sc_law_same hs2 (pars2 (n := 1) rfl) (fun _ => rfl) (fun cdv A outer s H E hr => D_law_same.2 (m_law_same n) (n + 1) T (ok_law_same T n) cdv A outer s H E hr)
theorem same_law : SameOk m_law_same := same_A fun n d e => rfl

theorem sc_law_every : FnScope ["waits", "found", "wait"] ["waits"] (defScope s_law_every) := ⟨rfl, rfl, rfl, by decide +kernel, rfl, by decide +kernel, by decide +kernel⟩
abbrev L_law_every_0 : List L3.Loc := [lImm (tAll tInt), lNone, lNone]
abbrev L_law_every_1 : List L3.Loc := [lImm (tAll tInt), lOwn (oLst tInt) none, lNone]
abbrev L_law_every_2 : List L3.Loc := [lImm (tAll tInt), lOwn (oLst tInt) none, lImm tInt]
set_option maxHeartbeats 8000000 in
/-- def _law_every(waits): -/
noncomputable def D_law_every : { m : Ms (L_law_every_0) [] [] (rsO (oLst tInt)) // ∀ {P : Program} {w : World} {K : Fg} {mg : Str → Option Value} {base : Heap} (T : Txt K mg) (cdv : Value) (A : Around) (outer : List PySem.Env) (s : Shared) (H : Hp) (E : XK), Room 0 (A.deeper (envOfC "_law_every" (defScope s_law_every) s.heap.objs.size T.a_law_every cdv)) →
    PSs (cxOf CX0 P w K mg base ["waits", "found", "wait"] "_law_every" (defScope s_law_every) T.a_law_every cdv A outer s H E).nox (defBody s_law_every) (tS K (L_law_every_0) [] [] (rsO (oLst tInt)) (m)) } :=
  ⟨_, fun {P w K mg base} T cdv A outer s H E hr =>
    have h : PSs (cxOf CX0 P w K mg base ["waits", "found", "wait"] "_law_every" (defScope s_law_every) T.a_law_every cdv A outer s H E).nox (defBody s_law_every) (tS K (L_law_every_0) [] [] (rsO (oLst tInt)) _) :=
    (y_cons (La := L_law_every_1) (y_asgO (.s .z) sc_law_every.nd rfl (by first | exact .inl rfl | exact .inr rfl) (y_lst (a_consA y_int a_nilA)))
      (y_cons (La := L_law_every_1) (y_for (vs := [2]) (Lb := L_law_every_2) PassesOwn.never rfl (i_tup (v_ .z)) (g_name (i := 2) (.s (.s .z)) (by exact sc_law_every.nd) rfl (by first | exact .inl rfl | exact .inr rfl))
       (y_cons (La := L_law_every_2) (y_expr (y_met (.s .z) rfl (by first | exact .inl rfl | exact .inr (.inl rfl) | exact .inr (.inr rfl)) PySem.F.plainAttrs_list PySem.F.slot_list_append PySem.F.type_list_append mt_append ownTy m_append (a_one (y_binT op_add o_add (y_ixO (.s .z) rfl (by first | exact .inl rfl | exact .inr (.inl rfl) | exact .inr (.inr rfl)) (y_un un_neg o_neg y_int)) (v_ (.s (.s .z)))))))
      (y_fg (La := L_law_every_1) (.s (.s .z)) y_nil)))
      (y_one (y_retN (.s .z) rfl (by first | exact .inl rfl | exact .inr (.inl rfl) | exact .inr (.inr rfl))))))
    (by exact h)⟩
noncomputable def m_law_every (y : (List Int)) : Option (List Int) := D_law_every.1 _ ((y, (), (), ()) : Env L_law_every_0) retO
theorem ok_law_every {P : Program} {w : World} {K : Fg} {mg : Str → Option Value} {base : Heap} (T : Txt K mg) : FnOk P w K mg base CX0 1 T.a_law_every T.d_law_every ["waits"] (spO K (rOne (tAll tInt)) (oLst tInt) m_law_every) :=
  fnO (k := 0) (L := L_law_every_0) (L' := []) (m := D_law_every.1) (fun y => (y, (), (), ())) T.F_law_every sc_law_every hs1 (pars1 (n := 2) rfl) (fun _ => rfl) (fun cdv A outer s H E hr => D_law_every.2 T cdv A outer s H E hr)
theorem sc_law_is_twice : FnScope ["waits", "machine", "minute", "late", "every", "own"] ["waits", "machine", "minute", "late"] (defScope s_law_is_twice) := ⟨rfl, rfl, rfl, by decide +kernel, rfl, by decide +kernel, by decide +kernel⟩
abbrev L_law_is_twice_0 : List L3.Loc := [lImm (tAll tInt), lImm tInt, lImm tInt, lImm tInt, lNone, lNone]
abbrev L_law_is_twice_1 : List L3.Loc := [lImm (tAll tInt), lImm tInt, lImm tInt, lImm tInt, lImm (tLst tInt), lNone]
abbrev L_law_is_twice_2 : List L3.Loc := [lImm (tAll tInt), lImm tInt, lImm tInt, lImm tInt, lImm (tLst tInt), lImm tInt]
set_option maxHeartbeats 8000000 in
/-- def _law_is_twice(waits, machine, minute, late): -/
noncomputable def D_law_is_twice : { m : Ms (L_law_is_twice_0) [] [] (rsT tBool) // ∀ {P : Program} {w : World} {K : Fg} {mg : Str → Option Value} {base : Heap} (T : Txt K mg) (cdv : Value) (A : Around) (outer : List PySem.Env) (s : Shared) (H : Hp) (E : XK), Room 1 (A.deeper (envOfC "_law_is_twice" (defScope s_law_is_twice) s.heap.objs.size T.a_law_is_twice cdv)) →
    PSs (cxOf CX0 P w K mg base ["waits", "machine", "minute", "late", "every", "own"] "_law_is_twice" (defScope s_law_is_twice) T.a_law_is_twice cdv A outer s H E).nox (defBody s_law_is_twice) (tS K (L_law_is_twice_0) [] [] (rsT tBool) (m)) } :=
  ⟨_, fun {P w K mg base} T cdv A outer s H E hr =>
    have h : PSs (cxOf CX0 P w K mg base ["waits", "machine", "minute", "late", "every", "own"] "_law_is_twice" (defScope s_law_is_twice) T.a_law_is_twice cdv A outer s H E).nox (defBody s_law_is_twice) (tS K (L_law_is_twice_0) [] [] (rsT tBool) _) :=
    (y_cons (La := L_law_is_twice_1) (y_asg (.s (.s (.s (.s .z)))) sc_law_is_twice.nd rfl (by first | exact .inl rfl | exact .inr rfl) (y_fz (O := (oLst tInt)) (y_callO (ok_law_every T) (hr.mono (by decide)) (by rfl) T.m_law_every T.F_law_every.kp T.b_law_every (a_one (v_ .z)))))
      (y_one (y_ret (y_cmp op_gt o_gt (y_cB call_len_seq c_lenL (by rfl) T.n_len (by decide +kernel) (a_one (y_fz (O := (oLst tInt)) (y_comp (own := [("own", 5)]) (vs := [5]) (ws := [5]) (Lw := L_law_is_twice_1) (Lb := L_law_is_twice_2) (.keep (by decide) (.keep (by decide) (.keep (by decide) (.keep (by decide) (.keep (by decide) (.non .nil)))))) (.keep (by decide) (.keep (by decide) (.keep (by decide) (.keep (by decide) (.keep (by decide) (.imm .nil)))))) rfl (by decide) rfl sc_law_is_twice.nd (i_range (by rfl) T.n_range (y_cB call_len_seq c_lenL (by rfl) T.n_len (by decide +kernel) (a_one (v_ (.s (.s (.s (.s .z)))))))) (blkOk_by (own := [("own", 5)]) (N := ["waits", "machine", "minute", "late", "every", "own"]) (sc := defScope s_law_is_twice) (by decide +kernel)) (fun _ _ _ _ _ => (g_name (i := 5) (.s (.s (.s (.s (.s .z))))) (by exact sc_law_is_twice.nd) rfl (by first | exact .inl rfl | exact .inr rfl))) (fun _ _ _ _ _ => (t_one (PW.pt (y_and (y_cmpT op_ne o_neI (v_ (.s (.s (.s (.s (.s .z)))))) (v_ (.s .z)) (nomark _)) (y_and (y_cmpT op_ge o_ge (y_ix ix_list ix_l (v_ (.s (.s (.s (.s .z))))) (v_ (.s (.s (.s (.s (.s .z))))))) (v_ (.s (.s .z))) (nomark _)) (y_and1 (y_cmpT op_lt o_lt (y_ix ix_list ix_l (v_ (.s (.s (.s (.s .z))))) (v_ (.s (.s (.s (.s (.s .z))))))) (y_binT op_add o_add (v_ (.s (.s .z))) (v_ (.s (.s (.s .z))))) (nomark _)))))))) (fun _ _ _ _ _ => (v_ (.s (.s (.s (.s (.s .z))))))))))) y_int (nomark _)))))
    (by exact h)⟩
noncomputable def m_law_is_twice (y : (List Int) × Int × Int × Int) : Option Bool := D_law_is_twice.1 _ ((y.1, y.2.1, y.2.2.1, y.2.2.2, (), (), ()) : Env L_law_is_twice_0) retO
theorem ok_law_is_twice {P : Program} {w : World} {K : Fg} {mg : Str → Option Value} {base : Heap} (T : Txt K mg) : FnOk P w K mg base CX0 2 T.a_law_is_twice T.d_law_is_twice ["waits", "machine", "minute", "late"] (spP K (rCons (tAll tInt) (rCons tInt (rCons tInt (rOne tInt)))) tBool m_law_is_twice) :=
  fnP (k := 1) (L := L_law_is_twice_0) (L' := []) (m := D_law_is_twice.1) (fun y => (y.1, y.2.1, y.2.2.1, y.2.2.2, (), (), ())) T.F_law_is_twice sc_law_is_twice hs4 (pars4 (n := 2) rfl) (fun _ => rfl) (fun cdv A outer s H E hr => D_law_is_twice.2 T cdv A outer s H E hr)
theorem sc_law_least : FnScope ["waits", "lag", "every", "machine", "minute", "late"] ["waits", "lag"] (defScope s_law_least) := ⟨rfl, rfl, rfl, by decide +kernel, rfl, by decide +kernel, by decide +kernel⟩
abbrev L_law_least_0 : List L3.Loc := [lImm (tAll tInt), lImm tInt, lNone, lNone, lNone, lNone]
abbrev L_law_least_1 : List L3.Loc := [lImm (tAll tInt), lImm tInt, lImm (tLst tInt), lNone, lNone, lNone]
abbrev L_law_least_2 : List L3.Loc := [lImm (tAll tInt), lImm tInt, lImm (tLst tInt), lImm tInt, lNone, lNone]
abbrev L_law_least_3 : List L3.Loc := [lImm (tAll tInt), lImm tInt, lImm (tLst tInt), lImm tInt, lImm tInt, lNone]
abbrev L_law_least_4 : List L3.Loc := [lImm (tAll tInt), lImm tInt, lImm (tLst tInt), lImm tInt, lImm tInt, lImm tInt]
set_option maxHeartbeats 8000000 in
/-- def _law_least(waits, lag): -/
noncomputable def D_law_least : { m : Ms (L_law_least_0) [] [] (rsT (tOpt (tTup (rCons tInt (rCons tInt (rOne tInt)))))) // ∀ {P : Program} {w : World} {K : Fg} {mg : Str → Option Value} {base : Heap} (T : Txt K mg) (cdv : Value) (A : Around) (outer : List PySem.Env) (s : Shared) (H : Hp) (E : XK), Room 2 (A.deeper (envOfC "_law_least" (defScope s_law_least) s.heap.objs.size T.a_law_least cdv)) →
    PSs (cxOf CX0 P w K mg base ["waits", "lag", "every", "machine", "minute", "late"] "_law_least" (defScope s_law_least) T.a_law_least cdv A outer s H E).nox (defBody s_law_least) (tS K (L_law_least_0) [] [] (rsT (tOpt (tTup (rCons tInt (rCons tInt (rOne tInt)))))) (m)) } :=
  ⟨_, fun {P w K mg base} T cdv A outer s H E hr =>
    have h : PSs (cxOf CX0 P w K mg base ["waits", "lag", "every", "machine", "minute", "late"] "_law_least" (defScope s_law_least) T.a_law_least cdv A outer s H E).nox (defBody s_law_least) (tS K (L_law_least_0) [] [] (rsT (tOpt (tTup (rCons tInt (rCons tInt (rOne tInt)))))) _) :=
    (y_cons (La := L_law_least_1) (y_asg (.s (.s .z)) sc_law_least.nd rfl (by first | exact .inl rfl | exact .inr rfl) (y_fz (O := (oLst tInt)) (y_callO (ok_law_every T) (hr.mono (by decide)) (by rfl) T.m_law_every T.F_law_every.kp T.b_law_every (a_one (v_ .z)))))
      (y_cons (La := L_law_least_1) (y_for (vs := [3]) (Lb := L_law_least_2) PassesOwn.never rfl (i_range (by rfl) T.n_range (y_cB call_len_seq c_lenL (by rfl) T.n_len (by decide +kernel) (a_one (v_ (.s (.s .z)))))) (g_name (i := 3) (.s (.s (.s .z))) (by exact sc_law_least.nd) rfl (by first | exact .inl rfl | exact .inr rfl))
       (y_cons (La := L_law_least_2) (y_for (vs := [4]) (Lb := L_law_least_3) PassesOwn.never rfl (i_range2 (by rfl) T.n_range (y_binT op_add o_add (y_ix ix_list ix_l (v_ (.s (.s .z))) (v_ (.s (.s (.s .z))))) y_int) (y_binT op_add o_add (y_ix ix_list ix_l (v_ (.s (.s .z))) (y_un un_neg o_neg y_int)) y_int)) (g_name (i := 4) (.s (.s (.s (.s .z)))) (by exact sc_law_least.nd) rfl (by first | exact .inl rfl | exact .inr rfl))
       (y_cons (La := L_law_least_3) (y_for (vs := [5]) (Lb := L_law_least_4) PassesOwn.never rfl (i_range (by rfl) T.n_range (y_binT op_add o_add (v_ (.s .z)) y_int)) (g_name (i := 5) (.s (.s (.s (.s (.s .z))))) (by exact sc_law_least.nd) rfl (by first | exact .inl rfl | exact .inr rfl))
       (y_cons (La := L_law_least_3) (y_if (y_val (y_call (ok_law_is_twice T) (hr.mono (by decide)) (by rfl) T.m_law_is_twice T.F_law_is_twice.kp T.b_law_is_twice (a_cons (v_ .z) (a_cons (v_ (.s (.s (.s .z)))) (a_cons (v_ (.s (.s (.s (.s .z))))) (a_one (v_ (.s (.s (.s (.s (.s .z))))))))))))
       (y_one (y_ret (y_some rfl (y_tup (a_cons (v_ (.s (.s (.s .z)))) (a_cons (v_ (.s (.s (.s (.s .z))))) (a_one (v_ (.s (.s (.s (.s (.s .z))))))))) hl3))))
       (y_fg (La := L_law_least_3) (.s (.s (.s (.s (.s .z))))) y_nil))
      y_nil))
      (y_fg (La := L_law_least_2) (.s (.s (.s (.s .z)))) y_nil)))
      (y_fg (La := L_law_least_1) (.s (.s (.s .z))) y_nil)))
      (y_one (y_ret y_none))))
    (by exact h)⟩
noncomputable def m_law_least (y : (List Int) × Int) : Option (Option (Int × Int × Int)) := D_law_least.1 _ ((y.1, y.2, (), (), (), (), ()) : Env L_law_least_0) retO
theorem ok_law_least {P : Program} {w : World} {K : Fg} {mg : Str → Option Value} {base : Heap} (T : Txt K mg) : FnOk P w K mg base CX0 3 T.a_law_least T.d_law_least ["waits", "lag"] (spP K (rCons (tAll tInt) (rOne tInt)) (tOpt (tTup (rCons tInt (rCons tInt (rOne tInt))))) m_law_least) :=
  fnP (k := 2) (L := L_law_least_0) (L' := []) (m := D_law_least.1) (fun y => (y.1, y.2, (), (), (), (), ())) T.F_law_least sc_law_least hs2 (pars2 (n := 4) rfl) (fun _ => rfl) (fun cdv A outer s H E hr => D_law_least.2 T cdv A outer s H E hr)
theorem sc_law_small_right : FnScope ["draws", "waits", "lag", "least", "plain", "every", "turn", "machine", "minute", "late", "told", "sent", "own"] ["draws", "waits", "lag"] (defScope s_law_small_right) := ⟨rfl, rfl, rfl, by decide +kernel, rfl, by decide +kernel, by decide +kernel⟩
abbrev L_law_small_right_0 (d : Addr) : List L3.Loc := [lOwn (oLst tInt) (some d), lImm (tAll tInt), lImm tInt, lNone, lNone, lNone, lNone, lNone, lNone, lNone, lNone, lNone, lNone]
abbrev L_law_small_right_1 (d : Addr) : List L3.Loc := [lOwn (oLst tInt) (some d), lImm (tAll tInt), lImm tInt, lImm (tOpt (tTup (rCons tInt (rCons tInt (rOne tInt))))), lNone, lNone, lNone, lNone, lNone, lNone, lNone, lNone, lNone]
abbrev L_law_small_right_2 (d : Addr) : List L3.Loc := [lOwn (oLst tInt) (some d), lImm (tAll tInt), lImm tInt, lImm (tOpt (tTup (rCons tInt (rCons tInt (rOne tInt))))), lImm tBool, lNone, lNone, lNone, lNone, lNone, lNone, lNone, lNone]
abbrev L_law_small_right_3 (d : Addr) : List L3.Loc := [lOwn (oLst tInt) (some d), lImm (tAll tInt), lImm tInt, lImm (tOpt (tTup (rCons tInt (rCons tInt (rOne tInt))))), lNone, lImm (tLst tInt), lNone, lNone, lNone, lNone, lNone, lNone, lNone]
abbrev L_law_small_right_4 (d : Addr) : List L3.Loc := [lOwn (oLst tInt) (some d), lImm (tAll tInt), lImm tInt, lImm (tOpt (tTup (rCons tInt (rCons tInt (rOne tInt))))), lNone, lImm (tLst tInt), lImm tInt, lNone, lNone, lNone, lNone, lNone, lNone]
abbrev L_law_small_right_5 (d : Addr) : List L3.Loc := [lOwn (oLst tInt) (some d), lImm (tAll tInt), lImm tInt, lImm (tOpt (tTup (rCons tInt (rCons tInt (rOne tInt))))), lNone, lImm (tLst tInt), lImm tInt, lImm tInt, lNone, lNone, lNone, lNone, lNone]
abbrev L_law_small_right_6 (d : Addr) : List L3.Loc := [lOwn (oLst tInt) (some d), lImm (tAll tInt), lImm tInt, lImm (tOpt (tTup (rCons tInt (rCons tInt (rOne tInt))))), lNone, lImm (tLst tInt), lImm tInt, lImm tInt, lImm tInt, lNone, lNone, lNone, lNone]
abbrev L_law_small_right_7 (d : Addr) : List L3.Loc := [lOwn (oLst tInt) (some d), lImm (tAll tInt), lImm tInt, lImm (tOpt (tTup (rCons tInt (rCons tInt (rOne tInt))))), lNone, lImm (tLst tInt), lImm tInt, lImm tInt, lImm tInt, lImm tInt, lNone, lNone, lNone]
abbrev L_law_small_right_8 (d : Addr) : List L3.Loc := [lOwn (oLst tInt) (some d), lImm (tAll tInt), lImm tInt, lImm (tOpt (tTup (rCons tInt (rCons tInt (rOne tInt))))), lNone, lImm (tLst tInt), lImm tInt, lImm tInt, lImm tInt, lImm tInt, lImm tBool, lNone, lNone]
abbrev L_law_small_right_9 (d : Addr) : List L3.Loc := [lOwn (oLst tInt) (some d), lImm (tAll tInt), lImm tInt, lImm (tOpt (tTup (rCons tInt (rCons tInt (rOne tInt))))), lNone, lImm (tLst tInt), lNone, lImm tInt, lImm tInt, lImm tInt, lImm tBool, lNone, lNone]
abbrev L_law_small_right_10 (d : Addr) : List L3.Loc := [lOwn (oLst tInt) (some d), lImm (tAll tInt), lImm tInt, lImm (tOpt (tTup (rCons tInt (rCons tInt (rOne tInt))))), lNone, lImm (tLst tInt), lNone, lImm tInt, lImm tInt, lImm tInt, lImm tBool, lImm (tAll tInt), lNone]
abbrev L_law_small_right_11 (d : Addr) : List L3.Loc := [lOwn (oLst tInt) (some d), lImm (tAll tInt), lImm tInt, lImm (tOpt (tTup (rCons tInt (rCons tInt (rOne tInt))))), lNone, lImm (tLst tInt), lNone, lImm tInt, lImm tInt, lImm tInt, lImm tBool, lImm (tAll tInt), lImm tInt]
abbrev L_law_small_right_12 (d : Addr) : List L3.Loc := [lOwn (oLst tInt) (some d), lImm (tAll tInt), lImm tInt, lImm (tOpt (tTup (rCons tInt (rCons tInt (rOne tInt))))), lNone, lImm (tLst tInt), lNone, lImm tInt, lImm tInt, lNone, lImm tBool, lImm (tAll tInt), lNone]
abbrev L_law_small_right_13 (d : Addr) : List L3.Loc := [lOwn (oLst tInt) (some d), lImm (tAll tInt), lImm tInt, lImm (tOpt (tTup (rCons tInt (rCons tInt (rOne tInt))))), lNone, lImm (tLst tInt), lNone, lImm tInt, lImm tInt, lNone, lImm tBool, lImm (tAll tInt), lImm tInt]
abbrev L_law_small_right_14 (d : Addr) : List L3.Loc := [lOwn (oLst tInt) (some d), lImm (tAll tInt), lImm tInt, lImm (tOpt (tTup (rCons tInt (rCons tInt (rOne tInt))))), lNone, lImm (tLst tInt), lNone, lNone, lNone, lNone, lNone, lImm (tAll tInt), lNone]
abbrev L_law_small_right_15 (d : Addr) : List L3.Loc := [lOwn (oLst tInt) (some d), lImm (tAll tInt), lImm tInt, lImm (tOpt (tTup (rCons tInt (rCons tInt (rOne tInt))))), lNone, lImm (tLst tInt), lNone, lNone, lNone, lNone, lImm tBool, lImm (tAll tInt), lNone]
abbrev L_law_small_right_16 (d : Addr) : List L3.Loc := [lOwn (oLst tInt) (some d), lImm (tAll tInt), lImm tInt, lImm (tOpt (tTup (rCons tInt (rCons tInt (rOne tInt))))), lNone, lImm (tLst tInt), lNone, lNone, lImm tInt, lNone, lImm tBool, lImm (tAll tInt), lNone]
abbrev L_law_small_right_17 (d : Addr) : List L3.Loc := [lOwn (oLst tInt) (some d), lImm (tAll tInt), lImm tInt, lImm (tOpt (tTup (rCons tInt (rCons tInt (rOne tInt))))), lNone, lImm (tLst tInt), lNone, lImm tInt, lNone, lNone, lNone, lNone, lNone]
abbrev L_law_small_right_18 (d : Addr) : List L3.Loc := [lOwn (oLst tInt) (some d), lImm (tAll tInt), lImm tInt, lImm (tOpt (tTup (rCons tInt (rCons tInt (rOne tInt))))), lNone, lImm (tLst tInt), lNone, lImm tInt, lImm tInt, lNone, lNone, lNone, lNone]
abbrev L_law_small_right_19 (d : Addr) : List L3.Loc := [lOwn (oLst tInt) (some d), lImm (tAll tInt), lImm tInt, lImm (tOpt (tTup (rCons tInt (rCons tInt (rOne tInt))))), lNone, lImm (tLst tInt), lNone, lImm tInt, lImm tInt, lImm tInt, lNone, lNone, lNone]
abbrev L_law_small_right_20 (d : Addr) : List L3.Loc := [lOwn (oLst tInt) (some d), lImm (tAll tInt), lImm tInt, lNone, lNone, lNone, lNone, lNone, lNone, lImm tInt, lNone, lNone, lNone]
abbrev L_law_small_right_21 (d : Addr) : List L3.Loc := [lOwn (oLst tInt) (some d), lImm (tAll tInt), lImm tInt, lNone, lNone, lNone, lNone, lNone, lImm tInt, lImm tInt, lNone, lNone, lNone]
abbrev L_law_small_right_22 (d : Addr) : List L3.Loc := [lOwn (oLst tInt) (some d), lImm (tAll tInt), lImm tInt, lNone, lNone, lNone, lNone, lImm tInt, lImm tInt, lImm tInt, lNone, lNone, lNone]
abbrev L_law_small_right_23 (d : Addr) : List L3.Loc := [lOwn (oLst tInt) (some d), lImm (tAll tInt), lImm tInt, lNone, lNone, lImm (tLst tInt), lNone, lImm tInt, lImm tInt, lImm tInt, lNone, lNone, lNone]
abbrev L_law_small_right_24 (d : Addr) : List L3.Loc := [lOwn (oLst tInt) (some d), lImm (tAll tInt), lNone, lNone, lNone, lNone, lNone, lNone, lNone, lNone, lNone, lNone, lNone]
abbrev L_law_small_right_25 (d : Addr) : List L3.Loc := [lOwn (oLst tInt) (some d), lImm (tAll tInt), lNone, lNone, lNone, lImm (tLst tInt), lNone, lNone, lNone, lNone, lNone, lNone, lNone]
abbrev L_law_small_right_26 (d : Addr) : List L3.Loc := [lOwn (oLst tInt) (some d), lImm (tAll tInt), lNone, lImm (tOpt (tTup (rCons tInt (rCons tInt (rOne tInt))))), lNone, lImm (tLst tInt), lNone, lNone, lNone, lNone, lNone, lNone, lNone]
set_option maxHeartbeats 8000000 in
/-- def _law_small_right(draws, waits, lag): -/
noncomputable def D_law_small_right : { m : (d : Addr) → Ms (L_law_small_right_0 d) [] [] (rsM d (oLst tInt) tBool) // ∀ {P : Program} {w : World} {K : Fg} {mg : Str → Option Value} {base : Heap} (T : Txt K mg) (d : Addr) (cdv : Value) (A : Around) (outer : List PySem.Env) (s : Shared) (H : Hp) (E : XK), Room 40 (A.deeper (envOfC "_law_small_right" (defScope s_law_small_right) s.heap.objs.size T.a_law_small_right cdv)) →
    PSs (cxOf CX0 P w K mg base ["draws", "waits", "lag", "least", "plain", "every", "turn", "machine", "minute", "late", "told", "sent", "own"] "_law_small_right" (defScope s_law_small_right) T.a_law_small_right cdv A outer s H E).nox (defBody s_law_small_right) (tS K (L_law_small_right_0 d) [] [] (rsM d (oLst tInt) tBool) (m d)) } :=
  ⟨_, fun {P w K mg base} T d cdv A outer s H E hr =>
    have h : PSs (cxOf CX0 P w K mg base ["draws", "waits", "lag", "least", "plain", "every", "turn", "machine", "minute", "late", "told", "sent", "own"] "_law_small_right" (defScope s_law_small_right) T.a_law_small_right cdv A outer s H E).nox (defBody s_law_small_right) (tS K (L_law_small_right_0 d) [] [] (rsM d (oLst tInt) tBool) _) :=
    (y_cons (La := (L_law_small_right_1 d)) (y_asg (.s (.s (.s .z))) sc_law_small_right.nd rfl (by first | exact .inl rfl | exact .inr rfl) (y_call (ok_law_least T) (hr.mono (by decide)) (by rfl) T.m_law_least T.F_law_least.kp T.b_law_least (a_cons (v_ (.s .z)) (a_one (v_ (.s (.s .z)))))))
      (y_cons (La := (L_law_small_right_1 d)) (y_if (PW.pt (y_or (y_not (y_val (y_same dBool same_law (ok_law_same T) (hr.mono (by decide)) (by rfl) T.m_law_same T.F_law_same.kp T.b_law_same (y_call (ok_never_twice T) (hr.mono (by decide)) (by rfl) T.m_never_twice T.F_never_twice.kp T.b_never_twice (a_cons (v_ (.s .z)) (a_one (v_ (.s (.s .z)))))) (y_isN (v_ (.s (.s (.s .z)))))))) (y_or1 (y_not (y_val (y_same (dOpt (dTup (eCons dInt (eCons dInt (eOne dInt))))) same_law (ok_law_same T) (hr.mono (by decide)) (by rfl) T.m_law_same T.F_law_same.kp T.b_law_same (y_call (ok_twice_course T) (hr.mono (by decide)) (by rfl) T.m_twice_course T.F_twice_course.kp T.b_twice_course (a_cons (v_ (.s .z)) (a_one (v_ (.s (.s .z)))))) (v_ (.s (.s (.s .z))))))))))
       (y_one (y_retM .z y_bl))
       y_nil)
      (y_cons (La := (L_law_small_right_2 d)) (y_asg (.s (.s (.s (.s .z)))) sc_law_small_right.nd rfl (by first | exact .inl rfl | exact .inr rfl) (y_vor (y_cmp op_eq o_eqI (y_cB call_len_seq c_lenT (by rfl) T.n_len (by decide +kernel) (a_one (v_ (.s .z)))) y_int (nomark _)) (y_vor (y_cmp op_eq o_eqI (v_ (.s (.s .z))) y_int (nomark _)) (y_vone (y_cmp op_eq o_eqI (y_cB (cr_maxT rfl) c_maxT (by rfl) T.n_max (by decide +kernel) (a_one (v_ (.s .z)))) y_int (nomark _))))))
      (y_cons (La := (L_law_small_right_1 d)) (y_if (y_cmpT op_ne o_neB (v_ (.s (.s (.s (.s .z))))) (y_isN (v_ (.s (.s (.s .z))))) (nomark _))
       (y_one (y_retM .z y_bl))
       (y_fg (La := (L_law_small_right_1 d)) (.s (.s (.s (.s .z)))) y_nil))
      (y_cons (La := (L_law_small_right_3 d)) (y_asg (.s (.s (.s (.s (.s .z))))) sc_law_small_right.nd rfl (by first | exact .inl rfl | exact .inr rfl) (y_fz (O := (oLst tInt)) (y_callO (ok_law_every T) (hr.mono (by decide)) (by rfl) T.m_law_every T.F_law_every.kp T.b_law_every (a_one (v_ (.s .z))))))
      (y_cons (La := (L_law_small_right_3 d)) (y_for (vs := [6]) (Lb := (L_law_small_right_4 d)) PassesOwn.never rfl (i_range (by rfl) T.n_range y_int) (g_name (i := 6) (.s (.s (.s (.s (.s (.s .z)))))) (by exact sc_law_small_right.nd) rfl (by first | exact .inl rfl | exact .inr rfl))
       (y_cons (La := (L_law_small_right_5 d)) (y_asg (.s (.s (.s (.s (.s (.s (.s .z))))))) sc_law_small_right.nd rfl (by first | exact .inl rfl | exact .inr rfl) (y_callM .z rfl (by first | exact .inl rfl | exact .inr (.inl rfl) | exact .inr (.inr rfl)) (ok_law_take T) (hr.mono (by decide)) (by rfl) T.m_law_take T.F_law_take.kp T.b_law_take (a_one (y_cB call_len_seq c_lenL (by rfl) T.n_len (by decide +kernel) (a_one (v_ (.s (.s (.s (.s (.s .z)))))))))))
      (y_cons (La := (L_law_small_right_6 d)) (y_asg (.s (.s (.s (.s (.s (.s (.s (.s .z)))))))) sc_law_small_right.nd rfl (by first | exact .inl rfl | exact .inr rfl) (y_binT op_add o_add (y_binT op_add o_add (y_ix ix_list ix_l (v_ (.s (.s (.s (.s (.s .z)))))) (v_ (.s (.s (.s (.s (.s (.s (.s .z))))))))) y_int) (y_callM .z rfl (by first | exact .inl rfl | exact .inr (.inl rfl) | exact .inr (.inr rfl)) (ok_law_take T) (hr.mono (by decide)) (by rfl) T.m_law_take T.F_law_take.kp T.b_law_take (a_one y_int))))
      (y_cons (La := (L_law_small_right_7 d)) (y_asg (.s (.s (.s (.s (.s (.s (.s (.s (.s .z))))))))) sc_law_small_right.nd rfl (by first | exact .inl rfl | exact .inr rfl) (y_callM .z rfl (by first | exact .inl rfl | exact .inr (.inl rfl) | exact .inr (.inr rfl)) (ok_law_take T) (hr.mono (by decide)) (by rfl) T.m_law_take T.F_law_take.kp T.b_law_take (a_one (y_binT op_add o_add (v_ (.s (.s .z))) y_int))))
      (y_cons (La := (L_law_small_right_8 d)) (y_asg (.s (.s (.s (.s (.s (.s (.s (.s (.s (.s .z)))))))))) sc_law_small_right.nd rfl (by first | exact .inl rfl | exact .inr rfl) (y_call (ok_is_twice T) (hr.mono (by decide)) (by rfl) T.m_is_twice T.F_is_twice.kp T.b_is_twice (a_cons (v_ (.s .z)) (a_cons (y_some rfl (y_tup (a_cons (v_ (.s (.s (.s (.s (.s (.s (.s .z)))))))) (a_one (v_ (.s (.s (.s (.s (.s (.s (.s (.s .z))))))))))) hl2)) (a_one (v_ (.s (.s (.s (.s (.s (.s (.s (.s (.s .z)))))))))))))))
      (y_cons (La := (L_law_small_right_9 d)) (y_if (PW.pt (y_or (y_not (y_val (y_same dBool same_law (ok_law_same T) (hr.mono (by decide)) (by rfl) T.m_law_same T.F_law_same.kp T.b_law_same (v_ (.s (.s (.s (.s (.s (.s (.s (.s (.s (.s .z))))))))))) (y_call (ok_law_is_twice T) (hr.mono (by decide)) (by rfl) T.m_law_is_twice T.F_law_is_twice.kp T.b_law_is_twice (a_cons (v_ (.s .z)) (a_cons (v_ (.s (.s (.s (.s (.s (.s (.s .z)))))))) (a_cons (v_ (.s (.s (.s (.s (.s (.s (.s (.s .z))))))))) (a_one (v_ (.s (.s (.s (.s (.s (.s (.s (.s (.s .z)))))))))))))))))) (y_or1 (PW.pt (y_andP (fun _ _ _ => rfl) (fun _ _ _ => rfl) (y_val (v_ (.s (.s (.s (.s (.s (.s (.s (.s (.s (.s .z)))))))))))) (y_and1 (y_isNT (v_ (.s (.s (.s .z)))))))))))
       (y_one (y_retM .z y_bl))
       (y_fg (La := (L_law_small_right_9 d)) (.s (.s (.s (.s (.s (.s .z)))))) y_nil))
      (y_cons (La := (L_law_small_right_10 d)) (y_asg (.s (.s (.s (.s (.s (.s (.s (.s (.s (.s (.s .z))))))))))) sc_law_small_right.nd rfl (by first | exact .inl rfl | exact .inr rfl) (y_call (ok_sent_minutes T) (hr.mono (by decide)) (by rfl) T.m_sent_minutes T.F_sent_minutes.kp T.b_sent_minutes (a_cons (v_ (.s .z)) (a_cons (y_some rfl (y_tup (a_cons (v_ (.s (.s (.s (.s (.s (.s (.s .z)))))))) (a_one (v_ (.s (.s (.s (.s (.s (.s (.s (.s .z))))))))))) hl2)) (a_one (v_ (.s (.s (.s (.s (.s (.s (.s (.s (.s .z)))))))))))))))
      (y_cons (La := (L_law_small_right_12 d)) (y_if (PW.pt (y_or (y_not (y_val (y_same (dAll dInt) same_law (ok_law_same T) (hr.mono (by decide)) (by rfl) T.m_law_same T.F_law_same.kp T.b_law_same (v_ (.s (.s (.s (.s (.s (.s (.s (.s (.s (.s (.s .z)))))))))))) (y_cT call_tuple_of c_tuple (by rfl) T.n_tuple (by decide +kernel) (a_one (y_fz (O := (oLst tInt)) (y_comp (own := [("own", 12)]) (vs := [12]) (ws := [12]) (Lw := (L_law_small_right_10 d)) (Lb := (L_law_small_right_11 d)) (.keep (by decide) (.keep (by decide) (.keep (by decide) (.keep (by decide) (.keep (by decide) (.keep (by decide) (.keep (by decide) (.keep (by decide) (.keep (by decide) (.keep (by decide) (.keep (by decide) (.keep (by decide) (.non .nil))))))))))))) (.keep (by decide) (.keep (by decide) (.keep (by decide) (.keep (by decide) (.keep (by decide) (.keep (by decide) (.keep (by decide) (.keep (by decide) (.keep (by decide) (.keep (by decide) (.keep (by decide) (.keep (by decide) (.imm .nil))))))))))))) rfl (by decide) rfl sc_law_small_right.nd (i_list (v_ (.s (.s (.s (.s (.s .z))))))) (blkOk_by (own := [("own", 12)]) (N := ["draws", "waits", "lag", "least", "plain", "every", "turn", "machine", "minute", "late", "told", "sent", "own"]) (sc := defScope s_law_small_right) (by decide +kernel)) (fun _ _ _ _ _ => (g_name (i := 12) (.s (.s (.s (.s (.s (.s (.s (.s (.s (.s (.s (.s .z)))))))))))) (by exact sc_law_small_right.nd) rfl (by first | exact .inl rfl | exact .inr rfl))) (fun _ _ _ _ _ => (t_one (y_cmpT op_lt o_lt (v_ (.s (.s (.s (.s (.s (.s (.s (.s (.s (.s (.s (.s .z))))))))))))) (y_unw (y_call (ok_known_by T) (hr.mono (by decide)) (by rfl) T.m_known_by T.F_known_by.kp T.b_known_by (a_cons (y_some rfl (y_tup (a_cons (v_ (.s (.s (.s (.s (.s (.s (.s .z)))))))) (a_one (v_ (.s (.s (.s (.s (.s (.s (.s (.s .z))))))))))) hl2)) (a_one (v_ (.s (.s (.s (.s (.s (.s (.s (.s (.s .z)))))))))))))) (nomark _)))) (fun _ _ _ _ _ => (v_ (.s (.s (.s (.s (.s (.s (.s (.s (.s (.s (.s (.s .z))))))))))))))))))))) (y_or1 (y_cmpT op_gt o_gt (y_cB call_len_seq c_lenT (by rfl) T.n_len (by decide +kernel) (a_one (v_ (.s (.s (.s (.s (.s (.s (.s (.s (.s (.s (.s .z)))))))))))))) (y_call (ok_most_sent T) (hr.mono (by decide)) (by rfl) T.m_most_sent T.F_most_sent.kp T.b_most_sent (a_cons (v_ (.s .z)) (a_cons (v_ (.s (.s .z))) (a_one (v_ (.s (.s (.s (.s (.s (.s (.s (.s .z))))))))))))) (nomark _)))))
       (y_one (y_retM .z y_bl))
       (y_fg (La := (L_law_small_right_12 d)) (.s (.s (.s (.s (.s (.s (.s (.s (.s .z))))))))) y_nil))
      (y_cons (La := (L_law_small_right_3 d)) (y_if (y_cmpT op_ne o_neB (v_ (.s (.s (.s (.s (.s (.s (.s (.s (.s (.s .z))))))))))) (y_cmp op_gt o_gt (y_cB call_len_seq c_lenL (by rfl) T.n_len (by decide +kernel) (a_one (y_fz (O := (oLst tInt)) (y_comp (own := [("own", 12)]) (vs := [12]) (ws := [12]) (Lw := (L_law_small_right_12 d)) (Lb := (L_law_small_right_13 d)) (.keep (by decide) (.keep (by decide) (.keep (by decide) (.keep (by decide) (.keep (by decide) (.keep (by decide) (.keep (by decide) (.keep (by decide) (.keep (by decide) (.keep (by decide) (.keep (by decide) (.keep (by decide) (.non .nil))))))))))))) (.keep (by decide) (.keep (by decide) (.keep (by decide) (.keep (by decide) (.keep (by decide) (.keep (by decide) (.keep (by decide) (.keep (by decide) (.keep (by decide) (.keep (by decide) (.keep (by decide) (.keep (by decide) (.imm .nil))))))))))))) rfl (by decide) rfl sc_law_small_right.nd (i_range (by rfl) T.n_range (y_cB call_len_seq c_lenT (by rfl) T.n_len (by decide +kernel) (a_one (v_ (.s (.s (.s (.s (.s (.s (.s (.s (.s (.s (.s .z))))))))))))))) (blkOk_by (own := [("own", 12)]) (N := ["draws", "waits", "lag", "least", "plain", "every", "turn", "machine", "minute", "late", "told", "sent", "own"]) (sc := defScope s_law_small_right) (by decide +kernel)) (fun _ _ _ _ _ => (g_name (i := 12) (.s (.s (.s (.s (.s (.s (.s (.s (.s (.s (.s (.s .z)))))))))))) (by exact sc_law_small_right.nd) rfl (by first | exact .inl rfl | exact .inr rfl))) (fun _ _ _ _ _ => (t_one (PW.pt (y_and (y_cmpT op_ne o_neI (v_ (.s (.s (.s (.s (.s (.s (.s (.s (.s (.s (.s (.s .z))))))))))))) (v_ (.s (.s (.s (.s (.s (.s (.s .z)))))))) (nomark _)) (y_and1 (y_cmpT op_ge o_ge (y_ix ix_tup ix_t (v_ (.s (.s (.s (.s (.s (.s (.s (.s (.s (.s (.s .z)))))))))))) (v_ (.s (.s (.s (.s (.s (.s (.s (.s (.s (.s (.s (.s .z)))))))))))))) (v_ (.s (.s (.s (.s (.s (.s (.s (.s .z))))))))) (nomark _))))))) (fun _ _ _ _ _ => (v_ (.s (.s (.s (.s (.s (.s (.s (.s (.s (.s (.s (.s .z)))))))))))))))))) y_int (nomark _)) (nomark _))
       (y_one (y_retM .z y_bl))
       (y_fg (La := (L_law_small_right_16 d)) (.s (.s (.s (.s (.s (.s (.s .z))))))) (y_fg (La := (L_law_small_right_15 d)) (.s (.s (.s (.s (.s (.s (.s (.s .z)))))))) (y_fg (La := (L_law_small_right_14 d)) (.s (.s (.s (.s (.s (.s (.s (.s (.s (.s .z)))))))))) (y_fg (La := (L_law_small_right_3 d)) (.s (.s (.s (.s (.s (.s (.s (.s (.s (.s (.s .z))))))))))) y_nil)))))
      y_nil)))))))))
      (y_cons (La := (L_law_small_right_24 d)) (y_ifJ (y_notNT (v_ (.s (.s (.s .z)))))
       (y_cons (La := (L_law_small_right_19 d)) (y_asgG (g_tup rfl (gs_cons (La := (L_law_small_right_17 d)) (g_name (i := 7) (.s (.s (.s (.s (.s (.s (.s .z))))))) (by exact sc_law_small_right.nd) rfl (by first | exact .inl rfl | exact .inr rfl)) (gs_cons (La := (L_law_small_right_18 d)) (g_name (i := 8) (.s (.s (.s (.s (.s (.s (.s (.s .z)))))))) (by exact sc_law_small_right.nd) rfl (by first | exact .inl rfl | exact .inr rfl)) (gs_one (g_name (i := 9) (.s (.s (.s (.s (.s (.s (.s (.s (.s .z))))))))) (by exact sc_law_small_right.nd) rfl (by first | exact .inl rfl | exact .inr rfl))))) rl3) (y_unw (v_ (.s (.s (.s .z))))))
      (y_cons (La := (L_law_small_right_0 d)) (y_if (PW.pt (y_or (y_cmpT op_isnot_bl o_isnotB (y_call (ok_is_twice T) (hr.mono (by decide)) (by rfl) T.m_is_twice T.F_is_twice.kp T.b_is_twice (a_cons (v_ (.s .z)) (a_cons (y_some rfl (y_tup (a_cons (v_ (.s (.s (.s (.s (.s (.s (.s .z)))))))) (a_one (v_ (.s (.s (.s (.s (.s (.s (.s (.s .z))))))))))) hl2)) (a_one (v_ (.s (.s (.s (.s (.s (.s (.s (.s (.s .z)))))))))))))) y_bl (nomark _)) (y_or1 (y_cmpT op_isnot_bl o_isnotB (y_call (ok_is_twice T) (hr.mono (by decide)) (by rfl) T.m_is_twice T.F_is_twice.kp T.b_is_twice (a_cons (v_ (.s .z)) (a_cons (y_some rfl (y_tup (a_cons (v_ (.s (.s (.s (.s (.s (.s (.s .z)))))))) (a_one (v_ (.s (.s (.s (.s (.s (.s (.s (.s .z))))))))))) hl2)) (a_one (y_binT op_sub o_sub (v_ (.s (.s (.s (.s (.s (.s (.s (.s (.s .z)))))))))) y_int))))) y_bl (nomark _)))))
       (y_one (y_retM .z y_bl))
       (y_fg (La := (L_law_small_right_23 d)) (.s (.s (.s .z))) (y_fg (La := (L_law_small_right_22 d)) (.s (.s (.s (.s (.s .z))))) (y_fg (La := (L_law_small_right_21 d)) (.s (.s (.s (.s (.s (.s (.s .z))))))) (y_fg (La := (L_law_small_right_20 d)) (.s (.s (.s (.s (.s (.s (.s (.s .z)))))))) (y_fg (La := (L_law_small_right_0 d)) (.s (.s (.s (.s (.s (.s (.s (.s (.s .z))))))))) y_nil))))))
      (y_cons (La := (L_law_small_right_24 d)) (y_if (PW.pt (y_or (y_cmpT op_isnot_bl o_isnotB (y_call (ok_never_twice T) (hr.mono (by decide)) (by rfl) T.m_never_twice T.F_never_twice.kp T.b_never_twice (a_cons (v_ (.s .z)) (a_one (y_binT op_add o_add (v_ (.s (.s .z))) y_int)))) y_bl (nomark _)) (y_or1 (y_cmpT op_isnot_bl o_isnotB (y_call (ok_never_twice T) (hr.mono (by decide)) (by rfl) T.m_never_twice T.F_never_twice.kp T.b_never_twice (a_cons (y_bin op_catA o_catT (v_ (.s .z)) (y_tupA (a_consA (y_callM .z rfl (by first | exact .inl rfl | exact .inr (.inl rfl) | exact .inr (.inr rfl)) (ok_law_take T) (hr.mono (by decide)) (by rfl) T.m_law_take T.F_law_take.kp T.b_law_take (a_one y_int)) a_nilA))) (a_one (v_ (.s (.s .z)))))) y_bl (nomark _)))))
       (y_one (y_retM .z y_bl))
       (y_fg (La := (L_law_small_right_24 d)) (.s (.s .z)) y_nil))
      y_nil)))
       (y_fg (La := (L_law_small_right_26 d)) (.s (.s .z)) (y_fg (La := (L_law_small_right_25 d)) (.s (.s (.s .z))) (y_fg (La := (L_law_small_right_24 d)) (.s (.s (.s (.s (.s .z))))) y_nil))))
      (y_one (y_retM .z (y_vand (y_cmp op_is_bl o_isB (y_call (ok_never_twice T) (hr.mono (by decide)) (by rfl) T.m_never_twice T.F_never_twice.kp T.b_never_twice (a_cons (v_ (.s .z)) (a_one y_int))) y_bl (nomark _)) (y_vone (y_isN (y_call (ok_twice_course T) (hr.mono (by decide)) (by rfl) T.m_twice_course T.F_twice_course.kp T.b_twice_course (a_cons (v_ (.s .z)) (a_one y_int)))))))))))))))
    (by exact h)⟩
noncomputable def m_law_small_right (y0 : (List Int)) (y : (List Int) × Int) : Option (Bool × (List Int)) := (D_law_small_right.1 0) _ ((y0, y.1, y.2, (), (), (), (), (), (), (), (), (), (), ()) : Env (L_law_small_right_0 0)) retO
theorem ok_law_small_right {P : Program} {w : World} {K : Fg} {mg : Str → Option Value} {base : Heap} (T : Txt K mg) : FnOk P w K mg base CX0 41 T.a_law_small_right T.d_law_small_right ["draws", "waits", "lag"] (spM K (oLst tInt) (rCons (tAll tInt) (rOne tInt)) tBool m_law_small_right) :=
  fnM (k := 40) (L := fun d => L_law_small_right_0 d) (L' := fun _ => []) (m := D_law_small_right.1) (fun d y0 y => (y0, y.1, y.2, (), (), (), (), (), (), (), (), (), (), ())) T.F_law_small_right sc_law_small_right hsM2 (fun d => parsM2 (n := 10) rfl) (fun _ _ _ => rfl) (fun d cdv A outer s H E hr => D_law_small_right.2 T d cdv A outer s H E hr)
theorem sc_law_great_right : FnScope ["draws", "script", "waits", "lag", "scale", "great", "far", "later", "due", "first", "minute", "wait", "own"] ["draws", "script", "waits", "lag"] (defScope s_law_great_right) := ⟨rfl, rfl, rfl, by decide +kernel, rfl, by decide +kernel, by decide +kernel⟩
abbrev L_law_great_right_0 (d : Addr) : List L3.Loc := [lOwn (oLst tInt) (some d), lImm (tScr tInt), lImm (tAll tInt), lImm tInt, lNone, lNone, lNone, lNone, lNone, lNone, lNone, lNone, lNone]
abbrev L_law_great_right_1 (d : Addr) : List L3.Loc := [lOwn (oLst tInt) (some d), lImm (tScr tInt), lImm (tAll tInt), lImm tInt, lImm tInt, lNone, lNone, lNone, lNone, lNone, lNone, lNone, lNone]
abbrev L_law_great_right_2 (d : Addr) : List L3.Loc := [lOwn (oLst tInt) (some d), lImm (tScr tInt), lImm (tAll tInt), lImm tInt, lImm tInt, lNone, lNone, lNone, lNone, lNone, lNone, lImm tInt, lNone]
abbrev L_law_great_right_3 (d : Addr) : List L3.Loc := [lOwn (oLst tInt) (some d), lImm (tScr tInt), lImm (tAll tInt), lImm tInt, lImm tInt, lImm (tAll tInt), lNone, lNone, lNone, lNone, lNone, lNone, lNone]
abbrev L_law_great_right_4 (d : Addr) : List L3.Loc := [lOwn (oLst tInt) (some d), lImm (tScr tInt), lImm (tAll tInt), lImm tInt, lImm tInt, lImm (tAll tInt), lImm tInt, lNone, lNone, lNone, lNone, lNone, lNone]
abbrev L_law_great_right_5 (d : Addr) : List L3.Loc := [lOwn (oLst tInt) (some d), lImm (tScr tInt), lImm (tAll tInt), lImm tInt, lImm tInt, lImm (tAll tInt), lImm tInt, lNone, lNone, lNone, lNone, lNone, lImm tInt]
abbrev L_law_great_right_6 (d : Addr) : List L3.Loc := [lOwn (oLst tInt) (some d), lImm (tScr tInt), lImm (tAll tInt), lImm tInt, lImm tInt, lImm (tAll tInt), lImm tInt, lOwn (oLst tInt) none, lNone, lNone, lNone, lNone, lNone]
abbrev L_law_great_right_7 (d : Addr) : List L3.Loc := [lOwn (oLst tInt) (some d), lImm (tScr tInt), lImm (tAll tInt), lImm tInt, lImm tInt, lImm (tAll tInt), lImm tInt, lOwn (oLst tInt) none, lImm (tOpt (tTup (rCons tInt (rCons tInt (rOne tInt))))), lNone, lNone, lNone, lNone]
abbrev L_law_great_right_8 (d : Addr) : List L3.Loc := [lOwn (oLst tInt) (some d), lImm (tScr tInt), lImm (tAll tInt), lImm tInt, lImm tInt, lImm (tAll tInt), lImm tInt, lImm (tLst tInt), lImm (tOpt (tTup (rCons tInt (rCons tInt (rOne tInt))))), lImm tInt, lNone, lNone, lNone]
abbrev L_law_great_right_9 (d : Addr) : List L3.Loc := [lOwn (oLst tInt) (some d), lImm (tScr tInt), lImm (tAll tInt), lImm tInt, lImm tInt, lImm (tAll tInt), lImm tInt, lImm (tLst tInt), lImm (tOpt (tTup (rCons tInt (rCons tInt (rOne tInt))))), lImm tInt, lImm tInt, lNone, lNone]
abbrev L_law_great_right_10 (d : Addr) : List L3.Loc := [lOwn (oLst tInt) (some d), lNone, lImm (tAll tInt), lNone, lImm tInt, lImm (tAll tInt), lImm tInt, lNone, lImm (tOpt (tTup (rCons tInt (rCons tInt (rOne tInt))))), lNone, lNone, lNone, lNone]
abbrev L_law_great_right_11 (d : Addr) : List L3.Loc := [lOwn (oLst tInt) (some d), lNone, lImm (tAll tInt), lNone, lImm tInt, lImm (tAll tInt), lImm tInt, lNone, lImm (tOpt (tTup (rCons tInt (rCons tInt (rOne tInt))))), lNone, lImm tInt, lNone, lNone]
abbrev L_law_great_right_12 (d : Addr) : List L3.Loc := [lOwn (oLst tInt) (some d), lNone, lImm (tAll tInt), lNone, lImm tInt, lImm (tAll tInt), lImm tInt, lNone, lImm (tOpt (tTup (rCons tInt (rCons tInt (rOne tInt))))), lImm tInt, lImm tInt, lNone, lNone]
abbrev L_law_great_right_13 (d : Addr) : List L3.Loc := [lOwn (oLst tInt) (some d), lNone, lImm (tAll tInt), lNone, lImm tInt, lImm (tAll tInt), lImm tInt, lImm (tLst tInt), lImm (tOpt (tTup (rCons tInt (rCons tInt (rOne tInt))))), lImm tInt, lImm tInt, lNone, lNone]
abbrev L_law_great_right_14 (d : Addr) : List L3.Loc := [lOwn (oLst tInt) (some d), lNone, lImm (tAll tInt), lImm tInt, lImm tInt, lImm (tAll tInt), lImm tInt, lImm (tLst tInt), lImm (tOpt (tTup (rCons tInt (rCons tInt (rOne tInt))))), lImm tInt, lImm tInt, lNone, lNone]
abbrev L_law_great_right_15 (d : Addr) : List L3.Loc := [lOwn (oLst tInt) (some d), lNone, lImm (tAll tInt), lNone, lImm tInt, lImm (tAll tInt), lImm tInt, lImm (tLst tInt), lImm (tOpt (tTup (rCons tInt (rCons tInt (rOne tInt))))), lNone, lNone, lNone, lNone]
abbrev L_law_great_right_16 (d : Addr) : List L3.Loc := [lOwn (oLst tInt) (some d), lNone, lImm (tAll tInt), lImm tInt, lImm tInt, lImm (tAll tInt), lImm tInt, lImm (tLst tInt), lImm (tOpt (tTup (rCons tInt (rCons tInt (rOne tInt))))), lNone, lNone, lNone, lNone]
abbrev L_law_great_right_17 (d : Addr) : List L3.Loc := [lOwn (oLst tInt) (some d), lNone, lImm (tAll tInt), lNone, lImm tInt, lImm (tAll tInt), lNone, lNone, lNone, lNone, lNone, lNone, lNone]
abbrev L_law_great_right_18 (d : Addr) : List L3.Loc := [lOwn (oLst tInt) (some d), lNone, lImm (tAll tInt), lNone, lImm tInt, lImm (tAll tInt), lNone, lNone, lImm (tOpt (tTup (rCons tInt (rCons tInt (rOne tInt))))), lNone, lNone, lNone, lNone]
abbrev L_law_great_right_19 (d : Addr) : List L3.Loc := [lOwn (oLst tInt) (some d), lImm (tScr tInt), lImm (tAll tInt), lImm tInt, lImm tInt, lImm (tAll tInt), lImm tInt, lImm (tLst tInt), lImm (tOpt (tTup (rCons tInt (rCons tInt (rOne tInt))))), lNone, lNone, lNone, lNone]
set_option maxHeartbeats 8000000 in
/-- def _law_great_right(draws, script, waits, lag): -/
noncomputable def D_law_great_right : { m : (d : Addr) → Ms (L_law_great_right_0 d) [] [] (rsM d (oLst tInt) tBool) // ∀ {P : Program} {w : World} {K : Fg} {mg : Str → Option Value} {base : Heap} (T : Txt K mg) (d : Addr) (cdv : Value) (A : Around) (outer : List PySem.Env) (s : Shared) (H : Hp) (E : XK), Room 40 (A.deeper (envOfC "_law_great_right" (defScope s_law_great_right) s.heap.objs.size T.a_law_great_right cdv)) →
    PSs (cxOf CX0 P w K mg base ["draws", "script", "waits", "lag", "scale", "great", "far", "later", "due", "first", "minute", "wait", "own"] "_law_great_right" (defScope s_law_great_right) T.a_law_great_right cdv A outer s H E).nox (defBody s_law_great_right) (tS K (L_law_great_right_0 d) [] [] (rsM d (oLst tInt) tBool) (m d)) } :=
  ⟨_, fun {P w K mg base} T d cdv A outer s H E hr =>
    have h : PSs (cxOf CX0 P w K mg base ["draws", "script", "waits", "lag", "scale", "great", "far", "later", "due", "first", "minute", "wait", "own"] "_law_great_right" (defScope s_law_great_right) T.a_law_great_right cdv A outer s H E).nox (defBody s_law_great_right) (tS K (L_law_great_right_0 d) [] [] (rsM d (oLst tInt) tBool) _) :=
    (y_cons (La := (L_law_great_right_1 d)) (y_asg (.s (.s (.s (.s .z)))) sc_law_great_right.nd rfl (by first | exact .inl rfl | exact .inr rfl) (y_binT op_add o_add y_int (y_bin op_mod o_mod (y_call (ok_law_cell T) (hr.mono (by decide)) (by rfl) T.m_law_cell T.F_law_cell.kp T.b_law_cell (a_cons (v_ (.s .z)) (a_one (y_callM .z rfl (by first | exact .inl rfl | exact .inr (.inl rfl) | exact .inr (.inr rfl)) (ok_law_take T) (hr.mono (by decide)) (by rfl) T.m_law_take T.F_law_take.kp T.b_law_take (a_one y_int))))) (y_lit (c := 10000000000000000000000000) op_pow o_pow (by first | (rw [powC_eq]; decide +kernel) | (rw [mulC_eq]; decide +kernel) | (rw [divC_eq]; decide +kernel) | decide +kernel)))))
      (y_cons (La := (L_law_great_right_3 d)) (y_asg (.s (.s (.s (.s (.s .z))))) sc_law_great_right.nd rfl (by first | exact .inl rfl | exact .inr rfl) (y_cT call_tuple_of c_tuple (by rfl) T.n_tuple (by decide +kernel) (a_one (y_fz (O := (oLst tInt)) (y_comp (own := [("wait", 11)]) (vs := [11]) (ws := [11]) (Lw := (L_law_great_right_1 d)) (Lb := (L_law_great_right_2 d)) (.keep (by decide) (.keep (by decide) (.keep (by decide) (.keep (by decide) (.keep (by decide) (.keep (by decide) (.keep (by decide) (.keep (by decide) (.keep (by decide) (.keep (by decide) (.keep (by decide) (.non (.keep (by decide) .nil))))))))))))) (.keep (by decide) (.keep (by decide) (.keep (by decide) (.keep (by decide) (.keep (by decide) (.keep (by decide) (.keep (by decide) (.keep (by decide) (.keep (by decide) (.keep (by decide) (.keep (by decide) (.imm (.keep (by decide) .nil))))))))))))) rfl (by decide) rfl sc_law_great_right.nd (i_tup (v_ (.s (.s .z)))) (blkOk_by (own := [("wait", 11)]) (N := ["draws", "script", "waits", "lag", "scale", "great", "far", "later", "due", "first", "minute", "wait", "own"]) (sc := defScope s_law_great_right) (by decide +kernel)) (fun _ _ _ _ _ => (g_name (i := 11) (.s (.s (.s (.s (.s (.s (.s (.s (.s (.s (.s .z))))))))))) (by exact sc_law_great_right.nd) rfl (by first | exact .inl rfl | exact .inr rfl))) (fun _ _ _ _ _ => t_nil) (fun _ _ _ _ _ => (y_bin op_mulA o_mul (v_ (.s (.s (.s (.s (.s (.s (.s (.s (.s (.s (.s .z)))))))))))) (v_ (.s (.s (.s (.s .z))))))))))))
      (y_cons (La := (L_law_great_right_4 d)) (y_asg (.s (.s (.s (.s (.s (.s .z)))))) sc_law_great_right.nd rfl (by first | exact .inl rfl | exact .inr rfl) (y_binT op_add o_add (y_bin op_mulA o_mul (v_ (.s (.s (.s .z)))) (v_ (.s (.s (.s (.s .z)))))) (y_callM .z rfl (by first | exact .inl rfl | exact .inr (.inl rfl) | exact .inr (.inr rfl)) (ok_law_take T) (hr.mono (by decide)) (by rfl) T.m_law_take T.F_law_take.kp T.b_law_take (a_one y_int))))
      (y_cons (La := (L_law_great_right_6 d)) (y_compS (i := 7) (.s (.s (.s (.s (.s (.s (.s .z))))))) rfl rfl (sw_true rfl rfl rfl (by decide +kernel)) (own := [("own", 12)]) (vs := [12]) (ws := [12]) (Lw := (L_law_great_right_4 d)) (Lb := (L_law_great_right_5 d)) (.keep (by decide) (.keep (by decide) (.keep (by decide) (.keep (by decide) (.keep (by decide) (.keep (by decide) (.keep (by decide) (.keep (by decide) (.keep (by decide) (.keep (by decide) (.keep (by decide) (.keep (by decide) (.non .nil))))))))))))) (.keep (by decide) (.keep (by decide) (.keep (by decide) (.keep (by decide) (.keep (by decide) (.keep (by decide) (.keep (by decide) (.keep (by decide) (.keep (by decide) (.keep (by decide) (.keep (by decide) (.keep (by decide) (.imm .nil))))))))))))) rfl (by decide) rfl sc_law_great_right.nd (i_list (y_fz (O := (oLst tInt)) (y_callO (ok_law_every T) (hr.mono (by decide)) (by rfl) T.m_law_every T.F_law_every.kp T.b_law_every (a_one (v_ (.s (.s (.s (.s (.s .z)))))))))) (blkOk_by (own := [("own", 12)]) (N := ["draws", "script", "waits", "lag", "scale", "great", "far", "later", "due", "first", "minute", "wait", "own"]) (sc := defScope s_law_great_right) (by decide +kernel)) (fun _ _ _ _ _ => (g_name (i := 12) (.s (.s (.s (.s (.s (.s (.s (.s (.s (.s (.s (.s .z)))))))))))) (by exact sc_law_great_right.nd) rfl (by first | exact .inl rfl | exact .inr rfl))) (fun _ _ _ _ _ => (t_one (y_cmpT op_gt o_gt (v_ (.s (.s (.s (.s (.s (.s (.s (.s (.s (.s (.s (.s .z))))))))))))) y_int (nomark _)))) (fun _ _ _ _ _ => (v_ (.s (.s (.s (.s (.s (.s (.s (.s (.s (.s (.s (.s .z)))))))))))))))
      (y_cons (La := (L_law_great_right_7 d)) (y_asg (.s (.s (.s (.s (.s (.s (.s (.s .z)))))))) sc_law_great_right.nd rfl (by first | exact .inl rfl | exact .inr rfl) y_none)
      (y_lock (La := (L_law_great_right_19 d)) (.s (.s (.s (.s (.s (.s (.s .z))))))) (.s (.s (.s (.s (.s (.s (.s .z))))))) (y_cons (La := (L_law_great_right_10 d)) (y_ifJ (PW.pt (y_andP (fun _ _ _ => rfl) (fun _ _ _ => rfl) (y_cmpT op_gt o_gt (y_cB call_len_seq c_lenL (by rfl) T.n_len (by decide +kernel) (a_one (v_ (.s (.s (.s (.s (.s (.s (.s .z)))))))))) y_int (nomark _)) (y_and1 (y_cmpT op_gt o_gt (v_ (.s (.s (.s (.s (.s (.s .z))))))) y_int (nomark _)))))
       (y_cons (La := (L_law_great_right_8 d)) (y_asg (.s (.s (.s (.s (.s (.s (.s (.s (.s .z))))))))) sc_law_great_right.nd rfl (by first | exact .inl rfl | exact .inr rfl) (y_cB (cr_min rfl) c_minL (by rfl) T.n_min (by decide +kernel) (a_one (v_ (.s (.s (.s (.s (.s (.s (.s .z)))))))))))
      (y_cons (La := (L_law_great_right_9 d)) (y_asg (.s (.s (.s (.s (.s (.s (.s (.s (.s (.s .z)))))))))) sc_law_great_right.nd rfl (by first | exact .inl rfl | exact .inr rfl) (y_cB (call_max2 rfl) c_max2 (by rfl) T.n_max (by decide +kernel) (a_cons y_int (a_one (y_binT op_add o_add (y_binT op_sub o_sub (v_ (.s (.s (.s (.s (.s (.s (.s (.s (.s .z)))))))))) (v_ (.s (.s (.s (.s (.s (.s .z)))))))) y_int)))))
      (y_cons (La := (L_law_great_right_9 d)) (y_asg (.s (.s (.s (.s (.s (.s (.s (.s .z)))))))) sc_law_great_right.nd rfl (by first | exact .inl rfl | exact .inr rfl) (y_some rfl (y_tup (a_cons y_int (a_cons (v_ (.s (.s (.s (.s (.s (.s (.s (.s (.s (.s .z))))))))))) (a_one (y_binT op_add o_add (y_binT op_sub o_sub (v_ (.s (.s (.s (.s (.s (.s (.s (.s (.s .z)))))))))) (v_ (.s (.s (.s (.s (.s (.s (.s (.s (.s (.s .z)))))))))))) y_int)))) hl3)))
      (y_fg (La := (L_law_great_right_14 d)) (.s .z) (y_fg (La := (L_law_great_right_13 d)) (.s (.s (.s .z))) (y_fg (La := (L_law_great_right_12 d)) (.s (.s (.s (.s (.s (.s (.s .z))))))) (y_fg (La := (L_law_great_right_11 d)) (.s (.s (.s (.s (.s (.s (.s (.s (.s .z))))))))) (y_fg (La := (L_law_great_right_10 d)) (.s (.s (.s (.s (.s (.s (.s (.s (.s (.s .z)))))))))) y_nil))))))))
       (y_fg (La := (L_law_great_right_16 d)) (.s .z) (y_fg (La := (L_law_great_right_15 d)) (.s (.s (.s .z))) (y_fg (La := (L_law_great_right_10 d)) (.s (.s (.s (.s (.s (.s (.s .z))))))) y_nil))))
      (y_cons (La := (L_law_great_right_10 d)) (y_if (PW.pt (y_or (y_not (y_val (y_same dBool same_law (ok_law_same T) (hr.mono (by decide)) (by rfl) T.m_law_same T.F_law_same.kp T.b_law_same (y_call (ok_never_twice T) (hr.mono (by decide)) (by rfl) T.m_never_twice T.F_never_twice.kp T.b_never_twice (a_cons (v_ (.s (.s (.s (.s (.s .z)))))) (a_one (v_ (.s (.s (.s (.s (.s (.s .z)))))))))) (y_isN (v_ (.s (.s (.s (.s (.s (.s (.s (.s .z))))))))))))) (y_or1 (y_not (y_val (y_same (dOpt (dTup (eCons dInt (eCons dInt (eOne dInt))))) same_law (ok_law_same T) (hr.mono (by decide)) (by rfl) T.m_law_same T.F_law_same.kp T.b_law_same (y_call (ok_twice_course T) (hr.mono (by decide)) (by rfl) T.m_twice_course T.F_twice_course.kp T.b_twice_course (a_cons (v_ (.s (.s (.s (.s (.s .z)))))) (a_one (v_ (.s (.s (.s (.s (.s (.s .z)))))))))) (v_ (.s (.s (.s (.s (.s (.s (.s (.s .z)))))))))))))))
       (y_one (y_retM .z y_bl))
       y_nil)
      (y_cons (La := (L_law_great_right_17 d)) (y_ifJ (y_notNT (v_ (.s (.s (.s (.s (.s (.s (.s (.s .z))))))))))
       (y_cons (La := (L_law_great_right_10 d)) (y_if (PW.pt (y_or (y_cmpT op_isnot_bl o_isnotB (y_call (ok_is_twice T) (hr.mono (by decide)) (by rfl) T.m_is_twice T.F_is_twice.kp T.b_is_twice (a_cons (v_ (.s (.s (.s (.s (.s .z)))))) (a_cons (y_some rfl (y_slN (lo := none) (hi := some 2) cut_02 (y_unw (v_ (.s (.s (.s (.s (.s (.s (.s (.s .z)))))))))) p_none (p_some y_int))) (a_one (y_ixN ix_tup (ix_n n2) (y_unw (v_ (.s (.s (.s (.s (.s (.s (.s (.s .z))))))))))))))) y_bl (nomark _)) (y_or1 (y_cmpT op_isnot_bl o_isnotB (y_call (ok_is_twice T) (hr.mono (by decide)) (by rfl) T.m_is_twice T.F_is_twice.kp T.b_is_twice (a_cons (v_ (.s (.s (.s (.s (.s .z)))))) (a_cons (y_some rfl (y_slN (lo := none) (hi := some 2) cut_02 (y_unw (v_ (.s (.s (.s (.s (.s (.s (.s (.s .z)))))))))) p_none (p_some y_int))) (a_one (y_binT op_sub o_sub (y_ixN ix_tup (ix_n n2) (y_unw (v_ (.s (.s (.s (.s (.s (.s (.s (.s .z))))))))))) y_int))))) y_bl (nomark _)))))
       (y_one (y_retM .z y_bl))
       y_nil)
      (y_cons (La := (L_law_great_right_17 d)) (y_if (PW.pt (y_and (y_cmpT op_gt o_gt (y_ixN ix_tup (ix_n n1') (y_unw (v_ (.s (.s (.s (.s (.s (.s (.s (.s .z))))))))))) y_int (nomark _)) (y_and1 (y_cmpT op_isnot_bl o_isnotB (y_call (ok_is_twice T) (hr.mono (by decide)) (by rfl) T.m_is_twice T.F_is_twice.kp T.b_is_twice (a_cons (v_ (.s (.s (.s (.s (.s .z)))))) (a_cons (y_some rfl (y_tup (a_cons y_int (a_one (y_binT op_sub o_sub (y_ixN ix_tup (ix_n n1') (y_unw (v_ (.s (.s (.s (.s (.s (.s (.s (.s .z))))))))))) y_int))) hl2)) (a_one (v_ (.s (.s (.s (.s (.s (.s .z))))))))))) y_bl (nomark _)))))
       (y_one (y_retM .z y_bl))
       (y_fg (La := (L_law_great_right_18 d)) (.s (.s (.s (.s (.s (.s .z)))))) (y_fg (La := (L_law_great_right_17 d)) (.s (.s (.s (.s (.s (.s (.s (.s .z)))))))) y_nil)))
      y_nil))
       (y_fg (La := (L_law_great_right_18 d)) (.s (.s (.s (.s (.s (.s .z)))))) (y_fg (La := (L_law_great_right_17 d)) (.s (.s (.s (.s (.s (.s (.s (.s .z)))))))) y_nil)))
      (y_one (y_retM .z (y_same dInt same_law (ok_law_same T) (hr.mono (by decide)) (by rfl) T.m_law_same T.F_law_same.kp T.b_law_same (y_call (ok_all_sent_by T) (hr.mono (by decide)) (by rfl) T.m_all_sent_by T.F_all_sent_by.kp T.b_all_sent_by (a_one (v_ (.s (.s (.s (.s (.s .z)))))))) (y_bin op_mulA o_mul (v_ (.s (.s (.s (.s .z))))) (y_cB (cr_sumT rfl) c_sumT (by rfl) T.n_sum (by decide +kernel) (a_one (v_ (.s (.s .z))))))))))))))))))
    (by exact h)⟩
noncomputable def m_law_great_right (y0 : (List Int)) (y : (List Int) × (List Int) × Int) : Option (Bool × (List Int)) := (D_law_great_right.1 0) _ ((y0, y.1, y.2.1, y.2.2, (), (), (), (), (), (), (), (), (), ()) : Env (L_law_great_right_0 0)) retO
theorem ok_law_great_right {P : Program} {w : World} {K : Fg} {mg : Str → Option Value} {base : Heap} (T : Txt K mg) : FnOk P w K mg base CX0 41 T.a_law_great_right T.d_law_great_right ["draws", "script", "waits", "lag"] (spM K (oLst tInt) (rCons (tScr tInt) (rCons (tAll tInt) (rOne tInt))) tBool m_law_great_right) :=
  fnM (k := 40) (L := fun d => L_law_great_right_0 d) (L' := fun _ => []) (m := D_law_great_right.1) (fun d y0 y => (y0, y.1, y.2.1, y.2.2, (), (), (), (), (), (), (), (), (), ())) T.F_law_great_right sc_law_great_right hsM3 (fun d => parsM3 (n := 9) rfl) (fun _ _ _ => rfl) (fun d cdv A outer s H E hr => D_law_great_right.2 T d cdv A outer s H E hr)
theorem sc_law : FnScope ["script", "draws", "k", "wide", "waits", "lag", "even", "machine"] ["script"] (defScope s_law) := ⟨rfl, rfl, rfl, by decide +kernel, rfl, by decide +kernel, by decide +kernel⟩
abbrev L_law_0 : List L3.Loc := [lImm (tScr tInt), lNone, lNone, lNone, lNone, lNone, lNone, lNone]
abbrev L_law_1 : List L3.Loc := [lImm (tScr tInt), lOwn (oLst tInt) none, lNone, lNone, lNone, lNone, lNone, lNone]
abbrev L_law_2 : List L3.Loc := [lImm (tScr tInt), lOwn (oLst tInt) none, lImm tInt, lNone, lNone, lNone, lNone, lNone]
abbrev L_law_3 : List L3.Loc := [lImm (tScr tInt), lOwn (oLst tInt) none, lImm tInt, lImm tInt, lNone, lNone, lNone, lNone]
abbrev L_law_4 : List L3.Loc := [lImm (tScr tInt), lOwn (oLst tInt) none, lImm tInt, lImm tInt, lNone, lNone, lNone, lImm tInt]
abbrev L_law_5 : List L3.Loc := [lImm (tScr tInt), lOwn (oLst tInt) none, lImm tInt, lImm tInt, lImm (tAll tInt), lNone, lNone, lNone]
abbrev L_law_6 : List L3.Loc := [lImm (tScr tInt), lOwn (oLst tInt) none, lImm tInt, lImm tInt, lImm (tAll tInt), lImm tInt, lNone, lNone]
abbrev L_law_7 : List L3.Loc := [lImm (tScr tInt), lOwn (oLst tInt) none, lNone, lNone, lNone, lImm tInt, lNone, lNone]
abbrev L_law_8 : List L3.Loc := [lImm (tScr tInt), lOwn (oLst tInt) none, lNone, lNone, lImm (tAll tInt), lImm tInt, lNone, lNone]
abbrev L_law_9 : List L3.Loc := [lImm (tScr tInt), lOwn (oLst tInt) none, lNone, lImm tInt, lImm (tAll tInt), lImm tInt, lNone, lNone]
abbrev L_law_10 : List L3.Loc := [lImm (tScr tInt), lOwn (oLst tInt) none, lNone, lNone, lNone, lNone, lImm (tAll tInt), lNone]
abbrev L_law_11 : List L3.Loc := [lNone, lNone, lNone, lNone, lNone, lNone, lNone, lNone]
abbrev L_law_12 : List L3.Loc := [lNone, lNone, lNone, lNone, lNone, lNone, lImm (tAll tInt), lNone]
abbrev L_law_13 : List L3.Loc := [lNone, lOwn (oLst tInt) none, lNone, lNone, lNone, lNone, lImm (tAll tInt), lNone]
set_option maxHeartbeats 8000000 in
/-- def law(script): -/
noncomputable def D_law : { m : Ms (L_law_0) [] [] (rsT tBool) // ∀ {P : Program} {w : World} {K : Fg} {mg : Str → Option Value} {base : Heap} (T : Txt K mg) (cdv : Value) (A : Around) (outer : List PySem.Env) (s : Shared) (H : Hp) (E : XK), Room 41 (A.deeper (envOfC "law" (defScope s_law) s.heap.objs.size T.a_law cdv)) →
    PSs (cxOf CX0 P w K mg base ["script", "draws", "k", "wide", "waits", "lag", "even", "machine"] "law" (defScope s_law) T.a_law cdv A outer s H E).nox (defBody s_law) (tS K (L_law_0) [] [] (rsT tBool) (m)) } :=
  ⟨_, fun {P w K mg base} T cdv A outer s H E hr =>
    have h : PSs (cxOf CX0 P w K mg base ["script", "draws", "k", "wide", "waits", "lag", "even", "machine"] "law" (defScope s_law) T.a_law cdv A outer s H E).nox (defBody s_law) (tS K (L_law_0) [] [] (rsT tBool) _) :=
    (y_cons (La := L_law_1) (y_asgO (.s .z) sc_law.nd rfl (by first | exact .inl rfl | exact .inr rfl) (y_callO (ok_law_draws T) (hr.mono (by decide)) (by rfl) T.m_law_draws T.F_law_draws.kp T.b_law_draws (a_cons (v_ .z) (a_one y_int))))
      (y_cons (La := L_law_1) (y_for (vs := [2]) (Lb := L_law_2) PassesOwn.never rfl (i_range (by rfl) T.n_range y_int) (g_name (i := 2) (.s (.s .z)) (by exact sc_law.nd) rfl (by first | exact .inl rfl | exact .inr rfl))
       (y_cons (La := L_law_3) (y_asg (.s (.s (.s .z))) sc_law.nd rfl (by first | exact .inl rfl | exact .inr rfl) (y_ix ix_list ix_l (y_fz (O := (oLst tInt)) (y_lst (a_consA y_int (a_consA y_int (a_consA y_int a_nilA))))) (y_callM (.s .z) rfl (by first | exact .inl rfl | exact .inr (.inl rfl) | exact .inr (.inr rfl)) (ok_law_take T) (hr.mono (by decide)) (by rfl) T.m_law_take T.F_law_take.kp T.b_law_take (a_one y_int))))
      (y_cons (La := L_law_5) (y_asg (.s (.s (.s (.s .z)))) sc_law.nd rfl (by first | exact .inl rfl | exact .inr rfl) (y_cT call_tuple_of c_tuple (by rfl) T.n_tuple (by decide +kernel) (a_one (y_fz (O := (oLst tInt)) (y_comp (own := [("machine", 7)]) (vs := [7]) (ws := [7]) (Lw := L_law_3) (Lb := L_law_4) (.keep (by decide) (.keep (by decide) (.keep (by decide) (.keep (by decide) (.keep (by decide) (.keep (by decide) (.keep (by decide) (.non .nil)))))))) (.keep (by decide) (.keep (by decide) (.keep (by decide) (.keep (by decide) (.keep (by decide) (.keep (by decide) (.keep (by decide) (.imm .nil)))))))) rfl (by decide) rfl sc_law.nd (i_range (by rfl) T.n_range (y_callM (.s .z) rfl (by first | exact .inl rfl | exact .inr (.inl rfl) | exact .inr (.inr rfl)) (ok_law_take T) (hr.mono (by decide)) (by rfl) T.m_law_take T.F_law_take.kp T.b_law_take (a_one y_int))) (blkOk_by (own := [("machine", 7)]) (N := ["script", "draws", "k", "wide", "waits", "lag", "even", "machine"]) (sc := defScope s_law) (by decide +kernel)) (fun _ _ _ _ _ => (g_name (i := 7) (.s (.s (.s (.s (.s (.s (.s .z))))))) (by exact sc_law.nd) rfl (by first | exact .inl rfl | exact .inr rfl))) (fun _ _ _ _ _ => t_nil) (fun _ _ _ _ _ => (y_callM (.s .z) rfl (by first | exact .inl rfl | exact .inr (.inl rfl) | exact .inr (.inr rfl)) (ok_law_take T) (hr.mono (by decide)) (by rfl) T.m_law_take T.F_law_take.kp T.b_law_take (a_one (v_ (.s (.s (.s .z))))))))))))
      (y_cons (La := L_law_6) (y_asg (.s (.s (.s (.s (.s .z))))) sc_law.nd rfl (by first | exact .inl rfl | exact .inr rfl) (y_ix ix_list ix_l (y_fz (O := (oLst tInt)) (y_lst (a_consA y_int (a_consA (y_callM (.s .z) rfl (by first | exact .inl rfl | exact .inr (.inl rfl) | exact .inr (.inr rfl)) (ok_law_take T) (hr.mono (by decide)) (by rfl) T.m_law_take T.F_law_take.kp T.b_law_take (a_one y_int)) (a_consA (y_callM (.s .z) rfl (by first | exact .inl rfl | exact .inr (.inl rfl) | exact .inr (.inr rfl)) (ok_law_take T) (hr.mono (by decide)) (by rfl) T.m_law_take T.F_law_take.kp T.b_law_take (a_one y_int)) a_nilA))))) (y_callM (.s .z) rfl (by first | exact .inl rfl | exact .inr (.inl rfl) | exact .inr (.inr rfl)) (ok_law_take T) (hr.mono (by decide)) (by rfl) T.m_law_take T.F_law_take.kp T.b_law_take (a_one y_int))))
      (y_cons (La := L_law_1) (y_if (PW.pt (y_or (y_not (y_val (y_callM (.s .z) rfl (by first | exact .inl rfl | exact .inr (.inl rfl) | exact .inr (.inr rfl)) (ok_law_small_right T) (hr.mono (by decide)) (by rfl) T.m_law_small_right T.F_law_small_right.kp T.b_law_small_right (a_cons (v_ (.s (.s (.s (.s .z))))) (a_one (v_ (.s (.s (.s (.s (.s .z))))))))))) (y_or1 (y_not (y_val (y_callM (.s .z) rfl (by first | exact .inl rfl | exact .inr (.inl rfl) | exact .inr (.inr rfl)) (ok_law_great_right T) (hr.mono (by decide)) (by rfl) T.m_law_great_right T.F_law_great_right.kp T.b_law_great_right (a_cons (v_ .z) (a_cons (v_ (.s (.s (.s (.s .z))))) (a_one (v_ (.s (.s (.s (.s (.s .z)))))))))))))))
       (y_one (y_ret y_bl))
       (y_fg (La := L_law_9) (.s (.s .z)) (y_fg (La := L_law_8) (.s (.s (.s .z))) (y_fg (La := L_law_7) (.s (.s (.s (.s .z)))) (y_fg (La := L_law_1) (.s (.s (.s (.s (.s .z))))) y_nil)))))
      y_nil)))))
      (y_cons (La := L_law_10) (y_asg (.s (.s (.s (.s (.s (.s .z)))))) sc_law.nd rfl (by first | exact .inl rfl | exact .inr rfl) (y_call (ok_waits_for T) (hr.mono (by decide)) (by rfl) T.m_waits_for T.F_waits_for.kp T.b_waits_for (a_cons (y_binT op_add o_add y_int (y_callM (.s .z) rfl (by first | exact .inl rfl | exact .inr (.inl rfl) | exact .inr (.inr rfl)) (ok_law_take T) (hr.mono (by decide)) (by rfl) T.m_law_take T.F_law_take.kp T.b_law_take (a_one y_int))) (a_one (y_callM (.s .z) rfl (by first | exact .inl rfl | exact .inr (.inl rfl) | exact .inr (.inr rfl)) (ok_law_take T) (hr.mono (by decide)) (by rfl) T.m_law_take T.F_law_take.kp T.b_law_take (a_one y_int))))))
      (y_cons (La := L_law_11) (y_if (PW.pt (y_or (y_not (y_val (y_isi (nm := "tuple") isT_tup (by rfl) T.n_isinstance (by rfl) T.n_tuple (by decide +kernel) (v_ (.s (.s (.s (.s (.s (.s .z)))))))))) (y_or1 (y_not (y_val (y_callM (.s .z) rfl (by first | exact .inl rfl | exact .inr (.inl rfl) | exact .inr (.inr rfl)) (ok_law_small_right T) (hr.mono (by decide)) (by rfl) T.m_law_small_right T.F_law_small_right.kp T.b_law_small_right (a_cons (v_ (.s (.s (.s (.s (.s (.s .z))))))) (a_one (y_callM (.s .z) rfl (by first | exact .inl rfl | exact .inr (.inl rfl) | exact .inr (.inr rfl)) (ok_law_take T) (hr.mono (by decide)) (by rfl) T.m_law_take T.F_law_take.kp T.b_law_take (a_one y_int))))))))))
       (y_one (y_ret y_bl))
       (y_fg (La := L_law_13) .z (y_fg (La := L_law_12) (.s .z) (y_fg (La := L_law_11) (.s (.s (.s (.s (.s (.s .z)))))) y_nil))))
      (y_cons (La := L_law_11) (y_if (PW.pt (y_or (y_not (y_val (y_same (dOpt (dTup (eCons dInt (eCons dInt (eOne dInt))))) same_law (ok_law_same T) (hr.mono (by decide)) (by rfl) T.m_law_same T.F_law_same.kp T.b_law_same (y_call (ok_twice_course T) (hr.mono (by decide)) (by rfl) T.m_twice_course T.F_twice_course.kp T.b_twice_course (a_cons (y_tupA (a_consA y_int (a_consA y_int a_nilA))) (a_one y_int))) (y_some rfl (y_tup (a_cons y_int (a_cons y_int (a_one y_int))) hl3))))) (y_or (y_not (y_val (y_same (dOpt (dTup (eCons dInt (eCons dInt (eOne dInt))))) same_law (ok_law_same T) (hr.mono (by decide)) (by rfl) T.m_law_same T.F_law_same.kp T.b_law_same (y_call (ok_twice_course T) (hr.mono (by decide)) (by rfl) T.m_twice_course T.F_twice_course.kp T.b_twice_course (a_cons (y_tupA (a_consA y_int (a_consA y_int a_nilA))) (a_one y_int))) (y_some rfl (y_tup (a_cons y_int (a_cons y_int (a_one y_int))) hl3))))) (y_or1 (y_not (y_val (y_same (dOpt (dTup (eCons dInt (eCons dInt (eOne dInt))))) same_law (ok_law_same T) (hr.mono (by decide)) (by rfl) T.m_law_same T.F_law_same.kp T.b_law_same (y_call (ok_twice_course T) (hr.mono (by decide)) (by rfl) T.m_twice_course T.F_twice_course.kp T.b_twice_course (a_cons (y_tupA (a_consA y_int (a_consA y_int a_nilA))) (a_one y_int))) y_none)))))))
       (y_one (y_ret y_bl))
       y_nil)
      (y_one (y_ret (y_vand (y_same dBool same_law (ok_law_same T) (hr.mono (by decide)) (by rfl) T.m_law_same T.F_law_same.kp T.b_law_same (y_call (ok_never_twice T) (hr.mono (by decide)) (by rfl) T.m_never_twice T.F_never_twice.kp T.b_never_twice (a_cons (y_tupA a_nilA) (a_one y_int))) y_bl) (y_vand (y_same dBool same_law (ok_law_same T) (hr.mono (by decide)) (by rfl) T.m_law_same T.F_law_same.kp T.b_law_same (y_call (ok_never_twice T) (hr.mono (by decide)) (by rfl) T.m_never_twice T.F_never_twice.kp T.b_never_twice (a_cons (y_tupA (a_consA y_int a_nilA)) (a_one y_int))) y_bl) (y_vand (y_same dBool same_law (ok_law_same T) (hr.mono (by decide)) (by rfl) T.m_law_same T.F_law_same.kp T.b_law_same (y_call (ok_never_twice T) (hr.mono (by decide)) (by rfl) T.m_never_twice T.F_never_twice.kp T.b_never_twice (a_cons (y_tupA (a_consA y_int (a_consA y_int a_nilA))) (a_one y_int))) y_bl) (y_vone (y_same (dOpt (dTup (eCons dInt (eCons dInt (eOne dInt))))) same_law (ok_law_same T) (hr.mono (by decide)) (by rfl) T.m_law_same T.F_law_same.kp T.b_law_same (y_call (ok_twice_course T) (hr.mono (by decide)) (by rfl) T.m_twice_course T.F_twice_course.kp T.b_twice_course (a_cons (y_tupA (a_consA y_int (a_consA y_int a_nilA))) (a_one y_int))) (y_some rfl (y_tup (a_cons y_int (a_cons y_int (a_one y_int))) hl3))))))))))))))
    (by exact h)⟩
noncomputable def m_law (y : (List Int)) : Option Bool := D_law.1 _ ((y, (), (), (), (), (), (), (), ()) : Env L_law_0) retO
theorem ok_law {P : Program} {w : World} {K : Fg} {mg : Str → Option Value} {base : Heap} (T : Txt K mg) : FnOk P w K mg base CX0 42 T.a_law T.d_law ["script"] (spP K (rOne (tScr tInt)) tBool m_law) :=
  fnP (k := 41) (L := L_law_0) (L' := []) (m := D_law.1) (fun y => (y, (), (), (), (), (), (), (), ())) T.F_law sc_law hs1 (pars1 (n := 7) rfl) (fun _ => rfl) (fun cdv A outer s H E hr => D_law.2 T cdv A outer s H E hr)
end Wk17

open L3 PySem
namespace Wk17
theorem e_planned (waits : List Int) : m_planned waits =
  (loopM (fun x0 (waits, found, _, _) =>
      (getI found (-1)).bind fun t1 =>
      (catC found [t1 + x0]).bind fun t2 =>
      some (Out.nx (waits, t2, (), ()))) waits ((waits, [0], (), ()))).bind fun o => match o with
  | .go (waits, found, _, _) => some found
  | .rt r => some r := by set_option smartUnfolding false in exact rfl

theorem e_known_by (read : Option (Int × Int)) (late : Int) : m_known_by (read, late) =
  (if Option.isNone read = true then some (none, read, late, ())
    else (read).bind fun (t0, d1) =>
      some (some (d1 + late), read, late, ())).bind fun (t2, (read, late, _)) =>
  some t2 := by set_option smartUnfolding false in exact rfl

theorem e_sent_minutes (waits : List Int) (read : Option (Int × Int)) (late : Int) : m_sent_minutes (waits, read, late) =
  (m_known_by (read, late)).bind fun t0 =>
  (m_planned waits).bind fun t1 =>
  if List.length t1 ≤ 16777216 then (compM (fun x2 (waits, read, late, known, _, _) =>
        (if Option.isNone known = true then some (true, waits, read, late, known, x2, ())
          else (known).bind fun t3 =>
            some (decide (x2 < t3), waits, read, late, known, x2, ())).bind fun (t4, (waits, read, late, known, minute, _)) =>
        if t4 = true then some (some minute, waits, read, late, known, (), ())
        else some (none, waits, read, late, known, (), ())) t1 ((waits, read, late, t0, (), ()))).bind fun (t5, (waits, read, late, known, _, _)) =>
    some t5
  else none := by set_option smartUnfolding false in exact rfl

theorem e_is_twice (waits : List Int) (read : Option (Int × Int)) (late : Int) : m_is_twice (waits, read, late) =
  if Option.isNone read = true then some false
  else (read).bind fun (t0, d1) =>
    (m_sent_minutes (waits, read, late)).bind fun t2 =>
    (rng1 (↑(List.length t2) : Int)).bind fun t3 =>
    if List.length t3 ≤ 16777216 then (compM (fun x4 (waits, read, late, machine, minute, sent, _, _) =>
          if (!decide (x4 = machine)) = true then (getI sent x4).bind fun t5 =>
            some (some (decide (minute ≤ t5)), waits, read, late, machine, minute, sent, (), ())
          else some (none, waits, read, late, machine, minute, sent, (), ())) t3 ((waits, read, late, t0, d1, t2, (), ()))).bind fun (t6, (waits, read, late, machine, minute, sent, _, _)) =>
      some (List.any t6 id)
    else none := by set_option smartUnfolding false in exact rfl

theorem e_first_later (waits : List Int) : m_first_later waits =
  (m_planned waits).bind fun t0 =>
  if List.length t0 ≤ 16777216 then (compM (fun x1 (waits, _, _, _) =>
        if decide (0 < x1) = true then some (some x1, waits, (), (), ())
        else some (none, waits, (), (), ())) t0 ((waits, (), (), ()))).bind fun (t2, (waits, _, _, _)) =>
    (if decide (0 < (↑(List.length t2) : Int)) = true then (List.min? t2).bind fun t3 =>
        some (some t3, waits, t2, (), ())
      else some (none, waits, t2, (), ())).bind fun (t4, (waits, later, _, _)) =>
    some t4
  else none := by set_option smartUnfolding false in exact rfl

theorem e_never_twice (waits : List Int) (lag : Int) : m_never_twice (waits, lag) =
  (if decide (lag = 0) = true then some (true, waits, lag, ())
    else (m_first_later waits).bind fun t0 =>
      some (Option.isNone t0, waits, lag, ())).bind fun (t1, (waits, lag, _)) =>
  some t1 := by set_option smartUnfolding false in exact rfl

theorem e_twice_course (waits : List Int) (lag : Int) : m_twice_course (waits, lag) =
  (m_never_twice (waits, lag)).bind fun t0 =>
  if t0 = true then some none
  else (m_first_later waits).bind fun t1 =>
    (t1).bind fun t2 =>
    (t1).bind fun t3 =>
    some (some (0, max 1 (t2 - lag + 1), t3 - max 1 (t2 - lag + 1) + 1)) := by set_option smartUnfolding false in exact rfl

theorem e_most_sent (waits : List Int) (lag : Int) (minute : Int) : m_most_sent (waits, lag, minute) =
  (m_planned waits).bind fun t0 =>
  if List.length t0 ≤ 16777216 then (compM (fun x1 (waits, lag, minute, _, _) =>
        if decide (x1 < minute + lag) = true then some (some x1, waits, lag, minute, (), ())
        else some (none, waits, lag, minute, (), ())) t0 ((waits, lag, minute, (), ()))).bind fun (t2, (waits, lag, minute, _, _)) =>
    some (↑(List.length t2) : Int)
  else none := by set_option smartUnfolding false in exact rfl

theorem e_all_sent_by (waits : List Int) : m_all_sent_by waits =
  (m_planned waits).bind fun t0 =>
  (getI t0 (-1)).bind fun t1 =>
  some t1 := by set_option smartUnfolding false in exact rfl

theorem e_waits_for (n : Int) (last : Int) : m_waits_for (n, last) =
  (divC last (n - 1)).bind fun t0 =>
  (modC last (n - 1)).bind fun t1 =>
  (repT [t0] (n - 1 - t1)).bind fun t2 =>
  (repT [t0 + 1] t1).bind fun t3 =>
  (catC t2 t3).bind fun t4 =>
  some t4 := by set_option smartUnfolding false in exact rfl

theorem e_law_draws (script : List Int) (many : Int) : m_law_draws (script, many) =
  if List.length script ≤ 16777216 then (compM (fun x0 (script, many, _, _, _, _, _, _, _, _) =>
        if true = true then some (some x0, script, many, (), (), (), (), (), (), (), ())
        else some (none, script, many, (), (), (), (), (), (), (), ())) script ((script, many, (), (), (), (), (), (), (), ()))).bind fun (t1, (script, many, _, _, _, _, _, _, _, _)) =>
    (if decide ((↑(List.length t1) : Int) = 0) = true then (appC t1 0).bind fun (t2, d3) =>
        some (Out.nx ((), many, d3, (), (), (), (), (), (), ()))
      else some (Out.nx ((), many, t1, (), (), (), (), (), (), ())) : Option (Out (PUnit × Int × List Int × PUnit × PUnit × PUnit × PUnit × PUnit × PUnit × PUnit) PUnit (List Int))).bind fun o => match o with
    | .nx (_, many, cells, _, _, _, _, _, _, _) => (rng1 many).bind fun t4 =>
      (loopM (fun x5 (_, many, cells, rest, draws, _, _, _, _, _) =>
          (modC x5 (↑(List.length cells) : Int)).bind fun t6 =>
          ((getI cells t6).bind fun t7 =>
            if decide (1000000000000000000 ≤ t7) = true then (getI rest t6).bind fun t8 =>
              some (decide (0 < t8), (), many, cells, rest, draws, x5, t6, (), (), ())
            else some (false, (), many, cells, rest, draws, x5, t6, (), (), ())).bind fun (t9, (_, many, cells, rest, draws, k, at', _, _, _)) =>
          (if t9 = true then (getI rest at').bind fun t10 =>
              (modC t10 1000).bind fun t11 =>
              (appC draws t11).bind fun (t12, d13) =>
              (getI rest at').bind fun t14 =>
              (divC t14 1000).bind fun t15 =>
              (setC rest at' t15).bind fun t16 =>
              some (Out.nx ((), many, cells, t16, d13, (), (), (), (), ()))
            else (getI cells at').bind fun t17 =>
              (mulC t17 48271).bind fun t18 =>
              (mulC k 69621).bind fun t19 =>
              (modC (t18 + t19 + 11) 2147483647).bind fun t20 =>
              (mulC t20 t20).bind fun t21 =>
              (mulC 3 t20).bind fun t22 =>
              (modC (t21 + t22 + k) 1000003).bind fun t23 =>
              (appC draws t23).bind fun (t24, d25) =>
              some (Out.nx ((), many, cells, rest, d25, (), (), (), (), ())) : Option
  (Out (PUnit × Int × List Int × List Int × List Int × PUnit × PUnit × PUnit × PUnit × PUnit)
    (PUnit × Int × List Int × List Int × List Int × PUnit × PUnit × PUnit × PUnit × PUnit) (List Int))).bind fun o => match o with
          | .nx (_, many, cells, rest, draws, _, _, _, _, _) => some (Out.nx ((), many, cells, rest, draws, (), (), (), (), ()))
          | .bk (_, many, cells, rest, draws, _, _, _, _, _) => some (Out.bk ((), many, cells, rest, draws, (), (), (), (), ()))
          | .ct (_, many, cells, rest, draws, _, _, _, _, _) => some (Out.ct ((), many, cells, rest, draws, (), (), (), (), ()))
          | .rt r => some (Out.rt r)) t4 (((), many, cells, cells, [], (), (), (), (), ()))).bind fun o => match o with
      | .go (_, many, cells, rest, draws, _, _, _, _, _) => some (List.reverse draws)
      | .rt r => some r
    | .bk s26 => none
    | .ct s27 => none
    | .rt r => some r
  else none := by set_option smartUnfolding false in exact rfl

theorem e_law_take (draws : List Int) (many : Int) : m_law_take draws many =
  if decide ((↑(List.length draws) : Int) = 0) = true then some (0, draws)
  else (popC draws ()).bind fun (t0, d1) =>
    (modC t0 many).bind fun t2 =>
    some (t2, d1) := by set_option smartUnfolding false in exact rfl

theorem e_law_cell (script : List Int) (at' : Int) : m_law_cell (script, at') =
  if decide ((↑(List.length script) : Int) = 0) = true then some 0
  else (modC at' (↑(List.length script) : Int)).bind fun t0 =>
    (getI script t0).bind fun t1 =>
    (modC (↑(Int.natAbs t1) : Int) 1000000000000000000000000000000000000000000000000000000000000).bind fun t2 =>
    (getI [1, -1] (b01 (decide (t1 < 0)))).bind fun t3 =>
    (mulC t2 t3).bind fun t4 =>
    some t4 := by set_option smartUnfolding false in exact rfl

theorem e_law_same (actual : Nat) (due : PyData) (k : PyData) : m_law_same actual (due, k) =
  m_law_same actual (due, k) := by set_option smartUnfolding false in exact rfl

theorem e_law_every (waits : List Int) : m_law_every waits =
  (loopM (fun x0 (waits, found, _, _) =>
      (getI found (-1)).bind fun t1 =>
      (appC found (t1 + x0)).bind fun (t2, d3) =>
      some (Out.nx (waits, d3, (), ()))) waits ((waits, [0], (), ()))).bind fun o => match o with
  | .go (waits, found, _, _) => some found
  | .rt r => some r := by set_option smartUnfolding false in exact rfl

theorem e_law_is_twice (waits : List Int) (machine : Int) (minute : Int) (late : Int) : m_law_is_twice (waits, machine, minute, late) =
  (m_law_every waits).bind fun t0 =>
  (rng1 (↑(List.length t0) : Int)).bind fun t1 =>
  if List.length t1 ≤ 16777216 then (compM (fun x2 (waits, machine, minute, late, every, _, _) =>
        (if (!decide (x2 = machine)) = true then ((getI every x2).bind fun t3 =>
              if decide (minute ≤ t3) = true then (getI every x2).bind fun t4 =>
                some (decide (t4 < minute + late), waits, machine, minute, late, every, x2, ())
              else some (false, waits, machine, minute, late, every, x2, ())).bind fun (t5, (waits, machine, minute, late, every, own, _)) =>
            some (t5, waits, machine, minute, late, every, own, ())
          else some (false, waits, machine, minute, late, every, x2, ())).bind fun (t6, (waits, machine, minute, late, every, own, _)) =>
        if t6 = true then some (some own, waits, machine, minute, late, every, (), ())
        else some (none, waits, machine, minute, late, every, (), ())) t1 ((waits, machine, minute, late, t0, (), ()))).bind fun (t7, (waits, machine, minute, late, every, _, _)) =>
    some (decide (0 < (↑(List.length t7) : Int)))
  else none := by set_option smartUnfolding false in exact rfl

theorem e_law_least (waits : List Int) (lag : Int) : m_law_least (waits, lag) =
  (m_law_every waits).bind fun t0 =>
  (rng1 (↑(List.length t0) : Int)).bind fun t1 =>
  (loopM (fun x2 (waits, lag, every, _, _, _, _) =>
      (getI every x2).bind fun t3 =>
      (getI every (-1)).bind fun t4 =>
      (rng2 (t3 + 1) (t4 + 2)).bind fun t5 =>
      (loopM (fun x6 (waits, lag, every, machine, _, _, _) =>
          (rng1 (lag + 1)).bind fun t7 =>
          (loopM (fun x8 (waits, lag, every, machine, minute, _, _) =>
              (m_law_is_twice (waits, machine, minute, x8)).bind fun t9 =>
              if t9 = true then some (Out.rt (some (machine, minute, x8)))
              else some (Out.nx (waits, lag, every, machine, minute, (), ()))) t7 ((waits, lag, every, machine, x6, (), ()))).bind fun o => match o with
          | .go (waits, lag, every, machine, minute, _, _) => some (Out.nx (waits, lag, every, machine, (), (), ()))
          | .rt r => some (Out.rt r)) t5 ((waits, lag, every, x2, (), (), ()))).bind fun o => match o with
      | .go (waits, lag, every, machine, _, _, _) => some (Out.nx (waits, lag, every, (), (), (), ()))
      | .rt r => some (Out.rt r)) t1 ((waits, lag, t0, (), (), (), ()))).bind fun o => match o with
  | .go (waits, lag, every, _, _, _, _) => some none
  | .rt r => some r := by set_option smartUnfolding false in exact rfl

theorem e_law_small_right (draws : List Int) (waits : List Int) (lag : Int) : m_law_small_right draws (waits, lag) =
  (m_law_least (waits, lag)).bind fun t0 =>
  ((m_never_twice (waits, lag)).bind fun t1 =>
    if (!decide (t1 = Option.isNone t0)) = true then some (true, draws, waits, lag, t0, (), (), (), (), (), (), (), (), (), ())
    else (m_twice_course (waits, lag)).bind fun t2 =>
      some (!decide (t2 = t0), draws, waits, lag, t0, (), (), (), (), (), (), (), (), (), ())).bind fun (t3, (draws, waits, lag, least, _, _, _, _, _, _, _, _, _, _)) =>
  if t3 = true then some (false, draws)
  else (if decide ((↑(List.length waits) : Int) = 0) = true then some (true, draws, waits, lag, least, (), (), (), (), (), (), (), (), (), ())
      else (if decide (lag = 0) = true then some (true, draws, waits, lag, least, (), (), (), (), (), (), (), (), (), ())
          else (List.max? waits).bind fun t4 =>
            some (decide (t4 = 0), draws, waits, lag, least, (), (), (), (), (), (), (), (), (), ())).bind fun (t5, (draws, waits, lag, least, _, _, _, _, _, _, _, _, _, _)) =>
        some (t5, draws, waits, lag, least, (), (), (), (), (), (), (), (), (), ())).bind fun (t6, (draws, waits, lag, least, _, _, _, _, _, _, _, _, _, _)) =>
    if (!decide (t6 = Option.isNone least)) = true then some (false, draws)
    else (m_law_every waits).bind fun t7 =>
      (rng1 8).bind fun t8 =>
      (loopM (fun x9 (draws, waits, lag, least, _, every, _, _, _, _, _, _, _, _) =>
          (m_law_take draws (↑(List.length every) : Int)).bind fun (t10, d11) =>
          (getI every t10).bind fun t12 =>
          (m_law_take d11 20).bind fun (t13, d14) =>
          (m_law_take d14 (lag + 1)).bind fun (t15, d16) =>
          (m_is_twice (waits, some (t10, t12 + 1 + t13), t15)).bind fun t17 =>
          ((m_law_is_twice (waits, t10, t12 + 1 + t13, t15)).bind fun t18 =>
            if (!decide (t17 = t18)) = true then some (true, d16, waits, lag, least, (), every, x9, t10, t12 + 1 + t13, t15, t17, (), (), ())
            else some (t17 && Option.isNone least, d16, waits, lag, least, (), every, x9, t10, t12 + 1 + t13, t15, t17, (), (), ())).bind fun (t19, (draws, waits, lag, least, _, every, turn, machine, minute, late, told, _, _, _)) =>
          if t19 = true then some (Out.rt (false, draws))
          else (m_sent_minutes (waits, some (machine, minute), late)).bind fun t20 =>
            (if List.length every ≤ 16777216 then (compM (fun x21 (draws, waits, lag, least, _, every, _, machine, minute, late, told, sent, _, _) =>
                    (m_known_by (some (machine, minute), late)).bind fun t22 =>
                    (t22).bind fun t23 =>
                    if decide (x21 < t23) = true then some (some x21, draws, waits, lag, least, (), every, (), machine, minute, late, told, sent, (), ())
                    else some (none, draws, waits, lag, least, (), every, (), machine, minute, late, told, sent, (), ())) every ((draws, waits, lag, least, (), every, (), machine, minute, late, told, t20, (), ()))).bind fun (t24, (draws, waits, lag, least, _, every, _, machine, minute, late, told, sent, _, _)) =>
                if (!decide (t20 = t24)) = true then some (true, draws, waits, lag, least, (), every, (), machine, minute, late, told, sent, (), ())
                else (m_most_sent (waits, lag, minute)).bind fun t25 =>
                  some
  (decide (t25 < (↑(List.length sent) : Int)), draws, waits, lag, least, (), every, (), machine, minute, late, told,
    sent, (), ())
              else none).bind fun (t26, (draws, waits, lag, least, _, every, _, machine, minute, late, told, sent, _, _)) =>
            if t26 = true then some (Out.rt (false, draws))
            else (rng1 (↑(List.length sent) : Int)).bind fun t27 =>
              if List.length t27 ≤ 16777216 then (compM (fun x28 (draws, waits, lag, least, _, every, _, machine, minute, _, told, sent, _, _) =>
                    (if (!decide (x28 = machine)) = true then (getI sent x28).bind fun t29 =>
                        some (decide (minute ≤ t29), draws, waits, lag, least, (), every, (), machine, minute, (), told, sent, x28, ())
                      else some (false, draws, waits, lag, least, (), every, (), machine, minute, (), told, sent, x28, ())).bind fun (t30, (draws, waits, lag, least, _, every, _, machine, minute, _, told, sent, own, _)) =>
                    if t30 = true then some (some own, draws, waits, lag, least, (), every, (), machine, minute, (), told, sent, (), ())
                    else some (none, draws, waits, lag, least, (), every, (), machine, minute, (), told, sent, (), ())) t27 ((draws, waits, lag, least, (), every, (), machine, minute, (), told, sent, (), ()))).bind fun (t31, (draws, waits, lag, least, _, every, _, machine, minute, _, told9, sent, _, _)) =>
                if (!decide (told = decide (0 < (↑(List.length t31) : Int)))) = true then some (Out.rt (false, draws))
                else some (Out.nx (draws, waits, lag, least, (), every, (), (), (), (), (), (), (), ()))
              else none) t8 ((draws, waits, lag, least, (), t7, (), (), (), (), (), (), (), ()))).bind fun o => match o with
      | .go (draws, waits, lag, least, _, every, _, _, _, _, _, _, _, _) => (if Option.isSome least = true then (least).bind fun (t32, d33) =>
            ((m_is_twice (waits, some (t32, d33.1), d33.2)).bind fun t34 =>
              if (!decide (t34 = true)) = true then some (true, draws, waits, lag, least, (), every, (), t32, d33.1, d33.2, (), (), (), ())
              else (m_is_twice (waits, some (t32, d33.1), d33.2 - 1)).bind fun t35 =>
                some (!decide (t35 = false), draws, waits, lag, least, (), every, (), t32, d33.1, d33.2, (), (), (), ())).bind fun (t36, (draws, waits, lag, least, _, every, _, machine, minute, late, _, _, _, _)) =>
            if t36 = true then some (Out.rt (false, draws))
            else ((m_never_twice (waits, lag + 1)).bind fun t37 =>
                if (!decide (t37 = false)) = true then some (true, draws, waits, lag, (), (), (), (), (), (), (), (), (), (), ())
                else (m_law_take draws 5).bind fun (t38, d39) =>
                  (catC waits [t38]).bind fun t40 =>
                  (m_never_twice (t40, lag)).bind fun t41 =>
                  some (!decide (t41 = false), d39, waits, lag, (), (), (), (), (), (), (), (), (), (), ())).bind fun (t42, (draws, waits, lag, _, _, _, _, _, _, _, _, _, _, _)) =>
              if t42 = true then some (Out.rt (false, draws))
              else some (Out.nx (draws, waits, (), (), (), (), (), (), (), (), (), (), (), ()))
          else some (Out.nx (draws, waits, (), (), (), (), (), (), (), (), (), (), (), ())) : Option
  (Out
    (List Int ×
      List Int × PUnit × PUnit × PUnit × PUnit × PUnit × PUnit × PUnit × PUnit × PUnit × PUnit × PUnit × PUnit)
    PUnit (Bool × List Int))).bind fun o => match o with
        | .nx (draws, waits, _, _, _, _, _, _, _, _, _, _, _, _) => ((m_never_twice (waits, 0)).bind fun t43 =>
            if decide (t43 = true) = true then (m_twice_course (waits, 0)).bind fun t44 =>
              some (Option.isNone t44, draws, waits, (), (), (), (), (), (), (), (), (), (), (), ())
            else some (false, draws, waits, (), (), (), (), (), (), (), (), (), (), (), ())).bind fun (t45, (draws, waits, _, _, _, _, _, _, _, _, _, _, _, _)) =>
          some (t45, draws)
        | .bk s46 => none
        | .ct s47 => none
        | .rt r => some r
      | .rt r => some r := by set_option smartUnfolding false in exact rfl

theorem e_law_great_right (draws : List Int) (script : List Int) (waits : List Int) (lag : Int) : m_law_great_right draws (script, waits, lag) =
  (m_law_take draws 64).bind fun (t0, d1) =>
  (m_law_cell (script, t0)).bind fun t2 =>
  (modC t2 10000000000000000000000000).bind fun t3 =>
  if List.length waits ≤ 16777216 then (compM (fun x4 (draws, script, waits, lag, scale, _, _, _, _, _, _, _, _, _) =>
        if true = true then (mulC x4 scale).bind fun t5 =>
          some (some t5, draws, script, waits, lag, scale, (), (), (), (), (), (), (), (), ())
        else some (none, draws, script, waits, lag, scale, (), (), (), (), (), (), (), (), ())) waits ((d1, script, waits, lag, 2 + t3, (), (), (), (), (), (), (), (), ()))).bind fun (t6, (draws, script, waits, lag, scale, _, _, _, _, _, _, _, _, _)) =>
    (mulC lag scale).bind fun t7 =>
    (m_law_take draws 3).bind fun (t8, d9) =>
    (m_law_every t6).bind fun t10 =>
    if List.length t10 ≤ 16777216 then (compM (fun x11 (draws, script, waits, lag, scale, great, far, _, _, _, _, _, _, _) =>
          if decide (0 < x11) = true then some (some x11, draws, script, waits, lag, scale, great, far, (), (), (), (), (), (), ())
          else some (none, draws, script, waits, lag, scale, great, far, (), (), (), (), (), (), ())) t10 ((d9, script, waits, lag, scale, t6, t7 + t8, (), (), (), (), (), (), ()))).bind fun (t12, (draws, script, waits, lag, scale, great, far, _, _, _, _, _, _, _)) =>
      (if (decide (0 < (↑(List.length t12) : Int)) && decide (0 < far)) = true then (List.min? t12).bind fun t13 =>
          some
  (Out.nx
    (draws, (), waits, (), scale, great, far, (), some (0, max 1 (t13 - far + 1), t13 - max 1 (t13 - far + 1) + 1), (),
      (), (), (), ()))
        else some (Out.nx (draws, (), waits, (), scale, great, far, (), none, (), (), (), (), ())) : Option
  (Out
    (List Int ×
      PUnit ×
        List Int ×
          PUnit × Int × List Int × Int × PUnit × Option (Int × Int × Int) × PUnit × PUnit × PUnit × PUnit × PUnit)
    PUnit (Bool × List Int))).bind fun o => match o with
      | .nx (draws, _, waits, _, scale, great, far, _, due, _, _, _, _, _) => ((m_never_twice (great, far)).bind fun t14 =>
          if (!decide (t14 = Option.isNone due)) = true then some (true, draws, (), waits, (), scale, great, far, (), due, (), (), (), (), ())
          else (m_twice_course (great, far)).bind fun t15 =>
            some (!decide (t15 = due), draws, (), waits, (), scale, great, far, (), due, (), (), (), (), ())).bind fun (t16, (draws, _, waits, _, scale, great, far, _, due, _, _, _, _, _)) =>
        if t16 = true then some (false, draws)
        else (if Option.isSome due = true then ((due).bind fun (t17, d18) =>
                (due).bind fun (t19, d20) =>
                (m_is_twice (great, some (t17, d18.1), d20.2)).bind fun t21 =>
                if (!decide (t21 = true)) = true then some (true, draws, (), waits, (), scale, great, far, (), due, (), (), (), (), ())
                else (due).bind fun (t22, d23) =>
                  (due).bind fun (t24, d25) =>
                  (m_is_twice (great, some (t22, d23.1), d25.2 - 1)).bind fun t26 =>
                  some (!decide (t26 = false), draws, (), waits, (), scale, great, far, (), due, (), (), (), (), ())).bind fun (t27, (draws, _, waits, _, scale, great, far, _, due, _, _, _, _, _)) =>
              if t27 = true then some (Out.rt (false, draws))
              else ((due).bind fun (t28, d29) =>
                  if decide (1 < d29.1) = true then (due).bind fun (t30, d31) =>
                    (m_is_twice (great, some (0, d31.1 - 1), far)).bind fun t32 =>
                    some (!decide (t32 = false), draws, (), waits, (), scale, great, far, (), due, (), (), (), (), ())
                  else some (false, draws, (), waits, (), scale, great, far, (), due, (), (), (), (), ())).bind fun (t33, (draws, _, waits, _, scale, great, far, _, due, _, _, _, _, _)) =>
                if t33 = true then some (Out.rt (false, draws))
                else some (Out.nx (draws, (), waits, (), scale, great, (), (), (), (), (), (), (), ()))
            else some (Out.nx (draws, (), waits, (), scale, great, (), (), (), (), (), (), (), ())) : Option
  (Out
    (List Int ×
      PUnit × List Int × PUnit × Int × List Int × PUnit × PUnit × PUnit × PUnit × PUnit × PUnit × PUnit × PUnit)
    PUnit (Bool × List Int))).bind fun o => match o with
          | .nx (draws, _, waits, _, scale, great, _, _, _, _, _, _, _, _) => (m_all_sent_by great).bind fun t34 =>
            (mulC scale (List.sum waits)).bind fun t35 =>
            some (decide (t34 = t35), draws)
          | .bk s36 => none
          | .ct s37 => none
          | .rt r => some r
      | .bk s38 => none
      | .ct s39 => none
      | .rt r => some r
    else none
  else none := by set_option smartUnfolding false in exact rfl

theorem e_law (script : List Int) : m_law script =
  (m_law_draws (script, 420)).bind fun t0 =>
  (rng1 4).bind fun t1 =>
  (loopM (fun x2 (script, draws, _, _, _, _, _, _, _) =>
      (m_law_take draws 3).bind fun (t3, d4) =>
      (getI [1, 3, 9] t3).bind fun t5 =>
      (m_law_take d4 5).bind fun (t6, d7) =>
      (rng1 t6).bind fun t8 =>
      if List.length t8 ≤ 16777216 then (compM (fun x9 (script, draws, k, wide, _, _, _, _, _) =>
            if true = true then (m_law_take draws wide).bind fun (t10, d11) =>
              some (some t10, script, d11, k, wide, (), (), (), (), ())
            else some (none, script, draws, k, wide, (), (), (), (), ())) t8 ((script, d7, x2, t5, (), (), (), (), ()))).bind fun (t12, (script, draws, k, wide, _, _, _, _, _)) =>
        (m_law_take draws 4).bind fun (t13, d14) =>
        (m_law_take d14 13).bind fun (t15, d16) =>
        (m_law_take d16 3).bind fun (t17, d18) =>
        (getI [0, t13, t15] t17).bind fun t19 =>
        ((m_law_small_right d18 (t12, t19)).bind fun (t20, d21) =>
          if (!t20) = true then some (true, script, d21, k, wide, t12, t19, (), (), ())
          else (m_law_great_right d21 (script, t12, t19)).bind fun (t22, d23) =>
            some (!t22, script, d23, k, wide, t12, t19, (), (), ())).bind fun (t24, (script, draws, k, wide, waits, lag, _, _, _)) =>
        if t24 = true then some (Out.rt false)
        else some (Out.nx (script, draws, (), (), (), (), (), (), ()))
      else none) t1 ((script, t0, (), (), (), (), (), (), ()))).bind fun o => match o with
  | .go (script, draws, _, _, _, _, _, _, _) => (m_law_take draws 4).bind fun (t25, d26) =>
    (m_law_take d26 20).bind fun (t27, d28) =>
    (m_waits_for (2 + t25, t27)).bind fun t29 =>
    (if (!true) = true then some (true, script, d28, (), (), (), (), t29, (), ())
      else (m_law_take d28 6).bind fun (t30, d31) =>
        (m_law_small_right d31 (t29, t30)).bind fun (t32, d33) =>
        some (!t32, script, d33, (), (), (), (), t29, (), ())).bind fun (t34, (script, draws, _, _, _, _, even, _, _)) =>
    if t34 = true then some false
    else ((m_twice_course ([0, 5], 2)).bind fun t35 =>
        if (!decide (t35 = some (0, 4, 2))) = true then some (true, (), (), (), (), (), (), (), (), ())
        else ((m_twice_course ([0, 5], 9)).bind fun t36 =>
            if (!decide (t36 = some (0, 1, 5))) = true then some (true, (), (), (), (), (), (), (), (), ())
            else (m_twice_course ([0, 0], 9)).bind fun t37 =>
              some (!decide (t37 = none), (), (), (), (), (), (), (), (), ())).bind fun (t38, (_, _, _, _, _, _, _, _, _)) =>
          some (t38, (), (), (), (), (), (), (), (), ())).bind fun (t39, (_, _, _, _, _, _, _, _, _)) =>
      if t39 = true then some false
      else ((m_never_twice ([], 9)).bind fun t40 =>
          if decide (t40 = true) = true then ((m_never_twice ([3], 0)).bind fun t41 =>
              if decide (t41 = true) = true then ((m_never_twice ([0, 1], 1)).bind fun t42 =>
                  if decide (t42 = false) = true then (m_twice_course ([4, 4], 1)).bind fun t43 =>
                    some (decide (t43 = some (0, 4, 1)), (), (), (), (), (), (), (), (), ())
                  else some (false, (), (), (), (), (), (), (), (), ())).bind fun (t44, (_, _, _, _, _, _, _, _, _)) =>
                some (t44, (), (), (), (), (), (), (), (), ())
              else some (false, (), (), (), (), (), (), (), (), ())).bind fun (t45, (_, _, _, _, _, _, _, _, _)) =>
            some (t45, (), (), (), (), (), (), (), (), ())
          else some (false, (), (), (), (), (), (), (), (), ())).bind fun (t46, (_, _, _, _, _, _, _, _, _)) =>
        some t46
  | .rt r => some r := by set_option smartUnfolding false in exact rfl

end Wk17

namespace Wk17
open L3 PySem
/-! ### the helpers -/
theorem take_ok (ds : List Int) {many : Int} (h : 0 < many) : ∃ t ds', m_law_take ds many = some (t, ds') ∧ 0 ≤ t ∧ t < many := by
  rw [e_law_take]
  by_cases hd : ds = []
  · subst hd
    exact ⟨0, [], rfl, by omega, h⟩
  · obtain ⟨y, ys, e⟩ := popC_ok hd
    obtain ⟨r, e2, h1, h2⟩ := modC_ok (x := y) h
    refine ⟨r, ys, ?_, h1, h2⟩
    have hl : ds.length ≠ 0 := fun z => hd (List.eq_nil_of_length_eq_zero z)
    rw [if_neg (by simp; omega), e]
    show (modC y many).bind _ = _
    rw [e2]
    rfl
theorem cell_ok (ns : List Int) (at' : Int) : ∃ t, m_law_cell (ns, at') = some t := by
  rw [e_law_cell]
  by_cases hd : ns = []
  · subst hd
    exact ⟨0, rfl⟩
  · have hl : ns.length ≠ 0 := fun z => hd (List.eq_nil_of_length_eq_zero z)
    obtain ⟨r, e2, h1, h2⟩ := modC_ok (x := at') (y := ((ns.length : Nat) : Int)) (by omega)
    obtain ⟨c, e3, _⟩ := getI_ok (xs := ns) h1 h2
    obtain ⟨q, e4, _⟩ := modC_ok (x := (c.natAbs : Int)) (y := 1000000000000000000000000000000000000000000000000000000000000) (by decide)
    rw [if_neg (by simp; omega), e2, Option.bind_some, e3, Option.bind_some, e4, Option.bind_some]
    by_cases hc : c < 0
    · rw [decide_eq_true hc, show getI [1, -1] (b01 true) = some (-1 : Int) from rfl, Option.bind_some, mulC_ok (by decide)]
      exact ⟨_, rfl⟩
    · rw [decide_eq_false hc, show getI [1, -1] (b01 false) = some (1 : Int) from rfl, Option.bind_some, mulC_ok (by decide)]
      exact ⟨_, rfl⟩
abbrev SD := Unit × Int × List Int × List Int × List Int × Unit × Unit × Unit × Unit × Unit
noncomputable def dbody (x5 : Int) : SD → Option (Out SD SD (List Int))
  | (_, many, cells, rest, draws, _, _, _, _, _) =>
          (modC x5 (↑(List.length cells) : Int)).bind fun t6 =>
          ((getI cells t6).bind fun t7 =>
            if decide (1000000000000000000 ≤ t7) = true then (getI rest t6).bind fun t8 =>
              some (decide (0 < t8), (), many, cells, rest, draws, x5, t6, (), (), ())
            else some (false, (), many, cells, rest, draws, x5, t6, (), (), ())).bind fun (t9, (_, many, cells, rest, draws, k, at', _, _, _)) =>
          (if t9 = true then (getI rest at').bind fun t10 =>
              (modC t10 1000).bind fun t11 =>
              (appC draws t11).bind fun (t12, d13) =>
              (getI rest at').bind fun t14 =>
              (divC t14 1000).bind fun t15 =>
              (setC rest at' t15).bind fun t16 =>
              some (Out.nx ((), many, cells, t16, d13, (), (), (), (), ()))
            else (getI cells at').bind fun t17 =>
              (mulC t17 48271).bind fun t18 =>
              (mulC k 69621).bind fun t19 =>
              (modC (t18 + t19 + 11) 2147483647).bind fun t20 =>
              (mulC t20 t20).bind fun t21 =>
              (mulC 3 t20).bind fun t22 =>
              (modC (t21 + t22 + k) 1000003).bind fun t23 =>
              (appC draws t23).bind fun (t24, d25) =>
              some (Out.nx ((), many, cells, rest, d25, (), (), (), (), ())) : Option (Out SD SD (List Int))).bind fun o => match o with
          | .nx (_, many, cells, rest, draws, _, _, _, _, _) => some (Out.nx ((), many, cells, rest, draws, (), (), (), (), ()))
          | .bk (_, many, cells, rest, draws, _, _, _, _, _) => some (Out.bk ((), many, cells, rest, draws, (), (), (), (), ()))
          | .ct (_, many, cells, rest, draws, _, _, _, _, _) => some (Out.ct ((), many, cells, rest, draws, (), (), (), (), ()))
          | .rt r => some (Out.rt r)
theorem dbody_ok (x many : Int) (cells rest draws : List Int) (hc : cells ≠ []) (hr : rest.length = cells.length) (hd : draws.length < 16777216) : ∃ rest' draws', dbody x ((), many, cells, rest, draws, (), (), (), (), ()) = some (.nx ((), many, cells, rest', draws', (), (), (), (), ())) ∧ rest'.length = cells.length ∧ draws'.length = draws.length + 1 := by
  have hl : cells.length ≠ 0 := fun z => hc (List.eq_nil_of_length_eq_zero z)
  obtain ⟨r, e2, h1, h2⟩ := modC_ok (x := x) (y := ((cells.length : Nat) : Int)) (by omega)
  obtain ⟨c, e3, _⟩ := getI_ok (xs := cells) h1 h2
  obtain ⟨c2, e4, _⟩ := getI_ok (xs := rest) h1 (by omega)
  obtain ⟨q, e5, _, _⟩ := modC_ok (x := c2) (y := 1000) (by decide)
  obtain ⟨zs, e6, hz⟩ := setC_ok (xs := rest) (i := r) (y := c2 / 1000) h1 (by omega)
  obtain ⟨u, e7, g1, g2⟩ := modC_ok (x := c * 48271 + x * 69621 + 11) (y := 2147483647) (by decide)
  obtain ⟨u2, e8, _, _⟩ := modC_ok (x := u * u + 3 * u + x) (y := 1000003) (by decide)
  have d1 : divC c2 1000 = some (c2 / 1000) := divC_ok (by decide) (by decide)
  have m1 : mulC c 48271 = some (c * 48271) := mulC_ok (by decide)
  have m2 : mulC x 69621 = some (x * 69621) := mulC_ok (by decide)
  have m3 : mulC u u = some (u * u) := mulC_ok (by omega)
  have m4 : mulC 3 u = some (3 * u) := mulC_ok (by omega)
  have two : (∃ rest' draws', dbody x ((), many, cells, rest, draws, (), (), (), (), ()) = some (.nx ((), many, cells, rest', draws', (), (), (), (), ())) ∧ rest'.length = cells.length ∧ draws'.length = draws.length + 1) := by
    unfold dbody
    dsimp only
    rw [e2, Option.bind_some, e3, Option.bind_some]
    by_cases hb : 1000000000000000000 ≤ c
    · rw [decide_eq_true hb, if_pos rfl, e4, Option.bind_some, Option.bind_some]
      dsimp only
      by_cases h0 : 0 < c2
      · simp only [decide_eq_true h0, if_true, e4, Option.bind_some, e5, appC_ok (y := q) hd, d1, e6]
        exact ⟨_, _, rfl, by omega, by simp⟩
      · simp only [decide_eq_false h0, Bool.false_eq_true, if_false, e3, Option.bind_some, m1, m2, e7, m3, m4, e8, appC_ok (y := u2) hd]
        exact ⟨_, _, rfl, hr, by simp⟩
    · rw [decide_eq_false hb, if_neg (by decide), Option.bind_some]
      dsimp only
      simp only [Bool.false_eq_true, if_false, e3, Option.bind_some, m1, m2, e7, m3, m4, e8, appC_ok (y := u2) hd]
      exact ⟨_, _, rfl, hr, by simp⟩
  exact two
theorem draws_ok (ns : List Int) {many : Nat} (h : ns.length ≤ 63) (hm : many ≤ 10000) : ∃ ds, m_law_draws (ns, (many : Int)) = some ds := by
  have key : ∀ cells : List Int, cells ≠ [] → ∃ s' : SD, loopM dbody ((List.range many).map fun (i : Nat) => (i : Int)) (((), (many : Int), cells, cells, [], (), (), (), (), ()) : SD) = some (.go s') := by
    intro cells hc
    have step : ∀ j x (s : SD), ((List.range many).map fun (i : Nat) => (i : Int))[j]? = some x → (∃ rest draws, s = ((), (many : Int), cells, rest, draws, (), (), (), (), ()) ∧ rest.length = cells.length ∧ draws.length = 0 + j) → ∃ s', dbody x s = some (.nx s') ∧ ∃ rest draws, s' = ((), (many : Int), cells, rest, draws, (), (), (), (), ()) ∧ rest.length = cells.length ∧ draws.length = 0 + j + 1 := by
      rintro j x s hx ⟨rest, draws, rfl, hr, hd⟩
      have hj := (ix_range hx).2
      obtain ⟨r2, d2, e, h1, h2⟩ := dbody_ok x many cells rest draws hc hr (by omega)
      exact ⟨_, e, _, _, rfl, h1, by omega⟩
    obtain ⟨s', e, _⟩ := loop_ix (f := dbody) (P := fun i (s : SD) => ∃ rest draws, s = ((), (many : Int), cells, rest, draws, (), (), (), (), ()) ∧ rest.length = cells.length ∧ draws.length = i) ((List.range many).map fun (i : Nat) => (i : Int)) 0 ((), (many : Int), cells, cells, [], (), (), (), (), ()) step ⟨_, _, rfl, rfl, rfl⟩
    exact ⟨s', e⟩
  rw [e_law_draws, if_pos (by omega)]
  rw [comp_pure (g := fun x => some x) ns (fun x _ => rfl)]
  rw [List.filterMap_some, Option.bind_some]
  have r420 : rng1 (many : Int) = some ((List.range many).map fun (i : Nat) => (i : Int)) := rng1_nat (n := many) (by omega)
  cases ns with
  | nil =>
    obtain ⟨s', e⟩ := key [0] (by simp)
    refine ⟨s'.2.2.2.2.1.reverse, ?_⟩
    show ((rng1 (many : Int)).bind fun t4 => (loopM dbody t4 ((), (many : Int), [0], [0], [], (), (), (), (), ())).bind fun o => _) = _
    rw [r420, Option.bind_some, e, Option.bind_some]
  | cons a l =>
    obtain ⟨s', e⟩ := key (a :: l) (by simp)
    refine ⟨s'.2.2.2.2.1.reverse, ?_⟩
    show (Option.bind (if decide (((a :: l).length : Int) = 0) = true then _ else _) _) = _
    rw [if_neg (by simp; omega), Option.bind_some]
    show ((rng1 (many : Int)).bind fun t4 => (loopM dbody t4 ((), (many : Int), a :: l, a :: l, [], (), (), (), (), ())).bind fun o => _) = _
    rw [r420, Option.bind_some, e, Option.bind_some]

/-! ### the words' minutes -/
def Tm (ws : List Int) (i : Nat) : Int := (ws.take i).sum
def times (ws : List Int) : List Int := (List.range (ws.length + 1)).map (Tm ws)
theorem Tm_succ {ws : List Int} {i : Nat} (h : i < ws.length) : Tm ws (i + 1) = Tm ws i + ws[i] := by
  unfold Tm
  rw [List.take_succ_eq_append_getElem h, List.sum_append]
  simp
theorem map_succ (f : Nat → Int) (n : Nat) : (List.range (n + 1)).map f = (List.range n).map f ++ [f n] := by
  rw [List.range_succ, List.map_append]
  rfl
theorem planned_ok (ws : List Int) (h : ws.length ≤ 1000) : m_planned ws = some (times ws) := by
  rw [e_planned]
  refine loop_bind (P := fun i s => s = (ws, (List.range (i + 1)).map (Tm ws), (), ())) ?_ rfl ?_
  · rintro j x s hx rfl
    obtain ⟨hj, rfl⟩ := List.getElem?_eq_some_iff.mp hx
    refine ⟨_, ?_, rfl⟩
    dsimp only
    rw [map_succ (Tm ws) j, getI_last, Option.bind_some, catC_ok (by simp; omega), Option.bind_some, map_succ (Tm ws) (j + 1), map_succ (Tm ws) j, Tm_succ hj]
  · rintro s' rfl
    rfl
def pk (known : Option Int) (t : Int) : Bool := match known with
  | none => true
  | some k => decide (t < k)
def sentL (ws : List Int) (known : Option Int) : List Int := (times ws).filter (pk known)
theorem sentL_len (ws : List Int) (known : Option Int) : (sentL ws known).length ≤ ws.length + 1 := by
  refine Nat.le_trans (List.length_filter_le ..) ?_
  simp [times]
theorem known_ok (read : Option (Int × Int)) (late : Int) : m_known_by (read, late) = some (read.map fun r => r.2 + late) := by
  rw [e_known_by]
  cases read <;> rfl
theorem filt {f : Int → Option Int} {p : Int → Bool} (h : ∀ x, f x = if p x = true then some x else none) : ∀ xs : List Int, xs.filterMap f = xs.filter p
  | [] => rfl
  | x :: xs => by
    rw [List.filterMap_cons, h x, filt h xs, List.filter_cons]
    cases p x <;> rfl
theorem minutes_ok (ws : List Int) (read : Option (Int × Int)) (late : Int) (h : ws.length ≤ 1000) : m_sent_minutes (ws, read, late) = some (sentL ws (read.map fun r => r.2 + late)) := by
  rw [e_sent_minutes, known_ok, Option.bind_some, planned_ok ws h, Option.bind_some, if_pos (by simp [times]; omega)]
  rw [comp_pure (g := fun x => if pk (read.map fun r => r.2 + late) x = true then some x else none)]
  · rw [filt (p := pk (read.map fun r => r.2 + late)) (fun x => rfl)]
    rfl
  · intro x _
    cases read with
    | none => rfl
    | some r =>
      dsimp only [Option.map_some, Option.isNone_some]
      rw [if_neg (by decide), Option.bind_some, Option.bind_some]
      by_cases hx : x < r.2 + late
      · simp [pk, hx]
      · simp [pk, hx]
theorem most_ok (ws : List Int) (lag minute : Int) (h : ws.length ≤ 1000) : m_most_sent (ws, lag, minute) = some ((sentL ws (some (minute + lag))).length : Int) := by
  rw [e_most_sent, planned_ok ws h, Option.bind_some, if_pos (by simp [times]; omega)]
  rw [comp_pure (g := fun x => if pk (some (minute + lag)) x = true then some x else none)]
  · rw [filt (p := pk (some (minute + lag))) (fun x => rfl)]
    rfl
  · intro x _
    show (if decide (x < minute + lag) = true then _ else _) = _
    by_cases hx : x < minute + lag
    · simp [pk, hx]
    · simp [pk, hx]
theorem all_ok (ws : List Int) (h : ws.length ≤ 1000) : m_all_sent_by ws = some (Tm ws ws.length) := by
  rw [e_all_sent_by, planned_ok ws h, Option.bind_some]
  unfold times
  rw [map_succ, getI_last]
  rfl
/-! ### twice -/
def tw (L : List Int) (m mi : Int) : Bool := ((List.range L.length).map fun (i : Nat) => (i : Int)).any fun x => !decide (x = m) && decide (mi ≤ L.getD x.toNat 0)
theorem getD_at {L : List Int} {j : Nat} (h : j < L.length) : getI L (j : Int) = some (L.getD (j : Int).toNat 0) := by
  rw [getI_at h, Int.toNat_natCast, List.getD_eq_getElem?_getD, List.getElem?_eq_getElem h]
  rfl
theorem twice_ok (ws : List Int) (m mi late : Int) (h : ws.length ≤ 1000) : m_is_twice (ws, some (m, mi), late) = some (tw (sentL ws (some (mi + late))) m mi) := by
  rw [e_is_twice, if_neg (by simp), Option.bind_some]
  dsimp only
  rw [show m_sent_minutes (ws, some (m, mi), late) = some (sentL ws (some (mi + late))) from minutes_ok ws _ _ h, Option.bind_some]
  have hl := sentL_len ws (some (mi + late))
  generalize sentL ws (some (mi + late)) = L at hl
  rw [rng1_nat (by omega), Option.bind_some, if_pos (by simp; omega)]
  rw [comp_pure (g := fun x => if (!decide (x = m)) = true then some (decide (mi ≤ L.getD x.toNat 0)) else none)]
  · rw [Option.bind_some]
    dsimp only
    rw [any_fm]
    refine congrArg some (any_same fun x _ => ?_)
    cases (!decide (x = m)) <;> simp
  · intro x hx
    obtain ⟨j, rfl, hj⟩ := mem_range' hx
    dsimp only
    cases (!decide ((j : Int) = m)) with
    | true =>
      rw [if_pos rfl, if_pos rfl, getD_at hj]
      rfl
    | false => rfl
theorem Tm_mono {ws : List Int} (hw : ∀ w ∈ ws, 0 ≤ w) : ∀ {i j : Nat}, i ≤ j → j ≤ ws.length → Tm ws i ≤ Tm ws j := by
  intro i j hij
  induction j with
  | zero => intro _; rw [Nat.le_zero.mp hij]; exact Int.le_refl _
  | succ j ih =>
    intro hj
    by_cases e : i = j + 1
    · rw [e]; exact Int.le_refl _
    · have h1 := ih (by omega) (by omega)
      rw [Tm_succ (by omega)]
      have := hw _ (List.getElem_mem (show j < ws.length by omega))
      omega
theorem times_get {ws : List Int} {j : Nat} (h : j < ws.length + 1) : getI (times ws) (j : Int) = some (Tm ws j) := by
  rw [getI_at (by simpa [times] using h)]
  simp [times]
theorem times_last (ws : List Int) : getI (times ws) (-1) = some (Tm ws ws.length) := by
  unfold times
  rw [map_succ, getI_last]
theorem sent_none (ws : List Int) : sentL ws none = times ws := by
  unfold sentL
  rw [List.filter_eq_self.mpr]
  intro a _
  rfl
theorem sent_many {ws : List Int} {k : Int} {m : Nat} (hw : ∀ w ∈ ws, 0 ≤ w) (hm : m < ws.length + 1) (h : Tm ws m < k) : m < (sentL ws (some k)).length := by
  have hs : ((List.range (m + 1)).map (Tm ws)).Sublist (times ws) := List.Sublist.map _ (List.range_sublist.mpr (by omega))
  have h2 := (hs.filter (pk (some k))).length_le
  rw [List.filter_eq_self.mpr] at h2
  · simp at h2
    exact h2
  · intro a ha
    obtain ⟨i, hi, rfl⟩ := List.mem_map.mp ha
    have := Tm_mono hw (i := i) (j := m) (by have := List.mem_range.mp hi; omega) (by omega)
    simp [pk]
    omega
theorem getD_perm {t : Int} {a b : Int} (h : 0 ≤ t) (h2 : t < 2) : getI [a, b] t = some a ∨ getI [a, b] t = some b := by
  have : t = 0 ∨ t = 1 := by omega
  rcases this with rfl | rfl
  · exact .inl rfl
  · exact .inr rfl
theorem sum_rep (n : Nat) (a : Int) : (List.replicate n a).sum = n * a := by
  induction n with
  | zero => simp
  | succ n ih => rw [List.replicate_succ, List.sum_cons, ih]; simp [Int.add_mul]; omega
theorem flat_rep (n : Nat) (a : Int) : (List.replicate n [a]).flatten = List.replicate n a := by
  induction n with
  | zero => rfl
  | succ n ih => rw [List.replicate_succ, List.flatten_cons, ih]; rfl
theorem waits_for_ok {n : Nat} {last : Int} (hn : 1 ≤ n) (hn2 : n ≤ 1000) : ∃ (q : Int) (b : Nat), b < n ∧ m_waits_for ((n : Int) + 1, last) = some (List.replicate (n - b) q ++ List.replicate b (q + 1)) ∧ n * q + b = last := by
  rw [e_waits_for]
  have e1 : (n : Int) + 1 - 1 = n := by omega
  have h1 : divC last ((n : Int) + 1 - 1) = some (last / n) := by rw [e1]; exact divC_ok (by omega) (by omega)
  have h2 : modC last ((n : Int) + 1 - 1) = some (last % n) := by rw [e1]; unfold modC; rw [if_pos (by omega)]
  rw [h1, Option.bind_some, h2, Option.bind_some]
  have g1 := Int.emod_nonneg last (b := (n : Int)) (by omega)
  have g2 := Int.emod_lt_of_pos last (b := (n : Int)) (by omega)
  have g3 := Int.mul_ediv_add_emod last n
  obtain ⟨b, hb⟩ := Int.eq_ofNat_of_zero_le g1
  rw [hb] at g2 g3 ⊢
  refine ⟨last / n, b, by omega, ?_, g3⟩
  have r1 : repT [last / (n : Int)] ((n : Int) + 1 - 1 - (b : Int)) = some (List.replicate (n - b) (last / n)) := by
    rw [repT_eq, if_pos (by simp; omega), flat_rep]
    congr 2
    omega
  have r2 : repT [last / (n : Int) + 1] (b : Int) = some (List.replicate b (last / n + 1)) := by
    rw [repT_eq, if_pos (by simp; omega), flat_rep, Int.toNat_natCast]
  rw [r1, Option.bind_some, r2, Option.bind_some, catC_ok (by simp; omega), Option.bind_some]
theorem told_mem {k b : Nat} {q x : Int} (h : x ∈ List.replicate k q ++ List.replicate b (q + 1)) : q ≤ x ∧ x ≤ q + 1 := by
  rcases List.mem_append.mp h with h | h
  · rw [(List.mem_replicate.mp h).2]; omega
  · rw [(List.mem_replicate.mp h).2]; omega
theorem cnt_mono {ws : List Int} {a b : Int} (h : a ≤ b) : (sentL ws (some a)).length ≤ (sentL ws (some b)).length := by
  unfold sentL
  rw [← List.countP_eq_length_filter, ← List.countP_eq_length_filter]
  refine List.countP_mono_left fun x _ hx => ?_
  have : x < a := of_decide_eq_true hx
  exact decide_eq_true (by omega)
theorem Tm_bd {ws : List Int} (hw : ∀ w ∈ ws, 0 ≤ w ∧ w < 100) : ∀ {j : Nat}, j ≤ ws.length → 0 ≤ Tm ws j ∧ Tm ws j ≤ 100 * j := by
  intro j
  induction j with
  | zero => intro _; simp [Tm]
  | succ j ih =>
    intro hj
    have h1 := ih (by omega)
    have := hw _ (List.getElem_mem (show j < ws.length by omega))
    rw [Tm_succ (by omega)]
    omega
theorem rng2_ok {lo hi : Int} (h1 : -1000000 ≤ lo) (h2 : lo ≤ 1000000) (h3 : -1000000 ≤ hi) (h4 : hi ≤ 1000000) : rng2 lo hi = some (rangeL lo hi) := by
  rw [rng2_eq, if_pos (by omega)]

/-! ### k17 -/
theorem rng2_big {lo hi : Int} (h1 : -(2 ^ 62) ≤ lo) (h2 : lo < 2 ^ 62) (h3 : -(2 ^ 62) ≤ hi) (h4 : hi < 2 ^ 62) : rng2 lo hi = some (rangeL lo hi) := by
  rw [rng2_eq, if_pos ⟨h1, h2, h3, h4⟩]
theorem every_ok (ws : List Int) (h : ws.length ≤ 1000) : m_law_every ws = some (times ws) := by
  rw [e_law_every]
  refine loop_bind (P := fun i s => s = (ws, (List.range (i + 1)).map (Tm ws), (), ())) ?_ rfl ?_
  · rintro j x s hx rfl
    obtain ⟨hj, rfl⟩ := List.getElem?_eq_some_iff.mp hx
    refine ⟨_, ?_, rfl⟩
    dsimp only
    rw [map_succ (Tm ws) j, getI_last, Option.bind_some, appC_ok (by simp; omega), Option.bind_some, map_succ (Tm ws) (j + 1), map_succ (Tm ws) j, Tm_succ hj]
  · rintro s' rfl
    rfl
def tw2 (ws : List Int) (m mi late : Int) : Bool := ((List.range (ws.length + 1)).map fun (i : Nat) => (i : Int)).any fun x => !decide (x = m) && (decide (mi ≤ Tm ws x.toNat) && decide (Tm ws x.toNat < mi + late))
theorem is_twice_ok (ws : List Int) (m mi late : Int) (h : ws.length ≤ 1000) : m_law_is_twice (ws, m, mi, late) = some (tw2 ws m mi late) := by
  rw [e_law_is_twice, every_ok ws h, Option.bind_some, show (times ws).length = ws.length + 1 by simp [times], rng1_nat (by omega), Option.bind_some, if_pos (by simp; omega)]
  rw [comp_pure (g := fun x => if (!decide (x = m) && (decide (mi ≤ Tm ws x.toNat) && decide (Tm ws x.toNat < mi + late))) = true then some x else none)]
  · rw [Option.bind_some]
    dsimp only
    rw [len_fm]
    refine congrArg some (any_same fun x _ => ?_)
    cases (!decide (x = m) && (decide (mi ≤ Tm ws x.toNat) && decide (Tm ws x.toNat < mi + late))) <;> rfl
  · intro x hx
    obtain ⟨j, rfl, hj⟩ := mem_range' hx
    dsimp only
    rw [times_get hj, Int.toNat_natCast]
    simp only [Option.bind_some]
    cases (!decide ((j : Int) = m)) <;> cases decide (mi ≤ Tm ws j) <;> cases decide (Tm ws j < mi + late) <;> rfl
theorem filt_take (k : Int) : ∀ l : List Int, l.Pairwise (· ≤ ·) → l.filter (fun x => decide (x < k)) = l.take (l.filter fun x => decide (x < k)).length ∧ ∀ (i : Nat) (hi : i < l.length), i < (l.filter fun x => decide (x < k)).length ↔ l[i] < k
  | [], _ => ⟨rfl, fun i hi => absurd hi (Nat.not_lt_zero i)⟩
  | x :: xs, h => by
    rw [List.pairwise_cons] at h
    obtain ⟨h1, h2⟩ := filt_take k xs h.2
    by_cases hx : x < k
    · rw [List.filter_cons_of_pos (by simpa using hx)]
      refine ⟨by rw [List.length_cons, List.take_succ_cons, ← h1], fun i hi => ?_⟩
      cases i with
      | zero => simpa using hx
      | succ i =>
        have := h2 i (by simpa using hi)
        simpa using this
    · have hn : xs.filter (fun x => decide (x < k)) = [] := by
        rw [List.filter_eq_nil_iff]
        intro y hy
        have := h.1 y hy
        simp
        omega
      rw [List.filter_cons_of_neg (by simpa using hx), hn]
      refine ⟨rfl, fun i hi => ?_⟩
      have : x ≤ (x :: xs)[i] := by
        cases i with
        | zero => exact Int.le_refl _
        | succ i => exact h.1 _ (List.getElem_mem (by simpa using hi))
      simp only [List.length_nil, Nat.not_lt_zero, false_iff]
      omega
theorem times_srt {ws : List Int} (hw : ∀ w ∈ ws, 0 ≤ w) : (times ws).Pairwise (· ≤ ·) := by
  unfold times
  rw [List.pairwise_map]
  refine (List.pairwise_lt_range (n := ws.length + 1)).imp_of_mem fun {a b} ha hb hab => ?_
  have := List.mem_range.mp hb
  exact Tm_mono hw (by omega) (by omega)
theorem tw_same {ws : List Int} {m mi late : Int} (hw : ∀ w ∈ ws, 0 ≤ w) : tw (sentL ws (some (mi + late))) m mi = tw2 ws m mi late := by
  obtain ⟨h1, h2⟩ := filt_take (mi + late) (times ws) (times_srt hw)
  have hlen : (times ws).length = ws.length + 1 := by simp [times]
  have hs : sentL ws (some (mi + late)) = (times ws).filter fun x => decide (x < mi + late) := rfl
  unfold tw tw2
  rw [Bool.eq_iff_iff, List.any_eq_true, List.any_eq_true]
  have hle : (sentL ws (some (mi + late))).length ≤ ws.length + 1 := sentL_len _ _
  have get : ∀ i : Nat, i < (sentL ws (some (mi + late))).length → (sentL ws (some (mi + late))).getD i 0 = Tm ws i := by
    intro i hi
    rw [hs] at hi ⊢
    rw [h1, List.getD_eq_getElem?_getD, List.getElem?_take, if_pos hi]
    simp [times]
    rw [List.getElem?_range (by rw [← hs] at hi; omega)]
    rfl
  constructor
  · rintro ⟨x, hx, hp⟩
    obtain ⟨j, rfl, hj⟩ := mem_range' hx
    rw [Int.toNat_natCast, get j hj] at hp
    have hj2 := (h2 j (by rw [hlen]; omega)).mp (by rw [← hs]; exact hj)
    refine ⟨(j : Int), List.mem_map.mpr ⟨j, List.mem_range.mpr (by omega), rfl⟩, ?_⟩
    rw [Int.toNat_natCast]
    have e : (times ws)[j]'(by rw [hlen]; omega) = Tm ws j := by simp [times]
    rw [e] at hj2
    rw [Bool.and_eq_true] at hp ⊢
    rw [Bool.and_eq_true]
    exact ⟨hp.1, hp.2, decide_eq_true hj2⟩
  · rintro ⟨x, hx, hp⟩
    obtain ⟨j, rfl, hj⟩ := mem_range' hx
    rw [Int.toNat_natCast, Bool.and_eq_true, Bool.and_eq_true] at hp
    have e : (times ws)[j]'(by rw [hlen]; omega) = Tm ws j := by simp [times]
    have hj2 := (h2 j (by rw [hlen]; omega)).mpr (by rw [e]; exact of_decide_eq_true hp.2.2)
    rw [← hs] at hj2
    refine ⟨(j : Int), List.mem_map.mpr ⟨j, List.mem_range.mpr hj2, rfl⟩, ?_⟩
    rw [Int.toNat_natCast, get j hj2, Bool.and_eq_true]
    exact ⟨hp.1, hp.2.1⟩
def fl (ws : List Int) : Option Int := ((times ws).filter fun x => decide (0 < x)).min?
theorem first_ok (ws : List Int) (h : ws.length ≤ 1000) : m_first_later ws = some (fl ws) := by
  rw [e_first_later, planned_ok ws h, Option.bind_some, if_pos (by simp [times]; omega)]
  rw [comp_pure (g := fun x => if decide (0 < x) = true then some x else none)]
  · rw [filt (p := fun x => decide (0 < x)) (fun x => rfl), Option.bind_some]
    dsimp only
    unfold fl
    generalize (times ws).filter (fun x => decide (0 < x)) = L
    cases L with
    | nil => rfl
    | cons a l =>
      rw [if_pos (by simp)]
      rfl
  · intro x _
    dsimp only
    cases decide (0 < x) <;> rfl
def nev (ws : List Int) (lag : Int) : Bool := decide (lag = 0) || (fl ws).isNone
theorem never_ok (ws : List Int) (lag : Int) (h : ws.length ≤ 1000) : m_never_twice (ws, lag) = some (nev ws lag) := by
  rw [e_never_twice]
  unfold nev
  by_cases h0 : lag = 0
  · rw [decide_eq_true h0]
    rfl
  · rw [decide_eq_false h0, if_neg (by decide), first_ok ws h]
    rfl
def crs (f lag : Int) : Int × Int × Int := (0, max 1 (f - lag + 1), f - max 1 (f - lag + 1) + 1)
def course (ws : List Int) (lag : Int) : Option (Int × Int × Int) := if nev ws lag = true then none else (fl ws).map fun f => crs f lag
theorem course_ok (ws : List Int) (lag : Int) (h : ws.length ≤ 1000) : m_twice_course (ws, lag) = some (course ws lag) := by
  rw [e_twice_course, never_ok ws lag h, Option.bind_some]
  unfold course
  cases hn : nev ws lag with
  | true => rfl
  | false =>
    rw [if_neg (by decide), if_neg (by decide), first_ok ws h, Option.bind_some]
    cases hf : fl ws with
    | none =>
      unfold nev at hn
      rw [hf] at hn
      simp at hn
    | some f => rfl
theorem fl_spec {ws : List Int} {f : Int} (h : fl ws = some f) : (∃ i, i < ws.length + 1 ∧ Tm ws i = f) ∧ 0 < f ∧ ∀ i, i < ws.length + 1 → 0 < Tm ws i → f ≤ Tm ws i := by
  obtain ⟨h1, h2⟩ := List.min?_eq_some_iff.mp h
  obtain ⟨h3, h4⟩ := List.mem_filter.mp h1
  obtain ⟨i, hi, e⟩ := List.mem_map.mp h3
  refine ⟨⟨i, List.mem_range.mp hi, e⟩, of_decide_eq_true h4, fun j hj hp => h2 _ (List.mem_filter.mpr ⟨List.mem_map.mpr ⟨j, List.mem_range.mpr hj, rfl⟩, decide_eq_true hp⟩)⟩
theorem fl_none {ws : List Int} (h : fl ws = none) : ∀ i, i < ws.length + 1 → Tm ws i ≤ 0 := by
  intro i hi
  have h1 := List.min?_eq_none_iff.mp h
  rw [List.filter_eq_nil_iff] at h1
  have := h1 (Tm ws i) (List.mem_map.mpr ⟨i, List.mem_range.mpr hi, rfl⟩)
  simpa using this
theorem tw2_no {ws : List Int} {m mi late : Int} (h : ∀ i, i < ws.length + 1 → (i : Int) ≠ m → mi ≤ Tm ws i → mi + late ≤ Tm ws i) : tw2 ws m mi late = false := by
  unfold tw2
  rw [List.any_eq_false]
  intro x hx hp
  obtain ⟨j, rfl, hj⟩ := mem_range' hx
  rw [Int.toNat_natCast, Bool.and_eq_true, Bool.and_eq_true] at hp
  have a := of_decide_eq_true hp.2.1
  have b := of_decide_eq_true hp.2.2
  have := h j hj (by simpa using hp.1) a
  omega
theorem tw2_yes {ws : List Int} {m mi late : Int} {i : Nat} (h : i < ws.length + 1) (h0 : (i : Int) ≠ m) (h1 : mi ≤ Tm ws i) (h2 : Tm ws i < mi + late) : tw2 ws m mi late = true := by
  unfold tw2
  rw [List.any_eq_true]
  refine ⟨(i : Int), List.mem_map.mpr ⟨i, List.mem_range.mpr h, rfl⟩, ?_⟩
  rw [Int.toNat_natCast, decide_eq_true h1, decide_eq_true h2, decide_eq_false h0]
  rfl

abbrev S7 := List Int × Int × List Int × Unit × Unit × Unit × Unit
theorem crs_ok {ws : List Int} {f lag : Int} (hl : 1 ≤ lag) (hf : fl ws = some f) : 1 ≤ (crs f lag).2.1 ∧ (crs f lag).2.1 ≤ f ∧ 1 ≤ (crs f lag).2.2 ∧ (crs f lag).2.2 ≤ lag ∧ (crs f lag).2.1 + (crs f lag).2.2 = f + 1 := by
  obtain ⟨_, h2, _⟩ := fl_spec hf
  simp only [crs]
  omega
theorem early_no {ws : List Int} {f lag mi late : Int} (hf : fl ws = some f) (h1 : 1 ≤ mi) (h2 : mi + late ≤ f) {m : Int} : tw2 ws m mi late = false :=
  tw2_no fun i hi _ h => by
    obtain ⟨_, _, h3⟩ := fl_spec hf
    have := h3 i hi (by omega)
    omega
theorem crs_yes {ws : List Int} {f lag : Int} (hl : 1 ≤ lag) (hf : fl ws = some f) : tw2 ws 0 (crs f lag).2.1 (crs f lag).2.2 = true := by
  obtain ⟨⟨i, hi, e⟩, h2, _⟩ := fl_spec hf
  obtain ⟨a1, a2, a3, a4, a5⟩ := crs_ok hl hf
  refine tw2_yes hi ?_ (by omega) (by omega)
  intro z
  have : i = 0 := by omega
  subst this
  have : Tm ws 0 = 0 := rfl
  omega
theorem nev_no {ws : List Int} {lag mi late m : Int} (h : nev ws lag = true) (h1 : 1 ≤ mi) (h2 : late ≤ lag) : tw2 ws m mi late = false := by
  unfold nev at h
  rw [Bool.or_eq_true] at h
  rcases h with h | h
  · have : lag = 0 := of_decide_eq_true h
    exact tw2_no fun i hi _ _ => by omega
  · have hn : fl ws = none := by simpa using h
    exact tw2_no fun i hi _ hh => by
      have := fl_none hn i hi
      omega
theorem least_ok (ws : List Int) (lag : Int) (h : ws.length ≤ 1000) (hw : ∀ w ∈ ws, 0 ≤ w ∧ w < 100) (h0 : 0 ≤ lag) (h1 : lag ≤ 1000) : m_law_least (ws, lag) = some (course ws lag) := by
  have hw0 : ∀ w ∈ ws, 0 ≤ w := fun w m => (hw w m).1
  rw [e_law_least, every_ok ws h, Option.bind_some, show (times ws).length = ws.length + 1 by simp [times], rng1_nat (by omega), Option.bind_some]
  have hlast := Tm_bd hw (j := ws.length) (Nat.le_refl _)
  cases hn : nev ws lag with
  | true =>
    refine loop_bind (P := fun _ (s : S7) => s = (ws, lag, times ws, (), (), (), ())) ?_ rfl ?_
    rotate_left
    · rintro s rfl
      unfold course
      rw [hn]
      rfl
    rintro j x s hx rfl
    obtain ⟨rfl, hj⟩ := ix_range hx
    have hb := Tm_bd hw (j := j) (by omega)
    dsimp only
    rw [times_get hj, Option.bind_some, times_last, Option.bind_some, rng2_ok (by omega) (by omega) (by omega) (by omega), Option.bind_some]
    refine loop_ex (P := fun (s : List Int × Int × List Int × Int × Unit × Unit × Unit) => s = (ws, lag, times ws, (j : Int), (), (), ())) (g := fun t => Out.nx t) ?_ rfl ?_
    rotate_left
    · rintro s rfl
      exact ⟨_, rfl, rfl⟩
    rintro mi hmi s rfl
    have hmi := mem_rangeL hmi
    dsimp only
    rw [rng1_L (by omega) (by omega), Option.bind_some]
    refine loop_ex (P := fun (s : List Int × Int × List Int × Int × Int × Unit × Unit) => s = (ws, lag, times ws, (j : Int), mi, (), ())) (g := fun t => Out.nx t) ?_ rfl ?_
    rotate_left
    · rintro s rfl
      exact ⟨_, rfl, rfl⟩
    rintro late hlate s rfl
    have hlate := mem_rangeL hlate
    dsimp only
    rw [is_twice_ok ws _ _ _ h, nev_no hn (by omega) (by omega)]
    exact ⟨_, rfl, rfl⟩
  | false =>
    have hl0 : lag ≠ 0 := fun z => by
      unfold nev at hn
      rw [decide_eq_true z] at hn
      simp at hn
    cases hf : fl ws with
    | none =>
      unfold nev at hn
      rw [hf] at hn
      simp at hn
    | some f =>
      obtain ⟨⟨i0, hi0, e0⟩, hfp, _⟩ := fl_spec hf
      have hfl : f ≤ Tm ws ws.length := by
        rw [← e0]
        exact Tm_mono hw0 (by omega) (Nat.le_refl _)
      obtain ⟨a1, a2, a3, a4, a5⟩ := crs_ok (ws := ws) (f := f) (lag := lag) (by omega) hf
      have hc : course ws lag = some (crs f lag) := by
        unfold course
        rw [hn, hf]
        rfl
      rw [hc]
      refine (loop_hit (P := fun (s : S7) => s = (ws, lag, times ws, (), (), (), ())) (r := some (crs f lag)) [] (y := (0 : Int)) (post := (List.range ws.length).map fun (i : Nat) => ((i + 1 : Nat) : Int)) ?_ ?_ rfl ?_).trans rfl
      · rw [List.range_succ_eq_map, List.map_cons, List.map_map]
        rfl
      · intro x m
        cases m
      · rintro s rfl
        dsimp only
        rw [show getI (times ws) 0 = some (Tm ws 0) from times_get (j := 0) (by omega), Option.bind_some, times_last, Option.bind_some, show Tm ws 0 = 0 from rfl, rng2_ok (by omega) (by omega) (by omega) (by omega), Option.bind_some]
        refine (loop_hit (P := fun (s : List Int × Int × List Int × Int × Unit × Unit × Unit) => s = (ws, lag, times ws, (0 : Int), (), (), ())) (r := some (crs f lag)) _ (rangeL_split _ (lo := 0 + 1) (m := (crs f lag).2.1) rfl (by omega) (by omega)) ?_ rfl ?_).trans rfl
        · rintro mi hmi s rfl
          have hmi := mem_rangeL hmi
          dsimp only
          rw [rng1_L (by omega) (by omega), Option.bind_some]
          refine loop_ex (P := fun (s : List Int × Int × List Int × Int × Int × Unit × Unit) => s = (ws, lag, times ws, (0 : Int), mi, (), ())) (g := fun t => Out.nx t) ?_ rfl ?_
          rotate_left
          · rintro s rfl
            exact ⟨_, rfl, rfl⟩
          rintro late hlate s rfl
          have hlate := mem_rangeL hlate
          dsimp only
          have hm2 : mi + lag ≤ f := by
            simp only [crs] at hmi
            omega
          rw [is_twice_ok ws _ _ _ h, early_no (lag := lag) hf (by omega) (by omega)]
          exact ⟨_, rfl, rfl⟩
        · rintro s rfl
          dsimp only
          rw [rng1_L (by omega) (by omega), Option.bind_some]
          refine (loop_hit (P := fun (s : List Int × Int × List Int × Int × Int × Unit × Unit) => s = (ws, lag, times ws, (0 : Int), (crs f lag).2.1, (), ())) (r := some (crs f lag)) _ (rangeL_split _ (lo := 0) (m := (crs f lag).2.2) rfl (by omega) (by omega)) ?_ rfl ?_).trans rfl
          · rintro late hlate s rfl
            have hlate := mem_rangeL hlate
            dsimp only
            rw [is_twice_ok ws _ _ _ h, early_no (lag := lag) hf (by omega) (by omega)]
            exact ⟨_, rfl, rfl⟩
          · rintro s rfl
            dsimp only
            rw [is_twice_ok ws _ _ _ h, crs_yes (by omega) hf]
            rfl

theorem course_none (ws : List Int) (lag : Int) : (course ws lag).isNone = nev ws lag := by
  unfold course
  cases hn : nev ws lag with
  | true => rfl
  | false =>
    rw [if_neg (by decide)]
    cases hf : fl ws with
    | none =>
      unfold nev at hn
      rw [hf] at hn
      simp at hn
    | some f => rfl
theorem nev_max {ws : List Int} {lag mx : Int} (hw : ∀ w ∈ ws, 0 ≤ w) (hl : lag ≠ 0) (hm : ws.max? = some mx) : decide (mx = 0) = nev ws lag := by
  obtain ⟨m1, m2⟩ := List.max?_eq_some_iff.mp hm
  have hmx := hw mx m1
  unfold nev
  rw [decide_eq_false hl, Bool.false_or]
  have tw0 : ∀ i, i ≤ ws.length → 0 ≤ Tm ws i := fun i hi => by
    have := Tm_mono hw (i := 0) (j := i) (by omega) hi
    simpa [Tm] using this
  cases hf : fl ws with
  | none =>
    obtain ⟨i, hi, e⟩ := List.getElem_of_mem m1
    have a := fl_none hf (i + 1) (by omega)
    rw [Tm_succ hi, e] at a
    have b := tw0 i (by omega)
    exact decide_eq_true (by omega)
  | some f =>
    obtain ⟨⟨i, hi, e⟩, h2, _⟩ := fl_spec hf
    refine decide_eq_false fun z => ?_
    have all0 : ∀ k, k ≤ ws.length → Tm ws k = 0 := by
      intro k
      induction k with
      | zero => intro _; rfl
      | succ k ih =>
        intro hk
        rw [Tm_succ (by omega), ih (by omega)]
        have a := m2 _ (List.getElem_mem (show k < ws.length by omega))
        have b := hw _ (List.getElem_mem (show k < ws.length by omega))
        omega
    have := all0 i (by omega)
    omega
theorem nev_nil (lag : Int) : nev [] lag = true := by
  unfold nev
  rw [show fl [] = none by decide +kernel]
  simp
theorem Tm_more {ws : List Int} {t : Int} {i : Nat} (h : i ≤ ws.length) : Tm (ws ++ [t]) i = Tm ws i := by
  unfold Tm
  rw [List.take_append_of_le_length h]
theorem nev_more {ws : List Int} {lag t : Int} {f : Int} (hl : lag ≠ 0) (hf : fl ws = some f) : nev (ws ++ [t]) lag = false := by
  unfold nev
  rw [decide_eq_false hl, Bool.false_or]
  cases hg : fl (ws ++ [t]) with
  | some g => rfl
  | none =>
    obtain ⟨⟨i, hi, e⟩, h2, _⟩ := fl_spec hf
    have := fl_none hg i (by simp; omega)
    rw [Tm_more (by omega)] at this
    omega
theorem nev_some {ws : List Int} {lag f : Int} (hl : lag ≠ 0) (hf : fl ws = some f) : nev ws lag = false := by
  unfold nev
  rw [decide_eq_false hl, hf]
  rfl
abbrev T14 := List Int × List Int × Int × Option (Int × Int × Int) × Unit × List Int × Unit × Unit × Unit × Unit × Unit × Unit × Unit × Unit
theorem small_ok (ds ws : List Int) (lag : Int) (h : ws.length ≤ 500) (hw : ∀ w ∈ ws, 0 ≤ w ∧ w < 100) (h0 : 0 ≤ lag) (h1 : lag ≤ 1000) : ∃ ds', m_law_small_right ds (ws, lag) = some (true, ds') := by
  have hw0 : ∀ w ∈ ws, 0 ≤ w := fun w m => (hw w m).1
  have h' : ws.length ≤ 1000 := by omega
  rw [e_law_small_right, least_ok ws lag h' hw h0 h1, Option.bind_some, never_ok ws lag h', course_ok ws lag h', course_none]
  simp only [Option.bind_some, decide_true, Bool.not_true, Bool.false_eq_true, if_false]
  have plain : ∃ b : Bool, b = nev ws lag ∧ (if decide ((↑(List.length ws) : Int) = 0) = true then some (true, ds, ws, lag, course ws lag, (), (), (), (), (), (), (), (), (), ())
      else (if decide (lag = 0) = true then some (true, ds, ws, lag, course ws lag, (), (), (), (), (), (), (), (), (), ())
          else (List.max? ws).bind fun t4 =>
            some (decide (t4 = 0), ds, ws, lag, course ws lag, (), (), (), (), (), (), (), (), (), ())).bind fun x =>
        some (x.1, x.2.1, x.2.2.1, x.2.2.2.1, x.2.2.2.2.1, (), (), (), (), (), (), (), (), (), ())) = some (b, ds, ws, lag, course ws lag, (), (), (), (), (), (), (), (), (), ()) := by
    by_cases hz : ws = []
    · subst hz
      exact ⟨true, (nev_nil lag).symm, rfl⟩
    · have hl : ws.length ≠ 0 := fun z => hz (List.eq_nil_of_length_eq_zero z)
      rw [decide_eq_false (by omega), if_neg (by decide)]
      by_cases hg : lag = 0
      · refine ⟨true, ?_, ?_⟩
        · unfold nev
          rw [decide_eq_true hg]
          rfl
        · rw [decide_eq_true hg]
          rfl
      · obtain ⟨mx, hmx⟩ : ∃ m, ws.max? = some m := by
          cases e : ws.max? with
          | none => exact absurd (List.max?_eq_none_iff.mp e) hz
          | some m => exact ⟨m, rfl⟩
        refine ⟨decide (mx = 0), nev_max hw0 hg hmx, ?_⟩
        rw [decide_eq_false hg, hmx]
        rfl
  obtain ⟨b, rfl, hb⟩ := plain
  rw [hb]
  simp only [Option.bind_some, every_ok ws h', course_none, decide_true, Bool.not_true, Bool.false_eq_true, if_false]
  rw [show rng1 8 = some _ from rng1_nat (n := 8) (by decide), Option.bind_some]
  refine loop_ex0 (P := fun (s : T14) => ∃ d, s = (d, ws, lag, course ws lag, (), times ws, (), (), (), (), (), (), (), ())) (g := fun d => (true, d)) ?_ ⟨_, rfl⟩ ?_
  · rintro x _ s ⟨d, rfl⟩
    have hlen : (times ws).length = ws.length + 1 := by simp [times]
    obtain ⟨t10, d11, e1, k1, k1'⟩ := take_ok d (many := ((times ws).length : Int)) (by omega)
    obtain ⟨m, rfl⟩ := Int.eq_ofNat_of_zero_le k1
    have hm : m < ws.length + 1 := by omega
    obtain ⟨t13, d14, e2, k2, k2'⟩ := take_ok d11 (many := 20) (by decide)
    obtain ⟨t15, d16, e3, k3, k3'⟩ := take_ok d14 (many := lag + 1) (by omega)
    have hT := (Tm_bd hw (j := m) (by omega)).1
    dsimp only
    rw [e1, Option.bind_some, times_get hm, Option.bind_some, e2, Option.bind_some, e3, Option.bind_some, twice_ok ws _ _ _ h', Option.bind_some, is_twice_ok ws _ _ _ h', Option.bind_some]
    have n1 : (tw (sentL ws (some (Tm ws m + 1 + t13 + t15))) (m : Int) (Tm ws m + 1 + t13) && (course ws lag).isNone) = false := by
      rw [course_none, tw_same hw0]
      cases hn : nev ws lag with
      | false => rw [Bool.and_false]
      | true => rw [nev_no hn (by omega) (by omega)]; rfl
    have n2 := tw_same (ws := ws) (m := (m : Int)) (mi := Tm ws m + 1 + t13) (late := t15) hw0
    rw [decide_eq_true n2, n1]
    simp only [Bool.not_true, Bool.false_eq_true, if_false, Option.bind_some]
    rw [show m_sent_minutes (ws, some ((m : Int), Tm ws m + 1 + t13), t15) = some (sentL ws (some (Tm ws m + 1 + t13 + t15))) from minutes_ok ws _ _ h', Option.bind_some, if_pos (by omega)]
    rw [comp_pure (g := fun x => if pk (some (Tm ws m + 1 + t13 + t15)) x = true then some x else none) (times ws) (by
      intro x _
      dsimp only
      rw [known_ok]
      simp only [Option.map_some, Option.bind_some]
      by_cases hx : x < Tm ws m + 1 + t13 + t15
      · simp [pk, hx]
      · simp [pk, hx])]
    rw [filt (p := pk (some (Tm ws m + 1 + t13 + t15))) (fun x => rfl), Option.bind_some]
    dsimp only
    rw [show (times ws).filter (pk (some (Tm ws m + 1 + t13 + t15))) = sentL ws (some (Tm ws m + 1 + t13 + t15)) from rfl, decide_eq_true rfl]
    have n3 := cnt_mono (ws := ws) (a := Tm ws m + 1 + t13 + t15) (b := Tm ws m + 1 + t13 + lag) (by omega)
    have hl2 := sentL_len ws (some (Tm ws m + 1 + t13 + t15))
    simp only [Bool.not_true, Bool.false_eq_true, if_false, most_ok ws _ _ h', Option.bind_some]
    rw [decide_eq_false (by omega), if_neg (by decide)]
    generalize sentL ws (some (Tm ws m + 1 + t13 + t15)) = S at hl2 ⊢
    rw [rng1_nat (by omega), Option.bind_some, if_pos (by simp; omega)]
    rw [comp_pure (g := fun x => if (!decide (x = (m : Int)) && decide (Tm ws m + 1 + t13 ≤ S.getD x.toNat 0)) = true then some x else none)]
    · rw [Option.bind_some]
      dsimp only
      rw [len_fm]
      have n4 : tw S (m : Int) (Tm ws m + 1 + t13) = (((List.range S.length).map fun (i : Nat) => (i : Int)).any fun x => (if (!decide (x = (m : Int)) && decide (Tm ws m + 1 + t13 ≤ S.getD x.toNat 0)) = true then some x else none).isSome) := by
        unfold tw
        refine any_same fun x _ => ?_
        cases (!decide (x = (m : Int)) && decide (Tm ws m + 1 + t13 ≤ S.getD x.toNat 0)) <;> rfl
      rw [decide_eq_true n4, if_neg (by decide)]
      exact ⟨_, rfl, _, rfl⟩
    · intro x hx
      obtain ⟨j, rfl, hj⟩ := mem_range' hx
      dsimp only
      cases (!decide ((j : Int) = (m : Int))) with
      | true =>
        rw [if_pos rfl, getD_at hj, Option.bind_some, Option.bind_some, Bool.true_and]
        cases decide (Tm ws m + 1 + t13 ≤ S.getD (j : Int).toNat 0) <;> rfl
      | false => rfl
  · rintro s ⟨d, rfl⟩
    dsimp only
    have z1 : nev ws 0 = true := by unfold nev; rfl
    have z2 : course ws 0 = none := by unfold course; rw [z1]; rfl
    cases hc : course ws lag with
    | none =>
      simp only [Option.isSome_none, Bool.false_eq_true, if_false, Option.bind_some, never_ok ws _ h', course_ok ws _ h', z1, z2, decide_true, if_true]
      exact ⟨_, rfl⟩
    | some c =>
      have hn : nev ws lag = false := by rw [← course_none, hc]; rfl
      have hl0 : lag ≠ 0 := fun z => by rw [z, z1] at hn; cases hn
      obtain ⟨f, hf⟩ : ∃ f, fl ws = some f := by
        cases hf : fl ws with
        | none =>
          unfold nev at hn
          rw [hf] at hn
          simp at hn
        | some f => exact ⟨f, rfl⟩
      have hcc : c = crs f lag := by
        unfold course at hc
        rw [hn, hf] at hc
        exact (Option.some.inj hc).symm
      subst hcc
      obtain ⟨a1, a2, a3, a4, a5⟩ := crs_ok (ws := ws) (f := f) (lag := lag) (by omega) hf
      have c0 : (crs f lag).1 = 0 := rfl
      obtain ⟨t38, d39, e38, _⟩ := take_ok d (many := 5) (by decide)
      have b1 : m_is_twice (ws, some ((crs f lag).1, (crs f lag).2.1), (crs f lag).2.2) = some true := by
        rw [twice_ok ws _ _ _ h', tw_same hw0, c0, crs_yes (by omega) hf]
      have b2 : m_is_twice (ws, some ((crs f lag).1, (crs f lag).2.1), (crs f lag).2.2 - 1) = some false := by
        rw [twice_ok ws _ _ _ h', tw_same hw0, early_no (lag := lag) hf (by omega) (by omega)]
      have b3 : m_never_twice (ws, lag + 1) = some false := by rw [never_ok ws _ h', nev_some (by omega) hf]
      have b4 : m_never_twice (ws ++ [t38], lag) = some false := by rw [never_ok _ _ (by simp; omega), nev_more hl0 hf]
      simp only [Option.isSome_some, if_true, Option.bind_some, b1, b2, b3, e38, catC_ok (xs := ws) (ys := [t38]) (by simp; omega), b4, Bool.not_true, Bool.false_eq_true, if_false, never_ok ws 0 h', course_ok ws 0 h', z1, z2, decide_true, if_true, Option.isNone_none]
      exact ⟨_, rfl⟩

theorem sum_scale (k : Int) : ∀ ws : List Int, (ws.map fun x => x * k).sum = k * ws.sum
  | [] => by simp
  | x :: xs => by
    rw [List.map_cons, List.sum_cons, List.sum_cons, sum_scale k xs, Int.mul_add, Int.mul_comm x k]
theorem Tm_all (ws : List Int) : Tm ws ws.length = ws.sum := by
  unfold Tm
  rw [List.take_length]
theorem nev_pos {ws : List Int} {lag : Int} (h0 : 0 ≤ lag) : (decide (0 < (((times ws).filter fun x => decide (0 < x)).length : Int)) && decide (0 < lag)) = !nev ws lag := by
  unfold nev fl
  generalize (times ws).filter (fun x => decide (0 < x)) = L
  cases L with
  | nil => simp
  | cons a l =>
    by_cases h : lag = 0
    · subst h
      simp
    · rw [decide_eq_true (show 0 < lag by omega), decide_eq_false h]
      simp [List.min?]
theorem great_ok (ds ns ws : List Int) (lag : Int) (h : ws.length ≤ 500) (hw : ∀ w ∈ ws, 0 ≤ w ∧ w < 100) (h0 : 0 ≤ lag) (h1 : lag ≤ 1000) : ∃ ds', m_law_great_right ds (ns, ws, lag) = some (true, ds') := by
  rw [e_law_great_right]
  obtain ⟨t0, d1, e1, k1, _⟩ := take_ok ds (many := 64) (by decide)
  obtain ⟨t2, e2⟩ := cell_ok ns t0
  obtain ⟨t3, e3, k3, _⟩ := modC_ok (x := t2) (y := 10000000000000000000000000) (by decide)
  simp only [e1, e2, e3, Option.bind_some]
  generalize hsc : 2 + t3 = sc
  have hsc1 : 0 < sc := by omega
  rw [if_pos (by omega)]
  rw [comp_pure (g := fun x => some (x * sc)) ws (by
    intro x hx
    have := hw x hx
    simp only [if_true, mulC_ok' (x := x) (y := sc) (by omega), Option.bind_some])]
  rw [Option.bind_some, show ws.filterMap (fun x => some (x * sc)) = ws.map fun x => x * sc from congrFun List.filterMap_eq_map' ws]
  obtain ⟨t8, d9, e8, k8, k8'⟩ := take_ok d1 (many := 3) (by decide)
  dsimp only
  rw [mulC_ok' (x := lag) (y := sc) (by omega), Option.bind_some, e8, Option.bind_some]
  dsimp only
  have hfar : 0 ≤ lag * sc + t8 := by
    have := Int.mul_nonneg h0 (Int.le_of_lt hsc1)
    omega
  generalize hG : ws.map (fun x => x * sc) = G
  generalize lag * sc + t8 = far at hfar
  have hGl : G.length = ws.length := by rw [← hG, List.length_map]
  have hG0 : ∀ w ∈ G, 0 ≤ w := by
    intro w m
    rw [← hG] at m
    obtain ⟨x, hx, rfl⟩ := List.mem_map.mp m
    exact Int.mul_nonneg (hw x hx).1 (Int.le_of_lt hsc1)
  have hl : G.length ≤ 1000 := by omega
  rw [every_ok G hl, Option.bind_some, if_pos (by simp [times]; omega)]
  rw [comp_pure (g := fun x => if decide (0 < x) = true then some x else none) (times G) (by
    intro x _
    dsimp only
    cases decide (0 < x) <;> rfl)]
  rw [filt (p := fun x => decide (0 < x)) (fun x => rfl), Option.bind_some]
  dsimp only
  rw [nev_pos hfar]
  have hfin : ∃ t, (m_all_sent_by G).bind (fun t34 => (mulC sc ws.sum).bind fun t35 => some (decide (t34 = t35), d9)) = some (true, t) := by
    have hs : ws.sum.natAbs < 2 ^ 64 := by
      have := Tm_bd hw (j := ws.length) (Nat.le_refl _)
      rw [Tm_all] at this
      omega
    rw [all_ok G hl, Option.bind_some, mulC_ok hs, Option.bind_some, Tm_all, ← hG, sum_scale, decide_eq_true rfl]
    exact ⟨_, rfl⟩
  obtain ⟨tt, hfin⟩ := hfin
  cases hn : nev G far with
  | true =>
    have hc : course G far = none := by unfold course; rw [hn]; rfl
    simp only [Bool.not_true, Bool.false_eq_true, if_false, Option.bind_some, never_ok G far hl, course_ok G far hl, hn, hc, Option.isNone_none, decide_true, Option.isSome_none]
    exact ⟨_, hfin⟩
  | false =>
    have hl0 : far ≠ 0 := fun z => by
      unfold nev at hn
      rw [decide_eq_true z] at hn
      simp at hn
    obtain ⟨f, hf⟩ : ∃ f, fl G = some f := by
      cases hf : fl G with
      | none =>
        unfold nev at hn
        rw [hf] at hn
        simp at hn
      | some f => exact ⟨f, rfl⟩
    have hc : course G far = some (crs f far) := by
      unfold course
      rw [hn, hf]
      rfl
    have hmin : ((times G).filter fun x => decide (0 < x)).min? = some f := hf
    obtain ⟨a1, a2, a3, a4, a5⟩ := crs_ok (ws := G) (f := f) (lag := far) (by omega) hf
    have b1 : m_is_twice (G, some (0, max 1 (f - far + 1)), f - max 1 (f - far + 1) + 1) = some true := by
      rw [twice_ok G _ _ _ hl, tw_same hG0]
      exact congrArg some (crs_yes (by omega) hf)
    have b2 : m_is_twice (G, some (0, max 1 (f - far + 1)), f - max 1 (f - far + 1) + 1 - 1) = some false := by
      rw [twice_ok G _ _ _ hl, tw_same hG0, early_no (lag := far) hf (by omega) (by omega)]
    have b3 : 1 < max 1 (f - far + 1) → m_is_twice (G, some (0, max 1 (f - far + 1) - 1), far) = some false := fun hh => by
      rw [twice_ok G _ _ _ hl, tw_same hG0, early_no (lag := far) hf (by omega) (by omega)]
    simp only [Bool.not_false, if_true, Option.bind_some, hmin, never_ok G far hl, course_ok G far hl, hn, hc, crs, Option.isNone_some, decide_true, Bool.not_true, Bool.false_eq_true, if_false, Option.isSome_some, b1, b2]
    by_cases hh : 1 < max 1 (f - far + 1)
    · simp only [decide_eq_true hh, if_true, b3 hh, Option.bind_some, decide_true, Bool.not_true, Bool.false_eq_true, if_false]
      exact ⟨_, hfin⟩
    · simp only [decide_eq_false hh, Bool.false_eq_true, if_false, Option.bind_some]
      exact ⟨_, hfin⟩

abbrev SL := List Int × List Int × Unit × Unit × Unit × Unit × Unit × Unit × Unit
theorem law_true (ns : List Int) (h : ns.length ≤ 63) : m_law ns = some true := by
  rw [e_law]
  obtain ⟨ds, e0⟩ := draws_ok ns (many := 420) h (by decide)
  rw [show m_law_draws (ns, 420) = some ds from e0, Option.bind_some, show rng1 4 = some _ from rng1_nat (n := 4) (by decide), Option.bind_some]
  refine loop_bind (P := fun _ (s : SL) => ∃ d, s = (ns, d, (), (), (), (), (), (), ())) ?_ ⟨_, rfl⟩ ?_
  · rintro j x s hx ⟨d, rfl⟩
    obtain ⟨t3, d4, e1, h1, h1'⟩ := take_ok d (many := 3) (by decide)
    obtain ⟨t5, e2, h2⟩ := getI_ok (xs := [(1 : Int), 3, 9]) h1 (by simpa using h1')
    have h5 : 0 < t5 ∧ t5 ≤ 9 := by
      simp only [List.mem_cons, List.not_mem_nil, or_false] at h2
      omega
    obtain ⟨t6, d7, e3, h3, h3'⟩ := take_ok d4 (many := 5) (by decide)
    obtain ⟨n6, rfl⟩ := Int.eq_ofNat_of_zero_le h3
    dsimp only
    rw [e1, Option.bind_some]
    dsimp only
    rw [e2, Option.bind_some, e3, Option.bind_some]
    dsimp only
    rw [rng1_nat (by omega), Option.bind_some, if_pos (by simp; omega)]
    refine comp_ex (P := fun (s : List Int × List Int × Int × Int × Unit × Unit × Unit × Unit × Unit) => ∃ d, s = (ns, d, x, t5, (), (), (), (), ())) (C := fun y : Int => 0 ≤ y ∧ y < 100) (g := fun t => Out.nx t) ?_ ⟨_, rfl⟩ ?_
    · rintro x2 _ s ⟨d, rfl⟩
      obtain ⟨t12, d13, g1, k1, k1'⟩ := take_ok d (many := t5) h5.1
      refine ⟨t12, (ns, d13, x, t5, (), (), (), (), ()), ?_, ⟨_, rfl⟩, k1, by omega⟩
      simp only [if_true, g1, Option.bind_some]
    · rintro ys s hly hy ⟨d, rfl⟩
      have hly2 : ys.length ≤ 500 := by
        rw [hly]
        simp
        omega
      obtain ⟨t13, d14, f1, q1, q1'⟩ := take_ok d (many := 4) (by decide)
      obtain ⟨t15, d16, f2, q2, q2'⟩ := take_ok d14 (many := 13) (by decide)
      obtain ⟨t17, d18, f3, q3, q3'⟩ := take_ok d16 (many := 3) (by decide)
      obtain ⟨lag, f4, q4⟩ := getI_ok (xs := [(0 : Int), t13, t15]) q3 (by simpa using q3')
      have hlag : 0 ≤ lag ∧ lag ≤ 1000 := by
        simp only [List.mem_cons, List.not_mem_nil, or_false] at q4
        omega
      obtain ⟨d1, g1⟩ := small_ok d18 ys lag hly2 hy hlag.1 hlag.2
      obtain ⟨d2, g2⟩ := great_ok d1 ns ys lag hly2 hy hlag.1 hlag.2
      simp only [f1, f2, f3, f4, g1, g2, Option.bind_some, Bool.not_true, Bool.false_eq_true, if_false]
      exact ⟨_, rfl, _, rfl⟩
  · rintro s ⟨d, rfl⟩
    dsimp only
    obtain ⟨t25, d26, e1, h1, h1'⟩ := take_ok d (many := 4) (by decide)
    obtain ⟨t27, d28, e2, h2, h2'⟩ := take_ok d26 (many := 20) (by decide)
    obtain ⟨n, rfl⟩ := Int.eq_ofNat_of_zero_le h1
    have en : (2 : Int) + (n : Int) = ((n + 1 : Nat) : Int) + 1 := by omega
    obtain ⟨q, b, hb, e8, hs⟩ := waits_for_ok (n := n + 1) (last := t27) (by omega) (by omega)
    rw [← en] at e8
    have hq : 0 ≤ q ∧ q ≤ 20 := by
      have hn : n = 0 ∨ n = 1 ∨ n = 2 ∨ n = 3 := by omega
      rcases hn with rfl | rfl | rfl | rfl <;> omega
    generalize hL : List.replicate (n + 1 - b) q ++ List.replicate b (q + 1) = L at e8
    have hLl : L.length ≤ 500 := by
      rw [← hL]
      simp
      omega
    have hL0 : ∀ w ∈ L, 0 ≤ w ∧ w < 100 := fun w m => by
      have := told_mem (hL ▸ m)
      omega
    obtain ⟨t30, d31, e3, h3, h3'⟩ := take_ok d28 (many := 6) (by decide)
    obtain ⟨d33, e4⟩ := small_ok d31 L t30 hLl hL0 h3 (by omega)
    have c1 := course_ok [0, 5] 2 (by decide)
    have c2 := course_ok [0, 5] 9 (by decide)
    have c3 := course_ok [0, 0] 9 (by decide)
    have c4 := never_ok [] 9 (by decide)
    have c5 := never_ok [3] 0 (by decide)
    have c6 := never_ok [0, 1] 1 (by decide)
    have c7 := course_ok [4, 4] 1 (by decide)
    rw [show course [0, 5] 2 = some (0, 4, 2) by decide +kernel] at c1
    rw [show course [0, 5] 9 = some (0, 1, 5) by decide +kernel] at c2
    rw [show course [0, 0] 9 = none by decide +kernel] at c3
    rw [show nev [] 9 = true by decide +kernel] at c4
    rw [show nev [3] 0 = true by decide +kernel] at c5
    rw [show nev [0, 1] 1 = false by decide +kernel] at c6
    rw [show course [4, 4] 1 = some (0, 4, 1) by decide +kernel] at c7
    simp only [e1, e2, e3, e4, e8, c1, c2, c3, c4, c5, c6, c7, Option.bind_some, decide_true, Bool.not_true, Bool.false_eq_true, if_false, if_true]
end Wk17

namespace Wk17
open PySem PySem.Spec PyProof.Rows L2 L3
theorem all_mk {l : PySem.W.OpenLaw} {w : World} {K : PySem.W.Frag} {h : Heap} {mg : Str → Option Value} {fa : Addr} (X : K.In h) (G : h.Ns mainGlobals mg) (hfa : mg "law" = some (.ref fa))
    {f0 : Addr} {o0 n0 : Option Addr} {s0 : Array (Option Value)} {x0 v0 d0 p0 e0 y0 : Value} (a0 : PySem.W.nsIn K mainGlobals "planned" = some (some (.ref f0)))
    (l0 : K.lookup f0 = some ⟨x0, o0, .func (PySem.W.fnOf "planned" "planned" (defArgs s_planned) (defBody s_planned) (defScope s_planned) .none v0 d0 p0 n0 e0 y0), s0⟩) (c0 : PySem.W.codeIn K e0 "planned" = true) (k0 : PySem.W.keepIn K (.ref f0) = true)
    {f1 : Addr} {o1 n1 : Option Addr} {s1 : Array (Option Value)} {x1 v1 d1 p1 e1 y1 : Value} (a1 : PySem.W.nsIn K mainGlobals "known_by" = some (some (.ref f1)))
    (l1 : K.lookup f1 = some ⟨x1, o1, .func (PySem.W.fnOf "known_by" "known_by" (defArgs s_known_by) (defBody s_known_by) (defScope s_known_by) .none v1 d1 p1 n1 e1 y1), s1⟩) (c1 : PySem.W.codeIn K e1 "known_by" = true) (k1 : PySem.W.keepIn K (.ref f1) = true)
    {f2 : Addr} {o2 n2 : Option Addr} {s2 : Array (Option Value)} {x2 v2 d2 p2 e2 y2 : Value} (a2 : PySem.W.nsIn K mainGlobals "sent_minutes" = some (some (.ref f2)))
    (l2 : K.lookup f2 = some ⟨x2, o2, .func (PySem.W.fnOf "sent_minutes" "sent_minutes" (defArgs s_sent_minutes) (defBody s_sent_minutes) (defScope s_sent_minutes) .none v2 d2 p2 n2 e2 y2), s2⟩) (c2 : PySem.W.codeIn K e2 "sent_minutes" = true) (k2 : PySem.W.keepIn K (.ref f2) = true)
    {f3 : Addr} {o3 n3 : Option Addr} {s3 : Array (Option Value)} {x3 v3 d3 p3 e3 y3 : Value} (a3 : PySem.W.nsIn K mainGlobals "is_twice" = some (some (.ref f3)))
    (l3 : K.lookup f3 = some ⟨x3, o3, .func (PySem.W.fnOf "is_twice" "is_twice" (defArgs s_is_twice) (defBody s_is_twice) (defScope s_is_twice) .none v3 d3 p3 n3 e3 y3), s3⟩) (c3 : PySem.W.codeIn K e3 "is_twice" = true) (k3 : PySem.W.keepIn K (.ref f3) = true)
    {f4 : Addr} {o4 n4 : Option Addr} {s4 : Array (Option Value)} {x4 v4 d4 p4 e4 y4 : Value} (a4 : PySem.W.nsIn K mainGlobals "first_later" = some (some (.ref f4)))
    (l4 : K.lookup f4 = some ⟨x4, o4, .func (PySem.W.fnOf "first_later" "first_later" (defArgs s_first_later) (defBody s_first_later) (defScope s_first_later) .none v4 d4 p4 n4 e4 y4), s4⟩) (c4 : PySem.W.codeIn K e4 "first_later" = true) (k4 : PySem.W.keepIn K (.ref f4) = true)
    {f5 : Addr} {o5 n5 : Option Addr} {s5 : Array (Option Value)} {x5 v5 d5 p5 e5 y5 : Value} (a5 : PySem.W.nsIn K mainGlobals "never_twice" = some (some (.ref f5)))
    (l5 : K.lookup f5 = some ⟨x5, o5, .func (PySem.W.fnOf "never_twice" "never_twice" (defArgs s_never_twice) (defBody s_never_twice) (defScope s_never_twice) .none v5 d5 p5 n5 e5 y5), s5⟩) (c5 : PySem.W.codeIn K e5 "never_twice" = true) (k5 : PySem.W.keepIn K (.ref f5) = true)
    {f6 : Addr} {o6 n6 : Option Addr} {s6 : Array (Option Value)} {x6 v6 d6 p6 e6 y6 : Value} (a6 : PySem.W.nsIn K mainGlobals "twice_course" = some (some (.ref f6)))
    (l6 : K.lookup f6 = some ⟨x6, o6, .func (PySem.W.fnOf "twice_course" "twice_course" (defArgs s_twice_course) (defBody s_twice_course) (defScope s_twice_course) .none v6 d6 p6 n6 e6 y6), s6⟩) (c6 : PySem.W.codeIn K e6 "twice_course" = true) (k6 : PySem.W.keepIn K (.ref f6) = true)
    {f7 : Addr} {o7 n7 : Option Addr} {s7 : Array (Option Value)} {x7 v7 d7 p7 e7 y7 : Value} (a7 : PySem.W.nsIn K mainGlobals "most_sent" = some (some (.ref f7)))
    (l7 : K.lookup f7 = some ⟨x7, o7, .func (PySem.W.fnOf "most_sent" "most_sent" (defArgs s_most_sent) (defBody s_most_sent) (defScope s_most_sent) .none v7 d7 p7 n7 e7 y7), s7⟩) (c7 : PySem.W.codeIn K e7 "most_sent" = true) (k7 : PySem.W.keepIn K (.ref f7) = true)
    {f8 : Addr} {o8 n8 : Option Addr} {s8 : Array (Option Value)} {x8 v8 d8 p8 e8 y8 : Value} (a8 : PySem.W.nsIn K mainGlobals "all_sent_by" = some (some (.ref f8)))
    (l8 : K.lookup f8 = some ⟨x8, o8, .func (PySem.W.fnOf "all_sent_by" "all_sent_by" (defArgs s_all_sent_by) (defBody s_all_sent_by) (defScope s_all_sent_by) .none v8 d8 p8 n8 e8 y8), s8⟩) (c8 : PySem.W.codeIn K e8 "all_sent_by" = true) (k8 : PySem.W.keepIn K (.ref f8) = true)
    {f9 : Addr} {o9 n9 : Option Addr} {s9 : Array (Option Value)} {x9 v9 d9 p9 e9 y9 : Value} (a9 : PySem.W.nsIn K mainGlobals "waits_for" = some (some (.ref f9)))
    (l9 : K.lookup f9 = some ⟨x9, o9, .func (PySem.W.fnOf "waits_for" "waits_for" (defArgs s_waits_for) (defBody s_waits_for) (defScope s_waits_for) .none v9 d9 p9 n9 e9 y9), s9⟩) (c9 : PySem.W.codeIn K e9 "waits_for" = true) (k9 : PySem.W.keepIn K (.ref f9) = true)
    {f10 : Addr} {o10 n10 : Option Addr} {s10 : Array (Option Value)} {x10 v10 d10 p10 e10 y10 : Value} (a10 : PySem.W.nsIn K mainGlobals "_law_draws" = some (some (.ref f10)))
    (l10 : K.lookup f10 = some ⟨x10, o10, .func (PySem.W.fnOf "_law_draws" "_law_draws" (defArgs s_law_draws) (defBody s_law_draws) (defScope s_law_draws) .none v10 d10 p10 n10 e10 y10), s10⟩) (c10 : PySem.W.codeIn K e10 "_law_draws" = true) (k10 : PySem.W.keepIn K (.ref f10) = true)
    {f11 : Addr} {o11 n11 : Option Addr} {s11 : Array (Option Value)} {x11 v11 d11 p11 e11 y11 : Value} (a11 : PySem.W.nsIn K mainGlobals "_law_take" = some (some (.ref f11)))
    (l11 : K.lookup f11 = some ⟨x11, o11, .func (PySem.W.fnOf "_law_take" "_law_take" (defArgs s_law_take) (defBody s_law_take) (defScope s_law_take) .none v11 d11 p11 n11 e11 y11), s11⟩) (c11 : PySem.W.codeIn K e11 "_law_take" = true) (k11 : PySem.W.keepIn K (.ref f11) = true)
    {f12 : Addr} {o12 n12 : Option Addr} {s12 : Array (Option Value)} {x12 v12 d12 p12 e12 y12 : Value} (a12 : PySem.W.nsIn K mainGlobals "_law_cell" = some (some (.ref f12)))
    (l12 : K.lookup f12 = some ⟨x12, o12, .func (PySem.W.fnOf "_law_cell" "_law_cell" (defArgs s_law_cell) (defBody s_law_cell) (defScope s_law_cell) .none v12 d12 p12 n12 e12 y12), s12⟩) (c12 : PySem.W.codeIn K e12 "_law_cell" = true) (k12 : PySem.W.keepIn K (.ref f12) = true)
    {f13 : Addr} {o13 n13 : Option Addr} {s13 : Array (Option Value)} {x13 v13 d13 p13 e13 y13 : Value} (a13 : PySem.W.nsIn K mainGlobals "_law_same" = some (some (.ref f13)))
    (l13 : K.lookup f13 = some ⟨x13, o13, .func (PySem.W.fnOf "_law_same" "_law_same" (defArgs s_law_same) (defBody s_law_same) (defScope s_law_same) .none v13 d13 p13 n13 e13 y13), s13⟩) (c13 : PySem.W.codeIn K e13 "_law_same" = true) (k13 : PySem.W.keepIn K (.ref f13) = true)
    {f14 : Addr} {o14 n14 : Option Addr} {s14 : Array (Option Value)} {x14 v14 d14 p14 e14 y14 : Value} (a14 : PySem.W.nsIn K mainGlobals "_law_every" = some (some (.ref f14)))
    (l14 : K.lookup f14 = some ⟨x14, o14, .func (PySem.W.fnOf "_law_every" "_law_every" (defArgs s_law_every) (defBody s_law_every) (defScope s_law_every) .none v14 d14 p14 n14 e14 y14), s14⟩) (c14 : PySem.W.codeIn K e14 "_law_every" = true) (k14 : PySem.W.keepIn K (.ref f14) = true)
    {f15 : Addr} {o15 n15 : Option Addr} {s15 : Array (Option Value)} {x15 v15 d15 p15 e15 y15 : Value} (a15 : PySem.W.nsIn K mainGlobals "_law_is_twice" = some (some (.ref f15)))
    (l15 : K.lookup f15 = some ⟨x15, o15, .func (PySem.W.fnOf "_law_is_twice" "_law_is_twice" (defArgs s_law_is_twice) (defBody s_law_is_twice) (defScope s_law_is_twice) .none v15 d15 p15 n15 e15 y15), s15⟩) (c15 : PySem.W.codeIn K e15 "_law_is_twice" = true) (k15 : PySem.W.keepIn K (.ref f15) = true)
    {f16 : Addr} {o16 n16 : Option Addr} {s16 : Array (Option Value)} {x16 v16 d16 p16 e16 y16 : Value} (a16 : PySem.W.nsIn K mainGlobals "_law_least" = some (some (.ref f16)))
    (l16 : K.lookup f16 = some ⟨x16, o16, .func (PySem.W.fnOf "_law_least" "_law_least" (defArgs s_law_least) (defBody s_law_least) (defScope s_law_least) .none v16 d16 p16 n16 e16 y16), s16⟩) (c16 : PySem.W.codeIn K e16 "_law_least" = true) (k16 : PySem.W.keepIn K (.ref f16) = true)
    {f17 : Addr} {o17 n17 : Option Addr} {s17 : Array (Option Value)} {x17 v17 d17 p17 e17 y17 : Value} (a17 : PySem.W.nsIn K mainGlobals "_law_small_right" = some (some (.ref f17)))
    (l17 : K.lookup f17 = some ⟨x17, o17, .func (PySem.W.fnOf "_law_small_right" "_law_small_right" (defArgs s_law_small_right) (defBody s_law_small_right) (defScope s_law_small_right) .none v17 d17 p17 n17 e17 y17), s17⟩) (c17 : PySem.W.codeIn K e17 "_law_small_right" = true) (k17 : PySem.W.keepIn K (.ref f17) = true)
    {f18 : Addr} {o18 n18 : Option Addr} {s18 : Array (Option Value)} {x18 v18 d18 p18 e18 y18 : Value} (a18 : PySem.W.nsIn K mainGlobals "_law_great_right" = some (some (.ref f18)))
    (l18 : K.lookup f18 = some ⟨x18, o18, .func (PySem.W.fnOf "_law_great_right" "_law_great_right" (defArgs s_law_great_right) (defBody s_law_great_right) (defScope s_law_great_right) .none v18 d18 p18 n18 e18 y18), s18⟩) (c18 : PySem.W.codeIn K e18 "_law_great_right" = true) (k18 : PySem.W.keepIn K (.ref f18) = true)
    {f19 : Addr} {o19 n19 : Option Addr} {s19 : Array (Option Value)} {x19 v19 d19 p19 e19 y19 : Value} (a19 : PySem.W.nsIn K mainGlobals "law" = some (some (.ref f19)))
    (l19 : K.lookup f19 = some ⟨x19, o19, .func (PySem.W.fnOf "law" "law" (defArgs s_law) (defBody s_law) (defScope s_law) .none v19 d19 p19 n19 e19 y19), s19⟩) (c19 : PySem.W.codeIn K e19 "law" = true) (k19 : PySem.W.keepIn K (.ref f19) = true)
    (z0 : PySem.W.nsIn K mainGlobals "abs" = some none)
    (z1 : PySem.W.nsIn K mainGlobals "any" = some none)
    (z2 : PySem.W.nsIn K mainGlobals "bool" = some none)
    (z3 : PySem.W.nsIn K mainGlobals "int" = some none)
    (z4 : PySem.W.nsIn K mainGlobals "isinstance" = some none)
    (z5 : PySem.W.nsIn K mainGlobals "len" = some none)
    (z6 : PySem.W.nsIn K mainGlobals "list" = some none)
    (z7 : PySem.W.nsIn K mainGlobals "max" = some none)
    (z8 : PySem.W.nsIn K mainGlobals "min" = some none)
    (z9 : PySem.W.nsIn K mainGlobals "range" = some none)
    (z10 : PySem.W.nsIn K mainGlobals "str" = some none)
    (z11 : PySem.W.nsIn K mainGlobals "sum" = some none)
    (z12 : PySem.W.nsIn K mainGlobals "tuple" = some none)
    : ∃ fd : FuncData, (∀ (s : Shared) (v : Value), BindsTo s fd ⟨[v], []⟩ [("script", v)]) ∧ ∀ base : Heap, K.In base → base.Ns mainGlobals mg → FnOk l.prog w K mg base CX0 42 fa fd ["script"] (spP K (rOne (tScr tInt)) tBool m_law) := by
  have e := hfa.symm.trans (PySem.W.mg_of X G a19)
  cases e
  have T : Σ' T : Txt K mg, T.a_law = fa ∧ T.d_law = PySem.W.fnOf "law" "law" (defArgs s_law) (defBody s_law) (defScope s_law) .none v19 d19 p19 n19 e19 y19 := ⟨{
      a_planned := f0, d_planned := _, F_planned := fun_mk (st := s_planned) l0 c0 k0, m_planned := PySem.W.mg_of X G a0, b_planned := (fun_mk (st := s_planned) l0 c0 k0).binds (ps := ["waits"]) (fun _ _ _ _ _ _ us hl => match us, hl with | [_], _ => rfl),
      a_known_by := f1, d_known_by := _, F_known_by := fun_mk (st := s_known_by) l1 c1 k1, m_known_by := PySem.W.mg_of X G a1, b_known_by := (fun_mk (st := s_known_by) l1 c1 k1).binds (ps := ["read", "late"]) (fun _ _ _ _ _ _ us hl => match us, hl with | [_, _], _ => rfl),
      a_sent_minutes := f2, d_sent_minutes := _, F_sent_minutes := fun_mk (st := s_sent_minutes) l2 c2 k2, m_sent_minutes := PySem.W.mg_of X G a2, b_sent_minutes := (fun_mk (st := s_sent_minutes) l2 c2 k2).binds (ps := ["waits", "read", "late"]) (fun _ _ _ _ _ _ us hl => match us, hl with | [_, _, _], _ => rfl),
      a_is_twice := f3, d_is_twice := _, F_is_twice := fun_mk (st := s_is_twice) l3 c3 k3, m_is_twice := PySem.W.mg_of X G a3, b_is_twice := (fun_mk (st := s_is_twice) l3 c3 k3).binds (ps := ["waits", "read", "late"]) (fun _ _ _ _ _ _ us hl => match us, hl with | [_, _, _], _ => rfl),
      a_first_later := f4, d_first_later := _, F_first_later := fun_mk (st := s_first_later) l4 c4 k4, m_first_later := PySem.W.mg_of X G a4, b_first_later := (fun_mk (st := s_first_later) l4 c4 k4).binds (ps := ["waits"]) (fun _ _ _ _ _ _ us hl => match us, hl with | [_], _ => rfl),
      a_never_twice := f5, d_never_twice := _, F_never_twice := fun_mk (st := s_never_twice) l5 c5 k5, m_never_twice := PySem.W.mg_of X G a5, b_never_twice := (fun_mk (st := s_never_twice) l5 c5 k5).binds (ps := ["waits", "lag"]) (fun _ _ _ _ _ _ us hl => match us, hl with | [_, _], _ => rfl),
      a_twice_course := f6, d_twice_course := _, F_twice_course := fun_mk (st := s_twice_course) l6 c6 k6, m_twice_course := PySem.W.mg_of X G a6, b_twice_course := (fun_mk (st := s_twice_course) l6 c6 k6).binds (ps := ["waits", "lag"]) (fun _ _ _ _ _ _ us hl => match us, hl with | [_, _], _ => rfl),
      a_most_sent := f7, d_most_sent := _, F_most_sent := fun_mk (st := s_most_sent) l7 c7 k7, m_most_sent := PySem.W.mg_of X G a7, b_most_sent := (fun_mk (st := s_most_sent) l7 c7 k7).binds (ps := ["waits", "lag", "minute"]) (fun _ _ _ _ _ _ us hl => match us, hl with | [_, _, _], _ => rfl),
      a_all_sent_by := f8, d_all_sent_by := _, F_all_sent_by := fun_mk (st := s_all_sent_by) l8 c8 k8, m_all_sent_by := PySem.W.mg_of X G a8, b_all_sent_by := (fun_mk (st := s_all_sent_by) l8 c8 k8).binds (ps := ["waits"]) (fun _ _ _ _ _ _ us hl => match us, hl with | [_], _ => rfl),
      a_waits_for := f9, d_waits_for := _, F_waits_for := fun_mk (st := s_waits_for) l9 c9 k9, m_waits_for := PySem.W.mg_of X G a9, b_waits_for := (fun_mk (st := s_waits_for) l9 c9 k9).binds (ps := ["n", "last"]) (fun _ _ _ _ _ _ us hl => match us, hl with | [_, _], _ => rfl),
      a_law_draws := f10, d_law_draws := _, F_law_draws := fun_mk (st := s_law_draws) l10 c10 k10, m_law_draws := PySem.W.mg_of X G a10, b_law_draws := (fun_mk (st := s_law_draws) l10 c10 k10).binds (ps := ["script", "many"]) (fun _ _ _ _ _ _ us hl => match us, hl with | [_, _], _ => rfl),
      a_law_take := f11, d_law_take := _, F_law_take := fun_mk (st := s_law_take) l11 c11 k11, m_law_take := PySem.W.mg_of X G a11, b_law_take := (fun_mk (st := s_law_take) l11 c11 k11).binds (ps := ["draws", "many"]) (fun _ _ _ _ _ _ us hl => match us, hl with | [_, _], _ => rfl),
      a_law_cell := f12, d_law_cell := _, F_law_cell := fun_mk (st := s_law_cell) l12 c12 k12, m_law_cell := PySem.W.mg_of X G a12, b_law_cell := (fun_mk (st := s_law_cell) l12 c12 k12).binds (ps := ["script", "at"]) (fun _ _ _ _ _ _ us hl => match us, hl with | [_, _], _ => rfl),
      a_law_same := f13, d_law_same := _, F_law_same := fun_mk (st := s_law_same) l13 c13 k13, m_law_same := PySem.W.mg_of X G a13, b_law_same := (fun_mk (st := s_law_same) l13 c13 k13).binds (ps := ["actual", "due"]) (fun _ _ _ _ _ _ us hl => match us, hl with | [_, _], _ => rfl),
      a_law_every := f14, d_law_every := _, F_law_every := fun_mk (st := s_law_every) l14 c14 k14, m_law_every := PySem.W.mg_of X G a14, b_law_every := (fun_mk (st := s_law_every) l14 c14 k14).binds (ps := ["waits"]) (fun _ _ _ _ _ _ us hl => match us, hl with | [_], _ => rfl),
      a_law_is_twice := f15, d_law_is_twice := _, F_law_is_twice := fun_mk (st := s_law_is_twice) l15 c15 k15, m_law_is_twice := PySem.W.mg_of X G a15, b_law_is_twice := (fun_mk (st := s_law_is_twice) l15 c15 k15).binds (ps := ["waits", "machine", "minute", "late"]) (fun _ _ _ _ _ _ us hl => match us, hl with | [_, _, _, _], _ => rfl),
      a_law_least := f16, d_law_least := _, F_law_least := fun_mk (st := s_law_least) l16 c16 k16, m_law_least := PySem.W.mg_of X G a16, b_law_least := (fun_mk (st := s_law_least) l16 c16 k16).binds (ps := ["waits", "lag"]) (fun _ _ _ _ _ _ us hl => match us, hl with | [_, _], _ => rfl),
      a_law_small_right := f17, d_law_small_right := _, F_law_small_right := fun_mk (st := s_law_small_right) l17 c17 k17, m_law_small_right := PySem.W.mg_of X G a17, b_law_small_right := (fun_mk (st := s_law_small_right) l17 c17 k17).binds (ps := ["draws", "waits", "lag"]) (fun _ _ _ _ _ _ us hl => match us, hl with | [_, _, _], _ => rfl),
      a_law_great_right := f18, d_law_great_right := _, F_law_great_right := fun_mk (st := s_law_great_right) l18 c18 k18, m_law_great_right := PySem.W.mg_of X G a18, b_law_great_right := (fun_mk (st := s_law_great_right) l18 c18 k18).binds (ps := ["draws", "script", "waits", "lag"]) (fun _ _ _ _ _ _ us hl => match us, hl with | [_, _, _, _], _ => rfl),
      a_law := fa, d_law := _, F_law := fun_mk (st := s_law) l19 c19 k19, m_law := PySem.W.mg_of X G a19, b_law := (fun_mk (st := s_law) l19 c19 k19).binds (ps := ["script"]) (fun _ _ _ _ _ _ us hl => match us, hl with | [_], _ => rfl),
      n_abs := PySem.W.mg_none_of X G z0,
      n_any := PySem.W.mg_none_of X G z1,
      n_bool := PySem.W.mg_none_of X G z2,
      n_int := PySem.W.mg_none_of X G z3,
      n_isinstance := PySem.W.mg_none_of X G z4,
      n_len := PySem.W.mg_none_of X G z5,
      n_list := PySem.W.mg_none_of X G z6,
      n_max := PySem.W.mg_none_of X G z7,
      n_min := PySem.W.mg_none_of X G z8,
      n_range := PySem.W.mg_none_of X G z9,
      n_str := PySem.W.mg_none_of X G z10,
      n_sum := PySem.W.mg_none_of X G z11,
      n_tuple := PySem.W.mg_none_of X G z12 }, rfl, rfl⟩
  obtain ⟨T, h1, h2⟩ := T
  refine ⟨PySem.W.fnOf "law" "law" (defArgs s_law) (defBody s_law) (defScope s_law) .none v19 d19 p19 n19 e19 y19, fun s v => .of_eq rfl, fun base _ _ => ?_⟩
  rw [← h1, ← h2]
  exact ok_law T
theorem sp_true {K : PySem.W.Frag} {H : Hp} {a : Addr} {ns : List Int} (hl : ns.length ≤ 63) (hS : SqL K H a (ns.map V.int)) : spP K (rOne (tScr tInt)) tBool m_law [.ref a] H (fun v _ => v = .bl true) fun _ _ _ => False :=
  ⟨H, ns, true, Sub.refl H, ⟨.ref a, rfl, a, ns.map V.int, rfl, hS, P_ofInts ns, Nat.le_trans hl (by decide)⟩, law_true ns hl, fun _ _ _ _ r => r⟩
end Wk17
open PySem PySem.W PyProof.Rows
set_option maxHeartbeats 0 in
theorem PySem.Challenge.cw_sentintime_k17_whole_never_twice_in_any_holds : PySem.Challenge.rw_sentintime_k17_whole_never_twice_in_any.Holds := by
  w_on; o_law; k_head; (case hw => w_witness2)
  k_fill
  refine L2.walk_of (l := PySem.Challenge.rw_sentintime_k17_whole_never_twice_in_any) (n := 63) (k := 42) (x := "script") (CX := fun _ => L2.CX0) (sp := fun w => L3.spP _ (L3.rOne (L3.tScr L3.tInt)) L3.tBool Wk17.m_law) rfl (by decide) rfl ⟨rfl, by decide, by decide⟩ (fun w h Y => PySem.W.kIn_of Y) ?F (fun _ _ a ns hl _ hS => Wk17.sp_true hl hS) (fun _ _ _ _ _ h => h)
  case F =>
    intro w mg fa h KX G hmg
    refine' Wk17.all_mk KX G hmg ?a0 ?l0 ?c0 ?k0 ?a1 ?l1 ?c1 ?k1 ?a2 ?l2 ?c2 ?k2 ?a3 ?l3 ?c3 ?k3 ?a4 ?l4 ?c4 ?k4 ?a5 ?l5 ?c5 ?k5 ?a6 ?l6 ?c6 ?k6 ?a7 ?l7 ?c7 ?k7 ?a8 ?l8 ?c8 ?k8 ?a9 ?l9 ?c9 ?k9 ?a10 ?l10 ?c10 ?k10 ?a11 ?l11 ?c11 ?k11 ?a12 ?l12 ?c12 ?k12 ?a13 ?l13 ?c13 ?k13 ?a14 ?l14 ?c14 ?k14 ?a15 ?l15 ?c15 ?k15 ?a16 ?l16 ?c16 ?k16 ?a17 ?l17 ?c17 ?k17 ?a18 ?l18 ?c18 ?k18 ?a19 ?l19 ?c19 ?k19 ?z0 ?z1 ?z2 ?z3 ?z4 ?z5 ?z6 ?z7 ?z8 ?z9 ?z10 ?z11 ?z12
    (case a0 => k_is)
    (case l0 => k_is)
    (case c0 => k_is)
    (case k0 => k_is)
    (case a1 => k_is)
    (case l1 => k_is)
    (case c1 => k_is)
    (case k1 => k_is)
    (case a2 => k_is)
    (case l2 => k_is)
    (case c2 => k_is)
    (case k2 => k_is)
    (case a3 => k_is)
    (case l3 => k_is)
    (case c3 => k_is)
    (case k3 => k_is)
    (case a4 => k_is)
    (case l4 => k_is)
    (case c4 => k_is)
    (case k4 => k_is)
    (case a5 => k_is)
    (case l5 => k_is)
    (case c5 => k_is)
    (case k5 => k_is)
    (case a6 => k_is)
    (case l6 => k_is)
    (case c6 => k_is)
    (case k6 => k_is)
    (case a7 => k_is)
    (case l7 => k_is)
    (case c7 => k_is)
    (case k7 => k_is)
    (case a8 => k_is)
    (case l8 => k_is)
    (case c8 => k_is)
    (case k8 => k_is)
    (case a9 => k_is)
    (case l9 => k_is)
    (case c9 => k_is)
    (case k9 => k_is)
    (case a10 => k_is)
    (case l10 => k_is)
    (case c10 => k_is)
    (case k10 => k_is)
    (case a11 => k_is)
    (case l11 => k_is)
    (case c11 => k_is)
    (case k11 => k_is)
    (case a12 => k_is)
    (case l12 => k_is)
    (case c12 => k_is)
    (case k12 => k_is)
    (case a13 => k_is)
    (case l13 => k_is)
    (case c13 => k_is)
    (case k13 => k_is)
    (case a14 => k_is)
    (case l14 => k_is)
    (case c14 => k_is)
    (case k14 => k_is)
    (case a15 => k_is)
    (case l15 => k_is)
    (case c15 => k_is)
    (case k15 => k_is)
    (case a16 => k_is)
    (case l16 => k_is)
    (case c16 => k_is)
    (case k16 => k_is)
    (case a17 => k_is)
    (case l17 => k_is)
    (case c17 => k_is)
    (case k17 => k_is)
    (case a18 => k_is)
    (case l18 => k_is)
    (case c18 => k_is)
    (case k18 => k_is)
    (case a19 => k_is)
    (case l19 => k_is)
    (case c19 => k_is)
    (case k19 => k_is)
    (case z0 => k_is)
    (case z1 => k_is)
    (case z2 => k_is)
    (case z3 => k_is)
    (case z4 => k_is)
    (case z5 => k_is)
    (case z6 => k_is)
    (case z7 => k_is)
    (case z8 => k_is)
    (case z9 => k_is)
    (case z10 => k_is)
    (case z11 => k_is)
    (case z12 => k_is)
