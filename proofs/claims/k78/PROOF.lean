import PyProof.Rows.All
import Wide.All
import OpenK.AllK
import Wide.FinOn
import HandS.ForMost
import HandS.Wide
import HandS.Flow
import HandS.Sort
import HandS.Strs
import HandS.Small
import HandS.Conv
import HandS.TupAny
import HandS.Deep
import HandS.SetFor
import HandS.SortInts
import HandS.SetKeys
import HandS.IsInst
import HandS.TupMul
import HandS.TupSets
import HandS.Rev
import HandS.Style
import HandS.TupLe
import HandS.List
import PyProof.WalksMore
import PyProof.ListIndexNeg
import KE.DataMinMax
import KE.SortData
import KE.DataCmp
import HandS.SortRule
import HandS.Zip
import PyProof.Rows.SortShellAny
import HandS.Iter
import HandS.Dict
import HandS.WordsDict
import HandS.More
import HandS.ForDict
import PyProof.LongRange
import HandS.DictComp
import HandS.Gcd
import HandS.Text
import PyProof.StrOps2
import KE.KDictPairs
import PySem.Challenge.RW_sentintime_k78_whole_words_heard_once
set_option Elab.async false
set_option linter.all false
set_option maxRecDepth 100000
set_option maxHeartbeats 4000000
/-! L3: a typed layer over the hand layer. -/
namespace L3
open PySem PySem.Spec PyProof.Rows L2

abbrev Fg := PySem.W.Frag
abbrev PHp := L2.Hp

/-! ### heaps -/
def Sub (B B' : Hp) : Prop := ∀ a o, B a = some o → B' a = some o
def NLo : HO → Bool
  | .tup _ => true
  | .frz _ (.tup _) => true
  | _ => false
def TSub (B B' : Hp) : Prop := ∀ a o, B a = some o → NLo o = true → B' a = some o
theorem Sub.refl (B : Hp) : Sub B B := fun _ _ h => h
theorem Sub.trans {A B C : Hp} (h : Sub A B) (k : Sub B C) : Sub A C := fun a o e => k a o (h a o e)
theorem Sub.t {B B' : Hp} (h : Sub B B') : TSub B B' := fun a o e _ => h a o e
theorem Sub.upd {B : Hp} {p : Addr} {o : HO} (h : B p = none) : Sub B (upd B p o) := fun a u e => by
  rw [upd_ne (ne_of_none e h)]; exact e
theorem Sub.none {B H : Hp} (h : Sub B H) {p : Addr} (e : H p = none) : B p = none := by
  cases q : B p with
  | none => rfl
  | some o => rw [h p o q] at e; cases e
theorem Sub.upd2 {B H : Hp} (h : Sub B H) {p : Addr} {o : HO} : Sub (L2.upd B p o) (L2.upd H p o) := fun a u e => by
  by_cases hp : a = p
  · subst hp; rw [upd_same] at e ⊢; exact e
  · rw [upd_ne hp] at e ⊢; exact h a u e
theorem Sub.ext {B H : Hp} (h : Sub B H) {p : Addr} {o : HO} (e : H p = some o) : Sub (L2.upd B p o) H := fun a u q => by
  by_cases hp : a = p
  · subst hp; rw [upd_same] at q; cases q; exact e
  · rw [upd_ne hp] at q; exact h a u q
theorem Sub.rd {B B' : Hp} (h : Sub B B') {a : Addr} {u : HO} (r : Rd B a u) : Rd B' a u := by
  rcases r with r | ⟨o, r⟩
  · exact .inl (h _ _ r)
  · exact .inr ⟨o, h _ _ r⟩
theorem Sub.seqL {K : Fg} {B B' : Hp} (h : Sub B B') {a : Addr} {xs : List V} (r : SqL K B a xs) : SqL K B' a xs := by
  rcases r with r | r
  · exact .inl (h.rd r)
  · exact .inr r
theorem Sub.seqT {K : Fg} {B B' : Hp} (h : Sub B B') {a : Addr} {xs : List V} (r : SqT K B a xs) : SqT K B' a xs := by
  rcases r with r | r
  · exact .inl (h.rd r)
  · exact .inr r
theorem TSub.seqT {K : Fg} {B B' : Hp} (h : TSub B B') {a : Addr} {xs : List V} (r : SqT K B a xs) : SqT K B' a xs := by
  rcases r with (r | ⟨o, r⟩) | r
  · exact .inl (.inl (h _ _ r rfl))
  · exact .inl (.inr ⟨o, h _ _ r rfl⟩)
  · exact .inr r
theorem TSub.refl (B : Hp) : TSub B B := fun _ _ h _ => h
theorem TSub.trans {A B C : Hp} (h : TSub A B) (k : TSub B C) : TSub A C := fun a o e n => k a o (h a o e n) n

/-- a locked dict may be missing -/
def NDo : HO → Bool
  | .frz _ (.dK _) => false
  | _ => true
def ESub (B B' : Hp) : Prop := ∀ a o, B a = some o → NDo o = true → B' a = some o
theorem ESub.rdT {B B' : Hp} (h : ESub B B') {a : Addr} {xs : List V} (r : Rd B a (.tup xs)) : Rd B' a (.tup xs) := by
  rcases r with r | ⟨o, r⟩
  · exact .inl (h _ _ r rfl)
  · exact .inr ⟨o, h _ _ r rfl⟩
theorem ESub.rdL {B B' : Hp} (h : ESub B B') {a : Addr} {xs : List V} (r : Rd B a (.lst xs)) : Rd B' a (.lst xs) := by
  rcases r with r | ⟨o, r⟩
  · exact .inl (h _ _ r rfl)
  · exact .inr ⟨o, h _ _ r rfl⟩
theorem ESub.seqT {K : Fg} {B B' : Hp} (h : ESub B B') {a : Addr} {xs : List V} (r : SqT K B a xs) : SqT K B' a xs := by
  rcases r with r | r
  · exact .inl (h.rdT r)
  · exact .inr r
theorem ESub.seqL {K : Fg} {B B' : Hp} (h : ESub B B') {a : Addr} {xs : List V} (r : SqL K B a xs) : SqL K B' a xs := by
  rcases r with r | r
  · exact .inl (h.rdL r)
  · exact .inr r
/-! ### types -/
structure Ty (α : Type) where
  rep : Fg → Hp → V → α → Prop
  mono : ∀ {K B B' v x}, Sub B B' → rep K B v x → rep K B' v x
  nn : Bool
  nnok : nn = true → ∀ {K B v x}, rep K B v x → v ≠ V.non
  to : Bool
  took : to = true → ∀ {K B B' v x}, TSub B B' → rep K B v x → rep K B' v x
  em : Bool := false
  emok : em = true → ∀ {K B B' v x}, ESub B B' → rep K B v x → rep K B' v x := by intro h; cases h

def tInt : Ty Int where
  rep := fun _ _ v x => v = .int x
  mono := fun _ h => h
  nn := true
  nnok := fun _ _ _ _ _ h e => by rw [h] at e; cases e
  to := true
  took := fun _ _ _ _ _ _ _ h => h
  em := true
  emok := fun _ _ _ _ _ _ _ h => h
def tBool : Ty Bool where
  rep := fun _ _ v x => v = .bl x
  mono := fun _ h => h
  nn := true
  nnok := fun _ _ _ _ _ h e => by rw [h] at e; cases e
  to := true
  took := fun _ _ _ _ _ _ _ h => h
  em := true
  emok := fun _ _ _ _ _ _ _ h => h
def tStr : Ty Str where
  rep := fun _ _ v x => v = .str x
  mono := fun _ h => h
  nn := true
  nnok := fun _ _ _ _ _ h e => by rw [h] at e; cases e
  to := true
  took := fun _ _ _ _ _ _ _ h => h
  em := true
  emok := fun _ _ _ _ _ _ _ h => h
def tNon : Ty Unit where
  rep := fun _ _ v _ => v = .non
  mono := fun _ h => h
  nn := false
  nnok := fun h => nomatch h
  to := true
  took := fun _ _ _ _ _ _ _ h => h
  em := true
  emok := fun _ _ _ _ _ _ _ h => h
def tOpt {α : Type} (T : Ty α) : Ty (Option α) where
  rep := fun K B v x => match x with
    | none => v = .non
    | some y => T.rep K B v y ∧ v ≠ .non
  mono := fun {K B B' v x} s h => by
    cases x with
    | none => exact h
    | some y => exact ⟨T.mono s h.1, h.2⟩
  nn := false
  nnok := fun h => nomatch h
  to := T.to
  took := fun ht K B B' v x s h => by
    cases x with
    | none => exact h
    | some y => exact ⟨T.took ht s h.1, h.2⟩
  em := T.em
  emok := fun ht K B B' v x s h => by
    cases x with
    | none => exact h
    | some y => exact ⟨T.emok ht s h.1, h.2⟩

structure Tys (β : Type) where
  rep : Fg → Hp → List V → β → Prop
  mono : ∀ {K B B' vs x}, Sub B B' → rep K B vs x → rep K B' vs x
  to : Bool
  took : to = true → ∀ {K B B' vs x}, TSub B B' → rep K B vs x → rep K B' vs x
  em : Bool := false
  emok : em = true → ∀ {K B B' vs x}, ESub B B' → rep K B vs x → rep K B' vs x := by intro h; cases h
def rNil : Tys Unit where
  rep := fun _ _ vs _ => vs = []
  mono := fun _ h => h
  to := true
  took := fun _ _ _ _ _ _ _ h => h
  em := true
  emok := fun _ _ _ _ _ _ _ h => h
def rOne {α : Type} (T : Ty α) : Tys α where
  rep := fun K B vs x => ∃ v, vs = [v] ∧ T.rep K B v x
  mono := fun s ⟨v, e, r⟩ => ⟨v, e, T.mono s r⟩
  to := T.to
  took := fun h _ _ _ _ _ s ⟨v, e, r⟩ => ⟨v, e, T.took h s r⟩
  em := T.em
  emok := fun h _ _ _ _ _ s ⟨v, e, r⟩ => ⟨v, e, T.emok h s r⟩
def rCons {α β : Type} (T : Ty α) (R : Tys β) : Tys (α × β) where
  rep := fun K B vs x => ∃ v r, vs = v :: r ∧ T.rep K B v x.1 ∧ R.rep K B r x.2
  mono := fun s ⟨v, r, e, h, k⟩ => ⟨v, r, e, T.mono s h, R.mono s k⟩
  to := T.to && R.to
  took := fun h _ _ _ _ _ s ⟨v, r, e, h1, k1⟩ => by
    rw [Bool.and_eq_true] at h
    exact ⟨v, r, e, T.took h.1 s h1, R.took h.2 s k1⟩
  em := T.em && R.em
  emok := fun h _ _ _ _ _ s ⟨v, r, e, h1, k1⟩ => by
    rw [Bool.and_eq_true] at h
    exact ⟨v, r, e, T.emok h.1 s h1, R.emok h.2 s k1⟩
theorem Pmap {α β : Type} {F G : α → β → Prop} {xs : List α} {ys : List β} (h : Paired F xs ys) (k : ∀ a b, F a b → G a b) : Paired G xs ys := by
  induction h with
  | nil => exact .nil
  | cons r _ ih => exact .cons (k _ _ r) ih
def rAll {α : Type} (T : Ty α) : Tys (List α) where
  rep := fun K B vs x => Paired (T.rep K B) vs x ∧ x.length ≤ sizeLine
  mono := fun s h => ⟨Pmap h.1 fun _ _ r => T.mono s r, h.2⟩
  to := T.to
  took := fun h _ _ _ _ _ s k => ⟨Pmap k.1 fun _ _ r => T.took h s r, k.2⟩
  em := T.em
  emok := fun h _ _ _ _ _ s k => ⟨Pmap k.1 fun _ _ r => T.emok h s r, k.2⟩
def rLen {α : Type} (T : Ty α) (n : Nat) : Tys (List α) where
  rep := fun K B vs x => Paired (T.rep K B) vs x ∧ x.length = n
  mono := fun s h => ⟨Pmap h.1 fun _ _ r => T.mono s r, h.2⟩
  to := T.to
  took := fun h _ _ _ _ _ s k => ⟨Pmap k.1 fun _ _ r => T.took h s r, k.2⟩
  em := T.em
  emok := fun h _ _ _ _ _ s k => ⟨Pmap k.1 fun _ _ r => T.emok h s r, k.2⟩
/-- a tuple that never changes -/
def tTup {β : Type} (R : Tys β) : Ty β where
  rep := fun K B v x => ∃ a vs, v = .ref a ∧ SqT K B a vs ∧ R.rep K B vs x
  mono := fun s ⟨a, vs, e, h, k⟩ => ⟨a, vs, e, s.seqT h, R.mono s k⟩
  nn := true
  nnok := fun _ _ _ _ _ ⟨a, vs, e, _⟩ z => by rw [e] at z; cases z
  to := R.to
  took := fun h _ _ _ _ _ s ⟨a, vs, e, k, r⟩ => ⟨a, vs, e, s.seqT k, R.took h s r⟩
  em := R.em
  emok := fun h _ _ _ _ _ s ⟨a, vs, e, k, r⟩ => ⟨a, vs, e, s.seqT k, R.emok h s r⟩
/-- a list that changes no more -/
def tLst {α : Type} (T : Ty α) : Ty (List α) where
  rep := fun K B v x => ∃ a vs, v = .ref a ∧ B a = some (.lst vs) ∧ (rAll T).rep K B vs x
  mono := fun s ⟨a, vs, e, h, k⟩ => ⟨a, vs, e, s _ _ h, (rAll T).mono s k⟩
  nn := true
  nnok := fun _ _ _ _ _ ⟨a, vs, e, _⟩ z => by rw [e] at z; cases z
  to := false
  took := fun h => nomatch h
  em := T.em
  emok := fun h _ _ _ _ _ s ⟨a, vs, e, k, r⟩ => ⟨a, vs, e, s _ _ k rfl, (rAll T).emok h s r⟩
/-- the script -/
def tScr {α : Type} (T : Ty α) : Ty (List α) where
  rep := fun K B v x => ∃ a vs, v = .ref a ∧ SqL K B a vs ∧ (rAll T).rep K B vs x
  mono := fun s ⟨a, vs, e, h, k⟩ => ⟨a, vs, e, s.seqL h, (rAll T).mono s k⟩
  nn := true
  nnok := fun _ _ _ _ _ ⟨a, vs, e, _⟩ z => by rw [e] at z; cases z
  to := false
  took := fun h => nomatch h
  em := T.em
  emok := fun h _ _ _ _ _ s ⟨a, vs, e, k, r⟩ => ⟨a, vs, e, s.seqL k, (rAll T).emok h s r⟩
abbrev tAll {α : Type} (T : Ty α) : Ty (List α) := tTup (rAll T)
abbrev tPair {α β : Type} (T : Ty α) (U : Ty β) : Ty (α × β) := tTup (rCons T (rOne U))
abbrev tTrip {α β γ : Type} (T : Ty α) (U : Ty β) (W : Ty γ) : Ty (α × β × γ) := tTup (rCons T (rCons U (rOne W)))
abbrev tQuad {α β γ δ : Type} (T : Ty α) (U : Ty β) (W : Ty γ) (Z : Ty δ) : Ty (α × β × γ × δ) := tTup (rCons T (rCons U (rCons W (rOne Z))))

/-- an object of one's own -/
structure OTy (α : Type) where
  rep : Fg → Hp → HO → α → Prop
  mono : ∀ {K B B' o x}, Sub B B' → rep K B o x → rep K B' o x
  mtb : ∀ {K B o x}, rep K B o x → Mut (some o)
  fz : Ty α
  fzok : ∀ {K B a o x}, B a = some o → rep K B o x → fz.rep K B (.ref a) x
  to : Bool
  took : to = true → ∀ {K B B' o x}, TSub B B' → rep K B o x → rep K B' o x
  em : Bool := false
  emok : em = true → ∀ {K B B' o x}, ESub B B' → rep K B o x → rep K B' o x := by intro h; cases h
def oLst {α : Type} (T : Ty α) : OTy (List α) where
  rep := fun K B o x => ∃ vs, o = .lst vs ∧ (rAll T).rep K B vs x
  mono := fun s ⟨vs, e, h⟩ => ⟨vs, e, (rAll T).mono s h⟩
  mtb := fun ⟨vs, e, h⟩ => by subst e; trivial
  fz := tLst T
  fzok := fun {K B a o x} h ⟨vs, e, k⟩ => ⟨a, vs, rfl, by subst e; exact h, k⟩
  to := T.to
  took := fun h _ _ _ _ _ s ⟨vs, e, k⟩ => ⟨vs, e, (rAll T).took h s k⟩
  em := T.em
  emok := fun h _ _ _ _ _ s ⟨vs, e, k⟩ => ⟨vs, e, (rAll T).emok h s k⟩

/-! ### slots -/
structure Loc where
  α : Type
  holds : Fg → Hp → Hp → List Addr → Option V → α → Prop
  frame : ∀ {K B B' H H' own s x}, Sub B B' → (∀ a ∈ own, H' a = H a) → holds K B H own s x → holds K B' H' own s x
  there : ∀ {K B H own s x}, holds K B H own s x → ∀ a ∈ own, H a ≠ none
def lNone : Loc where
  α := Unit
  holds := fun _ _ _ own _ _ => own = []
  frame := fun _ _ h => h
  there := fun h a m => by rw [h] at m; cases m
def lImm {α : Type} (T : Ty α) : Loc where
  α := α
  holds := fun K B _ own s x => own = [] ∧ ∃ v, s = some v ∧ T.rep K B v x
  frame := fun s _ ⟨h, v, e, r⟩ => ⟨h, v, e, T.mono s r⟩
  there := fun h a m => by rw [h.1] at m; cases m
def lOwn {α : Type} (O : OTy α) (f : Option Addr) : Loc where
  α := α
  holds := fun K B H own s x => ∃ l o, own = [l] ∧ s = some (.ref l) ∧ H l = some o ∧ O.rep K B o x ∧ ∀ d, f = some d → l = d
  frame := fun s k ⟨l, o, h, e, q, r, z⟩ => ⟨l, o, h, e, by rw [k l (by rw [h]; exact List.mem_singleton.mpr rfl)]; exact q, O.mono s r, z⟩
  there := fun ⟨l, o, h, e, q, r, z⟩ a m => by
    rw [h] at m
    rw [List.mem_singleton.mp m, q]
    exact fun z => nomatch z

@[reducible] def Env : List Loc → Type
  | [] => Unit
  | l :: L => l.α × Env L
inductive Ix : Loc → Nat → List Loc → Type 1
  | z {l L} : Ix l 0 (l :: L)
  | s {l n k L} : Ix l n L → Ix l (n + 1) (k :: L)
inductive Put : Loc → Nat → List Loc → List Loc → Type 1
  | z {l k L} : Put l 0 (k :: L) (l :: L)
  | s {l n k L L'} : Put l n L L' → Put l (n + 1) (k :: L) (k :: L')
@[reducible] def Ix.get : {l : Loc} → {n : Nat} → {L : List Loc} → Ix l n L → Env L → l.α
  | _, _, _, .z, ρ => ρ.1
  | _, _, _, .s i, ρ => i.get ρ.2
@[reducible] def Ix.set : {l : Loc} → {n : Nat} → {L : List Loc} → Ix l n L → l.α → Env L → Env L
  | _, _, _, .z, x, ρ => (x, ρ.2)
  | _, _, _, .s i, x, ρ => (ρ.1, i.set x ρ.2)
@[reducible] def Put.put : {l : Loc} → {n : Nat} → {L L' : List Loc} → Put l n L L' → l.α → Env L → Env L'
  | _, _, _, _, .z, x, ρ => (x, ρ.2)
  | _, _, _, _, .s i, x, ρ => (ρ.1, i.put x ρ.2)

def Rel (K : Fg) (B H : Hp) : (L : List Loc) → List Addr → List (Option V) → Env L → Prop
  | [], own, σ, _ => own = [] ∧ σ = []
  | l :: L, own, σ, ρ => ∃ o1 o2 s σ', own = o1 ++ o2 ∧ σ = s :: σ' ∧ l.holds K B H o1 s ρ.1 ∧ Rel K B H L o2 σ' ρ.2

section
variable {K : Fg} {B B' H H' : Hp}
theorem Rel.frame (s : Sub B B') : ∀ {L : List Loc} {own : List Addr} {σ : List (Option V)} {ρ : Env L}, (∀ a ∈ own, H' a = H a) → Rel K B H L own σ ρ → Rel K B' H' L own σ ρ
  | [], _, _, _, _, h => h
  | l :: L, own, σ, ρ, k, ⟨o1, o2, v, σ', e1, e2, h, r⟩ => by
    subst e1
    exact ⟨o1, o2, v, σ', rfl, e2, l.frame s (fun a m => k a (List.mem_append_left _ m)) h, Rel.frame s (fun a m => k a (List.mem_append_right _ m)) r⟩
theorem Rel.there : ∀ {L : List Loc} {own : List Addr} {σ : List (Option V)} {ρ : Env L}, Rel K B H L own σ ρ → ∀ a ∈ own, H a ≠ none
  | [], _, _, _, h, a, m => by rw [h.1] at m; cases m
  | l :: L, own, σ, ρ, ⟨o1, o2, v, σ', e1, e2, h, r⟩, a, m => by
    subst e1
    rcases List.mem_append.mp m with m | m
    · exact l.there h a m
    · exact Rel.there r a m
theorem Rel.imm {α : Type} {T : Ty α} : ∀ {n : Nat} {L : List Loc} (i : Ix (lImm T) n L) {own σ} {ρ : Env L}, Rel K B H L own σ ρ → ∃ v, σ[n]? = some (some v) ∧ T.rep K B v (i.get ρ)
  | _, _, .z, own, σ, ρ, ⟨o1, o2, s, σ', e1, e2, ⟨_, v, e3, r⟩, _⟩ => ⟨v, by rw [e2, e3]; rfl, r⟩
  | _, _, .s i, own, σ, ρ, ⟨o1, o2, s, σ', e1, e2, h, k⟩ => by
    obtain ⟨v, e, r⟩ := Rel.imm i k
    exact ⟨v, by rw [e2]; exact e, r⟩
theorem Rel.own {α : Type} {O : OTy α} {f : Option Addr} : ∀ {n : Nat} {L : List Loc} (i : Ix (lOwn O f) n L) {own σ} {ρ : Env L}, Rel K B H L own σ ρ → ∃ l o, σ[n]? = some (some (.ref l)) ∧ l ∈ own ∧ H l = some o ∧ O.rep K B o (i.get ρ) ∧ ∀ d, f = some d → l = d
  | _, _, .z, own, σ, ρ, ⟨o1, o2, s, σ', e1, e2, ⟨l, o, a1, a2, a3, a4⟩, _⟩ => ⟨l, o, by rw [e2, a2]; rfl, by rw [e1, a1]; exact List.mem_append_left _ (List.mem_singleton.mpr rfl), a3, a4⟩
  | _, _, .s i, own, σ, ρ, ⟨o1, o2, s, σ', e1, e2, h, k⟩ => by
    obtain ⟨l, o, e, m, q, r⟩ := Rel.own i k
    exact ⟨l, o, by rw [e2]; exact e, by rw [e1]; exact List.mem_append_right _ m, q, r⟩
theorem Rel.put {l : Loc} : ∀ {n : Nat} {L L' : List Loc} (p : Put l n L L') {own σ} {ρ : Env L} {o : List Addr} {v : Option V} {x : l.α}, l.holds K B H o v x → Rel K B H L own σ ρ →
    ∃ own' own2 : List Addr, Rel K B H L' own' (σ.set n v) (p.put x ρ) ∧ own2.Sublist own ∧ (own'.Perm (o ++ own2))
  | _, _, _, .z, own, σ, ρ, o, v, x, h, ⟨o1, o2, s, σ', e1, e2, _, k⟩ => by
    subst e1 e2
    exact ⟨o ++ o2, o2, ⟨o, o2, v, σ', rfl, rfl, h, k⟩, List.sublist_append_right _ _, .refl _⟩
  | _, _, _, .s i, own, σ, ρ, o, v, x, h, ⟨o1, o2, s, σ', e1, e2, h2, k⟩ => by
    subst e1 e2
    obtain ⟨own', own2, r, s1, p1⟩ := Rel.put i h k
    refine ⟨o1 ++ own', o1 ++ own2, ⟨o1, own', s, _, rfl, rfl, h2, r⟩, s1.append_left o1, ?_⟩
    refine (p1.append_left o1).trans ?_
    rw [← List.append_assoc, ← List.append_assoc]
    exact (List.perm_append_comm).append_right own2
/-- own objects of two slots are two -/
def OneOwn (l : Loc) : Prop := ∀ {K B H own s x}, l.holds K B H own s x → ∃ a, own = [a] ∧ s = some (.ref a)
theorem Rel.has {l : Loc} (h1 : OneOwn l) : ∀ {n : Nat} {L : List Loc} (i : Ix l n L) {own σ} {ρ : Env L}, Rel K B H L own σ ρ → ∃ a, σ[n]? = some (some (.ref a)) ∧ a ∈ own
  | _, _, .z, own, σ, ρ, ⟨o1, o2, s, σ', e1, e2, h, _⟩ => by
    obtain ⟨a, z1, z2⟩ := h1 h
    exact ⟨a, by rw [e2, z2]; rfl, by rw [e1, z1]; exact List.mem_append_left _ (List.mem_singleton.mpr rfl)⟩
  | _, _, .s i, own, σ, ρ, ⟨o1, o2, s, σ', e1, e2, h, k⟩ => by
    obtain ⟨a, e, m⟩ := Rel.has h1 i k
    exact ⟨a, by rw [e2]; exact e, by rw [e1]; exact List.mem_append_right _ m⟩
theorem Rel.apart0 {l1 l2 : Loc} (h1 : OneOwn l1) (h2 : OneOwn l2) : ∀ {n j : Nat} {L : List Loc} (i : Ix l1 n L) (k : Ix l2 j L) {own σ} {ρ : Env L} {l m : Addr}, n ≠ j → own.Nodup →
    Rel K B H L own σ ρ → σ[n]? = some (some (.ref l)) → σ[j]? = some (some (.ref m)) → m ≠ l := by
  intro n j L i
  induction i generalizing j with
  | z =>
    intro k
    cases k with
    | z => exact fun h => absurd rfl h
    | s k =>
      rename_i j
      intro own σ ρ l m _ nd ⟨o1, o2, s, σ', e1, e2, h, r⟩ q1 q2
      obtain ⟨a, z1, z2⟩ := h1 h
      subst e1 e2 z1 z2
      have e3 : a = l := by simpa using q1
      obtain ⟨b, b1, b2⟩ := Rel.has h2 k r
      have q2' : σ'[j]? = some (some (V.ref m)) := q2
      rw [b1] at q2'
      have e4 : b = m := by simpa using q2'
      subst e3 e4
      intro z
      subst z
      exact (List.nodup_cons.mp nd).1 b2
  | s i ih =>
    rename_i n _ _
    intro k
    cases k with
    | z =>
      intro own σ ρ l m _ nd ⟨o1, o2, s, σ', e1, e2, h, r⟩ q1 q2
      obtain ⟨a, z1, z2⟩ := h2 h
      subst e1 e2 z1 z2
      have e3 : a = m := by simpa using q2
      obtain ⟨b, b1, b2⟩ := Rel.has h1 i r
      have q1' : σ'[n]? = some (some (V.ref l)) := q1
      rw [b1] at q1'
      have e4 : b = l := by simpa using q1'
      subst e3 e4
      intro z
      subst z
      exact (List.nodup_cons.mp nd).1 b2
    | s k =>
      intro own σ ρ l m h nd ⟨o1, o2, s, σ', e1, e2, _, r⟩ q1 q2
      subst e1 e2
      exact ih k (fun z => h (by rw [z])) (List.nodup_append.mp nd).2.1 r q1 q2
theorem oneOwn {α : Type} {O : OTy α} {f : Option Addr} : OneOwn (lOwn O f) := fun ⟨l, o, h, e, _⟩ => ⟨l, h, e⟩
theorem Rel.apart {α β : Type} {O : OTy α} {P : OTy β} {f g : Option Addr} {n j : Nat} {L : List Loc} (i : Ix (lOwn O f) n L) (k : Ix (lOwn P g) j L) {own σ} {ρ : Env L} {l m : Addr} (h : n ≠ j) (nd : own.Nodup)
    (r : Rel K B H L own σ ρ) (q1 : σ[n]? = some (some (.ref l))) (q2 : σ[j]? = some (some (.ref m))) : m ≠ l := Rel.apart0 oneOwn oneOwn i k h nd r q1 q2
/-- the content of an own object is changed -/
theorem Rel.setc {α : Type} {O : OTy α} {f : Option Addr} {o' : HO} {x' : α} (h : O.rep K B o' x') : ∀ {n : Nat} {L : List Loc} (i : Ix (lOwn O f) n L) {own σ} {ρ : Env L} {l : Addr}, σ[n]? = some (some (.ref l)) → own.Nodup → Rel K B H L own σ ρ →
    Rel K B (upd H l o') L own σ (i.set x' ρ)
  | _, _, .z, own, σ, ρ, l, e, nd, ⟨o1, o2, s, σ', e1, e2, ⟨l1, ob, a1, a2, a3, a4, a5⟩, k⟩ => by
    subst e2 a2 a1 e1
    have e3 : l1 = l := by
      have := e
      simp at this
      exact this
    subst e3
    refine ⟨[l1], o2, _, σ', rfl, rfl, ⟨l1, o', rfl, rfl, upd_same, h, a5⟩, k.frame (Sub.refl B) fun a m => ?_⟩
    refine upd_ne fun z => ?_
    subst z
    exact (List.nodup_cons.mp nd).1 m
  | n + 1, _, .s i, own, σ, ρ, l, e, nd, ⟨o1, o2, s, σ', e1, e2, h2, k⟩ => by
    subst e1 e2
    have e' : σ'[n]? = some (some (V.ref l)) := e
    have r := Rel.setc h i (l := l) e' ((List.nodup_append.mp nd).2.1) k
    obtain ⟨l2, ob, q1, q2, _⟩ := Rel.own i k
    rw [q1] at e'
    have : l2 = l := by
      simp at e'
      exact e'
    subst this
    refine ⟨o1, o2, s, σ', rfl, rfl, Loc.frame _ (Sub.refl B) (fun a m => ?_) h2, r⟩
    refine upd_ne fun z => ?_
    subst z
    exact (List.nodup_append.mp nd).2.2 _ m _ q2 rfl
theorem Rel.len : ∀ {L : List Loc} {own σ} {ρ : Env L}, Rel K B H L own σ ρ → σ.length = L.length
  | [], _, _, _, ⟨_, e⟩ => by rw [e]; rfl
  | l :: L, _, _, _, ⟨_, _, _, _, _, e, _, r⟩ => by rw [e, List.length_cons, List.length_cons, r.len]
/-- an own object is locked for good -/
theorem Rel.lock {α : Type} {O : OTy α} {f : Option Addr} : ∀ {n : Nat} {L L' : List Loc} (i : Ix (lOwn O f) n L) (p : Put (lImm O.fz) n L L') {own σ} {ρ : Env L}, Rel K B H L own σ ρ → own.Nodup → (∀ a ∈ own, B a = none) →
    ∃ l o own', σ[n]? = some (some (.ref l)) ∧ H l = some o ∧ l ∈ own ∧ own'.Sublist own ∧ l ∉ own' ∧ Rel K (upd B l o) H L' own' σ (p.put (i.get ρ) ρ)
  | _, _, _, .z, .z, own, σ, ρ, ⟨o1, o2, s, σ', e1, e2, ⟨l, o, a1, a2, a3, a4, _⟩, k⟩, nd, nb => by
    subst e1 e2 a1 a2
    have hb : B l = none := nb l (List.mem_append_left _ (List.mem_singleton.mpr rfl))
    have sb : Sub B (upd B l o) := Sub.upd hb
    exact ⟨l, o, o2, rfl, a3, List.mem_append_left _ (List.mem_singleton.mpr rfl), List.sublist_append_right _ _, (List.nodup_cons.mp nd).1,
      [], o2, _, σ', rfl, rfl, ⟨rfl, _, rfl, O.fzok upd_same (O.mono sb a4)⟩, k.frame sb fun _ _ => rfl⟩
  | _, _, _, .s i, .s p, own, σ, ρ, ⟨o1, o2, s, σ', e1, e2, h2, k⟩, nd, nb => by
    subst e1 e2
    obtain ⟨l, o, own', q1, q2, q3, q4, q5, q6⟩ := Rel.lock i p k ((List.nodup_append.mp nd).2.1) fun a m => nb a (List.mem_append_right _ m)
    have hb : B l = none := nb l (List.mem_append_right _ q3)
    refine ⟨l, o, o1 ++ own', q1, q2, List.mem_append_right _ q3, q4.append_left o1, fun m => ?_, o1, own', s, σ', rfl, rfl, Loc.frame _ (Sub.upd hb) (fun _ _ => rfl) h2, q6⟩
    rcases List.mem_append.mp m with m | m
    · exact (List.nodup_append.mp nd).2.2 _ m _ q3 rfl
    · exact q5 m
end

/-! ### the state -/
structure Fr where
  H0 : Hp
  B0 : Hp
  M : List Addr
structure StO (K : Fg) (F : Fr) (L : List Loc) (own : List Addr) (B : Hp) (ρ : Env L) (σ : List (Option V)) (H : Hp) : Prop where
  base : Sub F.B0 B
  sub : Sub B H
  keep : ∀ a o, a ∉ F.M → F.H0 a = some o → H a = some o
  old : ∀ a, F.H0 a ≠ none → B a ≠ none → F.B0 a ≠ none ∨ a ∈ F.M
  rel : Rel K B H L own σ ρ
  nd : own.Nodup
  own : ∀ a ∈ own, B a = none ∧ (F.H0 a = none ∨ a ∈ F.M)
def Stt (K : Fg) (F : Fr) (L : List Loc) (B : Hp) (ρ : Env L) (σ : List (Option V)) (H : Hp) : Prop := ∃ own, StO K F L own B ρ σ H

/-- what grows and changes nothing -/
structure Grow (B H B' H' : Hp) : Prop where
  b : Sub B B'
  h : Sub H H'
  s : Sub B' H'
  old : ∀ a, B' a ≠ none → B a ≠ none ∨ H a = none
theorem Grow.refl {B H : Hp} (s : Sub B H) : Grow B H B H := ⟨Sub.refl B, Sub.refl H, s, fun _ h => .inl h⟩
theorem Grow.new {B H : Hp} (s : Sub B H) {p : Addr} {o : HO} (e : H p = none) : Grow B H (upd B p o) (upd H p o) :=
  ⟨Sub.upd (s.none e), Sub.upd e, s.upd2, fun a h => by
    by_cases hp : a = p
    · subst hp; exact .inr e
    · rw [upd_ne hp] at h; exact .inl h⟩
theorem Grow.trans {B H B1 H1 B2 H2 : Hp} (g : Grow B H B1 H1) (k : Grow B1 H1 B2 H2) : Grow B H B2 H2 :=
  ⟨g.b.trans k.b, g.h.trans k.h, k.s, fun a h => by
    rcases k.old a h with z | z
    · exact g.old a z
    · exact .inr (g.h.none z)⟩

section
variable {K : Fg} {F : Fr} {L L' : List Loc} {B B' H H' : Hp} {ρ : Env L} {σ : List (Option V)}
theorem StO.grow {own : List Addr} (S : StO K F L own B ρ σ H) (g : Grow B H B' H') : StO K F L own B' ρ σ H' where
  base := S.base.trans g.b
  sub := g.s
  keep := fun a o m e => g.h a o (S.keep a o m e)
  old := fun a h0 hb => by
    rcases g.old a hb with z | z
    · exact S.old a h0 z
    · by_cases hm : a ∈ F.M
      · exact .inr hm
      · cases e : F.H0 a with
        | none => exact absurd e h0
        | some o => rw [S.keep a o hm e] at z; cases z
  rel := S.rel.frame g.b fun a m => by
    cases e : H a with
    | none => exact absurd e (S.rel.there a m)
    | some o => exact g.h a o e
  nd := S.nd
  own := fun a m => ⟨by
    cases e : B' a with
    | none => rfl
    | some o =>
      rcases g.old a (by rw [e]; simp) with z | z
      · exact absurd (S.own a m).1 z
      · exact absurd z (S.rel.there a m), (S.own a m).2⟩
theorem Stt.grow (S : Stt K F L B ρ σ H) (g : Grow B H B' H') : Stt K F L B' ρ σ H' := let ⟨own, S⟩ := S; ⟨own, S.grow g⟩
/-- the frame at a point within -/
abbrev frAt (H B : Hp) (own : List Addr) : Fr := ⟨H, B, own⟩
theorem StO.inner {own : List Addr} (S : StO K F L own B ρ σ H) : StO K (frAt H B own) L own B ρ σ H :=
  ⟨Sub.refl B, S.sub, fun _ _ _ e => e, fun a _ h => .inl h, S.rel, S.nd, fun a m => ⟨(S.own a m).1, .inr m⟩⟩
theorem StO.outer {own own' : List Addr} {ρ' : Env L'} {σ' : List (Option V)} (S : StO K F L own B ρ σ H) (S' : StO K (frAt H B own) L' own' B' ρ' σ' H') : StO K F L' own' B' ρ' σ' H' where
  base := S.base.trans S'.base
  sub := S'.sub
  keep := fun a o m e => S'.keep a o (fun z => by
    rcases (S.own a z).2 with h | h
    · rw [e] at h; cases h
    · exact m h) (S.keep a o m e)
  old := fun a h0 hb => by
    by_cases hm : a ∈ F.M
    · exact .inr hm
    · cases e : F.H0 a with
      | none => exact absurd e h0
      | some o =>
        rcases S'.old a (by show H a ≠ none; rw [S.keep a o hm e]; exact fun z => nomatch z) hb with z | z
        · exact S.old a h0 z
        · rcases (S.own a z).2 with y | y
          · exact absurd y h0
          · exact .inr y
  rel := S'.rel
  nd := S'.nd
  own := fun a m => ⟨(S'.own a m).1, by
    by_cases hm : a ∈ F.M
    · exact .inr hm
    · cases e : F.H0 a with
      | none => exact .inl rfl
      | some o =>
        have e1 := S.keep a o hm e
        rcases (S'.own a m).2 with z | z
        · rw [show (frAt H B own).H0 a = H a from rfl, e1] at z; cases z
        · rcases (S.own a z).2 with y | y
          · rw [e] at y; cases y
          · exact absurd y hm⟩
/-- an address that is neither tracked at the start nor in use -/
theorem StO.fresh {own : List Addr} (S : StO K F L own B ρ σ H) {p : Addr} (h : H p = none) : B p = none ∧ p ∉ own ∧ (F.H0 p = none ∨ p ∈ F.M) :=
  ⟨S.sub.none h, fun m => S.rel.there p m h, by
    by_cases hm : p ∈ F.M
    · exact .inr hm
    · cases e : F.H0 p with
      | none => exact .inl rfl
      | some o => rw [S.keep p o hm e] at h; cases h⟩
/-- a slot is stored, a value of an immutable type -/
theorem StO.putI {own : List Addr} (S : StO K F L own B ρ σ H) {α : Type} {T : Ty α} {n : Nat} (p : Put (lImm T) n L L') {v : V} {x : α} (r : T.rep K B v x) : Stt K F L' B (p.put x ρ) (σ.set n (some v)) H := by
  obtain ⟨own', own2, r', s1, p1⟩ := S.rel.put p (o := []) (v := some v) (x := x) ⟨rfl, v, rfl, r⟩
  refine ⟨own', S.base, S.sub, S.keep, S.old, r', p1.nodup_iff.mpr (by simpa using S.nd.sublist s1), fun a m => S.own a (s1.subset (by simpa using p1.mem_iff.mp m))⟩
theorem Stt.putI (S : Stt K F L B ρ σ H) {α : Type} {T : Ty α} {n : Nat} (p : Put (lImm T) n L L') {v : V} {x : α} (r : T.rep K B v x) : Stt K F L' B (p.put x ρ) (σ.set n (some v)) H := let ⟨_, S⟩ := S; S.putI p r
/-- a slot is stored, a new object -/
theorem StO.putO {own : List Addr} (S : StO K F L own B ρ σ H) {α : Type} {O : OTy α} {n : Nat} (p : Put (lOwn O none) n L L') {l : Addr} {o : HO} {x : α} (h : H l = some o) (r : O.rep K B o x) (hb : B l = none) (hl : l ∉ own) (hf : F.H0 l = none ∨ l ∈ F.M) :
    Stt K F L' B (p.put x ρ) (σ.set n (some (.ref l))) H := by
  obtain ⟨own', own2, r', s1, p1⟩ := S.rel.put p (o := [l]) (v := some (.ref l)) (x := x) ⟨l, o, rfl, rfl, h, r, fun _ z => nomatch z⟩
  refine ⟨own', S.base, S.sub, S.keep, S.old, r', p1.nodup_iff.mpr (List.nodup_cons.mpr ⟨fun m => hl (s1.subset m), S.nd.sublist s1⟩), fun a m => ?_⟩
  rcases List.mem_cons.mp (p1.mem_iff.mp m) with e | e
  · subst e; exact ⟨hb, hf⟩
  · exact S.own a (s1.subset e)
/-- a slot is forgotten (whatever it holds) -/
theorem Stt.drop (S : Stt K F L B ρ σ H) {n : Nat} (p : Put lNone n L L') (v : Option V) : Stt K F L' B (p.put () ρ) (σ.set n v) H := by
  obtain ⟨own, S⟩ := S
  obtain ⟨own', own2, r', s1, p1⟩ := S.rel.put p (o := []) (v := v) (x := ()) rfl
  refine ⟨own', S.base, S.sub, S.keep, S.old, r', p1.nodup_iff.mpr (by simpa using S.nd.sublist s1), fun a m => S.own a (s1.subset (by simpa using p1.mem_iff.mp m))⟩
theorem set_self {α : Type} : ∀ {l : List α} {n : Nat} {x : α}, l[n]? = some x → l.set n x = l
  | [], _, _, h => by simp at h
  | a :: l, 0, x, h => by simp at h; subst h; rfl
  | a :: l, n + 1, x, h => by
    show a :: l.set n x = a :: l
    rw [set_self (by simpa using h)]
theorem set_out {α : Type} : ∀ {l : List α} {n : Nat} {x : α}, l[n]? = none → l.set n x = l
  | [], _, _, h => rfl
  | a :: l, 0, x, h => by simp at h
  | a :: l, n + 1, x, h => by
    show a :: l.set n x = a :: l
    rw [set_out (by simpa using h)]
theorem Stt.forget (S : Stt K F L B ρ σ H) {n : Nat} (p : Put lNone n L L') : Stt K F L' B (p.put () ρ) σ H := by
  cases e : σ[n]? with
  | none =>
    have := S.drop p none
    rwa [set_out e] at this
  | some v =>
    have := S.drop p v
    rwa [set_self e] at this
/-- a new object, locked at once -/
theorem Stt.newB (S : Stt K F L B ρ σ H) {p : Addr} {o : HO} (h : H p = none) : Stt K F L (upd B p o) ρ σ (upd H p o) := let ⟨_, S'⟩ := S; S.grow (Grow.new S'.sub h)
/-- a new object, own -/
theorem StO.newH {own : List Addr} (S : StO K F L own B ρ σ H) {p : Addr} {o : HO} (h : H p = none) : StO K F L own B ρ σ (upd H p o) where
  base := S.base
  sub := S.sub.trans (Sub.upd h)
  keep := fun a u m e => by
    have := S.keep a u m e
    rw [upd_ne (ne_of_none this h)]; exact this
  old := S.old
  rel := S.rel.frame (Sub.refl B) fun a m => upd_ne fun z => S.rel.there a m (by rw [z]; exact h)
  nd := S.nd
  own := S.own
/-- an own object of a slot is changed -/
theorem StO.setc {own : List Addr} (S : StO K F L own B ρ σ H) {α : Type} {O : OTy α} {f : Option Addr} {n : Nat} (i : Ix (lOwn O f) n L) {l : Addr} {o' : HO} {x' : α} (e : σ[n]? = some (some (.ref l))) (hl : l ∈ own) (r : O.rep K B o' x') : StO K F L own B (i.set x' ρ) σ (upd H l o') where
  base := S.base
  sub := fun a o q => by
    have hb := (S.own l hl).1
    rw [upd_ne (ne_of_none q hb)]; exact S.sub a o q
  keep := fun a o m q => by
    refine (upd_ne fun z => ?_).trans (S.keep a o m q)
    subst z
    rcases (S.own a hl).2 with y | y
    · rw [q] at y; cases y
    · exact m y
  old := S.old
  rel := Rel.setc r i e S.nd S.rel
  nd := S.nd
  own := S.own
/-- an own object is locked for good -/
theorem Stt.lock (S : Stt K F L B ρ σ H) {α : Type} {O : OTy α} {f : Option Addr} {n : Nat} (i : Ix (lOwn O f) n L) (p : Put (lImm O.fz) n L L') : ∃ B', Sub B B' ∧ Stt K F L' B' (p.put (i.get ρ) ρ) σ H := by
  obtain ⟨own, S⟩ := S
  obtain ⟨l, o, own', q1, q2, q3, q4, q5, q6⟩ := Rel.lock i p S.rel S.nd fun a m => (S.own a m).1
  have hb := (S.own l q3).1
  refine ⟨upd B l o, Sub.upd hb, own', S.base.trans (Sub.upd hb), S.sub.ext q2, S.keep, fun a h0 h1 => ?_, q6, S.nd.sublist q4, fun a m => ⟨?_, (S.own a (q4.subset m)).2⟩⟩
  · by_cases z : a = l
    · subst z
      rcases (S.own a q3).2 with y | y
      · exact absurd y h0
      · exact .inr y
    · rw [upd_ne z] at h1; exact S.old a h0 h1
  · rw [upd_ne fun z => q5 (by rw [← z]; exact m)]
    exact (S.own a (q4.subset m)).1
end
end L3

/-! L3: the judgements and the rules of statements. -/
namespace L3
open PySem PySem.Spec PyProof.Rows L2

/-- what an expression does, with what follows: on a state, what to do with its value and the state behind -/
abbrev Mo (L : List Loc) (α : Type) := (ω : Type) → Env L → (α → Env L → Option ω) → Option ω
/-- an expression of type T -/
def tE (K : Fg) (L : List Loc) {α : Type} (T : Ty α) (m : Mo L α) : TE := fun σ H Q => ∃ (F : Fr) (B : Hp) (ρ : Env L) (ω : Type) (k : α → Env L → Option ω) (o : ω), Stt K F L B ρ σ H ∧ m ω ρ k = some o ∧
  ∀ B' v H' x ρ', Sub B B' → Stt K F L B' ρ' σ H' → T.rep K B' v x → k x ρ' = some o → Q v H'
/-- .. that makes a new object -/
def tO (K : Fg) (L : List Loc) {α : Type} (O : OTy α) (m : Mo L α) : TE := fun σ H Q => ∃ (F : Fr) (B : Hp) (ρ : Env L) (ω : Type) (k : α → Env L → Option ω) (o : ω), Stt K F L B ρ σ H ∧ m ω ρ k = some o ∧
  ∀ B' p u H' own x ρ', Sub B B' → StO K F L own B' ρ' σ H' → H' p = some u → O.rep K B' u x → B' p = none → p ∉ own → (F.H0 p = none ∨ p ∈ F.M) → k x ρ' = some o → Q (.ref p) H'
def tC (K : Fg) (L : List Loc) (m : Mo L Bool) : TT := fun σ H Q => ∃ (F : Fr) (B : Hp) (ρ : Env L) (ω : Type) (k : Bool → Env L → Option ω) (o : ω), Stt K F L B ρ σ H ∧ m ω ρ k = some o ∧
  ∀ B' H' x ρ', Sub B B' → Stt K F L B' ρ' σ H' → k x ρ' = some o → Q x H'
def tAr (K : Fg) (L : List Loc) {β : Type} (R : Tys β) (m : Mo L β) : TA := fun σ H Q => ∃ (F : Fr) (B : Hp) (ρ : Env L) (ω : Type) (k : β → Env L → Option ω) (o : ω), Stt K F L B ρ σ H ∧ m ω ρ k = some o ∧
  ∀ B' vs H' x ρ', Sub B B' → Stt K F L B' ρ' σ H' → R.rep K B' vs x → k x ρ' = some o → Q vs H'
/-- several values, one after another, no argument list's -/
theorem pe_weak {X : Cx} {e : Expr} {t t' : TE} (h : PE X e t) (k : ∀ σ H Q, t' σ H Q → t σ H Q) : PE X e t' := ⟨fun pins s σ H Q I q => h.run pins s σ H Q I (k σ H Q q)⟩
theorem pt_weak {X : Cx} {e : Expr} {t t' : TT} (h : PT X e t) (k : ∀ σ H Q, t' σ H Q → t σ H Q) : PT X e t' := ⟨fun pins s σ H Q I q => h.run pins s σ H Q I (k σ H Q q)⟩
theorem pw_weak {X : Cx} {e : Expr} {t t' : TT} (h : PW X e t) (k : ∀ σ H Q, t' σ H Q → t σ H Q) : PW X e t' := ⟨fun wh pins s σ H Q I q => h.run wh pins s σ H Q I (k σ H Q q)⟩
theorem pa_weak {X : Cx} {e : List Expr} {t t' : TA} (h : PA X e t) (k : ∀ σ H Q, t' σ H Q → t σ H Q) : PA X e t' := ⟨fun pos pins s σ H Q I q => h.run pos pins s σ H Q I (k σ H Q q)⟩
theorem ps_weak {X : Cx} {e : Stmt} {t t' : TS} (h : PS X e t) (k : ∀ D σ H, t' D σ H → t D σ H) : PS X e t' := ⟨fun pins s σ H D I q => h.run pins s σ H D I (k D σ H q)⟩
theorem pss_weak {X : Cx} {e : List Stmt} {t t' : TS} (h : PSs X e t) (k : ∀ D σ H, t' D σ H → t D σ H) : PSs X e t' := ⟨fun pins s σ H D I q => h.run pins s σ H D I (k D σ H q)⟩
theorem pg_weak {X : Cx} {e : Expr} {t t' : TG} (h : PG X e t) (k : ∀ v σ H Q, t' v σ H Q → t v σ H Q) : PG X e t' := ⟨fun pins s σ H v u Q I r q => h.run pins s σ H v u Q I r (k v σ H Q q)⟩
theorem pi_weak {X : Cx} {tg e : Expr} {t t' : TI} (h : PI X tg e t) (k : ∀ σ H R, t' σ H R → t σ H R) : PI X tg e t' := ⟨fun pins s σ H R I q => h.run pins s σ H R I (k σ H R q)⟩

/-! ### outcomes -/
inductive Out (N C R : Type) where
  | nx (n : N) | bk (c : C) | ct (c : C) | rt (r : R)
/-- what is handed back -/
structure RS where
  R : Type
  ok : Fg → Fr → V → Hp → R → Prop
abbrev Ms (L L' Lh : List Loc) (S : RS) := (ω : Type) → Env L → (Out (Env L') (Env Lh) S.R → Option ω) → Option ω
def After (K : Fg) (F : Fr) (L' Lh : List Loc) (S : RS) (B : Hp) (D : Ends) : Out (Env L') (Env Lh) S.R → Prop
  | .nx ρ' => ∀ B' σ' H', Sub B B' → Stt K F L' B' ρ' σ' H' → D.nx σ' H'
  | .bk ρ' => ∀ B' σ' H', Sub B B' → Stt K F Lh B' ρ' σ' H' → D.bk σ' H'
  | .ct ρ' => ∀ B' σ' H', Sub B B' → Stt K F Lh B' ρ' σ' H' → D.ct σ' H'
  | .rt r => ∀ v H', S.ok K F v H' r → D.rt v H'
def tS (K : Fg) (L L' Lh : List Loc) (S : RS) (m : Ms L L' Lh S) : TS := fun D σ H => ∃ (F : Fr) (B : Hp) (ρ : Env L) (ω : Type) (k : Out (Env L') (Env Lh) S.R → Option ω) (o : ω), Stt K F L B ρ σ H ∧ m ω ρ k = some o ∧
  ∀ out, k out = some o → After K F L' Lh S B D out
theorem After.sub {K : Fg} {F : Fr} {L' Lh : List Loc} {S : RS} {B B1 : Hp} {D : Ends} {o : Out (Env L') (Env Lh) S.R} (h : After K F L' Lh S B D o) (s : Sub B B1) : After K F L' Lh S B1 D o := by
  cases o with
  | nx r => exact fun B' σ' H' s' => h B' σ' H' (s.trans s')
  | bk r => exact fun B' σ' H' s' => h B' σ' H' (s.trans s')
  | ct r => exact fun B' σ' H' s' => h B' σ' H' (s.trans s')
  | rt r => exact h
@[reducible] def seqO {N N' C R ω : Type} (k2 : N → (Out N' C R → Option ω) → Option ω) (k : Out N' C R → Option ω) : Out N C R → Option ω
  | .nx n => k2 n k
  | .bk c => k (.bk c)
  | .ct c => k (.ct c)
  | .rt r => k (.rt r)
/-- a value that nothing unfolds -/
noncomputable def blk {α : Type} (x : α) : α := Classical.choose (⟨x, rfl⟩ : ∃ y, y = x)
theorem blk_eq {α : Type} (x : α) : blk x = x := Classical.choose_spec (⟨x, rfl⟩ : ∃ y, y = x)
theorem bind_some {α β : Type} {a : Option α} {f : α → Option β} {y : β} (h : a.bind f = some y) : ∃ x, a = some x ∧ f x = some y := by
  cases a with
  | none => cases h
  | some x => exact ⟨x, rfl, h⟩
theorem map_some {α β : Type} {a : Option α} {f : α → β} {y : β} (h : a.map f = some y) : ∃ x, a = some x ∧ f x = y := by
  cases a with
  | none => cases h
  | some x => exact ⟨x, rfl, Option.some.inj h⟩

section
variable {X : Cx} {K : Fg} {L L' La Lc Lh : List Loc} {S : RS} {st : Stmt} {rest : List Stmt} {e : Expr} {pos : Pos}
theorem y_nil : PSs X [] (tS K L L Lh S fun _ ρ k => k (.nx ρ)) := by
  refine pss_weak pss_nil fun D σ H ⟨F, B, ρ, ω, k, o, h, e, q⟩ => ?_
  exact q _ e B σ H (Sub.refl B) h
theorem y_cons {m : Ms L La Lh S} {m2 : Ms La L' Lh S} (h1 : PS X st (tS K L La Lh S m)) (h2 : PSs X rest (tS K La L' Lh S m2)) : PSs X (st :: rest) (tS K L L' Lh S fun ω ρ k => m ω ρ (seqO (m2 ω) k)) := by
  refine pss_weak (pss_cons h1 h2) fun D σ H ⟨F, B, ρ, ω, k, o, h, e, q⟩ => ?_
  refine ⟨F, B, ρ, ω, seqO (m2 ω) k, o, h, e, fun out eo => ?_⟩
  cases out with
  | nx r => exact fun B' σ' H' s' st' => ⟨F, B', r, ω, k, o, st', eo, fun o2 e2 => (q o2 e2).sub s'⟩
  | bk r => exact q _ eo
  | ct r => exact q _ eo
  | rt r => exact q _ eo
/-- the last statement -/
theorem y_one {m : Ms L L' Lh S} (h1 : PS X st (tS K L L' Lh S m)) : PSs X [st] (tS K L L' Lh S m) := pss_one h1
/-- a name is forgotten -/
theorem y_fg {n : Nat} {m : Ms La L' Lh S} (p : Put lNone n L La) (h : PSs X rest (tS K La L' Lh S m)) : PSs X rest (tS K L L' Lh S fun ω ρ k => m ω (p.put () ρ) k) := by
  refine pss_weak h fun D σ H ⟨F, B, ρ, ω, k, o, h, e, q⟩ => ⟨F, B, _, ω, k, o, h.forget p, e, q⟩
/-- a list is locked for good -/
theorem y_lock {n : Nat} {α : Type} {O : OTy α} {f : Option Addr} {m : Ms La L' Lh S} (i : Ix (lOwn O f) n L) (p : Put (lImm O.fz) n L La) (h : PSs X rest (tS K La L' Lh S m)) : PSs X rest (tS K L L' Lh S fun ω ρ k => m ω (p.put (i.get ρ) ρ) k) := by
  refine pss_weak h fun D σ H ⟨F, B, ρ, ω, k, o, h, e, q⟩ => ?_
  obtain ⟨B', s, h'⟩ := h.lock i p
  exact ⟨F, B', _, ω, k, o, h', e, fun o2 e2 => (q o2 e2).sub s⟩
theorem y_pass : PS X (.Pass pos) (tS K L L Lh S fun _ ρ k => k (.nx ρ)) := by
  refine ps_weak ps_pass fun D σ H ⟨F, B, ρ, ω, k, o, h, e, q⟩ => ?_
  exact q _ e B σ H (Sub.refl B) h
theorem y_break : PS X (.Break pos) (tS K L L' L S fun _ ρ k => k (.bk ρ)) := by
  refine ps_weak ps_break fun D σ H ⟨F, B, ρ, ω, k, o, h, e, q⟩ => ?_
  exact q _ e B σ H (Sub.refl B) h
theorem y_continue : PS X (.Continue pos) (tS K L L' L S fun _ ρ k => k (.ct ρ)) := by
  refine ps_weak ps_continue fun D σ H ⟨F, B, ρ, ω, k, o, h, e, q⟩ => ?_
  exact q _ e B σ H (Sub.refl B) h
theorem y_asg {α : Type} {T : Ty α} {m : Mo L α} {i : Nat} {x : Str} {pos' : Pos} (p : Put (lImm T) i L L') (hN : X.N.Nodup) (hi : X.N[i]? = some x) (hx : L2.Loc X.env.scope x) (he : PE X e (tE K L T m))
    (hs : swapsWith e (some (.Name x pos')) pos.line X.env = pure false := by rfl) (hf : X.fn x = true ∨ X.env.scope.names.lookup x = some .local := by first | exact .inl rfl | exact .inr rfl | assumption) :
    PS X (.Assign [.Name x pos'] e pos) (tS K L L' Lh S fun ω ρ k => m ω ρ fun x ρ' => k (.nx (p.put x ρ'))) := by
  refine ps_weak (ps_set (i := i) hN hi hx he hs hf) fun D σ H ⟨F, B, ρ, ω, k, o, h, e, q⟩ => ?_
  exact ⟨F, B, ρ, ω, _, o, h, e, fun B' v H' a ρ' s st' r e2 => q _ e2 B' _ H' s (st'.putI p r)⟩
theorem y_asgO {α : Type} {O : OTy α} {m : Mo L α} {i : Nat} {x : Str} {pos' : Pos} (p : Put (lOwn O none) i L L') (hN : X.N.Nodup) (hi : X.N[i]? = some x) (hx : L2.Loc X.env.scope x) (he : PE X e (tO K L O m))
    (hs : swapsWith e (some (.Name x pos')) pos.line X.env = pure false := by rfl) (hf : X.fn x = true ∨ X.env.scope.names.lookup x = some .local := by first | exact .inl rfl | exact .inr rfl | assumption) :
    PS X (.Assign [.Name x pos'] e pos) (tS K L L' Lh S fun ω ρ k => m ω ρ fun x ρ' => k (.nx (p.put x ρ'))) := by
  refine ps_weak (ps_set (i := i) hN hi hx he hs hf) fun D σ H ⟨F, B, ρ, ω, k, o, h, e, q⟩ => ?_
  exact ⟨F, B, ρ, ω, _, o, h, e, fun B' v u H' own a ρ' s st' h1 h2 h3 h4 h5 e2 => q _ e2 B' _ H' s (st'.putO p h1 h2 h3 h4 h5)⟩
/-- the value of an expression is dropped -/
theorem y_expr {α : Type} {T : Ty α} {m : Mo L α} (he : PE X e (tE K L T m)) (hs : swapsWith e none pos.line X.env = pure false := by rfl) : PS X (.Expr e pos) (tS K L L Lh S fun ω ρ k => m ω ρ fun _ ρ' => k (.nx ρ')) := by
  refine ps_weak (ps_expr he hs) fun D σ H ⟨F, B, ρ, ω, k, o, h, e, q⟩ => ?_
  exact ⟨F, B, ρ, ω, _, o, h, e, fun B' v H' a ρ' s st' r e2 => q _ e2 B' _ H' s st'⟩
/-- one branch at most goes on -/
theorem y_if {c : Expr} {a b : List Stmt} {mc : Mo L Bool} {ma mb : Ms L L' Lh S} (hc : PT X c (tC K L mc)) (ha : PSs X a (tS K L L' Lh S ma)) (hb : PSs X b (tS K L L' Lh S mb)) :
    PS X (.If c a b pos) (tS K L L' Lh S fun ω ρ k => mc ω ρ fun t ρ' => if t = true then ma ω ρ' k else mb ω ρ' k) := by
  refine ps_weak (ps_if hc ha hb) fun D σ H ⟨F, B, ρ, ω, k, o, h, e, q⟩ => ?_
  refine ⟨F, B, ρ, ω, _, o, h, e, fun B' H' t ρ' s st' e2 => ?_⟩
  cases t with
  | true => exact ⟨F, B', ρ', ω, k, o, st', e2, fun o2 e3 => (q o2 e3).sub s⟩
  | false => exact ⟨F, B', ρ', ω, k, o, st', e2, fun o2 e3 => (q o2 e3).sub s⟩
/-- both branches go on -/
theorem y_ifJ {c : Expr} {a b : List Stmt} {mc : Mo L Bool} {ma mb : Ms L L' Lh S} (hc : PT X c (tC K L mc)) (ha : PSs X a (tS K L L' Lh S ma)) (hb : PSs X b (tS K L L' Lh S mb)) :
    PS X (.If c a b pos) (tS K L L' Lh S fun ω ρ k => mc ω ρ fun t ρ' => (if t = true then ma _ ρ' some else mb _ ρ' some).bind k) := by
  refine ps_weak (ps_if hc ha hb) fun D σ H ⟨F, B, ρ, ω, k, o, h, e, q⟩ => ?_
  refine ⟨F, B, ρ, ω, _, o, h, e, fun B' H' t ρ' s st' e2 => ?_⟩
  obtain ⟨u, e3, e4⟩ := bind_some e2
  cases t with
  | true => exact ⟨F, B', ρ', _, some, u, st', e3, fun o2 e5 => by cases e5; exact (q _ e4).sub s⟩
  | false => exact ⟨F, B', ρ', _, some, u, st', e3, fun o2 e5 => by cases e5; exact (q _ e4).sub s⟩

/-! ### loops -/
/-- how a loop ends: with this state, or handed back -/
inductive Fin (A R : Type) where
  | go (a : A) | rt (r : R)
@[reducible] def finO {A C R ω : Type} (k : Out A C R → Option ω) : Fin A R → Option ω
  | .go a => k (.nx a)
  | .rt r => k (.rt r)
def loopM {β A R : Type} (f : β → A → Option (Out A A R)) : List β → A → Option (Fin A R)
  | [], s => some (.go s)
  | x :: xs, s => (f x s).bind fun o => match o with
    | .nx s' => loopM f xs s'
    | .ct s' => loopM f xs s'
    | .bk s' => some (.go s')
    | .rt r => some (.rt r)
def whileM {A R : Type} (f : A → Option (Option (Out A A R) × A)) : Nat → A → Option (Fin A R)
  | 0, _ => none
  | n + 1, s => (f s).bind fun q => match q.1 with
    | none => some (.go q.2)
    | some o => match o with
      | .nx s' => whileM f n s'
      | .ct s' => whileM f n s'
      | .bk s' => some (.go s')
      | .rt r => some (.rt r)
/-- an iterator that gives these values, one after another -/
def ItOk (K : Fg) (J : It) (B : Hp) {β : Type} (T : Ty β) (xs : List β) : Prop := ∀ (i : Nat) (B1 H : Hp), Sub B B1 → Sub B1 H → (xs.length ≤ i → J.stop i H) ∧
  ∀ x, xs[i]? = some x → J.go i H ∧ ∀ v H', J.yld i H v H' → ∃ B', Grow B1 H B' H' ∧ T.rep K B' v x
def tIt (K : Fg) (L : List Loc) {β : Type} (T : Ty β) (m : Mo L (List β)) : TI := fun σ H R => ∃ (F : Fr) (B : Hp) (ρ : Env L) (ω : Type) (k : List β → Env L → Option ω) (o : ω), Stt K F L B ρ σ H ∧ m ω ρ k = some o ∧
  ∀ B' J H' xs ρ', Sub B B' → Stt K F L B' ρ' σ H' → ItOk K J B' T xs → k xs ρ' = some o → R J H'
def Only' (vs : List Nat) (σ σ' : List (Option V)) : Prop := σ'.length = σ.length ∧ ∀ i, i ∉ vs → σ'[i]? = σ[i]?
theorem Only'.trans {vs ws : List Nat} {a b c : List (Option V)} (h : Only' vs a b) (k : Only' ws b c) : Only' (vs ++ ws) a c := ⟨k.1.trans h.1, fun i hi => by
  rw [List.mem_append, not_or] at hi
  exact (k.2 i hi.2).trans (h.2 i hi.1)⟩
/-- vs: the slots that it stores -/
def tGt (K : Fg) (L L' : List Loc) (vs : List Nat) {β : Type} (T : Ty β) (b : β → Env L → Env L') : TG := fun v σ H Q => ∃ F B ρ x, Stt K F L B ρ σ H ∧ T.rep K B v x ∧
  ∀ σ', Only' vs σ σ' → Stt K F L' B (b x ρ) σ' H → Q σ' H
theorem y_for {vs : List Nat} {tg iter : Expr} {body : List Stmt} {β : Type} {T : Ty β} {Lb : List Loc} {mi : Mo L (List β)} {bd : β → Env L → Env Lb} {mb : Ms Lb L L S}
    (hp : PassesOwn (model X.prog X.w) X.A X.env X.xe) (hc : X.calm = true) (hi : PI X tg iter (tIt K L T mi)) (hg : PG X tg (tGt K L Lb vs T bd)) (hb : PSs X body (tS K Lb L L S mb))
    (hs : ∀ x, foldedSetIterable iter X.env x = pure x := by intro _; rfl) :
    PS X (.For tg iter body [] pos) (tS K L L Lh S fun ω ρ k => mi ω ρ fun xs ρ' => (loopM (fun x s => mb _ (bd x s) some) xs ρ').bind (finO k)) := by
  refine ps_weak (ps_for hp hc hi hg hb hs) fun D σ H ⟨F, B, ρ, ω, kk, o', h, e, q'⟩ => ?_
  refine ⟨F, B, ρ, ω, _, o', h, e, fun B1 J H1 xs ρ' s1 st1 it e0 => ?_⟩
  obtain ⟨o, e2, e2'⟩ := bind_some e0
  refine ⟨fun i m σ H => m = xs.length - i ∧ i ≤ xs.length ∧ ∃ Bi ρi, Sub B1 Bi ∧ Stt K F L Bi ρi σ H ∧ loopM (fun x s => mb _ (bd x s) some) (xs.drop i) ρi = some o, ⟨xs.length, by simp, Nat.zero_le _, B1, ρ', Sub.refl _, st1, by rw [List.drop_zero]; exact e2⟩, ?_⟩
  rintro i m σ2 H2 ⟨rfl, hle, Bi, ρi, si, sti, ei⟩
  obtain ⟨own, sto⟩ := id sti
  obtain ⟨hstop, hgo⟩ := it i Bi H2 si sto.sub
  by_cases hlt : i < xs.length
  · have hx : xs[i]? = some xs[i] := List.getElem?_eq_getElem hlt
    obtain ⟨go, yl⟩ := hgo _ hx
    rw [List.drop_eq_getElem_cons hlt] at ei
    obtain ⟨o1, f1, f2⟩ := bind_some ei
    refine .inr ⟨go, fun σ' H' => ∃ Bi ρi, Sub B1 Bi ∧ Stt K F L Bi ρi σ' H' ∧ loopM (fun x s => mb _ (bd x s) some) (xs.drop (i + 1)) ρi = some o, fun σ' H' p => ⟨xs.length - (i + 1), by omega, rfl, hlt, p⟩, fun v H' y => ?_⟩
    obtain ⟨B3, g, r⟩ := yl v H' y
    refine ⟨F, B3, ρi, xs[i], sti.grow g, r, fun σ' _ st' => ?_⟩
    refine ⟨F, B3, _, _, some, o1, st', f1, fun o2 e3 => ?_⟩
    cases e3
    have sB : Sub B B3 := (s1.trans si).trans g.b
    have sB1 : Sub B1 B3 := si.trans g.b
    cases o1 with
    | nx r' => exact fun B' σ' H' s' st2 => ⟨B', r', sB1.trans s', st2, f2⟩
    | ct r' => exact fun B' σ' H' s' st2 => ⟨B', r', sB1.trans s', st2, f2⟩
    | bk r' =>
      cases f2
      exact fun B' σ' H' s' st2 => q' _ e2' B' σ' H' (sB.trans s') st2
    | rt r' =>
      cases f2
      exact q' _ e2'
  · refine .inl ⟨hstop (by omega), ?_⟩
    rw [List.drop_eq_nil_of_le (by omega)] at ei
    cases ei
    exact q' _ e2' Bi σ2 H2 (s1.trans si) sti
theorem y_while {c : Expr} {body : List Stmt} {mc : Mo L Bool} {mb : Ms L L L S} (fuel : Env L → Nat)
    (hp : PassesOwn (model X.prog X.w) X.A X.env X.xe) (hc : PT X c (tC K L mc)) (hb : PSs X body (tS K L L L S mb)) :
    PS X (.While c body [] pos) (tS K L L Lh S fun ω ρ k => (whileM (fun s => mc _ s fun t s1 => if t = true then mb _ s1 fun o => some (some o, s1) else some (none, s1)) (fuel ρ) ρ).bind (finO k)) := by
  refine ps_weak (ps_while hp hc hb) fun D σ H ⟨F, B, ρ, ω, kk, o', h, e, q'⟩ => ?_
  obtain ⟨o, e2, e2'⟩ := bind_some e
  refine ⟨fun n σ H => ∃ Bi ρi, Sub B Bi ∧ Stt K F L Bi ρi σ H ∧ whileM (fun s => mc _ s fun t s1 => if t = true then mb _ s1 fun o => some (some o, s1) else some (none, s1)) n ρi = some o, ⟨fuel ρ, B, ρ, Sub.refl _, h, e2⟩, ?_⟩
  rintro n σ2 H2 ⟨Bi, ρi, si, sti, ei⟩
  cases n with
  | zero => cases ei
  | succ n =>
    obtain ⟨⟨w, ρ2⟩, f1, f2⟩ := bind_some ei
    refine ⟨F, Bi, ρi, _, _, _, sti, f1, fun B1 H1 t ρ' s1 st1 e3 => ?_⟩
    have sB : Sub B B1 := si.trans s1
    cases t with
    | false =>
      cases e3
      cases f2
      exact q' _ e2' B1 σ2 H1 sB st1
    | true =>
      refine ⟨fun σ' H' => ∃ Bi ρi, Sub B Bi ∧ Stt K F L Bi ρi σ' H' ∧ whileM (fun s => mc _ s fun t s1 => if t = true then mb _ s1 fun o => some (some o, s1) else some (none, s1)) n ρi = some o, fun σ' H' p => ⟨n, Nat.lt_succ_self n, p⟩, ?_⟩
      refine ⟨F, B1, ρ', _, _, _, st1, e3, fun o1 e4 => ?_⟩
      cases e4
      cases o1 with
      | nx r' => exact fun B' σ' H' s' st2 => ⟨B', r', sB.trans s', st2, f2⟩
      | ct r' => exact fun B' σ' H' s' st2 => ⟨B', r', sB.trans s', st2, f2⟩
      | bk r' =>
        cases f2
        exact fun B' σ' H' s' st2 => q' _ e2' B' σ' H' (sB.trans s') st2
      | rt r' =>
        cases f2
        exact q' _ e2'
end

/-! ### targets -/
section
variable {X : Cx} {K : Fg} {L L' La Lc Lh : List Loc} {pos : Pos}
theorem g_name {α : Type} {T : Ty α} {i : Nat} {x : Str} (p : Put (lImm T) i L L') (hN : X.N.Nodup) (hi : X.N[i]? = some x) (hx : L2.Loc X.env.scope x) (hf : X.fn x = true ∨ X.env.scope.names.lookup x = some .local := by first | exact .inl rfl | exact .inr rfl | assumption) :
    PG X (.Name x pos) (tGt K L L' [i] T fun v ρ => p.put v ρ) := by
  refine pg_weak (pg_name (i := i) hN hi hx hf) fun v σ H Q ⟨F, B, ρ, x, h, r, q⟩ => ?_
  exact q _ ⟨List.length_set, fun j hj => List.getElem?_set_ne (fun z => hj (by rw [z]; simp))⟩ (h.putI p r)
def tGts (K : Fg) (L L' : List Loc) (ws : List Nat) {β : Type} (R : Tys β) (b : β → Env L → Env L') : TGs := fun vs σ H Q => ∃ F B ρ x, Stt K F L B ρ σ H ∧ R.rep K B vs x ∧
  ∀ σ', Only' ws σ σ' → Stt K F L' B (b x ρ) σ' H → Q σ' H
theorem gs_one {ws : List Nat} {e : Expr} {α : Type} {T : Ty α} {b : α → Env L → Env L'} (h : PG X e (tGt K L L' ws T b)) (hs : (assignEach [e] X.env).map (·.2) = assign e X.env :: (assignEach [] X.env).map (·.2) := by rfl) : PGs X [e] (tGts K L L' ws (rOne T) b) := by
  have h2 := pgs_cons h (pgs_nil (X := X)) hs
  refine ⟨fun pins s σ H vs us Q I r q => h2.run pins s σ H vs us Q I r ?_⟩
  obtain ⟨F, B, ρ, x, st, ⟨v, e1, r1⟩, q⟩ := q
  exact ⟨v, [], e1, F, B, ρ, x, st, r1, fun σ' ho st' => ⟨rfl, q σ' ho st'⟩⟩
theorem gs_cons {ws us : List Nat} {e : Expr} {es : List Expr} {α β : Type} {T : Ty α} {R : Tys β} {b : α → Env L → Env La} {c : β → Env La → Env L'} (h : PG X e (tGt K L La ws T b)) (h2 : PGs X es (tGts K La L' us R c))
    (hs : (assignEach (e :: es) X.env).map (·.2) = assign e X.env :: (assignEach es X.env).map (·.2) := by rfl) : PGs X (e :: es) (tGts K L L' (ws ++ us) (rCons T R) fun x ρ => c x.2 (b x.1 ρ)) := by
  have h3 := pgs_cons h h2 hs
  refine ⟨fun pins s σ H vs us Q I r q => h3.run pins s σ H vs us Q I r ?_⟩
  obtain ⟨F, B, ρ, x, st, ⟨v, r', e1, r1, r2⟩, q⟩ := q
  exact ⟨v, r', e1, F, B, ρ, x.1, st, r1, fun σ' ho st' => ⟨F, B, _, x.2, st', r2, fun σ2 ho2 st2 => q σ2 (ho.trans ho2) st2⟩⟩
theorem g_tup {ws : List Nat} {es : List Expr} {k : Nat} {β : Type} {R : Tys β} {b : β → Env L → Env L'} {n : Nat} (hc : X.calm = true) (h : PGs X es (tGts X.K L L' ws R b)) (hl : ∀ {K B vs x}, R.rep K B vs x → vs.length = n)
    (hn : (assignEach es X.env).length = n := by rfl) (hst : (assignEach es X.env).findIdx? (·.1) = none := by rfl) : PG X (.Tuple es k pos) (tGt X.K L L' ws (tTup R) b) := by
  refine pg_weak (pg_tup hc h hn hst) fun v σ H Q ⟨F, B, ρ, x, st, ⟨a, vs, e, sq, r⟩, q⟩ => ?_
  obtain ⟨own, sto⟩ := id st
  exact ⟨a, vs, e, sto.sub.seqT sq, hl r, F, B, ρ, x, st, r, q⟩
theorem rl2 {α β : Type} {T : Ty α} {U : Ty β} {K B vs x} (h : (rCons T (rOne U)).rep K B vs x) : vs.length = 2 := by
  obtain ⟨v, r, rfl, _, w, rfl, _⟩ := h
  rfl
theorem rl3 {α β γ : Type} {T : Ty α} {U : Ty β} {W : Ty γ} {K B vs x} (h : (rCons T (rCons U (rOne W))).rep K B vs x) : vs.length = 3 := by
  obtain ⟨v, r, rfl, _, w, r2, rfl, _, z, rfl, _⟩ := h
  rfl
theorem rl4 {α β γ δ : Type} {T : Ty α} {U : Ty β} {W : Ty γ} {Z : Ty δ} {K B vs x} (h : (rCons T (rCons U (rCons W (rOne Z)))).rep K B vs x) : vs.length = 4 := by
  obtain ⟨v, r, rfl, _, w, r2, rfl, _, z, r3, rfl, _, z2, rfl, _⟩ := h
  rfl
end

/-! ### what a def promises -/
section
/-- handed back: a value of an immutable type -/
def rsT {α : Type} (T : Ty α) : RS where
  R := α
  ok := fun K F v H' r => ∃ B', Sub F.B0 B' ∧ Sub B' H' ∧ (∀ a o, a ∉ F.M → F.H0 a = some o → H' a = some o) ∧ (∀ a, F.H0 a ≠ none → B' a ≠ none → F.B0 a ≠ none ∨ a ∈ F.M) ∧ T.rep K B' v r
def spP (K : Fg) {β γ : Type} (R : Tys β) (T : Ty γ) (f : β → Option γ) : Sp := fun vs H Q _ => ∃ B x r, Sub B H ∧ R.rep K B vs x ∧ f x = some r ∧ ∀ B' v H', Grow B H B' H' → T.rep K B' v r → Q v H'
/-- .. a new object -/
def rsO {α : Type} (O : OTy α) : RS where
  R := α
  ok := fun K F v H' r => ∃ B' p o, v = .ref p ∧ Sub F.B0 B' ∧ Sub B' H' ∧ (∀ a o, a ∉ F.M → F.H0 a = some o → H' a = some o) ∧ (∀ a, F.H0 a ≠ none → B' a ≠ none → F.B0 a ≠ none ∨ a ∈ F.M) ∧ H' p = some o ∧ B' p = none ∧ (F.H0 p = none ∨ p ∈ F.M) ∧ O.rep K B' o r
def spO (K : Fg) {β γ : Type} (R : Tys β) (O : OTy γ) (f : β → Option γ) : Sp := fun vs H Q _ => ∃ B x r, Sub B H ∧ R.rep K B vs x ∧ f x = some r ∧
  ∀ B' p o H', Grow B H B' H' → H p = none → B' p = none → H' p = some o → O.rep K B' o r → Q (.ref p) H'
/-- with a first argument that is changed -/
structure GrowM (d : Addr) (B H B' H' : Hp) : Prop where
  b : Sub B B'
  h : ∀ a o, a ≠ d → H a = some o → H' a = some o
  s : Sub B' H'
  old : ∀ a, B' a ≠ none → B a ≠ none ∨ H a = none
def rsM {α δ : Type} (d : Addr) (O : OTy δ) (T : Ty α) : RS where
  R := α × δ
  ok := fun K F v H' r => ∃ B' o, Sub F.B0 B' ∧ Sub B' H' ∧ (∀ a o, a ∉ F.M → F.H0 a = some o → H' a = some o) ∧ (∀ a, F.H0 a ≠ none → B' a ≠ none → F.B0 a ≠ none ∨ a ∈ F.M) ∧ T.rep K B' v r.1 ∧ H' d = some o ∧ B' d = none ∧ O.rep K B' o r.2
def spM (K : Fg) {β γ δ : Type} (O : OTy δ) (R : Tys β) (T : Ty γ) (f : δ → β → Option (γ × δ)) : Sp := fun vs H Q _ => ∃ B d vs' o x0 x r, vs = .ref d :: vs' ∧ Sub B H ∧ H d = some o ∧ B d = none ∧ O.rep K B o x0 ∧ R.rep K B vs' x ∧ f x0 x = some r ∧
  ∀ B' v o' H', GrowM d B H B' H' → H' d = some o' → B' d = none → O.rep K B' o' r.2 → T.rep K B' v r.1 → Q v H'
/-- both -/
def rsMO {α δ : Type} (d : Addr) (O : OTy δ) (P : OTy α) : RS where
  R := α × δ
  ok := fun K F v H' r => ∃ B' o p u, v = .ref p ∧ Sub F.B0 B' ∧ Sub B' H' ∧ (∀ a o, a ∉ F.M → F.H0 a = some o → H' a = some o) ∧ (∀ a, F.H0 a ≠ none → B' a ≠ none → F.B0 a ≠ none ∨ a ∈ F.M) ∧
    H' p = some u ∧ B' p = none ∧ (F.H0 p = none ∨ p ∈ F.M) ∧ p ≠ d ∧ P.rep K B' u r.1 ∧ H' d = some o ∧ B' d = none ∧ O.rep K B' o r.2
def spMO (K : Fg) {β γ δ : Type} (O : OTy δ) (R : Tys β) (P : OTy γ) (f : δ → β → Option (γ × δ)) : Sp := fun vs H Q _ => ∃ B d vs' o x0 x r, vs = .ref d :: vs' ∧ Sub B H ∧ H d = some o ∧ B d = none ∧ O.rep K B o x0 ∧ R.rep K B vs' x ∧ f x0 x = some r ∧
  ∀ B' p u o' H', GrowM d B H B' H' → H' d = some o' → B' d = none → O.rep K B' o' r.2 → H p = none → p ≠ d → B' p = none → H' p = some u → P.rep K B' u r.1 → Q (.ref p) H'

variable {X : Cx} {K : Fg} {L L' La Lc Lh : List Loc} {pos : Pos} {e : Expr}
theorem y_ret {α : Type} {T : Ty α} {m : Mo L α} (he : PE X e (tE K L T m)) : PS X (.Return (some e) pos) (tS K L L' Lh (rsT T) fun ω ρ k => m ω ρ fun x _ => k (.rt x)) := by
  refine ps_weak (ps_ret he) fun D σ H ⟨F, B, ρ, ω, k, o, h, e, q⟩ => ?_
  exact ⟨F, B, ρ, ω, _, o, h, e, fun B' v H' a ρ' s ⟨own, st'⟩ r e2 => q _ e2 v H' ⟨B', st'.base, st'.sub, st'.keep, st'.old, r⟩⟩
theorem y_retO {α : Type} {O : OTy α} {m : Mo L α} (he : PE X e (tO K L O m)) : PS X (.Return (some e) pos) (tS K L L' Lh (rsO O) fun ω ρ k => m ω ρ fun x _ => k (.rt x)) := by
  refine ps_weak (ps_ret he) fun D σ H ⟨F, B, ρ, ω, k, o, h, e, q⟩ => ?_
  exact ⟨F, B, ρ, ω, _, o, h, e, fun B' p u H' own a ρ' s st' h1 h2 h3 h4 h5 e2 => q _ e2 _ H' ⟨B', p, u, rfl, st'.base, st'.sub, st'.keep, st'.old, h1, h3, h5, h2⟩⟩
/-- an own object at a name is handed back -/
theorem y_retN {α : Type} {O : OTy α} {f : Option Addr} {n : Nat} {x : Str} {p : Pos} (i : Ix (lOwn O f) n L) (hN : X.N[n]? = some x) (hv : Vis X.env.scope x) (hd : (x == ("__debug__" : Str)) = false := by decide) (hcd : (x == ("__classdict__" : Str)) = false := by decide) :
    PS X (.Return (some (.Name x p)) pos) (tS K L L' Lh (rsO O) fun _ ρ k => k (.rt (i.get ρ))) := by
  refine ps_weak (ps_ret (pe_var hN hv hd hcd)) fun D σ H ⟨F, B, ρ, ω, k, o, h, e, q'⟩ => ?_
  have q := q' _ e
  obtain ⟨own, h⟩ := h
  obtain ⟨l, u, e1, e2, e3, e4, _⟩ := h.rel.own i
  exact ⟨.ref l, e1, q _ H ⟨B, l, u, rfl, h.base, h.sub, h.keep, h.old, e3, (h.own l e2).1, (h.own l e2).2, e4⟩⟩
/-- a value, and the first argument as it is now -/
theorem y_retM {α δ : Type} {d : Addr} {T : Ty α} {O : OTy δ} {m : Mo L α} {n : Nat} (i : Ix (lOwn O (some d)) n L) (he : PE X e (tE K L T m)) :
    PS X (.Return (some e) pos) (tS K L L' Lh (rsM d O T) fun ω ρ k => m ω ρ fun x ρ' => k (.rt (x, i.get ρ'))) := by
  refine ps_weak (ps_ret he) fun D σ H ⟨F, B, ρ, ω, k, o, h, e, q'⟩ => ?_
  refine ⟨F, B, ρ, ω, _, o, h, e, fun B' v H' a ρ' s ⟨own, st'⟩ r e2 => ?_⟩
  have q := q' _ e2
  obtain ⟨l, u, q1, q2, q3, q4, q5⟩ := st'.rel.own i
  obtain rfl := q5 d rfl
  exact q v H' ⟨B', u, st'.base, st'.sub, st'.keep, st'.old, r, q3, (st'.own l q2).1, q4⟩
theorem y_retMO {α δ : Type} {d : Addr} {P : OTy α} {O : OTy δ} {m : Mo L α} {n : Nat} (i : Ix (lOwn O (some d)) n L) (he : PE X e (tO K L P m)) :
    PS X (.Return (some e) pos) (tS K L L' Lh (rsMO d O P) fun ω ρ k => m ω ρ fun x ρ' => k (.rt (x, i.get ρ'))) := by
  refine ps_weak (ps_ret he) fun D σ H ⟨F, B, ρ, ω, k, o, h, e, q'⟩ => ?_
  refine ⟨F, B, ρ, ω, _, o, h, e, fun B' p w H' own a ρ' s st' h1 h2 h3 h4 h5 e2 => ?_⟩
  have q := q' _ e2
  obtain ⟨l, u, q1, q2, q3, q4, q5⟩ := st'.rel.own i
  obtain rfl := q5 d rfl
  exact q _ H' ⟨B', u, p, w, rfl, st'.base, st'.sub, st'.keep, st'.old, h1, h3, h5, fun z => h4 (by rw [z]; exact q2), h2, q3, (st'.own l q2).1, q4⟩
theorem y_retMN {α δ : Type} {d : Addr} {P : OTy α} {O : OTy δ} {n j : Nat} {x : Str} {p : Pos} (i : Ix (lOwn O (some d)) n L) (ij : Ix (lOwn P none) j L) (hne : n ≠ j) (hN : X.N[j]? = some x) (hv : Vis X.env.scope x) (hd : (x == ("__debug__" : Str)) = false := by decide) (hcd : (x == ("__classdict__" : Str)) = false := by decide) :
    PS X (.Return (some (.Name x p)) pos) (tS K L L' Lh (rsMO d O P) fun _ ρ k => k (.rt (ij.get ρ, i.get ρ))) := by
  refine ps_weak (ps_ret (pe_var hN hv hd hcd)) fun D σ H ⟨F, B, ρ, ω, kk, o, h, e, q'⟩ => ?_
  have q := q' _ e
  obtain ⟨own, h⟩ := h
  obtain ⟨l, u, q1, q2, q3, q4, q5⟩ := h.rel.own i
  obtain ⟨k, w, r1, r2, r3, r4, r5⟩ := h.rel.own ij
  obtain rfl := q5 d rfl
  exact ⟨.ref k, r1, q _ H ⟨B, u, k, w, rfl, h.base, h.sub, h.keep, h.old, r3, (h.own k r2).1, (h.own k r2).2, Rel.apart i ij hne h.nd h.rel q1 r1, r4, q3, (h.own l q2).1, q4⟩⟩
end

/-! ### defs -/
/-- what a body hands back at last -/
@[reducible] def retO {N C R : Type} : Out N C R → Option R
  | .rt r => some r
  | _ => none
theorem retO_of {N C R : Type} {o : Out N C R} {r : R} (h : retO o = some r) : o = .rt r := by
  cases o with
  | rt q => cases h; rfl
  | _ => cases h
section
variable {P : Program} {w : World} {K : Fg} {mg : Str → Option Value} {base : Heap}
/-- the slots at the start: the parameters, then names without a value -/
def Params (K : Fg) {β : Type} (R : Tys β) (L : List Loc) (e : β → Env L) (N : List Str) : Prop :=
  ∀ {B H : Hp} {vs x}, R.rep K B vs x → Rel K B H L [] (start N vs) (e x) ∧ vs.length ≤ N.length
theorem fnP {x qual : Str} {st : Stmt} {f : Addr} {fd : FuncData} {N ps : List Str} {k : Nat} {β γ : Type} {R : Tys β} {T : Ty γ} {L L' : List Loc} {fm : β → Option γ} {m : Ms L L' [] (rsT T)} (e : β → Env L)
    (F : Fun K x qual st f fd) (S : FnScope N ps (defScope st)) (hl : ∀ {B vs y}, R.rep K B vs y → vs.length = ps.length) (hp : Params K R L e N)
    (hm : ∀ y, fm y = m γ (e y) retO)
    (hb : ∀ (cdv : Value) (A : Around) (outer : List PySem.Env) (s : Shared) (H : Hp) (E : XK), Room k (A.deeper (envOfC qual (defScope st) s.heap.objs.size f cdv)) →
      PSs (cxOf CX0 P w K mg base N qual (defScope st) f cdv A outer s H E).nox (defBody st) (tS K L L' [] (rsT T) m)) :
    FnOk P w K mg base CX0 (k + 1) f fd ps (spP K R T fm) := by
  refine F.ok S (fun vs H Q E h => ?_) (fun cdv A outer s H vs Q E hr h => ?_)
  · obtain ⟨B, y, r, sb, rp, _⟩ := h
    exact hl rp
  · obtain ⟨B, y, r, sb, rp, e1, q⟩ := h
    refine ⟨_, hb cdv A outer s H E hr, ?_⟩
    refine ⟨⟨H, B, []⟩, B, e y, γ, retO, r, ⟨[], Sub.refl B, sb, fun _ _ _ z => z, fun _ _ z => .inl z, (hp rp).1, List.nodup_nil, fun a z => nomatch z⟩, by rw [← hm y]; exact e1, fun out e2 => ?_⟩
    obtain rfl := retO_of e2
    intro v H' ⟨B', s1, s2, s3, s4, rv⟩
    refine q B' v H' ⟨s1, fun a o z => s3 a o (by simp) z, s2, fun a z => ?_⟩ rv
    cases z2 : H a with
    | none => exact .inr rfl
    | some o =>
      rcases s4 a (by show H a ≠ none; rw [z2]; exact fun y => nomatch y) z with y | y
      · exact .inl y
      · exact nomatch y
theorem fnO {x qual : Str} {st : Stmt} {f : Addr} {fd : FuncData} {N ps : List Str} {k : Nat} {β γ : Type} {R : Tys β} {O : OTy γ} {L L' : List Loc} {fm : β → Option γ} {m : Ms L L' [] (rsO O)} (e : β → Env L)
    (F : Fun K x qual st f fd) (S : FnScope N ps (defScope st)) (hl : ∀ {B vs y}, R.rep K B vs y → vs.length = ps.length) (hp : Params K R L e N)
    (hm : ∀ y, fm y = m γ (e y) retO)
    (hb : ∀ (cdv : Value) (A : Around) (outer : List PySem.Env) (s : Shared) (H : Hp) (E : XK), Room k (A.deeper (envOfC qual (defScope st) s.heap.objs.size f cdv)) →
      PSs (cxOf CX0 P w K mg base N qual (defScope st) f cdv A outer s H E).nox (defBody st) (tS K L L' [] (rsO O) m)) :
    FnOk P w K mg base CX0 (k + 1) f fd ps (spO K R O fm) := by
  refine F.ok S (fun vs H Q E h => ?_) (fun cdv A outer s H vs Q E hr h => ?_)
  · obtain ⟨B, y, r, sb, rp, _⟩ := h
    exact hl rp
  · obtain ⟨B, y, r, sb, rp, e1, q⟩ := h
    refine ⟨_, hb cdv A outer s H E hr, ?_⟩
    refine ⟨⟨H, B, []⟩, B, e y, γ, retO, r, ⟨[], Sub.refl B, sb, fun _ _ _ z => z, fun _ _ z => .inl z, (hp rp).1, List.nodup_nil, fun a z => nomatch z⟩, by rw [← hm y]; exact e1, fun out e2 => ?_⟩
    obtain rfl := retO_of e2
    intro v H' ⟨B', p, o, ev, s1, s2, s3, s4, h1, h2, h3, rv⟩
    subst ev
    refine q B' p o H' ⟨s1, fun a o z => s3 a o (by simp) z, s2, fun a z => ?_⟩ ?_ h2 h1 rv
    · cases z2 : H a with
      | none => exact .inr rfl
      | some o =>
        rcases s4 a (by show H a ≠ none; rw [z2]; exact fun y => nomatch y) z with y | y
        · exact .inl y
        · exact nomatch y
    · rcases h3 with y | y
      · exact y
      · exact nomatch y
def ParamsM (K : Fg) {β δ : Type} (d : Addr) (O : OTy δ) (R : Tys β) (L : List Loc) (e : δ → β → Env L) (N : List Str) : Prop :=
  ∀ {B H : Hp} {vs o x0 x}, H d = some o → O.rep K B o x0 → R.rep K B vs x → Rel K B H L [d] (start N (.ref d :: vs)) (e x0 x)
theorem fnM {x qual : Str} {st : Stmt} {f : Addr} {fd : FuncData} {N ps : List Str} {k : Nat} {β γ δ : Type} {O : OTy δ} {R : Tys β} {T : Ty γ} {L : Addr → List Loc} {L' : Addr → List Loc} {fm : δ → β → Option (γ × δ)} {m : (d : Addr) → Ms (L d) (L' d) [] (rsM d O T)} (e : (d : Addr) → δ → β → Env (L d))
    (F : Fun K x qual st f fd) (S : FnScope N ps (defScope st)) (hl : ∀ {B vs y}, R.rep K B vs y → vs.length + 1 = ps.length) (hp : ∀ d, ParamsM K d O R (L d) (e d) N)
    (hm : ∀ d y0 y, fm y0 y = m d (γ × δ) (e d y0 y) retO)
    (hb : ∀ (d : Addr) (cdv : Value) (A : Around) (outer : List PySem.Env) (s : Shared) (H : Hp) (E : XK), Room k (A.deeper (envOfC qual (defScope st) s.heap.objs.size f cdv)) →
      PSs (cxOf CX0 P w K mg base N qual (defScope st) f cdv A outer s H E).nox (defBody st) (tS K (L d) (L' d) [] (rsM d O T) (m d))) :
    FnOk P w K mg base CX0 (k + 1) f fd ps (spM K O R T fm) := by
  refine F.ok S (fun vs H Q E h => ?_) (fun cdv A outer s H vs Q E hr h => ?_)
  · obtain ⟨B, d, vs', o, x0, y, r, rfl, sb, hd, hb, ro, rp, _⟩ := h
    exact hl rp
  · obtain ⟨B, d, vs', o, x0, y, r, rfl, sb, hd, hbn, ro, rp, e1, q⟩ := h
    refine ⟨_, hb d cdv A outer s H E hr, ?_⟩
    refine ⟨⟨H, B, [d]⟩, B, e d x0 y, γ × δ, retO, r, ⟨[d], Sub.refl B, sb, fun _ _ _ z => z, fun _ _ z => .inl z, hp d hd ro rp, (by simp), fun a z => ?_⟩, by rw [← hm d x0 y]; exact e1, fun out e2 => ?_⟩
    · obtain rfl := List.mem_singleton.mp z
      exact ⟨hbn, .inr z⟩
    · obtain rfl := retO_of e2
      intro v H' ⟨B', o', s1, s2, s3, s4, rv, h1, h2, h3⟩
      refine q B' v o' H' ⟨s1, fun a u n z => s3 a u (fun y => n (List.mem_singleton.mp y)) z, s2, fun a z => ?_⟩ h1 h2 h3 rv
      cases z2 : H a with
      | none => exact .inr rfl
      | some u =>
        rcases s4 a (by show H a ≠ none; rw [z2]; exact fun y => nomatch y) z with y | y
        · exact .inl y
        · obtain rfl := List.mem_singleton.mp y
          exact absurd h2 z
theorem fnMO {x qual : Str} {st : Stmt} {f : Addr} {fd : FuncData} {N ps : List Str} {k : Nat} {β γ δ : Type} {O : OTy δ} {R : Tys β} {Po : OTy γ} {L : Addr → List Loc} {L' : Addr → List Loc} {fm : δ → β → Option (γ × δ)} {m : (d : Addr) → Ms (L d) (L' d) [] (rsMO d O Po)} (e : (d : Addr) → δ → β → Env (L d))
    (F : Fun K x qual st f fd) (S : FnScope N ps (defScope st)) (hl : ∀ {B vs y}, R.rep K B vs y → vs.length + 1 = ps.length) (hp : ∀ d, ParamsM K d O R (L d) (e d) N)
    (hm : ∀ d y0 y, fm y0 y = m d (γ × δ) (e d y0 y) retO)
    (hb : ∀ (d : Addr) (cdv : Value) (A : Around) (outer : List PySem.Env) (s : Shared) (H : Hp) (E : XK), Room k (A.deeper (envOfC qual (defScope st) s.heap.objs.size f cdv)) →
      PSs (cxOf CX0 P w K mg base N qual (defScope st) f cdv A outer s H E).nox (defBody st) (tS K (L d) (L' d) [] (rsMO d O Po) (m d))) :
    FnOk P w K mg base CX0 (k + 1) f fd ps (spMO K O R Po fm) := by
  refine F.ok S (fun vs H Q E h => ?_) (fun cdv A outer s H vs Q E hr h => ?_)
  · obtain ⟨B, d, vs', o, x0, y, r, rfl, sb, hd, hb, ro, rp, _⟩ := h
    exact hl rp
  · obtain ⟨B, d, vs', o, x0, y, r, rfl, sb, hd, hbn, ro, rp, e1, q⟩ := h
    refine ⟨_, hb d cdv A outer s H E hr, ?_⟩
    refine ⟨⟨H, B, [d]⟩, B, e d x0 y, γ × δ, retO, r, ⟨[d], Sub.refl B, sb, fun _ _ _ z => z, fun _ _ z => .inl z, hp d hd ro rp, (by simp), fun a z => ?_⟩, by rw [← hm d x0 y]; exact e1, fun out e2 => ?_⟩
    · obtain rfl := List.mem_singleton.mp z
      exact ⟨hbn, .inr z⟩
    · obtain rfl := retO_of e2
      intro v H' ⟨B', o', p, u, ev, s1, s2, s3, s4, p1, p2, p3, p4, p5, h1, h2, h3⟩
      subst ev
      refine q B' p u o' H' ⟨s1, fun a u n z => s3 a u (fun y => n (List.mem_singleton.mp y)) z, s2, fun a z => ?_⟩ h1 h2 h3 ?_ p4 p2 p1 p5
      · cases z2 : H a with
        | none => exact .inr rfl
        | some u =>
          rcases s4 a (by show H a ≠ none; rw [z2]; exact fun y => nomatch y) z with y | y
          · exact .inl y
          · obtain rfl := List.mem_singleton.mp y
            exact absurd h2 z
      · rcases p3 with y | y
        · exact y
        · exact absurd (List.mem_singleton.mp y) p4
end
end L3

/-! L3: the rules of expressions. -/
namespace L3
open PySem PySem.Spec PyProof.Rows L2

/-! ### what is asked of an operation by values -/
def Op2 (K : Fg) (r : R2) {α β γ : Type} (Ta : Ty α) (Tb : Ty β) (Tc : Ty γ) (g : α → β → Option γ) : Prop :=
  ∀ {B H x y z v w Q}, Sub B H → Ta.rep K B v x → Tb.rep K B w y → g x y = some z → (∀ B' H' u, Grow B H B' H' → Tc.rep K B' u z → Q u H') → r v w H Q
def Op1 (K : Fg) (r : V → Hp → VK → Prop) {α γ : Type} (Ta : Ty α) (Tc : Ty γ) (g : α → Option γ) : Prop :=
  ∀ {B H x z v Q}, Sub B H → Ta.rep K B v x → g x = some z → (∀ B' H' u, Grow B H B' H' → Tc.rep K B' u z → Q u H') → r v H Q
def OpN (K : Fg) (r : List V → Hp → VK → Prop) {β γ : Type} (R : Tys β) (Tc : Ty γ) (g : β → Option γ) : Prop :=
  ∀ {B H y z vs Q}, Sub B H → R.rep K B vs y → g y = some z → (∀ B' H' u, Grow B H B' H' → Tc.rep K B' u z → Q u H') → r vs H Q
/-- .. that make a new object -/
def Op2O (K : Fg) (r : R2) {α β γ : Type} (Ta : Ty α) (Tb : Ty β) (O : OTy γ) (g : α → β → Option γ) : Prop :=
  ∀ {B H x y z v w Q}, Sub B H → Ta.rep K B v x → Tb.rep K B w y → g x y = some z → (∀ p o, H p = none → O.rep K B o z → Q (.ref p) (upd H p o)) → r v w H Q
def OpNO (K : Fg) (r : List V → Hp → VK → Prop) {β γ : Type} (R : Tys β) (O : OTy γ) (g : β → Option γ) : Prop :=
  ∀ {B H y z vs Q}, Sub B H → R.rep K B vs y → g y = some z → (∀ p o, H p = none → O.rep K B o z → Q (.ref p) (upd H p o)) → r vs H Q

section
variable {X : Cx} {K : Fg} {L L' La Lc : List Loc} {e a b c : Expr} {pos : Pos}
theorem Stt.sb {F : Fr} {B H : Hp} {ρ : Env L} {σ} (S : Stt K F L B ρ σ H) : Sub B H := let ⟨_, S⟩ := S; S.sub
/-- behind a new object -/
theorem Stt.made {F : Fr} {B H : Hp} {ρ : Env L} {σ} (S : Stt K F L B ρ σ H) {p : Addr} {o : HO} (h : H p = none) :
    ∃ own, StO K F L own B ρ σ (upd H p o) ∧ (upd H p o) p = some o ∧ B p = none ∧ p ∉ own ∧ (F.H0 p = none ∨ p ∈ F.M) := by
  obtain ⟨own, S⟩ := S
  obtain ⟨h1, h2, h3⟩ := S.fresh h
  exact ⟨own, S.newH h, upd_same, h1, h2, h3⟩
theorem Stt.lockNew {F : Fr} {B H : Hp} {ρ : Env L} {σ} {own : List Addr} (S : StO K F L own B ρ σ H) {p : Addr} {o : HO} (e : H p = some o) (hb : B p = none) (ho : p ∉ own) (hf : F.H0 p = none ∨ p ∈ F.M) : Stt K F L (upd B p o) ρ σ H := by
  refine ⟨own, S.base.trans (Sub.upd hb), S.sub.ext e, S.keep, fun a h0 h1 => ?_, S.rel.frame (Sub.upd hb) fun _ _ => rfl, S.nd, fun a m => ⟨?_, (S.own a m).2⟩⟩
  · by_cases z : a = p
    · subst z
      rcases hf with y | y
      · exact absurd y h0
      · exact .inr y
    · rw [upd_ne z] at h1; exact S.old a h0 h1
  · rw [upd_ne fun z => ho (by rw [← z]; exact m)]
    exact (S.own a m).1

/-! ### names, constants -/
theorem y_var {α : Type} {T : Ty α} {n : Nat} {x : Str} (i : Ix (lImm T) n L) (hN : X.N[n]? = some x) (hv : Vis X.env.scope x) (hd : (x == ("__debug__" : Str)) = false := by decide) (hcd : (x == ("__classdict__" : Str)) = false := by decide) :
    PE X (.Name x pos) (tE K L T fun _ ρ k => k (i.get ρ) ρ) := by
  refine pe_weak (pe_var hN hv hd hcd) fun σ H Q ⟨F, B, ρ, ω, k, o, h, e1, q⟩ => ?_
  obtain ⟨own, S⟩ := id h
  obtain ⟨v, e2, r⟩ := S.rel.imm i
  exact ⟨v, e2, q B v H _ _ (Sub.refl B) h r e1⟩
theorem y_int {i : Int} {j : Nat} : PE X (.Constant (.int i) j pos) (tE K L tInt fun _ ρ k => k i ρ) := by
  refine pe_weak pe_int fun σ H Q ⟨F, B, ρ, ω, k, o, h, e1, q⟩ => ?_
  exact q B _ H _ _ (Sub.refl B) h rfl e1
theorem y_bl {b : Bool} {j : Nat} : PE X (.Constant (.bool b) j pos) (tE K L tBool fun _ ρ k => k b ρ) := by
  refine pe_weak pe_bl fun σ H Q ⟨F, B, ρ, ω, k, o, h, e1, q⟩ => ?_
  exact q B _ H _ _ (Sub.refl B) h rfl e1
theorem y_str {b : Str} {j : Nat} : PE X (.Constant (.str b) j pos) (tE K L tStr fun _ ρ k => k b ρ) := by
  refine pe_weak pe_str fun σ H Q ⟨F, B, ρ, ω, k, o, h, e1, q⟩ => ?_
  exact q B _ H _ _ (Sub.refl B) h rfl e1
theorem y_none {α : Type} {T : Ty α} {j : Nat} : PE X (.Constant .none j pos) (tE K L (tOpt T) fun _ ρ k => k none ρ) := by
  refine pe_weak pe_non fun σ H Q ⟨F, B, ρ, ω, k, o, h, e1, q⟩ => ?_
  exact q B _ H none ρ (Sub.refl B) h rfl e1
/-- a constant of the module -/
theorem y_glob {α : Type} {T : Ty α} {x : Str} {v : V} {u : Value} {c : α} (hg : Gl X x) (hm : X.mg x = some u) (r : RelV v u) (ht : ∀ B, T.rep K B v c) (hd : (x == ("__debug__" : Str)) = false := by decide) :
    PE X (.Name x pos) (tE K L T fun _ ρ k => k c ρ) := by
  refine pe_weak (pe_glob hg hm r hd) fun σ H Q ⟨F, B, ρ, ω, k, o, h, e1, q⟩ => ?_
  exact q B _ H _ _ (Sub.refl B) h (ht B) e1

/-! ### from one type to another -/
theorem y_cast {α β : Type} {T : Ty α} {U : Ty β} {m : Mo L α} (g : α → β) (hg : ∀ {B v x}, T.rep K B v x → U.rep K B v (g x)) (h : PE X e (tE K L T m)) : PE X e (tE K L U fun ω ρ k => m ω ρ fun x ρ' => k (g x) ρ') := by
  refine pe_weak h fun σ H Q ⟨F, B, ρ, ω, k, o, h, e1, q⟩ => ?_
  exact ⟨F, B, ρ, ω, _, o, h, e1, fun B' v H' x ρ' s st r e2 => q B' v H' _ _ s st (hg r) e2⟩
theorem y_some {α : Type} {T : Ty α} {m : Mo L α} (hn : T.nn = true) (h : PE X e (tE K L T m)) : PE X e (tE K L (tOpt T) fun ω ρ k => m ω ρ fun x ρ' => k (some x) ρ') := by
  refine pe_weak h fun σ H Q ⟨F, B, ρ, ω, k, o, h, e1, q⟩ => ?_
  exact ⟨F, B, ρ, ω, _, o, h, e1, fun B' v H' x ρ' s st r e2 => q B' v H' (some x) ρ' s st ⟨r, T.nnok hn r⟩ e2⟩
theorem y_unw {α : Type} {T : Ty α} {m : Mo L (Option α)} (h : PE X e (tE K L (tOpt T) m)) : PE X e (tE K L T fun ω ρ k => m ω ρ fun x ρ' => x.bind fun z => k z ρ') := by
  refine pe_weak h fun σ H Q ⟨F, B, ρ, ω, k, o, h, e1, q⟩ => ?_
  refine ⟨F, B, ρ, ω, _, o, h, e1, fun B' v H' x ρ' s st r e2 => ?_⟩
  cases x with
  | none => cases e2
  | some z => exact q B' v H' z ρ' s st r.1 e2
/-- a new object is locked -/
theorem y_fz {α : Type} {O : OTy α} {m : Mo L α} (h : PE X e (tO K L O m)) : PE X e (tE K L O.fz m) := by
  refine pe_weak h fun σ H Q ⟨F, B, ρ, ω, k, o, h, e1, q⟩ => ?_
  exact ⟨F, B, ρ, ω, k, o, h, e1, fun B' p u H' own x ρ' s st h1 h2 h3 h4 h5 e2 => q (upd B' p u) _ H' x ρ' (s.trans (Sub.upd h3)) (Stt.lockNew st h1 h3 h4 h5) (O.fzok upd_same (O.mono (Sub.upd h3) h2)) e2⟩

/-! ### operators -/
abbrev bin2 {α β γ : Type} (ma : Mo L α) (mb : Mo L β) (g : α → β → Option γ) : Mo L γ := fun ω ρ k => ma ω ρ fun x ρ1 => mb ω ρ1 fun y ρ2 => (g x y).bind fun z => k z ρ2
/-- .. that never fail -/
abbrev binT {α β γ : Type} (ma : Mo L α) (mb : Mo L β) (g : α → β → γ) : Mo L γ := fun ω ρ k => ma ω ρ fun x ρ1 => mb ω ρ1 fun y ρ2 => k (g x y) ρ2
theorem bin_fin {α β γ : Type} {Ta : Ty α} {Tb : Ty β} {Tc : Ty γ} {g : α → β → Option γ} {ma : Mo L α} {mb : Mo L β} {r : R2} (h : Op2 K r Ta Tb Tc g) {σ : L2.St} {H : Hp} {Q : VK} (w : tE K L Tc (bin2 ma mb g) σ H Q) : tOp r (tE K L Ta ma) (tE K L Tb mb) σ H Q := by
  obtain ⟨F, B, ρ, ω, k, o, st, e1, q⟩ := w
  refine ⟨F, B, ρ, ω, _, o, st, e1, fun B1 v H1 x ρ1 s1 st1 r1 e2 => ⟨F, B1, ρ1, ω, _, o, st1, e2, fun B2 w H2 y ρ2 s2 st2 r2 e3 => ?_⟩⟩
  obtain ⟨z, e4, e5⟩ := bind_some e3
  exact h st2.sb (Ta.mono s2 r1) r2 e4 fun B' H' u gr ru => q B' u H' z ρ2 ((s1.trans s2).trans gr.b) (st2.grow gr) ru e5
theorem bin_finT {α β γ : Type} {Ta : Ty α} {Tb : Ty β} {Tc : Ty γ} {g : α → β → γ} {ma : Mo L α} {mb : Mo L β} {r : R2} (h : Op2 K r Ta Tb Tc fun x y => some (g x y)) {σ : L2.St} {H : Hp} {Q : VK} (w : tE K L Tc (binT ma mb g) σ H Q) : tOp r (tE K L Ta ma) (tE K L Tb mb) σ H Q :=
  bin_fin (g := fun x y => some (g x y)) h w
theorem bin_finO {α β γ : Type} {Ta : Ty α} {Tb : Ty β} {O : OTy γ} {g : α → β → Option γ} {ma : Mo L α} {mb : Mo L β} {r : R2} (h : Op2O K r Ta Tb O g) {σ : L2.St} {H : Hp} {Q : VK} (w : tO K L O (bin2 ma mb g) σ H Q) : tOp r (tE K L Ta ma) (tE K L Tb mb) σ H Q := by
  obtain ⟨F, B, ρ, ω, k, o, st, e1, q⟩ := w
  refine ⟨F, B, ρ, ω, _, o, st, e1, fun B1 v H1 x ρ1 s1 st1 r1 e2 => ⟨F, B1, ρ1, ω, _, o, st1, e2, fun B2 w H2 y ρ2 s2 st2 r2 e3 => ?_⟩⟩
  obtain ⟨z, e4, e5⟩ := bind_some e3
  refine h st2.sb (Ta.mono s2 r1) r2 e4 fun p u hp ro => ?_
  obtain ⟨own, S, h1, h2, h3, h4⟩ := st2.made (o := u) hp
  exact q B2 p u _ own z ρ2 (s1.trans s2) S h1 ro h2 h3 h4 e5
theorem y_bin {op : Operator} {r : R2} {α β γ : Type} {Ta : Ty α} {Tb : Ty β} {Tc : Ty γ} {g : α → β → Option γ} {ma : Mo L α} {mb : Mo L β} (ho : OpR X (binaryOp op) r) (h : Op2 K r Ta Tb Tc g) (ha : PE X a (tE K L Ta ma)) (hb : PE X b (tE K L Tb mb)) :
    PE X (.BinOp a op b pos) (tE K L Tc (bin2 ma mb g)) := pe_weak (pe_op ho ha hb) fun σ H Q w => bin_fin h w
theorem y_binT {op : Operator} {r : R2} {α β γ : Type} {Ta : Ty α} {Tb : Ty β} {Tc : Ty γ} {g : α → β → γ} {ma : Mo L α} {mb : Mo L β} (ho : OpR X (binaryOp op) r) (h : Op2 K r Ta Tb Tc fun x y => some (g x y)) (ha : PE X a (tE K L Ta ma)) (hb : PE X b (tE K L Tb mb)) :
    PE X (.BinOp a op b pos) (tE K L Tc (binT ma mb g)) := pe_weak (pe_op ho ha hb) fun σ H Q w => bin_finT h w
/-- an operation on two written ints, by its value -/
theorem y_lit {op : Operator} {r : R2} {i j c : Int} {n1 n2 : Nat} {p1 p2 : Pos} {g : Int → Int → Option Int} (ho : OpR X (binaryOp op) r) (h : Op2 K r tInt tInt tInt g) (hv : g i j = some c) :
    PE X (.BinOp (.Constant (.int i) n1 p1) op (.Constant (.int j) n2 p2) pos) (tE K L tInt fun _ ρ k => k c ρ) := by
  refine pe_weak (y_bin ho h (y_int (i := i)) (y_int (i := j))) fun σ H Q ⟨F, B, ρ, ω, k, o, st, e1, q⟩ => ⟨F, B, ρ, ω, k, o, st, ?_, q⟩
  show (g i j).bind (fun z => k z ρ) = some o
  rw [hv]
  exact e1
theorem y_binO {op : Operator} {r : R2} {α β γ : Type} {Ta : Ty α} {Tb : Ty β} {O : OTy γ} {g : α → β → Option γ} {ma : Mo L α} {mb : Mo L β} (ho : OpR X (binaryOp op) r) (h : Op2O K r Ta Tb O g) (ha : PE X a (tE K L Ta ma)) (hb : PE X b (tE K L Tb mb)) :
    PE X (.BinOp a op b pos) (tO K L O (bin2 ma mb g)) := pe_weak (pe_op ho ha hb) fun σ H Q w => bin_finO h w
theorem y_cmp {op : CmpOp} {r : R2} {α β : Type} {Ta : Ty α} {Tb : Ty β} {g : α → β → Bool} {ma : Mo L α} {mb : Mo L β} (ho : OpR X (compareOp op) r) (h : Op2 K r Ta Tb tBool fun x y => some (g x y)) (ha : PE X a (tE K L Ta ma)) (hb : PE X b (tE K L Tb mb)) (hm : behindInMarks op b = false) :
    PE X (.Compare a [op] [b] pos) (tE K L tBool (binT ma mb g)) := pe_weak (pe_cmpR ho ha hb hm) fun σ H Q w => bin_finT h w
theorem y_cmpT {op : CmpOp} {r : R2} {α β : Type} {Ta : Ty α} {Tb : Ty β} {g : α → β → Bool} {ma : Mo L α} {mb : Mo L β} (ho : OpR X (compareOp op) r) (h : Op2 K r Ta Tb tBool fun x y => some (g x y)) (ha : PE X a (tE K L Ta ma)) (hb : PE X b (tE K L Tb mb)) (hm : behindInMarks op b = false) :
    PT X (.Compare a [op] [b] pos) (tC K L (binT ma mb g)) := by
  refine pt_weak (pt_cmpR ho ha hb hm) fun σ H Q ⟨F, B, ρ, ω, k, o, st, e1, q⟩ => ?_
  refine bin_finT (Tc := tBool) h ⟨F, B, ρ, ω, k, o, st, e1, fun B' v H' x ρ' s st' r e2 => ?_⟩
  exact ⟨x, r, q B' H' x ρ' s st' e2⟩
/-- a value that is True or False, as a test -/
theorem y_val {m : Mo L Bool} (h : PE X e (tE K L tBool m)) (he : ∀ whole, isTrue e X.env whole = (do let v ← whole; standAt e.pos; holding [v] (truthy v)) := by intro _; rfl) : PT X e (tC K L m) := by
  refine pt_weak (pt_val h he) fun σ H Q ⟨F, B, ρ, ω, k, o, st, e1, q⟩ => ?_
  exact ⟨F, B, ρ, ω, k, o, st, e1, fun B' v H' x ρ' s st' r e2 => ⟨x, r, q B' H' x ρ' s st' e2⟩⟩
theorem y_un {op : UnaryOp} {r : V → Hp → VK → Prop} {α γ : Type} {Ta : Ty α} {Tc : Ty γ} {g : α → γ} {ma : Mo L α} (ho : UnR X (unaryOp op) r) (h : Op1 K r Ta Tc fun x => some (g x)) (ha : PE X a (tE K L Ta ma)) :
    PE X (.UnaryOp op a pos) (tE K L Tc fun ω ρ k => ma ω ρ fun x ρ' => k (g x) ρ') := by
  refine pe_weak (pe_un ho ha) fun σ H Q ⟨F, B, ρ, ω, k, o, st, e1, q⟩ => ?_
  exact ⟨F, B, ρ, ω, _, o, st, e1, fun B' v H' x ρ' s st' r1 e2 => h st'.sb r1 rfl fun B2 H2 u gr ru => q B2 u H2 _ ρ' (s.trans gr.b) (st'.grow gr) ru e2⟩
theorem y_ix {r : R2} {α β γ : Type} {Ta : Ty α} {Tb : Ty β} {Tc : Ty γ} {g : α → β → Option γ} {ma : Mo L α} {mb : Mo L β} (hr : IxR X r) (h : Op2 K r Ta Tb Tc g) (ha : PE X a (tE K L Ta ma)) (hb : PE X b (tE K L Tb mb)) (hs : PlainIx b := by intro _ _; rfl) :
    PE X (.Subscript a b pos) (tE K L Tc (bin2 ma mb g)) := pe_weak (pe_ix hr ha hb hs) fun σ H Q w => bin_fin h w
/-- at a written place -/
theorem y_ixN {r : R2} {α γ : Type} {Ta : Ty α} {Tc : Ty γ} {i : Int} {j : Nat} {p : Pos} {g : α → γ} {ma : Mo L α} (hr : IxR X r) (h : Op2 K r Ta tInt Tc fun x y => if y = i then some (g x) else none) (ha : PE X a (tE K L Ta ma)) (hs : PlainIx (.Constant (.int i) j p) := by intro _ _; rfl) :
    PE X (.Subscript a (.Constant (.int i) j p) pos) (tE K L Tc fun ω ρ k => ma ω ρ fun x ρ' => k (g x) ρ') := by
  refine pe_weak (y_ix hr h ha y_int hs) fun σ H Q ⟨F, B, ρ, ω, k, o, st, e1, q⟩ => ?_
  refine ⟨F, B, ρ, ω, k, o, st, ?_, q⟩
  show ma ω ρ (fun x ρ1 => (if i = i then some (g x) else none).bind fun z => k z ρ1) = some o
  rw [show (fun x ρ1 => (if i = i then some (g x) else none).bind fun z => k z ρ1) = fun x ρ1 => k (g x) ρ1 from by
    funext x ρ1
    rw [if_pos rfl]
    rfl]
  exact e1

/-! ### tests -/
theorem y_and1 {ma : Mo L Bool} (ha : PT X a (tC K L ma)) : PW X (.BoolOp .And [a] pos) (tC K L ma) := pw_and1 ha
theorem y_or1 {ma : Mo L Bool} (ha : PT X a (tC K L ma)) : PW X (.BoolOp .Or [a] pos) (tC K L ma) := pw_or1 ha
/-- both; the second is asked only if the first holds. What follows is said once -/
abbrev andM (ma mb : Mo L Bool) : Mo L Bool := fun ω ρ k => (ma _ ρ fun t ρ1 => if t = true then mb _ ρ1 fun u ρ2 => some (u, ρ2) else some (false, ρ1)).bind fun p => k p.1 p.2
abbrev orM (ma mb : Mo L Bool) : Mo L Bool := fun ω ρ k => (ma _ ρ fun t ρ1 => if t = true then some (true, ρ1) else mb _ ρ1 fun u ρ2 => some (u, ρ2)).bind fun p => k p.1 p.2
theorem y_and {rest : List Expr} {ma mb : Mo L Bool} (ha : PT X a (tC K L ma)) (hb : PW X (.BoolOp .And (b :: rest) pos) (tC K L mb)) : PW X (.BoolOp .And (a :: b :: rest) pos) (tC K L (andM ma mb)) := by
  refine pw_weak (pw_and ha hb) fun σ H Q ⟨F, B, ρ, ω, k, o, st, e1, q⟩ => ?_
  obtain ⟨⟨u, ρ2⟩, e2, e3⟩ := bind_some e1
  refine ⟨F, B, ρ, _, _, _, st, e2, fun B' H' x ρ1 s st' e4 => ?_⟩
  cases x with
  | true => exact ⟨F, B', ρ1, _, _, _, st', e4, fun B2 H2 x2 ρ2 s2 st2 e5 => by cases e5; exact q B2 H2 _ _ (s.trans s2) st2 e3⟩
  | false =>
    cases e4
    exact q B' H' _ _ s st' e3
theorem y_or {rest : List Expr} {ma mb : Mo L Bool} (ha : PT X a (tC K L ma)) (hb : PW X (.BoolOp .Or (b :: rest) pos) (tC K L mb)) : PW X (.BoolOp .Or (a :: b :: rest) pos) (tC K L (orM ma mb)) := by
  refine pw_weak (pw_or ha hb) fun σ H Q ⟨F, B, ρ, ω, k, o, st, e1, q⟩ => ?_
  obtain ⟨⟨u, ρ2⟩, e2, e3⟩ := bind_some e1
  refine ⟨F, B, ρ, _, _, _, st, e2, fun B' H' x ρ1 s st' e4 => ?_⟩
  cases x with
  | false => exact ⟨F, B', ρ1, _, _, _, st', e4, fun B2 H2 x2 ρ2 s2 st2 e5 => by cases e5; exact q B2 H2 _ _ (s.trans s2) st2 e3⟩
  | true =>
    cases e4
    exact q B' H' _ _ s st' e3
/-- .. where neither can fail nor change anything: as Bools -/
def PureM (m : Mo L Bool) (f : Env L → Bool) : Prop := ∀ (ω : Type) (ρ : Env L) (k : Bool → Env L → Option ω), m ω ρ k = k (f ρ) ρ
theorem y_andP {rest : List Expr} {ma mb : Mo L Bool} {f g : Env L → Bool} (pa : PureM ma f) (pb : PureM mb g) (ha : PT X a (tC K L ma)) (hb : PW X (.BoolOp .And (b :: rest) pos) (tC K L mb)) : PW X (.BoolOp .And (a :: b :: rest) pos) (tC K L fun _ ρ k => k (f ρ && g ρ) ρ) := by
  refine pw_weak (y_and ha hb) fun σ H Q ⟨F, B, ρ, ω, k, o, st, e1, q⟩ => ⟨F, B, ρ, ω, k, o, st, ?_, q⟩
  show (ma _ ρ fun t ρ1 => if t = true then mb _ ρ1 fun u ρ2 => some (u, ρ2) else some (false, ρ1)).bind (fun p => k p.1 p.2) = some o
  rw [pa, pb]
  have e1 : k (f ρ && g ρ) ρ = some o := e1
  cases h : f ρ <;> rw [h] at e1 <;> exact e1
theorem y_orP {rest : List Expr} {ma mb : Mo L Bool} {f g : Env L → Bool} (pa : PureM ma f) (pb : PureM mb g) (ha : PT X a (tC K L ma)) (hb : PW X (.BoolOp .Or (b :: rest) pos) (tC K L mb)) : PW X (.BoolOp .Or (a :: b :: rest) pos) (tC K L fun _ ρ k => k (f ρ || g ρ) ρ) := by
  refine pw_weak (y_or ha hb) fun σ H Q ⟨F, B, ρ, ω, k, o, st, e1, q⟩ => ⟨F, B, ρ, ω, k, o, st, ?_, q⟩
  show (ma _ ρ fun t ρ1 => if t = true then some (true, ρ1) else mb _ ρ1 fun u ρ2 => some (u, ρ2)).bind (fun p => k p.1 p.2) = some o
  rw [pa, pb]
  have e1 : k (f ρ || g ρ) ρ = some o := e1
  cases h : f ρ <;> rw [h] at e1 <;> exact e1
abbrev notM (ma : Mo L Bool) : Mo L Bool := fun ω ρ k => ma ω ρ fun t ρ' => k (!t) ρ'
theorem y_not {ma : Mo L Bool} (ha : PT X a (tC K L ma)) : PT X (.UnaryOp .Not a pos) (tC K L (notM ma)) := by
  refine pt_weak (pt_not ha) fun σ H Q ⟨F, B, ρ, ω, k, o, st, e1, q⟩ => ?_
  exact ⟨F, B, ρ, ω, _, o, st, e1, fun B' H' x ρ' s st' e2 => q B' H' _ _ s st' e2⟩
theorem y_ifE {α : Type} {T : Ty α} {mc : Mo L Bool} {ma mb : Mo L α} (hc : PT X c (tC K L mc)) (ha : PE X a (tE K L T ma)) (hb : PE X b (tE K L T mb)) :
    PE X (.IfExp c a b pos) (tE K L T fun ω ρ k => mc ω ρ fun t ρ' => (if t = true then ma _ ρ' fun x ρ2 => some (x, ρ2) else mb _ ρ' fun x ρ2 => some (x, ρ2)).bind fun p => k p.1 p.2) := by
  refine pe_weak (pe_ifExp hc ha hb) fun σ H Q ⟨F, B, ρ, ω, k, o, st, e1, q⟩ => ?_
  refine ⟨F, B, ρ, ω, _, o, st, e1, fun B' H' t ρ' s st' e2 => ?_⟩
  obtain ⟨⟨x, ρ3⟩, e3, e4⟩ := bind_some e2
  cases t with
  | true => exact ⟨F, B', ρ', _, _, _, st', e3, fun B2 v H2 x2 ρ2 s2 st2 r2 e5 => by cases e5; exact q B2 v H2 _ _ (s.trans s2) st2 r2 e4⟩
  | false => exact ⟨F, B', ρ', _, _, _, st', e3, fun B2 v H2 x2 ρ2 s2 st2 r2 e5 => by cases e5; exact q B2 v H2 _ _ (s.trans s2) st2 r2 e4⟩
/-- .. where the branches can neither fail nor change anything -/
theorem y_ifP {α : Type} {T : Ty α} {mc : Mo L Bool} {f g : Env L → α} (hc : PT X c (tC K L mc)) (ha : PE X a (tE K L T fun _ ρ k => k (f ρ) ρ)) (hb : PE X b (tE K L T fun _ ρ k => k (g ρ) ρ)) :
    PE X (.IfExp c a b pos) (tE K L T fun ω ρ k => mc ω ρ fun t ρ' => k (if t = true then f ρ' else g ρ') ρ') := by
  refine pe_weak (y_ifE hc ha hb) fun σ H Q ⟨F, B, ρ, ω, k, o, st, e1, q⟩ => ⟨F, B, ρ, ω, k, o, st, ?_, q⟩
  show mc ω ρ (fun t ρ' => (if t = true then some (f ρ', ρ') else some (g ρ', ρ')).bind fun p => k p.1 p.2) = some o
  rw [show (fun t ρ' => (if t = true then some (f ρ', ρ') else some (g ρ', ρ')).bind fun p => k p.1 p.2) = fun t ρ' => k (if t = true then f ρ' else g ρ') ρ' from by
    funext t ρ'
    cases t <;> rfl]
  exact e1
/-- and, or, not as values -/
theorem y_vone {op : BoolOp} {ma : Mo L Bool} (ha : PE X a (tE K L tBool ma)) : PE X (.BoolOp op [a] pos) (tE K L tBool ma) := pe_one ha
theorem y_vand {rest : List Expr} {ma mb : Mo L Bool} (ha : PE X a (tE K L tBool ma)) (hb : PE X (.BoolOp .And (b :: rest) pos) (tE K L tBool mb)) : PE X (.BoolOp .And (a :: b :: rest) pos) (tE K L tBool (andM ma mb)) := by
  refine pe_weak (pe_and ha hb) fun σ H Q ⟨F, B, ρ, ω, k, o, st, e1, q⟩ => ?_
  obtain ⟨⟨u, ρ2⟩, e2, e3⟩ := bind_some e1
  refine ⟨F, B, ρ, _, _, _, st, e2, fun B' v H' x ρ1 s st' r e4 => ⟨x, r, ?_⟩⟩
  cases x with
  | true => exact ⟨F, B', ρ1, _, _, _, st', e4, fun B2 v2 H2 x2 ρ2 s2 st2 r2 e5 => by cases e5; exact q B2 v2 H2 _ _ (s.trans s2) st2 r2 e3⟩
  | false =>
    cases e4
    exact q B' _ H' _ _ s st' rfl e3
theorem y_vor {rest : List Expr} {ma mb : Mo L Bool} (ha : PE X a (tE K L tBool ma)) (hb : PE X (.BoolOp .Or (b :: rest) pos) (tE K L tBool mb)) : PE X (.BoolOp .Or (a :: b :: rest) pos) (tE K L tBool (orM ma mb)) := by
  refine pe_weak (pe_or ha hb) fun σ H Q ⟨F, B, ρ, ω, k, o, st, e1, q⟩ => ?_
  obtain ⟨⟨u, ρ2⟩, e2, e3⟩ := bind_some e1
  refine ⟨F, B, ρ, _, _, _, st, e2, fun B' v H' x ρ1 s st' r e4 => ⟨x, r, ?_⟩⟩
  cases x with
  | false => exact ⟨F, B', ρ1, _, _, _, st', e4, fun B2 v2 H2 x2 ρ2 s2 st2 r2 e5 => by cases e5; exact q B2 v2 H2 _ _ (s.trans s2) st2 r2 e3⟩
  | true =>
    cases e4
    exact q B' _ H' _ _ s st' rfl e3
theorem y_vnot {ma : Mo L Bool} (ha : PE X a (tE K L tBool ma)) : PE X (.UnaryOp .Not a pos) (tE K L tBool (notM ma)) := by
  refine pe_weak (pe_not ha) fun σ H Q ⟨F, B, ρ, ω, k, o, st, e1, q⟩ => ?_
  exact ⟨F, B, ρ, ω, _, o, st, e1, fun B' v H' x ρ' s st' r e2 => ⟨x, r, q B' _ H' _ _ s st' rfl e2⟩⟩
/-- a op b op' c -/
abbrev chainM {α β γ : Type} (g : α → β → Bool) (g' : β → γ → Bool) (ma : Mo L α) (mb : Mo L β) (mc : Mo L γ) : Mo L Bool := fun ω ρ k => ma ω ρ fun x ρ1 => mb ω ρ1 fun y ρ2 => (if g x y = true then mc _ ρ2 fun z ρ3 => some (g' y z, ρ3) else some (false, ρ2)).bind fun p => k p.1 p.2
theorem y_chain {op op' : CmpOp} {r r' : R2} {α β γ : Type} {Ta : Ty α} {Tb : Ty β} {Tc : Ty γ} {g : α → β → Bool} {g' : β → γ → Bool} {ma : Mo L α} {mb : Mo L β} {mc : Mo L γ} (ho : OpR X (compareOp op) r) (ho' : OpR X (compareOp op') r') (h : Op2 K r Ta Tb tBool fun x y => some (g x y)) (h' : Op2 K r' Tb Tc tBool fun x y => some (g' x y))
    (ha : PE X a (tE K L Ta ma)) (hb : PE X b (tE K L Tb mb)) (hc : PE X c (tE K L Tc mc)) (hm : lastMarks [op, op'] [b, c] = false := by with_unfolding_all rfl) :
    PE X (.Compare a [op, op'] [b, c] pos) (tE K L tBool (chainM g g' ma mb mc)) := by
  refine pe_weak (pe_chain ho ho' ha hb hc hm) fun σ H Q ⟨F, B, ρ, ω, k, o, st, e1, q⟩ => ?_
  refine ⟨F, B, ρ, ω, _, o, st, e1, fun B1 v H1 x1 ρ1 s1 st1 r1 e2 => ⟨F, B1, ρ1, ω, _, o, st1, e2, fun B2 w H2 x2 ρ2 s2 st2 r2 e3 => ?_⟩⟩
  obtain ⟨⟨t, ρ3⟩, e4, e5⟩ := bind_some e3
  refine h st2.sb (Ta.mono s2 r1) r2 rfl fun B3 H3 u gr ru => ⟨_, ru, ?_⟩
  have st3 := st2.grow gr
  have s3 := (s1.trans s2).trans gr.b
  cases hg : g x1 x2 with
  | false =>
    rw [hg] at e4
    cases e4
    exact q B3 _ H3 _ _ s3 st3 rfl e5
  | true =>
    rw [hg] at e4
    exact ⟨F, B3, ρ2, _, _, _, st3, e4, fun B4 v4 H4 x4 ρ4 s4 st4 r4 e6 => by
      cases e6
      exact h' st4.sb (Tb.mono (gr.b.trans s4) r2) r4 rfl fun B5 H5 u5 gr5 ru5 => q B5 u5 H5 _ _ ((s3.trans s4).trans gr5.b) (st4.grow gr5) ru5 e5⟩
theorem y_chainT {op op' : CmpOp} {r r' : R2} {α β γ : Type} {Ta : Ty α} {Tb : Ty β} {Tc : Ty γ} {g : α → β → Bool} {g' : β → γ → Bool} {ma : Mo L α} {mb : Mo L β} {mc : Mo L γ} (ho : OpR X (compareOp op) r) (ho' : OpR X (compareOp op') r') (h : Op2 K r Ta Tb tBool fun x y => some (g x y)) (h' : Op2 K r' Tb Tc tBool fun x y => some (g' x y))
    (ha : PE X a (tE K L Ta ma)) (hb : PE X b (tE K L Tb mb)) (hc : PE X c (tE K L Tc mc)) (hm : lastMarks [op, op'] [b, c] = false := by with_unfolding_all rfl) :
    PT X (.Compare a [op, op'] [b, c] pos) (tC K L (chainM g g' ma mb mc)) := by
  refine pt_weak (pt_chain ho ho' ha hb hc hm) fun σ H Q ⟨F, B, ρ, ω, k, o, st, e1, q⟩ => ?_
  refine ⟨F, B, ρ, ω, _, o, st, e1, fun B1 v H1 x1 ρ1 s1 st1 r1 e2 => ⟨F, B1, ρ1, ω, _, o, st1, e2, fun B2 w H2 x2 ρ2 s2 st2 r2 e3 => ?_⟩⟩
  obtain ⟨⟨t, ρ3⟩, e4, e5⟩ := bind_some e3
  refine h st2.sb (Ta.mono s2 r1) r2 rfl fun B3 H3 u gr ru => ⟨_, ru, ?_⟩
  have st3 := st2.grow gr
  have s3 := (s1.trans s2).trans gr.b
  cases hg : g x1 x2 with
  | false =>
    rw [hg] at e4
    cases e4
    exact ⟨_, rfl, q B3 H3 _ _ s3 st3 e5⟩
  | true =>
    rw [hg] at e4
    exact ⟨F, B3, ρ2, _, _, _, st3, e4, fun B4 v4 H4 x4 ρ4 s4 st4 r4 e6 => by
      cases e6
      exact h' st4.sb (Tb.mono (gr.b.trans s4) r2) r4 rfl fun B5 H5 u5 gr5 ru5 => ⟨_, ru5, q B5 H5 _ _ ((s3.trans s4).trans gr5.b) (st4.grow gr5) e5⟩⟩

/-! ### arguments, displays, calls -/
theorem a_nil : PA X [] (tAr K L rNil fun _ ρ k => k () ρ) := by
  refine pa_weak pa_nil fun σ H Q ⟨F, B, ρ, ω, k, o, st, e1, q⟩ => ?_
  exact q B [] H () ρ (Sub.refl B) st rfl e1
theorem a_one {α : Type} {T : Ty α} {m : Mo L α} (h : PE X e (tE K L T m)) (hs : starEach [e] X.env = (false, eval e X.env) :: starEach [] X.env := by rfl) : PA X [e] (tAr K L (rOne T) m) := by
  refine pa_weak (pa_cons h pa_nil hs) fun σ H Q ⟨F, B, ρ, ω, k, o, st, e1, q⟩ => ?_
  exact ⟨F, B, ρ, ω, k, o, st, e1, fun B' v H' x ρ' s st' r e2 => q B' [v] H' x ρ' s st' ⟨v, rfl, r⟩ e2⟩
theorem a_cons {α β : Type} {T : Ty α} {R : Tys β} {es : List Expr} {m : Mo L α} {m2 : Mo L β} (h : PE X e (tE K L T m)) (h2 : PA X es (tAr K L R m2)) (hs : starEach (e :: es) X.env = (false, eval e X.env) :: starEach es X.env := by rfl) :
    PA X (e :: es) (tAr K L (rCons T R) fun ω ρ k => m ω ρ fun x ρ1 => m2 ω ρ1 fun y ρ2 => k (x, y) ρ2) := by
  refine pa_weak (pa_cons h h2 hs) fun σ H Q ⟨F, B, ρ, ω, k, o, st, e1, q⟩ => ?_
  exact ⟨F, B, ρ, ω, _, o, st, e1, fun B1 v H1 x ρ1 s1 st1 r1 e2 => ⟨F, B1, ρ1, ω, _, o, st1, e2, fun B2 vs H2 y ρ2 s2 st2 r2 e3 => q B2 (v :: vs) H2 _ _ (s1.trans s2) st2 ⟨v, vs, rfl, T.mono s2 r1, r2⟩ e3⟩⟩
/-- items of one type -/
theorem a_nilA {α : Type} {T : Ty α} : PA X [] (tAr K L (rLen T 0) fun _ ρ k => k [] ρ) := by
  refine pa_weak pa_nil fun σ H Q ⟨F, B, ρ, ω, k, o, st, e1, q⟩ => ?_
  exact q B [] H [] ρ (Sub.refl B) st ⟨.nil, rfl⟩ e1
theorem a_consA {α : Type} {T : Ty α} {n : Nat} {es : List Expr} {m : Mo L α} {m2 : Mo L (List α)} (h : PE X e (tE K L T m)) (h2 : PA X es (tAr K L (rLen T n) m2)) (hs : starEach (e :: es) X.env = (false, eval e X.env) :: starEach es X.env := by rfl) :
    PA X (e :: es) (tAr K L (rLen T (n + 1)) fun ω ρ k => m ω ρ fun x ρ1 => m2 ω ρ1 fun y ρ2 => k (x :: y) ρ2) := by
  refine pa_weak (pa_cons h h2 hs) fun σ H Q ⟨F, B, ρ, ω, k, o, st, e1, q⟩ => ?_
  exact ⟨F, B, ρ, ω, _, o, st, e1, fun B1 v H1 x ρ1 s1 st1 r1 e2 => ⟨F, B1, ρ1, ω, _, o, st1, e2, fun B2 vs H2 y ρ2 s2 st2 r2 e3 => q B2 (v :: vs) H2 _ _ (s1.trans s2) st2 ⟨.cons (T.mono s2 r1) r2.1, by show y.length + 1 = n + 1; rw [show y.length = n from r2.2]⟩ e3⟩⟩
theorem y_tup {es : List Expr} {x1} {β : Type} {R : Tys β} {m : Mo L β} (h : PA X es (tAr K L R m)) (hl : ∀ {K B vs x}, R.rep K B vs x → vs.length ≤ sizeLine) : PE X (.Tuple es x1 pos) (tE K L (tTup R) m) := by
  refine pe_weak (pe_tup h) fun σ H Q ⟨F, B, ρ, ω, k, o, st, e1, q⟩ => ?_
  refine ⟨F, B, ρ, ω, k, o, st, e1, fun B' vs H' x ρ' s st' r e2 => ⟨hl r, fun p hp => ?_⟩⟩
  have g := Grow.new (o := HO.tup vs) st'.sb hp
  exact q _ _ _ x ρ' (s.trans g.b) (st'.grow g) ⟨p, vs, rfl, .inl (.inl upd_same), R.mono g.b r⟩ e2
theorem rLen.all {α : Type} {T : Ty α} {n : Nat} (hn : n ≤ 16777216) {B vs x} (h : (rLen T n).rep K B vs x) : (rAll T).rep K B vs x := ⟨h.1, by rw [h.2, sizeLine_eq]; exact hn⟩
/-- a tuple of things of one type -/
theorem y_tupA {es : List Expr} {x1} {α : Type} {T : Ty α} {n : Nat} {m : Mo L (List α)} (h : PA X es (tAr K L (rLen T n) m)) (hn : n ≤ 16777216 := by decide) : PE X (.Tuple es x1 pos) (tE K L (tAll T) m) := by
  refine pe_weak (pe_tup h) fun σ H Q ⟨F, B, ρ, ω, k, o, st, e1, q⟩ => ?_
  refine ⟨F, B, ρ, ω, k, o, st, e1, fun B' vs H' x ρ' s st' r e2 => ?_⟩
  have r := rLen.all hn r
  refine ⟨by rw [Paired.length r.1]; exact r.2, fun p hp => ?_⟩
  have g := Grow.new (o := HO.tup vs) st'.sb hp
  exact q _ _ _ x ρ' (s.trans g.b) (st'.grow g) ⟨p, vs, rfl, .inl (.inl upd_same), (rAll T).mono g.b r⟩ e2
theorem y_lst {es : List Expr} {α : Type} {T : Ty α} {n : Nat} {m : Mo L (List α)} (h : PA X es (tAr K L (rLen T n) m)) (hn : n ≤ 16777216 := by decide) : PE X (.List es pos) (tO K L (oLst T) m) := by
  refine pe_weak (pe_lst h) fun σ H Q ⟨F, B, ρ, ω, k, o, st, e1, q⟩ => ?_
  refine ⟨F, B, ρ, ω, k, o, st, e1, fun B' vs H' x ρ' s st' r e2 => ?_⟩
  have r := rLen.all hn r
  refine ⟨by rw [Paired.length r.1]; exact r.2, fun p hp => ?_⟩
  obtain ⟨own, S, h1, h2, h3, h4⟩ := st'.made (o := HO.lst vs) hp
  exact q B' p _ _ own x ρ' s S h1 ⟨vs, rfl, r⟩ h2 h3 h4 e2
theorem hl1 {α : Type} {T : Ty α} {K B vs x} (h : (rOne T).rep K B vs x) : vs.length ≤ sizeLine := by
  obtain ⟨v, rfl, _⟩ := h
  rw [sizeLine_eq, List.length_singleton]; decide
theorem hl2 {α β : Type} {T : Ty α} {U : Ty β} {K B vs x} (h : (rCons T (rOne U)).rep K B vs x) : vs.length ≤ sizeLine := by
  rw [rl2 h, sizeLine_eq]; decide
theorem hl3 {α β γ : Type} {T : Ty α} {U : Ty β} {W : Ty γ} {K B vs x} (h : (rCons T (rCons U (rOne W))).rep K B vs x) : vs.length ≤ sizeLine := by
  rw [rl3 h, sizeLine_eq]; decide
theorem hl4 {α β γ δ : Type} {T : Ty α} {U : Ty β} {W : Ty γ} {Z : Ty δ} {K B vs x} (h : (rCons T (rCons U (rCons W (rOne Z)))).rep K B vs x) : vs.length ≤ sizeLine := by
  rw [rl4 h, sizeLine_eq]; decide
theorem hlA {α : Type} {T : Ty α} {K B vs x} (h : (rAll T).rep K B vs x) : vs.length ≤ sizeLine := by rw [Paired.length h.1]; exact h.2
theorem hl0 {K B vs x} (h : rNil.rep K B vs x) : vs.length ≤ sizeLine := by
  obtain rfl := h
  exact Nat.zero_le _
variable {x : Str} {p : Pos} {es : List Expr}
theorem cN_fin {r : List V → Hp → VK → Prop} {β γ : Type} {R : Tys β} {Tc : Ty γ} {g : β → Option γ} {m : Mo L β} (h : OpN K r R Tc g) {σ : L2.St} {H : Hp} {Q : VK} (w : tE K L Tc (fun ω ρ k => m ω ρ fun x ρ' => (g x).bind fun z => k z ρ') σ H Q) : tCB r (tAr K L R m) σ H Q := by
  obtain ⟨F, B, ρ, ω, k, o, st, e1, q⟩ := w
  refine ⟨F, B, ρ, ω, _, o, st, e1, fun B' vs H' x ρ' s st' r1 e2 => ?_⟩
  obtain ⟨z, e3, e4⟩ := bind_some e2
  exact h st'.sb r1 e3 fun B2 H2 u gr ru => q B2 u H2 _ _ (s.trans gr.b) (st'.grow gr) ru e4
theorem cN_finO {r : List V → Hp → VK → Prop} {β γ : Type} {R : Tys β} {O : OTy γ} {g : β → Option γ} {m : Mo L β} (h : OpNO K r R O g) {σ : L2.St} {H : Hp} {Q : VK} (w : tO K L O (fun ω ρ k => m ω ρ fun x ρ' => (g x).bind fun z => k z ρ') σ H Q) : tCB r (tAr K L R m) σ H Q := by
  obtain ⟨F, B, ρ, ω, k, o, st, e1, q⟩ := w
  refine ⟨F, B, ρ, ω, _, o, st, e1, fun B' vs H' x ρ' s st' r1 e2 => ?_⟩
  obtain ⟨z, e3, e4⟩ := bind_some e2
  refine h st'.sb r1 e3 fun p u hp ro => ?_
  obtain ⟨own, S, h1, h2, h3, h4⟩ := st'.made (o := u) hp
  exact q B' p u _ own _ _ s S h1 ro h2 h3 h4 e4
theorem y_cB {id : String} {r : List V → Hp → VK → Prop} {β γ : Type} {R : Tys β} {Tc : Ty γ} {g : β → Option γ} {m : Mo L β} (hc : CallR X (.builtin id) r) (h : OpN K r R Tc g) (hg : Gl X x) (hm : X.mg x = none) (hv : bootBuiltins x = some (.builtin id)) (ha : PA X (e :: es) (tAr K L R m)) (hn : x ≠ "__name__" := by decide) (hdb : (x == ("__debug__" : Str)) = false := by decide)
    (he : starEach (e :: es) X.env = (false, eval e X.env) :: starEach es X.env := by rfl) (hpl : (backTo pos (starEach es X.env)).any (·.1) = false := by rfl) : PE X (.Call (.Name x p) (e :: es) [] pos) (tE K L Tc fun ω ρ k => m ω ρ fun x ρ' => (g x).bind fun z => k z ρ') :=
  pe_weak (pe_callB hc hg hm hv ha hn hdb he hpl) fun σ H Q w => cN_fin h w
theorem y_cBO {id : String} {r : List V → Hp → VK → Prop} {β γ : Type} {R : Tys β} {O : OTy γ} {g : β → Option γ} {m : Mo L β} (hc : CallR X (.builtin id) r) (h : OpNO K r R O g) (hg : Gl X x) (hm : X.mg x = none) (hv : bootBuiltins x = some (.builtin id)) (ha : PA X (e :: es) (tAr K L R m)) (hn : x ≠ "__name__" := by decide) (hdb : (x == ("__debug__" : Str)) = false := by decide)
    (he : starEach (e :: es) X.env = (false, eval e X.env) :: starEach es X.env := by rfl) (hpl : (backTo pos (starEach es X.env)).any (·.1) = false := by rfl) : PE X (.Call (.Name x p) (e :: es) [] pos) (tO K L O fun ω ρ k => m ω ρ fun x ρ' => (g x).bind fun z => k z ρ') :=
  pe_weak (pe_callB hc hg hm hv ha hn hdb he hpl) fun σ H Q w => cN_finO h w
theorem y_cT {T : String} {r : List V → Hp → VK → Prop} {β γ : Type} {R : Tys β} {Tc : Ty γ} {g : β → Option γ} {m : Mo L β} (hc : CallR X (.type T) r) (h : OpN K r R Tc g) (hg : Gl X x) (hm : X.mg x = none) (hv : bootBuiltins x = some (.type T)) (ha : PA X (e :: es) (tAr K L R m)) (hn : x ≠ "__name__" := by decide) (hdb : (x == ("__debug__" : Str)) = false := by decide)
    (he : starEach (e :: es) X.env = (false, eval e X.env) :: starEach es X.env := by rfl) (hpl : (backTo pos (starEach es X.env)).any (·.1) = false := by rfl) : PE X (.Call (.Name x p) (e :: es) [] pos) (tE K L Tc fun ω ρ k => m ω ρ fun x ρ' => (g x).bind fun z => k z ρ') :=
  pe_weak (pe_callTy hc hg hm hv ha hn hdb he hpl) fun σ H Q w => cN_fin h w
theorem y_cTO {T : String} {r : List V → Hp → VK → Prop} {β γ : Type} {R : Tys β} {O : OTy γ} {g : β → Option γ} {m : Mo L β} (hc : CallR X (.type T) r) (h : OpNO K r R O g) (hg : Gl X x) (hm : X.mg x = none) (hv : bootBuiltins x = some (.type T)) (ha : PA X (e :: es) (tAr K L R m)) (hn : x ≠ "__name__" := by decide) (hdb : (x == ("__debug__" : Str)) = false := by decide)
    (he : starEach (e :: es) X.env = (false, eval e X.env) :: starEach es X.env := by rfl) (hpl : (backTo pos (starEach es X.env)).any (·.1) = false := by rfl) : PE X (.Call (.Name x p) (e :: es) [] pos) (tO K L O fun ω ρ k => m ω ρ fun x ρ' => (g x).bind fun z => k z ρ') :=
  pe_weak (pe_callTy hc hg hm hv ha hn hdb he hpl) fun σ H Q w => cN_finO h w
variable {lv : Nat} {f : Addr} {fd : FuncData} {ps : List Str}
theorem y_call {β γ : Type} {R : Tys β} {T : Ty γ} {fm : β → Option γ} {m : Mo L β} (G : FnOk X.prog X.w X.K X.mg X.base CX0 lv f fd ps (spP K R T fm)) (hr : Room lv X.A) (hg : Gl X x) (hm : X.mg x = some (.ref f)) (hk : PySem.W.keepIn X.K (.ref f) = true) (hb : Binds X.K fd ps [])
    (ha : PA X (e :: es) (tAr K L R m)) (hdb : (x == ("__debug__" : Str)) = false := by decide) (he : starEach (e :: es) X.env = (false, eval e X.env) :: starEach es X.env := by rfl) (hpl : (backTo pos (starEach es X.env)).any (·.1) = false := by rfl) :
    PE X (.Call (.Name x p) (e :: es) [] pos) (tE K L T fun ω ρ k => m ω ρ fun x ρ' => (fm x).bind fun z => k z ρ') := by
  refine pe_weak (pe_call G hr hg hm hk hb .nil pass0 ha hdb he hpl) fun σ H Q ⟨F, B, ρ, ω, k, o, st, e1, q⟩ => ?_
  refine ⟨F, B, ρ, ω, _, o, st, e1, fun B' vs H' x ρ' s st' r1 e2 => ?_⟩
  obtain ⟨z, e3, e4⟩ := bind_some e2
  show spP K R T fm (vs ++ []) H' Q E0
  rw [List.append_nil]
  exact ⟨B', x, _, st'.sb, r1, e3, fun B2 v H2 gr rv => q B2 v H2 _ _ (s.trans gr.b) (st'.grow gr) rv e4⟩
theorem y_callO {β γ : Type} {R : Tys β} {O : OTy γ} {fm : β → Option γ} {m : Mo L β} (G : FnOk X.prog X.w X.K X.mg X.base CX0 lv f fd ps (spO K R O fm)) (hr : Room lv X.A) (hg : Gl X x) (hm : X.mg x = some (.ref f)) (hk : PySem.W.keepIn X.K (.ref f) = true) (hb : Binds X.K fd ps [])
    (ha : PA X (e :: es) (tAr K L R m)) (hdb : (x == ("__debug__" : Str)) = false := by decide) (he : starEach (e :: es) X.env = (false, eval e X.env) :: starEach es X.env := by rfl) (hpl : (backTo pos (starEach es X.env)).any (·.1) = false := by rfl) :
    PE X (.Call (.Name x p) (e :: es) [] pos) (tO K L O fun ω ρ k => m ω ρ fun x ρ' => (fm x).bind fun z => k z ρ') := by
  refine pe_weak (pe_call G hr hg hm hk hb .nil pass0 ha hdb he hpl) fun σ H Q ⟨F, B, ρ, ω, k, oo, st, e1, q⟩ => ?_
  refine ⟨F, B, ρ, ω, _, oo, st, e1, fun B' vs H' x ρ' s st' r1 e2 => ?_⟩
  obtain ⟨z, e3, e4⟩ := bind_some e2
  show spO K R O fm (vs ++ []) H' Q E0
  rw [List.append_nil]
  refine ⟨B', x, _, st'.sb, r1, e3, fun B2 q2 o H2 gr h1 h2 h3 ro => ?_⟩
  obtain ⟨own, S⟩ := st'
  have f := S.fresh h1
  exact q B2 q2 o H2 own _ _ (s.trans gr.b) (S.grow gr) h3 ro h2 f.2.1 f.2.2 e4
/-- the state behind a call that changed an own object of a slot -/
theorem StO.growM {F : Fr} {own : List Addr} {B H B' H' : Hp} {ρ : Env L} {σ} (S : StO K F L own B ρ σ H) {δ : Type} {O : OTy δ} {fo : Option Addr} {n : Nat} (i : Ix (lOwn O fo) n L) {d : Addr} {o' : HO} {x' : δ} (e : σ[n]? = some (some (.ref d))) (hl : d ∈ own)
    (g : GrowM d B H B' H') (h : H' d = some o') (hb : B' d = none) (r : O.rep K B' o' x') : StO K F L own B' (i.set x' ρ) σ H' := by
  have r1 := Rel.setc (l := d) r i e S.nd (S.rel.frame g.b fun _ _ => rfl)
  refine ⟨S.base.trans g.b, g.s, fun a u m q => ?_, fun a h0 h1 => ?_, r1.frame (Sub.refl _) fun a m => ?_, S.nd, fun a m => ⟨?_, (S.own a m).2⟩⟩
  · have q1 := S.keep a u m q
    refine g.h a u (fun z => ?_) q1
    subst z
    rcases (S.own a hl).2 with y | y
    · rw [q] at y; cases y
    · exact m y
  · rcases g.old a h1 with z | z
    · exact S.old a h0 z
    · by_cases hm : a ∈ F.M
      · exact .inr hm
      · cases q : F.H0 a with
        | none => exact absurd q h0
        | some u => rw [S.keep a u hm q] at z; cases z
  · by_cases z : a = d
    · subst z; rw [upd_same]; exact h
    · rw [upd_ne z]
      cases q : H a with
      | none => exact absurd q (S.rel.there a m)
      | some u => exact g.h a u z q
  · by_cases z : a = d
    · subst z; exact hb
    · cases q : B' a with
      | none => rfl
      | some u =>
        rcases g.old a (by rw [q]; exact fun y => nomatch y) with y | y
        · exact absurd (S.own a m).1 y
        · exact absurd y (S.rel.there a m)
/-- f(draws, ..): an own object at a name, then other arguments -/
theorem y_callM {β γ δ : Type} {O : OTy δ} {fo : Option Addr} {R : Tys β} {T : Ty γ} {fm : δ → β → Option (γ × δ)} {m : Mo L β} {n : Nat} {y : Str} {p2 : Pos} (i : Ix (lOwn O fo) n L) (hN : X.N[n]? = some y) (hv : Vis X.env.scope y)
    (G : FnOk X.prog X.w X.K X.mg X.base CX0 lv f fd ps (spM K O R T fm)) (hr : Room lv X.A) (hg : Gl X x) (hm : X.mg x = some (.ref f)) (hk : PySem.W.keepIn X.K (.ref f) = true) (hb : Binds X.K fd ps [])
    (ha : PA X es (tAr K L R m)) (hdb : (x == ("__debug__" : Str)) = false := by decide) (he : starEach (.Name y p2 :: es) X.env = (false, eval (.Name y p2) X.env) :: starEach es X.env := by rfl) (hpl : (backTo pos (starEach es X.env)).any (·.1) = false := by rfl) (hd2 : (y == ("__debug__" : Str)) = false := by decide) (hcd : (y == ("__classdict__" : Str)) = false := by decide) :
    PE X (.Call (.Name x p) (.Name y p2 :: es) [] pos) (tE K L T fun ω ρ k => m ω ρ fun x ρ' => (fm (i.get ρ') x).bind fun z => k z.1 (i.set z.2 ρ')) := by
  refine pe_weak (pe_call G hr hg hm hk hb .nil pass0 (pa_cons (pe_var hN hv hd2 hcd) ha he) hdb he hpl) fun σ H Q ⟨F, B, ρ, ω, k, oo, st, e1, q⟩ => ?_
  obtain ⟨own0, S0⟩ := id st
  obtain ⟨d, _, w1, _, _⟩ := S0.rel.own i
  refine ⟨.ref d, w1, F, B, ρ, ω, _, oo, st, e1, fun B' vs H' x ρ1 s st' r1 e2 => ?_⟩
  obtain ⟨z, e4, e5⟩ := bind_some e2
  obtain ⟨own, S⟩ := st'
  obtain ⟨d', o, w2, w3, w4, w5, _⟩ := S.rel.own i
  have ed : d' = d := by
    rw [w1] at w2
    simp at w2
    exact w2.symm
  subst ed
  show spM K O R T fm ((.ref d' :: vs) ++ []) H' Q E0
  rw [List.append_nil]
  refine ⟨B', d', vs, o, _, x, z, rfl, S.sub, w4, (S.own d' w3).1, w5, r1, e4, fun B2 v o' H2 gr h1 h2 ro rv => ?_⟩
  exact q B2 v H2 _ _ (s.trans gr.b) ⟨own, S.growM i w2 w3 gr h1 h2 ro⟩ rv e5
theorem y_callMO {β γ δ : Type} {O : OTy δ} {fo : Option Addr} {R : Tys β} {Po : OTy γ} {fm : δ → β → Option (γ × δ)} {m : Mo L β} {n : Nat} {y : Str} {p2 : Pos} (i : Ix (lOwn O fo) n L) (hN : X.N[n]? = some y) (hv : Vis X.env.scope y)
    (G : FnOk X.prog X.w X.K X.mg X.base CX0 lv f fd ps (spMO K O R Po fm)) (hr : Room lv X.A) (hg : Gl X x) (hm : X.mg x = some (.ref f)) (hk : PySem.W.keepIn X.K (.ref f) = true) (hb : Binds X.K fd ps [])
    (ha : PA X es (tAr K L R m)) (hdb : (x == ("__debug__" : Str)) = false := by decide) (he : starEach (.Name y p2 :: es) X.env = (false, eval (.Name y p2) X.env) :: starEach es X.env := by rfl) (hpl : (backTo pos (starEach es X.env)).any (·.1) = false := by rfl) (hd2 : (y == ("__debug__" : Str)) = false := by decide) (hcd : (y == ("__classdict__" : Str)) = false := by decide) :
    PE X (.Call (.Name x p) (.Name y p2 :: es) [] pos) (tO K L Po fun ω ρ k => m ω ρ fun x ρ' => (fm (i.get ρ') x).bind fun z => k z.1 (i.set z.2 ρ')) := by
  refine pe_weak (pe_call G hr hg hm hk hb .nil pass0 (pa_cons (pe_var hN hv hd2 hcd) ha he) hdb he hpl) fun σ H Q ⟨F, B, ρ, ω, k, oo, st, e1, q⟩ => ?_
  obtain ⟨own0, S0⟩ := id st
  obtain ⟨d, _, w1, _, _⟩ := S0.rel.own i
  refine ⟨.ref d, w1, F, B, ρ, ω, _, oo, st, e1, fun B' vs H' x ρ1 s st' r1 e2 => ?_⟩
  obtain ⟨z, e4, e5⟩ := bind_some e2
  obtain ⟨own, S⟩ := st'
  obtain ⟨d', o, w2, w3, w4, w5, _⟩ := S.rel.own i
  have ed : d' = d := by
    rw [w1] at w2
    simp at w2
    exact w2.symm
  subst ed
  show spMO K O R Po fm ((.ref d' :: vs) ++ []) H' Q E0
  rw [List.append_nil]
  refine ⟨B', d', vs, o, _, x, z, rfl, S.sub, w4, (S.own d' w3).1, w5, r1, e4, fun B2 q2 u o' H2 gr h1 h2 ro h3 h4 h5 h6 rv => ?_⟩
  have fr := S.fresh h3
  exact q B2 q2 u H2 own _ _ (s.trans gr.b) (S.growM i w2 w3 gr h1 h2 ro) h6 rv h5 fr.2.1 fr.2.2 e5
end
end L3

/-! L3: what single operations do, by types. -/
namespace L3
open PySem PySem.Spec PyProof.Rows L2

/-! ### ints -/
section
variable {K : Fg}
theorem gr0 {B H : Hp} (s : Sub B H) : Grow B H B H := Grow.refl s
theorem o_add : Op2 K (rI0 fun i j => .int (i + j)) tInt tInt tInt fun x y => some (x + y) := fun s hx hy e q => by
  cases hx; cases hy; cases e
  exact ⟨_, _, rfl, rfl, q _ _ _ (gr0 s) rfl⟩
theorem o_sub : Op2 K (rI0 fun i j => .int (i - j)) tInt tInt tInt fun x y => some (x - y) := fun s hx hy e q => by
  cases hx; cases hy; cases e
  exact ⟨_, _, rfl, rfl, q _ _ _ (gr0 s) rfl⟩
/-- products of numbers that are not huge -/
def mulOk (x y : Int) : Bool := x.natAbs < 2 ^ 64 || y.natAbs < 2 ^ 64 || (x.natAbs < 2 ^ 40000 && y.natAbs < 2 ^ 40000)
noncomputable def mulC (x y : Int) : Option Int := blk (if mulOk x y = true then some (x * y) else none)
theorem mulC_eq (x y : Int) : mulC x y = if mulOk x y = true then some (x * y) else none := blk_eq _
theorem mulOk_w {x y : Int} (h : mulOk x y = true) : CMul x y ∨ CMulW x y := by
  unfold mulOk at h
  simp only [Bool.or_eq_true, Bool.and_eq_true, decide_eq_true_eq] at h
  rcases h with (h | h) | h
  · exact .inl (.inl ⟨by omega, by omega⟩)
  · exact .inl (.inr ⟨by omega, by omega⟩)
  · exact .inr (wide_mul h.1 h.2 (by decide) (by decide) (by decide))
def rMulA : R2 := fun x y H Q => rI CMul (fun i j => .int (i * j)) x y H Q ∨ rI CMulW (fun i j => .int (i * j)) x y H Q
theorem op_mulA {X : Cx} : OpR X (binaryOp .Mult) rMulA := op_mul.or op_mulW
theorem o_mul : Op2 K rMulA tInt tInt tInt mulC := fun s hx hy e q => by
  cases hx; cases hy
  rw [mulC_eq] at e
  split at e
  · rename_i h
    cases e
    rcases mulOk_w h with h | h
    · exact .inl ⟨_, _, rfl, rfl, h, q _ _ _ (gr0 s) rfl⟩
    · exact .inr ⟨_, _, rfl, rfl, h, q _ _ _ (gr0 s) rfl⟩
  · cases e
def modC (x y : Int) : Option Int := if 0 < y then some (x % y) else none
theorem o_mod : Op2 K (rI (fun _ j => 0 < j) fun i j => .int (i % j)) tInt tInt tInt modC := fun s hx hy e q => by
  cases hx; cases hy
  unfold modC at e
  split at e
  · rename_i h
    cases e
    exact ⟨_, _, rfl, rfl, h, q _ _ _ (gr0 s) rfl⟩
  · cases e
noncomputable def divC (x y : Int) : Option Int := blk (if 0 < y ∧ y.natAbs < 2 ^ 9000 then some (x / y) else none)
theorem divC_eq (x y : Int) : divC x y = if 0 < y ∧ y.natAbs < 2 ^ 9000 then some (x / y) else none := blk_eq _
theorem o_div : Op2 K (rI CDivW fun i j => .int (i / j)) tInt tInt tInt divC := fun s hx hy e q => by
  cases hx; cases hy
  rw [divC_eq] at e
  split at e
  · rename_i h
    cases e
    exact ⟨_, _, rfl, rfl, wide_div h.1 h.2 (by decide) (by decide), q _ _ _ (gr0 s) rfl⟩
  · cases e
noncomputable def powC (x y : Int) : Option Int := blk (if 0 ≤ y ∧ y ≤ 1000000 ∧ x.natAbs < 2 ^ 64 then some (x ^ y.toNat) else none)
theorem powC_eq (x y : Int) : powC x y = if 0 ≤ y ∧ y ≤ 1000000 ∧ x.natAbs < 2 ^ 64 then some (x ^ y.toNat) else none := blk_eq _
theorem o_pow : Op2 K (rI CPow fun i j => .int (i ^ j.toNat)) tInt tInt tInt powC := fun s hx hy e q => by
  cases hx; cases hy
  rw [powC_eq] at e
  split at e
  · rename_i h
    cases e
    exact ⟨_, _, rfl, rfl, h, q _ _ _ (gr0 s) rfl⟩
  · cases e
theorem o_neg : Op1 K (rU fun i => .int (-i)) tInt tInt fun x => some (-x) := fun s hx e q => by
  cases hx; cases e
  exact ⟨_, rfl, q _ _ _ (gr0 s) rfl⟩
theorem o_lt : Op2 K (rI0 fun i j => .bl (decide (i < j))) tInt tInt tBool fun x y => some (decide (x < y)) := fun s hx hy e q => by
  cases hx; cases hy; cases e
  exact ⟨_, _, rfl, rfl, q _ _ _ (gr0 s) rfl⟩
theorem o_le : Op2 K (rI0 fun i j => .bl (decide (i ≤ j))) tInt tInt tBool fun x y => some (decide (x ≤ y)) := fun s hx hy e q => by
  cases hx; cases hy; cases e
  exact ⟨_, _, rfl, rfl, q _ _ _ (gr0 s) rfl⟩
theorem o_gt : Op2 K (rI0 fun i j => .bl (decide (j < i))) tInt tInt tBool fun x y => some (decide (y < x)) := fun s hx hy e q => by
  cases hx; cases hy; cases e
  exact ⟨_, _, rfl, rfl, q _ _ _ (gr0 s) rfl⟩
theorem o_ge : Op2 K (rI0 fun i j => .bl (decide (j ≤ i))) tInt tInt tBool fun x y => some (decide (y ≤ x)) := fun s hx hy e q => by
  cases hx; cases hy; cases e
  exact ⟨_, _, rfl, rfl, q _ _ _ (gr0 s) rfl⟩
theorem o_eqI : Op2 K rEq tInt tInt tBool fun x y => some (decide (x = y)) := fun {B H x y z v w Q} s hx hy e q => by
  cases hx; cases hy; cases e
  exact ⟨rfl, q _ _ _ (gr0 s) (by rw [show decide (V.int x = V.int y) = decide (x = y) by simp]; rfl)⟩
theorem o_neI : Op2 K rNe tInt tInt tBool fun x y => some (!decide (x = y)) := fun {B H x y z v w Q} s hx hy e q => by
  cases hx; cases hy; cases e
  exact ⟨rfl, q _ _ _ (gr0 s) (by rw [show decide (V.int x = V.int y) = decide (x = y) by simp]; rfl)⟩
theorem o_eqB : Op2 K rEq tBool tBool tBool fun x y => some (decide (x = y)) := fun {B H x y z v w Q} s hx hy e q => by
  cases hx; cases hy; cases e
  exact ⟨rfl, q _ _ _ (gr0 s) (by rw [show decide (V.bl x = V.bl y) = decide (x = y) by simp]; rfl)⟩
theorem o_neB : Op2 K rNe tBool tBool tBool fun x y => some (!decide (x = y)) := fun {B H x y z v w Q} s hx hy e q => by
  cases hx; cases hy; cases e
  exact ⟨rfl, q _ _ _ (gr0 s) (by rw [show decide (V.bl x = V.bl y) = decide (x = y) by simp]; rfl)⟩
theorem o_eqS : Op2 K rEq tStr tStr tBool fun x y => some (decide (x = y)) := fun {B H x y z v w Q} s hx hy e q => by
  cases hx; cases hy; cases e
  exact ⟨rfl, q _ _ _ (gr0 s) (by rw [show decide (V.str x = V.str y) = decide (x = y) by simp]; rfl)⟩
theorem o_neS : Op2 K rNe tStr tStr tBool fun x y => some (!decide (x = y)) := fun {B H x y z v w Q} s hx hy e q => by
  cases hx; cases hy; cases e
  exact ⟨rfl, q _ _ _ (gr0 s) (by rw [show decide (V.str x = V.str y) = decide (x = y) by simp]; rfl)⟩
/-- an int that may be None against one that may be -/
theorem o_eqOI : Op2 K rEq (tOpt tInt) (tOpt tInt) tBool fun x y => some (decide (x = y)) := fun {B H x y z v w Q} s hx hy e q => by
  cases e
  cases x with
  | none =>
    have hx : v = .non := hx
    subst hx
    cases y with
    | none =>
      have hy : w = .non := hy
      subst hy
      exact ⟨rfl, q _ _ _ (gr0 s) (by simp; rfl)⟩
    | some y =>
      have hy : w = .int y := hy.1
      subst hy
      exact ⟨rfl, q _ _ _ (gr0 s) (by simp; rfl)⟩
  | some x =>
    have hx : v = .int x := hx.1
    subst hx
    cases y with
    | none =>
      have hy : w = .non := hy
      subst hy
      exact ⟨rfl, q _ _ _ (gr0 s) (by simp; rfl)⟩
    | some y =>
      have hy : w = .int y := hy.1
      subst hy
      exact ⟨rfl, q _ _ _ (gr0 s) (by rw [show decide (V.int x = V.int y) = decide (some x = some y) by simp]; rfl)⟩
theorem o_neOI : Op2 K rNe (tOpt tInt) (tOpt tInt) tBool fun x y => some (!decide (x = y)) := fun {B H x y z v w Q} s hx hy e q => by
  cases e
  cases x with
  | none =>
    have hx : v = .non := hx
    subst hx
    cases y with
    | none =>
      have hy : w = .non := hy
      subst hy
      exact ⟨rfl, q _ _ _ (gr0 s) (by simp; rfl)⟩
    | some y =>
      have hy : w = .int y := hy.1
      subst hy
      exact ⟨rfl, q _ _ _ (gr0 s) (by simp; rfl)⟩
  | some x =>
    have hx : v = .int x := hx.1
    subst hx
    cases y with
    | none =>
      have hy : w = .non := hy
      subst hy
      exact ⟨rfl, q _ _ _ (gr0 s) (by simp; rfl)⟩
    | some y =>
      have hy : w = .int y := hy.1
      subst hy
      exact ⟨rfl, q _ _ _ (gr0 s) (by rw [show decide (V.int x = V.int y) = decide (some x = some y) by simp]; rfl)⟩
/-- x is None -/
theorem o_isN {α : Type} {T : Ty α} : Op2 K (fun x y H Q => y = .non ∧ Q (.bl (decide (x = .non))) H) (tOpt T) (tOpt T) tBool fun x y => if y.isNone = true then some x.isNone else none := fun {B H x y z v w Q} s hx hy e q => by
  cases y with
  | some y => cases e
  | none =>
    have hw : w = .non := hy
    cases e
    refine ⟨hw, q _ _ _ (gr0 s) ?_⟩
    cases x with
    | none =>
      have hv : v = .non := hx
      subst hv
      rfl
    | some x =>
      have hv : v ≠ .non := hx.2
      show V.bl (decide (v = .non)) = .bl false
      rw [decide_eq_false hv]
theorem o_notN {α : Type} {T : Ty α} : Op2 K (fun x y H Q => y = .non ∧ Q (.bl (!decide (x = .non))) H) (tOpt T) (tOpt T) tBool fun x y => if y.isNone = true then some x.isSome else none := fun {B H x y z v w Q} s hx hy e q => by
  cases y with
  | some y => cases e
  | none =>
    have hw : w = .non := hy
    cases e
    refine ⟨hw, q _ _ _ (gr0 s) ?_⟩
    cases x with
    | none =>
      have hv : v = .non := hx
      subst hv
      rfl
    | some x =>
      have hv : v ≠ .non := hx.2
      show V.bl (!decide (v = .non)) = .bl true
      rw [decide_eq_false hv]
      rfl

/-! ### built-ins of one or two ints -/
theorem c_int : OpN K (fun xs H Q => (∃ i, xs = [.int i] ∧ Q (.int i) H) ∨ ∃ k, xs = [.bl k] ∧ Q (.int (if k then 1 else 0)) H) (rOne tInt) tInt fun x => some x := fun s h e q => by
  obtain ⟨v, rfl, r⟩ := h
  cases r; cases e
  exact .inl ⟨_, rfl, q _ _ _ (gr0 s) rfl⟩
def b01 (b : Bool) : Int := if b = true then 1 else 0
theorem c_intB : OpN K (fun xs H Q => (∃ i, xs = [.int i] ∧ Q (.int i) H) ∨ ∃ k, xs = [.bl k] ∧ Q (.int (if k then 1 else 0)) H) (rOne tBool) tInt fun x => some (b01 x) := fun s h e q => by
  obtain ⟨v, rfl, r⟩ := h
  cases r; cases e
  exact .inr ⟨_, rfl, q _ _ _ (gr0 s) rfl⟩
theorem c_abs : OpN K (fun xs H Q => ∃ i, xs = [.int i] ∧ Q (.int (if i < 0 then -i else i)) H) (rOne tInt) tInt fun x => some (x.natAbs : Int) := fun {B H y z vs Q} s h e q => by
  obtain ⟨v, rfl, r⟩ := h
  cases r; cases e
  refine ⟨_, rfl, q _ _ _ (gr0 s) ?_⟩
  show V.int _ = V.int _
  congr 1
  split <;> omega
theorem c_max2 : OpN K (fun xs H Q => ∃ i j, xs = [.int i, .int j] ∧ Q (.int (if j > i then j else i)) H) (rCons tInt (rOne tInt)) tInt fun p => some (max p.1 p.2) := fun {B H y z vs Q} s h e q => by
  obtain ⟨v, _, rfl, r, w, rfl, r2⟩ := h
  cases r; cases r2; cases e
  refine ⟨_, _, rfl, q _ _ _ (gr0 s) ?_⟩
  show V.int _ = V.int _
  congr 1
  split <;> omega
theorem c_min2 : OpN K (fun xs H Q => ∃ i j, xs = [.int i, .int j] ∧ Q (.int (if j < i then j else i)) H) (rCons tInt (rOne tInt)) tInt fun p => some (min p.1 p.2) := fun {B H y z vs Q} s h e q => by
  obtain ⟨v, _, rfl, r, w, rfl, r2⟩ := h
  cases r; cases r2; cases e
  refine ⟨_, _, rfl, q _ _ _ (gr0 s) ?_⟩
  show V.int _ = V.int _
  congr 1
  split <;> omega
end

/-! ### lists and tuples: pairs of lists -/
section
variable {α β : Type} {F : α → β → Prop}
theorem P_get : ∀ {xs : List α} {ys : List β} {i : Nat} {y : β}, Paired F xs ys → ys[i]? = some y → ∃ x, xs[i]? = some x ∧ F x y
  | _, _, _, _, .nil, h => by simp at h
  | _, _, 0, _, .cons r _, h => by simp at h; subst h; exact ⟨_, rfl, r⟩
  | _, _, i + 1, _, .cons _ t, h => by
    obtain ⟨x, e, r⟩ := P_get t (by simpa using h)
    exact ⟨x, by simpa using e, r⟩
theorem P_app : ∀ {xs us : List α} {ys ws : List β}, Paired F xs ys → Paired F us ws → Paired F (xs ++ us) (ys ++ ws)
  | _, _, _, _, .nil, s => s
  | _, _, _, _, .cons r t, s => .cons r (P_app t s)
theorem P_take : ∀ {xs : List α} {ys : List β} (n : Nat), Paired F xs ys → Paired F (xs.take n) (ys.take n)
  | _, _, 0, _ => .nil
  | _, _, _ + 1, .nil => .nil
  | _, _, n + 1, .cons r t => .cons r (P_take n t)
theorem P_drop : ∀ {xs : List α} {ys : List β} (n : Nat), Paired F xs ys → Paired F (xs.drop n) (ys.drop n)
  | _, _, 0, h => h
  | _, _, _ + 1, .nil => .nil
  | _, _, n + 1, .cons _ t => P_drop n t
theorem P_set : ∀ {xs : List α} {ys : List β} (n : Nat) {x y}, Paired F xs ys → F x y → Paired F (xs.set n x) (ys.set n y)
  | _, _, _, _, _, .nil, _ => .nil
  | _, _, 0, _, _, .cons _ t, h => .cons h t
  | _, _, n + 1, _, _, .cons r t, h => .cons r (P_set n t h)
theorem P_rev {xs : List α} {ys : List β} (h : Paired F xs ys) : Paired F xs.reverse ys.reverse := by
  induction h with
  | nil => exact .nil
  | cons r _ ih =>
    rw [List.reverse_cons, List.reverse_cons]
    exact P_app ih (.cons r .nil)
theorem P_erase : ∀ {xs : List α} {ys : List β} (n : Nat), Paired F xs ys → Paired F (xs.eraseIdx n) (ys.eraseIdx n)
  | _, _, _, .nil => .nil
  | _, _, 0, .cons _ t => t
  | _, _, n + 1, .cons r t => .cons r (P_erase n t)
theorem P_rep {x : α} {y : β} (h : F x y) : ∀ n : Nat, Paired F (List.replicate n x) (List.replicate n y)
  | 0 => .nil
  | n + 1 => .cons h (P_rep h n)
theorem P_map {γ δ : Type} {G : γ → δ → Prop} {f : α → γ} {g : β → δ} (k : ∀ a b, F a b → G (f a) (g b)) : ∀ {xs : List α} {ys : List β}, Paired F xs ys → Paired G (xs.map f) (ys.map g)
  | _, _, .nil => .nil
  | _, _, .cons r t => .cons (k _ _ r) (P_map k t)
theorem P_ints : ∀ {vs : List V} {xs : List Int}, Paired (fun v x => v = V.int x) vs xs → vs = xs.map V.int
  | _, _, .nil => rfl
  | _, _, .cons r t => by rw [r, P_ints t]; rfl
theorem P_bls : ∀ {vs : List V} {xs : List Bool}, Paired (fun v x => v = V.bl x) vs xs → vs = xs.map V.bl
  | _, _, .nil => rfl
  | _, _, .cons r t => by rw [r, P_bls t]; rfl
theorem P_strs : ∀ {vs : List V} {xs : List Str}, Paired (fun v x => v = V.str x) vs xs → vs = xs.map V.str
  | _, _, .nil => rfl
  | _, _, .cons r t => by rw [r, P_strs t]; rfl
theorem P_ofInts : ∀ (xs : List Int), Paired (fun v x => v = V.int x) (xs.map V.int) xs
  | [] => .nil
  | _ :: r => .cons rfl (P_ofInts r)
end

/-- the item at i, from the end if below 0 -/
def getI {α : Type} (xs : List α) (i : Int) : Option α := if 0 ≤ i then xs[i.toNat]? else if -(xs.length : Int) ≤ i then xs[(i + xs.length).toNat]? else none
theorem atI_getI {α : Type} (xs : List α) (i : Int) : atI xs i = getI xs i := by
  unfold atI ixN getI
  by_cases h : 0 ≤ i
  · rw [if_pos h, if_pos h]
    by_cases h2 : i < xs.length
    · rw [if_pos h2]; rfl
    · rw [if_neg h2]
      exact (List.getElem?_eq_none_iff.mpr (by omega)).symm
  · rw [if_neg h, if_neg h]
    by_cases h2 : -(xs.length : Int) ≤ i
    · rw [if_pos h2, if_pos h2]; rfl
    · rw [if_neg h2, if_neg h2]; rfl
theorem P_getI {α β : Type} {F : α → β → Prop} {xs : List α} {ys : List β} {i : Int} {y : β} (p : Paired F xs ys) (h : getI ys i = some y) : ∃ x, atI xs i = some x ∧ F x y := by
  rw [atI_getI]
  unfold getI at h ⊢
  rw [Paired.length p]
  by_cases h0 : 0 ≤ i
  · rw [if_pos h0] at h ⊢; exact P_get p h
  · rw [if_neg h0] at h ⊢
    by_cases h2 : -(ys.length : Int) ≤ i
    · rw [if_pos h2] at h ⊢; exact P_get p h
    · rw [if_neg h2] at h; cases h
section
variable {K : Fg} {α : Type} {T : Ty α}
theorem ix_c : Op2 K (rIxL K) (tScr T) tInt T getI := fun {B H x y z v w Q} s hx hy e q => by
  obtain ⟨a, vs, rfl, sq, r⟩ := hx
  cases hy
  obtain ⟨u, e2, r2⟩ := P_getI r.1 e
  exact ⟨a, vs, _, u, rfl, rfl, s.seqL sq, e2, q _ _ _ (gr0 s) r2⟩
theorem lstScr {B v} {x : List α} (h : (tLst T).rep K B v x) : (tScr T).rep K B v x := let ⟨a, vs, e, sq, r⟩ := h; ⟨a, vs, e, .inl (.inl sq), r⟩
theorem ix_l : Op2 K (rIxL K) (tLst T) tInt T getI := fun s hx hy e q => ix_c s (lstScr hx) hy e q
theorem ix_t : Op2 K (rIxT K) (tAll T) tInt T getI := fun {B H x y z v w Q} s hx hy e q => by
  obtain ⟨a, vs, rfl, sq, r⟩ := hx
  cases hy
  obtain ⟨u, e2, r2⟩ := P_getI r.1 e
  exact ⟨a, vs, _, u, rfl, rfl, s.seqT sq, e2, q _ _ _ (gr0 s) r2⟩
/-- a place of a tuple of unlike things: the place is written -/
def Nth {β : Type} (R : Tys β) (i : Int) {γ : Type} (U : Ty γ) (g : β → γ) : Prop := ∀ {B vs x}, R.rep K B vs x → ∃ v, atI vs i = some v ∧ U.rep K B v (g x)
theorem ix_n {β γ : Type} {R : Tys β} {U : Ty γ} {i : Int} {g : β → γ} (n : Nth (K := K) R i U g) : Op2 K (rIxT K) (tTup R) tInt U fun x j => if j = i then some (g x) else none := fun {B H x y z v w Q} s hx hy e q => by
  obtain ⟨a, vs, rfl, sq, r⟩ := hx
  cases hy
  try dsimp only at e
  split at e
  · rename_i h
    subst h
    cases e
    obtain ⟨u, e2, r2⟩ := n r
    exact ⟨a, vs, _, u, rfl, rfl, s.seqT sq, e2, q _ _ _ (gr0 s) r2⟩
  · cases e
variable {β γ δ : Type} {U : Ty β} {W : Ty γ} {Z : Ty δ} {R : Tys γ}
theorem n0 {R : Tys β} : Nth (K := K) (rCons T R) 0 T fun x => x.1 := fun ⟨v, r, e, h, k⟩ => ⟨v, by rw [e]; exact atI_nat (j := 0) rfl, h⟩
theorem n1 : Nth (K := K) (rCons T (rOne U)) 1 U fun x => x.2 := fun ⟨v, r, e, h, w, e2, k⟩ => ⟨w, by rw [e, e2]; exact atI_nat (j := 1) rfl, k⟩
theorem n1' : Nth (K := K) (rCons T (rCons U R)) 1 U fun x => x.2.1 := fun ⟨v, r, e, h, w, r2, e2, k, _⟩ => ⟨w, by rw [e, e2]; exact atI_nat (j := 1) rfl, k⟩
theorem n2 : Nth (K := K) (rCons T (rCons U (rOne W))) 2 W fun x => x.2.2 := fun ⟨v, r, e, h, w, r2, e2, k, z, e3, l⟩ => ⟨z, by rw [e, e2, e3]; exact atI_nat (j := 2) rfl, l⟩
theorem n2' {R : Tys δ} : Nth (K := K) (rCons T (rCons U (rCons W R))) 2 W fun x => x.2.2.1 := fun ⟨v, r, e, h, w, r2, e2, k, z, r3, e3, l, _⟩ => ⟨z, by rw [e, e2, e3]; exact atI_nat (j := 2) rfl, l⟩
theorem n3 : Nth (K := K) (rCons T (rCons U (rCons W (rOne Z)))) 3 Z fun x => x.2.2.2 := fun ⟨v, r, e, h, w, r2, e2, k, z, r3, e3, l, y, e4, m⟩ => ⟨y, by rw [e, e2, e3, e4]; exact atI_nat (j := 3) rfl, m⟩

/-! ### len, list, tuple -/
theorem c_lenC : OpN K (fun xs H Q => ∃ p ys, xs = [.ref p] ∧ (SqL K H p ys ∨ SqT K H p ys) ∧ Q (.int ys.length) H) (rOne (tScr T)) tInt fun x => some (x.length : Int) := fun s h e q => by
  obtain ⟨v, rfl, a, vs, rfl, sq, r⟩ := h
  cases e
  exact ⟨a, vs, rfl, .inl (s.seqL sq), q _ _ _ (gr0 s) (by rw [Paired.length r.1]; rfl)⟩
theorem c_lenL : OpN K (fun xs H Q => ∃ p ys, xs = [.ref p] ∧ (SqL K H p ys ∨ SqT K H p ys) ∧ Q (.int ys.length) H) (rOne (tLst T)) tInt fun x => some (x.length : Int) := fun s ⟨v, e1, r⟩ e q => c_lenC s ⟨v, e1, lstScr r⟩ e q
theorem c_lenT : OpN K (fun xs H Q => ∃ p ys, xs = [.ref p] ∧ (SqL K H p ys ∨ SqT K H p ys) ∧ Q (.int ys.length) H) (rOne (tAll T)) tInt fun x => some (x.length : Int) := fun s h e q => by
  obtain ⟨v, rfl, a, vs, rfl, sq, r⟩ := h
  cases e
  exact ⟨a, vs, rfl, .inr (s.seqT sq), q _ _ _ (gr0 s) (by rw [Paired.length r.1]; rfl)⟩
/-- len of a tuple of a written number of things -/
theorem c_lenN {β : Type} {R : Tys β} {n : Nat} (hl : ∀ {K B vs x}, R.rep K B vs x → vs.length = n) : OpN K (fun xs H Q => ∃ p ys, xs = [.ref p] ∧ (SqL K H p ys ∨ SqT K H p ys) ∧ Q (.int ys.length) H) (rOne (tTup R)) tInt fun _ => some (n : Int) := fun s h e q => by
  obtain ⟨v, rfl, a, vs, rfl, sq, r⟩ := h
  cases e
  exact ⟨a, vs, rfl, .inr (s.seqT sq), q _ _ _ (gr0 s) (by rw [hl r]; rfl)⟩
theorem c_lenS : OpN K (fun xs H Q => ∃ z, xs = [.str z] ∧ z.length ≤ sizeLine ∧ Q (.int z.length) H) (rOne tStr) tInt fun x => if x.length ≤ 16777216 then some (x.length : Int) else none := fun s h e q => by
  obtain ⟨v, rfl, r⟩ := h
  cases r
  try dsimp only at e
  split at e
  · rename_i h
    cases e
    exact ⟨_, rfl, by rw [sizeLine_eq]; exact h, q _ _ _ (gr0 s) rfl⟩
  · cases e
theorem c_listC : OpNO K (fun xs H Q => ∃ p ys, xs = [.ref p] ∧ (SqL K H p ys ∨ SqT K H p ys) ∧ ∀ l, H l = none → Q (.ref l) (upd H l (.lst ys))) (rOne (tScr T)) (oLst T) fun x => some x := fun s h e q => by
  obtain ⟨v, rfl, a, vs, rfl, sq, r⟩ := h
  cases e
  exact ⟨a, vs, rfl, .inl (s.seqL sq), fun l hl => q l _ hl ⟨vs, rfl, r⟩⟩
theorem c_list : OpNO K (fun xs H Q => ∃ p ys, xs = [.ref p] ∧ (SqL K H p ys ∨ SqT K H p ys) ∧ ∀ l, H l = none → Q (.ref l) (upd H l (.lst ys))) (rOne (tLst T)) (oLst T) fun x => some x := fun s ⟨v, e1, r⟩ e q => c_listC s ⟨v, e1, lstScr r⟩ e q
theorem c_listT : OpNO K (fun xs H Q => ∃ p ys, xs = [.ref p] ∧ (SqL K H p ys ∨ SqT K H p ys) ∧ ∀ l, H l = none → Q (.ref l) (upd H l (.lst ys))) (rOne (tAll T)) (oLst T) fun x => some x := fun s h e q => by
  obtain ⟨v, rfl, a, vs, rfl, sq, r⟩ := h
  cases e
  exact ⟨a, vs, rfl, .inr (s.seqT sq), fun l hl => q l _ hl ⟨vs, rfl, r⟩⟩
theorem c_tupleC : OpN K (fun xs H Q => ∃ p ys, xs = [.ref p] ∧ ((SqL K H p ys ∧ ∀ l, H l = none → Q (.ref l) (upd H l (.tup ys))) ∨ (SqT K H p ys ∧ Q (.ref p) H))) (rOne (tScr T)) (tAll T) fun x => some x := fun s h e q => by
  obtain ⟨v, rfl, a, vs, rfl, sq, r⟩ := h
  cases e
  refine ⟨a, vs, rfl, .inl ⟨s.seqL sq, fun l hl => ?_⟩⟩
  have g := Grow.new (o := HO.tup vs) s hl
  exact q _ _ _ g ⟨l, vs, rfl, .inl (.inl upd_same), (rAll T).mono g.b r⟩
theorem c_tuple : OpN K (fun xs H Q => ∃ p ys, xs = [.ref p] ∧ ((SqL K H p ys ∧ ∀ l, H l = none → Q (.ref l) (upd H l (.tup ys))) ∨ (SqT K H p ys ∧ Q (.ref p) H))) (rOne (tLst T)) (tAll T) fun x => some x := fun s ⟨v, e1, r⟩ e q => c_tupleC s ⟨v, e1, lstScr r⟩ e q
theorem c_tupleT : OpN K (fun xs H Q => ∃ p ys, xs = [.ref p] ∧ ((SqL K H p ys ∧ ∀ l, H l = none → Q (.ref l) (upd H l (.tup ys))) ∨ (SqT K H p ys ∧ Q (.ref p) H))) (rOne (tAll T)) (tAll T) fun x => some x := fun s h e q => by
  obtain ⟨v, rfl, a, vs, rfl, sq, r⟩ := h
  cases e
  exact ⟨a, vs, rfl, .inr ⟨s.seqT sq, q _ _ _ (gr0 s) ⟨a, vs, rfl, sq, r⟩⟩⟩

/-! ### + and * -/
def catC {α : Type} (xs ys : List α) : Option (List α) := if xs.length + ys.length ≤ 16777216 then some (xs ++ ys) else none
theorem catC_of {α : Type} {xs ys z : List α} (e : catC xs ys = some z) : xs.length + ys.length ≤ 16777216 ∧ z = xs ++ ys := by
  unfold catC at e
  split at e
  · rename_i h
    cases e
    exact ⟨h, rfl⟩
  · cases e
theorem o_catT : Op2 K (rCatA K) (tAll T) (tAll T) (tAll T) catC := fun {B H x y z v w Q} s hx hy e q => by
  obtain ⟨hz, rfl⟩ := catC_of e
  obtain ⟨a, vs, rfl, sq, r⟩ := hx
  obtain ⟨b, ws, rfl, sq2, r2⟩ := hy
  have hr : (rAll T).rep K B (vs ++ ws) (x ++ y) := ⟨P_app r.1 r2.1, by rw [sizeLine_eq, List.length_append]; exact hz⟩
  refine ⟨a, b, vs, ws, rfl, rfl, s.seqT sq, s.seqT sq2, ?_, fun e1 => ?_, fun _ e2 => ?_, fun _ _ p hp => ?_⟩
  · rw [Paired.length r.1, Paired.length r2.1, sizeLine_eq]; exact hz
  · subst e1
    rw [List.nil_append] at hr
    exact q _ _ _ (gr0 s) ⟨b, ws, rfl, sq2, hr⟩
  · subst e2
    rw [List.append_nil] at hr
    exact q _ _ _ (gr0 s) ⟨a, vs, rfl, sq, hr⟩
  · have g := Grow.new (o := HO.tup (vs ++ ws)) s hp
    exact q _ _ _ g ⟨p, _, rfl, .inl (.inl upd_same), (rAll T).mono g.b hr⟩
theorem o_catL : Op2O K rCat (tLst T) (tLst T) (oLst T) catC := fun {B H x y z v w Q} s hx hy e q => by
  obtain ⟨hz, rfl⟩ := catC_of e
  obtain ⟨a, vs, rfl, sq, r⟩ := hx
  obtain ⟨b, ws, rfl, sq2, r2⟩ := hy
  refine ⟨a, b, vs, ws, rfl, rfl, s _ _ sq, s _ _ sq2, by rw [Paired.length r.1, Paired.length r2.1, sizeLine_eq]; exact hz, fun p hp => q p _ hp ⟨_, rfl, P_app r.1 r2.1, ?_⟩⟩
  rw [sizeLine_eq, List.length_append]; exact hz
theorem P_flat {F : V → α → Prop} {vs : List V} {xs : List α} (h : Paired F vs xs) : ∀ n : Nat, Paired F (List.replicate n vs).flatten (List.replicate n xs).flatten
  | 0 => .nil
  | n + 1 => by
    rw [List.replicate_succ, List.replicate_succ, List.flatten_cons, List.flatten_cons]
    exact P_app h (P_flat h n)
theorem len_flat {α : Type} (xs : List α) : ∀ n : Nat, (List.replicate n xs).flatten.length = xs.length * n
  | 0 => rfl
  | n + 1 => by
    rw [List.replicate_succ, List.flatten_cons, List.length_append, len_flat xs n, Nat.mul_succ]
    omega
/-- [..] * n -/
noncomputable def repC {α : Type} (xs : List α) (n : Int) : Option (List α) := blk (if n < 2 ^ 63 ∧ -(2 ^ 63) ≤ n ∧ xs.length * n.toNat ≤ 16777216 then some (List.replicate n.toNat xs).flatten else none)
theorem repC_eq {α : Type} (xs : List α) (n : Int) : repC xs n = if n < 2 ^ 63 ∧ -(2 ^ 63) ≤ n ∧ xs.length * n.toNat ≤ 16777216 then some (List.replicate n.toNat xs).flatten else none := blk_eq _
theorem o_rep : Op2O K rRep (tLst T) tInt (oLst T) repC := fun {B H x y z v w Q} s hx hy e q => by
  obtain ⟨a, vs, rfl, sq, r⟩ := hx
  cases hy
  rw [repC_eq] at e
  split at e
  · rename_i h
    cases e
    refine ⟨a, _, vs, rfl, rfl, s _ _ sq, h.2.1, h.1, by rw [Paired.length r.1, sizeLine_eq]; exact h.2.2, fun p hp => q p _ hp ⟨_, rfl, P_flat r.1 _, ?_⟩⟩
    rw [len_flat, sizeLine_eq]; exact h.2.2
  · cases e

/-! ### slices -/
def cutI {α : Type} (xs : List α) (lo hi : Option Int) : List α := (xs.drop (HT.sIx xs.length 0 lo)).take (HT.sIx xs.length xs.length hi - HT.sIx xs.length 0 lo)
theorem cutI_len {α : Type} (xs : List α) (lo hi : Option Int) : (cutI xs lo hi).length ≤ xs.length := by
  unfold cutI
  rw [List.length_take, List.length_drop]
  omega
theorem P_cut {F : V → α → Prop} {vs : List V} {xs : List α} (h : Paired F vs xs) (lo hi : Option Int) : Paired F (cutV vs lo hi) (cutI xs lo hi) := by
  unfold cutV cutI
  rw [Paired.length h]
  exact P_take _ (P_drop _ h)
variable {X : Cx} {L : List Loc} {e : Expr} {lo hi : Option Expr} {pos p2 : Pos}
/-- a bound of a slice -/
def tPt (K : Fg) (L : List Loc) (m : Mo L (Option Int)) : TO := fun σ H Q => ∃ (F : Fr) (B : Hp) (ρ : Env L) (ω : Type) (k : Option Int → Env L → Option ω) (o : ω), Stt K F L B ρ σ H ∧ m ω ρ k = some o ∧
  ∀ B' H' x ρ', Sub B B' → Stt K F L B' ρ' σ H' → k x ρ' = some o → Q x H'
theorem po_weak {o : Option Expr} {t t' : TO} (h : PO X o t) (k : ∀ σ H Q, t' σ H Q → t σ H Q) : PO X o t' := ⟨fun pins s σ H Q I q => h.run pins s σ H Q I (k σ H Q q)⟩
theorem p_none : PO X none (tPt K L fun _ ρ k => k none ρ) := by
  refine po_weak po_none fun σ H Q ⟨F, B, ρ, ω, k, o, st, e1, q⟩ => ?_
  exact q B H _ _ (Sub.refl B) st e1
theorem p_some {m : Mo L Int} (h : PE X e (tE K L tInt m)) : PO X (some e) (tPt K L fun ω ρ k => m ω ρ fun x ρ' => k (some x) ρ') := by
  refine po_weak (po_some h) fun σ H Q ⟨F, B, ρ, ω, k, o, st, e1, q⟩ => ?_
  exact ⟨F, B, ρ, ω, _, o, st, e1, fun B' v H' x ρ' s st' r e2 => ⟨x, r, q B' H' _ _ s st' e2⟩⟩
theorem y_slL {m : Mo L (List α)} {ml mh : Mo L (Option Int)} (he : PE X e (tE X.K L (tLst T) m)) (hl : PO X lo (tPt X.K L ml)) (hh : PO X hi (tPt X.K L mh)) :
    PE X (.Subscript e (.Slice lo hi none p2) pos) (tO X.K L (oLst T) fun ω ρ k => m ω ρ fun x ρ1 => ml ω ρ1 fun lo ρ2 => mh ω ρ2 fun hi ρ3 => k (cutI x lo hi) ρ3) := by
  refine pe_weak (pe_slice sl_list he hl hh) fun σ H Q ⟨F, B, ρ, ω, k, o, st, e1, q⟩ => ?_
  refine ⟨F, B, ρ, ω, _, o, st, e1, fun B1 v H1 x1 ρ1 s1 st1 r1 e2 => ⟨F, B1, ρ1, ω, _, o, st1, e2, fun B2 H2 x2 ρ2 s2 st2 e3 => ⟨F, B2, ρ2, ω, _, o, st2, e3, fun B3 H3 x3 ρ3 s3 st3 e4 => ?_⟩⟩⟩
  obtain ⟨a, vs, rfl, sq, r⟩ := (tLst T).mono (s2.trans s3) r1
  refine ⟨a, vs, rfl, .inl (.inl (st3.sb _ _ sq)), fun p hp => ?_⟩
  obtain ⟨own, S, h1, h2, h3, h4⟩ := st3.made (o := HO.lst (cutV vs x2 x3)) hp
  exact q B3 p _ _ own _ _ ((s1.trans s2).trans s3) S h1 ⟨_, rfl, P_cut r.1 _ _, Nat.le_trans (cutI_len _ _ _) r.2⟩ h2 h3 h4 e4
theorem cut_whole {α : Type} {xs : List α} {lo hi : Option Int} (h : HT.sIx xs.length 0 lo = 0 ∧ HT.sIx xs.length xs.length hi = xs.length) : cutI xs lo hi = xs := by
  unfold cutI
  rw [h.1, h.2, List.drop_zero, Nat.sub_zero, List.take_length]
theorem y_slT {m : Mo L (List α)} {ml mh : Mo L (Option Int)} (he : PE X e (tE X.K L (tAll T) m)) (hl : PO X lo (tPt X.K L ml)) (hh : PO X hi (tPt X.K L mh)) :
    PE X (.Subscript e (.Slice lo hi none p2) pos) (tE X.K L (tAll T) fun ω ρ k => m ω ρ fun x ρ1 => ml ω ρ1 fun lo ρ2 => mh ω ρ2 fun hi ρ3 => k (cutI x lo hi) ρ3) := by
  refine pe_weak (pe_slice sl_tupA he hl hh) fun σ H Q ⟨F, B, ρ, ω, k, o, st, e1, q⟩ => ?_
  refine ⟨F, B, ρ, ω, _, o, st, e1, fun B1 v H1 x1 ρ1 s1 st1 r1 e2 => ⟨F, B1, ρ1, ω, _, o, st1, e2, fun B2 H2 x2 ρ2 s2 st2 e3 => ⟨F, B2, ρ2, ω, _, o, st2, e3, fun B3 H3 x3 ρ3 s3 st3 e4 => ?_⟩⟩⟩
  obtain ⟨a, vs, rfl, sq, r⟩ := (tAll T).mono (s2.trans s3) r1
  refine ⟨a, vs, rfl, st3.sb.seqT sq, fun hw => ?_, fun _ p hp => ?_⟩
  · rw [Paired.length r.1] at hw
    have := cut_whole hw
    exact q B3 _ H3 _ _ ((s1.trans s2).trans s3) st3 ⟨a, vs, rfl, sq, by show (rAll T).rep X.K B3 vs (cutI x1 x2 x3); rw [this]; exact r⟩ e4
  · have g := Grow.new (o := HO.tup (cutV vs x2 x3)) st3.sb hp
    exact q _ _ _ _ _ (((s1.trans s2).trans s3).trans g.b) (st3.grow g) ⟨p, _, rfl, .inl (.inl upd_same), (rAll T).mono g.b ⟨P_cut r.1 _ _, Nat.le_trans (cutI_len _ _ _) r.2⟩⟩ e4
end

/-! ### an own list, read and changed -/
section
variable {X : Cx} {L L' Lh : List Loc} {S : RS} {e : Expr} {es : List Expr} {pos cpos apos px : Pos} {α : Type} {T : Ty α} {fo : Option Addr} {n : Nat} {x : Str}
/-- o.m(e, ..), a method that changes the list o: f says what it hands back and the list behind it -/
def OpMet (K : Fg) (r : V → List V → Hp → VK → Prop) {β γ δ : Type} (O : OTy δ) (R : Tys β) (U : Ty γ) (f : δ → β → Option (γ × δ)) : Prop :=
  ∀ {B H l o xs vs y z Q}, Sub B H → H l = some o → O.rep K B o xs → R.rep K B vs y → f xs y = some z → (∀ o' u, O.rep K B o' z.2 → U.rep K B u z.1 → Q u (upd H l o')) → r (.ref l) vs H Q
theorem ownTy {B H : Hp} {K : Fg} {l : Addr} {o : HO} {xs : List α} (h : H l = some o) (r : (oLst T).rep K B o xs) : tyV K "list" (.ref l) H := by
  obtain ⟨vs, rfl, _⟩ := r
  exact .inl ⟨rfl, vs, .inl (.inl h)⟩
theorem y_met {Tn idm : String} {name : Str} {r : V → List V → Hp → VK → Prop} {β γ δ : Type} {O : OTy δ} {R : Tys β} {U : Ty γ} {f : δ → β → Option (γ × δ)} {m : Mo L β} (i : Ix (lOwn O fo) n L) (hN : X.N[n]? = some x) (hv : Vis X.env.scope x)
    (pa : PlainAttrs Tn) (slot : Slot Tn name idm) (hty : typeOf (.builtin idm) = pure (.type "method_descriptor")) (hm : MtR X idm r) (hO : ∀ {B H l o xs}, H l = some o → O.rep X.K B o xs → tyV X.K Tn (.ref l) H) (h : OpMet X.K r O R U f)
    (ha : PA X (e :: es) (tAr X.K L R m)) (hd2 : (x == ("__debug__" : Str)) = false := by decide) (hcd : (x == ("__classdict__" : Str)) = false := by decide)
    (hbase : attributeBase (.Name x px) name X.env (eval (.Name x px) X.env) = eval (.Name x px) X.env := by rfl) (hfew : ((backTo cpos (starEach (e :: es) X.env)).all (fun x => !x.1) && (backToKw cpos (keywordEach [] X.env)).all (fun x => x.1.isSome) && decide ((e :: es).length + ([] : List Keyword).length + (if ([] : List Keyword).isEmpty then 0 else 1) < 30)) = true := by rfl)
    (hline : (apos.endLine == cpos.line) = true := by rfl) (hs : starEach (e :: es) X.env = (false, eval e X.env) :: starEach es X.env := by rfl) (hplain : (backTo cpos (starEach es X.env)).any (·.1) = false := by rfl) :
    PE X (.Call (.Attribute (.Name x px) name apos) (e :: es) [] cpos) (tE X.K L U fun ω ρ k => m ω ρ fun y ρ' => (f (i.get ρ') y).bind fun z => k z.1 (i.set z.2 ρ')) := by
  refine pe_weak (pe_bm pa slot hty hm (pe_var hN hv hd2 hcd) ha hbase hfew hline hs hplain) fun σ H Q ⟨F, B, ρ, ω, k, oo, st, e1, q⟩ => ?_
  obtain ⟨own0, S0⟩ := id st
  obtain ⟨d, o0, w1, _, w3, w4, _⟩ := S0.rel.own i
  refine ⟨.ref d, w1, hO w3 w4, F, B, ρ, ω, _, oo, st, e1, fun B' vs H' y ρ1 s st' r1 e2 => ?_⟩
  obtain ⟨z, e4, e5⟩ := bind_some e2
  obtain ⟨own, S⟩ := st'
  obtain ⟨d', o, v1, v2, v3, v4, _⟩ := S.rel.own i
  have ed : d' = d := by
    rw [w1] at v1
    simp at v1
    exact v1.symm
  subst ed
  exact h S.sub v3 v4 r1 e4 fun o' u ro ru => q B' u _ _ _ s ⟨own, S.setc i v1 v2 ro⟩ ru e5
theorem y_met0 {Tn idm : String} {name : Str} {r : V → List V → Hp → VK → Prop} {γ δ : Type} {O : OTy δ} {U : Ty γ} {f : δ → Unit → Option (γ × δ)} (i : Ix (lOwn O fo) n L) (hN : X.N[n]? = some x) (hv : Vis X.env.scope x)
    (pa : PlainAttrs Tn) (slot : Slot Tn name idm) (hty : typeOf (.builtin idm) = pure (.type "method_descriptor")) (hm : MtR X idm r) (hO : ∀ {B H l o xs}, H l = some o → O.rep X.K B o xs → tyV X.K Tn (.ref l) H) (h : OpMet X.K r O rNil U f)
    (hd2 : (x == ("__debug__" : Str)) = false := by decide) (hcd : (x == ("__classdict__" : Str)) = false := by decide)
    (hbase : attributeBase (.Name x px) name X.env (eval (.Name x px) X.env) = eval (.Name x px) X.env := by rfl) (hline : (apos.endLine == cpos.line) = true := by rfl) :
    PE X (.Call (.Attribute (.Name x px) name apos) [] [] cpos) (tE X.K L U fun _ ρ k => (f (i.get ρ) ()).bind fun z => k z.1 (i.set z.2 ρ)) := by
  refine pe_weak (pe_bm0 pa slot hty hm (pe_var hN hv hd2 hcd) hbase hline) fun σ H Q ⟨F, B, ρ, ω, k, oo, st, e1, q⟩ => ?_
  obtain ⟨z, e4, e5⟩ := bind_some e1
  obtain ⟨own, S⟩ := id st
  obtain ⟨d, o, v1, v2, v3, v4, _⟩ := S.rel.own i
  exact ⟨.ref d, v1, hO v3 v4, h (y := ()) S.sub v3 v4 rfl e4 fun o' u ro ru => q B u _ _ _ (Sub.refl B) ⟨own, S.setc i v1 v2 ro⟩ ru e5⟩
variable {K : Fg}
def appC {α : Type} (xs : List α) (y : α) : Option (Unit × List α) := if xs.length < 16777216 then some ((), xs ++ [y]) else none
theorem m_append : OpMet K rAppend (oLst T) (rOne T) tNon appC := fun {B H l o xs vs y z Q} s h ro r e q => by
  obtain ⟨us, rfl, rp⟩ := ro
  obtain ⟨v, rfl, rv⟩ := r
  unfold appC at e
  split at e
  · rename_i hz
    cases e
    refine ⟨l, us, v, rfl, rfl, h, by rw [Paired.length rp.1, sizeLine_eq]; exact hz, q _ _ ⟨_, rfl, P_app rp.1 (.cons rv .nil), ?_⟩ rfl⟩
    rw [sizeLine_eq, List.length_append, List.length_singleton]
    omega
  · cases e
def popC {α : Type} (xs : List α) (_ : Unit) : Option (α × List α) := xs.getLast?.map fun y => (y, xs.dropLast)
theorem P_dropLast {F : V → α → Prop} {vs : List V} {xs : List α} (h : Paired F vs xs) : Paired F vs.dropLast xs.dropLast := by
  rw [List.dropLast_eq_take, List.dropLast_eq_take, Paired.length h]
  exact P_take _ h
theorem m_pop : OpMet K rPop (oLst T) rNil T popC := fun {B H l o xs vs y z Q} s h ro r e q => by
  obtain ⟨us, rfl, rp⟩ := ro
  obtain rfl : vs = [] := r
  obtain ⟨w, e1, e2⟩ := map_some e
  subst e2
  rw [List.getLast?_eq_getElem?] at e1
  obtain ⟨v, e3, rv⟩ := P_get rp.1 e1
  refine ⟨l, us, v, rfl, rfl, h, by rw [Paired.length rp.1]; exact e3, q _ _ ⟨_, rfl, P_dropLast rp.1, ?_⟩ rv⟩
  rw [List.length_dropLast]
  exact Nat.le_trans (Nat.sub_le _ _) rp.2
def popAtC {α : Type} (xs : List α) (i : Int) : Option (α × List α) := if 0 ≤ i ∧ i < 2 ^ 63 then xs[i.toNat]?.map fun y => (y, xs.eraseIdx i.toNat) else none
theorem m_popAt : OpMet K rPopAt (oLst T) (rOne tInt) T popAtC := fun {B H l o xs vs y z Q} s h ro r e q => by
  obtain ⟨us, rfl, rp⟩ := ro
  obtain ⟨v, rfl, rfl⟩ := r
  unfold popAtC at e
  split at e
  · rename_i hz
    obtain ⟨w, e1, e2⟩ := map_some e
    subst e2
    obtain ⟨v, e3, rv⟩ := P_get rp.1 e1
    have hlt := (List.getElem?_eq_some_iff.mp e3).1
    refine ⟨l, us, _, y.toNat, v, rfl, rfl, h, by omega, hz.2, PySem.StrLaws.seqIndex_nonneg hz.1 (by omega), e3, q _ _ ⟨_, rfl, P_erase _ rp.1, ?_⟩ rv⟩
    have := rp.2
    have h2 := List.length_eraseIdx_le xs y.toNat
    show (xs.eraseIdx y.toNat).length ≤ sizeLine
    omega
  · cases e
theorem m_reverse : OpMet K rReverse (oLst T) rNil tNon fun xs _ => some ((), xs.reverse) := fun {B H l o xs vs y z Q} s h ro r e q => by
  obtain ⟨us, rfl, rp⟩ := ro
  obtain rfl : vs = [] := r
  cases e
  exact ⟨l, us, rfl, rfl, h, q _ _ ⟨_, rfl, P_rev rp.1, by rw [List.length_reverse]; exact rp.2⟩ rfl⟩
/-- remove: the first that is equal -/
def remC (xs : List Int) (k : Int) : Option (Unit × List Int) := if k ∈ xs then some ((), xs.eraseIdx (xs.idxOf k)) else none
theorem idxOf_get {xs : List Int} {k : Int} (h : k ∈ xs) : xs[xs.idxOf k]? = some k ∧ ∀ m : Nat, m < xs.idxOf k → xs[m]? ≠ some k := by
  induction xs with
  | nil => cases h
  | cons a r ih =>
    rw [List.idxOf_cons]
    by_cases e : a = k
    · subst e
      simp
    · have e' : (a == k) = false := by simpa using e
      rw [e']
      have hm : k ∈ r := by
        rcases List.mem_cons.mp h with z | z
        · exact absurd z.symm e
        · exact z
      obtain ⟨h1, h2⟩ := ih hm
      refine ⟨by simpa using h1, fun m hlt => ?_⟩
      cases m with
      | zero => simpa using e
      | succ m => simpa using h2 m (by simpa using hlt)
theorem m_remove : OpMet K rRemI (oLst tInt) (rOne tInt) tNon remC := fun {B H l o xs vs y z Q} s h ro r e q => by
  obtain ⟨us, rfl, rp⟩ := ro
  obtain ⟨v, rfl, rfl⟩ := r
  unfold remC at e
  split at e
  · rename_i hz
    cases e
    obtain ⟨h1, h2⟩ := idxOf_get hz
    refine ⟨l, xs, _, xs.idxOf y, rfl, rfl, by rw [h, P_ints rp.1], h1, h2, q _ _ ⟨_, rfl, P_ofInts _, ?_⟩ rfl⟩
    have := rp.2
    have h3 := List.length_eraseIdx_le xs (xs.idxOf y)
    exact Nat.le_trans h3 this
  · cases e
/-- xs[i] = e -/
def setC {α : Type} (xs : List α) (i : Int) (y : α) : Option (List α) := (ixN xs.length i).map fun j => xs.set j y
theorem y_setL {mi : Mo L Int} {me : Mo L α} {ie : Expr} {tpos : Pos} (i : Ix (lOwn (oLst T) fo) n L) (hN : X.N[n]? = some x) (hv : Vis X.env.scope x) (he : PE X e (tE X.K L T me)) (hi : PE X ie (tE X.K L tInt mi))
    (hd2 : (x == ("__debug__" : Str)) = false := by decide) (hcd : (x == ("__classdict__" : Str)) = false := by decide)
    (ha : ∀ v, assign (.Subscript (.Name x px) ie tpos) X.env v = (do let ov ← holding [v] (eval (.Name x px) X.env); let iv ← holding [v, ov] (eval ie X.env); standAt tpos; holding [v, ov, iv] (setItem ov iv v); release [v, ov, iv] []) := by intro _; rfl)
    (hs : swapsWithSole [.Subscript (.Name x px) ie tpos] e pos.line X.env = pure false := by rfl) (hw : swappedStores [.Subscript (.Name x px) ie tpos] e X.env = pure none := by rfl)
    (h1 : (assignEach [.Subscript (.Name x px) ie tpos] X.env).map (·.2) = [assign (.Subscript (.Name x px) ie tpos) X.env] := by rfl) :
    PS X (.Assign [.Subscript (.Name x px) ie tpos] e pos) (tS X.K L L Lh S fun ω ρ k => me ω ρ fun v ρ1 => mi ω ρ1 fun j ρ2 => (setC (i.get ρ2) j v).bind fun z => k (.nx (i.set z ρ2))) := by
  refine ps_weak (ps_asg he (pg_sub (pe_var hN hv hd2 hcd) hi set_list ha) hs hw h1) fun D σ H ⟨F, B, ρ, ω, k, oo, st, e1, q'⟩ => ?_
  refine ⟨F, B, ρ, ω, _, oo, st, e1, fun B1 v H1 x1 ρ1 s1 st1 r1 e2 => ?_⟩
  obtain ⟨own1, S1⟩ := id st1
  obtain ⟨d, o1, w1, _⟩ := S1.rel.own i
  refine ⟨.ref d, w1, F, B1, ρ1, ω, _, oo, st1, e2, fun B2 w H2 x2 ρ2 s2 st2 r2 e3 => ?_⟩
  obtain ⟨z, e6, e7⟩ := bind_some e3
  have q := q' _ e7
  cases r2
  obtain ⟨own, S⟩ := id st2
  obtain ⟨d', o2, v1, v2, v3, v4, _⟩ := S.rel.own i
  have ed : d' = d := by
    rw [w1] at v1
    simp at v1
    exact v1.symm
  subst ed
  obtain ⟨us, rfl, rp⟩ := v4
  obtain ⟨j, e8, e9⟩ := map_some e6
  subst e9
  refine ⟨d', us, _, j, rfl, rfl, v3, by rw [Paired.length rp.1]; exact e8, ?_⟩
  exact q B2 σ _ (s1.trans s2) ⟨own, S.setc i v1 v2 ⟨_, rfl, P_set j rp.1 (T.mono s2 r1), Nat.le_trans (Nat.le_of_eq List.length_set) rp.2⟩⟩
end
end L3

/-! L3: what is walked, comprehensions. -/
namespace L3
open PySem PySem.Spec PyProof.Rows L2

/-! ### what a loop walks -/
section
variable {X : Cx} {K : Fg} {L L' La Lc : List Loc} {e a b c : Expr} {pos p : Pos} {tg : Expr} {α : Type} {T : Ty α}
theorem itl_ok {ad : Addr} {vs : List V} {xs : List α} {B : Hp} (hB : SqL K B ad vs) (r : Paired (T.rep K B) vs xs) : ItOk K (Itl K ad) B T xs := fun i B1 H s1 s2 => by
  have hH : SqL K H ad vs := (s1.trans s2).seqL hB
  refine ⟨fun h => ⟨vs, hH, by rw [Paired.length r]; exact h⟩, fun x hx => ?_⟩
  obtain ⟨v, e1, rv⟩ := P_get r hx
  refine ⟨⟨vs, v, hH, e1⟩, fun u H' hy => ?_⟩
  obtain ⟨rfl, hy⟩ := hy
  have := (hy vs hH).symm.trans e1
  cases this
  exact ⟨B1, Grow.refl s2, T.mono s1 rv⟩
theorem itt_ok {ad : Addr} {vs : List V} {xs : List α} {B : Hp} (hB : SqT K B ad vs) (r : Paired (T.rep K B) vs xs) : ItOk K (Itt K ad) B T xs := fun i B1 H s1 s2 => by
  have hH : SqT K H ad vs := (s1.trans s2).seqT hB
  refine ⟨fun h => ⟨vs, hH, by rw [Paired.length r]; exact h⟩, fun x hx => ?_⟩
  obtain ⟨v, e1, rv⟩ := P_get r hx
  refine ⟨⟨vs, v, hH, e1⟩, fun u H' hy => ?_⟩
  obtain ⟨rfl, hy⟩ := hy
  have := (hy vs hH).symm.trans e1
  cases this
  exact ⟨B1, Grow.refl s2, T.mono s1 rv⟩
/-- lo, lo + 1, .., below hi -/
def rangeL (lo hi : Int) : List Int := (List.range (hi - lo).toNat).map fun (i : Nat) => lo + (i : Int)
theorem itr_ok {lo : Int} {n : Nat} {B : Hp} : ItOk K (Itr lo n) B tInt ((List.range n).map fun (i : Nat) => lo + (i : Int)) := fun i B1 H s1 s2 => by
  refine ⟨fun h => by
    have h2 : n ≤ i := by simpa using h
    exact h2, fun x hx => ?_⟩
  rw [List.getElem?_map] at hx
  have hlt : i < n := by
    cases q : (List.range n)[i]? with
    | none => rw [q] at hx; cases hx
    | some k => simpa using (List.getElem?_eq_some_iff.mp q).1
  rw [List.getElem?_range hlt] at hx
  cases hx
  refine ⟨hlt, fun u H' hy => ?_⟩
  obtain ⟨rfl, rfl⟩ := hy
  exact ⟨B1, Grow.refl s2, rfl⟩
theorem i_list {m : Mo L (List α)} (h : PE X e (tE X.K L (tLst T) m)) : PI X tg e (tIt X.K L T m) := by
  refine pi_weak (pi_list h) fun σ H R ⟨F, B, ρ, ω, k, o, st, e1, q⟩ => ?_
  refine ⟨F, B, ρ, ω, k, o, st, e1, fun B' v H' xs ρ' s st' r e2 => ?_⟩
  obtain ⟨ad, vs, rfl, hl, r⟩ := r
  exact ⟨ad, rfl, ⟨vs, .inl (.inl (st'.sb _ _ hl))⟩, q B' _ H' xs ρ' s st' (itl_ok (.inl (.inl hl)) r.1) e2⟩
theorem i_scr {m : Mo L (List α)} (h : PE X e (tE X.K L (tScr T) m)) : PI X tg e (tIt X.K L T m) := by
  refine pi_weak (pi_list h) fun σ H R ⟨F, B, ρ, ω, k, o, st, e1, q⟩ => ?_
  refine ⟨F, B, ρ, ω, k, o, st, e1, fun B' v H' xs ρ' s st' r e2 => ?_⟩
  obtain ⟨ad, vs, rfl, hl, r⟩ := r
  exact ⟨ad, rfl, ⟨vs, st'.sb.seqL hl⟩, q B' _ H' xs ρ' s st' (itl_ok hl r.1) e2⟩
theorem i_tup {m : Mo L (List α)} (h : PE X e (tE X.K L (tAll T) m)) : PI X tg e (tIt X.K L T m) := by
  refine pi_weak (pi_tup h) fun σ H R ⟨F, B, ρ, ω, k, o, st, e1, q⟩ => ?_
  refine ⟨F, B, ρ, ω, k, o, st, e1, fun B' v H' xs ρ' s st' r e2 => ?_⟩
  obtain ⟨ad, vs, rfl, hl, r⟩ := r
  exact ⟨ad, rfl, ⟨vs, st'.sb.seqT hl⟩, q B' _ H' xs ρ' s st' (itt_ok hl r.1) e2⟩
noncomputable def rng1 (n : Int) : Option (List Int) := blk (if -(2 ^ 62) ≤ n ∧ n < 2 ^ 62 then some (rangeL 0 n) else none)
theorem rng1_eq (n : Int) : rng1 n = if -(2 ^ 62) ≤ n ∧ n < 2 ^ 62 then some (rangeL 0 n) else none := blk_eq _
noncomputable def rng2 (lo hi : Int) : Option (List Int) := blk (if -(2 ^ 62) ≤ lo ∧ lo < 2 ^ 62 ∧ -(2 ^ 62) ≤ hi ∧ hi < 2 ^ 62 then some (rangeL lo hi) else none)
theorem rng2_eq (lo hi : Int) : rng2 lo hi = if -(2 ^ 62) ≤ lo ∧ lo < 2 ^ 62 ∧ -(2 ^ 62) ≤ hi ∧ hi < 2 ^ 62 then some (rangeL lo hi) else none := blk_eq _
theorem i_range {m : Mo L Int} (hg : Gl X "range") (hm : X.mg "range" = none) (h : PE X a (tE K L tInt m)) (hs : starEach [a] X.env = [(false, eval a X.env)] := by rfl) :
    PI X tg (.Call (.Name "range" p) [a] [] pos) (tIt K L tInt fun ω ρ k => m ω ρ fun n ρ' => (rng1 n).bind fun z => k z ρ') := by
  refine pi_weak (pi_range1 hg hm (pa_cons h pa_nil hs) hs) fun σ H R ⟨F, B, ρ, ω, k, o, st, e1, q⟩ => ?_
  refine ⟨F, B, ρ, ω, _, o, st, e1, fun B' v H' x ρ' s st' r e2 => ?_⟩
  obtain ⟨z, e4, e5⟩ := bind_some e2
  rw [rng1_eq] at e4
  split at e4
  · rename_i hb
    cases e4
    refine ⟨x, by rw [r], hb.1, hb.2, ?_⟩
    refine q B' (Itr 0 x.toNat) H' _ ρ' s st' ?_ e5
    show ItOk K (Itr 0 x.toNat) B' tInt (rangeL 0 x)
    unfold rangeL
    rw [show (x - 0).toNat = x.toNat by omega]
    exact itr_ok
  · cases e4
theorem i_range2 {m m2 : Mo L Int} (hg : Gl X "range") (hm : X.mg "range" = none) (h : PE X a (tE K L tInt m)) (h2 : PE X b (tE K L tInt m2)) (hs : starEach [a, b] X.env = [(false, eval a X.env), (false, eval b X.env)] := by rfl) (hs2 : starEach [b] X.env = [(false, eval b X.env)] := by rfl) :
    PI X tg (.Call (.Name "range" p) [a, b] [] pos) (tIt K L tInt (bin2 m m2 rng2)) := by
  refine pi_weak (pi_range2 hg hm (pa_cons h (pa_cons h2 pa_nil hs2) (by rw [hs, hs2])) hs hs2) fun σ H R ⟨F, B, ρ, ω, k, o, st, e1, q⟩ => ?_
  refine ⟨F, B, ρ, ω, _, o, st, e1, fun B' v H' x ρ1 s st' r e2 => ⟨F, B', ρ1, ω, _, o, st', e2, fun B2 w H2 y ρ2 s2 st2 r2 e3 => ?_⟩⟩
  obtain ⟨z, e4, e5⟩ := bind_some e3
  rw [rng2_eq] at e4
  split at e4
  · rename_i hb
    cases e4
    refine ⟨x, y, by rw [r, r2], hb, ?_⟩
    exact q B2 (Itr x (y - x).toNat) H2 _ _ (s.trans s2) st2 itr_ok e5
  · cases e4
def lrng (n : Int) : Option (List Int) := if -(2 ^ 24) ≤ n ∧ n ≤ 2 ^ 24 then some (rangeL 0 n) else none
/-- list(range(n)) -/
theorem y_lrange {m : Mo L Int} {p2 pos2 : Pos} (hc : X.calm = true) (hg : Gl X "list") (hm : X.mg "list" = none) (hg2 : Gl X "range") (hm2 : X.mg "range" = none) (h : PE X a (tE K L tInt m)) (nb : starEach [a] X.env = (false, eval a X.env) :: starEach [] X.env := by rfl)
    (na : starEach [.Call (.Name "range" p2) [a] [] pos2] X.env = (false, eval (.Call (.Name "range" p2) [a] [] pos2) X.env) :: starEach [] X.env := by rfl) :
    PE X (.Call (.Name "list" p) [.Call (.Name "range" p2) [a] [] pos2] [] pos) (tO K L (oLst tInt) fun ω ρ k => m ω ρ fun n ρ' => (lrng n).bind fun z => k z ρ') := by
  refine pe_weak (pe_listRg hc hg hm (prg_1 hg2 hm2 h nb) na) fun σ H Q ⟨F, B, ρ, ω, k, oo, st, e1, q⟩ => ?_
  refine ⟨F, B, ρ, ω, _, oo, st, e1, fun B' v H' x ρ' s st' r e2 => ?_⟩
  obtain ⟨z, e3, e4⟩ := bind_some e2
  unfold lrng at e3
  split at e3
  · rename_i hb
    cases e3
    refine ⟨x, r, ⟨by decide, by decide, by omega, by omega, by omega⟩, fun l hl => ?_⟩
    obtain ⟨own, S, h1, h2, h3, h4⟩ := st'.made (o := HO.lst (rgV 0 x)) hl
    refine q B' l _ _ own _ _ s S h1 ⟨_, rfl, ?_, ?_⟩ h2 h3 h4 e4
    · show Paired _ (rgV 0 x) (rangeL 0 x)
      rw [show rgV 0 x = (rangeL 0 x).map V.int from ?_]
      · exact P_ofInts _
      · unfold rgV rangeL
        rw [List.map_map]
        rfl
    · show (rangeL 0 x).length ≤ sizeLine
      unfold rangeL
      rw [List.length_map, List.length_range, sizeLine_eq]
      omega
  · cases e3
end

/-! ### comprehensions -/
inductive Wp (vs : List Nat) : Nat → List Loc → List Loc → Type 1
  | nil {k} : Wp vs k [] []
  | keep {k l L L'} (h : k ∉ vs) (w : Wp vs (k + 1) L L') : Wp vs k (l :: L) (l :: L')
  | imm {k L L'} {α : Type} {T : Ty α} (w : Wp vs (k + 1) L L') : Wp vs k (lImm T :: L) (lNone :: L')
  | non {k L L'} (w : Wp vs (k + 1) L L') : Wp vs k (lNone :: L) (lNone :: L')
@[reducible] def Wp.env {vs : List Nat} : {k : Nat} → {L L' : List Loc} → Wp vs k L L' → Env L → Env L'
  | _, _, _, .nil, _ => ()
  | _, _, _, .keep _ w, ρ => (ρ.1, w.env ρ.2)
  | _, _, _, .imm w, ρ => ((), w.env ρ.2)
  | _, _, _, .non w, ρ => ((), w.env ρ.2)
/-- back: the wiped slots as they were -/
@[reducible] def Wp.back {vs : List Nat} : {k : Nat} → {L L' : List Loc} → Wp vs k L L' → Env L → Env L' → Env L
  | _, _, _, .nil, _, _ => ()
  | _, _, _, .keep _ w, ρ, τ => (τ.1, w.back ρ.2 τ.2)
  | _, _, _, .imm w, ρ, τ => (ρ.1, w.back ρ.2 τ.2)
  | _, _, _, .non w, ρ, τ => (ρ.1, w.back ρ.2 τ.2)
section
variable {K : Fg} {B B' H H' : Hp} {vs : List Nat}
theorem Rel.wipe : ∀ {k : Nat} {L L' : List Loc} (w : Wp vs k L L') {own : List Addr} {σ σ' : List (Option V)} {ρ : Env L}, Rel K B H L own σ ρ → σ'.length = σ.length → (∀ i, (i + k) ∉ vs → σ'[i]? = σ[i]?) → Rel K B H L' own σ' (w.env ρ)
  | _, _, _, .nil, own, σ, σ', ρ, ⟨e1, e2⟩, hl, hh => ⟨e1, by subst e2; exact List.eq_nil_of_length_eq_zero hl⟩
  | k, _, _, .keep h w, own, σ, σ', ρ, ⟨o1, o2, s, τ, e1, e2, hd, r⟩, hl, hh => by
    subst e2
    cases σ' with
    | nil => cases hl
    | cons s' τ' =>
      have := hh 0 (by rw [Nat.zero_add]; exact h)
      simp at this
      subst this
      exact ⟨o1, o2, _, τ', e1, rfl, hd, Rel.wipe w r (by simpa using hl) fun i hi => by simpa using hh (i + 1) (by rw [show i + 1 + k = i + (k + 1) by omega]; exact hi)⟩
  | k, _, _, .imm w, own, σ, σ', ρ, ⟨o1, o2, s, τ, e1, e2, hd, r⟩, hl, hh => by
    subst e2
    cases σ' with
    | nil => cases hl
    | cons s' τ' => exact ⟨o1, o2, s', τ', e1, rfl, hd.1, Rel.wipe w r (by simpa using hl) fun i hi => by simpa using hh (i + 1) (by rw [show i + 1 + k = i + (k + 1) by omega]; exact hi)⟩
  | k, _, _, .non w, own, σ, σ', ρ, ⟨o1, o2, s, τ, e1, e2, hd, r⟩, hl, hh => by
    subst e2
    cases σ' with
    | nil => cases hl
    | cons s' τ' => exact ⟨o1, o2, s', τ', e1, rfl, hd, Rel.wipe w r (by simpa using hl) fun i hi => by simpa using hh (i + 1) (by rw [show i + 1 + k = i + (k + 1) by omega]; exact hi)⟩
theorem Rel.unwipe (sb : Sub B B') : ∀ {k : Nat} {L L' : List Loc} (w : Wp vs k L L') {own own0 : List Addr} {σ σ' : List (Option V)} {ρ : Env L} {τ : Env L'}, Rel K B H L own0 σ ρ → Rel K B' H' L' own σ' τ → σ'.length = σ.length → (∀ i, (i + k) ∉ vs → σ'[i]? = σ[i]?) →
    Rel K B' H' L own σ (w.back ρ τ)
  | _, _, _, .nil, own, own0, σ, σ', ρ, τ, ⟨e1, e2⟩, ⟨e3, e4⟩, hl, hh => ⟨e3, e2⟩
  | k, _, _, .keep h w, own, own0, σ, σ', ρ, τ, ⟨o1, o2, s, t, e1, e2, hd, r⟩, ⟨o3, o4, s', t', e3, e4, hd', r'⟩, hl, hh => by
    subst e2 e4
    have := hh 0 (by rw [Nat.zero_add]; exact h)
    simp at this
    subst this
    exact ⟨o3, o4, _, t, e3, rfl, hd', Rel.unwipe sb w r r' (by simpa using hl) fun i hi => by simpa using hh (i + 1) (by rw [show i + 1 + k = i + (k + 1) by omega]; exact hi)⟩
  | k, _, _, .imm (T := T) w, own, own0, σ, σ', ρ, τ, ⟨o1, o2, s, t, e1, e2, hd, r⟩, ⟨o3, o4, s', t', e3, e4, hd', r'⟩, hl, hh => by
    subst e2 e4
    obtain ⟨h1, v, h2, h3⟩ := hd
    exact ⟨o3, o4, s, t, e3, rfl, ⟨hd', v, h2, T.mono sb h3⟩, Rel.unwipe sb w r r' (by simpa using hl) fun i hi => by simpa using hh (i + 1) (by rw [show i + 1 + k = i + (k + 1) by omega]; exact hi)⟩
  | k, _, _, .non w, own, own0, σ, σ', ρ, τ, ⟨o1, o2, s, t, e1, e2, hd, r⟩, ⟨o3, o4, s', t', e3, e4, hd', r'⟩, hl, hh => by
    subst e2 e4
    exact ⟨o3, o4, s, t, e3, rfl, hd', Rel.unwipe sb w r r' (by simpa using hl) fun i hi => by simpa using hh (i + 1) (by rw [show i + 1 + k = i + (k + 1) by omega]; exact hi)⟩
theorem wipe_get {σ : L2.St} {i : Nat} : ∀ {ws : List Nat}, i ∈ ws → (wipe σ ws)[i]? = if i < σ.length then some none else none
  | v :: ws, h => by
    unfold wipe
    by_cases e : v = i
    · subst e
      by_cases hv : v < σ.length
      · rw [if_pos hv, List.getElem?_set_self (by rw [wipe_length]; exact hv)]
      · rw [if_neg hv, List.getElem?_eq_none (by rw [List.length_set, wipe_length]; omega)]
    · rw [List.getElem?_set_ne e]
      rcases List.mem_cons.mp h with z | z
      · exact absurd z.symm e
      · exact wipe_get z
theorem wipe_same {σ σ2 : L2.St} (hl : σ2.length = σ.length) (h : ∀ i, i ∉ vs → σ2[i]? = (wipe σ vs)[i]?) : wipe σ2 vs = wipe σ vs := by
  refine List.ext_getElem? fun i => ?_
  by_cases hi : i ∈ vs
  · rw [wipe_get hi, wipe_get hi, hl]
  · rw [wipe_out hi, h i hi]
end
/-- one item after another: tests and element by f; none: the item is left out -/
def compM {β A γ : Type} (f : β → A → Option (Option γ × A)) : List β → A → Option (List γ × A)
  | [], s => some ([], s)
  | x :: xs, s => (f x s).bind fun p => (compM f xs p.2).map fun q => (match p.1 with | some y => y :: q.1 | none => q.1, q.2)
theorem compM_len {β A γ : Type} {f : β → A → Option (Option γ × A)} : ∀ {xs : List β} {s : A} {ys : List γ} {s' : A}, compM f xs s = some (ys, s') → ys.length ≤ xs.length
  | [], s, ys, s', h => by cases h; exact Nat.le_refl _
  | x :: xs, s, ys, s', h => by
    obtain ⟨p, e1, e2⟩ := bind_some h
    obtain ⟨q, e3, e4⟩ := map_some e2
    have := compM_len e3
    cases e4
    cases p.1 with
    | none => exact Nat.le_succ_of_le this
    | some y => exact Nat.succ_le_succ this
section
variable {X : Cx} {L Lw Lb : List Loc} {pos p : Pos}
/-- one turn: the tests, the element -/
abbrev turnM {γ : Type} (mc : Mo Lb Bool) (me : Mo Lb γ) (fw : Env Lb → Env Lw) (b : Env Lb) : Option (Option γ × Env Lw) := mc _ b fun t b1 => if t = true then me _ b1 fun y b2 => some (some y, fw b2) else some (none, fw b1)
abbrev compO {L Lw Lb : List Loc} {β γ : Type} (mi : Mo L (List β)) (bd : β → Env Lw → Env Lb) (mc : Mo Lb Bool) (me : Mo Lb γ) (we : Env L → Env Lw) (wb : Env Lb → Env Lw) (bk : Env L → Env Lw → Env L) : Mo L (List γ) :=
  fun ω ρ k => mi ω ρ fun xs ρ' => if xs.length ≤ 16777216 then (compM (fun x s => turnM mc me wb (bd x s)) xs (we ρ')).bind fun z => k z.1 (bk ρ' z.2) else none
theorem y_compR {X : Cx} {L Lw Lb : List Loc} {vs ws : List Nat} {own : List (Str × Nat)} {β γ : Type} {T : Ty β} {U : Ty γ} {mi : Mo L (List β)} {bd : β → Env Lw → Env Lb} {mc : Mo Lb Bool} {me : Mo Lb γ}
    (w : Wp vs 0 L Lw) (wb : Wp vs 0 Lb Lw) (hv : own.map (·.2) = vs) (hsub : ∀ i ∈ ws, i ∈ vs) {σ : L2.St} {H : Hp} {Q : VK} (h : tO X.K L (oLst U) (compO mi bd mc me w.env wb.env w.back) σ H Q) :
    tLc (tIt X.K L T mi) (tGt X.K Lw Lb ws T bd) (tC X.K Lb mc) (tE X.K Lb U me) (own.map (·.2)) σ H Q := by
  obtain ⟨F, B, ρ, ω, kk, oo, st, e1, q⟩ := h
  rw [hv]
  refine ⟨F, B, ρ, ω, _, oo, st, e1, fun B1 J H1 xs ρ1 s1 st1 it e3 => fun D hD => ?_⟩
  by_cases hxs : xs.length ≤ 16777216
  case neg =>
    rw [if_neg hxs] at e3
    cases e3
  rw [if_pos hxs] at e3
  obtain ⟨⟨ys, τ⟩, e4, e5⟩ := bind_some e3
  obtain ⟨own1, S1⟩ := id st1
  obtain ⟨hbD, hoD, hfD⟩ := S1.fresh hD
  have hlen := S1.rel.len
  -- what holds between two turns
  refine ⟨fun i m H => m = xs.length - i ∧ i ≤ xs.length ∧ ∃ Bi τi owni vsd done rest, Sub B1 Bi ∧ StO X.K F Lw owni Bi τi (wipe σ vs) H ∧ H D = some (.lst vsd) ∧ Bi D = none ∧ D ∉ owni ∧ Paired (U.rep X.K Bi) vsd done ∧
      compM (fun x s => turnM mc me wb.env (bd x s)) (xs.drop i) τi = some (rest, τ) ∧ done ++ rest = ys ∧ done.length ≤ i, ⟨xs.length, by simp, Nat.zero_le _, B1, w.env ρ1, own1, [], [], ys, Sub.refl _, ?_, upd_same, hbD, hoD, .nil, by rw [List.drop_zero]; exact e4, rfl, Nat.le_refl _⟩, ?_⟩
  · have S2 := S1.newH (o := HO.lst []) hD
    exact ⟨S2.base, S2.sub, S2.keep, S2.old, S2.rel.wipe w (wipe_length _ _) fun i hi => wipe_out (by simpa using hi), S2.nd, S2.own⟩
  rintro i m H2 ⟨rfl, hle, Bi, τi, owni, vsd, done, rest, si, Si, hDi, hbi, hoi, pr, ei, ed, dl⟩
  obtain ⟨hstop, hgo⟩ := it i Bi H2 si Si.sub
  have hyl := compM_len e4
  by_cases hlt : i < xs.length
  · have hx : xs[i]? = some xs[i] := List.getElem?_eq_getElem hlt
    obtain ⟨go, yl⟩ := hgo _ hx
    rw [List.drop_eq_getElem_cons hlt] at ei
    obtain ⟨⟨o1, τ1⟩, f1, f2⟩ := bind_some ei
    obtain ⟨⟨rest1, τ2⟩, f3, f4⟩ := map_some f2
    refine .inr ⟨go, fun H => ∃ Bi τi owni vsd done rest, Sub B1 Bi ∧ StO X.K F Lw owni Bi τi (wipe σ vs) H ∧ H D = some (.lst vsd) ∧ Bi D = none ∧ D ∉ owni ∧ Paired (U.rep X.K Bi) vsd done ∧
      compM (fun x s => turnM mc me wb.env (bd x s)) (xs.drop (i + 1)) τi = some (rest, τ) ∧ done ++ rest = ys ∧ done.length ≤ i + 1, fun H' p => ⟨xs.length - (i + 1), by omega, rfl, hlt, p⟩, fun v H' yy => ?_⟩
    obtain ⟨B3, g, r⟩ := yl v H' yy
    have Sg := Si.grow g
    have hDg : H' D = some (.lst vsd) := g.h D _ hDi
    have hbg : B3 D = none := by
      cases z : B3 D with
      | none => rfl
      | some u =>
        rcases g.old D (by rw [z]; exact fun y => nomatch y) with y | y
        · exact absurd hbi y
        · rw [hDi] at y; cases y
    refine ⟨frAt H' B3 owni, B3, τi, xs[i], ⟨owni, Sg.inner⟩, r, fun σ2 ho st2 => ⟨?_, ?_⟩⟩
    · refine wipe_same (ho.1.trans (wipe_length _ _)) fun j hj => ho.2 j fun z => hj (hsub j z)
    have hws : wipe σ2 vs = wipe σ vs := wipe_same (ho.1.trans (wipe_length _ _)) fun j hj => ho.2 j fun z => hj (hsub j z)
    -- back to the turn's end
    have fin : ∀ {B5 : Hp} {b5 : Env Lb} {H5 : Hp}, Sub B3 B5 → Stt X.K (frAt H' B3 owni) Lb B5 b5 σ2 H5 → ∃ own5, StO X.K F Lw own5 B5 (wb.env b5) (wipe σ vs) H5 ∧ H5 D = some (.lst vsd) ∧ B5 D = none ∧ D ∉ own5 := by
      intro B5 b5 H5 s5 ⟨own5, S5⟩
      have So := Sg.outer S5
      refine ⟨own5, ⟨So.base, So.sub, So.keep, So.old, ?_, So.nd, So.own⟩, S5.keep D _ hoi hDg, ?_, fun m5 => ?_⟩
      · have := So.rel.wipe wb (wipe_length σ2 vs) fun j hj => wipe_out (by simpa using hj)
        rwa [hws] at this
      · cases z : B5 D with
        | none => rfl
        | some u =>
          rcases S5.old D (by show H' D ≠ none; rw [hDg]; exact fun y => nomatch y) (by rw [z]; exact fun y => nomatch y) with y | y
          · exact absurd hbg y
          · exact absurd y hoi
      · rcases (S5.own D m5).2 with y | y
        · rw [show (frAt H' B3 owni).H0 D = H' D from rfl, hDg] at y; cases y
        · exact absurd y hoi
    refine ⟨frAt H' B3 owni, B3, _, _, _, _, st2, f1, fun B4 H4 k b1 s4 st4 f6 => ?_⟩
    cases k with
    | false =>
      cases f6
      obtain ⟨own5, S5, h1, h2, h3⟩ := fin s4 st4
      cases f4
      refine ⟨B4, _, own5, vsd, done, rest1, (si.trans g.b).trans s4, S5, h1, h2, h3, Pmap pr fun _ _ z => U.mono (g.b.trans s4) z, f3, ed, by omega⟩
    | true =>
      refine ⟨frAt H' B3 owni, B4, b1, _, _, _, st4, f6, fun B5 v5 H5 u b2 s5 st5 r5 f8 => ?_⟩
      cases f8
      cases f4
      obtain ⟨own5, S5, h1, h2, h3⟩ := fin (s4.trans s5) st5
      have lp := Paired.length pr
      refine ⟨vsd, h1, by rw [lp, sizeLine_eq]; omega, B5, _, own5, vsd ++ [v5], done ++ [u], rest1, ((si.trans g.b).trans s4).trans s5, ?_, upd_same, h2, h3, P_app (Pmap pr fun _ _ z => U.mono ((g.b.trans s4).trans s5) z) (.cons r5 .nil), f3, ?_, ?_⟩
      · refine ⟨S5.base, fun a o z => ?_, fun a o m z => ?_, S5.old, S5.rel.frame (Sub.refl _) fun a m => upd_ne fun z => h3 (by rw [← z]; exact m), S5.nd, S5.own⟩
        · rw [upd_ne (ne_of_none z h2)]; exact S5.sub a o z
        · refine (upd_ne fun y => ?_).trans (S5.keep a o m z)
          subst y
          rcases hfD with y | y
          · rw [z] at y; cases y
          · exact m y
      · rw [List.append_assoc]; exact ed
      · rw [List.length_append, List.length_singleton]; omega
  · refine .inl ⟨hstop (by omega), ?_⟩
    rw [List.drop_eq_nil_of_le (by omega)] at ei
    cases ei
    rw [List.append_nil] at ed
    subst ed
    refine q Bi D _ H2 owni _ _ (s1.trans si) ⟨Si.base, Si.sub, Si.keep, Si.old, ?_, Si.nd, Si.own⟩ hDi ⟨vsd, rfl, pr, by
      show done.length ≤ sizeLine
      rw [sizeLine_eq]; omega⟩ hbi hoi hfD e5
    exact Rel.unwipe si w S1.rel Si.rel (wipe_length _ _) fun j hj => wipe_out (by simpa using hj)
theorem y_comp {vs ws : List Nat} {elt tg iter : Expr} {ifs : List Expr} {scope : Scope} {own : List (Str × Nat)} {β γ : Type} {T : Ty β} {U : Ty γ} {mi : Mo L (List β)} {bd : β → Env Lw → Env Lb} {mc : Mo Lb Bool} {me : Mo Lb γ}
    (w : Wp vs 0 L Lw) (wb : Wp vs 0 Lb Lw) (hv : own.map (·.2) = vs) (hsub : ∀ i ∈ ws, i ∈ vs)
    (hc : X.calm = true) (hN : X.N.Nodup) (hi : PI X tg iter (tIt X.K L T mi)) (ok : BlkOk X.N X.env.scope scope own)
    (hg : ∀ (s : Shared) (H : Hp) (C : Addr) (cl : List (Str × Addr)) (fp : List Addr), PG (X.blk s H scope (compEnvC scope cl C X.env) fp) tg (tGt X.K Lw Lb ws T bd))
    (ht : ∀ (s : Shared) (H : Hp) (C : Addr) (cl : List (Str × Addr)) (fp : List Addr), PTs (X.blk s H scope (compEnvC scope cl C X.env) fp) ifs (tC X.K Lb mc))
    (he : ∀ (s : Shared) (H : Hp) (C : Addr) (cl : List (Str × Addr)) (fp : List Addr), PE (X.blk s H scope (compEnvC scope cl C X.env) fp) elt (tE X.K Lb U me)) (hs : ∀ x, foldedSetIterable iter X.env x = pure x := by intro _; rfl) :
    PE X (.ListComp elt [⟨tg, iter, ifs, 0⟩] scope pos) (tO X.K L (oLst U) (compO mi bd mc me w.env wb.env w.back)) := pe_weak (pe_lc (own := own) hc hN hi ok hg ht he hs) fun σ H Q h => y_compR w wb hv hsub h
theorem t_nil : PTs X [] (tC X.K L fun _ ρ k => k true ρ) := by
  refine ⟨fun pins s σ H Q I h => pts_nil.run pins s σ H Q I ?_⟩
  obtain ⟨F, B, ρ, ω, k, o, st, e1, q⟩ := h
  exact q B H _ _ (Sub.refl B) st e1
theorem t_one {c : Expr} {mc : Mo L Bool} (h : PT X c (tC X.K L mc)) : PTs X [c] (tC X.K L mc) := pts_one h
end
end L3

/-! L3: more statements; words with their usual answers filled in. -/
namespace L3
open PySem PySem.Spec PyProof.Rows L2
section
variable {X : Cx} {L L' La Lc Lh : List Loc} {S : RS} {e a b : Expr} {pos : Pos}
/-- a, b = e -/
theorem y_asgG {vs : List Nat} {tg : Expr} {β : Type} {T : Ty β} {m : Mo L β} {bd : β → Env L → Env L'} (hg : PG X tg (tGt X.K L L' vs T bd)) (he : PE X e (tE X.K L T m))
    (hs : swapsWithSole [tg] e pos.line X.env = pure false := by rfl) (hw : swappedStores [tg] e X.env = pure none := by rfl) (h1 : (assignEach [tg] X.env).map (·.2) = [assign tg X.env] := by rfl) :
    PS X (.Assign [tg] e pos) (tS X.K L L' Lh S fun ω ρ k => m ω ρ fun x ρ' => k (.nx (bd x ρ'))) := by
  refine ps_weak (ps_asg he hg hs hw h1) fun D σ H ⟨F, B, ρ, ω, k, o, h, e, q⟩ => ?_
  exact ⟨F, B, ρ, ω, _, o, h, e, fun B' v H' a ρ' s st' r e2 => ⟨F, B', ρ', a, st', r, fun σ' _ st2 => q _ e2 B' σ' H' s st2⟩⟩
/-- a, b = c, d -/
theorem y_par {α β : Type} {T : Ty α} {U : Ty β} {m : Mo L (α × β)} {i j : Nat} {x y : Str} {px py pt : Pos} {kt k2 pt2} (p : Put (lImm T) i L La) (p2 : Put (lImm U) j La L') (hc : X.calm = true) (hN : X.N.Nodup) (hi : X.N[i]? = some x) (hj : X.N[j]? = some y) (hij : i ≠ j)
    (hx : X.env.scope.names.lookup x = some .local) (hy : X.env.scope.names.lookup y = some .local) (ha : PA X [a, b] (tAr X.K L (rCons T (rOne U)) m))
    (hw : swappedStores [.Tuple [.Name x px, .Name y py] kt pt] (.Tuple [a, b] k2 pt2) X.env = pure (some [x, y]))
    (hs : swapsWithSole [.Tuple [.Name x px, .Name y py] kt pt] (.Tuple [a, b] k2 pt2) pos.line X.env = pure false := by rfl) :
    PS X (.Assign [.Tuple [.Name x px, .Name y py] kt pt] (.Tuple [a, b] k2 pt2) pos) (tS X.K L L' Lh S fun ω ρ k => m ω ρ fun v ρ' => k (.nx (p2.put v.2 (p.put v.1 ρ')))) := by
  refine ps_weak (ps_par (i := i) (j := j) hc hN hi hj hij hx hy ha hw hs) fun D σ H ⟨F, B, ρ, ω, k, o, h, e, q⟩ => ?_
  refine ⟨F, B, ρ, ω, _, o, h, e, fun B' vs H' v ρ' s st' r e2 => ?_⟩
  obtain ⟨v1, _, rfl, r1, v2, rfl, r2⟩ := r
  exact ⟨v1, v2, rfl, q _ e2 B' _ H' s ((st'.putI p r1).putI p2 r2)⟩
/-- x op= e -/
theorem y_aug {op : Operator} {r : R2} {α β γ : Type} {T : Ty α} {U : Ty β} {W : Ty γ} {g : α → β → Option γ} {m : Mo L β} {n : Nat} {x : Str} {pos' : Pos} (i : Ix (lImm T) n L) (p : Put (lImm W) n L L') (ho : OpR X (inplaceOp op) r) (h : Op2 X.K r T U W g)
    (hN : X.N.Nodup) (hi : X.N[n]? = some x) (hx : L2.Loc X.env.scope x) (he : PE X e (tE X.K L U m)) (hf : X.fn x = true ∨ X.env.scope.names.lookup x = some .local := by first | exact .inl rfl | exact .inr rfl | assumption) :
    PS X (.AugAssign (.Name x pos') op e pos) (tS X.K L L' Lh S fun ω ρ k => m ω ρ fun y ρ' => (g (i.get ρ) y).bind fun z => k (.nx (p.put z ρ'))) := by
  refine ps_weak (ps_aug (i := n) hN hi hx he ho hf) fun D σ H ⟨F, B, ρ, ω, k, o, st, e, q⟩ => ?_
  obtain ⟨own, S0⟩ := id st
  obtain ⟨v, e1, r1⟩ := S0.rel.imm i
  refine ⟨v, e1, F, B, ρ, ω, _, o, st, e, fun B' w H' y ρ' s st' r2 e2 => ?_⟩
  obtain ⟨z, e3, e4⟩ := bind_some e2
  exact h st'.sb (T.mono s r1) r2 e3 fun B2 H2 u gr ru => q _ e4 B2 _ H2 (s.trans gr.b) ((st'.grow gr).putI p ru)
theorem y_augT {op : Operator} {r : R2} {α β γ : Type} {T : Ty α} {U : Ty β} {W : Ty γ} {g : α → β → γ} {m : Mo L β} {n : Nat} {x : Str} {pos' : Pos} (i : Ix (lImm T) n L) (p : Put (lImm W) n L L') (ho : OpR X (inplaceOp op) r) (h : Op2 X.K r T U W fun x y => some (g x y))
    (hN : X.N.Nodup) (hi : X.N[n]? = some x) (hx : L2.Loc X.env.scope x) (he : PE X e (tE X.K L U m)) (hf : X.fn x = true ∨ X.env.scope.names.lookup x = some .local := by first | exact .inl rfl | exact .inr rfl | assumption) :
    PS X (.AugAssign (.Name x pos') op e pos) (tS X.K L L' Lh S fun ω ρ k => m ω ρ fun y ρ' => k (.nx (p.put (g (i.get ρ) y) ρ'))) := y_aug i p ho h hN hi hx he hf
end

/-! ### an own list, read -/
section
variable {X : Cx} {L : List Loc} {e : Expr} {pos p px : Pos} {α : Type} {T : Ty α} {fo : Option Addr} {n : Nat} {x f : Str}
theorem y_lenO (i : Ix (lOwn (oLst T) fo) n L) (hN : X.N[n]? = some x) (hv : Vis X.env.scope x) (hg : Gl X "len") (hm : X.mg "len" = none) (hd2 : (x == ("__debug__" : Str)) = false := by decide) (hcd : (x == ("__classdict__" : Str)) = false := by decide)
    (he : starEach [.Name x px] X.env = (false, eval (.Name x px) X.env) :: starEach [] X.env := by rfl) : PE X (.Call (.Name "len" p) [.Name x px] [] pos) (tE X.K L tInt fun _ ρ k => k ((i.get ρ).length : Int) ρ) := by
  refine pe_weak (pe_callB call_len_seq hg hm PySem.boot_len (pa_cons (pe_var hN hv hd2 hcd) pa_nil he) (he := he)) fun σ H Q ⟨F, B, ρ, ω, k, o, st, e1, q⟩ => ?_
  obtain ⟨own, S⟩ := id st
  obtain ⟨d, u, v1, v2, v3, ⟨vs, rfl, rp⟩, _⟩ := S.rel.own i
  exact ⟨.ref d, v1, d, vs, rfl, .inl (.inl (.inl v3)), by rw [Paired.length rp.1]; exact q B _ H _ ρ (Sub.refl B) st rfl e1⟩
theorem y_ixO {m : Mo L Int} (i : Ix (lOwn (oLst T) fo) n L) (hN : X.N[n]? = some x) (hv : Vis X.env.scope x) (he : PE X e (tE X.K L tInt m)) (hd2 : (x == ("__debug__" : Str)) = false := by decide) (hcd : (x == ("__classdict__" : Str)) = false := by decide) (hs : PlainIx e := by intro _ _; rfl) :
    PE X (.Subscript (.Name x px) e pos) (tE X.K L T fun ω ρ k => m ω ρ fun j ρ' => (getI (i.get ρ') j).bind fun y => k y ρ') := by
  refine pe_weak (pe_ix ix_list (pe_var hN hv hd2 hcd) he hs) fun σ H Q ⟨F, B, ρ, ω, k, o, st, e1, q⟩ => ?_
  obtain ⟨own0, S0⟩ := id st
  obtain ⟨d0, _, w1, _⟩ := S0.rel.own i
  refine ⟨.ref d0, w1, F, B, ρ, ω, _, o, st, e1, fun B' v H' j ρ' s st' r e2 => ?_⟩
  obtain ⟨y, e3, e4⟩ := bind_some e2
  obtain ⟨own, S⟩ := id st'
  obtain ⟨d, u, v1, v2, v3, ⟨vs, rfl, rp⟩, _⟩ := S.rel.own i
  have ed : d = d0 := by
    rw [w1] at v1
    simp at v1
    exact v1.symm
  subst ed
  obtain ⟨z, e5, rz⟩ := P_getI rp.1 e3
  cases r
  exact ⟨d, vs, _, z, rfl, rfl, .inl (.inl v3), e5, q B' z H' y ρ' s st' rz e4⟩
end
/-! ### is None -/
section
variable {X : Cx} {L L' Lh : List Loc} {S : RS} {a e : Expr} {pos p : Pos} {α : Type} {T : Ty α} {j : Nat} {ma : Mo L (Option α)}
theorem y_isN (ha : PE X a (tE X.K L (tOpt T) ma)) : PE X (.Compare a [.Is] [.Constant .none j p] pos) (tE X.K L tBool fun ω ρ k => ma ω ρ fun x ρ' => k x.isNone ρ') := by
  refine pe_weak (pe_cmpR op_isN ha (y_none (K := X.K) (L := L) (T := T)) (nomark _)) fun σ H Q ⟨F, B, ρ, ω, k, o, st, e1, q⟩ => ?_
  refine bin_fin (g := fun x y => if y.isNone = true then some x.isNone else none) o_isN ⟨F, B, ρ, ω, k, o, st, ?_, q⟩
  exact e1
theorem y_notN (ha : PE X a (tE X.K L (tOpt T) ma)) : PE X (.Compare a [.IsNot] [.Constant .none j p] pos) (tE X.K L tBool fun ω ρ k => ma ω ρ fun x ρ' => k x.isSome ρ') := by
  refine pe_weak (pe_cmpR op_notN ha (y_none (K := X.K) (L := L) (T := T)) (nomark _)) fun σ H Q ⟨F, B, ρ, ω, k, o, st, e1, q⟩ => ?_
  refine bin_fin (g := fun x y => if y.isNone = true then some x.isSome else none) o_notN ⟨F, B, ρ, ω, k, o, st, ?_, q⟩
  exact e1
theorem y_isNT (ha : PE X a (tE X.K L (tOpt T) ma)) : PT X (.Compare a [.Is] [.Constant .none j p] pos) (tC X.K L fun ω ρ k => ma ω ρ fun x ρ' => k x.isNone ρ') := by
  refine pt_weak (pt_cmpR op_isN ha (y_none (K := X.K) (L := L) (T := T)) (nomark _)) fun σ H Q ⟨F, B, ρ, ω, k, o, st, e1, q⟩ => ?_
  refine bin_fin (g := fun x y => if y.isNone = true then some x.isNone else none) (Tc := tBool) o_isN ⟨F, B, ρ, ω, k, o, st, ?_, fun B' v H' x ρ' s st' r e2 => ⟨x, r, q B' H' x ρ' s st' e2⟩⟩
  exact e1
theorem y_notNT (ha : PE X a (tE X.K L (tOpt T) ma)) : PT X (.Compare a [.IsNot] [.Constant .none j p] pos) (tC X.K L fun ω ρ k => ma ω ρ fun x ρ' => k x.isSome ρ') := by
  refine pt_weak (pt_cmpR op_notN ha (y_none (K := X.K) (L := L) (T := T)) (nomark _)) fun σ H Q ⟨F, B, ρ, ω, k, o, st, e1, q⟩ => ?_
  refine bin_fin (g := fun x y => if y.isNone = true then some x.isSome else none) (Tc := tBool) o_notN ⟨F, B, ρ, ω, k, o, st, ?_, fun B' v H' x ρ' s st' r e2 => ⟨x, r, q B' H' x ρ' s st' e2⟩⟩
  exact e1
/-- y = [..] on one line -/
theorem y_compS {Lw Lb : List Loc} {vs ws : List Nat} {i : Nat} {y : Str} {py : Pos} {elt tg iter : Expr} {ifs : List Expr} {scope : Scope} {own : List (Str × Nat)} {spos : Pos} {β γ : Type} {T : Ty β} {U : Ty γ} {mi : Mo L (List β)} {bd : β → Env Lw → Env Lb} {mc : Mo Lb Bool} {me : Mo Lb γ}
    (pp : Put (lOwn (oLst U) none) i L L') (hy : X.N[i]? = some y) (hyl : X.env.scope.names.lookup y = some .local) (hsw : swapsWith (.ListComp elt [⟨tg, iter, ifs, 0⟩] scope pos) (some (.Name y py)) spos.line X.env = pure true)
    (w : Wp vs 0 L Lw) (wb : Wp vs 0 Lb Lw) (hv : own.map (·.2) = vs) (hsub : ∀ i ∈ ws, i ∈ vs)
    (hc : X.calm = true) (hN : X.N.Nodup) (hi : PI X tg iter (tIt X.K L T mi)) (ok : BlkOk X.N X.env.scope scope own)
    (hg : ∀ (s : Shared) (H : Hp) (C : Addr) (cl : List (Str × Addr)) (fp : List Addr), PG (X.blk s H scope (compEnvC scope cl C X.env) fp) tg (tGt X.K Lw Lb ws T bd))
    (ht : ∀ (s : Shared) (H : Hp) (C : Addr) (cl : List (Str × Addr)) (fp : List Addr), PTs (X.blk s H scope (compEnvC scope cl C X.env) fp) ifs (tC X.K Lb mc))
    (he : ∀ (s : Shared) (H : Hp) (C : Addr) (cl : List (Str × Addr)) (fp : List Addr), PE (X.blk s H scope (compEnvC scope cl C X.env) fp) elt (tE X.K Lb U me)) (hs : ∀ x, foldedSetIterable iter X.env x = pure x := by intro _; rfl) :
    PS X (.Assign [.Name y py] (.ListComp elt [⟨tg, iter, ifs, 0⟩] scope pos) spos) (tS X.K L L' Lh S fun ω ρ k => compO mi bd mc me w.env wb.env w.back ω ρ fun x ρ' => k (.nx (pp.put x ρ'))) := by
  refine ps_weak (ps_setLc (own := own) (i := i) hc hN hy hyl hsw hi ok hg ht he hs) fun D σ H ⟨F, B, ρ, ω, k, o, st, e1, q⟩ => ?_
  refine y_compR w wb hv hsub ⟨F, B, ρ, ω, _, o, st, e1, fun B' p u H' own x ρ' s st' h1 h2 h3 h4 h5 e2 => ?_⟩
  exact q _ e2 B' _ H' s (st'.putO pp h1 h2 h3 h4 h5)
end

/-! ### the start of a def -/
section
variable {X : Cx} {L : List Loc} {pos : Pos}
theorem v_ {α : Type} {T : Ty α} {n : Nat} {x : Str} (i : Ix (lImm T) n L) (hN : X.N[n]? = some x := by rfl) (hv : Vis X.env.scope x := by first | exact .inl rfl | exact .inr (.inl rfl) | exact .inr (.inr rfl)) (hd : (x == ("__debug__" : Str)) = false := by decide)
    (hcd : (x == ("__classdict__" : Str)) = false := by decide) : PE X (.Name x pos) (tE X.K L T fun _ ρ k => k (i.get ρ) ρ) := y_var i hN hv hd hcd
@[reducible] def nones : (n : Nat) → Env (List.replicate n lNone)
  | 0 => ()
  | n + 1 => ((), nones n)
theorem rel_nones {K : Fg} {B H : Hp} : ∀ n : Nat, Rel K B H (List.replicate n lNone) [] (List.replicate n none) (nones n)
  | 0 => ⟨rfl, rfl⟩
  | n + 1 => ⟨[], [], none, _, rfl, rfl, rfl, rel_nones n⟩
theorem rel_imm {K : Fg} {B H : Hp} {α : Type} {T : Ty α} {v : V} {x : α} {own : List Addr} {σ : List (Option V)} {ρ : Env L} (r : T.rep K B v x) (h : Rel K B H L own σ ρ) : Rel K B H (lImm T :: L) own (some v :: σ) ((x, ρ) : Env (lImm T :: L)) :=
  ⟨[], own, some v, σ, rfl, rfl, ⟨rfl, v, rfl, r⟩, h⟩
theorem rel_bor {K : Fg} {B H : Hp} {α : Type} {O : OTy α} {d : Addr} {o : HO} {x : α} {σ : List (Option V)} {ρ : Env L} (hd : H d = some o) (r : O.rep K B o x) (h : Rel K B H L [] σ ρ) : Rel K B H (lOwn O (some d) :: L) [d] (some (.ref d) :: σ) ((x, ρ) : Env (lOwn O (some d) :: L)) :=
  ⟨[d], [], some (.ref d), σ, rfl, rfl, ⟨d, o, rfl, rfl, hd, r, fun e z => by cases z; rfl⟩, h⟩
end
section
variable {K : Fg} {N : List Str} {n : Nat}
theorem pars0  (hN : N.length = n + 0) : Params K rNil (List.replicate n lNone) (fun y => nones n) N := fun {B H vs y} h => by
  obtain rfl := h
  refine ⟨?_, by rw [hN]; exact Nat.le_add_left _ _⟩
  unfold L2.start
  rw [hN, show n + 0 - ([] : List V).length = n from Nat.add_sub_cancel n 0]
  exact (rel_nones n)
theorem parsM0 {δ : Type} {O : OTy δ} {d : Addr} (hN : N.length = n + 1) : ParamsM K d O rNil (lOwn O (some d) :: List.replicate n lNone) (fun y0 y => (y0, nones n)) N := fun {B H vs o x0 y} hd ro h => by
  obtain rfl := h
  unfold L2.start
  rw [hN, show n + 1 - ([V.ref d] : List V).length = n from Nat.add_sub_cancel n 1]
  exact rel_bor hd ro (rel_nones n)
theorem hs0  {B vs y} (h : rNil.rep K B vs y) : vs.length = 0 := by
  obtain rfl := h
  rfl
theorem hsM0  {B vs y} (h : rNil.rep K B vs y) : vs.length + 1 = 1 := by
  obtain rfl := h
  rfl
theorem pars1 {α0 : Type} {T0 : Ty α0} (hN : N.length = n + 1) : Params K (rOne T0) (lImm T0 :: List.replicate n lNone) (fun y => (y, nones n)) N := fun {B H vs y} h => by
  obtain ⟨v0, rfl, r0⟩ := h
  refine ⟨?_, by rw [hN]; exact Nat.le_add_left _ _⟩
  unfold L2.start
  rw [hN, show n + 1 - ([v0] : List V).length = n from Nat.add_sub_cancel n 1]
  exact (rel_imm r0 (rel_nones n))
theorem parsM1 {α0 : Type} {T0 : Ty α0} {δ : Type} {O : OTy δ} {d : Addr} (hN : N.length = n + 2) : ParamsM K d O (rOne T0) (lOwn O (some d) :: lImm T0 :: List.replicate n lNone) (fun y0 y => (y0, (y, nones n))) N := fun {B H vs o x0 y} hd ro h => by
  obtain ⟨v0, rfl, r0⟩ := h
  unfold L2.start
  rw [hN, show n + 2 - ([V.ref d, v0] : List V).length = n from Nat.add_sub_cancel n 2]
  exact rel_bor hd ro (rel_imm r0 (rel_nones n))
theorem hs1 {α0 : Type} {T0 : Ty α0} {B vs y} (h : (rOne T0).rep K B vs y) : vs.length = 1 := by
  obtain ⟨v0, rfl, r0⟩ := h
  rfl
theorem hsM1 {α0 : Type} {T0 : Ty α0} {B vs y} (h : (rOne T0).rep K B vs y) : vs.length + 1 = 2 := by
  obtain ⟨v0, rfl, r0⟩ := h
  rfl
theorem pars2 {α0 : Type} {T0 : Ty α0} {α1 : Type} {T1 : Ty α1} (hN : N.length = n + 2) : Params K (rCons T0 (rOne T1)) (lImm T0 :: lImm T1 :: List.replicate n lNone) (fun y => (y.1, y.2, nones n)) N := fun {B H vs y} h => by
  obtain ⟨v0, _, rfl, r0, v1, rfl, r1⟩ := h
  refine ⟨?_, by rw [hN]; exact Nat.le_add_left _ _⟩
  unfold L2.start
  rw [hN, show n + 2 - ([v0, v1] : List V).length = n from Nat.add_sub_cancel n 2]
  exact (rel_imm r0 (rel_imm r1 (rel_nones n)))
theorem parsM2 {α0 : Type} {T0 : Ty α0} {α1 : Type} {T1 : Ty α1} {δ : Type} {O : OTy δ} {d : Addr} (hN : N.length = n + 3) : ParamsM K d O (rCons T0 (rOne T1)) (lOwn O (some d) :: lImm T0 :: lImm T1 :: List.replicate n lNone) (fun y0 y => (y0, (y.1, y.2, nones n))) N := fun {B H vs o x0 y} hd ro h => by
  obtain ⟨v0, _, rfl, r0, v1, rfl, r1⟩ := h
  unfold L2.start
  rw [hN, show n + 3 - ([V.ref d, v0, v1] : List V).length = n from Nat.add_sub_cancel n 3]
  exact rel_bor hd ro (rel_imm r0 (rel_imm r1 (rel_nones n)))
theorem hs2 {α0 : Type} {T0 : Ty α0} {α1 : Type} {T1 : Ty α1} {B vs y} (h : (rCons T0 (rOne T1)).rep K B vs y) : vs.length = 2 := by
  obtain ⟨v0, _, rfl, r0, v1, rfl, r1⟩ := h
  rfl
theorem hsM2 {α0 : Type} {T0 : Ty α0} {α1 : Type} {T1 : Ty α1} {B vs y} (h : (rCons T0 (rOne T1)).rep K B vs y) : vs.length + 1 = 3 := by
  obtain ⟨v0, _, rfl, r0, v1, rfl, r1⟩ := h
  rfl
theorem pars3 {α0 : Type} {T0 : Ty α0} {α1 : Type} {T1 : Ty α1} {α2 : Type} {T2 : Ty α2} (hN : N.length = n + 3) : Params K (rCons T0 (rCons T1 (rOne T2))) (lImm T0 :: lImm T1 :: lImm T2 :: List.replicate n lNone) (fun y => (y.1, y.2.1, y.2.2, nones n)) N := fun {B H vs y} h => by
  obtain ⟨v0, _, rfl, r0, v1, _, rfl, r1, v2, rfl, r2⟩ := h
  refine ⟨?_, by rw [hN]; exact Nat.le_add_left _ _⟩
  unfold L2.start
  rw [hN, show n + 3 - ([v0, v1, v2] : List V).length = n from Nat.add_sub_cancel n 3]
  exact (rel_imm r0 (rel_imm r1 (rel_imm r2 (rel_nones n))))
theorem parsM3 {α0 : Type} {T0 : Ty α0} {α1 : Type} {T1 : Ty α1} {α2 : Type} {T2 : Ty α2} {δ : Type} {O : OTy δ} {d : Addr} (hN : N.length = n + 4) : ParamsM K d O (rCons T0 (rCons T1 (rOne T2))) (lOwn O (some d) :: lImm T0 :: lImm T1 :: lImm T2 :: List.replicate n lNone) (fun y0 y => (y0, (y.1, y.2.1, y.2.2, nones n))) N := fun {B H vs o x0 y} hd ro h => by
  obtain ⟨v0, _, rfl, r0, v1, _, rfl, r1, v2, rfl, r2⟩ := h
  unfold L2.start
  rw [hN, show n + 4 - ([V.ref d, v0, v1, v2] : List V).length = n from Nat.add_sub_cancel n 4]
  exact rel_bor hd ro (rel_imm r0 (rel_imm r1 (rel_imm r2 (rel_nones n))))
theorem hs3 {α0 : Type} {T0 : Ty α0} {α1 : Type} {T1 : Ty α1} {α2 : Type} {T2 : Ty α2} {B vs y} (h : (rCons T0 (rCons T1 (rOne T2))).rep K B vs y) : vs.length = 3 := by
  obtain ⟨v0, _, rfl, r0, v1, _, rfl, r1, v2, rfl, r2⟩ := h
  rfl
theorem hsM3 {α0 : Type} {T0 : Ty α0} {α1 : Type} {T1 : Ty α1} {α2 : Type} {T2 : Ty α2} {B vs y} (h : (rCons T0 (rCons T1 (rOne T2))).rep K B vs y) : vs.length + 1 = 4 := by
  obtain ⟨v0, _, rfl, r0, v1, _, rfl, r1, v2, rfl, r2⟩ := h
  rfl
theorem pars4 {α0 : Type} {T0 : Ty α0} {α1 : Type} {T1 : Ty α1} {α2 : Type} {T2 : Ty α2} {α3 : Type} {T3 : Ty α3} (hN : N.length = n + 4) : Params K (rCons T0 (rCons T1 (rCons T2 (rOne T3)))) (lImm T0 :: lImm T1 :: lImm T2 :: lImm T3 :: List.replicate n lNone) (fun y => (y.1, y.2.1, y.2.2.1, y.2.2.2, nones n)) N := fun {B H vs y} h => by
  obtain ⟨v0, _, rfl, r0, v1, _, rfl, r1, v2, _, rfl, r2, v3, rfl, r3⟩ := h
  refine ⟨?_, by rw [hN]; exact Nat.le_add_left _ _⟩
  unfold L2.start
  rw [hN, show n + 4 - ([v0, v1, v2, v3] : List V).length = n from Nat.add_sub_cancel n 4]
  exact (rel_imm r0 (rel_imm r1 (rel_imm r2 (rel_imm r3 (rel_nones n)))))
theorem parsM4 {α0 : Type} {T0 : Ty α0} {α1 : Type} {T1 : Ty α1} {α2 : Type} {T2 : Ty α2} {α3 : Type} {T3 : Ty α3} {δ : Type} {O : OTy δ} {d : Addr} (hN : N.length = n + 5) : ParamsM K d O (rCons T0 (rCons T1 (rCons T2 (rOne T3)))) (lOwn O (some d) :: lImm T0 :: lImm T1 :: lImm T2 :: lImm T3 :: List.replicate n lNone) (fun y0 y => (y0, (y.1, y.2.1, y.2.2.1, y.2.2.2, nones n))) N := fun {B H vs o x0 y} hd ro h => by
  obtain ⟨v0, _, rfl, r0, v1, _, rfl, r1, v2, _, rfl, r2, v3, rfl, r3⟩ := h
  unfold L2.start
  rw [hN, show n + 5 - ([V.ref d, v0, v1, v2, v3] : List V).length = n from Nat.add_sub_cancel n 5]
  exact rel_bor hd ro (rel_imm r0 (rel_imm r1 (rel_imm r2 (rel_imm r3 (rel_nones n)))))
theorem hs4 {α0 : Type} {T0 : Ty α0} {α1 : Type} {T1 : Ty α1} {α2 : Type} {T2 : Ty α2} {α3 : Type} {T3 : Ty α3} {B vs y} (h : (rCons T0 (rCons T1 (rCons T2 (rOne T3)))).rep K B vs y) : vs.length = 4 := by
  obtain ⟨v0, _, rfl, r0, v1, _, rfl, r1, v2, _, rfl, r2, v3, rfl, r3⟩ := h
  rfl
theorem hsM4 {α0 : Type} {T0 : Ty α0} {α1 : Type} {T1 : Ty α1} {α2 : Type} {T2 : Ty α2} {α3 : Type} {T3 : Ty α3} {B vs y} (h : (rCons T0 (rCons T1 (rCons T2 (rOne T3)))).rep K B vs y) : vs.length + 1 = 5 := by
  obtain ⟨v0, _, rfl, r0, v1, _, rfl, r1, v2, _, rfl, r2, v3, rfl, r3⟩ := h
  rfl
theorem pars5 {α0 : Type} {T0 : Ty α0} {α1 : Type} {T1 : Ty α1} {α2 : Type} {T2 : Ty α2} {α3 : Type} {T3 : Ty α3} {α4 : Type} {T4 : Ty α4} (hN : N.length = n + 5) : Params K (rCons T0 (rCons T1 (rCons T2 (rCons T3 (rOne T4))))) (lImm T0 :: lImm T1 :: lImm T2 :: lImm T3 :: lImm T4 :: List.replicate n lNone) (fun y => (y.1, y.2.1, y.2.2.1, y.2.2.2.1, y.2.2.2.2, nones n)) N := fun {B H vs y} h => by
  obtain ⟨v0, _, rfl, r0, v1, _, rfl, r1, v2, _, rfl, r2, v3, _, rfl, r3, v4, rfl, r4⟩ := h
  refine ⟨?_, by rw [hN]; exact Nat.le_add_left _ _⟩
  unfold L2.start
  rw [hN, show n + 5 - ([v0, v1, v2, v3, v4] : List V).length = n from Nat.add_sub_cancel n 5]
  exact (rel_imm r0 (rel_imm r1 (rel_imm r2 (rel_imm r3 (rel_imm r4 (rel_nones n))))))
theorem parsM5 {α0 : Type} {T0 : Ty α0} {α1 : Type} {T1 : Ty α1} {α2 : Type} {T2 : Ty α2} {α3 : Type} {T3 : Ty α3} {α4 : Type} {T4 : Ty α4} {δ : Type} {O : OTy δ} {d : Addr} (hN : N.length = n + 6) : ParamsM K d O (rCons T0 (rCons T1 (rCons T2 (rCons T3 (rOne T4))))) (lOwn O (some d) :: lImm T0 :: lImm T1 :: lImm T2 :: lImm T3 :: lImm T4 :: List.replicate n lNone) (fun y0 y => (y0, (y.1, y.2.1, y.2.2.1, y.2.2.2.1, y.2.2.2.2, nones n))) N := fun {B H vs o x0 y} hd ro h => by
  obtain ⟨v0, _, rfl, r0, v1, _, rfl, r1, v2, _, rfl, r2, v3, _, rfl, r3, v4, rfl, r4⟩ := h
  unfold L2.start
  rw [hN, show n + 6 - ([V.ref d, v0, v1, v2, v3, v4] : List V).length = n from Nat.add_sub_cancel n 6]
  exact rel_bor hd ro (rel_imm r0 (rel_imm r1 (rel_imm r2 (rel_imm r3 (rel_imm r4 (rel_nones n))))))
theorem hs5 {α0 : Type} {T0 : Ty α0} {α1 : Type} {T1 : Ty α1} {α2 : Type} {T2 : Ty α2} {α3 : Type} {T3 : Ty α3} {α4 : Type} {T4 : Ty α4} {B vs y} (h : (rCons T0 (rCons T1 (rCons T2 (rCons T3 (rOne T4))))).rep K B vs y) : vs.length = 5 := by
  obtain ⟨v0, _, rfl, r0, v1, _, rfl, r1, v2, _, rfl, r2, v3, _, rfl, r3, v4, rfl, r4⟩ := h
  rfl
theorem hsM5 {α0 : Type} {T0 : Ty α0} {α1 : Type} {T1 : Ty α1} {α2 : Type} {T2 : Ty α2} {α3 : Type} {T3 : Ty α3} {α4 : Type} {T4 : Ty α4} {B vs y} (h : (rCons T0 (rCons T1 (rCons T2 (rCons T3 (rOne T4))))).rep K B vs y) : vs.length + 1 = 6 := by
  obtain ⟨v0, _, rfl, r0, v1, _, rfl, r1, v2, _, rfl, r2, v3, _, rfl, r3, v4, rfl, r4⟩ := h
  rfl
theorem pars6 {α0 : Type} {T0 : Ty α0} {α1 : Type} {T1 : Ty α1} {α2 : Type} {T2 : Ty α2} {α3 : Type} {T3 : Ty α3} {α4 : Type} {T4 : Ty α4} {α5 : Type} {T5 : Ty α5} (hN : N.length = n + 6) : Params K (rCons T0 (rCons T1 (rCons T2 (rCons T3 (rCons T4 (rOne T5)))))) (lImm T0 :: lImm T1 :: lImm T2 :: lImm T3 :: lImm T4 :: lImm T5 :: List.replicate n lNone) (fun y => (y.1, y.2.1, y.2.2.1, y.2.2.2.1, y.2.2.2.2.1, y.2.2.2.2.2, nones n)) N := fun {B H vs y} h => by
  obtain ⟨v0, _, rfl, r0, v1, _, rfl, r1, v2, _, rfl, r2, v3, _, rfl, r3, v4, _, rfl, r4, v5, rfl, r5⟩ := h
  refine ⟨?_, by rw [hN]; exact Nat.le_add_left _ _⟩
  unfold L2.start
  rw [hN, show n + 6 - ([v0, v1, v2, v3, v4, v5] : List V).length = n from Nat.add_sub_cancel n 6]
  exact (rel_imm r0 (rel_imm r1 (rel_imm r2 (rel_imm r3 (rel_imm r4 (rel_imm r5 (rel_nones n)))))))
theorem parsM6 {α0 : Type} {T0 : Ty α0} {α1 : Type} {T1 : Ty α1} {α2 : Type} {T2 : Ty α2} {α3 : Type} {T3 : Ty α3} {α4 : Type} {T4 : Ty α4} {α5 : Type} {T5 : Ty α5} {δ : Type} {O : OTy δ} {d : Addr} (hN : N.length = n + 7) : ParamsM K d O (rCons T0 (rCons T1 (rCons T2 (rCons T3 (rCons T4 (rOne T5)))))) (lOwn O (some d) :: lImm T0 :: lImm T1 :: lImm T2 :: lImm T3 :: lImm T4 :: lImm T5 :: List.replicate n lNone) (fun y0 y => (y0, (y.1, y.2.1, y.2.2.1, y.2.2.2.1, y.2.2.2.2.1, y.2.2.2.2.2, nones n))) N := fun {B H vs o x0 y} hd ro h => by
  obtain ⟨v0, _, rfl, r0, v1, _, rfl, r1, v2, _, rfl, r2, v3, _, rfl, r3, v4, _, rfl, r4, v5, rfl, r5⟩ := h
  unfold L2.start
  rw [hN, show n + 7 - ([V.ref d, v0, v1, v2, v3, v4, v5] : List V).length = n from Nat.add_sub_cancel n 7]
  exact rel_bor hd ro (rel_imm r0 (rel_imm r1 (rel_imm r2 (rel_imm r3 (rel_imm r4 (rel_imm r5 (rel_nones n)))))))
theorem hs6 {α0 : Type} {T0 : Ty α0} {α1 : Type} {T1 : Ty α1} {α2 : Type} {T2 : Ty α2} {α3 : Type} {T3 : Ty α3} {α4 : Type} {T4 : Ty α4} {α5 : Type} {T5 : Ty α5} {B vs y} (h : (rCons T0 (rCons T1 (rCons T2 (rCons T3 (rCons T4 (rOne T5)))))).rep K B vs y) : vs.length = 6 := by
  obtain ⟨v0, _, rfl, r0, v1, _, rfl, r1, v2, _, rfl, r2, v3, _, rfl, r3, v4, _, rfl, r4, v5, rfl, r5⟩ := h
  rfl
theorem hsM6 {α0 : Type} {T0 : Ty α0} {α1 : Type} {T1 : Ty α1} {α2 : Type} {T2 : Ty α2} {α3 : Type} {T3 : Ty α3} {α4 : Type} {T4 : Ty α4} {α5 : Type} {T5 : Ty α5} {B vs y} (h : (rCons T0 (rCons T1 (rCons T2 (rCons T3 (rCons T4 (rOne T5)))))).rep K B vs y) : vs.length + 1 = 7 := by
  obtain ⟨v0, _, rfl, r0, v1, _, rfl, r1, v2, _, rfl, r2, v3, _, rfl, r3, v4, _, rfl, r4, v5, rfl, r5⟩ := h
  rfl
theorem pars7 {α0 : Type} {T0 : Ty α0} {α1 : Type} {T1 : Ty α1} {α2 : Type} {T2 : Ty α2} {α3 : Type} {T3 : Ty α3} {α4 : Type} {T4 : Ty α4} {α5 : Type} {T5 : Ty α5} {α6 : Type} {T6 : Ty α6} (hN : N.length = n + 7) : Params K (rCons T0 (rCons T1 (rCons T2 (rCons T3 (rCons T4 (rCons T5 (rOne T6))))))) (lImm T0 :: lImm T1 :: lImm T2 :: lImm T3 :: lImm T4 :: lImm T5 :: lImm T6 :: List.replicate n lNone) (fun y => (y.1, y.2.1, y.2.2.1, y.2.2.2.1, y.2.2.2.2.1, y.2.2.2.2.2.1, y.2.2.2.2.2.2, nones n)) N := fun {B H vs y} h => by
  obtain ⟨v0, _, rfl, r0, v1, _, rfl, r1, v2, _, rfl, r2, v3, _, rfl, r3, v4, _, rfl, r4, v5, _, rfl, r5, v6, rfl, r6⟩ := h
  refine ⟨?_, by rw [hN]; exact Nat.le_add_left _ _⟩
  unfold L2.start
  rw [hN, show n + 7 - ([v0, v1, v2, v3, v4, v5, v6] : List V).length = n from Nat.add_sub_cancel n 7]
  exact (rel_imm r0 (rel_imm r1 (rel_imm r2 (rel_imm r3 (rel_imm r4 (rel_imm r5 (rel_imm r6 (rel_nones n))))))))
theorem parsM7 {α0 : Type} {T0 : Ty α0} {α1 : Type} {T1 : Ty α1} {α2 : Type} {T2 : Ty α2} {α3 : Type} {T3 : Ty α3} {α4 : Type} {T4 : Ty α4} {α5 : Type} {T5 : Ty α5} {α6 : Type} {T6 : Ty α6} {δ : Type} {O : OTy δ} {d : Addr} (hN : N.length = n + 8) : ParamsM K d O (rCons T0 (rCons T1 (rCons T2 (rCons T3 (rCons T4 (rCons T5 (rOne T6))))))) (lOwn O (some d) :: lImm T0 :: lImm T1 :: lImm T2 :: lImm T3 :: lImm T4 :: lImm T5 :: lImm T6 :: List.replicate n lNone) (fun y0 y => (y0, (y.1, y.2.1, y.2.2.1, y.2.2.2.1, y.2.2.2.2.1, y.2.2.2.2.2.1, y.2.2.2.2.2.2, nones n))) N := fun {B H vs o x0 y} hd ro h => by
  obtain ⟨v0, _, rfl, r0, v1, _, rfl, r1, v2, _, rfl, r2, v3, _, rfl, r3, v4, _, rfl, r4, v5, _, rfl, r5, v6, rfl, r6⟩ := h
  unfold L2.start
  rw [hN, show n + 8 - ([V.ref d, v0, v1, v2, v3, v4, v5, v6] : List V).length = n from Nat.add_sub_cancel n 8]
  exact rel_bor hd ro (rel_imm r0 (rel_imm r1 (rel_imm r2 (rel_imm r3 (rel_imm r4 (rel_imm r5 (rel_imm r6 (rel_nones n))))))))
theorem hs7 {α0 : Type} {T0 : Ty α0} {α1 : Type} {T1 : Ty α1} {α2 : Type} {T2 : Ty α2} {α3 : Type} {T3 : Ty α3} {α4 : Type} {T4 : Ty α4} {α5 : Type} {T5 : Ty α5} {α6 : Type} {T6 : Ty α6} {B vs y} (h : (rCons T0 (rCons T1 (rCons T2 (rCons T3 (rCons T4 (rCons T5 (rOne T6))))))).rep K B vs y) : vs.length = 7 := by
  obtain ⟨v0, _, rfl, r0, v1, _, rfl, r1, v2, _, rfl, r2, v3, _, rfl, r3, v4, _, rfl, r4, v5, _, rfl, r5, v6, rfl, r6⟩ := h
  rfl
theorem hsM7 {α0 : Type} {T0 : Ty α0} {α1 : Type} {T1 : Ty α1} {α2 : Type} {T2 : Ty α2} {α3 : Type} {T3 : Ty α3} {α4 : Type} {T4 : Ty α4} {α5 : Type} {T5 : Ty α5} {α6 : Type} {T6 : Ty α6} {B vs y} (h : (rCons T0 (rCons T1 (rCons T2 (rCons T3 (rCons T4 (rCons T5 (rOne T6))))))).rep K B vs y) : vs.length + 1 = 8 := by
  obtain ⟨v0, _, rfl, r0, v1, _, rfl, r1, v2, _, rfl, r2, v3, _, rfl, r3, v4, _, rfl, r4, v5, _, rfl, r5, v6, rfl, r6⟩ := h
  rfl
theorem pars8 {α0 : Type} {T0 : Ty α0} {α1 : Type} {T1 : Ty α1} {α2 : Type} {T2 : Ty α2} {α3 : Type} {T3 : Ty α3} {α4 : Type} {T4 : Ty α4} {α5 : Type} {T5 : Ty α5} {α6 : Type} {T6 : Ty α6} {α7 : Type} {T7 : Ty α7} (hN : N.length = n + 8) : Params K (rCons T0 (rCons T1 (rCons T2 (rCons T3 (rCons T4 (rCons T5 (rCons T6 (rOne T7)))))))) (lImm T0 :: lImm T1 :: lImm T2 :: lImm T3 :: lImm T4 :: lImm T5 :: lImm T6 :: lImm T7 :: List.replicate n lNone) (fun y => (y.1, y.2.1, y.2.2.1, y.2.2.2.1, y.2.2.2.2.1, y.2.2.2.2.2.1, y.2.2.2.2.2.2.1, y.2.2.2.2.2.2.2, nones n)) N := fun {B H vs y} h => by
  obtain ⟨v0, _, rfl, r0, v1, _, rfl, r1, v2, _, rfl, r2, v3, _, rfl, r3, v4, _, rfl, r4, v5, _, rfl, r5, v6, _, rfl, r6, v7, rfl, r7⟩ := h
  refine ⟨?_, by rw [hN]; exact Nat.le_add_left _ _⟩
  unfold L2.start
  rw [hN, show n + 8 - ([v0, v1, v2, v3, v4, v5, v6, v7] : List V).length = n from Nat.add_sub_cancel n 8]
  exact (rel_imm r0 (rel_imm r1 (rel_imm r2 (rel_imm r3 (rel_imm r4 (rel_imm r5 (rel_imm r6 (rel_imm r7 (rel_nones n)))))))))
theorem parsM8 {α0 : Type} {T0 : Ty α0} {α1 : Type} {T1 : Ty α1} {α2 : Type} {T2 : Ty α2} {α3 : Type} {T3 : Ty α3} {α4 : Type} {T4 : Ty α4} {α5 : Type} {T5 : Ty α5} {α6 : Type} {T6 : Ty α6} {α7 : Type} {T7 : Ty α7} {δ : Type} {O : OTy δ} {d : Addr} (hN : N.length = n + 9) : ParamsM K d O (rCons T0 (rCons T1 (rCons T2 (rCons T3 (rCons T4 (rCons T5 (rCons T6 (rOne T7)))))))) (lOwn O (some d) :: lImm T0 :: lImm T1 :: lImm T2 :: lImm T3 :: lImm T4 :: lImm T5 :: lImm T6 :: lImm T7 :: List.replicate n lNone) (fun y0 y => (y0, (y.1, y.2.1, y.2.2.1, y.2.2.2.1, y.2.2.2.2.1, y.2.2.2.2.2.1, y.2.2.2.2.2.2.1, y.2.2.2.2.2.2.2, nones n))) N := fun {B H vs o x0 y} hd ro h => by
  obtain ⟨v0, _, rfl, r0, v1, _, rfl, r1, v2, _, rfl, r2, v3, _, rfl, r3, v4, _, rfl, r4, v5, _, rfl, r5, v6, _, rfl, r6, v7, rfl, r7⟩ := h
  unfold L2.start
  rw [hN, show n + 9 - ([V.ref d, v0, v1, v2, v3, v4, v5, v6, v7] : List V).length = n from Nat.add_sub_cancel n 9]
  exact rel_bor hd ro (rel_imm r0 (rel_imm r1 (rel_imm r2 (rel_imm r3 (rel_imm r4 (rel_imm r5 (rel_imm r6 (rel_imm r7 (rel_nones n)))))))))
theorem hs8 {α0 : Type} {T0 : Ty α0} {α1 : Type} {T1 : Ty α1} {α2 : Type} {T2 : Ty α2} {α3 : Type} {T3 : Ty α3} {α4 : Type} {T4 : Ty α4} {α5 : Type} {T5 : Ty α5} {α6 : Type} {T6 : Ty α6} {α7 : Type} {T7 : Ty α7} {B vs y} (h : (rCons T0 (rCons T1 (rCons T2 (rCons T3 (rCons T4 (rCons T5 (rCons T6 (rOne T7)))))))).rep K B vs y) : vs.length = 8 := by
  obtain ⟨v0, _, rfl, r0, v1, _, rfl, r1, v2, _, rfl, r2, v3, _, rfl, r3, v4, _, rfl, r4, v5, _, rfl, r5, v6, _, rfl, r6, v7, rfl, r7⟩ := h
  rfl
theorem hsM8 {α0 : Type} {T0 : Ty α0} {α1 : Type} {T1 : Ty α1} {α2 : Type} {T2 : Ty α2} {α3 : Type} {T3 : Ty α3} {α4 : Type} {T4 : Ty α4} {α5 : Type} {T5 : Ty α5} {α6 : Type} {T6 : Ty α6} {α7 : Type} {T7 : Ty α7} {B vs y} (h : (rCons T0 (rCons T1 (rCons T2 (rCons T3 (rCons T4 (rCons T5 (rCons T6 (rOne T7)))))))).rep K B vs y) : vs.length + 1 = 9 := by
  obtain ⟨v0, _, rfl, r0, v1, _, rfl, r1, v2, _, rfl, r2, v3, _, rfl, r3, v4, _, rfl, r4, v5, _, rfl, r5, v6, _, rfl, r6, v7, rfl, r7⟩ := h
  rfl
end
end L3

/-! L3: values as data: isinstance, equality of nested tuples, _law_same. -/
namespace L3
open PySem PySem.Spec PyProof.Rows L2

theorem PA_of_Dp {K : Fg} {B : Hp} : ∀ {vs : List V} {ds : List PyData}, DpAll K B vs ds → Paired (Dp K B) vs ds
  | _, _, .nil => .nil
  | _, _, .cons h t => .cons h (PA_of_Dp t)
theorem Dp_of_PA {K : Fg} {B : Hp} {vs : List V} {ds : List PyData} (h : Paired (Dp K B) vs ds) : DpAll K B vs ds := by
  induction h with
  | nil => exact .nil
  | cons r _ ih => exact .cons r ih
mutual
theorem Dp.up {K : Fg} {B B' : Hp} (s : Sub B B') : ∀ {d : PyData} {v : V}, Dp K B v d → Dp K B' v d
  | .none, _, h => by cases h; exact .non
  | .bool _, _, h => by cases h; exact .bl _
  | .int _, _, h => by cases h; exact .int _
  | .str _, _, h => by cases h; exact .str _
  | .list ds, _, h => by
    cases h with
    | lst q r => exact .lst (s.seqL q) (DpAll.up s r)
  | .tuple ds, _, h => by
    cases h with
    | tup q r => exact .tup (s.seqT q) (DpAll.up s r)
  | .dict _, _, h => by cases h
theorem DpAll.up {K : Fg} {B B' : Hp} (s : Sub B B') : ∀ {ds : List PyData} {vs : List V}, DpAll K B vs ds → DpAll K B' vs ds
  | [], _, h => by cases h; exact .nil
  | d :: ds, _, h => by
    cases h with
    | cons a t => exact .cons (Dp.up s a) (DpAll.up s t)
end
def tDat : Ty PyData where
  rep := fun K B v x => Dp K B v x
  mono := fun s h => Dp.up s h
  nn := false
  nnok := fun h => nomatch h
  to := false
  took := fun h => nomatch h
def tCls (n : String) : Ty Unit where
  rep := fun _ _ v _ => v = .ty n
  mono := fun _ h => h
  nn := false
  nnok := fun h => nomatch h
  to := true
  took := fun _ _ _ _ _ _ _ h => h

section
variable {X : Cx} {K : Fg} {L : List Loc} {e a b : Expr} {pos : Pos}
theorem y_cls {T : String} {x : Str} (hg : Gl X x) (hm : X.mg x = none) (hv : bootBuiltins x = some (.type T)) (hn : x ≠ "__name__" := by decide) (hd : (x == ("__debug__" : Str)) = false := by decide) :
    PE X (.Name x pos) (tE K L (tCls T) fun _ ρ k => k () ρ) := by
  refine pe_weak (pe_bltn hg hm hv (v := .ty T) rfl hn hd) fun σ H Q ⟨F, B, ρ, ω, k, o, h, e1, q⟩ => ?_
  exact q B _ H _ _ (Sub.refl B) h rfl e1
/-- what isinstance answers -/
def IsT {α : Type} (T : Ty α) (nm : String) (g : α → Bool) : Prop := ∀ {K B v x}, T.rep K B v x → ∃ t, TyX K B v t ∧ PySem.W.kitOne K t (.type nm) = some (g x)
theorem TyX_up {K : Fg} {B H : Hp} (s : Sub B H) {v : V} {t : Value} (h : TyX K B v t) : TyX K H v t := by
  cases h with
  | base h => cases h with
    | non => exact .base .non
    | bl x => exact .base (.bl x)
    | int x => exact .base (.int x)
    | str x => exact .base (.str x)
    | flt x => exact .base (.flt x)
    | lst e => exact .base (.lst (s _ _ e))
    | frz e => exact .base (.frz (s _ _ e))
    | tup e => exact .base (.tup (s _ _ e))
    | dK e => exact .base (.dK (s _ _ e))
    | dT e => exact .base (.dT (s _ _ e))
    | ins e c a1 a2 a3 a4 => exact .base (.ins (s _ _ e) c a1 a2 a3 a4)
  | byt b => exact .byt b
  | set e => exact .set (s _ _ e)
  | kList e c => exact .kList e c
  | kTuple e c => exact .kTuple e c
  | kDict e c => exact .kDict e c
  | fTuple e => exact .fTuple (s _ _ e)
  | fDict e => exact .fDict (s _ _ e)
theorem TyX_T {K : Fg} {B : Hp} {a : Addr} {xs : List V} (h : SqT K B a xs) : TyX K B (.ref a) (.type "tuple") := by
  rcases h with (h | ⟨o, h⟩) | ⟨o, its, n, h, c, _⟩
  · exact .base (.tup h)
  · exact .fTuple h
  · exact .kTuple h c
theorem TyX_L {K : Fg} {B : Hp} {a : Addr} {xs : List V} (h : SqL K B a xs) : TyX K B (.ref a) (.type "list") := by
  rcases h with (h | ⟨o, h⟩) | ⟨o, its, n, h, c, _⟩
  · exact .base (.lst h)
  · exact .base (.frz h)
  · exact .kList h c
theorem c_isi {α : Type} {T : Ty α} {nm : String} {g : α → Bool} (h : IsT T nm g) : OpN K (rIsi K) (rCons T (rOne (tCls nm))) tBool fun p => some (g p.1) := fun {B H y z vs Q} s ⟨v, r, e1, h1, w, e2, h2⟩ e q => by
  subst e1 e2
  cases e
  obtain rfl : w = .ty nm := h2
  obtain ⟨t, ty, k⟩ := h h1
  exact ⟨v, .ty nm, t, .type nm, _, rfl, .ty nm, TyX_up s ty, k, q _ _ _ (gr0 s) rfl⟩
theorem y_isi {α : Type} {T : Ty α} {nm : String} {x : Str} {p p2 : Pos} {g : α → Bool} {m : Mo L α} (h : IsT T nm g) (hg : Gl X "isinstance") (hm : X.mg "isinstance" = none) (hgt : Gl X x) (hmt : X.mg x = none) (hv : bootBuiltins x = some (.type nm)) (he : PE X e (tE X.K L T m))
    (hn : x ≠ "__name__" := by decide) (hd : (x == ("__debug__" : Str)) = false := by decide)
    (hs : starEach [e, .Name x p2] X.env = (false, eval e X.env) :: starEach [.Name x p2] X.env := by rfl) (hpl : (backTo pos (starEach [.Name x p2] X.env)).any (·.1) = false := by rfl) :
    PE X (.Call (.Name "isinstance" p) [e, .Name x p2] [] pos) (tE X.K L tBool fun ω ρ k => m ω ρ fun y ρ' => k (g y) ρ') :=
  y_cB (id := "isinstance") call_isi (c_isi h) hg hm PyProof.Rows.boot_isinstance (a_cons he (a_one (y_cls hgt hmt hv hn hd)) hs) (by decide) (by decide) hs hpl
theorem kit_of' {K : Fg} {a b : String} {r : Bool} (h : kitB a b = some r) : PySem.W.kitOne K (.type a) (.type b) = some r := h
def isD (nm : String) : PyData → Bool
  | .bool _ => nm == "bool" || nm == "int"
  | .int _ => nm == "int"
  | .str _ => nm == "str"
  | .list _ => nm == "list"
  | .tuple _ => nm == "tuple"
  | _ => false
theorem isT_D {nm : String} (h : (nm = "bool" ∨ nm = "int") ∨ nm = "str" ∨ nm = "tuple" := by decide) : IsT tDat nm (isD nm) := fun {K B v x} r => by
  cases r with
  | non => exact ⟨_, .base .non, by rcases h with (rfl | rfl) | rfl | rfl <;> exact kit_of' (by decide +kernel)⟩
  | bl b => exact ⟨_, .base (.bl b), by rcases h with (rfl | rfl) | rfl | rfl <;> exact kit_of' (by simp only [isD]; decide +kernel)⟩
  | int b => exact ⟨_, .base (.int b), by rcases h with (rfl | rfl) | rfl | rfl <;> exact kit_of' (by simp only [isD]; decide +kernel)⟩
  | str b => exact ⟨_, .base (.str b), by rcases h with (rfl | rfl) | rfl | rfl <;> exact kit_of' (by simp only [isD]; decide +kernel)⟩
  | lst q _ => exact ⟨_, TyX_L q, by rcases h with (rfl | rfl) | rfl | rfl <;> exact kit_of' (by simp only [isD]; decide +kernel)⟩
  | tup q _ => exact ⟨_, TyX_T q, by rcases h with (rfl | rfl) | rfl | rfl <;> exact kit_of' (by simp only [isD]; decide +kernel)⟩
theorem isT_tup {β : Type} {R : Tys β} : IsT (tTup R) "tuple" fun _ => true := fun {K B v x} ⟨a, vs, e, q, _⟩ => ⟨.type "tuple", by subst e; exact TyX_T q, kit_of' (show kitB "tuple" "tuple" = some true by decide +kernel)⟩
theorem isT_lst {α : Type} {T : Ty α} : IsT (tLst T) "list" fun _ => true := fun {K B v x} ⟨a, vs, e, q, _⟩ => ⟨.type "list", by subst e; exact TyX_L (.inl (.inl q)), kit_of' (show kitB "list" "list" = some true by decide +kernel)⟩
theorem isT_lstT {α : Type} {T : Ty α} : IsT (tLst T) "tuple" fun _ => false := fun {K B v x} ⟨a, vs, e, q, _⟩ => ⟨.type "list", by subst e; exact TyX_L (.inl (.inl q)), kit_of' (show kitB "list" "tuple" = some false by decide +kernel)⟩
theorem isT_int : IsT tInt "int" fun _ => true := fun {K B v x} e => ⟨.type "int", by cases e; exact .base (.int x), kit_of' (show kitB "int" "int" = some true by decide +kernel)⟩
theorem isT_intB : IsT tInt "bool" fun _ => false := fun {K B v x} e => ⟨.type "int", by cases e; exact .base (.int x), kit_of' (show kitB "int" "bool" = some false by decide +kernel)⟩
theorem isT_bool : IsT tBool "bool" fun _ => true := fun {K B v x} e => ⟨.type "bool", by cases e; exact .base (.bl x), kit_of' (show kitB "bool" "bool" = some true by decide +kernel)⟩
theorem isT_str : IsT tStr "str" fun _ => true := fun {K B v x} e => ⟨.type "str", by cases e; exact .base (.str x), kit_of' (show kitB "str" "str" = some true by decide +kernel)⟩
def optD : PyData → Option PyData
  | .none => none
  | d => some d
theorem y_datO {m : Mo L PyData} (h : PE X e (tE K L tDat m)) : PE X e (tE K L (tOpt tDat) fun ω ρ k => m ω ρ fun x ρ' => k (optD x) ρ') :=
  y_cast optD (fun {B v x} r => by
    cases r with
    | non => rfl
    | bl b => exact ⟨.bl b, fun z => nomatch z⟩
    | int b => exact ⟨.int b, fun z => nomatch z⟩
    | str b => exact ⟨.str b, fun z => nomatch z⟩
    | lst q r => exact ⟨.lst q r, fun z => nomatch z⟩
    | tup q r => exact ⟨.tup q r, fun z => nomatch z⟩) h
def lenD : PyData → Option Int
  | .tuple ds => some (ds.length : Int)
  | _ => none
theorem c_lenDat : OpN K (fun xs H Q => ∃ p ys, xs = [.ref p] ∧ (SqL K H p ys ∨ SqT K H p ys) ∧ Q (.int ys.length) H) (rOne tDat) tInt lenD := fun {B H y z vs Q} s ⟨v, e1, r⟩ e q => by
  subst e1
  cases r with
  | tup h t =>
    cases e
    refine ⟨_, _, rfl, .inr (s.seqT h), ?_⟩
    rw [Paired.length (PA_of_Dp t)]
    exact q _ _ _ (gr0 s) rfl
  | _ => cases e
def ixD : PyData → Int → Option PyData
  | .tuple ds, i => getI ds i
  | _, _ => none
theorem ix_d : Op2 K (rIxT K) tDat tInt tDat ixD := fun {B H x y z v w Q} s hx hy e q => by
  cases hx with
  | tup h t =>
    obtain rfl : w = .int y := hy
    have e : getI _ y = some z := e
    obtain ⟨u, e2, r⟩ := P_getI (PA_of_Dp t) e
    exact ⟨_, _, _, u, rfl, rfl, s.seqT h, e2, q _ _ _ (gr0 s) r⟩
  | _ => cases e
def eqD0 : PyData → PyData → Option Bool
  | .bool a, .bool b => some (decide (a = b))
  | .int a, .int b => some (decide (a = b))
  | .str a, .str b => some (decide (a = b))
  | _, _ => none
theorem o_eqD0 : Op2 K rEq tDat tDat tBool eqD0 := fun {B H x y z v w Q} s hx hy e q => by
  cases hx <;> cases hy <;> first
  | exact o_eqB (K := K) s rfl rfl e q
  | exact o_eqI (K := K) s rfl rfl e q
  | exact o_eqS (K := K) s rfl rfl e q
  | cases e
theorem FnOk.void {P : Program} {w : World} {mg : Str → Option Value} {base : Heap} {CX : CXT} {k : Nat} {f : Addr} {fd : FuncData} {ps : List Str} {sp : Sp} (h : ∀ vs H Q E, ¬ sp vs H Q E) : FnOk P w K mg base CX k f fd ps sp :=
  ⟨fun vs H Q E x => absurd x (h vs H Q E), fun A outer s H args us vs Q E hr I b r x => absurd x (h _ _ _ _)⟩
theorem y_cmpO {op : CmpOp} {r : R2} {α β : Type} {Ta : Ty α} {Tb : Ty β} {g : α → β → Option Bool} {ma : Mo L α} {mb : Mo L β} (ho : OpR X (compareOp op) r) (h : Op2 K r Ta Tb tBool g) (ha : PE X a (tE K L Ta ma)) (hb : PE X b (tE K L Tb mb)) (hm : behindInMarks op b = false) :
    PE X (.Compare a [op] [b] pos) (tE K L tBool (bin2 ma mb g)) := pe_weak (pe_cmpR ho ha hb hm) fun σ H Q w => bin_fin h w
end

/-! ### types whose values are data -/
def Dn : Nat → PyData → Prop
  | _, .none => True
  | _, .bool _ => True
  | _, .int _ => True
  | _, .str _ => True
  | n + 1, .tuple ds => ds.length ≤ 16777216 ∧ ∀ z ∈ ds, Dn n z
  | _, _ => False
theorem Dn.tup {n : Nat} {ds : List PyData} (l : ds.length ≤ 16777216) (h : ∀ z ∈ ds, Dn n z) : Dn (n + 1) (.tuple ds) := by
  unfold Dn; exact ⟨l, h⟩
structure Emb {α : Type} (T : Ty α) where
  to : α → PyData
  rep : ∀ {K B v x}, T.rep K B v x → Dp K B v (to x)
  inj : ∀ {x y}, to x = to y → x = y
  eqv : ∀ {x y}, PyData.eqv (to x) (to y) = true ↔ x = y
  dn : Nat
  dep : ∀ x, (to x).depth ≤ dn
  nl : Bool
  nlok : nl = true → ∀ n, dn ≤ n → ∀ {K B v x}, T.rep K B v x → Dn n (to x)
  ly : Bool
  lyok : ly = true → ∀ x, (to x).canLay0 = true
  nz : Bool
  nzok : nz = true → ∀ x, to x ≠ .none
def dInt : Emb tInt where
  to := .int
  rep := fun h => by cases h; exact .int _
  inj := fun h => by cases h; rfl
  eqv := fun {x y} => by simp [PyData.eqv]
  dn := 0
  dep := fun _ => by simp [PyData.depth]
  nl := true
  nlok := fun _ n _ _ _ _ _ _ => by cases n <;> trivial
  ly := true
  lyok := fun _ x => by simp [PyData.canLay0]
  nz := true
  nzok := fun _ _ h => nomatch h
def dBool : Emb tBool where
  to := .bool
  rep := fun h => by cases h; exact .bl _
  inj := fun h => by cases h; rfl
  eqv := fun {x y} => by simp [PyData.eqv]
  dn := 0
  dep := fun _ => by simp [PyData.depth]
  nl := true
  nlok := fun _ n _ _ _ _ _ _ => by cases n <;> trivial
  ly := true
  lyok := fun _ x => by simp [PyData.canLay0]
  nz := true
  nzok := fun _ _ h => nomatch h
def dStr : Emb tStr where
  to := .str
  rep := fun h => by cases h; exact .str _
  inj := fun h => by cases h; rfl
  eqv := fun {x y} => by simp [PyData.eqv]
  dn := 0
  dep := fun _ => by simp [PyData.depth]
  nl := true
  nlok := fun _ n _ _ _ _ _ _ => by cases n <;> trivial
  ly := false
  lyok := fun h => nomatch h
  nz := true
  nzok := fun _ _ h => nomatch h
def dOpt {α : Type} {T : Ty α} (d : Emb T) (h : d.nz = true := by rfl) : Emb (tOpt T) where
  to := fun x => match x with
    | none => .none
    | some y => d.to y
  rep := fun {K B v x} r => by
    cases x with
    | none => cases (show v = .non from r); exact .non
    | some y => exact d.rep r.1
  inj := fun {x y} e => by
    cases x with
    | none => cases y with
      | none => rfl
      | some y => exact absurd e.symm (d.nzok h y)
    | some x => cases y with
      | none => exact absurd e (d.nzok h x)
      | some y => exact congrArg some (d.inj e)
  eqv := fun {x y} => by
    cases x with
    | none => cases y with
      | none => simp [PyData.eqv]
      | some y =>
        have q := d.nzok h y
        show PyData.eqv .none (d.to y) = true ↔ _
        cases e : d.to y <;> simp [PyData.eqv]
        exact absurd e q
    | some x => cases y with
      | none =>
        have q := d.nzok h x
        show PyData.eqv (d.to x) .none = true ↔ _
        cases e : d.to x <;> simp [PyData.eqv]
        exact absurd e q
      | some y =>
        show PyData.eqv (d.to x) (d.to y) = true ↔ _
        rw [d.eqv]
        exact ⟨fun e => by rw [e], fun e => by cases e; rfl⟩
  dn := d.dn
  dep := fun x => by
    cases x with
    | none => simp [PyData.depth]
    | some y => exact d.dep y
  nl := d.nl
  nlok := fun q n l {K B v x} r => by
    cases x with
    | none => cases n <;> trivial
    | some y => exact d.nlok q n l r.1
  ly := d.ly
  lyok := fun q x => by
    cases x with
    | none => simp [PyData.canLay0]
    | some y => exact d.lyok q y
  nz := false
  nzok := fun h => nomatch h
structure EmbR {β : Type} (R : Tys β) where
  to : β → List PyData
  rep : ∀ {K B vs x}, R.rep K B vs x → Paired (Dp K B) vs (to x)
  inj : ∀ {x y}, to x = to y → x = y
  eqv : ∀ {x y}, PyData.eqvAll (to x) (to y) = true ↔ x = y
  ln : Nat
  lnok : ∀ {K B vs x}, R.rep K B vs x → (to x).length ≤ ln
  dn : Nat
  dep : ∀ x, PyData.depthAll (to x) ≤ dn
  nl : Bool
  nlok : nl = true → ∀ n, dn ≤ n → ∀ {K B vs x}, R.rep K B vs x → ∀ z ∈ to x, Dn n z
  ly : Bool
  lyok : ly = true → ∀ x, PyData.canLayAll0 (to x) = true
def eOne {α : Type} {T : Ty α} (d : Emb T) : EmbR (rOne T) where
  ln := 1
  lnok := fun _ => Nat.le_refl 1
  to := fun x => [d.to x]
  rep := fun ⟨v, e, r⟩ => by subst e; exact .cons (d.rep r) .nil
  inj := fun e => d.inj (List.cons.inj e).1
  eqv := fun {x y} => by simp [PyData.eqvAll, d.eqv]
  dn := d.dn
  dep := fun x => by simp [PyData.depthAll]; exact d.dep x
  nl := d.nl
  nlok := fun q n l {K B vs x} ⟨v, e, r⟩ z m => by rw [List.mem_singleton.mp m]; exact d.nlok q n l r
  ly := d.ly
  lyok := fun q x => by simp [PyData.canLayAll0, d.lyok q x]
def eCons {α β : Type} {T : Ty α} {R : Tys β} (d : Emb T) (e : EmbR R) : EmbR (rCons T R) where
  ln := e.ln + 1
  lnok := fun ⟨v, r, _, h, k⟩ => Nat.succ_le_succ (e.lnok k)
  to := fun x => d.to x.1 :: e.to x.2
  rep := fun ⟨v, r, q, h, k⟩ => by subst q; exact .cons (d.rep h) (e.rep k)
  inj := fun {x y} q => Prod.ext (d.inj (List.cons.inj q).1) (e.inj (List.cons.inj q).2)
  eqv := fun {x y} => by
    simp only [PyData.eqvAll, Bool.and_eq_true, d.eqv, e.eqv]
    exact ⟨fun q => Prod.ext q.1 q.2, fun q => by rw [q]; exact ⟨rfl, rfl⟩⟩
  dn := max d.dn e.dn
  dep := fun x => by
    have a := d.dep x.1
    have b := e.dep x.2
    simp only [PyData.depthAll]
    omega
  nl := d.nl && e.nl
  nlok := fun q n l {K B vs x} ⟨v, r, _, h, k⟩ z m => by
    rw [Bool.and_eq_true] at q
    rcases List.mem_cons.mp m with rfl | m
    · exact d.nlok q.1 n (by omega) h
    · exact e.nlok q.2 n (by omega) k z m
  ly := d.ly && e.ly
  lyok := fun q x => by
    rw [Bool.and_eq_true] at q
    simp only [PyData.canLayAll0, d.lyok q.1, e.lyok q.2, Bool.and_self]
theorem all_inj {α : Type} {f : α → PyData} (h : ∀ {x y}, f x = f y → x = y) : ∀ {xs ys : List α}, xs.map f = ys.map f → xs = ys
  | [], [], _ => rfl
  | [], _ :: _, e => by simp at e
  | _ :: _, [], e => by simp at e
  | x :: xs, y :: ys, e => by
    simp only [List.map_cons, List.cons.injEq] at e
    rw [h e.1, all_inj h e.2]
theorem all_eqv {α : Type} {f : α → PyData} (h : ∀ {x y}, PyData.eqv (f x) (f y) = true ↔ x = y) : ∀ {xs ys : List α}, PyData.eqvAll (xs.map f) (ys.map f) = true ↔ xs = ys
  | [], [] => by simp [PyData.eqvAll]
  | [], _ :: _ => by simp [PyData.eqvAll]
  | _ :: _, [] => by simp [PyData.eqvAll]
  | x :: xs, y :: ys => by
    simp only [List.map_cons, PyData.eqvAll, Bool.and_eq_true, h, all_eqv h, List.cons.injEq]
theorem all_dep {α : Type} {f : α → PyData} {n : Nat} (h : ∀ x, (f x).depth ≤ n) : ∀ xs : List α, PyData.depthAll (xs.map f) ≤ n
  | [] => by simp [PyData.depthAll]
  | x :: xs => by
    have a := h x
    have b := all_dep h xs
    simp only [List.map_cons, PyData.depthAll]
    omega
theorem all_lay {α : Type} {f : α → PyData} (h : ∀ x, (f x).canLay0 = true) : ∀ xs : List α, PyData.canLayAll0 (xs.map f) = true
  | [] => by simp [PyData.canLayAll0]
  | x :: xs => by simp only [List.map_cons, PyData.canLayAll0, h x, all_lay h xs, Bool.and_self]
def eAll {α : Type} {T : Ty α} (d : Emb T) : EmbR (rAll T) where
  ln := 16777216
  lnok := fun h => by rw [List.length_map]; exact h.2
  to := fun x => x.map d.to
  rep := fun {K B vs x} h => by
    have p := h.1
    clear h
    induction p with
    | nil => exact .nil
    | cons r _ ih => exact .cons (d.rep r) ih
  inj := fun e => all_inj d.inj e
  eqv := all_eqv d.eqv
  dn := d.dn
  dep := fun x => all_dep d.dep x
  nl := d.nl
  nlok := fun q n l {K B vs x} h z m => by
    obtain ⟨p, hl⟩ := h
    clear hl
    induction p with
    | nil => cases m
    | cons r t ih =>
      rcases List.mem_cons.mp m with rfl | m
      · exact d.nlok q n l r
      · exact ih m
  ly := d.ly
  lyok := fun q x => all_lay (d.lyok q) x
def dTup {β : Type} {R : Tys β} (e : EmbR R) : Emb (tTup R) where
  to := fun x => .tuple (e.to x)
  rep := fun ⟨a, vs, q, h, k⟩ => by subst q; exact .tup h (Dp_of_PA (e.rep k))
  inj := fun q => e.inj (by injection q)
  eqv := fun {x y} => by simp only [PyData.eqv, e.eqv]
  dn := e.dn + 1
  dep := fun x => by simp only [PyData.depth]; exact Nat.succ_le_succ (e.dep x)
  nl := e.nl && decide (e.ln ≤ 16777216)
  nlok := fun q n l {K B v x} ⟨a, vs, _, _, k⟩ => by
    cases n with
    | zero => omega
    | succ n =>
      rw [Bool.and_eq_true] at q
      exact Dn.tup (Nat.le_trans (e.lnok k) (of_decide_eq_true q.2)) (e.nlok q.1 n (by omega) k)
  ly := e.ly
  lyok := fun q x => by simp only [PyData.canLay0]; exact e.lyok q x
  nz := true
  nzok := fun _ _ h => nomatch h
abbrev dAll {α : Type} {T : Ty α} (d : Emb T) : Emb (tAll T) := dTup (eAll d)
def dLst {α : Type} {T : Ty α} (d : Emb T) : Emb (tLst T) where
  to := fun x => .list (x.map d.to)
  rep := fun {K B v x} ⟨a, vs, q, h, k⟩ => by subst q; exact .lst (.inl (.inl h)) (Dp_of_PA ((eAll d).rep k))
  inj := fun q => (eAll d).inj (by injection q)
  eqv := fun {x y} => by simp only [PyData.eqv]; exact (eAll d).eqv
  dn := d.dn + 1
  dep := fun x => by simp only [PyData.depth]; exact Nat.succ_le_succ ((eAll d).dep x)
  nl := false
  nlok := fun h => nomatch h
  ly := d.ly
  lyok := fun q x => by simp only [PyData.canLay0]; exact (eAll d).lyok q x
  nz := true
  nzok := fun _ _ h => nomatch h
theorem Emb.shp {α : Type} {T : Ty α} (d : Emb T) (h : (d.ly && decide (d.dn ≤ 64)) = true) (x : α) : SeqAt.shaped (d.to x) = true := by
  rw [Bool.and_eq_true] at h
  show ((d.to x).canLay0 && decide ((d.to x).depth ≤ 64)) = true
  rw [d.lyok h.1 x, Bool.true_and]
  exact decide_eq_true (Nat.le_trans (d.dep x) (of_decide_eq_true h.2))
theorem dec_iff {p : Prop} [Decidable p] {b : Bool} (h : b = true ↔ p) : b = decide p := by
  cases b with
  | true => exact (decide_eq_true (h.mp rfl)).symm
  | false => exact (decide_eq_false fun q => absurd (h.mpr q) (fun z => nomatch z)).symm
theorem o_eqD {K : Fg} {α : Type} {T : Ty α} [DecidableEq α] (d : Emb T) (h : (d.ly && decide (d.dn ≤ 64)) = true := by rfl) : Op2 K (rEqD K) T T tBool fun x y => some (decide (x = y)) := fun {B H x y z v w Q} s hx hy e q => by
  cases e
  refine ⟨_, _, Dp.up s (d.rep hx), Dp.up s (d.rep hy), d.shp h x, d.shp h y, ?_⟩
  rw [dec_iff d.eqv]
  exact q _ _ _ (gr0 s) rfl
theorem o_neD {K : Fg} {α : Type} {T : Ty α} [DecidableEq α] (d : Emb T) (h : (d.ly && decide (d.dn ≤ 64)) = true := by rfl) : Op2 K (rNeD K) T T tBool fun x y => some (!decide (x = y)) := fun {B H x y z v w Q} s hx hy e q => by
  cases e
  refine ⟨_, _, Dp.up s (d.rep hx), Dp.up s (d.rep hy), d.shp h x, d.shp h y, ?_⟩
  rw [dec_iff d.eqv]
  exact q _ _ _ (gr0 s) rfl
/-- x in ys, of whatever can be told apart -/
def memD {α : Type} [DecidableEq α] (x : α) (ys : List α) : Bool := decide (x ∈ ys)
theorem memD_iff {α : Type} [DecidableEq α] {x : α} {ys : List α} : memD x ys = true ↔ x ∈ ys := by unfold memD; exact decide_eq_true_iff
theorem o_inD {K : Fg} {α : Type} {T : Ty α} [DecidableEq α] (d : Emb T) (h : (d.ly && decide (d.dn < 64)) = true := by rfl) : Op2 K (rInD K) T (tLst T) tBool fun x ys => some (memD x ys) := fun {B H x y z v w Q} s hx hy e q => by
  cases e
  have h2 : ((dLst d).ly && decide ((dLst d).dn ≤ 64)) = true := h
  have h1 : (d.ly && decide (d.dn ≤ 64)) = true := by
    rw [Bool.and_eq_true] at h ⊢
    exact ⟨h.1, decide_eq_true (Nat.le_of_lt (of_decide_eq_true h.2))⟩
  refine ⟨_, y.map d.to, Dp.up s (d.rep hx), Dp.up s ((dLst d).rep hy), d.shp h1 x, (dLst d).shp h2 y, ?_⟩
  have q2 : ((y.map d.to).any fun z => PyData.eqv z (d.to x)) = memD x y := dec_iff ?_
  · rw [q2]
    exact q _ _ _ (gr0 s) rfl
  · simp only [List.any_eq_true, List.mem_map]
    constructor
    · rintro ⟨z, ⟨y, m, rfl⟩, e⟩
      rw [d.eqv] at e
      exact e ▸ m
    · intro m
      exact ⟨_, ⟨x, m, rfl⟩, d.eqv.mpr rfl⟩
theorem o_notInD {K : Fg} {α : Type} {T : Ty α} [DecidableEq α] (d : Emb T) (h : (d.ly && decide (d.dn < 64)) = true := by rfl) : Op2 K (rNotInD K) T (tLst T) tBool fun x ys => some (!memD x ys) := fun {B H x y z v w Q} s hx hy e q => by
  cases e
  obtain ⟨dd, ds, a1, a2, a3, a4, a5⟩ := o_inD (K := K) d h (Q := fun u H' => Q (match u with | .bl b => .bl (!b) | _ => u) H') s hx hy rfl fun B' H' u g r => by
    cases (show u = .bl (memD x y) from r)
    exact q _ _ _ g rfl
  exact ⟨dd, ds, a1, a2, a3, a4, a5⟩
/-- what is shown of the mirror of _law_same -/
def SameOk (m : Nat → PyData × PyData → Option Bool) : Prop := ∀ n d e, Dn n e → ∃ b, m (n + 1) (d, e) = some b ∧ (b = true ↔ d = e)
section
variable {X : Cx} {K : Fg} {L : List Loc} {a b : Expr} {pos p : Pos} {x : Str}
theorem same_imp {P : Program} {w : World} {K : Fg} {mg : Str → Option Value} {base : Heap} {k : Nat} {ps : List Str} {α : Type} {T : Ty α} [DecidableEq α] {f : Addr} {fd : FuncData} {mS : Nat → PyData × PyData → Option Bool} (d : Emb T) (hd : d.nl = true) (hS : SameOk mS)
    (G : FnOk P w K mg base CX0 k f fd ps (spP K (rCons tDat (rOne tDat)) tBool (mS (d.dn + 1)))) : FnOk P w K mg base CX0 k f fd ps (spP K (rCons T (rOne T)) tBool fun p => some (decide (p.1 = p.2))) := by
  refine G.imp fun vs H Q E ⟨B, x, r, s, ⟨v1, r1, e1, h1, v2, e2, h2⟩, e, q⟩ => ?_
  subst e1 e2
  refine ⟨B, (d.to x.1, d.to x.2), r, s, ⟨v1, _, rfl, d.rep h1, v2, rfl, d.rep h2⟩, ?_, q⟩
  obtain ⟨b, e3, h⟩ := hS d.dn (d.to x.1) (d.to x.2) (d.nlok hd d.dn (Nat.le_refl _) h2)
  rw [e3]
  have e4 : b = decide (x.1 = x.2) := dec_iff (h.trans ⟨fun q => d.inj q, fun q => by rw [q]⟩)
  rw [e4]
  exact e
theorem y_same {α : Type} {T : Ty α} [DecidableEq α] {ma mb : Mo L α} {f : Addr} {fd : FuncData} {mS : Nat → PyData × PyData → Option Bool} (d : Emb T) (hS : SameOk mS)
    (G : ∀ n, FnOk X.prog X.w X.K X.mg X.base CX0 (n + 1) f fd ["actual", "due"] (spP X.K (rCons tDat (rOne tDat)) tBool (mS n))) (hr : Room 40 X.A) (hg : Gl X x) (hm : X.mg x = some (.ref f)) (hk : PySem.W.keepIn X.K (.ref f) = true) (hb : Binds X.K fd ["actual", "due"] [])
    (h1 : PE X a (tE X.K L T ma)) (h2 : PE X b (tE X.K L T mb)) (hd : (d.nl && decide (d.dn + 2 ≤ 40)) = true := by rfl) (hdb : (x == ("__debug__" : Str)) = false := by decide)
    (he1 : starEach [a, b] X.env = (false, eval a X.env) :: starEach [b] X.env := by rfl) (he2 : starEach [b] X.env = (false, eval b X.env) :: starEach [] X.env := by rfl) (hpl : (backTo pos (starEach [b] X.env)).any (·.1) = false := by rfl) :
    PE X (.Call (.Name x p) [a, b] [] pos) (tE X.K L tBool fun ω ρ k => ma ω ρ fun x ρ1 => mb ω ρ1 fun y ρ2 => k (decide (x = y)) ρ2) := by
  rw [Bool.and_eq_true] at hd
  exact y_call (pos := pos) (p := p) (same_imp d hd.1 hS (G (d.dn + 1))) (hr.mono (of_decide_eq_true hd.2)) hg hm hk hb (a_cons h1 (a_one h2 he2) he1) hdb he1 hpl
end
/-! ### _law_same -/
namespace Sm
abbrev S4 := PyData × PyData × Unit × Unit
@[reducible] def body (f : PyData × PyData → Option Bool) (i : Int) (s : S4) : Option (Out S4 S4 Bool) :=
  (ixD s.1 i).bind fun x => (ixD s.2.1 i).bind fun y => (f (x, y)).bind fun z => if (!z) = true then some (.rt false) else some (.nx (s.1, s.2.1, (), s.2.2.2))
abbrev finD : Fin S4 Bool → Option Bool := finO (seqO (N := S4) (N' := S4) (C := S4) (R := Bool) (fun _ k => k (Out.rt true)) retO)
@[reducible] noncomputable def tail (f : PyData × PyData → Option Bool) (d e : PyData) : Option Bool :=
  (if (!isD "tuple" d) = true then some (true, ((d, e, (), ()) : S4)) else (lenD d).bind fun x => (lenD e).bind fun y => some (!decide (x = y), ((d, e, (), ()) : S4))).bind fun p =>
    if p.1 = true then some false else (lenD p.2.2.1).bind fun z => (rng1 z).bind fun zs => (loopM (body f) zs p.2).bind finD
@[reducible] def two (d e : PyData) (a : Bool) : Option Bool := (if a = true then (eqD0 d e).bind fun z => some (z, ((d, e, (), ()) : S4)) else some (false, ((d, e, (), ()) : S4))).bind fun p => some p.1
@[reducible] def three (d e : PyData) : Option Bool := (if isD "int" d = true then ((if (!isD "bool" d) = true then (eqD0 d e).bind fun z => some (z, ((d, e, (), ()) : S4)) else some (false, ((d, e, (), ()) : S4))).bind fun p => some (p.1, p.2)) else some (false, ((d, e, (), ()) : S4))).bind fun p => some p.1
noncomputable def stepA (f : PyData × PyData → Option Bool) (d e : PyData) : Option Bool :=
  if isD "bool" e = true then two d e (isD "bool" d) else if isD "int" e = true then three d e else if isD "str" e = true then two d e (isD "str" d) else if (optD e).isNone = true then some (optD d).isNone else tail f d e
noncomputable def stepB (f : PyData × PyData → Option Bool) (d e : PyData) : Option Bool :=
  if (optD e).isNone = true then some (optD d).isNone else if isD "bool" e = true then two d e (isD "bool" d) else if isD "int" e = true then three d e else if isD "str" e = true then two d e (isD "str" d) else tail f d e
theorem two_ok {d e : PyData} : ∃ b, two d e false = some b ∧ b = false := ⟨_, rfl, rfl⟩
theorem getI_nat {α : Type} (xs : List α) (i : Nat) : getI xs (i : Int) = xs[i]? := by
  unfold getI
  rw [if_pos (by omega), Int.toNat_natCast]
def finB : Fin S4 Bool → Bool
  | .go _ => true
  | .rt r => r
theorem loop_ok {f : PyData × PyData → Option Bool} {n : Nat} (hf : ∀ d e, Dn n e → ∃ b, f (d, e) = some b ∧ (b = true ↔ d = e)) {ds es : List PyData} (hn : ∀ z ∈ es, Dn n z) (hl : ds.length = es.length) :
    ∀ (m k : Nat), k + m = es.length → ds.take k = es.take k → ∃ o, loopM (body f) ((List.range' k m).map fun (i : Nat) => (i : Int)) ((.tuple ds, .tuple es, (), ()) : S4) = some o ∧ (finB o = true ↔ ds = es)
  | 0, k, h, ht => by
    refine ⟨.go (.tuple ds, .tuple es, (), ()), rfl, ?_⟩
    have h1 : k = es.length := by omega
    subst h1
    rw [List.take_length, ← hl, List.take_length] at ht
    simp [ht, finB]
  | m + 1, k, h, ht => by
    have hk : k < es.length := by omega
    have hk2 : k < ds.length := by omega
    obtain ⟨b, e, hb⟩ := hf ds[k] es[k] (hn _ (List.getElem_mem hk))
    have hb1 : body f ((k : Nat) : Int) ((.tuple ds, .tuple es, (), ()) : S4) = if (!b) = true then some (.rt false) else some (.nx (.tuple ds, .tuple es, (), ())) := by
      show (getI ds (k : Int)).bind (fun x => (getI es (k : Int)).bind fun y => (f (x, y)).bind fun z => if (!z) = true then some (Out.rt false) else some (.nx ((.tuple ds, .tuple es, (), ()) : S4))) = _
      rw [getI_nat, getI_nat, List.getElem?_eq_getElem hk, List.getElem?_eq_getElem hk2]
      show (f (ds[k], es[k])).bind (fun z => if (!z) = true then some (Out.rt false) else some (.nx ((.tuple ds, .tuple es, (), ()) : S4))) = _
      rw [e]
      rfl
    rw [List.range'_succ, List.map_cons]
    cases b with
    | false =>
      refine ⟨.rt false, ?_, ?_⟩
      · show (body f _ _).bind _ = _
        rw [hb1]
        rfl
      · simp only [finB, Bool.false_eq_true, false_iff]
        intro q
        subst q
        exact absurd (hb.mpr rfl) (fun z => nomatch z)
    | true =>
      obtain ⟨o, h1, h2⟩ := loop_ok hf hn hl m (k + 1) (by omega) (by
        rw [List.take_succ_eq_append_getElem hk, List.take_succ_eq_append_getElem hk2, ht, hb.mp rfl])
      refine ⟨o, ?_, h2⟩
      show (body f _ _).bind _ = _
      rw [hb1]
      exact h1
theorem isD_t (ds : List PyData) : isD "tuple" (.tuple ds) = true := rfl
theorem tail_tt (f : PyData × PyData → Option Bool) (ds es : List PyData) (n m : Nat) (hd : lenD (.tuple ds) = some (n : Int)) (he : lenD (.tuple es) = some (m : Int)) : tail f (.tuple ds) (.tuple es) = if (!decide ((n : Int) = (m : Int))) = true then some false else (rng1 (m : Int)).bind fun zs => (loopM (body f) zs ((.tuple ds, .tuple es, (), ()) : S4)).bind finD := by
  unfold tail
  rw [hd, isD_t, if_neg (by simp), Option.bind_some, he, Option.bind_some, Option.bind_some]
  show (if (!decide ((n : Int) = (m : Int))) = true then some false else (lenD (.tuple es)).bind fun z => _) = _
  rw [he, Option.bind_some]
theorem tail_ok {f : PyData × PyData → Option Bool} {n : Nat} (hf : ∀ d e, Dn n e → ∃ b, f (d, e) = some b ∧ (b = true ↔ d = e)) {es : List PyData} (hn : ∀ z ∈ es, Dn n z) (hz : es.length ≤ 16777216) : ∀ d, ∃ b, tail f d (.tuple es) = some b ∧ (b = true ↔ d = .tuple es)
  | .none => ⟨false, rfl, by simp⟩
  | .bool _ => ⟨false, rfl, by simp⟩
  | .int _ => ⟨false, rfl, by simp⟩
  | .str _ => ⟨false, rfl, by simp⟩
  | .list _ => ⟨false, rfl, by simp⟩
  | .dict _ => ⟨false, rfl, by simp⟩
  | .tuple ds => by
    by_cases hl : ds.length = es.length
    · obtain ⟨o, h1, h2⟩ := loop_ok hf hn hl es.length 0 (by omega) rfl
      have hr : rng1 (es.length : Int) = some ((List.range' 0 es.length).map fun (i : Nat) => (i : Int)) := by
        rw [rng1_eq]
        unfold rangeL
        rw [if_pos (by omega), List.range_eq_range', Int.sub_zero, Int.toNat_natCast]
        congr 2
        funext i
        omega
      refine ⟨finB o, ?_, h2.trans (by simp)⟩
      rw [tail_tt f ds es _ _ rfl rfl, hl, decide_eq_true rfl, hr, if_neg (by simp), Option.bind_some, h1, Option.bind_some]
      cases o <;> rfl
    · refine ⟨false, ?_, by simp; intro q; exact hl (by rw [q])⟩
      rw [tail_tt f ds es _ _ rfl rfl, decide_eq_false (by omega), if_pos (by simp)]
theorem dn_case {P : PyData → Prop} {n : Nat} (h1 : P .none) (h2 : ∀ b, P (.bool b)) (h3 : ∀ b, P (.int b)) (h4 : ∀ b, P (.str b)) (h5 : ∀ k ds, n = k + 1 → ds.length ≤ 16777216 → (∀ z ∈ ds, Dn k z) → P (.tuple ds)) : ∀ e, Dn n e → P e
  | .none, _ => h1
  | .bool b, _ => h2 b
  | .int b, _ => h3 b
  | .str b, _ => h4 b
  | .tuple ds, h => by
    cases n with
    | zero => exact absurd h (by unfold Dn; simp)
    | succ k =>
      unfold Dn at h
      exact h5 k ds rfl h.1 h.2
  | .list ds, h => by cases n <;> exact absurd h (by unfold Dn; simp)
  | .dict ds, h => by cases n <;> exact absurd h (by unfold Dn; simp)
theorem ok_of {m : Nat → PyData × PyData → Option Bool} {step : (PyData × PyData → Option Bool) → PyData → PyData → Option Bool} (hm : ∀ n d e, m (n + 1) (d, e) = step (m n) d e)
    (h1 : ∀ f d, step f d .none = some (optD d).isNone) (h2 : ∀ f d b, step f d (.bool b) = two d (.bool b) (isD "bool" d)) (h3 : ∀ f d b, step f d (.int b) = three d (.int b)) (h4 : ∀ f d b, step f d (.str b) = two d (.str b) (isD "str" d)) (h5 : ∀ f d b, step f d (.tuple b) = tail f d (.tuple b)) : SameOk m := by
  intro n
  induction n with
  | zero =>
    intro d e he
    rw [hm]
    revert d
    refine dn_case (P := fun e => ∀ d, ∃ b, step (m 0) d e = some b ∧ (b = true ↔ d = e)) (n := 0) ?_ ?_ ?_ ?_ ?_ e he
    · intro d; rw [h1]; cases d <;> exact ⟨_, rfl, by simp [optD]⟩
    · intro b d; rw [h2]; cases d <;> exact ⟨_, rfl, by simp⟩
    · intro b d; rw [h3]; cases d <;> exact ⟨_, rfl, by simp⟩
    · intro b d; rw [h4]; cases d <;> exact ⟨_, rfl, by simp⟩
    · intro k ds q; cases q
  | succ n ih =>
    intro d e he
    rw [hm]
    revert d
    refine dn_case (P := fun e => ∀ d, ∃ b, step (m (n + 1)) d e = some b ∧ (b = true ↔ d = e)) (n := n + 1) ?_ ?_ ?_ ?_ ?_ e he
    · intro d; rw [h1]; cases d <;> exact ⟨_, rfl, by simp [optD]⟩
    · intro b d; rw [h2]; cases d <;> exact ⟨_, rfl, by simp⟩
    · intro b d; rw [h3]; cases d <;> exact ⟨_, rfl, by simp⟩
    · intro b d; rw [h4]; cases d <;> exact ⟨_, rfl, by simp⟩
    · intro k ds q l hn d
      cases q
      rw [h5]
      exact tail_ok ih hn l d
end Sm
theorem same_A {m : Nat → PyData × PyData → Option Bool} (h : ∀ n d e, m (n + 1) (d, e) = Sm.stepA (m n) d e) : SameOk m :=
  Sm.ok_of h (fun _ _ => rfl) (fun _ _ _ => rfl) (fun _ _ _ => rfl) (fun _ _ _ => rfl) (fun _ _ _ => rfl)
theorem same_B {m : Nat → PyData × PyData → Option Bool} (h : ∀ n d e, m (n + 1) (d, e) = Sm.stepB (m n) d e) : SameOk m :=
  Sm.ok_of h (fun _ _ => rfl) (fun _ _ _ => rfl) (fun _ _ _ => rfl) (fun _ _ _ => rfl) (fun _ _ _ => rfl)
end L3

/-! L3: operations on tuples that the hand layer has for lists alone. -/
namespace L3
open PySem PySem.Spec PyProof.Rows L2

/-! ### t += u -/
theorem tupNoI : typeLookup (.type "tuple") (dunderI "add") = pure none := by rw [typeLookup_type, builtinLookup_eq_fast]; kernel_rfl
section
variable {X : Cx}
theorem iop_catA : OpR X (inplaceOp .Add) (rCatA X.K) := by
  intro pins s σ H x y v u Q I rx ry ⟨a, b, xs, ys, ex, ey, ha, hb, hz, q0, q1, q2⟩
  subst ex ey
  cases rx
  cases ry
  obtain ⟨is1, rv1, ⟨⟨c1, d1, dt1, sl1⟩, ho1, hc1, n1, hd1⟩, _⟩ := I.tuple ha
  obtain ⟨is2, rv2, ⟨⟨c2, d2, dt2, sl2⟩, ho2, hc2, n2, hd2⟩, _⟩ := I.tuple hb
  simp only at hc1 hd1 hc2 hd2
  subst hc1 hd1 hc2 hd2
  have l1 := rv1.length
  have l2 := rv2.length
  have road : ∀ {Q' : Value → Shared → Prop} {E'}, wpAny (model X.prog X.w) X.A (call (.builtin "tuple.__add__") [.ref a, .ref b]) Q' E' s → wpAny (model X.prog X.w) X.A (inplaceOp .Add (.ref a) (.ref b)) Q' E' s :=
    fun hh => inplaceOp_concat ⟨_, ho1, rfl⟩ ⟨_, ho2, rfl⟩ tupNoI noFill_tuple_add seq_tuple_add hh
  by_cases hx : xs = []
  · refine road (call_meets PySem.F.slot_tuple_add ⟨_, ho1, rfl⟩ PySem.F.entry_tuple_add (PySem.F.args_tuple_add_2 _ _) (tuple_addW0 a b is1.toArray is2.toArray n1 n2 d1 d2 sl1 sl2 ?_) ⟨ho1, ho2, ⟨.ref b, H, I, rfl, q0 hx⟩⟩)
    rw [rv1.nil_iff.mpr hx]
    rfl
  · by_cases hy : ys = []
    · refine road (call_meets PySem.F.slot_tuple_add ⟨_, ho1, rfl⟩ PySem.F.entry_tuple_add (PySem.F.args_tuple_add_2 _ _) (tuple_addW1 a b is1.toArray is2.toArray n1 n2 d1 d2 sl1 sl2 ?_ ?_) ⟨ho1, ho2, ⟨.ref a, H, I, rfl, q1 hx hy⟩⟩)
      · simp
        exact fun z => hx (rv1.nil_iff.mp z)
      · simp
        exact rv2.nil_iff.mpr hy
    · refine road (call_meets PySem.F.slot_tuple_add ⟨_, ho1, rfl⟩ PySem.F.entry_tuple_add (PySem.F.args_tuple_add_2 _ _) (tuple_addW2 a b is1.toArray is2.toArray n1 n2 d1 d2 sl1 sl2 ?_ ?_ ?_) ⟨ho1, ho2, ?_⟩)
      · simp
        exact fun z => hx (rv1.nil_iff.mp z)
      · simp
        exact fun z => hy (rv2.nil_iff.mp z)
      · rw [List.size_toArray, List.size_toArray]
        omega
      · have e : is1.toArray ++ is2.toArray = (is1 ++ is2).toArray := by simp
        rw [e]
        refine ⟨.ref s.heap.objs.size, _, I.laid (t' := s.toks) (o := .tup (xs ++ ys)) (fun b ob q => Heap.get?_push_of_some _ q) (Nat.le_refl _) ?_, rfl, q2 hx hy _ (I.hok.fresh (Nat.le_refl _))⟩
        exact ⟨by rw [List.length_append]; exact hz, _, rv1.append rv2, IsTup.new _ _⟩

/-! ### t * k -/
theorem mulSame (l : Addr) (its : Array Value) (n : Nat) (dd : Option Addr) (sl : Array (Option Value)) (u : Tok) :
    Meets (Builtin.«tuple.__mul__» ⟨[.ref l, .int 1 u], []⟩) (fun _ R s => s.heap.get? l = some { cls := .type "tuple", dict := dd, data := .seq its n, slots := sl } ∧ R (.ok (.ret (Value.ref l))) { s with heap := s.heap, toks := s.toks }) :=
  .of_wp fun prog w A R s h => by
    obtain ⟨hp, g, d, tk, os⟩ := s
    obtain ⟨hl, h⟩ := h
    have f1 := AutoSeq1.idx_int
    have c1 : (its.isEmpty || (1 : Int) == 1) = true := by simp
    wp_walk using wpAny_loadPart' hl
    exact ⟨_, rfl, h⟩
theorem mulNone (l : Addr) (its : Array Value) (n : Nat) (dd : Option Addr) (sl : Array (Option Value)) (x : Int) (u : Tok) (c0 : (decide (x < -(2 ^ 63)) || decide (x ≥ 2 ^ 63)) = false) (c1 : (its.isEmpty || x == 1) = false) (c2 : (decide (x ≤ 0) || its.isEmpty) = true) :
    Meets (Builtin.«tuple.__mul__» ⟨[.ref l, .int x u], []⟩) (fun _ R s => s.heap.get? l = some { cls := .type "tuple", dict := dd, data := .seq its n, slots := sl } ∧
      R (.ok (.ret (Value.ref s.heap.objs.size))) { s with heap := s.heap.push { cls := Value.type "tuple", data := Data.seq #[] }, toks := s.toks }) :=
  .of_wp fun prog w A R s h => by
    obtain ⟨hp, g, d, tk, os⟩ := s
    obtain ⟨hl, h⟩ := h
    have f1 := AutoSeq1.idx_int
    wp_walk using wpAny_loadPart' hl
    repeat (first
      | (refine wpAny_ite_false (decide_eq_false (by rw [c0]; exact Bool.false_ne_true)) ?_; wp_walk using wpAny_loadPart' hl)
      | (refine wpAny_ite_false (decide_eq_false (by rw [c1]; exact Bool.false_ne_true)) ?_; wp_walk using wpAny_loadPart' hl)
      | (refine wpAny_ite_true (decide_eq_true (by rw [c2])) ?_; wp_walk using wpAny_loadPart' hl))
    exact ⟨_, rfl, h⟩
def rRepA (K : PySem.W.Frag) : R2 := fun x y H Q => ∃ l k xs, x = .ref l ∧ y = .int k ∧ SqT K H l xs ∧ xs ≠ [] ∧ -(2 ^ 63) ≤ k ∧ k < 2 ^ 63 ∧ xs.length * k.toNat ≤ 16777216 ∧
  (k = 1 → Q (.ref l) H) ∧ (k ≠ 1 → ∀ p, H p = none → Q (.ref p) (upd H p (.tup (List.replicate k.toNat xs).flatten)))
theorem op_repA : OpR X (binaryOp .Mult) (rRepA X.K) := by
  intro pins s σ H x y v u Q I rx ry ⟨l, k, xs, ex, ey, hT, hne, h1, h2, hz, q1, q2⟩
  subst ex ey
  cases rx
  obtain ⟨tk, rfl⟩ := ry
  obtain ⟨is1, rv1, ⟨⟨c1, d1, dt1, sl1⟩, ho1, hc1, n1, hd1⟩, _⟩ := I.tuple hT
  simp only at hc1 hd1
  subst hc1 hd1
  have l1 : is1.length = xs.length := rv1.length.symm
  have hn : is1 ≠ [] := fun z => hne (rv1.nil_iff.mp z)
  have hi : is1.toArray.isEmpty = false := by
    cases is1 with
    | nil => exact absurd rfl hn
    | cons a b => rfl
  have c0 : (decide (k < -(2 ^ 63)) || decide (k ≥ 2 ^ 63)) = false := by
    rw [decide_eq_false (by omega), decide_eq_false (by omega)] <;> rfl
  have road : ∀ {Q' : Value → Shared → Prop} {E'}, wpAny (model X.prog X.w) X.A (call (.builtin "tuple.__mul__") [.ref l, .int k tk]) Q' E' s → wpAny (model X.prog X.w) X.A (binaryOp .Mult (.ref l) (.int k tk)) Q' E' s := fun hh =>
    wpAny_binaryOp_repeat_ref (T := "tuple") (U := "int") (by decide) ⟨_, ho1, rfl⟩ (fun s' => typeIs_int s' k tk) noFill_tuple_mul F.fills_int_mul F.slot_int_rmul repeat_tuple F.slot_int_index.lookup
      (call_meets F.slot_int_rmul (typeIs_int s k tk) F.entry_int_rmul (F.args_int_rmul_2 _ _) (int_rmul_tuple k tk l is1.toArray n1 d1 sl1) ⟨ho1, rfl, ⟨_, ho1, rfl⟩, hh⟩)
  by_cases hk : k = 1
  · subst hk
    exact road (call_meets F.slot_tuple_mul ⟨_, ho1, rfl⟩ F.entry_tuple_mul (F.args_tuple_mul_2 _ _) (mulSame l is1.toArray n1 d1 sl1 tk) ⟨ho1, ⟨.ref l, H, I, rfl, q1 rfl⟩⟩)
  have c1 : (is1.toArray.isEmpty || k == 1) = false := by
    rw [hi, Bool.false_or]
    exact beq_eq_false_iff_ne.mpr hk
  by_cases h0 : k ≤ 0
  · have e0 : k.toNat = 0 := by omega
    have q2' := q2 hk
    rw [e0] at q2'
    refine road (call_meets F.slot_tuple_mul ⟨_, ho1, rfl⟩ F.entry_tuple_mul (F.args_tuple_mul_2 _ _) (mulNone l is1.toArray n1 d1 sl1 k tk c0 c1 (by rw [decide_eq_true h0]; rfl)) ⟨ho1, ?_⟩)
    refine ⟨.ref s.heap.objs.size, _, I.laid (t' := s.toks) (o := .tup []) (fun b ob q => Heap.get?_push_of_some _ q) (Nat.le_refl _) ?_, rfl, q2' _ (I.hok.fresh (Nat.le_refl _))⟩
    exact ⟨Nat.zero_le _, [], .nil, IsTup.new _ _⟩
  · have c2 : (decide (k ≤ 0) || is1.toArray.isEmpty) = false := by
      rw [hi, Bool.or_false]
      exact decide_eq_false h0
    have hm : ((is1.toArray.size : Nat) : Int) * k ≤ 16777216 := by
      have e : k = (k.toNat : Int) := by omega
      rw [e, ← Int.natCast_mul, List.size_toArray, l1]
      omega
    have flen : (List.replicate k.toNat is1).flatten.length ≤ sizeLine := by
      rw [PyProof.Rows.lm_len_rep_flat, l1, sizeLine_eq, Nat.mul_comm]
      omega
    have c4 : Builtin.Tuple.tupleTooMany (((is1.toArray.size : Nat) : Int) * k) = false := by
      unfold Builtin.Tuple.tupleTooMany
      rw [sizeLine_eq]
      exact decide_eq_false (by omega)
    refine road (call_meets F.slot_tuple_mul ⟨_, ho1, rfl⟩ F.entry_tuple_mul (F.args_tuple_mul_2 _ _) (tuple_mulW l is1.toArray n1 d1 sl1 k tk c0 c1 c2 (by omega) c4 (by rw [size_rep, List.size_toArray]; exact flen)) ⟨ho1, ?_⟩)
    rw [size_rep]
    refine ⟨.ref s.heap.objs.size, _, I.laid (t' := s.toks) (o := .tup (List.replicate k.toNat xs).flatten) (fun b ob q => Heap.get?_push_of_some _ q) (Nat.le_refl _) ?_, rfl, q2 hk _ (I.hok.fresh (Nat.le_refl _))⟩
    exact ⟨by rw [PyProof.Rows.lm_len_rep_flat, sizeLine_eq, Nat.mul_comm]; omega, _, rv1.rep k.toNat, IsTup.new _ _⟩
noncomputable def repT {α : Type} (xs : List α) (n : Int) : Option (List α) := blk (if xs.isEmpty = false ∧ n < 2 ^ 63 ∧ -(2 ^ 63) ≤ n ∧ xs.length * n.toNat ≤ 16777216 then some (List.replicate n.toNat xs).flatten else none)
theorem repT_eq {α : Type} (xs : List α) (n : Int) : repT xs n = if xs.isEmpty = false ∧ n < 2 ^ 63 ∧ -(2 ^ 63) ≤ n ∧ xs.length * n.toNat ≤ 16777216 then some (List.replicate n.toNat xs).flatten else none := blk_eq _
theorem P_nil {α β : Type} {F : α → β → Prop} {xs : List α} {ys : List β} (h : Paired F xs ys) (e : xs = []) : ys = [] := by
  subst e; cases h; rfl
theorem o_repT {K : Fg} {α : Type} {T : Ty α} : Op2 K (rRepA K) (tAll T) tInt (tAll T) repT := fun {B H x y z v w Q} s hx hy e q => by
  obtain ⟨a, vs, rfl, sq, r⟩ := hx
  obtain rfl : w = .int y := hy
  rw [repT_eq] at e
  split at e
  · rename_i hc
    cases e
    have hl := Paired.length r.1
    have hne : vs ≠ [] := fun z => by
      rw [P_nil r.1 z] at hc
      cases hc.1
    have hrow : ∀ {C : Hp}, Sub B C → (rAll T).rep K C (List.replicate y.toNat vs).flatten (List.replicate y.toNat x).flatten := fun sc => by
      refine ⟨P_flat (Pmap r.1 fun _ _ h => T.mono sc h) _, ?_⟩
      rw [len_flat, sizeLine_eq]
      exact hc.2.2.2
    refine ⟨a, y, vs, rfl, rfl, s.seqT sq, hne, hc.2.2.1, hc.2.1, by rw [hl]; exact hc.2.2.2, fun h1 => ?_, fun h1 p hp => ?_⟩
    · subst h1
      refine q _ _ _ (gr0 s) ⟨a, vs, rfl, sq, ?_⟩
      have := hrow (Sub.refl B)
      simpa using this
    · exact q _ _ _ (Grow.new s hp) ⟨p, _, rfl, .inl (.inl upd_same), hrow (Sub.upd (s.none hp))⟩
  · cases e

/-! ### sum, max, min, sorted of a tuple of ints -/
theorem iterT {prog : Program} {w : World} {A : Around} {E : Value → Shared → Prop} {s : Shared} {l : Addr} {vs : Array Value} {Q : Value → Shared → Prop} (hl : s.heap.IsTuple l vs)
    (h : ∀ s₂ : Shared, s₂ = { s with heap := s.heap.push { cls := .type "tuple_iterator", data := .fields #[.ref l, .int 0 0] } } → (s₂.heap.IsTupleIter s.heap.objs.size l 0 ∧ s₂.heap.IsTuple l vs) → (∀ b ∈ [s.heap.objs.size, l], b < s₂.heap.objs.size) → l ≠ s.heap.objs.size → Q (.ref s.heap.objs.size) s₂) :
    wpAny (model prog w) A (pyIter (.ref l)) Q E s := by
  have hlt : l < s.heap.objs.size := by
    obtain ⟨_, e, _⟩ := hl
    exact Heap.lt_size e
  refine wpAny_pyIter_tuple hl (h _ rfl ⟨⟨_, Heap.get?_push_size _ rfl, rfl, rfl⟩, hl.push _⟩ (fun b hb => ?_) (Nat.ne_of_lt hlt))
  show b < (s.heap.push _).objs.size
  rw [Heap.size_push]
  rcases List.mem_cons.mp hb with rfl | hb
  · exact Nat.lt_succ_self _
  · rw [List.mem_singleton.mp hb]
    exact Nat.lt_succ_of_lt hlt
section
variable {prog : Program} {w : World} {A : Around} {E : Value → Shared → Prop} {s : Shared} {l : Addr} {xs : Array (Int × Tok)} {Q : Value → Shared → Prop} {its : List Value} {ns : List Int}
theorem keptI {o : Obj} {h' : Heap} (hk : ∀ b ob, b ∉ [s.heap.objs.size] → (s.heap.push o).get? b = some ob → h'.get? b = some ob) : ∀ b ob, s.heap.get? b = some ob → h'.get? b = some ob := fun b ob e =>
  hk b ob (fun m => by
    rw [List.mem_singleton.mp m] at e
    exact Nat.lt_irrefl _ (Heap.lt_size e)) (Heap.get?_push_of_some _ e)
theorem sumT_raw (hh : A.handled = none) (hl : s.heap.IsTuple l its.toArray) (hi : IntsAre its ns)
    (h : ∀ h' tk t', (∀ b o, s.heap.get? b = some o → h'.get? b = some o) → Q (.int ns.sum t') { s with heap := h', toks := tk }) : wpAny (model prog w) A (call (.builtin "sum") [.ref l]) Q E s := by
  obtain ⟨xs, e⟩ := hi.allInts.items
  have hn : numsOf (intItems xs).toList = ns := by rw [← e]; exact hi.numsOf
  rw [nums_intItems] at hn
  rw [e] at hl
  refine call_sum_walkG (iterT hl fun s2 e2 st hfp hlI => ?_)
  subst e2
  refine ⟨_, _, _, _, _, _, numAt xs, rfl, Walks.tuple (A := A.in1) hh _ l hlI (intItems xs), st, hfp, (fun _ _ => intItems_at), fun h' tk t' hk => ?_⟩
  have g := h h' tk t' (keptI hk)
  have e3 : preSum (numAt xs) (intItems xs).size = ns.sum := by
    rw [preSum_eq, List.take_of_length_le (by simp [intItems]), hn]
  rw [e3]
  exact g
theorem maxT_raw (hh : A.handled = none) (hl : s.heap.IsTuple l its.toArray) (hi : IntsAre its ns) (hne : 0 < ns.length)
    (h : ∀ h' tk M t', (∀ b o, s.heap.get? b = some o → h'.get? b = some o) → M ∈ ns → (∀ a, a ∈ ns → a ≤ M) → Q (.int M t') { s with heap := h', toks := tk }) : wpAny (model prog w) A (call (.builtin "max") [.ref l]) Q E s := by
  obtain ⟨xs, e⟩ := hi.allInts.items
  have hn : numsOf (intItems xs).toList = ns := by rw [← e]; exact hi.numsOf
  rw [nums_intItems] at hn
  subst hn
  rw [e] at hl
  have hsz : 0 < xs.size := by simpa using hne
  refine call_max_walk (iterT hl fun s2 e2 st hfp hlI => ?_)
  subst e2
  refine ⟨_, _, _, _, _, _, _, rfl, Walks.tuple (A := A.in1) hh _ l hlI (intItems xs), st, hfp, by simpa [intItems] using hsz, CmpOf.ints_gt (numAt xs) (fun _ _ => intItems_at), fun v h' tk hP hk => ?_⟩
  have hP' : (intItems xs)[argBest (fun i j => decide (numAt xs i > numAt xs j)) (xs.size - 1)]? = some v := by simpa [intItems] using hP
  obtain ⟨t, rfl⟩ := intItems_at hP'
  obtain ⟨h1, h2⟩ := argBest_gt (numAt xs) (xs.size - 1)
  refine h h' tk _ t (keptI hk) ?_ fun a ha => ?_
  · rw [numAt_eq]; exact PySem.getD_mem (by rw [List.length_map, Array.length_toList]; omega)
  · obtain ⟨j, hj, rfl⟩ := mem_getD ha
    rw [List.length_map, Array.length_toList] at hj
    rw [← numAt_eq]; exact h2 j (by omega)
theorem minT_raw (hh : A.handled = none) (hl : s.heap.IsTuple l its.toArray) (hi : IntsAre its ns) (hne : 0 < ns.length)
    (h : ∀ h' tk M t', (∀ b o, s.heap.get? b = some o → h'.get? b = some o) → M ∈ ns → (∀ a, a ∈ ns → M ≤ a) → Q (.int M t') { s with heap := h', toks := tk }) : wpAny (model prog w) A (call (.builtin "min") [.ref l]) Q E s := by
  obtain ⟨xs, e⟩ := hi.allInts.items
  have hn : numsOf (intItems xs).toList = ns := by rw [← e]; exact hi.numsOf
  rw [nums_intItems] at hn
  subst hn
  rw [e] at hl
  have hsz : 0 < xs.size := by simpa using hne
  refine call_min_walk (iterT hl fun s2 e2 st hfp hlI => ?_)
  subst e2
  refine ⟨_, _, _, _, _, _, _, rfl, Walks.tuple (A := A.in1) hh _ l hlI (intItems xs), st, hfp, by simpa [intItems] using hsz, CmpOf.ints_lt (numAt xs) (fun _ _ => intItems_at), fun v h' tk hP hk => ?_⟩
  have hP' : (intItems xs)[argBest (fun i j => decide (numAt xs i < numAt xs j)) (xs.size - 1)]? = some v := by simpa [intItems] using hP
  obtain ⟨t, rfl⟩ := intItems_at hP'
  obtain ⟨h1, h2⟩ := argBest_lt (numAt xs) (xs.size - 1)
  refine h h' tk _ t (keptI hk) ?_ fun a ha => ?_
  · rw [numAt_eq]; exact PySem.getD_mem (by rw [List.length_map, Array.length_toList]; omega)
  · obtain ⟨j, hj, rfl⟩ := mem_getD ha
    rw [List.length_map, Array.length_toList] at hj
    rw [← numAt_eq]; exact h2 j (by omega)
end
def rSumT (K : PySem.W.Frag) : List V → Hp → VK → Prop := fun vs H Q => ∃ (a : Addr) (ns : List Int), vs = [V.ref a] ∧ SqT K H a (ns.map V.int) ∧ Q (.int ns.sum) H
def rMaxT (K : PySem.W.Frag) : List V → Hp → VK → Prop := fun vs H Q => ∃ (a : Addr) (ns : List Int), vs = [V.ref a] ∧ SqT K H a (ns.map V.int) ∧ 0 < ns.length ∧ ∀ m, m ∈ ns → (∀ y, y ∈ ns → y ≤ m) → Q (.int m) H
def rMinT (K : PySem.W.Frag) : List V → Hp → VK → Prop := fun vs H Q => ∃ (a : Addr) (ns : List Int), vs = [V.ref a] ∧ SqT K H a (ns.map V.int) ∧ 0 < ns.length ∧ ∀ m, m ∈ ns → (∀ y, y ∈ ns → m ≤ y) → Q (.int m) H
theorem tupHold {pins : List (Addr × Obj)} {σ : L2.St} {H : Hp} {s : Shared} (I : Inv X pins σ H s) {a : Addr} {xs : List V} (h : SqT X.K H a xs) : ∃ its, Vals xs its ∧ s.heap.IsTuple a its.toArray ∧ xs.length ≤ sizeLine := by
  obtain ⟨its, r, ⟨o, ho, hc, n, hd⟩, hz⟩ := I.tuple h
  exact ⟨its, r, ⟨o, ho, hc, n, hd⟩, hz⟩
theorem cr_sumT (hc : X.calm = true) : CallR X (.builtin "sum") (rSumT X.K) := fun {pins s σ H vs us Q} I r ⟨a, ns, e, hs, q⟩ => by
  subst e
  obtain ⟨its, rv, hl, _⟩ := tupHold I hs
  rw [Vals.ref1 r]
  exact sumT_raw (I.ok.hd hc) hl rv.ints fun h' tk t' hk => ⟨.int _, H, I.kept hk, ⟨_, rfl⟩, q⟩
theorem cr_maxT (hc : X.calm = true) : CallR X (.builtin "max") (rMaxT X.K) := fun {pins s σ H vs us Q} I r ⟨a, ns, e, hs, hne, q⟩ => by
  subst e
  obtain ⟨its, rv, hl, _⟩ := tupHold I hs
  rw [Vals.ref1 r]
  exact maxT_raw (I.ok.hd hc) hl rv.ints hne fun h' tk m t' hk h1 h2 => ⟨.int _, H, I.kept hk, ⟨_, rfl⟩, q m h1 h2⟩
theorem cr_minT (hc : X.calm = true) : CallR X (.builtin "min") (rMinT X.K) := fun {pins s σ H vs us Q} I r ⟨a, ns, e, hs, hne, q⟩ => by
  subst e
  obtain ⟨its, rv, hl, _⟩ := tupHold I hs
  rw [Vals.ref1 r]
  exact minT_raw (I.ok.hd hc) hl rv.ints hne fun h' tk m t' hk h1 h2 => ⟨.int _, H, I.kept hk, ⟨_, rfl⟩, q m h1 h2⟩
section
variable {prog : Program} {w : World} {A : Around} {E : Value → Shared → Prop} {s : Shared}
theorem collectT {l : Addr} {vs : List Value} {Q : List Value → Shared → Prop} (hl : s.heap.IsTuple l vs.toArray) (hsz : vs.length ≤ sizeLine)
    (h : Q vs { s with heap := (s.heap.push (seqObj "list" #[] 0)).update s.heap.objs.size (Obj.mapSeq (· ++ vs.toArray)) }) :
    wpAny (model prog w) A (collect (.ref l)) Q E s := by
  obtain ⟨ob, ho, hc, nn, hd⟩ := id hl
  unfold collect
  refine wpAny_bind (wpAny_runValue (codeAny_builtin entry_proto_collect' ?_))
  show wpAny _ _ (do again (.builtin "list.__iadd__" ⟨[← newList [], .ref l], []⟩)) _ _ s
  refine wpAny_bind (wpAny_newList (wpAny_pure ⟨Code.quiet_builtin _ (by decide +kernel), codeAny_builtin entry_list_iadd' ?_⟩))
  show wpAny _ _ (Builtin.List.listExtendWith (.ref s.heap.objs.size) (.ref l) (.ref s.heap.objs.size)) _ _ { s with heap := s.heap.push (seqObj "list" #[] 0) }
  unfold Builtin.List.listExtendWith
  have hob : (s.heap.push (seqObj "list" #[] 0)).get? l = some ob := Heap.get?_push_of_some _ ho
  refine wpAny_bind (wpAny_typeOf (T := "tuple") ⟨ob, hob, hc⟩ ?_)
  have hty : (Value.type "tuple" == Value.type "tuple") = true := by rfl
  rw [if_pos (by rw [hty]; simp)]
  refine wpAny_bind (listItems_at hob hd ?_)
  refine wpAny_bind (listItems_at (xs := #[]) (n := 0) (Heap.get?_push_size _ rfl) rfl ?_)
  rw [if_neg (by simp)]
  refine wpAny_bind (listUpdate_at (xs := #[]) (n := 0) (Heap.get?_push_size _ rfl) rfl ?_ (Nat.zero_le _) (by show (#[] ++ vs.toArray).size ≤ sizeLine + 1; simp only [Array.size_append, List.size_toArray, List.length_nil]; omega))
  refine wpAny_pure ?_
  show wpAny (model prog w) A (do
      let o ← load s.heap.objs.size
      match o.data with
      | .seq xs _ => pure xs.toList
      | _ => unsupported "internal:collect") Q E { s with heap := (s.heap.push (seqObj "list" #[] 0)).update s.heap.objs.size (Obj.mapSeq (· ++ vs.toArray)) }
  refine wpAny_bind (wpAny_load (get?_update_seq (Heap.get?_push_size _ rfl) _) ?_)
  show wpAny _ _ (pure ((#[] : Array Value) ++ vs.toArray).toList) Q E _
  have hlist : ((#[] : Array Value) ++ vs.toArray).toList = vs := by simp
  rw [hlist]
  exact wpAny_pure h
theorem sortedT_ord {l : Addr} {vs : List Value} {ltv : Value → Value → Bool} {Q : Value → Shared → Prop} (O : SrtO.Swo ltv) (hl : s.heap.IsTuple l vs.toArray) (hz : vs.length ≤ sizeLine)
    (hS : 2 ≤ vs.length → ∀ (h₁ : Heap) (a : Addr), h₁.get? a = some (seqObj "list" vs.toArray 0) → (∀ b o, s.heap.get? b = some o → b ≠ a ∧ h₁.get? b = some o) → SrtO.SortableO prog w A.in1.in1 { s with heap := h₁ } a vs ltv)
    (h : ∀ out : List Value, SrtO.Srtd ltv out → SrtO.Stb ltv out vs → Q (.ref (s.heap.objs.size + 1)) { s with heap := sortedAll s.heap vs out.toArray }) :
    wpAny (model prog w) A (call (.builtin "sorted") [.ref l]) Q E s := by
  refine Calls.call_function_entry kind_sorted plain_sorted entry_sorted (args_sorted1 _) ?_
  unfold Builtin.«sorted»
  refine wpAny_bind (m := checkCount "sorted" 1 1 _) (wpAny_pure ?_)
  refine wpAny_bind (collectT hl hz ?_)
  refine wpAny_bind (wpAny_newList ?_ hz)
  have h1 : ((s.heap.push (seqObj "list" #[] 0)).update s.heap.objs.size (Obj.mapSeq (· ++ vs.toArray))).objs.size = s.heap.objs.size + 1 := by
    rw [Heap.size_update, size_push']
  have h2 : (((s.heap.push (seqObj "list" #[] 0)).update s.heap.objs.size (Obj.mapSeq (· ++ vs.toArray))).push (seqObj "list" vs.toArray 0)).get? (s.heap.objs.size + 1) = some (seqObj "list" vs.toArray 0) := by
    rw [← h1]; exact Heap.get?_push_size _ rfl
  have h3 : ∀ b o, s.heap.get? b = some o → b ≠ s.heap.objs.size + 1 ∧ (((s.heap.push (seqObj "list" #[] 0)).update s.heap.objs.size (Obj.mapSeq (· ++ vs.toArray))).push (seqObj "list" vs.toArray 0)).get? b = some o := fun b o q => by
    have hb : b < s.heap.objs.size := Heap.lt_size q
    refine ⟨Nat.ne_of_lt (Nat.lt_succ_of_lt hb), Heap.get?_push_of_some _ ?_⟩
    rw [Heap.get?_update_ne _ _ _ _ (Nat.ne_of_lt hb)]
    exact Heap.get?_push_of_some _ q
  show wpAny _ _ _ _ _ { s with heap := ((s.heap.push (seqObj "list" #[] 0)).update s.heap.objs.size (Obj.mapSeq (· ++ vs.toArray))).push (seqObj "list" vs.toArray 0) }
  rw [h1]
  refine wpAny_bind (wpAny_holding (wpAny_call_entry slot_list_sort ⟨_, h2, rfl⟩ entry_list_sort (SrtO.list_sort_ord O h2 hz (fun g2 => hS g2 _ _ h2 h3) fun out hs hb => ⟨_, rfl, ?_⟩) (args_list_sort _)))
  exact wpAny_pure ⟨_, rfl, h out hs hb⟩
end
def rSortedIT (K : PySem.W.Frag) : List V → Hp → VK → Prop := fun vs H Q => ∃ (a : Addr) (ns : List Int), vs = [V.ref a] ∧ SqT K H a (ns.map V.int) ∧
  ∀ (ns' : List Int) (p : Addr), ns'.Perm ns → ns'.Pairwise (· ≤ ·) → H p = none → Q (.ref p) (upd H p (.lst (ns'.map V.int)))
theorem cr_sortedIT : CallR X (.builtin "sorted") (rSortedIT X.K) := fun {pins s σ H vs us Q} I r ⟨a, ns, e, hs, q⟩ => by
  subst e
  obtain ⟨its, rv, hl, hz⟩ := tupHold I hs
  rw [Vals.ref1 r]
  have hi := rv.ints
  refine sortedT_ord SrtO.swo_int hl (by rw [← rv.length]; exact hz) (fun g2 g a' _ _ => SrtO.ints_sortable hi g2) fun out g1 g2 => ?_
  obtain ⟨k1, k2, k3⟩ := SrtO.ints_out hi g1 g2
  obtain ⟨ep, he'⟩ := PyProof.Rows.sortedAll_at s.heap its out.toArray
  have hlen : ((out.map SrtO.iv).map V.int).length ≤ sizeLine := by
    rw [List.length_map] at hz ⊢
    rw [k2.length_eq]
    exact hz
  refine ⟨.ref _, upd H (s.heap.objs.size + 1) (.lst ((out.map SrtO.iv).map V.int)), I.laid (t' := s.toks) (fun _ _ => PyProof.Rows.sortedAll_old) (Nat.le_succ _) ?_, rfl, q _ _ k2 k3 (I.hok.fresh (Nat.le_succ _))⟩
  exact ⟨hlen, out, ep, vals_of_ints k1, he'⟩

/-! ### what these give by typed values -/
section
variable {K : Fg}
theorem intsT {B : Hp} {v : V} {x : List Int} (h : (tAll tInt).rep K B v x) : ∃ a, v = .ref a ∧ SqT K B a (x.map V.int) ∧ x.length ≤ sizeLine := by
  obtain ⟨a, vs, e, sq, r⟩ := h
  have e2 := P_ints (Pmap r.1 fun _ _ h => h)
  subst e2
  exact ⟨a, e, sq, r.2⟩
theorem intsL {B : Hp} {v : V} {x : List Int} (h : (tLst tInt).rep K B v x) : ∃ a, v = .ref a ∧ SqL K B a (x.map V.int) ∧ x.length ≤ sizeLine := by
  obtain ⟨a, vs, e, sq, r⟩ := h
  have e2 := P_ints (Pmap r.1 fun _ _ h => h)
  subst e2
  exact ⟨a, e, .inl (.inl sq), r.2⟩
theorem blsL {B : Hp} {v : V} {x : List Bool} (h : (tLst tBool).rep K B v x) : ∃ a, v = .ref a ∧ SqL K B a (x.map V.bl) := by
  obtain ⟨a, vs, e, sq, r⟩ := h
  have e2 := P_bls (Pmap r.1 fun _ _ h => h)
  subst e2
  exact ⟨a, e, .inl (.inl sq)⟩
theorem c_sumT : OpN K (rSumT K) (rOne (tAll tInt)) tInt fun x => some x.sum := fun {B H y z vs Q} s ⟨v, e1, h⟩ e q => by
  subst e1
  cases e
  obtain ⟨a, rfl, sq, _⟩ := intsT h
  exact ⟨a, y, rfl, s.seqT sq, q _ _ _ (gr0 s) rfl⟩
theorem c_sum : OpN K (rSum K) (rOne (tLst tInt)) tInt fun x => some x.sum := fun {B H y z vs Q} s ⟨v, e1, h⟩ e q => by
  subst e1
  cases e
  obtain ⟨a, rfl, sq, _⟩ := intsL h
  exact ⟨a, y, rfl, s.seqL sq, q _ _ _ (gr0 s) rfl⟩
theorem c_any : OpN K (rAny K) (rOne (tLst tBool)) tBool fun x => some (x.any id) := fun {B H y z vs Q} s ⟨v, e1, h⟩ e q => by
  subst e1
  cases e
  obtain ⟨a, rfl, sq⟩ := blsL h
  exact ⟨a, y, rfl, s.seqL sq, q _ _ _ (gr0 s) rfl⟩
theorem c_all : OpN K (L2.rAll K) (rOne (tLst tBool)) tBool fun x => some (x.all id) := fun {B H y z vs Q} s ⟨v, e1, h⟩ e q => by
  subst e1
  cases e
  obtain ⟨a, rfl, sq⟩ := blsL h
  exact ⟨a, y, rfl, s.seqL sq, q _ _ _ (gr0 s) rfl⟩
theorem max_one {xs : List Int} {m z : Int} (h : xs.max? = some z) (h1 : m ∈ xs) (h2 : ∀ y ∈ xs, y ≤ m) : m = z := by
  obtain ⟨g1, g2⟩ := List.max?_eq_some_iff.mp h
  have a := g2 m h1
  have b := h2 z g1
  omega
theorem min_one {xs : List Int} {m z : Int} (h : xs.min? = some z) (h1 : m ∈ xs) (h2 : ∀ y ∈ xs, m ≤ y) : m = z := by
  obtain ⟨g1, g2⟩ := List.min?_eq_some_iff.mp h
  have a := g2 m h1
  have b := h2 z g1
  omega
theorem max_len {xs : List Int} {z : Int} (h : xs.max? = some z) : 0 < xs.length := by
  cases xs with
  | nil => cases h
  | cons a l => exact Nat.succ_pos _
theorem min_len {xs : List Int} {z : Int} (h : xs.min? = some z) : 0 < xs.length := by
  cases xs with
  | nil => cases h
  | cons a l => exact Nat.succ_pos _
theorem c_maxT : OpN K (rMaxT K) (rOne (tAll tInt)) tInt fun x => x.max? := fun {B H y z vs Q} s ⟨v, e1, h⟩ e q => by
  subst e1
  obtain ⟨a, rfl, sq, _⟩ := intsT h
  exact ⟨a, y, rfl, s.seqT sq, max_len e, fun m h1 h2 => q _ _ _ (gr0 s) (congrArg V.int (max_one e h1 h2))⟩
theorem c_minT : OpN K (rMinT K) (rOne (tAll tInt)) tInt fun x => x.min? := fun {B H y z vs Q} s ⟨v, e1, h⟩ e q => by
  subst e1
  obtain ⟨a, rfl, sq, _⟩ := intsT h
  exact ⟨a, y, rfl, s.seqT sq, min_len e, fun m h1 h2 => q _ _ _ (gr0 s) (congrArg V.int (min_one e h1 h2))⟩
theorem c_maxL : OpN K (rMax K) (rOne (tLst tInt)) tInt fun x => x.max? := fun {B H y z vs Q} s ⟨v, e1, h⟩ e q => by
  subst e1
  obtain ⟨a, rfl, sq, _⟩ := intsL h
  exact ⟨a, y, rfl, s.seqL sq, max_len e, fun m h1 h2 => q _ _ _ (gr0 s) (congrArg V.int (max_one e h1 h2))⟩
theorem c_minL : OpN K (rMin K) (rOne (tLst tInt)) tInt fun x => x.min? := fun {B H y z vs Q} s ⟨v, e1, h⟩ e q => by
  subst e1
  obtain ⟨a, rfl, sq, _⟩ := intsL h
  exact ⟨a, y, rfl, s.seqL sq, min_len e, fun m h1 h2 => q _ _ _ (gr0 s) (congrArg V.int (min_one e h1 h2))⟩
def sortI (xs : List Int) : List Int := xs.mergeSort fun a b => decide (a ≤ b)
theorem sortI_perm (xs : List Int) : (sortI xs).Perm xs := List.mergeSort_perm xs _
theorem sortI_srt (xs : List Int) : (sortI xs).Pairwise (· ≤ ·) := by
  have h := List.pairwise_mergeSort (le := fun a b : Int => decide (a ≤ b)) (fun a b c h1 h2 => by simp only [decide_eq_true_eq] at *; omega) (fun a b => by simp only [Bool.or_eq_true, decide_eq_true_eq]; omega) xs
  exact h.imp fun h => by simpa using h
theorem sortI_eq {xs ys : List Int} (h : ys.Perm xs) (h2 : ys.Pairwise (· ≤ ·)) : ys = sortI xs :=
  List.Perm.eq_of_pairwise (fun a b _ _ h1 h2 => Int.le_antisymm h1 h2) h2 (sortI_srt xs) (h.trans (sortI_perm xs).symm)
theorem sortRow {B : Hp} {x : List Int} (h : x.length ≤ sizeLine) : (oLst tInt).rep K B (.lst ((sortI x).map V.int)) (sortI x) :=
  ⟨_, rfl, Pmap (P_ofInts _) fun _ _ h => h, by rw [(sortI_perm x).length_eq]; exact h⟩
theorem c_sortL : OpNO K (rSortedI K) (rOne (tLst tInt)) (oLst tInt) fun x => some (sortI x) := fun {B H y z vs Q} s ⟨v, e1, h⟩ e q => by
  subst e1
  cases e
  obtain ⟨a, rfl, sq, hl⟩ := intsL h
  refine ⟨a, y, rfl, s.seqL sq, fun ns p h1 h2 hp => ?_⟩
  rw [sortI_eq h1 h2]
  exact q p _ hp (sortRow hl)
theorem c_sortT : OpNO K (rSortedIT K) (rOne (tAll tInt)) (oLst tInt) fun x => some (sortI x) := fun {B H y z vs Q} s ⟨v, e1, h⟩ e q => by
  subst e1
  cases e
  obtain ⟨a, rfl, sq, hl⟩ := intsT h
  refine ⟨a, y, rfl, s.seqT sq, fun ns p h1 h2 hp => ?_⟩
  rw [sortI_eq h1 h2]
  exact q p _ hp (sortRow hl)
theorem o_isB : Op2 K (fun x y H Q => ∃ a b, x = .bl a ∧ y = .bl b ∧ Q (.bl (decide (a = b))) H) tBool tBool tBool fun x y => some (decide (x = y)) := fun {B H x y z v w Q} s hx hy e q => by
  cases e
  exact ⟨x, y, hx, hy, q _ _ _ (gr0 s) rfl⟩
theorem o_isnotB : Op2 K (fun x y H Q => ∃ a b, x = .bl a ∧ y = .bl b ∧ Q (.bl (!decide (a = b))) H) tBool tBool tBool fun x y => some (!decide (x = y)) := fun {B H x y z v w Q} s hx hy e q => by
  cases e
  exact ⟨x, y, hx, hy, q _ _ _ (gr0 s) rfl⟩
end
end
end L3

/-! L3: further words. -/
namespace L3
open PySem PySem.Spec PyProof.Rows L2
section
variable {X : Cx} {L : List Loc} {e a b : Expr} {elo ehi : Option Expr} {pos p2 : Pos}
/-- a written part of a tuple of unlike things -/
def CutN {β γ : Type} (R : Tys β) (R' : Tys γ) (lo hi : Option Int) (g : β → γ) : Prop := ∀ {K B vs x}, R.rep K B vs x → R'.rep K B (cutV vs lo hi) (g x)
theorem y_slN {β γ : Type} {R : Tys β} {R' : Tys γ} {lo hi : Option Int} {g : β → γ} {m : Mo L β} (hc : CutN R R' lo hi g) (he : PE X e (tE X.K L (tTup R) m)) (hl : PO X elo (tPt X.K L fun _ ρ k => k lo ρ)) (hh : PO X ehi (tPt X.K L fun _ ρ k => k hi ρ)) :
    PE X (.Subscript e (.Slice elo ehi none p2) pos) (tE X.K L (tTup R') fun ω ρ k => m ω ρ fun x ρ1 => k (g x) ρ1) := by
  refine pe_weak (pe_slice sl_tupA he hl hh) fun σ H Q ⟨F, B, ρ, ω, k, o, st, e1, q⟩ => ?_
  refine ⟨F, B, ρ, ω, _, o, st, e1, fun B1 v H1 x1 ρ1 s1 st1 r1 e2 => ⟨F, B1, ρ1, ω, fun x ρ2 => if x = lo then k (g x1) ρ2 else none, o, st1, by show (if lo = lo then k (g x1) ρ1 else none) = some o; rw [if_pos rfl]; exact e2, fun B2 H2 x2 ρ2 s2 st2 e3 => ?_⟩⟩
  by_cases q1 : x2 = lo
  case neg =>
    have e3 : (if x2 = lo then k (g x1) ρ2 else none) = some o := e3
    rw [if_neg q1] at e3
    cases e3
  have e3 : (if x2 = lo then k (g x1) ρ2 else none) = some o := e3
  rw [if_pos q1] at e3
  have e3' : k (g x1) ρ2 = some o := e3
  clear e3
  subst q1
  refine ⟨F, B2, ρ2, ω, fun x ρ3 => if x = hi then k (g x1) ρ3 else none, o, st2, by show (if hi = hi then k (g x1) ρ2 else none) = some o; rw [if_pos rfl]; exact e3', fun B3 H3 x3 ρ3 s3 st3 e4 => ?_⟩
  by_cases q2 : x3 = hi
  case neg =>
    have e4 : (if x3 = hi then k (g x1) ρ3 else none) = some o := e4
    rw [if_neg q2] at e4
    cases e4
  have e4 : (if x3 = hi then k (g x1) ρ3 else none) = some o := e4
  rw [if_pos q2] at e4
  have e4' : k (g x1) ρ3 = some o := e4
  subst q2
  obtain ⟨a, vs, rfl, sq, r⟩ := (tTup R).mono (s2.trans s3) r1
  have rc := hc r
  refine ⟨a, vs, rfl, st3.sb.seqT sq, fun hw => ?_, fun _ p hp => ?_⟩
  · have hv : cutV vs x2 x3 = vs := by
      unfold cutV
      rw [hw.1, hw.2, List.drop_zero, Nat.sub_zero, List.take_length]
    rw [hv] at rc
    exact q B3 _ H3 _ _ ((s1.trans s2).trans s3) st3 ⟨a, vs, rfl, sq, rc⟩ e4'
  · have gr := Grow.new (o := HO.tup (cutV vs x2 x3)) st3.sb hp
    exact q _ _ _ _ _ (((s1.trans s2).trans s3).trans gr.b) (st3.grow gr) ⟨p, _, rfl, .inl (.inl upd_same), R'.mono gr.b rc⟩ e4'
/-- t[:2] of three -/
theorem cut_02 {α β γ : Type} {T : Ty α} {U : Ty β} {W : Ty γ} : CutN (rCons T (rCons U (rOne W))) (rCons T (rOne U)) none (some 2) fun x => (x.1, x.2.1) := fun {K B vs x} ⟨v, r, e, h, w, r2, e2, k, z, e3, l⟩ => by
  subst e e2 e3
  exact ⟨v, [w], rfl, h, w, rfl, k⟩
/-! ### x in a sequence of ints -/
theorem inV_int {K : Fg} {B : Hp} {x : Int} : ∀ {vs : List V} {xs : List Int}, Paired (tInt.rep K B) vs xs → inV (.int x) vs = decide (x ∈ xs)
  | _, _, .nil => rfl
  | _, _, .cons (l₁ := vs) (l₂ := xs) (b := y) r t => by
    cases (show _ = V.int y from r)
    unfold inV
    rw [List.any_cons]
    have ih := inV_int (x := x) t
    unfold inV at ih
    rw [ih]
    have e : eqV (V.int y) (V.int x) = decide (x = y) := by
      show (y == x) = decide (x = y)
      by_cases h : x = y
      · subst h
        simp
      · rw [decide_eq_false h]
        exact beq_eq_false_iff_ne.mpr (Ne.symm h)
    rw [e]
    simp [List.mem_cons]
theorem flat_ints {K : Fg} {B : Hp} : ∀ {vs : List V} {xs : List Int}, Paired (tInt.rep K B) vs xs → vs.all flatV = true
  | _, _, .nil => rfl
  | _, _, .cons (b := y) r t => by
    cases (show _ = V.int y from r)
    rw [List.all_cons, flat_ints t]
    rfl
variable {K : Fg}
theorem o_inT : Op2 K (rIn K false) tInt (tAll tInt) tBool fun x ys => some (decide (x ∈ ys)) := fun {B H x y z v w Q} s hx hy e q => by
  cases e
  obtain ⟨a, vs, rfl, sq, r⟩ := hy
  obtain rfl : v = .int x := hx
  refine ⟨a, vs, rfl, .inr (s.seqT sq), rfl, flat_ints r.1, ?_⟩
  rw [if_neg (by decide), inV_int r.1]
  exact q _ _ _ (gr0 s) rfl
theorem o_inL : Op2 K (rIn K false) tInt (tLst tInt) tBool fun x ys => some (decide (x ∈ ys)) := fun {B H x y z v w Q} s hx hy e q => by
  cases e
  obtain ⟨a, vs, rfl, sq, r⟩ := hy
  obtain rfl : v = .int x := hx
  refine ⟨a, vs, rfl, .inl (s.seqL (.inl (.inl sq))), rfl, flat_ints r.1, ?_⟩
  rw [if_neg (by decide), inV_int r.1]
  exact q _ _ _ (gr0 s) rfl
theorem o_notInT : Op2 K (rIn K true) tInt (tAll tInt) tBool fun x ys => some (!decide (x ∈ ys)) := fun {B H x y z v w Q} s hx hy e q => by
  cases e
  obtain ⟨a, vs, rfl, sq, r⟩ := hy
  obtain rfl : v = .int x := hx
  refine ⟨a, vs, rfl, .inr (s.seqT sq), rfl, flat_ints r.1, ?_⟩
  rw [if_pos rfl, inV_int r.1]
  exact q _ _ _ (gr0 s) rfl
theorem o_notInL : Op2 K (rIn K true) tInt (tLst tInt) tBool fun x ys => some (!decide (x ∈ ys)) := fun {B H x y z v w Q} s hx hy e q => by
  cases e
  obtain ⟨a, vs, rfl, sq, r⟩ := hy
  obtain rfl : v = .int x := hx
  refine ⟨a, vs, rfl, .inl (s.seqL (.inl (.inl sq))), rfl, flat_ints r.1, ?_⟩
  rw [if_pos rfl, inV_int r.1]
  exact q _ _ _ (gr0 s) rfl
/-- xs[::-1] of a list -/
theorem y_revL {α : Type} {T : Ty α} {m : Mo L (List α)} {k : Nat} {q1 q2 q3 : Pos} (he : PE X e (tE X.K L (tLst T) m)) : PE X (.Subscript e (.Slice none none (some (.UnaryOp .USub (.Constant (.int 1) k q1) q2)) q3) pos) (tO X.K L (oLst T) fun ω ρ k => m ω ρ fun x ρ' => k x.reverse ρ') := by
  refine pe_weak (pe_revL he) fun σ H Q ⟨F, B, ρ, ω, k, o, st, e1, q⟩ => ?_
  refine ⟨F, B, ρ, ω, _, o, st, e1, fun B1 v H1 x1 ρ1 s1 st1 r1 e2 => ?_⟩
  obtain ⟨a, vs, rfl, sq, r⟩ := r1
  refine ⟨a, vs, rfl, st1.sb.seqL (.inl (.inl sq)), fun p hp => ?_⟩
  obtain ⟨own, S, h1, h2, h3, h4⟩ := st1.made (o := HO.lst vs.reverse) hp
  exact q B1 p _ _ own _ _ s1 S h1 ⟨_, rfl, P_rev r.1, by rw [List.length_reverse]; exact r.2⟩ h2 h3 h4 e2
/-- xs[i], by values -/
theorem get_list : PGet X (rIxL X.K) := by
  intro pins s σ H x y v u Q I rx ry ⟨p, xs, k, z, ex, ey, hq, he, q⟩
  subst ex ey
  cases rx
  obtain ⟨tk, rfl⟩ := ry
  obtain ⟨its, r, pl, hz⟩ := I.list hq
  obtain ⟨j, h1, h2, h3, h4, h5⟩ := atI_get he
  obtain ⟨w, ew, rw'⟩ := r.get h2
  have hl := r.length
  have hn := line63
  by_cases h0 : 0 ≤ k
  · have hj : k.toNat = j := by
      rw [seqIndex_of h0 h5] at h1
      exact Option.some.inj h1
    exact wpAny_getItem_list pl.isList h0 (by omega) (by rw [hj]; simpa using ew) ⟨z, H, I, rw', q⟩
  · have hj : (k + (its.toArray.size : Int)).toNat = j := by
      rw [seqIndex_neg (by omega) h4] at h1
      rw [List.size_toArray, ← hl]
      exact Option.some.inj h1
    exact wpAny_getItem_list_neg pl.isList (by omega) (by rw [List.size_toArray]; omega) (by omega) (by rw [hj]; simpa using ew) ⟨z, H, I, rw', q⟩
/-- xs[i] op= e, ints in an own list -/
theorem y_augL {L' Lh : List Loc} {S : RS} {fo : Option Addr} {n : Nat} {x : Str} {px tpos : Pos} {op : Operator} {r : R2} {g : Int → Int → Option Int} {mi me : Mo L Int} {ie : Expr} (i : Ix (lOwn (oLst tInt) fo) n L) (hN : X.N[n]? = some x) (hv : Vis X.env.scope x) (ho : OpR X (inplaceOp op) r) (hg : Op2 X.K r tInt tInt tInt g) (hi : PE X ie (tE X.K L tInt mi)) (he : PE X e (tE X.K L tInt me))
    (hd2 : (x == ("__debug__" : Str)) = false := by decide) (hcd : (x == ("__classdict__" : Str)) = false := by decide)
    (ha : ∀ ov iv new, augStore ie ov iv new = (do holding [new, ov, iv] (setItem ov iv new); release [new, ov, iv] []; pure .next) := by intros; rfl) :
    PS X (.AugAssign (.Subscript (.Name x px) ie tpos) op e pos) (tS X.K L L Lh S fun ω ρ k => mi ω ρ fun j ρ1 => (getI (i.get ρ1) j).bind fun old => me ω ρ1 fun y ρ2 => (g old y).bind fun z => (setC (i.get ρ2) j z).bind fun zs => k (.nx (i.set zs ρ2))) := by
  refine ps_weak (ps_augS (pe_var hN hv hd2 hcd) hi get_list he (fun pins s σ H x y v u Q I rx ry h => ho pins s σ H x y v u Q I rx ry h) set_list ha) fun D σ H ⟨F, B, ρ, ω, k, oo, st, e1, q'⟩ => ?_
  obtain ⟨own0, S0⟩ := id st
  obtain ⟨d0, _, w1, _⟩ := S0.rel.own i
  refine ⟨.ref d0, w1, F, B, ρ, ω, _, oo, st, e1, fun B1 v H1 j ρ1 s1 st1 r1 e2 => ?_⟩
  obtain ⟨old, e3, e4⟩ := bind_some e2
  obtain ⟨own1, S1⟩ := id st1
  obtain ⟨d1, _, v1, v2, v3, ⟨vs, rfl, rp⟩, _⟩ := S1.rel.own i
  have ed : d1 = d0 := by
    rw [w1] at v1
    simp at v1
    exact v1.symm
  subst ed
  obtain ⟨zz, e5, rz⟩ := P_getI rp.1 e3
  cases r1
  refine ⟨d1, vs, _, zz, rfl, rfl, .inl (.inl v3), e5, F, B1, ρ1, ω, _, oo, st1, e4, fun B2 w H2 y ρ2 s2 st2 r2 e6 => ?_⟩
  obtain ⟨z, e7, e8⟩ := bind_some e6
  refine hg st2.sb rz r2 e7 fun B3 H3 u3 gr ru => ?_
  obtain ⟨zs, e9, e10⟩ := bind_some e8
  have q := q' _ e10
  obtain ⟨own3, S3⟩ := st2.grow gr
  obtain ⟨d3, _, u1, u2, u3', ⟨us, rfl, rp3⟩, _⟩ := S3.rel.own i
  have ed : d3 = d1 := by
    rw [w1] at u1
    simp at u1
    exact u1.symm
  subst ed
  obtain ⟨jj, e11, e12⟩ := map_some e9
  subst e12
  refine ⟨d3, us, _, jj, rfl, rfl, u3', by rw [Paired.length rp3.1]; exact e11, ?_⟩
  exact q B3 σ _ ((s1.trans s2).trans gr.b) ⟨own3, S3.setc i u1 u2 ⟨_, rfl, P_set jj rp3.1 ru, Nat.le_trans (Nat.le_of_eq List.length_set) rp3.2⟩⟩
end
/-! ### a def of two parameters, of which the second is an own list that it changes -/
def spM2 (K : Fg) {β γ δ : Type} (O : OTy δ) (T1 : Ty β) (T : Ty γ) (f : δ → β → Option (γ × δ)) : Sp := fun vs H Q _ => ∃ B d v1 o x0 x r, vs = [v1, .ref d] ∧ Sub B H ∧ H d = some o ∧ B d = none ∧ O.rep K B o x0 ∧ T1.rep K B v1 x ∧ f x0 x = some r ∧
  ∀ B' v o' H', GrowM d B H B' H' → H' d = some o' → B' d = none → O.rep K B' o' r.2 → T.rep K B' v r.1 → Q v H'
section
variable {P : Program} {w : World} {K : Fg} {mg : Str → Option Value} {base : Heap}
theorem fnM2 {x qual : Str} {st : Stmt} {f : Addr} {fd : FuncData} {N ps : List Str} {k n : Nat} {β γ δ : Type} {O : OTy δ} {T1 : Ty β} {T : Ty γ} {L' : Addr → List Loc} {fm : δ → β → Option (γ × δ)} {m : (d : Addr) → Ms (lImm T1 :: lOwn O (some d) :: List.replicate n lNone) (L' d) [] (rsM d O T)}
    (F : Fun K x qual st f fd) (S : FnScope N ps (defScope st)) (hl : ps.length = 2) (hN : N.length = n + 2)
    (hm : ∀ d y0 y, fm y0 y = m d (γ × δ) (y, (y0, nones n)) retO)
    (hb : ∀ (d : Addr) (cdv : Value) (A : Around) (outer : List PySem.Env) (s : Shared) (H : Hp) (E : XK), Room k (A.deeper (envOfC qual (defScope st) s.heap.objs.size f cdv)) →
      PSs (cxOf CX0 P w K mg base N qual (defScope st) f cdv A outer s H E).nox (defBody st) (tS K (lImm T1 :: lOwn O (some d) :: List.replicate n lNone) (L' d) [] (rsM d O T) (m d))) :
    FnOk P w K mg base CX0 (k + 1) f fd ps (spM2 K O T1 T fm) := by
  refine F.ok S (fun vs H Q E h => ?_) (fun cdv A outer s H vs Q E hr h => ?_)
  · obtain ⟨B, d, v1, o, x0, y, r, rfl, _⟩ := h
    rw [hl]
    rfl
  · obtain ⟨B, d, v1, o, x0, y, r, rfl, sb, hd, hbn, ro, rp, e1, q⟩ := h
    refine ⟨_, hb d cdv A outer s H E hr, ?_⟩
    have hrel : Rel K B H (lImm T1 :: lOwn O (some d) :: List.replicate n lNone) [d] (L2.start N [v1, .ref d]) (y, (x0, nones n)) := by
      unfold L2.start
      rw [hN, show n + 2 - ([v1, V.ref d] : List V).length = n from Nat.add_sub_cancel n 2]
      exact rel_imm rp (rel_bor hd ro (rel_nones n))
    refine ⟨⟨H, B, [d]⟩, B, (y, (x0, nones n)), γ × δ, retO, r, ⟨[d], Sub.refl B, sb, fun _ _ _ z => z, fun _ _ z => .inl z, hrel, (by simp), fun a z => ?_⟩, by rw [← hm d x0 y]; exact e1, fun out e2 => ?_⟩
    · obtain rfl := List.mem_singleton.mp z
      exact ⟨hbn, .inr z⟩
    · obtain rfl := retO_of e2
      intro v H' ⟨B', o', s1, s2, s3, s4, rv, h1, h2, h3⟩
      refine q B' v o' H' ⟨s1, fun a u n z => s3 a u (fun y => n (List.mem_singleton.mp y)) z, s2, fun a z => ?_⟩ h1 h2 h3 rv
      cases z2 : H a with
      | none => exact .inr rfl
      | some u =>
        rcases s4 a (by show H a ≠ none; rw [z2]; exact fun y => nomatch y) z with y | y
        · exact .inl y
        · obtain rfl := List.mem_singleton.mp y
          exact absurd h2 z
end
section
variable {X : Cx} {L : List Loc} {a : Expr} {pos p : Pos} {x : Str} {lv : Nat} {f : Addr} {fd : FuncData} {ps : List Str}
theorem y_callM2 {β γ δ : Type} {O : OTy δ} {fo : Option Addr} {T1 : Ty β} {T : Ty γ} {fm : δ → β → Option (γ × δ)} {m : Mo L β} {n : Nat} {y : Str} {p2 : Pos} (i : Ix (lOwn O fo) n L) (hN : X.N[n]? = some y) (hv : Vis X.env.scope y)
    (G : FnOk X.prog X.w X.K X.mg X.base CX0 lv f fd ps (spM2 X.K O T1 T fm)) (hr : Room lv X.A) (hg : Gl X x) (hm : X.mg x = some (.ref f)) (hk : PySem.W.keepIn X.K (.ref f) = true) (hb : Binds X.K fd ps [])
    (ha : PE X a (tE X.K L T1 m)) (hdb : (x == ("__debug__" : Str)) = false := by decide) (he1 : starEach [a, .Name y p2] X.env = (false, eval a X.env) :: starEach [.Name y p2] X.env := by rfl) (he2 : starEach [.Name y p2] X.env = (false, eval (.Name y p2) X.env) :: starEach [] X.env := by rfl) (hpl : (backTo pos (starEach [.Name y p2] X.env)).any (·.1) = false := by rfl) (hd2 : (y == ("__debug__" : Str)) = false := by decide) (hcd : (y == ("__classdict__" : Str)) = false := by decide) :
    PE X (.Call (.Name x p) [a, .Name y p2] [] pos) (tE X.K L T fun ω ρ k => m ω ρ fun x ρ' => (fm (i.get ρ') x).bind fun z => k z.1 (i.set z.2 ρ')) := by
  refine pe_weak (pe_call G hr hg hm hk hb .nil pass0 (pa_cons ha (pa_cons (pe_var hN hv hd2 hcd) pa_nil he2) he1) hdb he1 hpl) fun σ H Q ⟨F, B, ρ, ω, k, oo, st, e1, q⟩ => ?_
  refine ⟨F, B, ρ, ω, _, oo, st, e1, fun B' v H' x ρ1 s st' r1 e2 => ?_⟩
  obtain ⟨z, e4, e5⟩ := bind_some e2
  obtain ⟨own, S⟩ := st'
  obtain ⟨d', o, w2, w3, w4, w5, _⟩ := S.rel.own i
  refine ⟨.ref d', w2, ?_⟩
  show spM2 X.K O T1 T fm ([v, .ref d'] ++ []) H' Q E0
  rw [List.append_nil]
  refine ⟨B', d', v, o, _, x, z, rfl, S.sub, w4, (S.own d' w3).1, w5, r1, e4, fun B2 v o' H2 gr h1 h2 ro rv => ?_⟩
  exact q B2 v H2 _ _ (s.trans gr.b) ⟨own, S.growM i w2 w3 gr h1 h2 ro⟩ rv e5
end
end L3

/-! L3: order of values: sorted, min, max, comparisons of whatever reads as data. -/
namespace L3
open PySem PySem.Spec PyProof.Rows L2 PySem.W
/-- an order, as Python has it for alike data -/
structure Ord {α : Type} {T : L3.Ty α} (d : Emb T) where
  lt : α → α → Bool
  al : ∀ x y, alike (d.to x) (d.to y) = true
  ok : ∀ x y, dataLt (d.to x) (d.to y) = lt x y
  nz : ∀ x, d.to x ≠ .none
structure OrdR {β : Type} {R : Tys β} (e : EmbR R) where
  lt : β → β → Bool
  al : ∀ x y, alikeAll (e.to x) (e.to y) = true
  ok : ∀ x y, rowLt (e.to x) (e.to y) = lt x y
def uInt : Ord dInt where
  lt := fun x y => decide (x < y)
  al := fun _ _ => by simp [dInt, alike]
  ok := fun x y => dataLt_int x y
  nz := fun _ h => nomatch h
def uStr : Ord dStr where
  lt := fun x y => decide (x.cps.toList < y.cps.toList)
  al := fun _ _ => by simp [dStr, alike]
  ok := fun x y => dataLt_str x y
  nz := fun _ h => nomatch h
def uBool : Ord dBool where
  lt := fun x y => decide (b2i x < b2i y)
  al := fun _ _ => by simp [dBool, alike]
  ok := fun x y => dataLt_bool x y
  nz := fun _ h => nomatch h
def wOne {α : Type} {T : L3.Ty α} {d : Emb T} (u : Ord d) : OrdR (eOne d) where
  lt := u.lt
  al := fun x y => by
    show alikeAll [d.to x] [d.to y] = true
    rw [alikeAll, u.al, alikeAll]
    rfl
  ok := fun x y => by
    show rowLt [d.to x] [d.to y] = _
    unfold rowLt
    rw [dataLt_cons (u.al x y)]
    have e : PyProof.Rows.lexLt itemOrd (keyToksAll []) (keyToksAll []) = false := lex_irrefl _
    by_cases h : PyData.eqv (d.to x) (d.to y) = true
    · rw [if_pos h, e]
      obtain rfl := d.eqv.mp h
      rw [← u.ok]
      exact (lex_irrefl _).symm
    · rw [if_neg h, u.ok]
def wCons {α β : Type} {T : L3.Ty α} {R : Tys β} {d : Emb T} {e : EmbR R} (u : Ord d) (w : OrdR e) [DecidableEq α] : OrdR (eCons d e) where
  lt := fun x y => if x.1 = y.1 then w.lt x.2 y.2 else u.lt x.1 y.1
  al := fun x y => by
    show alikeAll (d.to x.1 :: e.to x.2) (d.to y.1 :: e.to y.2) = true
    rw [alikeAll, u.al, w.al]
    rfl
  ok := fun x y => by
    show rowLt (d.to x.1 :: e.to x.2) (d.to y.1 :: e.to y.2) = _
    have w2 := w.ok x.2 y.2
    unfold rowLt at w2 ⊢
    rw [dataLt_cons (u.al x.1 y.1), w2, u.ok]
    by_cases h : x.1 = y.1
    · rw [if_pos h, if_pos (d.eqv.mpr h)]
    · rw [if_neg h, if_neg fun z => h (d.eqv.mp z)]
def uTup {β : Type} {R : Tys β} {e : EmbR R} (w : OrdR e) : Ord (dTup e) where
  lt := w.lt
  al := fun x y => by
    show alike (.tuple (e.to x)) (.tuple (e.to y)) = true
    rw [alike]
    exact w.al x y
  ok := fun x y => by
    show dataLt (.tuple (e.to x)) (.tuple (e.to y)) = _
    rw [dataLt_tuple]
    exact w.ok x y
  nz := fun _ h => nomatch h
def lexL {α : Type} [DecidableEq α] (lt : α → α → Bool) : List α → List α → Bool
  | [], [] => false
  | [], _ :: _ => true
  | _ :: _, [] => false
  | x :: xs, y :: ys => if x = y then lexL lt xs ys else lt x y
def wAll {α : Type} {T : L3.Ty α} {d : Emb T} (u : Ord d) [DecidableEq α] : OrdR (eAll d) where
  lt := lexL u.lt
  al := fun x y => by
    show alikeAll (x.map d.to) (y.map d.to) = true
    induction x generalizing y with
    | nil => rw [List.map_nil, alikeAll]
    | cons a x ih => cases y with
      | nil => rw [List.map_cons, List.map_nil, alikeAll]
      | cons b y =>
        rw [List.map_cons, List.map_cons, alikeAll, u.al, ih]
        rfl
  ok := fun x y => by
    show rowLt (x.map d.to) (y.map d.to) = _
    induction x generalizing y with
    | nil => cases y with
      | nil => exact lex_irrefl _
      | cons b y =>
        show PyProof.Rows.lexLt itemOrd (keyToksAll []) (keyToksAll (d.to b :: y.map d.to)) = true
        rw [keyToksAll, toks_all_cons]
        exact (lex_atom (by simp) _ _).trans (by decide)
    | cons a x ih => cases y with
      | nil =>
        show PyProof.Rows.lexLt itemOrd (keyToksAll (d.to a :: x.map d.to)) (keyToksAll []) = false
        rw [keyToksAll, toks_all_cons]
        exact (lex_atom (by simp) _ _).trans (by decide)
      | cons b y =>
        have h := ih y
        unfold rowLt at h ⊢
        rw [List.map_cons, List.map_cons, dataLt_cons (u.al a b), h, u.ok]
        show _ = if a = b then _ else _
        by_cases z : a = b
        · rw [if_pos z, if_pos (d.eqv.mpr z)]
        · rw [if_neg z, if_neg fun q => z (d.eqv.mp q)]
/-- sorted, the least, the greatest -/
def sortU {α : Type} (lt : α → α → Bool) (xs : List α) : List α := xs.mergeSort fun a b => !lt b a
def minU {α : Type} (lt : α → α → Bool) : List α → Option α
  | [] => none
  | a :: l => some (l.foldl (fun a y => if lt y a then y else a) a)
def maxU {α : Type} (lt : α → α → Bool) : List α → Option α
  | [] => none
  | a :: l => some (l.foldl (fun a y => if lt a y then y else a) a)
section
variable {X : Cx} {K : Fg}
theorem P_each {β : Type} {F : V → β → Prop} {G : Value → β → Prop} {vs : List V} {us : List Value} {xs : List β} (h : Paired F vs xs) (r : Vals vs us) (k : ∀ v u x, F v x → RelV v u → G u x) : EachIs G us xs := by
  induction h generalizing us with
  | nil => cases r; exact .nil
  | cons a _ ih => cases r with
    | cons r t => exact .cons (k _ _ _ a r) (ih t)
theorem each_P {β : Type} {F : V → β → Prop} {us : List Value} {xs : List β} (h : EachIs (fun u x => ∃ v, RelV v u ∧ F v x) us xs) : ∃ vs, Vals vs us ∧ Paired F vs xs := by
  induction h with
  | nil => exact ⟨[], .nil, .nil⟩
  | cons a _ ih =>
    obtain ⟨v, r, f⟩ := a
    obtain ⟨vs, r2, p⟩ := ih
    exact ⟨v :: vs, .cons r r2, .cons f p⟩
/-- sorted of whatever is alike -/
def rSortU (K : Fg) {α : Type} (T : L3.Ty α) (lt : α → α → Bool) : List V → Hp → VK → Prop := fun vs H Q => ∃ (B : Hp) (a : Addr) (xs : List α) (us : List V), Sub B H ∧ vs = [V.ref a] ∧ (SqL K H a us ∨ SqT K H a us) ∧ Paired (T.rep K B) us xs ∧
  ∀ (ys : List V) (p : Addr), Paired (T.rep K B) ys (sortU lt xs) → H p = none → Q (.ref p) (upd H p (.lst ys))
theorem sortable_of {α : Type} {T : L3.Ty α} {d : Emb T} {xs : List α} (h : (∀ x ∈ xs, ∃ y r, d.to x = .tuple (y :: r)) ∨ ∀ x ∈ xs, d.to x ≠ .none ∧ ∀ ys, d.to x ≠ .tuple ys) : PySem.W.Sortable (xs.map d.to) := by
  rcases h with h | h
  · refine .inl fun z hz => ?_
    obtain ⟨x, m, rfl⟩ := List.mem_map.mp hz
    exact h x m
  · refine .inr fun z hz => ?_
    obtain ⟨x, m, rfl⟩ := List.mem_map.mp hz
    exact h x m
theorem alike_of {α : Type} {T : L3.Ty α} {d : Emb T} (u : Ord d) (xs : List α) : AllAlike (xs.map d.to) := fun a ha b hb => by
  obtain ⟨x, _, rfl⟩ := List.mem_map.mp ha
  obtain ⟨y, _, rfl⟩ := List.mem_map.mp hb
  exact u.al x y
theorem dataLe_ord {α : Type} {T : L3.Ty α} {d : Emb T} (u : Ord d) : dataLe false d.to = fun a b => !u.lt b a := by
  rw [dataLe_eq]
  funext a b
  show (!dataLt (d.to b) (d.to a)) = _
  rw [u.ok]
theorem P_dat {B H : Hp} (s : Sub B H) {α : Type} {T : L3.Ty α} (d : Emb T) {vs : List V} {xs : List α} (h : Paired (T.rep K B) vs xs) : DpAll K H vs (xs.map d.to) := by
  induction h with
  | nil => exact .nil
  | cons a _ ih => exact .cons (d.rep (T.mono s a)) ih
theorem cr_sortU {α : Type} {T : L3.Ty α} {d : Emb T} (u : Ord d) (hs : (∀ x, ∃ y r, d.to x = .tuple (y :: r)) ∨ ∀ x ys, d.to x ≠ .tuple ys) (hd : d.dn ≤ 60) (hu : X.A.units + 64 < cLine) : CallR X (.builtin "sorted") (fun vs H Q => ∃ (B : Hp) (a : Addr) (xs : List α) (us : List V), Sub B H ∧ vs = [V.ref a] ∧ SqL X.K H a us ∧ Paired (T.rep X.K B) us xs ∧
    ∀ (ys : List V) (p : Addr), Paired (T.rep X.K B) ys (sortU u.lt xs) → H p = none → Q (.ref p) (upd H p (.lst ys))) := by
  intro pins s σ H vs us Q I r ⟨B, a, xs, ws, sb, e0, sq, pr, q⟩
  subst e0
  obtain ⟨its, rv, hl, hz⟩ := I.list sq
  rw [Vals.ref1 r]
  have hn := Paired.length pr
  refine sorted_data (R := fun u x => ∃ v, RelV v u ∧ T.rep X.K B v x) (enc := d.to) (bs := xs) hl.isList (P_each pr rv fun v u x f r => ⟨v, r, f⟩) (P_each pr rv fun v u x f r => Dp.reads I (d.to x) v u (d.rep (T.mono sb f)) r) (alike_of u xs) ?_ (by rw [← hn]; exact hz) (fun b _ => ?_) fun out ho he => ?_
  · rcases hs with h | h
    · exact sortable_of (.inl fun x _ => h x)
    · exact sortable_of (.inr fun x _ => ⟨u.nz x, h x⟩)
  · have := d.dep b
    omega
  · rw [dataLe_ord u] at he
    obtain ⟨ys, rv2, pr2⟩ := each_P he
    obtain ⟨ep, he'⟩ := PyProof.Rows.sortedAll_at s.heap its out.toArray
    have hlen : ys.length ≤ sizeLine := by
      rw [Paired.length pr2, List.length_mergeSort, ← hn]
      exact hz
    exact ⟨.ref _, upd H (s.heap.objs.size + 1) (.lst ys), I.laid (t' := s.toks) (fun _ _ => PyProof.Rows.sortedAll_old) (Nat.le_succ _) ⟨hlen, out, ep, rv2, he'⟩, rfl, q ys _ pr2 (I.hok.fresh (Nat.le_succ _))⟩
theorem c_sortU {α : Type} {T : L3.Ty α} {d : Emb T} (u : Ord d) : OpNO K (fun vs H Q => ∃ (B : Hp) (a : Addr) (xs : List α) (us : List V), Sub B H ∧ vs = [V.ref a] ∧ SqL K H a us ∧ Paired (T.rep K B) us xs ∧
    ∀ (ys : List V) (p : Addr), Paired (T.rep K B) ys (sortU u.lt xs) → H p = none → Q (.ref p) (upd H p (.lst ys))) (rOne (tLst T)) (oLst T) fun x => some (sortU u.lt x) := fun {B H y z vs Q} s ⟨v, e1, h⟩ e q => by
  subst e1
  cases e
  obtain ⟨a, ws, rfl, sq, pr, hl⟩ := h
  exact ⟨B, a, y, ws, s, rfl, .inl (.inl (s _ _ sq)), pr, fun ys p pr2 hp => q p _ hp ⟨ys, rfl, pr2, by unfold sortU; rw [List.length_mergeSort]; exact hl⟩⟩
/-! min, max -/
theorem min_to {α : Type} {T : L3.Ty α} {d : Emb T} (u : Ord d) : ∀ (xs : List α) (x : α), minD (d.to x) (xs.map d.to) = d.to (xs.foldl (fun a y => if u.lt y a then y else a) x)
  | [], _ => rfl
  | y :: xs, x => by
    show minD (if dataLt (d.to y) (d.to x) then d.to y else d.to x) (xs.map d.to) = _
    rw [u.ok, List.foldl_cons]
    cases h : u.lt y x with
    | true => rw [if_pos rfl, if_pos rfl]; exact min_to u xs y
    | false => rw [if_neg Bool.false_ne_true, if_neg Bool.false_ne_true]; exact min_to u xs x
theorem max_to {α : Type} {T : L3.Ty α} {d : Emb T} (u : Ord d) : ∀ (xs : List α) (x : α), maxD (d.to x) (xs.map d.to) = d.to (xs.foldl (fun a y => if u.lt a y then y else a) x)
  | [], _ => rfl
  | y :: xs, x => by
    show maxD (if dataLt (d.to x) (d.to y) then d.to y else d.to x) (xs.map d.to) = _
    rw [u.ok, List.foldl_cons]
    cases h : u.lt x y with
    | true => rw [if_pos rfl, if_pos rfl]; exact max_to u xs y
    | false => rw [if_neg Bool.false_ne_true, if_neg Bool.false_ne_true]; exact max_to u xs x
theorem alikeAll_of {α : Type} {T : L3.Ty α} {d : Emb T} (u : Ord d) (xs : List α) : AlikeAll (xs.map d.to) := ⟨fun a ha b hb => alike_of u xs a ha b hb, fun a ha => by
  obtain ⟨x, _, rfl⟩ := List.mem_map.mp ha
  exact u.nz x⟩
theorem P_mem {α β : Type} {F : α → β → Prop} {vs : List α} {xs : List β} (h : Paired F vs xs) : ∀ (i : Nat) (v : α), vs[i]? = some v → ∃ x, xs[i]? = some x ∧ F v x := by
  induction h with
  | nil => intro i v e; cases e
  | cons a _ ih =>
    intro i v e
    cases i with
    | zero => cases e; exact ⟨_, rfl, a⟩
    | succ i => exact ih i v e
theorem V_mem {vs : List V} {us : List Value} (h : Vals vs us) : ∀ (i : Nat) (u : Value), us[i]? = some u → ∃ v, vs[i]? = some v ∧ RelV v u := by
  induction us generalizing vs with
  | nil => intro i u e; cases e
  | cons w us ih =>
    cases h with
    | cons r t =>
      intro i u e
      cases i with
      | zero => cases e; exact ⟨_, rfl, r⟩
      | succ i => exact ih t i u e
theorem cr_minU {α : Type} {T : L3.Ty α} {d : Emb T} (u : Ord d) (hd : d.dn ≤ 60) (hu : X.A.units + 64 < cLine) (hc : X.calm = true) : CallR X (.builtin "min") (fun vs H Q => ∃ (B : Hp) (a : Addr) (x : α) (xs : List α) (us : List V), Sub B H ∧ vs = [V.ref a] ∧ (SqL X.K H a us ∨ SqT X.K H a us) ∧ Paired (T.rep X.K B) us (x :: xs) ∧
    ∀ v, (∃ z, T.rep X.K B v z ∧ minU u.lt (x :: xs) = some z) → Q v H) := by
  intro pins s σ H vs us Q I r ⟨B, a, x, xs, ws, sb, e0, sq, pr, q⟩
  subst e0
  rw [Vals.ref1 r]
  have fin : ∀ its : List Value, Vals ws its → ∀ as : List Addr, ReadsAll s.heap its ((x :: xs).map d.to) as → (∀ (i : Nat) v h' tk bs, its.toArray[i]? = some v → Reads h' v (minD (d.to x) (xs.map d.to)) bs → (∀ b o, s.heap.get? b = some o → h'.get? b = some o) → EP X pins σ Q v { s with heap := h', toks := tk }) := by
    intro its rv as hr i v h' tk bs h1 h2 hk
    have h1' : its[i]? = some v := by simpa using h1
    obtain ⟨y, hy, ry⟩ := V_mem rv i v h1'
    obtain ⟨z, hz, rz⟩ := P_mem pr i y hy
    have I2 : L2.Inv X pins σ H { s with heap := h', toks := tk } := I.kept hk
    obtain ⟨as2, r2⟩ := Dp.reads I2 (d.to z) y v (d.rep (T.mono sb rz)) ry
    have e := (Reads.unique r2 _ _ h2).1
    rw [min_to u] at e
    exact ⟨y, H, I2, ry, q y ⟨z, rz, by rw [d.inj e]; rfl⟩⟩
  have hdep : PyData.depthAll ((x :: xs).map d.to) ≤ 60 := Nat.le_trans (all_dep d.dep _) hd
  rcases sq with sq | sq
  · obtain ⟨its, rv, hl, hz⟩ := I.list sq
    obtain ⟨as, hr⟩ := Dp.readsAll I _ ws its (P_dat sb d pr) rv
    exact min_list_data (I.ok.hd hc) hl.isList (by simpa using hr) (alikeAll_of u (x :: xs)) (by show X.A.units + 1 + PyData.depthAll ((x :: xs).map d.to) < cLine; omega) (fin its rv as hr)
  · obtain ⟨its, rv, ⟨o, h1, h2, n, h3⟩, hz⟩ := I.tuple sq
    obtain ⟨as, hr⟩ := Dp.readsAll I _ ws its (P_dat sb d pr) rv
    exact min_tuple_data (I.ok.hd hc) ⟨o, h1, h2, n, h3⟩ (by simpa using hr) (alikeAll_of u (x :: xs)) (by show X.A.units + 1 + PyData.depthAll ((x :: xs).map d.to) < cLine; omega) (fin its rv as hr)
theorem c_minUL {α : Type} {T : L3.Ty α} {d : Emb T} (u : Ord d) : OpN K (fun vs H Q => ∃ (B : Hp) (a : Addr) (x : α) (xs : List α) (us : List V), Sub B H ∧ vs = [V.ref a] ∧ (SqL K H a us ∨ SqT K H a us) ∧ Paired (T.rep K B) us (x :: xs) ∧
    ∀ v, (∃ z, T.rep K B v z ∧ minU u.lt (x :: xs) = some z) → Q v H) (rOne (tLst T)) T (minU u.lt) := fun {B H y z vs Q} s ⟨v, e1, h⟩ e q => by
  subst e1
  obtain ⟨a, ws, rfl, sq, pr, hl⟩ := h
  cases y with
  | nil => cases e
  | cons y ys =>
    refine ⟨B, a, y, ys, ws, s, rfl, .inl (.inl (.inl (s _ _ sq))), pr, fun v ⟨z2, h1, h2⟩ => ?_⟩
    rw [e] at h2
    cases h2
    exact q _ _ _ (gr0 s) h1
theorem c_minUT {α : Type} {T : L3.Ty α} {d : Emb T} (u : Ord d) : OpN K (fun vs H Q => ∃ (B : Hp) (a : Addr) (x : α) (xs : List α) (us : List V), Sub B H ∧ vs = [V.ref a] ∧ (SqL K H a us ∨ SqT K H a us) ∧ Paired (T.rep K B) us (x :: xs) ∧
    ∀ v, (∃ z, T.rep K B v z ∧ minU u.lt (x :: xs) = some z) → Q v H) (rOne (tAll T)) T (minU u.lt) := fun {B H y z vs Q} s ⟨v, e1, h⟩ e q => by
  subst e1
  obtain ⟨a, ws, rfl, sq, pr, hl⟩ := h
  cases y with
  | nil => cases e
  | cons y ys =>
    refine ⟨B, a, y, ys, ws, s, rfl, .inr (s.seqT sq), pr, fun v ⟨z2, h1, h2⟩ => ?_⟩
    rw [e] at h2
    cases h2
    exact q _ _ _ (gr0 s) h1
theorem cr_maxU {α : Type} {T : L3.Ty α} {d : Emb T} (u : Ord d) (hd : d.dn ≤ 60) (hu : X.A.units + 64 < cLine) (hc : X.calm = true) : CallR X (.builtin "max") (fun vs H Q => ∃ (B : Hp) (a : Addr) (x : α) (xs : List α) (us : List V), Sub B H ∧ vs = [V.ref a] ∧ (SqL X.K H a us ∨ SqT X.K H a us) ∧ Paired (T.rep X.K B) us (x :: xs) ∧
    ∀ v, (∃ z, T.rep X.K B v z ∧ maxU u.lt (x :: xs) = some z) → Q v H) := by
  intro pins s σ H vs us Q I r ⟨B, a, x, xs, ws, sb, e0, sq, pr, q⟩
  subst e0
  rw [Vals.ref1 r]
  have fin : ∀ its : List Value, Vals ws its → ∀ as : List Addr, ReadsAll s.heap its ((x :: xs).map d.to) as → (∀ (i : Nat) v h' tk bs, its.toArray[i]? = some v → Reads h' v (maxD (d.to x) (xs.map d.to)) bs → (∀ b o, s.heap.get? b = some o → h'.get? b = some o) → EP X pins σ Q v { s with heap := h', toks := tk }) := by
    intro its rv as hr i v h' tk bs h1 h2 hk
    have h1' : its[i]? = some v := by simpa using h1
    obtain ⟨y, hy, ry⟩ := V_mem rv i v h1'
    obtain ⟨z, hz, rz⟩ := P_mem pr i y hy
    have I2 : L2.Inv X pins σ H { s with heap := h', toks := tk } := I.kept hk
    obtain ⟨as2, r2⟩ := Dp.reads I2 (d.to z) y v (d.rep (T.mono sb rz)) ry
    have e := (Reads.unique r2 _ _ h2).1
    rw [max_to u] at e
    exact ⟨y, H, I2, ry, q y ⟨z, rz, by rw [d.inj e]; rfl⟩⟩
  have hdep : PyData.depthAll ((x :: xs).map d.to) ≤ 60 := Nat.le_trans (all_dep d.dep _) hd
  rcases sq with sq | sq
  · obtain ⟨its, rv, hl, hz⟩ := I.list sq
    obtain ⟨as, hr⟩ := Dp.readsAll I _ ws its (P_dat sb d pr) rv
    exact max_list_data (I.ok.hd hc) hl.isList (by simpa using hr) (alikeAll_of u (x :: xs)) (by show X.A.units + 1 + PyData.depthAll ((x :: xs).map d.to) < cLine; omega) (fin its rv as hr)
  · obtain ⟨its, rv, ⟨o, h1, h2, n, h3⟩, hz⟩ := I.tuple sq
    obtain ⟨as, hr⟩ := Dp.readsAll I _ ws its (P_dat sb d pr) rv
    exact max_tuple_data (I.ok.hd hc) ⟨o, h1, h2, n, h3⟩ (by simpa using hr) (alikeAll_of u (x :: xs)) (by show X.A.units + 1 + PyData.depthAll ((x :: xs).map d.to) < cLine; omega) (fin its rv as hr)
theorem c_maxUL {α : Type} {T : L3.Ty α} {d : Emb T} (u : Ord d) : OpN K (fun vs H Q => ∃ (B : Hp) (a : Addr) (x : α) (xs : List α) (us : List V), Sub B H ∧ vs = [V.ref a] ∧ (SqL K H a us ∨ SqT K H a us) ∧ Paired (T.rep K B) us (x :: xs) ∧
    ∀ v, (∃ z, T.rep K B v z ∧ maxU u.lt (x :: xs) = some z) → Q v H) (rOne (tLst T)) T (maxU u.lt) := fun {B H y z vs Q} s ⟨v, e1, h⟩ e q => by
  subst e1
  obtain ⟨a, ws, rfl, sq, pr, hl⟩ := h
  cases y with
  | nil => cases e
  | cons y ys =>
    refine ⟨B, a, y, ys, ws, s, rfl, .inl (.inl (.inl (s _ _ sq))), pr, fun v ⟨z2, h1, h2⟩ => ?_⟩
    rw [e] at h2
    cases h2
    exact q _ _ _ (gr0 s) h1
theorem c_maxUT {α : Type} {T : L3.Ty α} {d : Emb T} (u : Ord d) : OpN K (fun vs H Q => ∃ (B : Hp) (a : Addr) (x : α) (xs : List α) (us : List V), Sub B H ∧ vs = [V.ref a] ∧ (SqL K H a us ∨ SqT K H a us) ∧ Paired (T.rep K B) us (x :: xs) ∧
    ∀ v, (∃ z, T.rep K B v z ∧ maxU u.lt (x :: xs) = some z) → Q v H) (rOne (tAll T)) T (maxU u.lt) := fun {B H y z vs Q} s ⟨v, e1, h⟩ e q => by
  subst e1
  obtain ⟨a, ws, rfl, sq, pr, hl⟩ := h
  cases y with
  | nil => cases e
  | cons y ys =>
    refine ⟨B, a, y, ys, ws, s, rfl, .inr (s.seqT sq), pr, fun v ⟨z2, h1, h2⟩ => ?_⟩
    rw [e] at h2
    cases h2
    exact q _ _ _ (gr0 s) h1
/-! comparisons -/
theorem op_ltU {α : Type} {T : L3.Ty α} {d : Emb T} (u : Ord d) (hd : d.dn ≤ 60) (hu : X.A.units + 64 < cLine) : OpR X (compareOp .Lt) (fun v w H Q => ∃ (B : Hp) (x y : α), Sub B H ∧ T.rep X.K B v x ∧ T.rep X.K B w y ∧ Q (.bl (u.lt x y)) H) := by
  intro pins s σ H v w v1 w1 Q I rx ry ⟨B, x, y, sb, h1, h2, q⟩
  obtain ⟨as, r1⟩ := Dp.reads I (d.to x) v _ (d.rep (T.mono sb h1)) rx
  obtain ⟨bs, r2⟩ := Dp.reads I (d.to y) w _ (d.rep (T.mono sb h2)) ry
  have := d.dep x
  refine lt_data r1 r2 (u.al x y) (u.nz x) (by omega) ?_
  rw [u.ok]
  exact ⟨.bl _, H, I, rfl, q⟩
theorem o_ltU {α : Type} {T : L3.Ty α} {d : Emb T} (u : Ord d) : Op2 K (fun v w H Q => ∃ (B : Hp) (x y : α), Sub B H ∧ T.rep K B v x ∧ T.rep K B w y ∧ Q (.bl (u.lt x y)) H) T T tBool fun x y => some (u.lt x y) := fun {B H x y z v w Q} s hx hy e q => by
  cases e
  exact ⟨B, x, y, s, hx, hy, q _ _ _ (gr0 s) rfl⟩
theorem op_gtU {α : Type} {T : L3.Ty α} {d : Emb T} (u : Ord d) (hd : d.dn ≤ 60) (hu : X.A.units + 64 < cLine) : OpR X (compareOp .Gt) (fun v w H Q => ∃ (B : Hp) (x y : α), Sub B H ∧ T.rep X.K B v x ∧ T.rep X.K B w y ∧ Q (.bl (u.lt y x)) H) := by
  intro pins s σ H v w v1 w1 Q I rx ry ⟨B, x, y, sb, h1, h2, q⟩
  obtain ⟨as, r1⟩ := Dp.reads I (d.to x) v _ (d.rep (T.mono sb h1)) rx
  obtain ⟨bs, r2⟩ := Dp.reads I (d.to y) w _ (d.rep (T.mono sb h2)) ry
  have := d.dep x
  refine gt_data r1 r2 (u.al x y) (u.nz x) (by omega) ?_
  rw [u.ok]
  exact ⟨.bl _, H, I, rfl, q⟩
theorem o_gtU {α : Type} {T : L3.Ty α} {d : Emb T} (u : Ord d) : Op2 K (fun v w H Q => ∃ (B : Hp) (x y : α), Sub B H ∧ T.rep K B v x ∧ T.rep K B w y ∧ Q (.bl (u.lt y x)) H) T T tBool fun x y => some (u.lt y x) := fun {B H x y z v w Q} s hx hy e q => by
  cases e
  exact ⟨B, x, y, s, hx, hy, q _ _ _ (gr0 s) rfl⟩
theorem op_leU {α : Type} {T : L3.Ty α} {d : Emb T} (u : Ord d) (hd : d.dn ≤ 60) (hu : X.A.units + 64 < cLine) : OpR X (compareOp .LtE) (fun v w H Q => ∃ (B : Hp) (x y : α), Sub B H ∧ T.rep X.K B v x ∧ T.rep X.K B w y ∧ Q (.bl (!u.lt y x)) H) := by
  intro pins s σ H v w v1 w1 Q I rx ry ⟨B, x, y, sb, h1, h2, q⟩
  obtain ⟨as, r1⟩ := Dp.reads I (d.to x) v _ (d.rep (T.mono sb h1)) rx
  obtain ⟨bs, r2⟩ := Dp.reads I (d.to y) w _ (d.rep (T.mono sb h2)) ry
  have := d.dep x
  refine le_data r1 r2 (u.al x y) (u.nz x) (by omega) ?_
  rw [u.ok]
  exact ⟨.bl _, H, I, rfl, q⟩
theorem o_leU {α : Type} {T : L3.Ty α} {d : Emb T} (u : Ord d) : Op2 K (fun v w H Q => ∃ (B : Hp) (x y : α), Sub B H ∧ T.rep K B v x ∧ T.rep K B w y ∧ Q (.bl (!u.lt y x)) H) T T tBool fun x y => some (!u.lt y x) := fun {B H x y z v w Q} s hx hy e q => by
  cases e
  exact ⟨B, x, y, s, hx, hy, q _ _ _ (gr0 s) rfl⟩
theorem op_geU {α : Type} {T : L3.Ty α} {d : Emb T} (u : Ord d) (hd : d.dn ≤ 60) (hu : X.A.units + 64 < cLine) : OpR X (compareOp .GtE) (fun v w H Q => ∃ (B : Hp) (x y : α), Sub B H ∧ T.rep X.K B v x ∧ T.rep X.K B w y ∧ Q (.bl (!u.lt x y)) H) := by
  intro pins s σ H v w v1 w1 Q I rx ry ⟨B, x, y, sb, h1, h2, q⟩
  obtain ⟨as, r1⟩ := Dp.reads I (d.to x) v _ (d.rep (T.mono sb h1)) rx
  obtain ⟨bs, r2⟩ := Dp.reads I (d.to y) w _ (d.rep (T.mono sb h2)) ry
  have := d.dep x
  refine ge_data r1 r2 (u.al x y) (u.nz x) (by omega) ?_
  rw [u.ok]
  exact ⟨.bl _, H, I, rfl, q⟩
theorem o_geU {α : Type} {T : L3.Ty α} {d : Emb T} (u : Ord d) : Op2 K (fun v w H Q => ∃ (B : Hp) (x y : α), Sub B H ∧ T.rep K B v x ∧ T.rep K B w y ∧ Q (.bl (!u.lt x y)) H) T T tBool fun x y => some (!u.lt x y) := fun {B H x y z v w Q} s hx hy e q => by
  cases e
  exact ⟨B, x, y, s, hx, hy, q _ _ _ (gr0 s) rfl⟩
end
theorem P_some {K : Fg} {B : Hp} {α : Type} {T : L3.Ty α} (hn : T.nn = true) {vs : List V} {xs : List α} (h : Paired (T.rep K B) vs xs) : Paired ((tOpt T).rep K B) vs (xs.map some) := by
  induction h with
  | nil => exact .nil
  | cons a _ ih => exact .cons ⟨a, T.nnok hn a⟩ ih
theorem lstSome {K : Fg} {α : Type} {T : L3.Ty α} (hn : T.nn = true) {B v x} (h : (tLst T).rep K B v x) : (tLst (tOpt T)).rep K B v (x.map some) := by
  obtain ⟨a, vs, e, h1, p, l⟩ := h
  exact ⟨a, vs, e, h1, P_some hn p, by rw [List.length_map]; exact l⟩
theorem allSome {K : Fg} {α : Type} {T : L3.Ty α} (hn : T.nn = true) {B v x} (h : (tAll T).rep K B v x) : (tAll (tOpt T)).rep K B v (x.map some) := by
  obtain ⟨a, vs, e, h1, p, l⟩ := h
  exact ⟨a, vs, e, h1, P_some hn p, by rw [List.length_map]; exact l⟩
/-! tuples of unlike things: parts, joined -/
structure CatR {β γ δ : Type} (R1 : Tys β) (R2 : Tys γ) (R3 : Tys δ) (g : β → γ → δ) : Prop where
  cat : ∀ {K B vs ws x y}, R1.rep K B vs x → R2.rep K B ws y → R3.rep K B (vs ++ ws) (g x y)
  n1 : ∀ {K B vs x}, R1.rep K B vs x → vs.length ≤ 100 ∧ vs ≠ []
theorem cat_one {α γ : Type} {T : L3.Ty α} {R : Tys γ} : CatR (rOne T) R (rCons T R) fun x y => (x, y) :=
  ⟨fun {K B vs ws x y} ⟨v, e, r⟩ h => ⟨v, ws, by subst e; rfl, r, h⟩, fun {K B vs x} ⟨v, e, r⟩ => by subst e; exact ⟨by simp, by simp⟩⟩
theorem cat_2 {α β γ : Type} {T : L3.Ty α} {U : L3.Ty β} {R : Tys γ} : CatR (rCons T (rOne U)) R (rCons T (rCons U R)) fun x y => (x.1, x.2, y) :=
  ⟨fun {K B vs ws x y} ⟨v, r, e, h, w, e2, h2⟩ k => ⟨v, w :: ws, by subst e e2; rfl, h, w, ws, rfl, h2, k⟩, fun {K B vs x} ⟨v, r, e, h, w, e2, h2⟩ => by subst e e2; exact ⟨by simp, by simp⟩⟩
theorem cat_3 {α β ε γ : Type} {T : L3.Ty α} {U : L3.Ty β} {W : L3.Ty ε} {R : Tys γ} : CatR (rCons T (rCons U (rOne W))) R (rCons T (rCons U (rCons W R))) fun x y => (x.1, x.2.1, x.2.2, y) :=
  ⟨fun {K B vs ws x y} ⟨v, r, e, h, w, r2, e2, h2, z, e3, h3⟩ k => ⟨v, w :: z :: ws, by subst e e2 e3; rfl, h, w, z :: ws, rfl, h2, z, ws, rfl, h3, k⟩, fun {K B vs x} ⟨v, r, e, h, w, r2, e2, h2, z, e3, h3⟩ => by subst e e2 e3; exact ⟨by simp, by simp⟩⟩
theorem o_catN {K : Fg} {β γ δ : Type} {R1 : Tys β} {R2 : Tys γ} {R3 : Tys δ} {g : β → γ → δ} (c : CatR R1 R2 R3 g) (h2 : ∀ {K B vs x}, R2.rep K B vs x → vs.length ≤ 100 ∧ vs ≠ []) : Op2 K (rCatA K) (tTup R1) (tTup R2) (tTup R3) fun x y => some (g x y) := fun {B H x y z v w Q} s hx hy e q => by
  cases e
  obtain ⟨a, vs, rfl, sq, r⟩ := hx
  obtain ⟨b, ws, rfl, sq2, r2⟩ := hy
  have l1 := c.n1 r
  have l2 := h2 r2
  refine ⟨a, b, vs, ws, rfl, rfl, s.seqT sq, s.seqT sq2, ?_, fun e1 => absurd e1 l1.2, fun _ e2 => absurd e2 l2.2, fun _ _ p hp => ?_⟩
  · rw [sizeLine_eq]
    omega
  · have gr := Grow.new (o := HO.tup (vs ++ ws)) s hp
    exact q _ _ _ gr ⟨p, _, rfl, .inl (.inl upd_same), R3.mono gr.b (c.cat r r2)⟩
theorem nn1 {α : Type} {T : L3.Ty α} {K B vs x} (h : (rOne T).rep K B vs x) : vs.length ≤ 100 ∧ vs ≠ [] := (cat_one (R := rNil)).n1 h
theorem nn2 {α β : Type} {T : L3.Ty α} {U : L3.Ty β} {K B vs x} (h : (rCons T (rOne U)).rep K B vs x) : vs.length ≤ 100 ∧ vs ≠ [] := (cat_2 (R := rNil)).n1 h
theorem nn3 {α β γ : Type} {T : L3.Ty α} {U : L3.Ty β} {W : L3.Ty γ} {K B vs x} (h : (rCons T (rCons U (rOne W))).rep K B vs x) : vs.length ≤ 100 ∧ vs ≠ [] := (cat_3 (R := rNil)).n1 h
theorem cut_12 {α β : Type} {T : L3.Ty α} {U : L3.Ty β} : CutN (rCons T (rOne U)) (rOne U) (some 1) none fun x => x.2 := fun {K B vs x} ⟨v, r, e, h, w, e2, k⟩ => by
  subst e e2
  exact ⟨w, rfl, k⟩
theorem cut_13 {α β γ : Type} {T : L3.Ty α} {U : L3.Ty β} {W : L3.Ty γ} : CutN (rCons T (rCons U (rOne W))) (rCons U (rOne W)) (some 1) none fun x => x.2 := fun {K B vs x} ⟨v, r, e, h, w, r2, e2, k, z, e3, l⟩ => by
  subst e e2 e3
  exact ⟨w, [z], rfl, k, z, rfl, l⟩
theorem cut_23 {α β γ : Type} {T : L3.Ty α} {U : L3.Ty β} {W : L3.Ty γ} : CutN (rCons T (rCons U (rOne W))) (rOne W) (some 2) none fun x => x.2.2 := fun {K B vs x} ⟨v, r, e, h, w, r2, e2, k, z, e3, l⟩ => by
  subst e e2 e3
  exact ⟨z, rfl, l⟩
theorem cut_14 {α β γ δ : Type} {T : L3.Ty α} {U : L3.Ty β} {W : L3.Ty γ} {Z : L3.Ty δ} : CutN (rCons T (rCons U (rCons W (rOne Z)))) (rCons U (rCons W (rOne Z))) (some 1) none fun x => x.2 := fun {K B vs x} ⟨v, r, e, h, w, r2, e2, k, z, r3, e3, l, t, e4, m⟩ => by
  subst e e2 e3 e4
  exact ⟨w, [z, t], rfl, k, z, [t], rfl, l, t, rfl, m⟩
theorem cut_012 {α β : Type} {T : L3.Ty α} {U : L3.Ty β} : CutN (rCons T (rOne U)) (rOne T) none (some 1) fun x => x.1 := fun {K B vs x} ⟨v, r, e, h, w, e2, k⟩ => by
  subst e e2
  exact ⟨v, rfl, h⟩
theorem cut_013 {α β γ : Type} {T : L3.Ty α} {U : L3.Ty β} {W : L3.Ty γ} : CutN (rCons T (rCons U (rOne W))) (rOne T) none (some 1) fun x => x.1 := fun {K B vs x} ⟨v, r, e, h, w, r2, e2, k, z, e3, l⟩ => by
  subst e e2 e3
  exact ⟨v, rfl, h⟩
end L3

/-! L3: an own object read as a value inside an expression. -/
namespace L3
open PySem PySem.Spec PyProof.Rows L2
/-- what stays true of a slot when a list leaves the base again -/
def Bk (l : Loc) : Prop := ∀ {K : Fg} {B B1 B2 H H1 : Hp} {own own1 : List Addr} {s x}, Sub B B2 → TSub B1 B2 → l.holds K B H own s x → l.holds K B1 H1 own1 s x → l.holds K B2 H1 own1 s x
theorem bk_none : Bk lNone := fun _ _ _ h => h
theorem bk_imm {α : Type} {T : Ty α} : Bk (lImm T) := fun s _ ⟨_, v, e, r⟩ ⟨h, _⟩ => ⟨h, v, e, T.mono s r⟩
theorem bk_own {α : Type} {O : OTy α} {f : Option Addr} (h : O.to = true) : Bk (lOwn O f) := fun _ t _ ⟨l, o, e1, e2, e3, e4, e5⟩ => ⟨l, o, e1, e2, e3, O.took h t e4, e5⟩
inductive BkAll : List Loc → Prop
  | nil : BkAll []
  | cons {l L} : Bk l → BkAll L → BkAll (l :: L)
section
variable {K : Fg} {B B1 B2 H H1 : Hp}
theorem Rel.bk : ∀ {L : List Loc} {own own1 : List Addr} {σ : List (Option V)} {ρ : Env L}, BkAll L → Sub B B2 → TSub B1 B2 → Rel K B H L own σ ρ → Rel K B1 H1 L own1 σ ρ → Rel K B2 H1 L own1 σ ρ
  | [], _, _, _, _, _, _, _, _, h => h
  | l :: L, own, own1, σ, ρ, .cons b bs, s, t, ⟨o1, o2, v, σ', e1, e2, h, r⟩, ⟨u1, u2, v', σ'', f1, f2, h', r'⟩ => by
    subst e2
    obtain ⟨rfl, rfl⟩ := List.cons.inj f2
    exact ⟨u1, u2, v, σ', f1, rfl, b s t h h', Rel.bk bs s t r r'⟩
theorem Rel.unlock {α : Type} {O : OTy α} {f : Option Addr} {l' : Addr} (hk : ∀ o, H l' = some o → H1 l' = some o) : ∀ {n : Nat} {L L' : List Loc} (i : Ix (lOwn O f) n L) (p : Put (lImm O.fz) n L L') {own own1 σ} {ρ : Env L}, BkAll L → Sub B B2 → TSub B1 B2 →
    Rel K B H L own σ ρ → Rel K B1 H1 L' own1 σ (p.put (i.get ρ) ρ) → σ[n]? = some (some (.ref l')) → ∃ own3, Rel K B2 H1 L own3 σ ρ ∧ own3.Perm (l' :: own1)
  | _, _, _, .z, .z, own, own1, σ, ρ, .cons b bs, s, t, ⟨o1, o2, v, σ', e1, e2, ⟨l, o, a1, a2, a3, a4, a5⟩, r⟩, ⟨u1, u2, v', σ'', f1, f2, ⟨g1, _⟩, r'⟩, hl => by
    subst e1 e2 a1 a2
    obtain ⟨rfl, rfl⟩ := List.cons.inj f2
    have ff : own1 = u2 := by rw [f1, g1, List.nil_append]
    subst ff
    obtain rfl : l = l' := by simpa using hl
    exact ⟨[l] ++ own1, ⟨[l], own1, _, σ', rfl, rfl, ⟨l, o, rfl, rfl, hk o a3, O.mono s a4, a5⟩, Rel.bk bs s t r r'⟩, .refl _⟩
  | _, _, _, .s i, .s p, own, own1, σ, ρ, .cons b bs, s, t, ⟨o1, o2, v, σ', e1, e2, h, r⟩, ⟨u1, u2, v', σ'', f1, f2, h', r'⟩, hl => by
    subst e1 e2
    obtain ⟨rfl, rfl⟩ := List.cons.inj f2
    subst f1
    obtain ⟨own3, r3, pm⟩ := Rel.unlock hk i p bs s t r r' hl
    exact ⟨u1 ++ own3, ⟨u1, own3, v, σ', rfl, rfl, b s t h h', r3⟩, (pm.append_left u1).trans List.perm_middle⟩
end
theorem nlo_mut {o : HO} (h : Mut (some o)) : NLo o = false := by
  cases o <;> first | rfl | (exact absurd h (by intro z; exact z))
theorem Stt.unlock {K : Fg} {F : Fr} {L L' : List Loc} {B : Hp} {σ : List (Option V)} {H : Hp} {α : Type} {O : OTy α} {f : Option Addr} {n : Nat} (i : Ix (lOwn O f) n L) (p : Put (lImm O.fz) n L L') {ρ : Env L} (hb : BkAll L) (st : Stt K F L B ρ σ H) :
    ∃ F' B', Stt K F' L' B' (p.put (i.get ρ) ρ) σ H ∧ ∀ B1 H1 own1, Sub B' B1 → StO K F' L' own1 B1 (p.put (i.get ρ) ρ) σ H1 → ∃ B2 own3, Sub B B2 ∧ TSub B1 B2 ∧ StO K F L own3 B2 ρ σ H1 ∧ (∀ q, B1 q = none → q ∉ own1 → (F'.H0 q = none ∨ q ∈ F'.M) → B2 q = none ∧ q ∉ own3 ∧ (F.H0 q = none ∨ q ∈ F.M)) := by
  obtain ⟨own, S⟩ := st
  obtain ⟨l, o, own', q1, q2, q3, q4, q5, q6⟩ := Rel.lock i p S.rel S.nd fun a m => (S.own a m).1
  have hbl := (S.own l q3).1
  have sbc : Sub B (upd B l o) := Sub.upd hbl
  have fr : ∀ a, (H a = none ∨ a ∈ own') → F.H0 a = none ∨ a ∈ F.M := fun a h => by
    rcases h with h | h
    · cases e : F.H0 a with
      | none => exact .inl rfl
      | some u =>
        by_cases m : a ∈ F.M
        · exact .inr m
        · rw [S.keep a u m e] at h
          cases h
    · exact (S.own a (q4.subset h)).2
  refine ⟨⟨H, upd B l o, own'⟩, upd B l o, ⟨own', Sub.refl _, S.sub.ext q2, fun a u _ e => e, fun a _ h1 => .inl h1, q6, S.nd.sublist q4, fun a m => ⟨?_, .inr m⟩⟩, fun B1 H1 own1 s1 S1 => ?_⟩
  · rw [upd_ne fun z => q5 (by rw [← z]; exact m)]
    exact (S.own a (q4.subset m)).1
  have hB1 : B1 l = some o := s1 l o upd_same
  have hH1 : H1 l = some o := S1.sub l o hB1
  have mo : NLo o = false := by
    obtain ⟨l2, o2, w1, w2, w3, w4, _⟩ := S.rel.own i
    have e : l2 = l := by
      have := w1.symm.trans q1
      simpa using this
    subst e
    rw [q2] at w3
    cases w3
    exact nlo_mut (O.mtb w4)
  let B2 : Hp := fun a => if a = l then none else B1 a
  have b2n : ∀ {a}, a ≠ l → B2 a = B1 a := fun h => if_neg h
  have b2l : B2 l = none := if_pos rfl
  have sB : Sub B B2 := fun a u e => by
    have : a ≠ l := ne_of_none e hbl
    rw [b2n this]
    exact s1 a u (sbc a u e)
  have tB : TSub B1 B2 := fun a u e n => by
    by_cases z : a = l
    · subst z
      rw [hB1] at e
      cases e
      rw [mo] at n
      cases n
    · rw [b2n z]; exact e
  have s2 : Sub B2 H1 := fun a u e => by
    by_cases z : a = l
    · subst z; rw [b2l] at e; cases e
    · rw [b2n z] at e; exact S1.sub a u e
  have nl : ∀ a ∈ own1, a ≠ l := fun a m z => by
    have := (S1.own a m).1
    rw [z, hB1] at this
    cases this
  obtain ⟨own3, r3, pm⟩ := Rel.unlock (B2 := B2) (l' := l) (fun u e => by rw [q2] at e; cases e; exact hH1) i p hb sB tB S.rel S1.rel q1
  refine ⟨B2, own3, sB, tB, ⟨S.base.trans sB, s2, fun a u m e => ?_, fun a h0 h1 => ?_, r3, ?_, fun a m => ?_⟩, fun q h1 h2 h3 => ⟨?_, ?_, fr q h3⟩⟩
  · have h := S.keep a u m e
    refine S1.keep a u (fun z => ?_) h
    rcases (S.own a (q4.subset z)).2 with y | y
    · rw [y] at e; cases e
    · exact m y
  · by_cases z : a = l
    · subst z; exact absurd b2l h1
    · rw [b2n z] at h1
      by_cases m : a ∈ F.M
      · exact .inr m
      · obtain ⟨u, e⟩ : ∃ u, F.H0 a = some u := by
          cases e : F.H0 a with
          | none => exact absurd e h0
          | some u => exact ⟨u, rfl⟩
        have hH : H a ≠ none := by rw [S.keep a u m e]; exact fun y => nomatch y
        rcases S1.old a hH h1 with y | y
        · exact S.old a h0 (by have y : upd B l o a ≠ none := y; rw [upd_ne z] at y; exact y)
        · exact (S.own a (q4.subset y)).2.elim (fun y => absurd y h0) .inr
  · exact pm.nodup_iff.mpr (List.nodup_cons.mpr ⟨fun m => nl l m rfl, S1.nd⟩)
  · rcases List.mem_cons.mp (pm.mem_iff.mp m) with rfl | m
    · exact ⟨b2l, (S.own _ q3).2⟩
    · exact ⟨by rw [b2n (nl a m)]; exact (S1.own a m).1, fr a (S1.own a m).2⟩
  · by_cases z : q = l
    · subst z; exact b2l
    · rw [b2n z]; exact h1
  · intro m
    rcases List.mem_cons.mp (pm.mem_iff.mp m) with rfl | m
    · rw [hB1] at h1; cases h1
    · exact h2 m
section
variable {X : Cx} {K : Fg} {L L' : List Loc} {e : Expr}
open Classical in
theorem y_bor {α β : Type} {O : OTy β} {T : Ty α} {fo : Option Addr} {n : Nat} {m : Mo L' α} (i : Ix (lOwn O fo) n L) (p : Put (lImm O.fz) n L L') (ht : T.to = true) (hb : BkAll L) (h : PE X e (tE K L' T m)) (hp : ∀ ω ρ k, m ω ρ k = (m α ρ fun x _ => some x).bind fun x => k x ρ) :
    PE X e (tE K L T fun ω ρ k => (m α (p.put (i.get ρ) ρ) fun x _ => some x).bind fun x => k x ρ) := by
  refine pe_weak h fun σ H Q ⟨F, B, ρ, ω, k, o, st, e1, q⟩ => ?_
  obtain ⟨x, e2, e3⟩ := bind_some e1
  obtain ⟨F', B', st', back⟩ := Stt.unlock i p hb st
  refine ⟨F', B', p.put (i.get ρ) ρ, ω, fun x ρ' => if ρ' = p.put (i.get ρ) ρ then k x ρ else none, o, st', ?_, fun B1 v H1 x1 ρ1 s1 ⟨own1, S1⟩ r e4 => ?_⟩
  · rw [hp, e2]
    show (if p.put (i.get ρ) ρ = p.put (i.get ρ) ρ then k x ρ else none) = some o
    rw [if_pos rfl]
    exact e3
  · have e5 : (if ρ1 = p.put (i.get ρ) ρ then k x1 ρ else none) = some o := e4
    clear e4
    by_cases z : ρ1 = p.put (i.get ρ) ρ
    · rw [if_pos z] at e5
      subst z
      obtain ⟨B2, own3, sB, tB, S2, _⟩ := back B1 H1 own1 s1 S1
      exact q B2 v H1 x1 ρ sB ⟨own3, S2⟩ (T.took ht tB r) e5
    · rw [if_neg z] at e5
      cases e5
open Classical in
theorem y_borO {α β : Type} {O : OTy β} {O2 : OTy α} {fo : Option Addr} {n : Nat} {m : Mo L' α} (i : Ix (lOwn O fo) n L) (p : Put (lImm O.fz) n L L') (ht : O2.to = true) (hb : BkAll L) (h : PE X e (tO K L' O2 m)) (hp : ∀ ω ρ k, m ω ρ k = (m α ρ fun x _ => some x).bind fun x => k x ρ) :
    PE X e (tO K L O2 fun ω ρ k => (m α (p.put (i.get ρ) ρ) fun x _ => some x).bind fun x => k x ρ) := by
  refine pe_weak h fun σ H Q ⟨F, B, ρ, ω, k, o, st, e1, q⟩ => ?_
  obtain ⟨x, e2, e3⟩ := bind_some e1
  obtain ⟨F', B', st', back⟩ := Stt.unlock i p hb st
  refine ⟨F', B', p.put (i.get ρ) ρ, ω, fun x ρ' => if ρ' = p.put (i.get ρ) ρ then k x ρ else none, o, st', ?_, fun B1 a u H1 own1 x1 ρ1 s1 S1 h1 h2 h3 h4 h5 e4 => ?_⟩
  · rw [hp, e2]
    show (if p.put (i.get ρ) ρ = p.put (i.get ρ) ρ then k x ρ else none) = some o
    rw [if_pos rfl]
    exact e3
  · have e5 : (if ρ1 = p.put (i.get ρ) ρ then k x1 ρ else none) = some o := e4
    clear e4
    by_cases z : ρ1 = p.put (i.get ρ) ρ
    · rw [if_pos z] at e5
      subst z
      obtain ⟨B2, own3, sB, tB, S2, nw⟩ := back B1 H1 own1 s1 S1
      obtain ⟨n1, n2, n3⟩ := nw a h3 h4 h5
      exact q B2 a u H1 own3 x1 ρ sB S2 h1 (O2.took ht tB h2) n1 n2 n3 e5
    · rw [if_neg z] at e5
      cases e5
end
end L3

/-! L3: sorted(set(..)), len(set(..)) of ints. -/
namespace L3
open PySem PySem.Spec PyProof.Rows L2 PySem.W
abbrev emptySet (w : World) : Obj := { cls := .type "set", dict := none, data := .set #[] 0 (.fresh 0 0 (!w.params.followText "set-order")) }
abbrev itOf (l : Addr) : Obj := { cls := .type "list_iterator", data := .fields #[.ref l, .int 0 0] }
section
variable {P : Program} {w : World} {A : Around} {E : Value → Shared → Prop} {s : Shared}
set_option maxHeartbeats 6400000 in
/-- set(xs) of a list of ints, with what its order asks -/
theorem set_of_list {l : Addr} {us : Array Value} (ks : List Int) {Q : Value → Shared → Prop} (calm : A.handled = none) (isl : s.heap.IsList l us) (hin : IntsAre us.toList ks) (few : ks.length + 1 < scanBound)
    (fin : ∀ (g : Heap) (tk c : Nat), SetR w g s.heap.objs.size (fun j => decide (j ∈ ks)) c → c ≤ ks.length → (∀ b o, s.heap.get? b = some o → g.get? b = some o) → Q (.ref s.heap.objs.size) { s with heap := g, toks := tk }) :
    wpAny (model P w) A (call (.type "set") [.ref l]) Q E s := by
  have len : us.size = ks.length := (Array.length_toList (xs := us)).symm.trans (IntsAre.length hin)
  obtain ⟨c, tl, hmro⟩ := F.called_set.mro
  have k1 := F.called_set.made; have k2 := F.called_set.sub
  refine wpAny_call (codeAny_of_tree (show wpAny _ _ (callAny (.type "set") _) _ _ _ from ?_))
  refine wpAny_pure ⟨Code.quiet_builtin _ (by decide +kernel), codeAny_builtin (F.entry_type_call) ?_⟩
  rw [Around.under_plain (weight_type_call_type "set" [Value.ref l] []) rfl]
  have k3 := F.called_set.notType; have k4 := F.called_set.canCreate; have k5 := F.typeCall_set_1 (Value.ref l)
  repeat (any_goals (first | assumption | wp_step))
  refine codeAny_mono (code_set_led1 (Value.ref l) (E := E) (Q₁ := fun v t => v = Value.ref s.heap.objs.size ∧ t = { s with heap := s.heap.push (emptySet w) }) ⟨rfl, rfl⟩) fun r1 t1 q1 => ?_
  match r1, q1 with
  | .error e, q1 => exact q1
  | .ok (.ret v), q1 =>
    obtain ⟨rfl, rfl⟩ := q1
    have at1 : (s.heap.push (emptySet w)).get? s.heap.objs.size = some (emptySet w) := Heap.get?_push_size _ rfl
    have ty1 : Shared.TypeIs { s with heap := s.heap.push (emptySet w) } (.ref s.heap.objs.size) "set" := ⟨_, at1, rfl⟩
    have k6 := F.called_set.init.lookup; have k7 := F.called_set.init.bind (Value.ref s.heap.objs.size)
    repeat (any_goals (first | assumption | wp_step))
    refine codeAny_mono (codeAny_call_builtin (R := wants (fun v t => v = Value.none ∧ ∃ g tk c, t = { s with heap := g, toks := tk } ∧ SetR w g s.heap.objs.size (fun j => decide (j ∈ ks)) c ∧ c ≤ ks.length ∧ ∀ b o, s.heap.get? b = some o → g.get? b = some o) E) F.called_set.init.plain F.entry_set_init (check_set_init_1 ty1 ?_)) fun r2 t2 q2 => ?_
    · obtain ⟨⟨cl, di, da, sl⟩, at2, e1, n, e3⟩ := isl
      try dsimp only at e1 e3
      subst e1; subst e3
      have lt : l < s.heap.objs.size := Heap.lt_size at2
      have at3 : (s.heap.push (emptySet w)).get? l = some { cls := Value.type "list", dict := di, data := .seq us n, slots := sl } := Heap.get?_push_of_some _ at2
      have isl2 : (s.heap.push (emptySet w)).IsList l us := ⟨_, at3, rfl, n, rfl⟩
      have z1 := F.sub_list_set; have z2 := F.sub_list_frozenset
      have z3 : (Value.type "list" == Value.type "dict") = false := by decide
      unfold Builtin.«set.__init__» noKeywords Builtin.Frozenset.updateFrom
      generalize hit : pyIter = PI
      wp_walk
      subst hit
      refine wpAny_pyIter_list isl2 (wpAny_bind (wpAny_runValue ?_))
      have apart : l ≠ (s.heap.push (emptySet w)).objs.size := by
        rw [Heap.size_push]
        exact Nat.ne_of_lt (Nat.lt_succ_of_lt lt)
      have away : s.heap.objs.size ∉ [(s.heap.push (emptySet w)).objs.size, l] := by
        rw [Heap.size_push]
        simp only [List.mem_cons, List.not_mem_nil, or_false]
        rintro (z | z)
        · exact Nat.ne_of_lt (Nat.lt_succ_self _) z
        · exact Nat.ne_of_lt lt z.symm
      have vals : ∀ (i : Nat) (v : Value), us[i]? = some v → ∃ k t, ks[i]? = some k ∧ v = .int k t := by
        intro i v e
        have hi : i < ks.length := by rw [← len]; exact (Array.getElem?_eq_some_iff.mp e).1
        obtain ⟨t, et⟩ := PyProof.Rows.IntsAre.int_at hin i v (by rw [Array.getElem?_toList]; exact e)
        rw [List.getD_eq_getElem?_getD, List.getElem?_eq_getElem hi] at et
        exact ⟨_, t, List.getElem?_eq_getElem hi, et⟩
      refine set_update_ints (Walks.toS (Walks.list (by simp [calm]) _ l apart us)) s.heap.objs.size away ks len few vals (us.size - 0) 0 _ (by omega) (Nat.zero_le _) ⟨⟨_, Heap.get?_push_size _ rfl, rfl, rfl⟩, isl2.push _⟩ ⟨0, Nat.le_refl 0, setR_new_at (Heap.get?_push_of_some _ at1)⟩ ?_
      rintro ⟨g, ge, dr, tk, os⟩ c mv hc hS
      obtain rfl : ge = s.gens := mv.gens
      obtain rfl : dr = s.drawn := mv.drawn
      obtain rfl : os = s.os := mv.os
      show wpAny _ _ _ _ _ _
      refine wpAny_pure (show wpAny _ _ (ret Value.none) _ _ _ from wpAny_pure ⟨rfl, g, tk, c, rfl, hS, by omega, fun b o e => ?_⟩)
      have blt : b < s.heap.objs.size := Heap.lt_size e
      refine mv.heap b o ?_ (Heap.get?_push_of_some _ (Heap.get?_push_of_some _ e))
      rw [Heap.size_push]
      simp only [List.mem_cons, List.not_mem_nil, or_false]
      rintro (z | z)
      · exact Nat.ne_of_lt blt z
      · exact Nat.ne_of_lt (Nat.lt_succ_of_lt blt) z
    · match r2, q2 with
      | .error e, q2 => exact q2
      | .ok (.ret v), q2 =>
        obtain ⟨rfl, g, tk, c, rfl, a1, a2, a3⟩ := q2
        repeat (any_goals (first | assumption | wp_step))
        exact fin _ _ _ a1 a2 a3
end
section
variable {P : Program} {w : World} {A : Around} {E : Value → Shared → Prop} {s : Shared} {a : Addr}
/-- sorted(found), any number of members -/
theorem sorted_setN {S : Int → Bool} {n : Nat} {Q : Value → Shared → Prop} (R : SetR w s.heap a S n) (hh : A.handled = none) (hn : n < 4096)
    (hQ : ∀ s' p (out : Array Value) (c : Nat) (ns : List Int), (∀ b o, s.heap.get? b = some o → s'.heap.get? b = some o) → s'.gens = s.gens → s'.os = s.os → s.heap.objs.size ≤ p →
      s'.heap.get? p = some (seqObj "list" out c) → IntsAre out.toList ns → ns.Pairwise (· < ·) → (∀ k, k ∈ ns ↔ S k = true) → ns.length = n → Q (.ref p) s') :
    wpAny (model P w) A (call (.builtin "sorted") [.ref a]) Q E s := by
  obtain ⟨o, es, ep, t, ho, hex, hd, g, nd, hm, hb, hf, hsz, hr, hl⟩ := R
  refine Calls.call_function_entry kind_sorted plain_sorted entry_sorted (args_sorted1 _) ?_
  unfold Builtin.«sorted»
  refine wpAny_bind (m := checkCount "sorted" 1 1 _) (wpAny_pure ?_)
  refine wpAny_bind (collect_set (A := A.in1) hh ⟨o, ho, hex.1, hd⟩ hf hb hr hl fun s1 vs k1 hz g1 o1 pm => ?_)
  have hvl : vs.length = n := by rw [pm.length_eq, List.length_map, Array.length_toList]; exact hsz
  have hI : IntsAre vs (vs.map Builtin.Re.reRawOf) := ints_of vs fun v hv => by
    obtain ⟨e, he, q⟩ := List.mem_map.mp (pm.mem_iff.mp hv)
    obtain ⟨k, tk, h1, _⟩ := g e he
    exact ⟨k, tk, by rw [← q]; exact h1⟩
  have pk : (vs.map Builtin.Re.reRawOf).Perm (es.toList.map keyOf) := by
    have q := pm.map Builtin.Re.reRawOf
    rw [List.map_map] at q
    exact q
  have hsl : vs.length ≤ sizeLine := by rw [hvl, sizeLine_eq]; omega
  refine wpAny_bind (wpAny_newList ?_ hsl)
  have hoL : (s1.heap.push (seqObj "list" vs.toArray 0)).get? s1.heap.objs.size = some (seqObj "list" vs.toArray 0) := Heap.get?_push_size _ rfl
  refine wpAny_bind (wpAny_holding (wpAny_call_entry slot_list_sort ⟨_, hoL, rfl⟩ entry_list_sort (list_sort_treeAny hoL hI hsl fun out ns' a1 a2 a3 => ⟨_, rfl, ?_⟩) (args_list_sort _)))
  obtain ⟨c, hc⟩ := sortedHeap_at (vs := vs) (out := out) hoL
  have pn : ns'.Perm (es.toList.map keyOf) := a2.trans pk
  refine wpAny_pure ⟨_, rfl, hQ _ s1.heap.objs.size out c ns' (fun b u e => ?_) g1 o1 hz hc a1 (lt_of_le_nodup ns' a3 (pn.nodup_iff.mpr nd)) (fun k => by rw [pn.mem_iff, ← hm k]) ?_⟩
  · have q := k1 b u e
    have hlt := Heap.lt_size q
    show (sortedHeap (s1.heap.push (seqObj "list" vs.toArray 0)) s1.heap.objs.size vs out).get? b = some u
    rw [sortedHeap_old (Nat.ne_of_lt hlt) (by rw [size_push']; exact Nat.lt_succ_of_lt hlt)]
    exact Heap.get?_push_of_some _ q
  · rw [pn.length_eq, List.length_map, Array.length_toList]; exact hsz
end
theorem cr_sortedSetN {X : Cx} (hc : X.calm = true) : CallR X (.builtin "sorted") (fun vs H Q => ∃ (a : Addr) (S : Int → Bool) (n : Nat), vs = [V.ref a] ∧ H a = some (SetO X.w a S n) ∧ n < 4096 ∧
    ∀ (ns : List Int) (p : Addr), ns.Pairwise (· < ·) → (∀ k : Int, k ∈ ns ↔ S k = true) → ns.length = n → H p = none → Q (.ref p) (upd H p (.lst (ns.map V.int)))) := by
  intro pins s σ H vs us Q I r h
  obtain ⟨a, S, n, rfl, ha, hn, q⟩ := h
  have R := setO_get I ha
  rw [Vals.ref1 r]
  refine sorted_setN R (I.ok.hd hc) hn fun s' p out c ns k g o hp hg hi hs hm hl => ?_
  have hlen : (ns.map V.int).length ≤ sizeLine := by rw [List.length_map, hl, sizeLine_eq]; omega
  have hnn : H p = none := I.hok.fresh hp
  have J : Inv X pins σ (upd H p (.lst (ns.map V.int))) { s with heap := s'.heap, gens := s'.gens, drawn := s'.drawn, toks := s'.toks } :=
    I.call (ch := []) (Un.laid k hp hnn) (I.hok.laid k hp ⟨hlen, out.toList, c, vals_of_ints hi, hg⟩) (by rw [g]; exact I.bare) (fun _ z => nomatch z)
  have e : s' = { s with heap := s'.heap, gens := s'.gens, drawn := s'.drawn, toks := s'.toks } := by
    cases s'
    cases s
    cases o
    rfl
  rw [e]
  exact ⟨.ref p, _, J, rfl, q ns p hs hm hl hnn⟩
/-- each once -/
def uniqI : List Int → List Int
  | [] => []
  | a :: l => if a ∈ l then uniqI l else a :: uniqI l
theorem mem_uniqI {k : Int} : ∀ {l : List Int}, k ∈ uniqI l ↔ k ∈ l
  | [] => Iff.rfl
  | a :: l => by
    unfold uniqI
    by_cases h : a ∈ l
    · rw [if_pos h, mem_uniqI, List.mem_cons]
      exact ⟨.inr, fun z => z.elim (fun e => e ▸ h) id⟩
    · rw [if_neg h, List.mem_cons, List.mem_cons, mem_uniqI]
theorem uniqI_nodup : ∀ l : List Int, (uniqI l).Nodup
  | [] => .nil
  | a :: l => by
    unfold uniqI
    by_cases h : a ∈ l
    · rw [if_pos h]; exact uniqI_nodup l
    · rw [if_neg h]; exact List.nodup_cons.mpr ⟨fun z => h (mem_uniqI.mp z), uniqI_nodup l⟩
theorem uniqI_of_nodup : ∀ {l : List Int}, l.Nodup → uniqI l = l
  | [], _ => rfl
  | a :: l, h => by
    obtain ⟨h1, h2⟩ := List.nodup_cons.mp h
    unfold uniqI
    rw [if_neg h1, uniqI_of_nodup h2]
theorem uniqI_len : ∀ l : List Int, (uniqI l).length ≤ l.length
  | [] => Nat.le_refl _
  | a :: l => by
    unfold uniqI
    have := uniqI_len l
    by_cases h : a ∈ l
    · rw [if_pos h, List.length_cons]; omega
    · rw [if_neg h, List.length_cons, List.length_cons]; omega
theorem len_same {xs ys : List Int} (h1 : xs.Nodup) (h2 : ys.Nodup) (h : ∀ k, k ∈ xs ↔ k ∈ ys) : xs.length = ys.length := ((List.perm_ext_iff_of_nodup h1 h2).mpr h).length_eq
def sset (x : List Int) : List Int := sortI (uniqI x)
def ssetC (x : List Int) : Option (List Int) := if x.length < 4000 then some (sset x) else none
def lsetC (x : List Int) : Option Int := if x.length < 4000 then some ((uniqI x).length : Int) else none
theorem ssetC_ok {x : List Int} (h : x.length < 4000) : ssetC x = some (sset x) := if_pos h
theorem ssetC_okU {x : List Int} (h : x.length < 4000) (h2 : (uniqI x).length < 64) : ssetC x = some (sset x) := if_pos h
theorem lsetC_ok {x : List Int} (h : x.length < 4000) : lsetC x = some ((uniqI x).length : Int) := if_pos h
theorem mem_sset {k : Int} {x : List Int} : k ∈ sset x ↔ k ∈ x := by
  unfold sset
  rw [(sortI_perm _).mem_iff, mem_uniqI]
theorem sset_lt (x : List Int) : (sset x).Pairwise (· < ·) := by
  have h1 := sortI_srt (uniqI x)
  have h2 : (sset x).Nodup := (sortI_perm _).nodup_iff.mpr (uniqI_nodup x)
  unfold sset at h2 ⊢
  exact (h1.and h2).imp fun ⟨a, b⟩ => by omega
theorem lt_uniq : ∀ {xs ys : List Int}, xs.Pairwise (· < ·) → ys.Pairwise (· < ·) → (∀ k, k ∈ xs ↔ k ∈ ys) → xs = ys := by
  intro xs ys h1 h2 h
  have n1 : xs.Nodup := h1.imp fun h => by omega
  have n2 : ys.Nodup := h2.imp fun h => by omega
  refine List.Perm.eq_of_pairwise (fun a b _ _ (g1 : a ≤ b) (g2 : b ≤ a) => Int.le_antisymm g1 g2) (h1.imp fun h => Int.le_of_lt h) (h2.imp fun h => Int.le_of_lt h) ?_
  exact (List.perm_ext_iff_of_nodup n1 n2).mpr h
theorem sset_eq {x ys : List Int} (h : ys.Pairwise (· < ·)) (k : ∀ j, j ∈ ys ↔ j ∈ x) : ys = sset x := lt_uniq h (sset_lt x) fun j => (k j).trans mem_sset.symm
section
variable {X : Cx} {K : Fg} {L : List Loc} {a : Expr} {pos p p2 q : Pos}
theorem setR_count {w : World} {h : Heap} {a : Addr} {ns : List Int} {c : Nat} (R : SetR w h a (fun j => decide (j ∈ ns)) c) : c = (uniqI ns).length := by
  obtain ⟨o, es, ep, t, _, _, _, _, nd, hm, _, _, hn, _⟩ := R
  have e := len_same nd (uniqI_nodup ns) fun k => by rw [← hm k, mem_uniqI, decide_eq_true_eq]
  rw [List.length_map, Array.length_toList, hn] at e
  exact e
theorem cr_setI (hc : X.calm = true) : CallR X (.type "set") (fun vs H Q => ∃ (b : Addr) (ns : List Int), vs = [V.ref b] ∧ (SqL X.K H b (ns.map V.int) ∨ SqT X.K H b (ns.map V.int)) ∧ ns.length < 4000 ∧
    ∀ d, H d = none → Q (.ref d) (upd H d (SetO X.w d (fun j => decide (j ∈ ns)) (uniqI ns).length))) := by
  intro pins s σ H vs us Q I r ⟨b, ns, e0, sq, hl, k⟩
  subst e0
  rw [Vals.ref1 r]
  have fin : ∀ (g : Heap) (tk c : Nat), SetR X.w g s.heap.objs.size (fun j => decide (j ∈ ns)) c → c ≤ ns.length → (∀ b o, s.heap.get? b = some o → g.get? b = some o) → EP X pins σ Q (.ref s.heap.objs.size) { s with heap := g, toks := tk } := by
    intro g tk c R _ hk
    have ec := setR_count R
    subst ec
    exact ⟨.ref _, upd H s.heap.objs.size (SetO X.w s.heap.objs.size (fun j => decide (j ∈ ns)) (uniqI ns).length), I.laid (t' := tk) hk (Nat.le_refl _) (setO_new R), rfl, k _ (I.hok.fresh (Nat.le_refl _))⟩
  rcases sq with sq | sq
  · obtain ⟨its, rv, pl, hz⟩ := I.list sq
    exact set_of_list ns (I.ok.hd hc) pl.isList (by simpa using rv.ints) (by unfold scanBound; omega) fin
  · obtain ⟨its, rv, ⟨o, h1, h2, n, h3⟩, hz⟩ := I.tuple sq
    exact call_set_tupI ns (I.ok.hd hc) ⟨o, h1, h2, n, h3⟩ (by simpa using rv.ints) (by unfold scanBound; omega) fin
theorem cr_lenSet : CallR X (.builtin "len") (fun vs H Q => ∃ (b : Addr) (S : Int → Bool) (n : Nat), vs = [V.ref b] ∧ H b = some (SetO X.w b S n) ∧ n < 4096 ∧ Q (.int n) H) := by
  intro pins s σ H vs us Q I r ⟨b, S, n, e0, hb, hn, k⟩
  subst e0
  rw [Vals.ref1 r]
  obtain ⟨o, es, ep, t, ho, hex, hd, _, _, _, _, hf, hs, _⟩ := setO_get I hb
  exact call_len_set ho hex hd hf (by rw [hs]; omega) ⟨.int n, H, I.tok _, ⟨_, by rw [hs]⟩, k⟩
theorem y_ssetL {m : Mo L (List Int)} (hc : X.calm = true) (hg : Gl X "sorted") (hm : X.mg "sorted" = none) (hg2 : Gl X "set") (hm2 : X.mg "set" = none) (he : PE X a (tE X.K L (tLst tInt) m))
    (h1 : starEach [a] X.env = (false, eval a X.env) :: starEach [] X.env := by rfl) (h2 : starEach [.Call (.Name "set" p2) [a] [] q] X.env = (false, eval (.Call (.Name "set" p2) [a] [] q) X.env) :: starEach [] X.env := by rfl) (hp1 : (backTo q (starEach [] X.env)).any (·.1) = false := by rfl) (hp2 : (backTo pos (starEach [] X.env)).any (·.1) = false := by rfl) :
    PE X (.Call (.Name "sorted" p) [.Call (.Name "set" p2) [a] [] q] [] pos) (tO X.K L (oLst tInt) fun ω ρ k => m ω ρ fun x ρ' => (ssetC x).bind fun z => k z ρ') := by
  refine pe_weak (pe_callB (cr_sortedSetN hc) hg hm PyProof.Rows.boot_sorted (pa_cons (pe_callTy (cr_setI hc) hg2 hm2 PyProof.Rows.boot_set (a_one he h1) (by decide) (by decide) h1 hp1) pa_nil h2) (by decide) (by decide) h2 hp2) fun σ H Q ⟨F, B, ρ, ω, k, o, st, e1, qq⟩ => ?_
  refine ⟨F, B, ρ, ω, _, o, st, e1, fun B' vs H' x ρ' s st' r e2 => ?_⟩
  obtain ⟨z, e3, e4⟩ := bind_some e2
  unfold ssetC at e3
  split at e3
  case isFalse => cases e3
  rename_i hlen
  cases e3
  obtain ⟨v, rfl, rv⟩ := r
  obtain ⟨l, rfl, sq, _⟩ := intsL rv
  refine ⟨l, x, rfl, .inl (st'.sb.seqL sq), hlen, fun d hd => ?_⟩
  refine ⟨d, _, _, rfl, upd_same, by have := uniqI_len x; omega, fun ns p2 h1 h2 _ hp => ?_⟩
  obtain ⟨own, S, _⟩ := st'.made (o := SetO X.w d (fun j => decide (j ∈ x)) (uniqI x).length) hd
  have st2 : Stt X.K F L B' ρ' σ (upd H' d (SetO X.w d (fun j => decide (j ∈ x)) (uniqI x).length)) := ⟨own, S⟩
  obtain ⟨own2, S2, g1, g2, g3, g4⟩ := st2.made (o := HO.lst (ns.map V.int)) hp
  have en := sset_eq (x := x) h1 fun j => by rw [h2 j, decide_eq_true_eq]
  refine qq B' p2 _ _ own2 (sset x) ρ' s S2 g1 ⟨_, rfl, ?_⟩ g2 g3 g4 e4
  rw [← en]
  exact ⟨Pmap (P_ofInts _) fun _ _ h => h, by rw [en]; unfold sset; rw [(sortI_perm _).length_eq, sizeLine_eq]; have := uniqI_len x; omega⟩
theorem y_ssetT {m : Mo L (List Int)} (hc : X.calm = true) (hg : Gl X "sorted") (hm : X.mg "sorted" = none) (hg2 : Gl X "set") (hm2 : X.mg "set" = none) (he : PE X a (tE X.K L (tAll tInt) m))
    (h1 : starEach [a] X.env = (false, eval a X.env) :: starEach [] X.env := by rfl) (h2 : starEach [.Call (.Name "set" p2) [a] [] q] X.env = (false, eval (.Call (.Name "set" p2) [a] [] q) X.env) :: starEach [] X.env := by rfl) (hp1 : (backTo q (starEach [] X.env)).any (·.1) = false := by rfl) (hp2 : (backTo pos (starEach [] X.env)).any (·.1) = false := by rfl) :
    PE X (.Call (.Name "sorted" p) [.Call (.Name "set" p2) [a] [] q] [] pos) (tO X.K L (oLst tInt) fun ω ρ k => m ω ρ fun x ρ' => (ssetC x).bind fun z => k z ρ') := by
  refine pe_weak (pe_callB (cr_sortedSetN hc) hg hm PyProof.Rows.boot_sorted (pa_cons (pe_callTy (cr_setI hc) hg2 hm2 PyProof.Rows.boot_set (a_one he h1) (by decide) (by decide) h1 hp1) pa_nil h2) (by decide) (by decide) h2 hp2) fun σ H Q ⟨F, B, ρ, ω, k, o, st, e1, qq⟩ => ?_
  refine ⟨F, B, ρ, ω, _, o, st, e1, fun B' vs H' x ρ' s st' r e2 => ?_⟩
  obtain ⟨z, e3, e4⟩ := bind_some e2
  unfold ssetC at e3
  split at e3
  case isFalse => cases e3
  rename_i hlen
  cases e3
  obtain ⟨v, rfl, rv⟩ := r
  obtain ⟨l, rfl, sq, _⟩ := intsT rv
  refine ⟨l, x, rfl, .inr (st'.sb.seqT sq), hlen, fun d hd => ?_⟩
  refine ⟨d, _, _, rfl, upd_same, by have := uniqI_len x; omega, fun ns p2 h1 h2 _ hp => ?_⟩
  obtain ⟨own, S, _⟩ := st'.made (o := SetO X.w d (fun j => decide (j ∈ x)) (uniqI x).length) hd
  have st2 : Stt X.K F L B' ρ' σ (upd H' d (SetO X.w d (fun j => decide (j ∈ x)) (uniqI x).length)) := ⟨own, S⟩
  obtain ⟨own2, S2, g1, g2, g3, g4⟩ := st2.made (o := HO.lst (ns.map V.int)) hp
  have en := sset_eq (x := x) h1 fun j => by rw [h2 j, decide_eq_true_eq]
  refine qq B' p2 _ _ own2 (sset x) ρ' s S2 g1 ⟨_, rfl, ?_⟩ g2 g3 g4 e4
  rw [← en]
  exact ⟨Pmap (P_ofInts _) fun _ _ h => h, by rw [en]; unfold sset; rw [(sortI_perm _).length_eq, sizeLine_eq]; have := uniqI_len x; omega⟩
theorem y_lsetL {m : Mo L (List Int)} (hc : X.calm = true) (hg : Gl X "len") (hm : X.mg "len" = none) (hg2 : Gl X "set") (hm2 : X.mg "set" = none) (he : PE X a (tE X.K L (tLst tInt) m))
    (h1 : starEach [a] X.env = (false, eval a X.env) :: starEach [] X.env := by rfl) (h2 : starEach [.Call (.Name "set" p2) [a] [] q] X.env = (false, eval (.Call (.Name "set" p2) [a] [] q) X.env) :: starEach [] X.env := by rfl) (hp1 : (backTo q (starEach [] X.env)).any (·.1) = false := by rfl) (hp2 : (backTo pos (starEach [] X.env)).any (·.1) = false := by rfl) :
    PE X (.Call (.Name "len" p) [.Call (.Name "set" p2) [a] [] q] [] pos) (tE X.K L tInt fun ω ρ k => m ω ρ fun x ρ' => (lsetC x).bind fun z => k z ρ') := by
  refine pe_weak (pe_callB cr_lenSet hg hm PySem.boot_len (pa_cons (pe_callTy (cr_setI hc) hg2 hm2 PyProof.Rows.boot_set (a_one he h1) (by decide) (by decide) h1 hp1) pa_nil h2) (by decide) (by decide) h2 hp2) fun σ H Q ⟨F, B, ρ, ω, k, o, st, e1, qq⟩ => ?_
  refine ⟨F, B, ρ, ω, _, o, st, e1, fun B' vs H' x ρ' s st' r e2 => ?_⟩
  obtain ⟨z, e3, e4⟩ := bind_some e2
  unfold lsetC at e3
  split at e3
  case isFalse => cases e3
  rename_i hlen
  cases e3
  obtain ⟨v, rfl, rv⟩ := r
  obtain ⟨l, rfl, sq, _⟩ := intsL rv
  refine ⟨l, x, rfl, .inl (st'.sb.seqL sq), by omega, fun d hd => ?_⟩
  refine ⟨d, _, _, rfl, upd_same, by have := uniqI_len x; omega, ?_⟩
  obtain ⟨own, S, _⟩ := st'.made (o := SetO X.w d (fun j => decide (j ∈ x)) (uniqI x).length) hd
  exact qq B' _ _ _ ρ' s ⟨own, S⟩ rfl e4
theorem y_lsetT {m : Mo L (List Int)} (hc : X.calm = true) (hg : Gl X "len") (hm : X.mg "len" = none) (hg2 : Gl X "set") (hm2 : X.mg "set" = none) (he : PE X a (tE X.K L (tAll tInt) m))
    (h1 : starEach [a] X.env = (false, eval a X.env) :: starEach [] X.env := by rfl) (h2 : starEach [.Call (.Name "set" p2) [a] [] q] X.env = (false, eval (.Call (.Name "set" p2) [a] [] q) X.env) :: starEach [] X.env := by rfl) (hp1 : (backTo q (starEach [] X.env)).any (·.1) = false := by rfl) (hp2 : (backTo pos (starEach [] X.env)).any (·.1) = false := by rfl) :
    PE X (.Call (.Name "len" p) [.Call (.Name "set" p2) [a] [] q] [] pos) (tE X.K L tInt fun ω ρ k => m ω ρ fun x ρ' => (lsetC x).bind fun z => k z ρ') := by
  refine pe_weak (pe_callB cr_lenSet hg hm PySem.boot_len (pa_cons (pe_callTy (cr_setI hc) hg2 hm2 PyProof.Rows.boot_set (a_one he h1) (by decide) (by decide) h1 hp1) pa_nil h2) (by decide) (by decide) h2 hp2) fun σ H Q ⟨F, B, ρ, ω, k, o, st, e1, qq⟩ => ?_
  refine ⟨F, B, ρ, ω, _, o, st, e1, fun B' vs H' x ρ' s st' r e2 => ?_⟩
  obtain ⟨z, e3, e4⟩ := bind_some e2
  unfold lsetC at e3
  split at e3
  case isFalse => cases e3
  rename_i hlen
  cases e3
  obtain ⟨v, rfl, rv⟩ := r
  obtain ⟨l, rfl, sq, _⟩ := intsT rv
  refine ⟨l, x, rfl, .inr (st'.sb.seqT sq), by omega, fun d hd => ?_⟩
  refine ⟨d, _, _, rfl, upd_same, by have := uniqI_len x; omega, ?_⟩
  obtain ⟨own, S, _⟩ := st'.made (o := SetO X.w d (fun j => decide (j ∈ x)) (uniqI x).length) hd
  exact qq B' _ _ _ ρ' s ⟨own, S⟩ rfl e4
end
end L3
namespace L2
theorem Room.units65 {k : Nat} {A : PySem.Around} (r : Room k A) : A.units + 65 < PySem.cLine := by have := r.un; omega
end L2
namespace L3
open PySem PySem.Spec PyProof.Rows L2
section
variable {X : Cx} {K : Fg}
def rInT (K : Fg) (neg : Bool) : R2 := fun x y H Q => ∃ d ds, Dp K H x d ∧ Dp K H y (.tuple ds) ∧ SeqAt.shaped d = true ∧ SeqAt.shaped (.tuple ds) = true ∧ Q (.bl (if neg = true then !(ds.any fun z => PyData.eqv z d) else ds.any fun z => PyData.eqv z d)) H
theorem op_inDT (hu : X.A.units + 65 < cLine) : OpR X (compareOp .In) (rInT X.K false) := by
  intro pins s σ H x y v u Q I rx ry ⟨d, ds, hd, he, sd, se, q⟩
  obtain ⟨as, r1⟩ := Dp.reads I d x v hd rx
  obtain ⟨bs, r2⟩ := Dp.reads I (.tuple ds) y u he ry
  exact SeqAt.in_tuple_reads r2 r1 (SeqAt.canLay_of_shaped se) (SeqAt.canLay_of_shaped sd) (room_in_shaped sd hu) ⟨.bl _, H, I, rfl, q⟩
theorem op_notInDT (hu : X.A.units + 65 < cLine) : OpR X (compareOp .NotIn) (rInT X.K true) := by
  intro pins s σ H x y v u Q I rx ry ⟨d, ds, hd, he, sd, se, q⟩
  obtain ⟨as, r1⟩ := Dp.reads I d x v hd rx
  obtain ⟨bs, r2⟩ := Dp.reads I (.tuple ds) y u he ry
  exact SeqAt.notIn_tuple_reads r2 r1 (SeqAt.canLay_of_shaped se) (SeqAt.canLay_of_shaped sd) (room_in_shaped sd hu) ⟨.bl _, H, I, rfl, q⟩
theorem any_to {α : Type} {T : L3.Ty α} [DecidableEq α] (d : Emb T) (x : α) (y : List α) : ((y.map d.to).any fun z => PyData.eqv z (d.to x)) = memD x y := dec_iff (by
  simp only [List.any_eq_true, List.mem_map]
  constructor
  · rintro ⟨z, ⟨y, m, rfl⟩, e⟩
    rw [d.eqv] at e
    exact e ▸ m
  · intro m
    exact ⟨_, ⟨x, m, rfl⟩, d.eqv.mpr rfl⟩)
theorem o_inDT {α : Type} {T : L3.Ty α} [DecidableEq α] (d : Emb T) (h : (d.ly && decide (d.dn < 64)) = true := by rfl) : Op2 K (rInT K false) T (tAll T) tBool fun x ys => some (memD x ys) := fun {B H x y z v w Q} s hx hy e q => by
  cases e
  have h2 : ((dAll d).ly && decide ((dAll d).dn ≤ 64)) = true := h
  have h1 : (d.ly && decide (d.dn ≤ 64)) = true := by
    rw [Bool.and_eq_true] at h ⊢
    exact ⟨h.1, decide_eq_true (Nat.le_of_lt (of_decide_eq_true h.2))⟩
  refine ⟨_, y.map d.to, Dp.up s (d.rep hx), Dp.up s ((dAll d).rep hy), d.shp h1 x, (dAll d).shp h2 y, ?_⟩
  rw [if_neg Bool.false_ne_true, any_to]
  exact q _ _ _ (gr0 s) rfl
theorem o_notInDT {α : Type} {T : L3.Ty α} [DecidableEq α] (d : Emb T) (h : (d.ly && decide (d.dn < 64)) = true := by rfl) : Op2 K (rInT K true) T (tAll T) tBool fun x ys => some (!memD x ys) := fun {B H x y z v w Q} s hx hy e q => by
  cases e
  have h2 : ((dAll d).ly && decide ((dAll d).dn ≤ 64)) = true := h
  have h1 : (d.ly && decide (d.dn ≤ 64)) = true := by
    rw [Bool.and_eq_true] at h ⊢
    exact ⟨h.1, decide_eq_true (Nat.le_of_lt (of_decide_eq_true h.2))⟩
  refine ⟨_, y.map d.to, Dp.up s (d.rep hx), Dp.up s ((dAll d).rep hy), d.shp h1 x, (dAll d).shp h2 y, ?_⟩
  rw [if_pos rfl, any_to]
  exact q _ _ _ (gr0 s) rfl
end
end L3

/-! L3: shifts to the left; tuple(range(n)). -/
namespace L3
open PySem PySem.Spec PyProof.Rows L2
section
variable {X : Cx} {K : Fg} {L : List Loc}
theorem iop_mulWi : OpR X (inplaceOp .Mult) (rI CMulW fun i j => .int (i * j)) := opI fun _ _ _ _ _ _ _ hc q => imul_int q hc.ok
theorem iop_mulA : OpR X (inplaceOp .Mult) rMulA := iop_mul.or iop_mulWi
noncomputable def shlC (x y : Int) : Option Int := blk (if 0 ≤ y ∧ y ≤ 1000000 ∧ x.natAbs < 2 ^ 64 then some (x * 2 ^ y.toNat) else none)
theorem shlC_eq (x y : Int) : shlC x y = if 0 ≤ y ∧ y ≤ 1000000 ∧ x.natAbs < 2 ^ 64 then some (x * 2 ^ y.toNat) else none := blk_eq _
theorem o_shl : Op2 K (rI CPow fun i j => .int (i * 2 ^ j.toNat)) tInt tInt tInt shlC := fun s hx hy e q => by
  cases hx; cases hy
  rw [shlC_eq] at e
  split at e
  · rename_i h
    cases e
    exact ⟨_, _, rfl, rfl, h, q _ _ _ (gr0 s) rfl⟩
  · cases e
variable {a : Expr} {p pos : Pos}
/-- tuple(range(n)) -/
theorem y_trange {m : Mo L Int} {p2 pos2 : Pos} (hc : X.calm = true) (hg : Gl X "tuple") (hm : X.mg "tuple" = none) (hg2 : Gl X "range") (hm2 : X.mg "range" = none) (h : PE X a (tE K L tInt m)) (nb : starEach [a] X.env = (false, eval a X.env) :: starEach [] X.env := by rfl)
    (na : starEach [.Call (.Name "range" p2) [a] [] pos2] X.env = (false, eval (.Call (.Name "range" p2) [a] [] pos2) X.env) :: starEach [] X.env := by rfl) :
    PE X (.Call (.Name "tuple" p) [.Call (.Name "range" p2) [a] [] pos2] [] pos) (tE K L (tAll tInt) fun ω ρ k => m ω ρ fun n ρ' => (lrng n).bind fun z => k z ρ') := by
  refine pe_weak (pe_tupRg hc hg hm (prg_1 hg2 hm2 h nb) na) fun σ H Q ⟨F, B, ρ, ω, k, oo, st, e1, q⟩ => ?_
  refine ⟨F, B, ρ, ω, _, oo, st, e1, fun B' v H' x ρ' s st' r e2 => ?_⟩
  obtain ⟨z, e3, e4⟩ := bind_some e2
  unfold lrng at e3
  split at e3
  · rename_i hb
    cases e3
    refine ⟨x, r, ⟨by decide, by decide, by omega, by omega, by omega⟩, fun l hl => ?_⟩
    have g := Grow.new (o := HO.tup (rgV 0 x)) st'.sb hl
    refine q _ _ _ _ ρ' (s.trans g.b) (st'.grow g) ?_ e4
    refine ⟨l, rgV 0 x, rfl, .inl (.inl upd_same), ?_⟩
    refine ⟨?_, ?_⟩
    · show Paired _ (rgV 0 x) (rangeL 0 x)
      rw [show rgV 0 x = (rangeL 0 x).map V.int from ?_]
      · exact P_ofInts _
      · unfold rgV rangeL
        rw [List.map_map]
        rfl
    · show (rangeL 0 x).length ≤ sizeLine
      unfold rangeL
      rw [List.length_map, List.length_range, sizeLine_eq]
      omega
  · cases e3
/-! range with a step -/
def rangeC (lo c : Int) (n : Nat) : List Int := (List.range n).map fun (i : Nat) => lo + (i : Int) * c
theorem itc_ok {lo c : Int} {n : Nat} {B : Hp} : ItOk K (Itc lo c n) B tInt (rangeC lo c n) := fun i B1 H s1 s2 => by
  unfold rangeC
  refine ⟨fun h => by
    have h2 : n ≤ i := by simpa using h
    exact h2, fun x hx => ?_⟩
  rw [List.getElem?_map] at hx
  have hlt : i < n := by
    cases q : (List.range n)[i]? with
    | none => rw [q] at hx; cases hx
    | some k => simpa using (List.getElem?_eq_some_iff.mp q).1
  rw [List.getElem?_range hlt] at hx
  cases hx
  refine ⟨hlt, fun u H' hy => ?_⟩
  obtain ⟨rfl, rfl⟩ := hy
  exact ⟨B1, Grow.refl s2, rfl⟩
noncomputable def rng3 (i j c : Int) : Option (List Int) := blk (if c ≠ 0 ∧ c.natAbs < 1073741824 ∧ Builtin.Range.small i j c = true ∧ Builtin.Range.rangeSize i j c = ((Builtin.Range.rangeSize i j c).toNat : Int) then some (rangeC i c (Builtin.Range.rangeSize i j c).toNat) else none)
theorem rng3_eq (i j c : Int) : rng3 i j c = if c ≠ 0 ∧ c.natAbs < 1073741824 ∧ Builtin.Range.small i j c = true ∧ Builtin.Range.rangeSize i j c = ((Builtin.Range.rangeSize i j c).toNat : Int) then some (rangeC i c (Builtin.Range.rangeSize i j c).toNat) else none := blk_eq _
theorem i_range3 {b c tg : Expr} {m m2 m3 : Mo L Int} (hg : Gl X "range") (hm : X.mg "range" = none) (h : PE X a (tE K L tInt m)) (h2 : PE X b (tE K L tInt m2)) (h3 : PE X c (tE K L tInt m3)) (hs : starEach [a, b, c] X.env = [(false, eval a X.env), (false, eval b X.env), (false, eval c X.env)] := by rfl) (hs2 : starEach [b, c] X.env = [(false, eval b X.env), (false, eval c X.env)] := by rfl) (hs3 : starEach [c] X.env = [(false, eval c X.env)] := by rfl) :
    PI X tg (.Call (.Name "range" p) [a, b, c] [] pos) (tIt K L tInt fun ω ρ k => m ω ρ fun x ρ1 => m2 ω ρ1 fun y ρ2 => m3 ω ρ2 fun z ρ3 => (rng3 x y z).bind fun w => k w ρ3) := by
  refine pi_weak (pi_range3 hg hm (pa_cons h (pa_cons h2 (pa_cons h3 pa_nil hs3) (by rw [hs2, hs3])) (by rw [hs, hs2])) (by rw [hs, hs2]) (by rw [hs2]; rfl)) fun σ H R ⟨F, B, ρ, ω, k, o, st, e1, q⟩ => ?_
  refine ⟨F, B, ρ, ω, _, o, st, e1, fun B' v H' x ρ1 s st' r e2 => ⟨F, B', ρ1, ω, _, o, st', e2, fun B2 w H2 y ρ2 s2 st2 r2 e3 => ⟨F, B2, ρ2, ω, _, o, st2, e3, fun B3 u H3 z ρ3 s3 st3 r3 e4 => ?_⟩⟩⟩
  obtain ⟨zs, e5, e6⟩ := bind_some e4
  rw [rng3_eq] at e5
  split at e5
  · rename_i hb
    cases e5
    refine ⟨x, y, z, _, by rw [r, r2, r3], ⟨hb.1, hb.2.1, hb.2.2.1, hb.2.2.2⟩, ?_⟩
    exact q B3 (Itc x z _) H3 _ _ ((s.trans s2).trans s3) st3 itc_ok e6
  · cases e5
end
section
variable {X : Cx} {L Lw Lb : List Loc} {pos : Pos}
/-- a comprehension within a comprehension's test: its mirror is told last -/
theorem y_compN {vs ws : List Nat} {elt tg iter : Expr} {ifs : List Expr} {scope : Scope} {own : List (Str × Nat)} {β γ : Type} {T : Ty β} {U : Ty γ} {mi : Mo L (List β)} {bd : β → Env Lw → Env Lb} {mc : Mo Lb Bool} {me : Mo Lb γ} {mm : Mo L (List γ)}
    (w : Wp vs 0 L Lw) (wb : Wp vs 0 Lb Lw) (hv : own.map (·.2) = vs) (hsub : ∀ i ∈ ws, i ∈ vs)
    (hc : X.calm = true) (hN : X.N.Nodup) (hi : PI X tg iter (tIt X.K L T mi)) (ok : BlkOk X.N X.env.scope scope own)
    (hg : ∀ (s : Shared) (H : Hp) (C : Addr) (cl : List (Str × Addr)) (fp : List Addr), PG (X.blk s H scope (compEnvC scope cl C X.env) fp) tg (tGt X.K Lw Lb ws T bd))
    (ht : ∀ (s : Shared) (H : Hp) (C : Addr) (cl : List (Str × Addr)) (fp : List Addr), PTs (X.blk s H scope (compEnvC scope cl C X.env) fp) ifs (tC X.K Lb mc))
    (he : ∀ (s : Shared) (H : Hp) (C : Addr) (cl : List (Str × Addr)) (fp : List Addr), PE (X.blk s H scope (compEnvC scope cl C X.env) fp) elt (tE X.K Lb U me)) (hm : mm = compO mi bd mc me w.env wb.env w.back := by rfl) (hs : ∀ x, foldedSetIterable iter X.env x = pure x := by intro _; rfl) :
    PE X (.ListComp elt [⟨tg, iter, ifs, 0⟩] scope pos) (tO X.K L (oLst U) mm) := by
  rw [hm]
  exact y_comp w wb hv hsub hc hN hi ok hg ht he hs
end
/-- isinstance(v, tuple) of a tuple or None -/
theorem isT_optTup {β : Type} {R : Tys β} : IsT (tOpt (tTup R)) "tuple" Option.isSome := fun {K B v x} r => by
  cases x with
  | none =>
    obtain rfl : v = V.non := r
    exact ⟨.type "NoneType", .base .non, kit_of' (show kitB "NoneType" "tuple" = some false by decide +kernel)⟩
  | some y =>
    obtain ⟨⟨a, vs, e, q, _⟩, _⟩ := r
    exact ⟨.type "tuple", by subst e; exact TyX_T q, kit_of' (show kitB "tuple" "tuple" = some true by decide +kernel)⟩
/-! the place of an item -/
def ixOf {α : Type} [DecidableEq α] (x : α) : List α → Option Nat
  | [] => none
  | y :: ys => if y = x then some 0 else (ixOf x ys).map (· + 1)
theorem ixOf_some {α : Type} [DecidableEq α] {x : α} : ∀ {ys : List α} {j : Nat}, ixOf x ys = some j → ys[j]? = some x ∧ ∀ (m : Nat) (z : α), m < j → ys[m]? = some z → z ≠ x
  | [], j, e => nomatch e
  | y :: ys, j, e => by
    unfold ixOf at e
    by_cases c : y = x
    · rw [if_pos c] at e
      cases e
      exact ⟨by rw [c]; rfl, fun m z h => absurd h (Nat.not_lt_zero m)⟩
    · rw [if_neg c] at e
      cases e2 : ixOf x ys with
      | none => rw [e2] at e; exact nomatch e
      | some i =>
        rw [e2] at e
        cases e
        obtain ⟨a, b⟩ := ixOf_some e2
        refine ⟨a, fun m z h hz => ?_⟩
        cases m with
        | zero =>
          cases hz
          exact c
        | succ m => exact b m z (Nat.lt_of_succ_lt_succ h) hz
def indexC {α : Type} [DecidableEq α] (xs : List α) (x : α) : Option Int := (ixOf x xs).map fun j => (j : Int)
section
variable {X : Cx} {L : List Loc} {o e : Expr} {cpos apos : Pos}
theorem y_lindex {α : Type} {T : Ty α} [DecidableEq α] {mo : Mo L (List α)} {ma : Mo L α} (d : Emb T) (hu : X.A.units + 65 < cLine) (ho : PE X o (tE X.K L (tLst T) mo)) (ha : PE X e (tE X.K L T ma)) (h : (d.ly && decide (d.dn < 64)) = true := by rfl)
    (hbase : attributeBase o "index" X.env (eval o X.env) = eval o X.env := by rfl)
    (hfew : ((backTo cpos (starEach [e] X.env)).all (fun x => !x.1) && (backToKw cpos (keywordEach [] X.env)).all (fun x => x.1.isSome) && decide (([e] : List Expr).length + ([] : List Keyword).length + (if ([] : List Keyword).isEmpty then 0 else 1) < 30)) = true := by rfl)
    (hline : (apos.endLine == cpos.line) = true := by rfl) (hs : starEach [e] X.env = (false, eval e X.env) :: starEach [] X.env := by rfl) (hplain : (backTo cpos (starEach [] X.env)).any (·.1) = false := by rfl) :
    PE X (.Call (.Attribute o "index" apos) [e] [] cpos) (tE X.K L tInt fun ω ρ k => mo ω ρ fun xs ρ1 => ma ω ρ1 fun x ρ2 => (indexC xs x).bind fun z => k z ρ2) := by
  refine pe_weak (pe_bm PySem.F.plainAttrs_list PySem.F.slot_list_index PySem.F.type_list_index (mt_indexD hu) ho (pa_cons ha pa_nil hs) hbase hfew hline hs hplain) fun σ H Q ⟨F, B, ρ, ω, k, oo, st, e1, q⟩ => ?_
  refine ⟨F, B, ρ, ω, _, oo, st, e1, fun B' v H' xs ρ1 s st' rv e2 => ?_⟩
  have rv0 := rv
  obtain ⟨a, vs, rfl, hq, _⟩ := rv
  refine ⟨.inl ⟨rfl, vs, .inl (.inl (st'.sb _ _ hq))⟩, F, B', ρ1, ω, _, oo, st', e2, fun B2 w H2 x ρ2 s2 st2 rw2 e3 => ?_⟩
  obtain ⟨z, e4, e5⟩ := bind_some e3
  unfold indexC at e4
  cases e6 : ixOf x xs with
  | none => rw [e6] at e4; exact nomatch e4
  | some j =>
    rw [e6] at e4
    cases e4
    obtain ⟨g1, g2⟩ := ixOf_some e6
    have h2 : ((dLst d).ly && decide ((dLst d).dn ≤ 64)) = true := h
    have h1 : (d.ly && decide (d.dn ≤ 64)) = true := by
      rw [Bool.and_eq_true] at h ⊢
      exact ⟨h.1, decide_eq_true (Nat.le_of_lt (of_decide_eq_true h.2))⟩
    refine ⟨a, w, d.to x, xs.map d.to, j, d.to x, rfl, rfl, Dp.up st2.sb ((dLst d).rep ((tLst T).mono s2 rv0)), Dp.up st2.sb (d.rep rw2), (dLst d).shp h2 xs, d.shp h1 x, ?_, d.eqv.mpr rfl, ?_, ?_⟩
    · rw [List.getElem?_map, g1]
      rfl
    · intro m z' hm hz
      rw [List.getElem?_map] at hz
      cases e7 : xs[m]? with
      | none => rw [e7] at hz; exact nomatch hz
      | some y =>
        rw [e7] at hz
        cases hz
        cases e8 : PyData.eqv (d.to y) (d.to x) with
        | false => rfl
        | true => exact absurd (d.eqv.mp e8) (g2 m y hm e7)
    · exact q B2 _ H2 _ ρ2 (s.trans s2) st2 rfl e5
end
/-! a list of values none of which is None, as a list of the values -/
def noNone {α : Type} : List (Option α) → Option (List α)
  | [] => some []
  | none :: _ => none
  | some x :: r => (noNone r).map (x :: ·)
theorem noNone_len {α : Type} : ∀ {xs : List (Option α)} {ys : List α}, noNone xs = some ys → ys.length = xs.length
  | [], ys, e => by cases e; rfl
  | none :: _, ys, e => nomatch e
  | some x :: r, ys, e => by
    unfold noNone at e
    cases e2 : noNone r with
    | none => rw [e2] at e; exact nomatch e
    | some zs =>
      rw [e2] at e
      cases e
      show zs.length + 1 = r.length + 1
      rw [noNone_len e2]
theorem P_noNone {α : Type} {K : Fg} {B : Hp} {T : Ty α} : ∀ {vs : List V} {xs : List (Option α)} {ys : List α}, Paired ((tOpt T).rep K B) vs xs → noNone xs = some ys → Paired (T.rep K B) vs ys
  | _, _, ys, .nil, e => by cases e; exact .nil
  | _, none :: _, ys, .cons _ _, e => nomatch e
  | _, some x :: r, ys, .cons h p, e => by
    unfold noNone at e
    cases e2 : noNone r with
    | none => rw [e2] at e; exact nomatch e
    | some zs =>
      rw [e2] at e
      cases e
      exact .cons h.1 (P_noNone p e2)
section
variable {X : Cx} {K : Fg} {L : List Loc} {e : Expr}
theorem y_noNone {α : Type} {T : Ty α} {m : Mo L (List (Option α))} (h : PE X e (tE K L (tLst (tOpt T)) m)) : PE X e (tE K L (tLst T) fun ω ρ k => m ω ρ fun xs ρ' => (noNone xs).bind fun ys => k ys ρ') := by
  refine pe_weak h fun σ H Q ⟨F, B, ρ, ω, k, o, st, e1, q⟩ => ?_
  refine ⟨F, B, ρ, ω, _, o, st, e1, fun B' v H' xs ρ1 s st' rv e2 => ?_⟩
  obtain ⟨ys, e3, e4⟩ := bind_some e2
  obtain ⟨a, vs, rfl, hq, hp, hl⟩ := rv
  exact q B' _ H' ys ρ1 s st' ⟨a, vs, rfl, hq, P_noNone hp e3, by rw [noNone_len e3]; exact hl⟩ e4
end
end L3

/-! L3: dicts whose keys are ints or texts. -/
namespace L3
open PySem PySem.Spec PyProof.Rows L2
/-- a type whose values can be keys -/
structure Kt {κ : Type} (T : Ty κ) where
  key : κ → L2.Key
  inj : ∀ {a b : κ}, key a = key b → a = b
  rep : ∀ {K B v x}, T.rep K B v x → v = kV (key x)
def kInt : Kt tInt := ⟨fun x => Sum.inl x, fun h => Sum.inl.inj h, fun h => h⟩
def kStr : Kt tStr := ⟨fun x => Sum.inr x, fun h => Sum.inr.inj h, fun h => h⟩
section
variable {κ α : Type} {T : Ty κ} {U : Ty α}
abbrev KVr (K : Fg) (B : Hp) (d : Kt T) (U : Ty α) : List (L2.Key × V) → List (κ × α) → Prop := Paired fun p q => p.1 = d.key q.1 ∧ U.rep K B p.2 q.2
def tDict (d : Kt T) (U : Ty α) : Ty (List (κ × α)) where
  rep := fun K B v xs => ∃ a ps, v = .ref a ∧ B a = some (.dK ps) ∧ KVr K B d U ps xs ∧ xs.length ≤ sizeLine
  mono := fun s ⟨a, ps, e, h, k, l⟩ => ⟨a, ps, e, s _ _ h, Pmap k fun _ _ r => ⟨r.1, U.mono s r.2⟩, l⟩
  nn := true
  nnok := fun _ _ _ _ _ ⟨a, ps, e, _⟩ z => by rw [e] at z; cases z
  to := false
  took := fun h => nomatch h
  em := U.em
  emok := fun h _ _ _ _ _ s ⟨a, ps, e, b, k, l⟩ => ⟨a, ps, e, s _ _ b rfl, Pmap k fun _ _ r => ⟨r.1, U.emok h s r.2⟩, l⟩
def oDict (d : Kt T) (U : Ty α) : OTy (List (κ × α)) where
  rep := fun K B o xs => ∃ ps, o = .dK ps ∧ KVr K B d U ps xs ∧ xs.length ≤ sizeLine
  mono := fun s ⟨ps, e, k, l⟩ => ⟨ps, e, Pmap k fun _ _ r => ⟨r.1, U.mono s r.2⟩, l⟩
  mtb := fun ⟨ps, e, h⟩ => by subst e; trivial
  fz := tDict d U
  fzok := fun {K B a o x} h ⟨ps, e, k⟩ => ⟨a, ps, rfl, by subst e; exact h, k⟩
  to := U.to
  took := fun h _ _ _ _ _ s ⟨ps, e, k, l⟩ => ⟨ps, e, Pmap k fun _ _ r => ⟨r.1, U.took h s r.2⟩, l⟩
  em := U.em
  emok := fun h _ _ _ _ _ s ⟨ps, e, k, l⟩ => ⟨ps, e, Pmap k fun _ _ r => ⟨r.1, U.emok h s r.2⟩, l⟩
variable [DecidableEq κ]
/-- what stands at a key -/
def getK (kvs : List (κ × α)) (k : κ) : Option α := (kvs.find? fun p => decide (p.1 = k)).map (·.2)
/-- in its place, or at the end -/
def setK (kvs : List (κ × α)) (k : κ) (y : α) : List (κ × α) :=
  if (kvs.any fun p => decide (p.1 = k)) = true then kvs.map (fun p => if p.1 = k then (p.1, y) else p) else kvs ++ [(k, y)]
def setKC (kvs : List (κ × α)) (k : κ) (y : α) : Option (List (κ × α)) := if kvs.length < 16777216 then some (setK kvs k y) else none
/-- what a value and what stands for it have alike -/
def Ro (K : Fg) (B : Hp) (U : Ty α) : Option V → Option α → Prop
  | none, none => True
  | some v, some x => U.rep K B v x
  | _, _ => False
theorem P_getK {K : Fg} {B : Hp} {d : Kt T} {ps : List (L2.Key × V)} {xs : List (κ × α)} (r : KVr K B d U ps xs) (k : κ) : Ro K B U (valV ps (d.key k)) (getK xs k) := by
  induction r with
  | nil => exact True.intro
  | @cons p q ps qs h t ih =>
    obtain ⟨h1, h2⟩ := h
    by_cases e : q.1 = k
    · rw [valV_pos (h1.trans (by rw [e])), show getK (q :: qs) k = some q.2 by simp [getK, List.find?_cons, e]]
      exact h2
    · rw [valV_neg (fun z => e (d.inj (h1.symm.trans z))), show getK (q :: qs) k = getK qs k by simp [getK, List.find?_cons, e]]
      exact ih
theorem Ro.some {K : Fg} {B : Hp} {o : Option V} {x : α} (h : Ro K B U o (some x)) : ∃ v, o = .some v ∧ U.rep K B v x := by
  cases o with
  | none => exact h.elim
  | some v => exact ⟨v, rfl, h⟩
theorem Ro.is {K : Fg} {B : Hp} {o : Option V} {x : Option α} (h : Ro K B U o x) : o.isSome = x.isSome := by
  cases o with
  | none => cases x with
    | none => rfl
    | some _ => exact h.elim
  | some _ => cases x with
    | none => exact h.elim
    | some _ => rfl
theorem P_any {K : Fg} {B : Hp} {d : Kt T} {ps : List (L2.Key × V)} {xs : List (κ × α)} (r : KVr K B d U ps xs) (k : κ) : (ps.any fun p => decide (p.1 = d.key k)) = xs.any fun p => decide (p.1 = k) := by
  induction r with
  | nil => rfl
  | @cons p q ps qs h t ih =>
    rw [List.any_cons, List.any_cons, ih, h.1]
    congr 1
    by_cases e : q.1 = k
    · rw [e, decide_eq_true rfl, decide_eq_true rfl]
    · rw [decide_eq_false (fun z => e (d.inj z)), decide_eq_false e]
theorem P_setK {K : Fg} {B : Hp} {d : Kt T} {ps : List (L2.Key × V)} {xs : List (κ × α)} (r : KVr K B d U ps xs) (k : κ) {v : V} {y : α} (ry : U.rep K B v y) : KVr K B d U (putK ps (d.key k) v) (setK xs k y) := by
  have an := P_any r k
  unfold putK setK
  rw [an]
  by_cases c : (xs.any fun p => decide (p.1 = k)) = true
  · rw [if_pos c, if_pos c]
    clear an c
    induction r with
    | nil => exact .nil
    | @cons p q ps qs h t ih =>
      rw [List.map_cons, List.map_cons]
      refine .cons ?_ ih
      by_cases e : q.1 = k
      · rw [if_pos e, if_pos (h.1.trans (by rw [e]))]
        exact ⟨h.1, ry⟩
      · rw [if_neg e, if_neg (fun z => e (d.inj (h.1.symm.trans z)))]
        exact h
  · rw [if_neg c, if_neg c]
    exact Paired.snoc r ⟨rfl, ry⟩
omit [DecidableEq κ] in
theorem setK_len [DecidableEq κ] (xs : List (κ × α)) (k : κ) (y : α) : (setK xs k y).length ≤ xs.length + 1 := by
  unfold setK
  split
  · rw [List.length_map]; omega
  · rw [List.length_append, List.length_cons, List.length_nil]; omega
end
section
variable {X : Cx} {L Lh : List L3.Loc} {S : RS} {e e2 : Expr} {pos px : Pos} {κ α : Type} {T : Ty κ} {U : Ty α} {fo : Option Addr} {n : Nat} {x : Str}
theorem y_dnew {d : Kt T} : PE X (.Dict [] [] pos) (tO X.K L (oDict d U) fun _ ρ k => k [] ρ) := by
  refine pe_weak pe_dnewK fun σ H Q ⟨F, B, ρ, ω, k, o, st, e1, q⟩ => ?_
  intro p hp
  obtain ⟨own, S, h1, h2, h3, h4⟩ := st.made (o := HO.dK []) hp
  exact q B p _ _ own [] ρ (Sub.refl B) S h1 ⟨[], rfl, .nil, Nat.zero_le _⟩ h2 h3 h4 e1
variable [DecidableEq κ]
/-- d[k], d an own dict -/
theorem y_dgetO (hu : X.A.units + 65 < cLine) (d : Kt T) {m : Mo L κ} (i : Ix (lOwn (oDict d U) fo) n L) (he : PE X e (tE X.K L T m)) (hN : X.N[n]? = some x := by rfl) (hv : Vis X.env.scope x := by first | exact .inl rfl | exact .inr (.inl rfl) | exact .inr (.inr rfl)) (hd2 : (x == ("__debug__" : Str)) = false := by decide) (hcd : (x == ("__classdict__" : Str)) = false := by decide) (hs : NoSl e := by intro _ _; rfl) :
    PE X (.Subscript (.Name x px) e pos) (tE X.K L U fun ω ρ k => m ω ρ fun j ρ' => (getK (i.get ρ') j).bind fun y => k y ρ') := by
  refine pe_weak (pe_dget (by omega) (pe_var hN hv hd2 hcd) he hs) fun σ H Q ⟨F, B, ρ, ω, k, o, st, e1, q⟩ => ?_
  obtain ⟨own0, S0⟩ := id st
  obtain ⟨d0, _, w1, _⟩ := S0.rel.own i
  refine ⟨.ref d0, w1, F, B, ρ, ω, _, o, st, e1, fun B' v H' j ρ' s st' r e2 => ?_⟩
  obtain ⟨y, e3, e4⟩ := bind_some e2
  obtain ⟨own, S⟩ := id st'
  obtain ⟨dd, u, v1, v2, v3, ⟨ps, rfl, rp, _⟩, _⟩ := S.rel.own i
  have ed : dd = d0 := by
    rw [w1] at v1
    simp at v1
    exact v1.symm
  subst ed
  obtain rfl := d.rep r
  have rg := P_getK rp j
  rw [e3] at rg
  obtain ⟨z, e5, rz⟩ := rg.some
  exact ⟨dd, z, rfl, by rw [← e5]; exact DGet.k v3, q B' z H' y ρ' s st' rz e4⟩
theorem y_dget (hu : X.A.units + 65 < cLine) (d : Kt T) {o : Expr} {mo : Mo L (List (κ × α))} {m : Mo L κ} (ho : PE X o (tE X.K L (tDict d U) mo)) (he : PE X e (tE X.K L T m)) (hs : NoSl e := by intro _ _; rfl) :
    PE X (.Subscript o e pos) (tE X.K L U fun ω ρ k => mo ω ρ fun kvs ρ1 => m ω ρ1 fun j ρ' => (getK kvs j).bind fun y => k y ρ') := by
  refine pe_weak (pe_dget (by omega) ho he hs) fun σ H Q ⟨F, B, ρ, ω, k, o, st, e1, q⟩ => ?_
  refine ⟨F, B, ρ, ω, _, o, st, e1, fun B1 v1 H1 kvs ρ1 s1 st1 r1 e2 => ?_⟩
  refine ⟨F, B1, ρ1, ω, _, o, st1, e2, fun B' v H' j ρ' s st' r e3 => ?_⟩
  obtain ⟨y, e4, e5⟩ := bind_some e3
  obtain ⟨a, ps, rfl, hb, rp, _⟩ := (tDict d U).mono s r1
  obtain rfl := d.rep r
  have rg := P_getK rp j
  rw [e4] at rg
  obtain ⟨z, e6, rz⟩ := rg.some
  exact ⟨a, z, rfl, by rw [← e6]; exact DGet.k (st'.sb _ _ hb), q B' z H' y ρ' (s1.trans s) st' rz e5⟩
theorem y_d_inO (hu : X.A.units + 65 < cLine) (d : Kt T) {m : Mo L κ} (i : Ix (lOwn (oDict d U) fo) n L) (he : PE X e (tE X.K L T m)) (hN : X.N[n]? = some x := by rfl) (hv : Vis X.env.scope x := by first | exact .inl rfl | exact .inr (.inl rfl) | exact .inr (.inr rfl)) (hd2 : (x == ("__debug__" : Str)) = false := by decide) (hcd : (x == ("__classdict__" : Str)) = false := by decide) :
    PE X (.Compare e [.In] [.Name x px] pos) (tE X.K L tBool fun ω ρ k => m ω ρ fun j ρ' => k ((getK (i.get ρ') j).isSome) ρ') := by
  refine pe_weak (pe_cmp (pc_din (by omega) he (pe_var hN hv hd2 hcd))) fun σ H Q ⟨F, B, ρ, ω, k, o, st, e1, q⟩ => ?_
  refine ⟨F, B, ρ, ω, _, o, st, e1, fun B' v H' j ρ' s st' r e2 => ?_⟩
  obtain ⟨own, S⟩ := id st'
  obtain ⟨dd, u, v1, v2, v3, ⟨ps, rfl, rp, _⟩, _⟩ := S.rel.own i
  obtain rfl := d.rep r
  refine ⟨.ref dd, v1, dd, valV ps (d.key j), rfl, DGet.k v3, ?_⟩
  rw [(P_getK rp j).is]
  exact q B' _ H' _ ρ' s st' rfl e2
theorem y_d_in (hu : X.A.units + 65 < cLine) (d : Kt T) {m : Mo L κ} (i : Ix (lImm (tDict d U)) n L) (he : PE X e (tE X.K L T m)) (hN : X.N[n]? = some x := by rfl) (hv : Vis X.env.scope x := by first | exact .inl rfl | exact .inr (.inl rfl) | exact .inr (.inr rfl)) (hd2 : (x == ("__debug__" : Str)) = false := by decide) (hcd : (x == ("__classdict__" : Str)) = false := by decide) :
    PE X (.Compare e [.In] [.Name x px] pos) (tE X.K L tBool fun ω ρ k => m ω ρ fun j ρ' => k ((getK (i.get ρ') j).isSome) ρ') := by
  refine pe_weak (pe_cmp (pc_din (by omega) he (pe_var hN hv hd2 hcd))) fun σ H Q ⟨F, B, ρ, ω, k, o, st, e1, q⟩ => ?_
  refine ⟨F, B, ρ, ω, _, o, st, e1, fun B' v H' j ρ' s st' r e2 => ?_⟩
  obtain ⟨own, S⟩ := id st'
  obtain ⟨vv, v1, a, ps, rfl, hb, rp, _⟩ := S.rel.imm i
  obtain rfl := d.rep r
  refine ⟨.ref a, v1, a, valV ps (d.key j), rfl, DGet.k (st'.sb _ _ hb), ?_⟩
  rw [(P_getK rp j).is]
  exact q B' _ H' _ ρ' s st' rfl e2
theorem y_d_inOT (hu : X.A.units + 65 < cLine) (d : Kt T) {m : Mo L κ} (i : Ix (lOwn (oDict d U) fo) n L) (he : PE X e (tE X.K L T m)) (hN : X.N[n]? = some x := by rfl) (hv : Vis X.env.scope x := by first | exact .inl rfl | exact .inr (.inl rfl) | exact .inr (.inr rfl)) (hd2 : (x == ("__debug__" : Str)) = false := by decide) (hcd : (x == ("__classdict__" : Str)) = false := by decide) :
    PT X (.Compare e [.In] [.Name x px] pos) (tC X.K L fun ω ρ k => m ω ρ fun j ρ' => k ((getK (i.get ρ') j).isSome) ρ') := by
  refine pt_weak (pt_cmp (pc_din (by omega) he (pe_var hN hv hd2 hcd))) fun σ H Q ⟨F, B, ρ, ω, k, o, st, e1, q⟩ => ?_
  refine ⟨F, B, ρ, ω, _, o, st, e1, fun B' v H' j ρ' s st' r e2 => ?_⟩
  obtain ⟨own, S⟩ := id st'
  obtain ⟨dd, u, v1, v2, v3, ⟨ps, rfl, rp, _⟩, _⟩ := S.rel.own i
  obtain rfl := d.rep r
  refine ⟨.ref dd, v1, dd, valV ps (d.key j), rfl, DGet.k v3, ?_⟩
  rw [(P_getK rp j).is]
  exact ⟨_, rfl, q B' H' _ ρ' s st' e2⟩
theorem y_d_inT (hu : X.A.units + 65 < cLine) (d : Kt T) {m : Mo L κ} (i : Ix (lImm (tDict d U)) n L) (he : PE X e (tE X.K L T m)) (hN : X.N[n]? = some x := by rfl) (hv : Vis X.env.scope x := by first | exact .inl rfl | exact .inr (.inl rfl) | exact .inr (.inr rfl)) (hd2 : (x == ("__debug__" : Str)) = false := by decide) (hcd : (x == ("__classdict__" : Str)) = false := by decide) :
    PT X (.Compare e [.In] [.Name x px] pos) (tC X.K L fun ω ρ k => m ω ρ fun j ρ' => k ((getK (i.get ρ') j).isSome) ρ') := by
  refine pt_weak (pt_cmp (pc_din (by omega) he (pe_var hN hv hd2 hcd))) fun σ H Q ⟨F, B, ρ, ω, k, o, st, e1, q⟩ => ?_
  refine ⟨F, B, ρ, ω, _, o, st, e1, fun B' v H' j ρ' s st' r e2 => ?_⟩
  obtain ⟨own, S⟩ := id st'
  obtain ⟨vv, v1, a, ps, rfl, hb, rp, _⟩ := S.rel.imm i
  obtain rfl := d.rep r
  refine ⟨.ref a, v1, a, valV ps (d.key j), rfl, DGet.k (st'.sb _ _ hb), ?_⟩
  rw [(P_getK rp j).is]
  exact ⟨_, rfl, q B' H' _ ρ' s st' e2⟩
theorem y_d_notInO (hu : X.A.units + 65 < cLine) (d : Kt T) {m : Mo L κ} (i : Ix (lOwn (oDict d U) fo) n L) (he : PE X e (tE X.K L T m)) (hN : X.N[n]? = some x := by rfl) (hv : Vis X.env.scope x := by first | exact .inl rfl | exact .inr (.inl rfl) | exact .inr (.inr rfl)) (hd2 : (x == ("__debug__" : Str)) = false := by decide) (hcd : (x == ("__classdict__" : Str)) = false := by decide) :
    PE X (.Compare e [.NotIn] [.Name x px] pos) (tE X.K L tBool fun ω ρ k => m ω ρ fun j ρ' => k (!(getK (i.get ρ') j).isSome) ρ') := by
  refine pe_weak (pe_cmp (pc_dnotin (by omega) he (pe_var hN hv hd2 hcd))) fun σ H Q ⟨F, B, ρ, ω, k, o, st, e1, q⟩ => ?_
  refine ⟨F, B, ρ, ω, _, o, st, e1, fun B' v H' j ρ' s st' r e2 => ?_⟩
  obtain ⟨own, S⟩ := id st'
  obtain ⟨dd, u, v1, v2, v3, ⟨ps, rfl, rp, _⟩, _⟩ := S.rel.own i
  obtain rfl := d.rep r
  refine ⟨.ref dd, v1, dd, valV ps (d.key j), rfl, DGet.k v3, ?_⟩
  rw [(P_getK rp j).is]
  exact q B' _ H' _ ρ' s st' rfl e2
theorem y_d_notIn (hu : X.A.units + 65 < cLine) (d : Kt T) {m : Mo L κ} (i : Ix (lImm (tDict d U)) n L) (he : PE X e (tE X.K L T m)) (hN : X.N[n]? = some x := by rfl) (hv : Vis X.env.scope x := by first | exact .inl rfl | exact .inr (.inl rfl) | exact .inr (.inr rfl)) (hd2 : (x == ("__debug__" : Str)) = false := by decide) (hcd : (x == ("__classdict__" : Str)) = false := by decide) :
    PE X (.Compare e [.NotIn] [.Name x px] pos) (tE X.K L tBool fun ω ρ k => m ω ρ fun j ρ' => k (!(getK (i.get ρ') j).isSome) ρ') := by
  refine pe_weak (pe_cmp (pc_dnotin (by omega) he (pe_var hN hv hd2 hcd))) fun σ H Q ⟨F, B, ρ, ω, k, o, st, e1, q⟩ => ?_
  refine ⟨F, B, ρ, ω, _, o, st, e1, fun B' v H' j ρ' s st' r e2 => ?_⟩
  obtain ⟨own, S⟩ := id st'
  obtain ⟨vv, v1, a, ps, rfl, hb, rp, _⟩ := S.rel.imm i
  obtain rfl := d.rep r
  refine ⟨.ref a, v1, a, valV ps (d.key j), rfl, DGet.k (st'.sb _ _ hb), ?_⟩
  rw [(P_getK rp j).is]
  exact q B' _ H' _ ρ' s st' rfl e2
theorem y_d_notInOT (hu : X.A.units + 65 < cLine) (d : Kt T) {m : Mo L κ} (i : Ix (lOwn (oDict d U) fo) n L) (he : PE X e (tE X.K L T m)) (hN : X.N[n]? = some x := by rfl) (hv : Vis X.env.scope x := by first | exact .inl rfl | exact .inr (.inl rfl) | exact .inr (.inr rfl)) (hd2 : (x == ("__debug__" : Str)) = false := by decide) (hcd : (x == ("__classdict__" : Str)) = false := by decide) :
    PT X (.Compare e [.NotIn] [.Name x px] pos) (tC X.K L fun ω ρ k => m ω ρ fun j ρ' => k (!(getK (i.get ρ') j).isSome) ρ') := by
  refine pt_weak (pt_cmp (pc_dnotin (by omega) he (pe_var hN hv hd2 hcd))) fun σ H Q ⟨F, B, ρ, ω, k, o, st, e1, q⟩ => ?_
  refine ⟨F, B, ρ, ω, _, o, st, e1, fun B' v H' j ρ' s st' r e2 => ?_⟩
  obtain ⟨own, S⟩ := id st'
  obtain ⟨dd, u, v1, v2, v3, ⟨ps, rfl, rp, _⟩, _⟩ := S.rel.own i
  obtain rfl := d.rep r
  refine ⟨.ref dd, v1, dd, valV ps (d.key j), rfl, DGet.k v3, ?_⟩
  rw [(P_getK rp j).is]
  exact ⟨_, rfl, q B' H' _ ρ' s st' e2⟩
theorem y_d_notInT (hu : X.A.units + 65 < cLine) (d : Kt T) {m : Mo L κ} (i : Ix (lImm (tDict d U)) n L) (he : PE X e (tE X.K L T m)) (hN : X.N[n]? = some x := by rfl) (hv : Vis X.env.scope x := by first | exact .inl rfl | exact .inr (.inl rfl) | exact .inr (.inr rfl)) (hd2 : (x == ("__debug__" : Str)) = false := by decide) (hcd : (x == ("__classdict__" : Str)) = false := by decide) :
    PT X (.Compare e [.NotIn] [.Name x px] pos) (tC X.K L fun ω ρ k => m ω ρ fun j ρ' => k (!(getK (i.get ρ') j).isSome) ρ') := by
  refine pt_weak (pt_cmp (pc_dnotin (by omega) he (pe_var hN hv hd2 hcd))) fun σ H Q ⟨F, B, ρ, ω, k, o, st, e1, q⟩ => ?_
  refine ⟨F, B, ρ, ω, _, o, st, e1, fun B' v H' j ρ' s st' r e2 => ?_⟩
  obtain ⟨own, S⟩ := id st'
  obtain ⟨vv, v1, a, ps, rfl, hb, rp, _⟩ := S.rel.imm i
  obtain rfl := d.rep r
  refine ⟨.ref a, v1, a, valV ps (d.key j), rfl, DGet.k (st'.sb _ _ hb), ?_⟩
  rw [(P_getK rp j).is]
  exact ⟨_, rfl, q B' H' _ ρ' s st' e2⟩
/-- d.get(k) -/
theorem y_dgt1O (hu : X.A.units + 65 < cLine) (hn : U.nn = true) (d : Kt T) {apos : Pos} {m : Mo L κ} (i : Ix (lOwn (oDict d U) fo) n L) (he : PE X e (tE X.K L T m)) (hN : X.N[n]? = some x := by rfl) (hv : Vis X.env.scope x := by first | exact .inl rfl | exact .inr (.inl rfl) | exact .inr (.inr rfl)) (hd2 : (x == ("__debug__" : Str)) = false := by decide) (hcd : (x == ("__classdict__" : Str)) = false := by decide)
    (hbase : attributeBase (.Name x px) "get" X.env (eval (.Name x px) X.env) = eval (.Name x px) X.env := by rfl)
    (hfew : ((backTo pos (starEach [e] X.env)).all (fun x => !x.1) && (backToKw pos (keywordEach [] X.env)).all (fun x => x.1.isSome) && decide (([e] : List Expr).length + ([] : List Keyword).length + (if ([] : List Keyword).isEmpty then 0 else 1) < 30)) = true := by rfl)
    (hline : (apos.endLine == pos.line) = true := by rfl) (htr : backTo pos (starEach [e] X.env) = [(false, eval e X.env)] := by rfl) :
    PE X (.Call (.Attribute (.Name x px) "get" apos) [e] [] pos) (tE X.K L (tOpt U) fun ω ρ k => m ω ρ fun j ρ' => k (getK (i.get ρ') j) ρ') := by
  refine pe_weak (pe_dget1 (by omega) (pe_var hN hv hd2 hcd) he ⟨hbase, hfew, hline, htr⟩) fun σ H Q ⟨F, B, ρ, ω, k, o, st, e1, q⟩ => ?_
  obtain ⟨own0, S0⟩ := id st
  obtain ⟨d0, _, w1, _, w3, ⟨ps0, rfl, _, _⟩, _⟩ := S0.rel.own i
  refine ⟨.ref d0, w1, d0, rfl, .inl ⟨ps0, .inl w3⟩, F, B, ρ, ω, _, o, st, e1, fun B' v H' j ρ' s st' r e2 => ?_⟩
  obtain ⟨own, S⟩ := id st'
  obtain ⟨dd, u, v1, v2, v3, ⟨ps, rfl, rp, _⟩, _⟩ := S.rel.own i
  have ed : dd = d0 := by
    rw [w1] at v1
    simp at v1
    exact v1.symm
  subst ed
  obtain rfl := d.rep r
  refine ⟨_, DGet.k v3, ?_⟩
  have rg := P_getK rp j
  refine q B' _ H' _ ρ' s st' ?_ e2
  cases e5 : getK (i.get ρ') j with
  | none =>
    rw [e5] at rg
    cases e6 : valV ps (d.key j) with
    | none => rfl
    | some z => rw [e6] at rg; exact rg.elim
  | some y =>
    rw [e5] at rg
    obtain ⟨z, e6, rz⟩ := rg.some
    rw [e6]
    exact ⟨rz, U.nnok hn rz⟩
/-- d.get(k, y) -/
theorem y_dgt2O (hu : X.A.units + 65 < cLine) (d : Kt T) {apos : Pos} {m : Mo L κ} {m2 : Mo L α} (i : Ix (lOwn (oDict d U) fo) n L) (he : PE X e (tE X.K L T m)) (hf : PE X e2 (tE X.K L U m2)) (hN : X.N[n]? = some x := by rfl) (hv : Vis X.env.scope x := by first | exact .inl rfl | exact .inr (.inl rfl) | exact .inr (.inr rfl)) (hd2 : (x == ("__debug__" : Str)) = false := by decide) (hcd : (x == ("__classdict__" : Str)) = false := by decide)
    (hbase : attributeBase (.Name x px) "get" X.env (eval (.Name x px) X.env) = eval (.Name x px) X.env := by rfl)
    (hfew : ((backTo pos (starEach [e, e2] X.env)).all (fun x => !x.1) && (backToKw pos (keywordEach [] X.env)).all (fun x => x.1.isSome) && decide (([e, e2] : List Expr).length + ([] : List Keyword).length + (if ([] : List Keyword).isEmpty then 0 else 1) < 30)) = true := by rfl)
    (hline : (apos.endLine == pos.line) = true := by rfl) (htr : backTo pos (starEach [e, e2] X.env) = [(false, eval e X.env), (false, eval e2 X.env)] := by rfl) :
    PE X (.Call (.Attribute (.Name x px) "get" apos) [e, e2] [] pos) (tE X.K L U fun ω ρ k => m ω ρ fun j ρ1 => m2 ω ρ1 fun y ρ' => k ((getK (i.get ρ') j).getD y) ρ') := by
  refine pe_weak (pe_dget2 (by omega) (pe_var hN hv hd2 hcd) he hf ⟨hbase, hfew, hline, htr⟩) fun σ H Q ⟨F, B, ρ, ω, k, o, st, e1, q⟩ => ?_
  obtain ⟨own0, S0⟩ := id st
  obtain ⟨d0, _, w1, _, w3, ⟨ps0, rfl, _, _⟩, _⟩ := S0.rel.own i
  refine ⟨.ref d0, w1, d0, rfl, .inl ⟨ps0, .inl w3⟩, F, B, ρ, ω, _, o, st, e1, fun B' v H' j ρ' s st' r e2 => ?_⟩
  refine ⟨F, B', ρ', ω, _, o, st', e2, fun B2 v2' H2 y ρ2 s2 st2 r2 e3 => ?_⟩
  obtain ⟨own, S⟩ := id st2
  obtain ⟨dd, u, v1, v2, v3, ⟨ps, rfl, rp, _⟩, _⟩ := S.rel.own i
  have ed : dd = d0 := by
    rw [w1] at v1
    simp at v1
    exact v1.symm
  subst ed
  obtain rfl := d.rep r
  refine ⟨_, DGet.k v3, ?_⟩
  have rg := P_getK rp j
  refine q B2 _ H2 _ ρ2 (s.trans s2) st2 ?_ e3
  cases e5 : getK (i.get ρ2) j with
  | none =>
    rw [e5] at rg
    cases e6 : valV ps (d.key j) with
    | none => exact r2
    | some z => rw [e6] at rg; exact rg.elim
  | some y =>
    rw [e5] at rg
    obtain ⟨z, e6, rz⟩ := rg.some
    rw [e6]
    exact rz
/-- d.get(k) -/
theorem y_dgt1 (hu : X.A.units + 65 < cLine) (hn : U.nn = true) (d : Kt T) {apos : Pos} {m : Mo L κ} (i : Ix (lImm (tDict d U)) n L) (he : PE X e (tE X.K L T m)) (hN : X.N[n]? = some x := by rfl) (hv : Vis X.env.scope x := by first | exact .inl rfl | exact .inr (.inl rfl) | exact .inr (.inr rfl)) (hd2 : (x == ("__debug__" : Str)) = false := by decide) (hcd : (x == ("__classdict__" : Str)) = false := by decide)
    (hbase : attributeBase (.Name x px) "get" X.env (eval (.Name x px) X.env) = eval (.Name x px) X.env := by rfl)
    (hfew : ((backTo pos (starEach [e] X.env)).all (fun x => !x.1) && (backToKw pos (keywordEach [] X.env)).all (fun x => x.1.isSome) && decide (([e] : List Expr).length + ([] : List Keyword).length + (if ([] : List Keyword).isEmpty then 0 else 1) < 30)) = true := by rfl)
    (hline : (apos.endLine == pos.line) = true := by rfl) (htr : backTo pos (starEach [e] X.env) = [(false, eval e X.env)] := by rfl) :
    PE X (.Call (.Attribute (.Name x px) "get" apos) [e] [] pos) (tE X.K L (tOpt U) fun ω ρ k => m ω ρ fun j ρ' => k (getK (i.get ρ') j) ρ') := by
  refine pe_weak (pe_dget1 (by omega) (pe_var hN hv hd2 hcd) he ⟨hbase, hfew, hline, htr⟩) fun σ H Q ⟨F, B, ρ, ω, k, o, st, e1, q⟩ => ?_
  obtain ⟨own0, S0⟩ := id st
  obtain ⟨vv0, w1, d0, ps0, rfl, w3, _, _⟩ := S0.rel.imm i
  refine ⟨.ref d0, w1, d0, rfl, .inl ⟨ps0, .inl (st.sb _ _ w3)⟩, F, B, ρ, ω, _, o, st, e1, fun B' v H' j ρ' s st' r e2 => ?_⟩
  obtain ⟨own, S⟩ := id st'
  obtain ⟨vv, v1, dd, ps, rfl, v30, rp, _⟩ := S.rel.imm i
  have v3 := st'.sb _ _ v30
  have ed : dd = d0 := by
    rw [w1] at v1
    simp at v1
    exact v1.symm
  subst ed
  obtain rfl := d.rep r
  refine ⟨_, DGet.k v3, ?_⟩
  have rg := P_getK rp j
  refine q B' _ H' _ ρ' s st' ?_ e2
  cases e5 : getK (i.get ρ') j with
  | none =>
    rw [e5] at rg
    cases e6 : valV ps (d.key j) with
    | none => rfl
    | some z => rw [e6] at rg; exact rg.elim
  | some y =>
    rw [e5] at rg
    obtain ⟨z, e6, rz⟩ := rg.some
    rw [e6]
    exact ⟨rz, U.nnok hn rz⟩
/-- d.get(k, y) -/
theorem y_dgt2 (hu : X.A.units + 65 < cLine) (d : Kt T) {apos : Pos} {m : Mo L κ} {m2 : Mo L α} (i : Ix (lImm (tDict d U)) n L) (he : PE X e (tE X.K L T m)) (hf : PE X e2 (tE X.K L U m2)) (hN : X.N[n]? = some x := by rfl) (hv : Vis X.env.scope x := by first | exact .inl rfl | exact .inr (.inl rfl) | exact .inr (.inr rfl)) (hd2 : (x == ("__debug__" : Str)) = false := by decide) (hcd : (x == ("__classdict__" : Str)) = false := by decide)
    (hbase : attributeBase (.Name x px) "get" X.env (eval (.Name x px) X.env) = eval (.Name x px) X.env := by rfl)
    (hfew : ((backTo pos (starEach [e, e2] X.env)).all (fun x => !x.1) && (backToKw pos (keywordEach [] X.env)).all (fun x => x.1.isSome) && decide (([e, e2] : List Expr).length + ([] : List Keyword).length + (if ([] : List Keyword).isEmpty then 0 else 1) < 30)) = true := by rfl)
    (hline : (apos.endLine == pos.line) = true := by rfl) (htr : backTo pos (starEach [e, e2] X.env) = [(false, eval e X.env), (false, eval e2 X.env)] := by rfl) :
    PE X (.Call (.Attribute (.Name x px) "get" apos) [e, e2] [] pos) (tE X.K L U fun ω ρ k => m ω ρ fun j ρ1 => m2 ω ρ1 fun y ρ' => k ((getK (i.get ρ') j).getD y) ρ') := by
  refine pe_weak (pe_dget2 (by omega) (pe_var hN hv hd2 hcd) he hf ⟨hbase, hfew, hline, htr⟩) fun σ H Q ⟨F, B, ρ, ω, k, o, st, e1, q⟩ => ?_
  obtain ⟨own0, S0⟩ := id st
  obtain ⟨vv0, w1, d0, ps0, rfl, w3, _, _⟩ := S0.rel.imm i
  refine ⟨.ref d0, w1, d0, rfl, .inl ⟨ps0, .inl (st.sb _ _ w3)⟩, F, B, ρ, ω, _, o, st, e1, fun B' v H' j ρ' s st' r e2 => ?_⟩
  refine ⟨F, B', ρ', ω, _, o, st', e2, fun B2 v2' H2 y ρ2 s2 st2 r2 e3 => ?_⟩
  obtain ⟨own, S⟩ := id st2
  obtain ⟨vv, v1, dd, ps, rfl, v30, rp, _⟩ := S.rel.imm i
  have v3 := st2.sb _ _ v30
  have ed : dd = d0 := by
    rw [w1] at v1
    simp at v1
    exact v1.symm
  subst ed
  obtain rfl := d.rep r
  refine ⟨_, DGet.k v3, ?_⟩
  have rg := P_getK rp j
  refine q B2 _ H2 _ ρ2 (s.trans s2) st2 ?_ e3
  cases e5 : getK (i.get ρ2) j with
  | none =>
    rw [e5] at rg
    cases e6 : valV ps (d.key j) with
    | none => exact r2
    | some z => rw [e6] at rg; exact rg.elim
  | some y =>
    rw [e5] at rg
    obtain ⟨z, e6, rz⟩ := rg.some
    rw [e6]
    exact rz
/-- d[k] = e -/
theorem y_dput (hu : X.A.units + 65 < cLine) (d : Kt T) {m : Mo L κ} {mv : Mo L α} {ie : Expr} {tpos : Pos} (i : Ix (lOwn (oDict d U) fo) n L) (hw : PE X e (tE X.K L U mv)) (he : PE X ie (tE X.K L T m)) (hN : X.N[n]? = some x := by rfl) (hv : Vis X.env.scope x := by first | exact .inl rfl | exact .inr (.inl rfl) | exact .inr (.inr rfl)) (hd2 : (x == ("__debug__" : Str)) = false := by decide) (hcd : (x == ("__classdict__" : Str)) = false := by decide)
    (hs : swapsWith e (some (.Subscript (.Name x px) ie tpos)) pos.line X.env = pure false := by rfl) :
    PS X (.Assign [.Subscript (.Name x px) ie tpos] e pos) (tS X.K L L Lh S fun ω ρ k => mv ω ρ fun v ρ1 => m ω ρ1 fun j ρ2 => (setKC (i.get ρ2) j v).bind fun z => k (.nx (i.set z ρ2))) := by
  refine ps_weak (ps_dput (by omega) (pe_var hN hv hd2 hcd) he hw hs) fun D σ H ⟨F, B, ρ, ω, k, oo, st, e1, q'⟩ => ?_
  refine ⟨F, B, ρ, ω, _, oo, st, e1, fun B1 v H1 x1 ρ1 s1 st1 r1 e2 => ?_⟩
  obtain ⟨own1, S1⟩ := id st1
  obtain ⟨d0, o1, w1, _⟩ := S1.rel.own i
  refine ⟨.ref d0, w1, F, B1, ρ1, ω, _, oo, st1, e2, fun B2 w H2 x2 ρ2 s2 st2 r2 e3 => ?_⟩
  obtain ⟨z, e6, e7⟩ := bind_some e3
  have q := q' _ e7
  obtain rfl := d.rep r2
  obtain ⟨own, S⟩ := id st2
  obtain ⟨d', o2, v1, v2, v3, v4, _⟩ := S.rel.own i
  have ed : d' = d0 := by
    rw [w1] at v1
    simp at v1
    exact v1.symm
  subst ed
  obtain ⟨ps, rfl, rp, rl⟩ := v4
  unfold setKC at e6
  split at e6
  · rename_i hlt
    cases e6
    have hlen : ps.length < sizeLine := by rw [Paired.length rp, sizeLine_eq]; exact hlt
    refine ⟨d', _, rfl, DPut.k v3 hlen, ?_⟩
    refine q B2 σ _ (s1.trans s2) ⟨own, S.setc i v1 v2 ⟨_, rfl, P_setK rp _ (U.mono s2 r1), ?_⟩⟩
    have := setK_len (i.get ρ2) x2 x1
    rw [sizeLine_eq]
    omega
  · cases e6
end
section
variable {K : Fg} {κ α : Type} {T : Ty κ} {U : Ty α}
/-- len(d) -/
theorem c_lenD {d : Kt T} : OpN K (fun xs H Q => ∃ a kvs, xs = [V.ref a] ∧ H a = some (.dK kvs) ∧ Q (.int kvs.length) H) (rOne (tDict d U)) tInt fun x => some (x.length : Int) := fun {B H y z vs Q} s ⟨v, e1, h⟩ e q => by
  subst e1
  cases e
  obtain ⟨a, ps, rfl, hb, rp, _⟩ := h
  exact ⟨a, ps, rfl, s _ _ hb, by rw [Paired.length rp]; exact q _ _ _ (gr0 s) rfl⟩
theorem keys_of {B : Hp} {d : Kt T} : ∀ {ps : List (L2.Key × V)} {xs : List (κ × α)}, KVr K B d U ps xs → ps.map (·.1) = xs.map fun p => d.key p.1
  | _, _, .nil => rfl
  | _, _, .cons h t => by rw [List.map_cons, List.map_cons, h.1, keys_of t]
/-- sorted(d), keys ints -/
theorem c_sortD : OpNO K (fun xs H Q => ∃ (a : Addr) (kvs : List (Key × V)) (ks : List Int), xs = [.ref a] ∧ Rd H a (.dK kvs) ∧ kvs.map (·.1) = ks.map Sum.inl ∧ ks.length < 64 ∧
    ∀ (ys : List Int) (p : Addr), ys.Perm ks → ys.Pairwise (· ≤ ·) → H p = none → Q (.ref p) (upd H p (.lst (ys.map V.int)))) (rOne (tDict kInt U)) (oLst tInt) fun x => if x.length < 64 then some (sortI (x.map Prod.fst)) else none := fun {B H y z vs Q} s ⟨v, e1, h⟩ e q => by
  subst e1
  obtain ⟨a, ps, rfl, hb, rp, hl⟩ := h
  try dsimp only at e
  split at e
  · rename_i h64
    cases e
    refine ⟨a, ps, y.map Prod.fst, rfl, .inl (s _ _ hb), ?_, by rw [List.length_map]; exact h64, fun ys p h1 h2 hp => ?_⟩
    · rw [keys_of rp, List.map_map]
      rfl
    · rw [sortI_eq h1 h2]
      exact q p _ hp (sortRow (by rw [List.length_map]; exact hl))
  · cases e
end
section
variable {X : Cx} {L : List L3.Loc} {o e : Expr} {cpos apos : Pos}
/-- xs.count(x), ints -/
theorem y_lcount {mo : Mo L (List Int)} {ma : Mo L Int} (ho : PE X o (tE X.K L (tLst tInt) mo)) (ha : PE X e (tE X.K L tInt ma))
    (hbase : attributeBase o "count" X.env (eval o X.env) = eval o X.env := by rfl)
    (hfew : ((backTo cpos (starEach [e] X.env)).all (fun x => !x.1) && (backToKw cpos (keywordEach [] X.env)).all (fun x => x.1.isSome) && decide (([e] : List Expr).length + ([] : List Keyword).length + (if ([] : List Keyword).isEmpty then 0 else 1) < 30)) = true := by rfl)
    (hline : (apos.endLine == cpos.line) = true := by rfl) (hs : starEach [e] X.env = (false, eval e X.env) :: starEach [] X.env := by rfl) (hplain : (backTo cpos (starEach [] X.env)).any (·.1) = false := by rfl) :
    PE X (.Call (.Attribute o "count" apos) [e] [] cpos) (tE X.K L tInt fun ω ρ k => mo ω ρ fun xs ρ1 => ma ω ρ1 fun x ρ2 => k ((List.count x xs : Nat) : Int) ρ2) := by
  refine pe_weak (pe_bm PySem.F.plainAttrs_list PySem.F.slot_list_count PySem.F.type_list_count mt_lcount ho (pa_cons ha pa_nil hs) hbase hfew hline hs hplain) fun σ H Q ⟨F, B, ρ, ω, k, oo, st, e1, q⟩ => ?_
  refine ⟨F, B, ρ, ω, _, oo, st, e1, fun B' v H' xs ρ1 s st' rv e2 => ?_⟩
  obtain ⟨a, rfl, sq, hl⟩ := intsL rv
  refine ⟨.inl ⟨rfl, _, st'.sb.seqL sq⟩, F, B', ρ1, ω, _, oo, st', e2, fun B2 w H2 x ρ2 s2 st2 rw2 e3 => ?_⟩
  obtain rfl : w = V.int x := rw2
  exact ⟨a, xs, x, rfl, rfl, st2.sb.seqL (s2.seqL sq), q B2 _ H2 _ ρ2 (s.trans s2) st2 rfl e3⟩
end
section
variable {X : Cx} {K : Fg} {L : List L3.Loc} {e : Expr}
theorem y_noNoneT {α : Type} {T : Ty α} {m : Mo L (List (Option α))} (h : PE X e (tE K L (tAll (tOpt T)) m)) : PE X e (tE K L (tAll T) fun ω ρ k => m ω ρ fun xs ρ' => (noNone xs).bind fun ys => k ys ρ') := by
  refine pe_weak h fun σ H Q ⟨F, B, ρ, ω, k, o, st, e1, q⟩ => ?_
  refine ⟨F, B, ρ, ω, _, o, st, e1, fun B' v H' x ρ1 s st' r e2 => ?_⟩
  obtain ⟨ys, e3, e4⟩ := L3.bind_some e2
  obtain ⟨a, vs, rfl, hq, hp, hl⟩ := r
  exact q B' _ H' ys ρ1 s st' ⟨a, vs, rfl, hq, P_noNone hp e3, by rw [noNone_len e3]; exact hl⟩ e4
/-- a pair of alike as a tuple of any length -/
theorem tupAll2 {α : Type} {T : Ty α} {B : Hp} {v : V} {x : α × α} (h : (tTup (rCons T (rOne T))).rep K B v x) : (tAll T).rep K B v [x.1, x.2] := by
  obtain ⟨a, vs, rfl, hq, v1, r, rfl, h1, v2, rfl, h2⟩ := h
  exact ⟨a, _, rfl, hq, .cons h1 (.cons h2 .nil), by rw [sizeLine_eq]; exact (by decide : 2 ≤ 16777216)⟩
theorem tupAll3 {α : Type} {T : Ty α} {B : Hp} {v : V} {x : α × α × α} (h : (tTup (rCons T (rCons T (rOne T)))).rep K B v x) : (tAll T).rep K B v [x.1, x.2.1, x.2.2] := by
  obtain ⟨a, vs, rfl, hq, v1, r, rfl, h1, v2, r2, rfl, h2, v3, rfl, h3⟩ := h
  exact ⟨a, _, rfl, hq, .cons h1 (.cons h2 (.cons h3 .nil)), by rw [sizeLine_eq]; exact (by decide : 3 ≤ 16777216)⟩
end
theorem isT_optI : IsT (tOpt tInt) "int" Option.isSome := fun {K B v x} r => by
  cases x with
  | none =>
    obtain rfl : v = V.non := r
    exact ⟨.type "NoneType", .base .non, kit_of' (show kitB "NoneType" "int" = some false by decide +kernel)⟩
  | some y =>
    obtain ⟨e, _⟩ := r
    exact isT_int e
theorem isT_optIB : IsT (tOpt tInt) "bool" (fun _ => false) := fun {K B v x} r => by
  cases x with
  | none =>
    obtain rfl : v = V.non := r
    exact ⟨.type "NoneType", .base .non, kit_of' (show kitB "NoneType" "bool" = some false by decide +kernel)⟩
  | some y =>
    obtain ⟨e, _⟩ := r
    exact isT_intB e
end L3

/-! L3: xs[::-1] of lists and tuples. -/
namespace L3
open PySem PySem.Spec PyProof.Rows L2
section
variable {prog : Program} {w : World} {A : Around} {E : Value → Shared → Prop} {s : Shared}
open HT in
theorem sliceApplied_rev {sl : Addr} {vl vu vs : Value} {n : Nat} {Q : Int × Int × Nat → Shared → Prop} (hs : s.heap.IsSliceOf sl vl vu vs) (pl : IsPart vl none) (pu : IsPart vu none) (ps : IsPart vs (some (-1)))
    (h : Q ((n : Int) - 1, -1, n) s) : wpAny (model prog w) A (Builtin.Slice.sliceApplied (.ref sl) (pure (n : Int))) Q E s := by
  obtain ⟨os, hos, hcs, hds⟩ := id hs
  unfold Builtin.Slice.sliceApplied Builtin.Slice.sliceFields
  refine wpAny_bind (wpAny_bind (wpAny_field hos hds (x := vl) rfl (wpAny_bind (wpAny_field hos hds (x := vu) rfl (wpAny_bind (wpAny_field hos hds (x := vs) rfl (wpAny_pure ?_)))))))
  refine wpAny_bind (slicePart_ ps ?_)
  show wpAny _ _ (if ((-1 : Int) == 0) = true then _ else _) _ _ s
  rw [if_neg (by decide)]
  refine wpAny_bind (slicePart_ pl (wpAny_bind (slicePart_ pu (wpAny_bind (wpAny_pure ?_)))))
  show wpAny _ _ (match Builtin.Slice.sliceAdjust none none (-1) (n : Int) with | (lo, hi) => pure (lo, (-1 : Int), Builtin.Slice.slicePlaces lo hi (-1))) _ _ s
  have e : Builtin.Slice.sliceAdjust none none (-1) (n : Int) = ((n : Int) - 1, -1) := by
    unfold Builtin.Slice.sliceAdjust
    rfl
  have e2 : Builtin.Slice.slicePlaces ((n : Int) - 1) (-1) (-1) = n := by
    unfold Builtin.Slice.slicePlaces
    rw [if_neg (by decide), show (-(-1 : Int)) = 1 from rfl, Int.ediv_one]
    split <;> omega
  rw [e]
  show wpAny _ _ (pure ((n : Int) - 1, (-1 : Int), Builtin.Slice.slicePlaces ((n : Int) - 1) (-1) (-1))) _ _ s
  rw [e2]
  exact wpAny_pure h
theorem pick_back (xs : Array Value) : ((List.range xs.size).filterMap fun (m : Nat) => xs[((xs.size : Int) - 1 + (m : Int) * (-1)).toNat]?).toArray = xs.toList.reverse.toArray := by
  have e : (fun (m : Nat) => xs[((xs.size : Int) - 1 + (m : Int) * (-1)).toNat]?) = (fun (k : Nat) => xs[k]?) ∘ fun (m : Nat) => ((xs.size : Int) - 1 + (m : Int) * (-1)).toNat := rfl
  rw [e, ← List.filterMap_map]
  have e2 : (List.range xs.size).map (fun (m : Nat) => ((xs.size : Int) - 1 + (m : Int) * (-1)).toNat) = (List.range xs.size).map fun m => xs.size - 1 - m := List.map_congr_left fun m hm => by
    have := List.mem_range.mp hm
    omega
  rw [e2, PySem.W.krv_range, List.filterMap_reverse, PySem.W.krv_all]
open HT in
theorem getItem_tuple_back {t sl : Addr} {items : Array Value} {vl vu vs : Value} {Q : Value → Shared → Prop} (ht : IsTup s.heap t items) (hs : s.heap.IsSliceOf sl vl vu vs) (pl : IsPart vl none) (pu : IsPart vu none) (ps : IsPart vs (some (-1)))
    (h : Q (.ref s.heap.objs.size) { s with heap := s.heap.push { cls := .type "tuple", data := .seq items.toList.reverse.toArray } })
    (hsz : items.size ≤ sizeLine) : wpAny (model prog w) A (getItem (.ref t) (.ref sl)) Q E s := by
  have htake : sizeOk (.seq items.toList.reverse.toArray) := by
    show items.toList.reverse.toArray.size ≤ sizeLine
    rw [List.size_toArray, List.length_reverse, Array.length_toList]
    omega
  obtain ⟨os, hos, hcs, hds⟩ := id hs
  have hTs : s.TypeIs (.ref sl) "slice" := ⟨os, hos, hcs⟩
  unfold getItem
  try with_reducible refine wpAny_holding ?_
  first | refine wpAny_bind (wpAny_pure ?_) | skip
  refine wpAny_bind (wpAny_sequenceKey ht.typeIs (by decide) ?_)
  refine wpAny_bind (wpAny_callSpecial?_slot (name := Str.ofString "__getitem__") ht.typeIs PyProof.Rows.slot_tuple_getitem
    (wpAny_call_entry PyProof.Rows.slot_tuple_getitem ht.typeIs entry_tuple_getitem ?_ (args_tuple_getitem _ _)))
  show wpAny _ _ (Builtin.Tuple.tupleItemsOf (.ref t) >>= _) _ _ s
  refine wpAny_bind (tupleItemsOf_ ht ?_)
  refine wpAny_bind (wpAny_typeOf hTs ?_)
  rw [if_pos (by decide)]
  refine wpAny_bind (sliceApplied_rev hs pl pu ps ?_)
  have hno : ¬ ((((items.size : Int) - 1) == 0 && (-1 : Int) == 1 && items.size == items.size) = true) := by
    intro q
    rw [Bool.and_eq_true, Bool.and_eq_true] at q
    exact absurd q.1.2 (by decide)
  show wpAny _ _ (if (((items.size : Int) - 1) == 0 && (-1 : Int) == 1 && items.size == items.size) = true then _ else _) _ _ s
  rw [if_neg hno, pick_back]
  first
    | exact wpAny_bind (m := Builtin.Tuple.tupleExact _) (wpAny_newObj_type (wpAny_pure ⟨_, rfl, wpAny_pure h⟩) htake)
    | exact wpAny_bind (m := Builtin.Tuple.tupleExact _) (wpAny_newObj_type (wpAny_bind (wpAny_pure (wpAny_pure ⟨_, rfl, wpAny_pure h⟩))) htake)
    | exact wpAny_bind (wpAny_bind (m := Builtin.Tuple.tupleExact _) (wpAny_newObj_type (wpAny_pure (wpAny_pure ⟨_, rfl, wpAny_pure h⟩)) htake))
    | exact wpAny_bind (wpAny_bind (m := Builtin.Tuple.tupleExact _) (wpAny_newObj_type (wpAny_pure ⟨_, rfl, wpAny_pure h⟩) htake))
end
section
variable {X : Cx}
def tRevT (K : PySem.W.Frag) (te : TE) : TE := fun σ H Q => te σ H fun x H1 => ∃ a xs, x = .ref a ∧ SqT K H1 a xs ∧ ∀ p, H1 p = none → Q (.ref p) (upd H1 p (.tup xs.reverse))
theorem pe_revT {e : Expr} {te : TE} {k : Nat} {p1 p2 p3 pos : Pos} (he : PE X e te) : PE X (.Subscript e (.Slice none none (some (.UnaryOp .USub (.Constant (.int 1) k p1) p2)) p3) pos) (tRevT X.K te) := by
  refine ⟨fun pins s σ H Q I h => ?_⟩
  refine Subscript_ (thn (he.run pins s σ H _ I h) fun v s1 ⟨x, H1, I1, r1, q1⟩ => ?_)
  obtain ⟨a, xs, ex, hx, q⟩ := q1
  subst ex
  cases r1
  have hst : PO X (some (.UnaryOp .USub (.Constant (.int 1) k p1) p2)) (tPart (L2.tUn (L2.rU fun i => .int (-i)) (L2.tC (.int 1)))) := po_some (pe_un un_neg pe_int)
  refine wpAny_Slice (thn (po_none.run pins s1 σ H1 (fun o H2 => o = none ∧ H2 = H1) I1 ⟨rfl, rfl⟩) fun vl s2 ⟨l, H2, I2, pl, el, e2⟩ => ?_)
  subst el e2
  refine thn (po_none.run pins s2 σ H2 (fun o H3 => o = none ∧ H3 = H2) I2 ⟨rfl, rfl⟩) fun vu s3 ⟨u, H3, I3, pu, eu, e3⟩ => ?_
  subst eu e3
  refine thn (hst.run pins s3 σ H3 (fun o H4 => o = some (-1) ∧ H4 = H3) I3 ⟨1, rfl, -1, rfl, rfl, rfl⟩) fun vs s4 ⟨o, H4, I4, ps, eo, e4⟩ => ?_
  subst eo e4
  have I5 : Inv X pins σ H4 { s4 with heap := s4.heap.push { cls := .type "slice", data := .fields #[vl, vu, vs] } } := I4.kept (t' := s4.toks) fun b ob q => Heap.get?_push_of_some _ q
  obtain ⟨its, r, ht, hz⟩ := I5.tuple hx
  have hlen := r.length
  show wpAny (model X.prog X.w) X.A (subscriptTail e (.Slice none none (some (.UnaryOp .USub (.Constant (.int 1) k p1) p2)) p3) (.ref a) (.ref s4.heap.objs.size)) (EP X pins σ Q) X.xe { s4 with heap := s4.heap.push { cls := .type "slice", data := .fields #[vl, vu, vs] } }
  refine tail_any (ops := [.ref a, .ref s4.heap.objs.size]) ht.typeIs (PyProof.Rows.slot_tuple_getitem.lookup) ?_ (by with_unfolding_all rfl)
  refine getItem_tuple_back ht (Heap.IsSliceOf.new _ vl vu vs) pl pu ps ?_ (by rw [List.size_toArray]; omega)
  refine ⟨.ref _, _, I5.laid (t' := s4.toks) (o := .tup xs.reverse) (fun b ob q => Heap.get?_push_of_some _ q) (Nat.le_refl _) ?_, rfl, q _ (I5.hok.fresh (Nat.le_refl _))⟩
  exact ⟨by rw [List.length_reverse]; exact hz, _, r.reverse, IsTup.new _ _⟩
end
section
variable {X : Cx} {L : List Loc} {e : Expr} {α : Type} {T : Ty α} {k : Nat} {p1 p2 p3 pos : Pos}
theorem y_revT {m : Mo L (List α)} (he : PE X e (tE X.K L (tAll T) m)) :
    PE X (.Subscript e (.Slice none none (some (.UnaryOp .USub (.Constant (.int 1) k p1) p2)) p3) pos) (tE X.K L (tAll T) fun ω ρ k => m ω ρ fun x ρ1 => k x.reverse ρ1) := by
  refine pe_weak (pe_revT he) fun σ H Q ⟨F, B, ρ, ω, k, o, st, e1, q⟩ => ?_
  refine ⟨F, B, ρ, ω, _, o, st, e1, fun B1 v H1 x1 ρ1 s1 st1 r1 e2 => ?_⟩
  obtain ⟨a, vs, rfl, sq, r⟩ := r1
  refine ⟨a, vs, rfl, st1.sb.seqT sq, fun p hp => ?_⟩
  have g := Grow.new (o := HO.tup vs.reverse) st1.sb hp
  exact q _ _ _ _ _ (s1.trans g.b) (st1.grow g) ⟨p, _, rfl, .inl (.inl upd_same), (rAll T).mono g.b ⟨P_rev r.1, by rw [List.length_reverse]; exact r.2⟩⟩ e2
end
/-! ### count in a list of options -/
section
variable {X : Cx}
theorem count_flat {x : V} : ∀ {xs : List V} {us : List Value}, Vals xs us → xs.all flatV = true → us.countP (eqU x) = xs.countP fun y => eqV y x
  | _, _, .nil, _ => rfl
  | y :: xs, u :: us, .cons r t, f => by
    rw [List.all_cons, Bool.and_eq_true] at f
    rw [List.countP_cons, List.countP_cons, count_flat t f.2, eqU_of r f.1]
theorem mt_lcountF : MtR X "list.count" (fun x xs H Q => ∃ (p : Addr) (ys : List V) (y : V), x = .ref p ∧ xs = [y] ∧ flatV y = true ∧ SqL X.K H p ys ∧ ys.all flatV = true ∧ Q (.int ((ys.countP fun z => eqV z y) : Nat)) H) := by
  intro pins s σ H x xs v us Q I rx rxs h
  obtain ⟨p, ys, y, rfl, rfl, fy, hs, fs, q⟩ := h
  cases rx
  obtain ⟨u, rfl, ru⟩ := rxs.one
  obtain ⟨its, rv, ⟨⟨cls, dd, data, sl⟩, n, ho, hc, hdn, hd⟩, hlen⟩ := I.list hs
  simp only at hc hd
  subst hc hd
  refine call_meets PySem.F.slot_list_count ⟨_, ho, rfl⟩ PySem.F.entry_list_count (PySem.F.args_list_count_2 _ _)
    (SeqAt.list_countAt p its.toArray n dd sl u (eqU y)) ⟨ho, fun w hw => mem_eqAt ru fy rv fs w (by simpa using hw), ?_⟩
  have ec : its.toArray.toList.countP (eqU y) = ys.countP fun z => eqV z y := count_flat rv fs
  refine ⟨.int ((ys.countP fun z => eqV z y) : Nat), H, I.tok _, ⟨s.toks, ?_⟩, q⟩
  show Value.int ((its.toArray.toList.countP (eqU y) : Nat) : Int) s.toks = _
  rw [ec]
end
section
variable {X : Cx} {L : List Loc} {o e : Expr} {cpos apos : Pos}
/-- found.count(k), options of ints -/
theorem P_optI {B : Hp} {K : Fg} : ∀ {vs : List V} {xs : List (Option Int)}, Paired ((tOpt tInt).rep K B) vs xs → vs.all flatV = true ∧ ∀ k : Int, (vs.countP fun z => eqV z (.int k)) = xs.count (some k)
  | _, _, .nil => ⟨rfl, fun _ => rfl⟩
  | v :: vs, x :: xs, .cons h r => by
    obtain ⟨h1, h2⟩ := P_optI r
    cases x with
    | none =>
      obtain rfl : v = V.non := h
      refine ⟨by rw [List.all_cons, h1]; rfl, fun k => ?_⟩
      rw [List.countP_cons, List.count_cons, h2]
      rfl
    | some i =>
      obtain rfl : v = V.int i := h.1
      refine ⟨by rw [List.all_cons, h1]; rfl, fun k => ?_⟩
      rw [List.countP_cons, List.count_cons, h2]
      show _ + (if (i == k) = true then 1 else 0) = _
      by_cases c : i = k
      · simp [c]
      · simp [c]
theorem y_lcountQ {mo : Mo L (List (Option Int))} {ma : Mo L Int} (ho : PE X o (tE X.K L (tLst (tOpt tInt)) mo)) (ha : PE X e (tE X.K L tInt ma))
    (hbase : attributeBase o "count" X.env (eval o X.env) = eval o X.env := by rfl)
    (hfew : ((backTo cpos (starEach [e] X.env)).all (fun x => !x.1) && (backToKw cpos (keywordEach [] X.env)).all (fun x => x.1.isSome) && decide (([e] : List Expr).length + ([] : List Keyword).length + (if ([] : List Keyword).isEmpty then 0 else 1) < 30)) = true := by rfl)
    (hline : (apos.endLine == cpos.line) = true := by rfl) (hs : starEach [e] X.env = (false, eval e X.env) :: starEach [] X.env := by rfl) (hplain : (backTo cpos (starEach [] X.env)).any (·.1) = false := by rfl) :
    PE X (.Call (.Attribute o "count" apos) [e] [] cpos) (tE X.K L tInt fun ω ρ k => mo ω ρ fun xs ρ1 => ma ω ρ1 fun x ρ2 => k ((List.count (some x) xs : Nat) : Int) ρ2) := by
  refine pe_weak (pe_bm PySem.F.plainAttrs_list PySem.F.slot_list_count PySem.F.type_list_count mt_lcountF ho (pa_cons ha pa_nil hs) hbase hfew hline hs hplain) fun σ H Q ⟨F, B, ρ, ω, k, oo, st, e1, q⟩ => ?_
  refine ⟨F, B, ρ, ω, _, oo, st, e1, fun B' v H' xs ρ1 s st' rv e2 => ?_⟩
  obtain ⟨a, vs, rfl, sq, r⟩ := rv
  refine ⟨.inl ⟨rfl, vs, .inl (.inl (st'.sb _ _ sq))⟩, F, B', ρ1, ω, _, oo, st', e2, fun B2 w H2 x ρ2 s2 st2 rw2 e3 => ?_⟩
  obtain rfl : w = V.int x := rw2
  obtain ⟨h1, h2⟩ := P_optI r.1
  refine ⟨a, vs, V.int x, rfl, rfl, rfl, .inl (.inl (st2.sb _ _ (s2 _ _ sq))), h1, ?_⟩
  rw [h2]
  exact q B2 _ H2 _ ρ2 (s.trans s2) st2 rfl e3
end
/-! ### {k: v}, two ints -/
section
variable {X : Cx} {L : List L3.Loc} {pos q1 q2 : Pos} {a b : Int} {u1 u2 : Nat}
theorem upd_twice {H : Hp} {p : Addr} {x y : HO} : upd (upd H p x) p y = upd H p y := by
  funext r
  unfold upd
  split <;> rfl
theorem y_done : PE X (.Dict [some (.Constant (.int a) u1 q1)] [.Constant (.int b) u2 q2] pos) (tO X.K L (oDict kInt tInt) fun _ ρ k => k [(a, b)] ρ) := by
  refine pe_weak (pe_disp (pps_cons pe_int pe_int pps_nil) rfl rfl (by simp) (by simp)) fun σ H Q ⟨F, B, ρ, ω, k, o, st, e1, q⟩ => ?_
  intro p hp
  refine ⟨upd_same, [(Sum.inl a, V.int b)], rfl, by simp, ?_⟩
  rw [upd_twice]
  obtain ⟨own, S, h1, h2, h3, h4⟩ := st.made (o := HO.dK (mergeK [] [(Sum.inl a, V.int b)])) hp
  exact q B p _ _ own [(a, b)] ρ (Sub.refl B) S h1 ⟨[(Sum.inl a, V.int b)], rfl, .cons ⟨rfl, rfl⟩ .nil, by rw [sizeLine_eq]; simp⟩ h2 h3 h4 e1
end
section
variable {X : Cx} {K : Fg} {L : List L3.Loc} {e : Expr}
/-- a list where a script may stand -/
theorem y_lstScr {α : Type} {T : Ty α} {m : Mo L (List α)} (h : PE X e (tE K L (tLst T) m)) : PE X e (tE K L (tScr T) m) :=
  pe_weak h fun σ H Q ⟨F, B, ρ, ω, k, o, st, e1, q⟩ => ⟨F, B, ρ, ω, k, o, st, e1, fun B' v H' x ρ' s st' r e2 => q B' v H' x ρ' s st' (lstScr r) e2⟩
end
/-! ### x in an own list of ints, x an int or None -/
def memO (j : Option Int) (xs : List Int) : Bool := match j with
  | none => false
  | some i => decide (i ∈ xs)
theorem inV_opt {K : Fg} {B : Hp} {v : V} {j : Option Int} {vs : List V} {xs : List Int} (hv : (tOpt tInt).rep K B v j) (r : Paired (tInt.rep K B) vs xs) : flatV v = true ∧ inV v vs = memO j xs := by
  cases j with
  | none =>
    obtain rfl : v = V.non := hv
    refine ⟨rfl, ?_⟩
    induction r with
    | nil => rfl
    | cons h t ih =>
      cases (show _ = V.int _ from h)
      unfold inV at ih ⊢
      rw [List.any_cons, ih]
      rfl
  | some i =>
    obtain rfl : v = V.int i := hv.1
    exact ⟨rfl, inV_int r⟩
section
variable {X : Cx} {L : List L3.Loc} {e : Expr} {pos px : Pos} {fo : Option Addr} {n : Nat} {x : Str}
theorem y_l_inO {m : Mo L (Option Int)} (i : Ix (lOwn (oLst tInt) fo) n L) (he : PE X e (tE X.K L (tOpt tInt) m)) (hN : X.N[n]? = some x := by rfl) (hv : Vis X.env.scope x := by first | exact .inl rfl | exact .inr (.inl rfl) | exact .inr (.inr rfl)) (hd2 : (x == ("__debug__" : Str)) = false := by decide) (hcd : (x == ("__classdict__" : Str)) = false := by decide) (hm : behindInMarks .In (.Name x px) = false := by rfl) :
    PE X (.Compare e [.In] [.Name x px] pos) (tE X.K L tBool fun ω ρ k => m ω ρ fun j ρ' => k (memO j (i.get ρ')) ρ') := by
  refine pe_weak (pe_cmpR op_in_seq he (pe_var hN hv hd2 hcd) hm) fun σ H Q ⟨F, B, ρ, ω, k, o, st, e1, q⟩ => ?_
  refine ⟨F, B, ρ, ω, _, o, st, e1, fun B' v H' j ρ' s st' r e2 => ?_⟩
  obtain ⟨own, S⟩ := id st'
  obtain ⟨dd, u, v1, v2, v3, ⟨vs, rfl, rp, _⟩, _⟩ := S.rel.own i
  obtain ⟨h1, h2⟩ := inV_opt r rp
  refine ⟨.ref dd, v1, dd, vs, rfl, .inl (.inl (.inl v3)), h1, flat_ints rp, ?_⟩
  rw [h2]
  exact q B' _ H' _ ρ' s st' rfl e2
theorem y_l_inOT {m : Mo L (Option Int)} (i : Ix (lOwn (oLst tInt) fo) n L) (he : PE X e (tE X.K L (tOpt tInt) m)) (hN : X.N[n]? = some x := by rfl) (hv : Vis X.env.scope x := by first | exact .inl rfl | exact .inr (.inl rfl) | exact .inr (.inr rfl)) (hd2 : (x == ("__debug__" : Str)) = false := by decide) (hcd : (x == ("__classdict__" : Str)) = false := by decide) (hm : behindInMarks .In (.Name x px) = false := by rfl) :
    PT X (.Compare e [.In] [.Name x px] pos) (tC X.K L fun ω ρ k => m ω ρ fun j ρ' => k (memO j (i.get ρ')) ρ') := by
  refine pt_weak (pt_cmpR op_in_seq he (pe_var hN hv hd2 hcd) hm) fun σ H Q ⟨F, B, ρ, ω, k, o, st, e1, q⟩ => ?_
  refine ⟨F, B, ρ, ω, _, o, st, e1, fun B' v H' j ρ' s st' r e2 => ?_⟩
  obtain ⟨own, S⟩ := id st'
  obtain ⟨dd, u, v1, v2, v3, ⟨vs, rfl, rp, _⟩, _⟩ := S.rel.own i
  obtain ⟨h1, h2⟩ := inV_opt r rp
  refine ⟨.ref dd, v1, dd, vs, rfl, .inl (.inl (.inl v3)), h1, flat_ints rp, ?_⟩
  rw [h2]
  exact ⟨_, rfl, q B' H' _ ρ' s st' e2⟩
theorem y_l_notInO {m : Mo L (Option Int)} (i : Ix (lOwn (oLst tInt) fo) n L) (he : PE X e (tE X.K L (tOpt tInt) m)) (hN : X.N[n]? = some x := by rfl) (hv : Vis X.env.scope x := by first | exact .inl rfl | exact .inr (.inl rfl) | exact .inr (.inr rfl)) (hd2 : (x == ("__debug__" : Str)) = false := by decide) (hcd : (x == ("__classdict__" : Str)) = false := by decide) (hm : behindInMarks .NotIn (.Name x px) = false := by rfl) :
    PE X (.Compare e [.NotIn] [.Name x px] pos) (tE X.K L tBool fun ω ρ k => m ω ρ fun j ρ' => k (!memO j (i.get ρ')) ρ') := by
  refine pe_weak (pe_cmpR op_notIn_seq he (pe_var hN hv hd2 hcd) hm) fun σ H Q ⟨F, B, ρ, ω, k, o, st, e1, q⟩ => ?_
  refine ⟨F, B, ρ, ω, _, o, st, e1, fun B' v H' j ρ' s st' r e2 => ?_⟩
  obtain ⟨own, S⟩ := id st'
  obtain ⟨dd, u, v1, v2, v3, ⟨vs, rfl, rp, _⟩, _⟩ := S.rel.own i
  obtain ⟨h1, h2⟩ := inV_opt r rp
  refine ⟨.ref dd, v1, dd, vs, rfl, .inl (.inl (.inl v3)), h1, flat_ints rp, ?_⟩
  rw [h2]
  exact q B' _ H' _ ρ' s st' rfl e2
theorem y_l_notInOT {m : Mo L (Option Int)} (i : Ix (lOwn (oLst tInt) fo) n L) (he : PE X e (tE X.K L (tOpt tInt) m)) (hN : X.N[n]? = some x := by rfl) (hv : Vis X.env.scope x := by first | exact .inl rfl | exact .inr (.inl rfl) | exact .inr (.inr rfl)) (hd2 : (x == ("__debug__" : Str)) = false := by decide) (hcd : (x == ("__classdict__" : Str)) = false := by decide) (hm : behindInMarks .NotIn (.Name x px) = false := by rfl) :
    PT X (.Compare e [.NotIn] [.Name x px] pos) (tC X.K L fun ω ρ k => m ω ρ fun j ρ' => k (!memO j (i.get ρ')) ρ') := by
  refine pt_weak (pt_cmpR op_notIn_seq he (pe_var hN hv hd2 hcd) hm) fun σ H Q ⟨F, B, ρ, ω, k, o, st, e1, q⟩ => ?_
  refine ⟨F, B, ρ, ω, _, o, st, e1, fun B' v H' j ρ' s st' r e2 => ?_⟩
  obtain ⟨own, S⟩ := id st'
  obtain ⟨dd, u, v1, v2, v3, ⟨vs, rfl, rp, _⟩, _⟩ := S.rel.own i
  obtain ⟨h1, h2⟩ := inV_opt r rp
  refine ⟨.ref dd, v1, dd, vs, rfl, .inl (.inl (.inl v3)), h1, flat_ints rp, ?_⟩
  rw [h2]
  exact ⟨_, rfl, q B' H' _ ρ' s st' e2⟩
end
end L3

/-! L3: ranges with bounds of any size. -/
namespace L3
open PySem PySem.Spec PyProof PyProof.Rows L2
theorem turn_long {P : Program} {w : World} {K : PySem.W.Frag} {tg : Expr} (it : Addr) (lo c : Int) (n : Nat) : Turn P w K tg (Itc lo c n) [it] it (fun i h => IsLongIter h it (lo + (i : Nat) * c) ((n : Int) - (i : Nat)) c) where
  mem := by simp
  obj := fun i h st b hb => by
    have e : b = it := by simpa using hb
    subst e
    exact ⟨_, st, fun v z => nomatch z⟩
  keep := fun i h h' st k => k it (by simp) _ st
  item := by
    intro X hP hw hK hc i pins s σ H E I hf st hg
    subst hP hw hK
    obtain ⟨f0, f1, f2, f3, f4, f5⟩ := hf it (by simp)
    have W := Walks.longrange (prog := X.prog) (w := X.w) (I.ok.hd hc) it lo c n
    refine W.item i s _ _ hg st fun v h' tk hv st' kk => ?_
    obtain ⟨t, rfl⟩ := hv
    have I1 : Inv X pins σ H { s with heap := h', toks := tk } := I.turned (fun b o hb e => kk b o (by simpa using hb) e) f0 f1 f3 f4 f5
    exact ⟨_, rfl, go_of (s := { s with heap := h', toks := tk }) (n := "longrange_iterator") st' rfl rfl (by decide) ⟨.int (lo + (i : Nat) * c), H, I1, ⟨t, rfl⟩, ⟨rfl, rfl⟩, st', fun b hb => (hf b hb).1⟩⟩
  done := by
    intro X hP hw hK hc i pins s σ H E I hf st hg
    subst hP hw hK
    obtain ⟨f0, f1, f2, f3, f4, f5⟩ := hf it (by simp)
    exact wpAny_pyNext_long_end (I.ok.hd hc) st (by have : n ≤ i := hg; omega) fun h' eb => ⟨rfl, I.turned (t' := s.toks) (fun b o hb e => eb b o hb e) f0 f1 f3 f4 f5⟩
  self := fun A i s Q E st h => wpAny_pyIter_longiter st h
section
variable {X : Cx} {K : Fg} {L : List L3.Loc} {tg a b : Expr} {p pos : Pos}
theorem range_itW {pins : List (Addr × Obj)} {σ : L2.St} {H : L2.Hp} {s : Shared} {R : It → Hp → Prop} {E : Value → Shared → Prop} {lo hi : Int} {t u v : Tok} {tk : Nat} (I : Inv X pins σ H s)
    (q : R (Itc lo 1 (hi - lo).toNat) H) : wpAny (model X.prog X.w) X.A (pyIter (.ref s.heap.objs.size)) (PIE X pins σ tg R) E { s with heap := s.heap.push { cls := .type "range", data := .fields #[.int lo t, .int hi u, .int 1 v] }, toks := tk } := by
  have I1 : Inv X pins σ H { s with heap := s.heap.push { cls := .type "range", data := .fields #[.int lo t, .int hi u, .int 1 v] } } := I.kept (t' := s.toks) fun b o e => Heap.get?_push_of_some _ e
  have e1 : lo + ((0 : Nat) : Int) * 1 = lo := by simp
  have e2 : (((hi - lo).toNat : Nat) : Int) - ((0 : Nat) : Int) = Builtin.Range.rangeSize lo hi 1 := by rw [rangeSize_one]; split <;> omega
  cases sm : Builtin.Range.small lo hi 1 with
  | true =>
    refine wpAny_pyIter_range (IsRange.new ..) sm ?_
    refine pi_one (tk := tk) I1 _ (turn_rangeC _ lo 1 (hi - lo).toNat) ?_ q
    show IsRangeIter _ _ (lo + ((0 : Nat) : Int) * 1) ((((hi - lo).toNat : Nat) : Int) - ((0 : Nat) : Int)) 1
    rw [e1, e2]
    exact Heap.get?_push_size _ rfl
  | false =>
    refine wpAny_pyIter_longrange (IsRange.new ..) sm ?_
    refine pi_one (tk := tk) I1 _ (turn_long _ lo 1 (hi - lo).toNat) ?_ q
    show IsLongIter _ _ (lo + ((0 : Nat) : Int) * 1) ((((hi - lo).toNat : Nat) : Int) - ((0 : Nat) : Int)) 1
    rw [e1, e2]
    exact Heap.get?_push_size _ rfl
def iRngW1 (ta : TA) : TI := fun σ H R => ta σ H fun vs H1 => ∃ j : Int, vs = [.int j] ∧ R (Itc 0 1 (j - 0).toNat) H1
def iRngW2 (ta : TA) : TI := fun σ H R => ta σ H fun vs H1 => ∃ i j : Int, vs = [.int i, .int j] ∧ R (Itc i 1 (j - i).toNat) H1
theorem pi_rangeW1 {ta : TA} (hg : Gl X "range") (hm : X.mg "range" = none) (ha : PA X [a] ta) (hs : starEach [a] X.env = [(false, eval a X.env)] := by rfl) : PI X tg (.Call (.Name "range" p) [a] [] pos) (iRngW1 ta) := by
  refine ⟨fun pins s σ H R I h => ?_⟩
  refine Call_ (ld_blt I hg hm boot_range (PyProof.Rows.callWith_type1 (thn (ha.run pos pins s σ H _ I h) fun us s1 ⟨vs, H1, I1, r1, q1⟩ => ?_) hs rfl))
  obtain ⟨j, e, q⟩ := q1
  subst e
  cases r1 with
  | cons r rr =>
    cases rr
    obtain ⟨t, rfl⟩ := r
    exact call_range_1 (range_itW I1 q)
theorem pi_rangeW2 {ta : TA} (hg : Gl X "range") (hm : X.mg "range" = none) (ha : PA X [a, b] ta) (hs : starEach [a, b] X.env = [(false, eval a X.env), (false, eval b X.env)] := by rfl) (hs2 : starEach [b] X.env = [(false, eval b X.env)] := by rfl) :
    PI X tg (.Call (.Name "range" p) [a, b] [] pos) (iRngW2 ta) := by
  refine ⟨fun pins s σ H R I h => ?_⟩
  refine Call_ (ld_blt I hg hm boot_range (PyProof.Rows.callWith_type1 (thn (ha.run pos pins s σ H _ I h) fun us s1 ⟨vs, H1, I1, r1, q1⟩ => ?_) (by rw [hs, hs2]) (by rw [hs2]; rfl)))
  obtain ⟨i, j, e, q⟩ := q1
  subst e
  cases r1 with
  | cons r rr =>
    cases rr with
    | cons r' rr =>
      cases rr
      obtain ⟨t, rfl⟩ := r
      obtain ⟨t', rfl⟩ := r'
      exact call_range_2 (range_itW I1 q)
/-- lo, lo + 1, .., below hi, of any size -/
noncomputable def rngW (lo hi : Int) : Option (List Int) := blk (some (rangeL lo hi))
theorem rngW_eq (lo hi : Int) : rngW lo hi = some (rangeL lo hi) := blk_eq _
theorem itc_one {lo hi : Int} {B : Hp} : ItOk K (Itc lo 1 (hi - lo).toNat) B tInt (rangeL lo hi) := by
  have := itc_ok (K := K) (lo := lo) (c := 1) (n := (hi - lo).toNat) (B := B)
  rw [show rangeL lo hi = rangeC lo 1 (hi - lo).toNat by
    unfold rangeL rangeC
    refine List.map_congr_left fun i _ => ?_
    omega]
  exact this
theorem i_rangeW {m : Mo L Int} (hg : Gl X "range") (hm : X.mg "range" = none) (h : PE X a (tE K L tInt m)) (hs : starEach [a] X.env = [(false, eval a X.env)] := by rfl) :
    PI X tg (.Call (.Name "range" p) [a] [] pos) (tIt K L tInt fun ω ρ k => m ω ρ fun n ρ' => (rngW 0 n).bind fun z => k z ρ') := by
  refine pi_weak (pi_rangeW1 hg hm (pa_cons h pa_nil hs) hs) fun σ H R ⟨F, B, ρ, ω, k, o, st, e1, q⟩ => ?_
  refine ⟨F, B, ρ, ω, _, o, st, e1, fun B' v H' x ρ' s st' r e2 => ?_⟩
  rw [rngW_eq, Option.bind_some] at e2
  exact ⟨x, by rw [r], q B' (Itc 0 1 (x - 0).toNat) H' _ ρ' s st' itc_one e2⟩
theorem i_rangeW2 {m m2 : Mo L Int} (hg : Gl X "range") (hm : X.mg "range" = none) (h : PE X a (tE K L tInt m)) (h2 : PE X b (tE K L tInt m2)) (hs : starEach [a, b] X.env = [(false, eval a X.env), (false, eval b X.env)] := by rfl) (hs2 : starEach [b] X.env = [(false, eval b X.env)] := by rfl) :
    PI X tg (.Call (.Name "range" p) [a, b] [] pos) (tIt K L tInt (bin2 m m2 rngW)) := by
  refine pi_weak (pi_rangeW2 hg hm (pa_cons h (pa_cons h2 pa_nil hs2) (by rw [hs, hs2])) hs hs2) fun σ H R ⟨F, B, ρ, ω, k, o, st, e1, q⟩ => ?_
  refine ⟨F, B, ρ, ω, _, o, st, e1, fun B' v H' x ρ1 s st' r e2 => ⟨F, B', ρ1, ω, _, o, st', e2, fun B2 w H2 y ρ2 s2 st2 r2 e3 => ?_⟩⟩
  rw [rngW_eq, Option.bind_some] at e3
  exact ⟨x, y, by rw [r, r2], q B2 (Itc x 1 (y - x).toNat) H2 _ _ (s.trans s2) st2 itc_one e3⟩
end
end L3

/-! L3: comprehensions with two fors. -/
namespace L3
open PySem PySem.Spec PyProof.Rows L2

/-- one item after another: a list for each, put behind what is there -/
def compC {β A γ : Type} (f : β → A → Option (List γ × A)) : List β → A → Option (List γ × A)
  | [], s => some ([], s)
  | x :: xs, s => (f x s).bind fun p => (compC f xs p.2).map fun q => (p.1 ++ q.1, q.2)
abbrev turn2M {Lw Lb Lw1 Lb1 : List Loc} {β1 γ : Type} (mc : Mo Lb Bool) (mi1 : Mo Lb (List β1)) (bd1 : β1 → Env Lw1 → Env Lb1) (mc1 : Mo Lb1 Bool) (me : Mo Lb1 γ) (wb : Env Lb → Env Lw) (w1 : Env Lb → Env Lw1) (wb1 : Env Lb1 → Env Lw1) (w2 : Env Lw1 → Env Lw) (b : Env Lb) : Option (List γ × Env Lw) :=
  mc _ b fun t b1 => if t = true then mi1 _ b1 fun xs1 b2 => (compM (fun y s => turnM mc1 me wb1 (bd1 y s)) xs1 (w1 b2)).bind fun z => some (z.1, w2 z.2) else some ([], wb b1)
abbrev comp2O {L Lw Lb Lw1 Lb1 : List Loc} {β β1 γ : Type} (mi : Mo L (List β)) (bd : β → Env Lw → Env Lb) (mc : Mo Lb Bool) (mi1 : Mo Lb (List β1)) (bd1 : β1 → Env Lw1 → Env Lb1) (mc1 : Mo Lb1 Bool) (me : Mo Lb1 γ) (we : Env L → Env Lw) (wb : Env Lb → Env Lw) (w1 : Env Lb → Env Lw1) (wb1 : Env Lb1 → Env Lw1) (w2 : Env Lw1 → Env Lw) (bk : Env L → Env Lw → Env L) : Mo L (List γ) :=
  fun ω ρ k => mi ω ρ fun xs ρ' => (compC (fun x s => turn2M mc mi1 bd1 mc1 me wb w1 wb1 w2 (bd x s)) xs (we ρ')).bind fun z => if z.1.length ≤ 16777216 then k z.1 (bk ρ' z.2) else none
theorem y_comp2R {X : Cx} {L Lw Lb Lw1 Lb1 : List Loc} {vs vs1 ws ws1 : List Nat} {own : List (Str × Nat)} {β β1 γ : Type} {T : Ty β} {T1 : Ty β1} {U : Ty γ} {mi : Mo L (List β)} {bd : β → Env Lw → Env Lb} {mc : Mo Lb Bool} {mi1 : Mo Lb (List β1)} {bd1 : β1 → Env Lw1 → Env Lb1} {mc1 : Mo Lb1 Bool} {me : Mo Lb1 γ}
    (w : Wp vs 0 L Lw) (wb : Wp vs 0 Lb Lw) (w1 : Wp vs1 0 Lb Lw1) (wb1 : Wp vs1 0 Lb1 Lw1) (w2 : Wp vs 0 Lw1 Lw) (hv : own.map (·.2) = vs) (hsub : ∀ i ∈ ws, i ∈ vs) (hsub1 : ∀ i ∈ ws1, i ∈ vs1) (hvs : ∀ i ∈ vs1, i ∈ vs) {σ : L2.St} {H : Hp} {Q : VK}
    (h : tO X.K L (oLst U) (comp2O mi bd mc mi1 bd1 mc1 me w.env wb.env w1.env wb1.env w2.env w.back) σ H Q) :
    tLc2 (tIt X.K L T mi) (tGt X.K Lw Lb ws T bd) (tC X.K Lb mc) (tIt X.K Lb T1 mi1) (tGt X.K Lw1 Lb1 ws1 T1 bd1) (tC X.K Lb1 mc1) (tE X.K Lb1 U me) (own.map (·.2)) vs1 σ H Q := by
  obtain ⟨F, B, ρ, ω, kk, oo, st, e1, q⟩ := h
  rw [hv]
  refine ⟨F, B, ρ, ω, _, oo, st, e1, fun B1 J H1 xs ρ1 s1 st1 it e3 => fun D hD => ?_⟩
  obtain ⟨⟨ys, τ⟩, e4, e5⟩ := bind_some e3
  try dsimp only at e5
  by_cases hys : ys.length ≤ 16777216
  case neg =>
    rw [if_neg hys] at e5
    cases e5
  rw [if_pos hys] at e5
  obtain ⟨own1, S1⟩ := id st1
  obtain ⟨hbD, hoD, hfD⟩ := S1.fresh hD
  have hlen := S1.rel.len
  refine ⟨fun i m H => m = xs.length - i ∧ i ≤ xs.length ∧ ∃ Bi τi owni vsd done rest, Sub B1 Bi ∧ StO X.K F Lw owni Bi τi (wipe σ vs) H ∧ H D = some (.lst vsd) ∧ Bi D = none ∧ D ∉ owni ∧ Paired (U.rep X.K Bi) vsd done ∧
      compC (fun x s => turn2M mc mi1 bd1 mc1 me wb.env w1.env wb1.env w2.env (bd x s)) (xs.drop i) τi = some (rest, τ) ∧ done ++ rest = ys, ⟨xs.length, by simp, Nat.zero_le _, B1, w.env ρ1, own1, [], [], ys, Sub.refl _, ?_, upd_same, hbD, hoD, .nil, by rw [List.drop_zero]; exact e4, rfl⟩, ?_⟩
  · have S2 := S1.newH (o := HO.lst []) hD
    exact ⟨S2.base, S2.sub, S2.keep, S2.old, S2.rel.wipe w (wipe_length _ _) fun i hi => wipe_out (by simpa using hi), S2.nd, S2.own⟩
  rintro i m H2 ⟨rfl, hle, Bi, τi, owni, vsd, done, rest, si, Si, hDi, hbi, hoi, pr, ei, ed⟩
  obtain ⟨hstop, hgo⟩ := it i Bi H2 si Si.sub
  by_cases hlt : i < xs.length
  · have hx : xs[i]? = some xs[i] := List.getElem?_eq_getElem hlt
    obtain ⟨go, yl⟩ := hgo _ hx
    rw [List.drop_eq_getElem_cons hlt] at ei
    obtain ⟨⟨part, τ1⟩, f1, f2⟩ := bind_some ei
    obtain ⟨⟨rest1, τ2⟩, f3, f4⟩ := map_some f2
    refine .inr ⟨go, fun H => ∃ Bi τi owni vsd done rest, Sub B1 Bi ∧ StO X.K F Lw owni Bi τi (wipe σ vs) H ∧ H D = some (.lst vsd) ∧ Bi D = none ∧ D ∉ owni ∧ Paired (U.rep X.K Bi) vsd done ∧
      compC (fun x s => turn2M mc mi1 bd1 mc1 me wb.env w1.env wb1.env w2.env (bd x s)) (xs.drop (i + 1)) τi = some (rest, τ) ∧ done ++ rest = ys, fun H' p => ⟨xs.length - (i + 1), by omega, rfl, hlt, p⟩, fun v H' yy => ?_⟩
    obtain ⟨B3, g, r⟩ := yl v H' yy
    have Sg := Si.grow g
    have hDg : H' D = some (.lst vsd) := g.h D _ hDi
    have hbg : B3 D = none := by
      cases z : B3 D with
      | none => rfl
      | some u =>
        rcases g.old D (by rw [z]; exact fun y => nomatch y) with y | y
        · exact absurd hbi y
        · rw [hDi] at y; cases y
    refine ⟨frAt H' B3 owni, B3, τi, xs[i], ⟨owni, Sg.inner⟩, r, fun σ2 ho st2 => ⟨?_, ?_⟩⟩
    · refine wipe_same (ho.1.trans (wipe_length _ _)) fun j hj => ho.2 j fun z => hj (hsub j z)
    have hws : wipe σ2 vs = wipe σ vs := wipe_same (ho.1.trans (wipe_length _ _)) fun j hj => ho.2 j fun z => hj (hsub j z)
    -- from within the turn to the whole
    have out : ∀ {B5 : Hp} {L5 : List Loc} {own5 : List Addr} {b5 : Env L5} {σ5 : L2.St} {H5 : Hp}, Sub B3 B5 → StO X.K (frAt H' B3 owni) L5 own5 B5 b5 σ5 H5 → StO X.K F L5 own5 B5 b5 σ5 H5 ∧ H5 D = some (.lst vsd) ∧ B5 D = none ∧ D ∉ own5 := by
      intro B5 L5 own5 b5 σ5 H5 s5 S5
      have So := Sg.outer S5
      refine ⟨So, S5.keep D _ hoi hDg, ?_, fun m5 => ?_⟩
      · cases z : B5 D with
        | none => rfl
        | some u =>
          rcases S5.old D (by show H' D ≠ none; rw [hDg]; exact fun y => nomatch y) (by rw [z]; exact fun y => nomatch y) with y | y
          · exact absurd hbg y
          · exact absurd y hoi
      · rcases (S5.own D m5).2 with y | y
        · rw [show (frAt H' B3 owni).H0 D = H' D from rfl, hDg] at y; cases y
        · exact absurd y hoi
    refine ⟨frAt H' B3 owni, B3, _, _, _, _, st2, f1, fun B4 H4 k b1 s4 st4 f6 => ?_⟩
    cases k with
    | false =>
      cases f6
      obtain ⟨own5, S5⟩ := st4
      obtain ⟨So, h1, h2, h3⟩ := out s4 S5
      cases f4
      refine ⟨B4, _, own5, vsd, done, rest1, (si.trans g.b).trans s4, ⟨So.base, So.sub, So.keep, So.old, ?_, So.nd, So.own⟩, h1, h2, h3, Pmap pr fun _ _ z => U.mono (g.b.trans s4) z, f3, ed⟩
      have := So.rel.wipe wb (wipe_length σ2 vs) fun j hj => wipe_out (by simpa using hj)
      rwa [hws] at this
    | true =>
      simp only [if_true] at f6 ⊢
      refine ⟨frAt H' B3 owni, B4, b1, _, _, _, st4, f6, fun B5 J1 H5 xs1 b2 s5 st5 it1 f7 => ?_⟩
      obtain ⟨⟨part1, τe⟩, f8, f9⟩ := bind_some f7
      cases f9
      cases f4
      obtain ⟨own5, S5⟩ := st5
      obtain ⟨So, h1, h2, h3⟩ := out (s4.trans s5) S5
      have sb5 := ((si.trans g.b).trans s4).trans s5
      refine ⟨fun j k H => k = xs1.length - j ∧ j ≤ xs1.length ∧ ∃ Bj τj ownj vsj done1 rest2, Sub B5 Bj ∧ StO X.K F Lw1 ownj Bj τj (wipe σ2 vs1) H ∧ H D = some (.lst vsj) ∧ Bj D = none ∧ D ∉ ownj ∧ Paired (U.rep X.K Bj) vsj (done ++ done1) ∧
        compM (fun y s => turnM mc1 me wb1.env (bd1 y s)) (xs1.drop j) τj = some (rest2, τe) ∧ done1 ++ rest2 = part1, ⟨xs1.length, by simp, Nat.zero_le _, B5, w1.env b2, own5, vsd, [], part1, Sub.refl _, ⟨So.base, So.sub, So.keep, So.old, So.rel.wipe w1 (wipe_length _ _) fun i hi => wipe_out (by simpa using hi), So.nd, So.own⟩, h1, h2, h3, by rw [List.append_nil]; exact Pmap pr fun _ _ z => U.mono ((g.b.trans s4).trans s5) z, by rw [List.drop_zero]; exact f8, rfl⟩, ?_⟩
      rintro j k H6 ⟨rfl, hle1, Bj, τj, ownj, vsj, done1, rest2, sj, Sj, hDj, hbj, hoj, prj, ej, edj⟩
      obtain ⟨hstop1, hgo1⟩ := it1 j Bj H6 sj Sj.sub
      by_cases hlt1 : j < xs1.length
      · have hx1 : xs1[j]? = some xs1[j] := List.getElem?_eq_getElem hlt1
        obtain ⟨go1, yl1⟩ := hgo1 _ hx1
        rw [List.drop_eq_getElem_cons hlt1] at ej
        obtain ⟨⟨o1, τ3⟩, g1, g2⟩ := bind_some ej
        obtain ⟨⟨rest3, τ4⟩, g3, g4⟩ := map_some g2
        refine .inr ⟨go1, fun H => ∃ Bj τj ownj vsj done1 rest2, Sub B5 Bj ∧ StO X.K F Lw1 ownj Bj τj (wipe σ2 vs1) H ∧ H D = some (.lst vsj) ∧ Bj D = none ∧ D ∉ ownj ∧ Paired (U.rep X.K Bj) vsj (done ++ done1) ∧
          compM (fun y s => turnM mc1 me wb1.env (bd1 y s)) (xs1.drop (j + 1)) τj = some (rest2, τe) ∧ done1 ++ rest2 = part1, fun H' p => ⟨xs1.length - (j + 1), by omega, rfl, hlt1, p⟩, fun v1 H7 yy1 => ?_⟩
        obtain ⟨B7, g7, r7⟩ := yl1 v1 H7 yy1
        have Sg7 := Sj.grow g7
        have hDg7 : H7 D = some (.lst vsj) := g7.h D _ hDj
        have hbg7 : B7 D = none := by
          cases z : B7 D with
          | none => rfl
          | some u =>
            rcases g7.old D (by rw [z]; exact fun y => nomatch y) with y | y
            · exact absurd hbj y
            · rw [hDj] at y; cases y
        refine ⟨frAt H7 B7 ownj, B7, τj, xs1[j], ⟨ownj, Sg7.inner⟩, r7, fun σ3 ho3 st3 => ⟨?_, ?_⟩⟩
        · refine wipe_same (ho3.1.trans (wipe_length _ _)) fun j hj => ho3.2 j fun z => hj (hsub1 j z)
        have hws3 : wipe σ3 vs1 = wipe σ2 vs1 := wipe_same (ho3.1.trans (wipe_length _ _)) fun j hj => ho3.2 j fun z => hj (hsub1 j z)
        have fin : ∀ {B8 : Hp} {b8 : Env Lb1} {H8 : Hp}, Sub B7 B8 → Stt X.K (frAt H7 B7 ownj) Lb1 B8 b8 σ3 H8 → ∃ own8, StO X.K F Lw1 own8 B8 (wb1.env b8) (wipe σ2 vs1) H8 ∧ H8 D = some (.lst vsj) ∧ B8 D = none ∧ D ∉ own8 := by
          intro B8 b8 H8 s8 ⟨own8, S8⟩
          have So := Sg7.outer S8
          refine ⟨own8, ⟨So.base, So.sub, So.keep, So.old, ?_, So.nd, So.own⟩, S8.keep D _ hoj hDg7, ?_, fun m5 => ?_⟩
          · have := So.rel.wipe wb1 (wipe_length σ3 vs1) fun j hj => wipe_out (by simpa using hj)
            rwa [hws3] at this
          · cases z : B8 D with
            | none => rfl
            | some u =>
              rcases S8.old D (by show H7 D ≠ none; rw [hDg7]; exact fun y => nomatch y) (by rw [z]; exact fun y => nomatch y) with y | y
              · exact absurd hbg7 y
              · exact absurd y hoj
          · rcases (S8.own D m5).2 with y | y
            · rw [show (frAt H7 B7 ownj).H0 D = H7 D from rfl, hDg7] at y; cases y
            · exact absurd y hoj
        refine ⟨frAt H7 B7 ownj, B7, _, _, _, _, st3, g1, fun B8 H8 k b8 s8 st8 f10 => ?_⟩
        cases k with
        | false =>
          cases f10
          obtain ⟨own9, S9, q1, q2, q3⟩ := fin s8 st8
          cases g4
          exact ⟨B8, _, own9, vsj, done1, rest3, (sj.trans g7.b).trans s8, S9, q1, q2, q3, Pmap prj fun _ _ z => U.mono (g7.b.trans s8) z, g3, edj⟩
        | true =>
          simp only [if_true] at f10 ⊢
          refine ⟨frAt H7 B7 ownj, B8, b8, _, _, _, st8, f10, fun B9 v9 H9 u b9 s9 st9 r9 f11 => ?_⟩
          cases f11
          cases g4
          obtain ⟨own9, S9, q1, q2, q3⟩ := fin (s8.trans s9) st9
          have lp := Paired.length prj
          have hl9 : vsj.length < 16777216 := by
            have z1 : (done ++ part1 ++ rest1).length ≤ 16777216 := by
              rw [List.append_assoc, ed]; exact hys
            rw [lp, List.length_append]
            rw [← edj] at z1
            simp only [List.length_append, List.length_cons] at z1
            omega
          refine ⟨vsj, q1, by rw [sizeLine_eq]; omega, B9, _, own9, vsj ++ [v9], done1 ++ [u], rest3, ((sj.trans g7.b).trans s8).trans s9, ?_, upd_same, q2, q3, ?_, g3, ?_⟩
          · refine ⟨S9.base, fun a o z => ?_, fun a o m z => ?_, S9.old, S9.rel.frame (Sub.refl _) fun a m => upd_ne fun z => q3 (by rw [← z]; exact m), S9.nd, S9.own⟩
            · rw [upd_ne (ne_of_none z q2)]; exact S9.sub a o z
            · refine (upd_ne fun y => ?_).trans (S9.keep a o m z)
              subst y
              rcases hfD with y | y
              · rw [z] at y; cases y
              · exact m y
          · rw [← List.append_assoc]
            exact P_app (Pmap prj fun _ _ z => U.mono ((g7.b.trans s8).trans s9) z) (.cons r9 .nil)
          · rw [List.append_assoc]; exact edj
      · refine .inl ⟨hstop1 (by omega), ?_⟩
        rw [List.drop_eq_nil_of_le (by omega)] at ej
        cases ej
        rw [List.append_nil] at edj
        subst edj
        refine ⟨Bj, _, ownj, vsj, done ++ done1, rest1, sb5.trans sj, ⟨Sj.base, Sj.sub, Sj.keep, Sj.old, ?_, Sj.nd, Sj.own⟩, hDj, hbj, hoj, prj, f3, by rw [List.append_assoc]; exact ed⟩
        refine Sj.rel.wipe w2 ((wipe_length _ _).trans ?_) fun j hj => ?_
        · rw [wipe_length, ho.1, wipe_length]
        · have hj' : j ∉ vs := by simpa using hj
          rw [← hws, wipe_out hj', wipe_out fun z => hj' (hvs j z)]
  · refine .inl ⟨hstop (by omega), ?_⟩
    rw [List.drop_eq_nil_of_le (by omega)] at ei
    cases ei
    rw [List.append_nil] at ed
    subst ed
    refine q Bi D _ H2 owni _ _ (s1.trans si) ⟨Si.base, Si.sub, Si.keep, Si.old, ?_, Si.nd, Si.own⟩ hDi ⟨vsd, rfl, pr, by
      show done.length ≤ sizeLine
      rw [sizeLine_eq]; omega⟩ hbi hoi hfD e5
    exact Rel.unwipe si w S1.rel Si.rel (wipe_length _ _) fun j hj => wipe_out (by simpa using hj)
section
variable {X : Cx} {L Lw Lb Lw1 Lb1 : List Loc} {pos p : Pos}
theorem y_comp2 {vs vs1 ws ws1 : List Nat} {elt tg iter tg1 iter1 : Expr} {ifs ifs1 : List Expr} {scope : Scope} {own : List (Str × Nat)} {β β1 γ : Type} {T : Ty β} {T1 : Ty β1} {U : Ty γ} {mi : Mo L (List β)} {bd : β → Env Lw → Env Lb} {mc : Mo Lb Bool} {mi1 : Mo Lb (List β1)} {bd1 : β1 → Env Lw1 → Env Lb1} {mc1 : Mo Lb1 Bool} {me : Mo Lb1 γ} {mm : Mo L (List γ)}
    (w : Wp vs 0 L Lw) (wb : Wp vs 0 Lb Lw) (w1 : Wp vs1 0 Lb Lw1) (wb1 : Wp vs1 0 Lb1 Lw1) (w2 : Wp vs 0 Lw1 Lw) (hv : own.map (·.2) = vs) (hsub : ∀ i ∈ ws, i ∈ vs) (hsub1 : ∀ i ∈ ws1, i ∈ vs1) (hvs : ∀ i ∈ vs1, i ∈ vs)
    (hc : X.calm = true) (hN : X.N.Nodup) (hi : PI X tg iter (tIt X.K L T mi)) (ok : BlkOk X.N X.env.scope scope own)
    (hg : ∀ (s : Shared) (H : Hp) (C : Addr) (cl : List (Str × Addr)) (fp : List Addr), PG (X.blk s H scope (compEnvC scope cl C X.env) fp) tg (tGt X.K Lw Lb ws T bd))
    (ht : ∀ (s : Shared) (H : Hp) (C : Addr) (cl : List (Str × Addr)) (fp : List Addr), PTs (X.blk s H scope (compEnvC scope cl C X.env) fp) ifs (tC X.K Lb mc))
    (hi1 : ∀ (s : Shared) (H : Hp) (C : Addr) (cl : List (Str × Addr)) (fp : List Addr), PI (X.blk s H scope (compEnvC scope cl C X.env) fp) tg1 iter1 (tIt X.K Lb T1 mi1))
    (hg1 : ∀ (s : Shared) (H : Hp) (C : Addr) (cl : List (Str × Addr)) (fp : List Addr), PG (X.blk s H scope (compEnvC scope cl C X.env) fp) tg1 (tGt X.K Lw1 Lb1 ws1 T1 bd1))
    (ht1 : ∀ (s : Shared) (H : Hp) (C : Addr) (cl : List (Str × Addr)) (fp : List Addr), PTs (X.blk s H scope (compEnvC scope cl C X.env) fp) ifs1 (tC X.K Lb1 mc1))
    (he : ∀ (s : Shared) (H : Hp) (C : Addr) (cl : List (Str × Addr)) (fp : List Addr), PE (X.blk s H scope (compEnvC scope cl C X.env) fp) elt (tE X.K Lb1 U me))
    (hm : mm = comp2O mi bd mc mi1 bd1 mc1 me w.env wb.env w1.env wb1.env w2.env w.back := by rfl)
    (hs : ∀ x, foldedSetIterable iter X.env x = pure x := by intro _; rfl) (hs1 : ∀ env x, foldedSetIterable iter1 env x = pure x := by intro _ _; rfl) :
    PE X (.ListComp elt [⟨tg, iter, ifs, 0⟩, ⟨tg1, iter1, ifs1, 0⟩] scope pos) (tO X.K L (oLst U) mm) := by
  rw [hm]
  exact pe_weak (pe_lc2 (own := own) (vs1 := vs1) hc hN hi ok (by rw [hv]; exact hvs) hg ht hi1 hg1 ht1 he hs hs1) fun σ H Q h => y_comp2R w wb w1 wb1 w2 hv hsub hsub1 hvs h
/-- y = [..] on one line -/
theorem y_comp2S {L' Lh : List Loc} {S : RS} {i : Nat} {y : Str} {py : Pos} {spos : Pos} {vs vs1 ws ws1 : List Nat} {elt tg iter tg1 iter1 : Expr} {ifs ifs1 : List Expr} {scope : Scope} {own : List (Str × Nat)} {β β1 γ : Type} {T : Ty β} {T1 : Ty β1} {U : Ty γ} {mi : Mo L (List β)} {bd : β → Env Lw → Env Lb} {mc : Mo Lb Bool} {mi1 : Mo Lb (List β1)} {bd1 : β1 → Env Lw1 → Env Lb1} {mc1 : Mo Lb1 Bool} {me : Mo Lb1 γ} {mm : Mo L (List γ)}
    (pp : Put (lOwn (oLst U) none) i L L') (hy : X.N[i]? = some y) (hyl : X.env.scope.names.lookup y = some .local) (hsw : swapsWith (.ListComp elt [⟨tg, iter, ifs, 0⟩, ⟨tg1, iter1, ifs1, 0⟩] scope pos) (some (.Name y py)) spos.line X.env = pure true)
    (w : Wp vs 0 L Lw) (wb : Wp vs 0 Lb Lw) (w1 : Wp vs1 0 Lb Lw1) (wb1 : Wp vs1 0 Lb1 Lw1) (w2 : Wp vs 0 Lw1 Lw) (hv : own.map (·.2) = vs) (hsub : ∀ i ∈ ws, i ∈ vs) (hsub1 : ∀ i ∈ ws1, i ∈ vs1) (hvs : ∀ i ∈ vs1, i ∈ vs)
    (hc : X.calm = true) (hN : X.N.Nodup) (hi : PI X tg iter (tIt X.K L T mi)) (ok : BlkOk X.N X.env.scope scope own)
    (hg : ∀ (s : Shared) (H : Hp) (C : Addr) (cl : List (Str × Addr)) (fp : List Addr), PG (X.blk s H scope (compEnvC scope cl C X.env) fp) tg (tGt X.K Lw Lb ws T bd))
    (ht : ∀ (s : Shared) (H : Hp) (C : Addr) (cl : List (Str × Addr)) (fp : List Addr), PTs (X.blk s H scope (compEnvC scope cl C X.env) fp) ifs (tC X.K Lb mc))
    (hi1 : ∀ (s : Shared) (H : Hp) (C : Addr) (cl : List (Str × Addr)) (fp : List Addr), PI (X.blk s H scope (compEnvC scope cl C X.env) fp) tg1 iter1 (tIt X.K Lb T1 mi1))
    (hg1 : ∀ (s : Shared) (H : Hp) (C : Addr) (cl : List (Str × Addr)) (fp : List Addr), PG (X.blk s H scope (compEnvC scope cl C X.env) fp) tg1 (tGt X.K Lw1 Lb1 ws1 T1 bd1))
    (ht1 : ∀ (s : Shared) (H : Hp) (C : Addr) (cl : List (Str × Addr)) (fp : List Addr), PTs (X.blk s H scope (compEnvC scope cl C X.env) fp) ifs1 (tC X.K Lb1 mc1))
    (he : ∀ (s : Shared) (H : Hp) (C : Addr) (cl : List (Str × Addr)) (fp : List Addr), PE (X.blk s H scope (compEnvC scope cl C X.env) fp) elt (tE X.K Lb1 U me))
    (hm : mm = comp2O mi bd mc mi1 bd1 mc1 me w.env wb.env w1.env wb1.env w2.env w.back := by rfl)
    (hs : ∀ x, foldedSetIterable iter X.env x = pure x := by intro _; rfl) (hs1 : ∀ env x, foldedSetIterable iter1 env x = pure x := by intro _ _; rfl) :
    PS X (.Assign [.Name y py] (.ListComp elt [⟨tg, iter, ifs, 0⟩, ⟨tg1, iter1, ifs1, 0⟩] scope pos) spos) (tS X.K L L' Lh S fun ω ρ k => mm ω ρ fun x ρ' => k (.nx (pp.put x ρ'))) := by
  rw [hm]
  refine ps_weak (ps_setLc2 (own := own) (vs1 := vs1) (i := i) hc hN hy hyl hsw hi ok (by rw [hv]; exact hvs) hg ht hi1 hg1 ht1 he hs hs1) fun D σ H ⟨F, B, ρ, ω, k, o, st, e1, q⟩ => ?_
  refine y_comp2R w wb w1 wb1 w2 hv hsub hsub1 hvs ⟨F, B, ρ, ω, _, o, st, e1, fun B' p u H' own x ρ' s st' h1 h2 h3 h4 h5 e2 => ?_⟩
  exact q _ e2 B' _ H' s (st'.putO pp h1 h2 h3 h4 h5)
end
end L3

/-! L3: what walks a dict, makes one of pairs, by a comprehension. -/
namespace L3
open PySem PySem.Spec PyProof.Rows L2
theorem DGet.kF {H : PHp} {a : Addr} {od : Obj} {kvs : List (L2.Key × V)} {k : L2.Key} (e : H a = some (.frz od (.dK kvs))) : DGet H a (kV k) (valV kvs k) := .inl ⟨kvs, k, .inr ⟨od, e⟩, rfl, rfl⟩
section
variable {κ α : Type} {T : Ty κ} {U : Ty α}
/-- a dict that is locked while it is walked -/
def tDictF (d : Kt T) (U : Ty α) : Ty (List (κ × α)) where
  rep := fun K B v xs => ∃ a ps, v = .ref a ∧ (∃ od, B a = some (.frz od (.dK ps))) ∧ KVr K B d U ps xs ∧ xs.length ≤ sizeLine
  mono := fun s ⟨a, ps, e, ⟨od, h⟩, k, l⟩ => ⟨a, ps, e, ⟨od, s _ _ h⟩, Pmap k fun _ _ r => ⟨r.1, U.mono s r.2⟩, l⟩
  nn := true
  nnok := fun _ _ _ _ _ ⟨a, ps, e, _⟩ z => by rw [e] at z; cases z
  to := false
  took := fun h => nomatch h
end
section
variable {X : Cx} {L Lh : List L3.Loc} {S : RS} {e e2 : Expr} {pos px : Pos} {κ α : Type} {T : Ty κ} {U : Ty α} {fo : Option Addr} {n : Nat} {x : Str} [DecidableEq κ]
theorem y_dgetF (hu : X.A.units + 65 < cLine) (d : Kt T) {o : Expr} {mo : Mo L (List (κ × α))} {m : Mo L κ} (ho : PE X o (tE X.K L (tDictF d U) mo)) (he : PE X e (tE X.K L T m)) (hs : NoSl e := by intro _ _; rfl) :
    PE X (.Subscript o e pos) (tE X.K L U fun ω ρ k => mo ω ρ fun kvs ρ1 => m ω ρ1 fun j ρ' => (getK kvs j).bind fun y => k y ρ') := by
  refine pe_weak (pe_dget (by omega) ho he hs) fun σ H Q ⟨F, B, ρ, ω, k, o, st, e1, q⟩ => ?_
  refine ⟨F, B, ρ, ω, _, o, st, e1, fun B1 v1 H1 kvs ρ1 s1 st1 r1 e2 => ?_⟩
  refine ⟨F, B1, ρ1, ω, _, o, st1, e2, fun B' v H' j ρ' s st' r e3 => ?_⟩
  obtain ⟨y, e4, e5⟩ := bind_some e3
  obtain ⟨a, ps, rfl, ⟨od, hb⟩, rp, _⟩ := (tDictF d U).mono s r1
  obtain rfl := d.rep r
  have rg := P_getK rp j
  rw [e4] at rg
  obtain ⟨z, e6, rz⟩ := rg.some
  exact ⟨a, z, rfl, by rw [← e6]; exact DGet.kF (st'.sb _ _ hb), q B' z H' y ρ' (s1.trans s) st' rz e5⟩
theorem y_d_inF (hu : X.A.units + 65 < cLine) (d : Kt T) {m : Mo L κ} (i : Ix (lImm (tDictF d U)) n L) (he : PE X e (tE X.K L T m)) (hN : X.N[n]? = some x := by rfl) (hv : Vis X.env.scope x := by first | exact .inl rfl | exact .inr (.inl rfl) | exact .inr (.inr rfl)) (hd2 : (x == ("__debug__" : Str)) = false := by decide) (hcd : (x == ("__classdict__" : Str)) = false := by decide) :
    PE X (.Compare e [.In] [.Name x px] pos) (tE X.K L tBool fun ω ρ k => m ω ρ fun j ρ' => k ((getK (i.get ρ') j).isSome) ρ') := by
  refine pe_weak (pe_cmp (pc_din (by omega) he (pe_var hN hv hd2 hcd))) fun σ H Q ⟨F, B, ρ, ω, k, o, st, e1, q⟩ => ?_
  refine ⟨F, B, ρ, ω, _, o, st, e1, fun B' v H' j ρ' s st' r e2 => ?_⟩
  obtain ⟨own, S⟩ := id st'
  obtain ⟨vv, v1, a, ps, rfl, ⟨od, hb⟩, rp, _⟩ := S.rel.imm i
  obtain rfl := d.rep r
  refine ⟨.ref a, v1, a, valV ps (d.key j), rfl, DGet.kF (st'.sb _ _ hb), ?_⟩
  rw [(P_getK rp j).is]
  exact q B' _ H' _ ρ' s st' rfl e2
theorem y_d_inTF (hu : X.A.units + 65 < cLine) (d : Kt T) {m : Mo L κ} (i : Ix (lImm (tDictF d U)) n L) (he : PE X e (tE X.K L T m)) (hN : X.N[n]? = some x := by rfl) (hv : Vis X.env.scope x := by first | exact .inl rfl | exact .inr (.inl rfl) | exact .inr (.inr rfl)) (hd2 : (x == ("__debug__" : Str)) = false := by decide) (hcd : (x == ("__classdict__" : Str)) = false := by decide) :
    PT X (.Compare e [.In] [.Name x px] pos) (tC X.K L fun ω ρ k => m ω ρ fun j ρ' => k ((getK (i.get ρ') j).isSome) ρ') := by
  refine pt_weak (pt_cmp (pc_din (by omega) he (pe_var hN hv hd2 hcd))) fun σ H Q ⟨F, B, ρ, ω, k, o, st, e1, q⟩ => ?_
  refine ⟨F, B, ρ, ω, _, o, st, e1, fun B' v H' j ρ' s st' r e2 => ?_⟩
  obtain ⟨own, S⟩ := id st'
  obtain ⟨vv, v1, a, ps, rfl, ⟨od, hb⟩, rp, _⟩ := S.rel.imm i
  obtain rfl := d.rep r
  refine ⟨.ref a, v1, a, valV ps (d.key j), rfl, DGet.kF (st'.sb _ _ hb), ?_⟩
  rw [(P_getK rp j).is]
  exact ⟨_, rfl, q B' H' _ ρ' s st' e2⟩
theorem y_d_notInF (hu : X.A.units + 65 < cLine) (d : Kt T) {m : Mo L κ} (i : Ix (lImm (tDictF d U)) n L) (he : PE X e (tE X.K L T m)) (hN : X.N[n]? = some x := by rfl) (hv : Vis X.env.scope x := by first | exact .inl rfl | exact .inr (.inl rfl) | exact .inr (.inr rfl)) (hd2 : (x == ("__debug__" : Str)) = false := by decide) (hcd : (x == ("__classdict__" : Str)) = false := by decide) :
    PE X (.Compare e [.NotIn] [.Name x px] pos) (tE X.K L tBool fun ω ρ k => m ω ρ fun j ρ' => k (!(getK (i.get ρ') j).isSome) ρ') := by
  refine pe_weak (pe_cmp (pc_dnotin (by omega) he (pe_var hN hv hd2 hcd))) fun σ H Q ⟨F, B, ρ, ω, k, o, st, e1, q⟩ => ?_
  refine ⟨F, B, ρ, ω, _, o, st, e1, fun B' v H' j ρ' s st' r e2 => ?_⟩
  obtain ⟨own, S⟩ := id st'
  obtain ⟨vv, v1, a, ps, rfl, ⟨od, hb⟩, rp, _⟩ := S.rel.imm i
  obtain rfl := d.rep r
  refine ⟨.ref a, v1, a, valV ps (d.key j), rfl, DGet.kF (st'.sb _ _ hb), ?_⟩
  rw [(P_getK rp j).is]
  exact q B' _ H' _ ρ' s st' rfl e2
theorem y_d_notInTF (hu : X.A.units + 65 < cLine) (d : Kt T) {m : Mo L κ} (i : Ix (lImm (tDictF d U)) n L) (he : PE X e (tE X.K L T m)) (hN : X.N[n]? = some x := by rfl) (hv : Vis X.env.scope x := by first | exact .inl rfl | exact .inr (.inl rfl) | exact .inr (.inr rfl)) (hd2 : (x == ("__debug__" : Str)) = false := by decide) (hcd : (x == ("__classdict__" : Str)) = false := by decide) :
    PT X (.Compare e [.NotIn] [.Name x px] pos) (tC X.K L fun ω ρ k => m ω ρ fun j ρ' => k (!(getK (i.get ρ') j).isSome) ρ') := by
  refine pt_weak (pt_cmp (pc_dnotin (by omega) he (pe_var hN hv hd2 hcd))) fun σ H Q ⟨F, B, ρ, ω, k, o, st, e1, q⟩ => ?_
  refine ⟨F, B, ρ, ω, _, o, st, e1, fun B' v H' j ρ' s st' r e2 => ?_⟩
  obtain ⟨own, S⟩ := id st'
  obtain ⟨vv, v1, a, ps, rfl, ⟨od, hb⟩, rp, _⟩ := S.rel.imm i
  obtain rfl := d.rep r
  refine ⟨.ref a, v1, a, valV ps (d.key j), rfl, DGet.kF (st'.sb _ _ hb), ?_⟩
  rw [(P_getK rp j).is]
  exact ⟨_, rfl, q B' H' _ ρ' s st' e2⟩
theorem y_dgt1F (hu : X.A.units + 65 < cLine) (hn : U.nn = true) (d : Kt T) {apos : Pos} {m : Mo L κ} (i : Ix (lImm (tDictF d U)) n L) (he : PE X e (tE X.K L T m)) (hN : X.N[n]? = some x := by rfl) (hv : Vis X.env.scope x := by first | exact .inl rfl | exact .inr (.inl rfl) | exact .inr (.inr rfl)) (hd2 : (x == ("__debug__" : Str)) = false := by decide) (hcd : (x == ("__classdict__" : Str)) = false := by decide)
    (hbase : attributeBase (.Name x px) "get" X.env (eval (.Name x px) X.env) = eval (.Name x px) X.env := by rfl)
    (hfew : ((backTo pos (starEach [e] X.env)).all (fun x => !x.1) && (backToKw pos (keywordEach [] X.env)).all (fun x => x.1.isSome) && decide (([e] : List Expr).length + ([] : List Keyword).length + (if ([] : List Keyword).isEmpty then 0 else 1) < 30)) = true := by rfl)
    (hline : (apos.endLine == pos.line) = true := by rfl) (htr : backTo pos (starEach [e] X.env) = [(false, eval e X.env)] := by rfl) :
    PE X (.Call (.Attribute (.Name x px) "get" apos) [e] [] pos) (tE X.K L (tOpt U) fun ω ρ k => m ω ρ fun j ρ' => k (getK (i.get ρ') j) ρ') := by
  refine pe_weak (pe_dget1 (by omega) (pe_var hN hv hd2 hcd) he ⟨hbase, hfew, hline, htr⟩) fun σ H Q ⟨F, B, ρ, ω, k, o, st, e1, q⟩ => ?_
  obtain ⟨own0, S0⟩ := id st
  obtain ⟨vv0, w1, d0, ps0, rfl, ⟨od0, w3⟩, _, _⟩ := S0.rel.imm i
  refine ⟨.ref d0, w1, d0, rfl, .inl ⟨ps0, .inr ⟨_, st.sb _ _ w3⟩⟩, F, B, ρ, ω, _, o, st, e1, fun B' v H' j ρ' s st' r e2 => ?_⟩
  obtain ⟨own, S⟩ := id st'
  obtain ⟨vv, v1, dd, ps, rfl, ⟨od, v30⟩, rp, _⟩ := S.rel.imm i
  have v3 := st'.sb _ _ v30
  have ed : dd = d0 := by
    rw [w1] at v1
    simp at v1
    exact v1.symm
  subst ed
  obtain rfl := d.rep r
  refine ⟨_, DGet.kF v3, ?_⟩
  have rg := P_getK rp j
  refine q B' _ H' _ ρ' s st' ?_ e2
  cases e5 : getK (i.get ρ') j with
  | none =>
    rw [e5] at rg
    cases e6 : valV ps (d.key j) with
    | none => rfl
    | some z => rw [e6] at rg; exact rg.elim
  | some y =>
    rw [e5] at rg
    obtain ⟨z, e6, rz⟩ := rg.some
    rw [e6]
    exact ⟨rz, U.nnok hn rz⟩
theorem y_dgt2F (hu : X.A.units + 65 < cLine) (d : Kt T) {apos : Pos} {m : Mo L κ} {m2 : Mo L α} (i : Ix (lImm (tDictF d U)) n L) (he : PE X e (tE X.K L T m)) (hf : PE X e2 (tE X.K L U m2)) (hN : X.N[n]? = some x := by rfl) (hv : Vis X.env.scope x := by first | exact .inl rfl | exact .inr (.inl rfl) | exact .inr (.inr rfl)) (hd2 : (x == ("__debug__" : Str)) = false := by decide) (hcd : (x == ("__classdict__" : Str)) = false := by decide)
    (hbase : attributeBase (.Name x px) "get" X.env (eval (.Name x px) X.env) = eval (.Name x px) X.env := by rfl)
    (hfew : ((backTo pos (starEach [e, e2] X.env)).all (fun x => !x.1) && (backToKw pos (keywordEach [] X.env)).all (fun x => x.1.isSome) && decide (([e, e2] : List Expr).length + ([] : List Keyword).length + (if ([] : List Keyword).isEmpty then 0 else 1) < 30)) = true := by rfl)
    (hline : (apos.endLine == pos.line) = true := by rfl) (htr : backTo pos (starEach [e, e2] X.env) = [(false, eval e X.env), (false, eval e2 X.env)] := by rfl) :
    PE X (.Call (.Attribute (.Name x px) "get" apos) [e, e2] [] pos) (tE X.K L U fun ω ρ k => m ω ρ fun j ρ1 => m2 ω ρ1 fun y ρ' => k ((getK (i.get ρ') j).getD y) ρ') := by
  refine pe_weak (pe_dget2 (by omega) (pe_var hN hv hd2 hcd) he hf ⟨hbase, hfew, hline, htr⟩) fun σ H Q ⟨F, B, ρ, ω, k, o, st, e1, q⟩ => ?_
  obtain ⟨own0, S0⟩ := id st
  obtain ⟨vv0, w1, d0, ps0, rfl, ⟨od0, w3⟩, _, _⟩ := S0.rel.imm i
  refine ⟨.ref d0, w1, d0, rfl, .inl ⟨ps0, .inr ⟨_, st.sb _ _ w3⟩⟩, F, B, ρ, ω, _, o, st, e1, fun B' v H' j ρ' s st' r e2 => ?_⟩
  refine ⟨F, B', ρ', ω, _, o, st', e2, fun B2 v2' H2 y ρ2 s2 st2 r2 e3 => ?_⟩
  obtain ⟨own, S⟩ := id st2
  obtain ⟨vv, v1, dd, ps, rfl, ⟨od, v30⟩, rp, _⟩ := S.rel.imm i
  have v3 := st2.sb _ _ v30
  have ed : dd = d0 := by
    rw [w1] at v1
    simp at v1
    exact v1.symm
  subst ed
  obtain rfl := d.rep r
  refine ⟨_, DGet.kF v3, ?_⟩
  have rg := P_getK rp j
  refine q B2 _ H2 _ ρ2 (s.trans s2) st2 ?_ e3
  cases e5 : getK (i.get ρ2) j with
  | none =>
    rw [e5] at rg
    cases e6 : valV ps (d.key j) with
    | none => exact r2
    | some z => rw [e6] at rg; exact rg.elim
  | some y =>
    rw [e5] at rg
    obtain ⟨z, e6, rz⟩ := rg.some
    rw [e6]
    exact rz
end
/-! ### locked for an expression -/
section
variable {K : Fg} {B B1 B2 H H1 : Hp}
theorem Rel.frz {κ β : Type} {T : Ty κ} {U : Ty β} {d : Kt T} {f : Option Addr} : ∀ {n : Nat} {L L' : List Loc} (i : Ix (lOwn (oDict d U) f) n L) (p : Put (lImm (tDictF d U)) n L L') {own : List Addr} {σ : List (Option V)} {ρ : Env L}, Rel K B H L own σ ρ → own.Nodup → (∀ a ∈ own, B a = none) →
    ∃ l ps own', σ[n]? = some (some (.ref l)) ∧ H l = some (HO.dK ps) ∧ l ∈ own ∧ own'.Sublist own ∧ l ∉ own' ∧ ∀ od, Rel K (upd B l (.frz od (.dK ps))) (upd H l (.frz od (.dK ps))) L' own' σ (p.put (i.get ρ) ρ)
  | _, _, _, .z, .z, own, σ, ρ, ⟨o1, o2, s, σ', e1, e2, ⟨l, o, a1, a2, a3, ⟨ps, eo, a4, a6⟩, _⟩, k⟩, nd, nb => by
    subst e1 e2 a1 a2 eo
    have hb : B l = none := nb l (List.mem_append_left _ (List.mem_singleton.mpr rfl))
    refine ⟨l, ps, o2, rfl, a3, List.mem_append_left _ (List.mem_singleton.mpr rfl), List.sublist_append_right _ _, (List.nodup_cons.mp nd).1, fun od => ?_⟩
    have sb : Sub B (upd B l (.frz od (.dK ps))) := Sub.upd hb
    refine ⟨[], o2, _, σ', rfl, rfl, ⟨rfl, _, rfl, l, ps, rfl, ⟨od, upd_same⟩, Pmap a4 fun _ _ r => ⟨r.1, U.mono sb r.2⟩, a6⟩, k.frame sb fun a m => upd_ne fun z => ?_⟩
    subst z
    exact (List.nodup_cons.mp nd).1 m
  | _, _, _, .s i, .s p, own, σ, ρ, ⟨o1, o2, s, σ', e1, e2, h2, k⟩, nd, nb => by
    subst e1 e2
    obtain ⟨l, ps, own', q1, q2, q3, q4, q5, q6⟩ := Rel.frz i p k ((List.nodup_append.mp nd).2.1) fun a m => nb a (List.mem_append_right _ m)
    have hb : B l = none := nb l (List.mem_append_right _ q3)
    refine ⟨l, ps, o1 ++ own', q1, q2, List.mem_append_right _ q3, q4.append_left o1, fun m => ?_, fun od => ⟨o1, own', s, σ', rfl, rfl, Loc.frame _ (Sub.upd hb) (fun a m => upd_ne fun z => ?_) h2, q6 od⟩⟩
    · rcases List.mem_append.mp m with m | m
      · exact (List.nodup_append.mp nd).2.2 _ m _ q3 rfl
      · exact q5 m
    · subst z
      exact (List.nodup_append.mp nd).2.2 _ m _ q3 rfl
/-- what stays true of a slot when a locked dict leaves the base -/
def Be (l : Loc) : Prop := ∀ {K : Fg} {B1 B2 H1 : Hp} {own1 : List Addr} {s x}, ESub B1 B2 → l.holds K B1 H1 own1 s x → l.holds K B2 H1 own1 s x
theorem be_none : Be lNone := fun _ h => h
theorem be_imm {α : Type} {T : Ty α} (h : T.em = true) : Be (lImm T) := fun s ⟨h1, v, e, r⟩ => ⟨h1, v, e, T.emok h s r⟩
theorem be_own {α : Type} {O : OTy α} {f : Option Addr} (h : O.em = true) : Be (lOwn O f) := fun t ⟨l, o, e1, e2, e3, e4, e5⟩ => ⟨l, o, e1, e2, e3, O.emok h t e4, e5⟩
inductive BeAll : List Loc → Prop
  | nil : BeAll []
  | cons {l L} : Be l → BeAll L → BeAll (l :: L)
theorem Rel.be : ∀ {L : List Loc} {own1 : List Addr} {σ : List (Option V)} {ρ : Env L}, BeAll L → ESub B1 B2 → Rel K B1 H1 L own1 σ ρ → Rel K B2 H1 L own1 σ ρ
  | [], _, _, _, _, _, h => h
  | l :: L, own1, σ, ρ, .cons b bs, t, ⟨u1, u2, v', σ'', f1, f2, h', r'⟩ => ⟨u1, u2, v', σ'', f1, f2, b t h', Rel.be bs t r'⟩
theorem Rel.unfrz {κ β : Type} {T : Ty κ} {U : Ty β} {d : Kt T} {l' : Addr} {ps : List (L2.Key × V)} {od : Obj} (hU : U.em = true) (hB : B1 l' = some (.frz od (.dK ps))) (hH : H1 l' = some (.dK ps)) : ∀ {n : Nat} {L L' : List Loc} (i : Ix (lImm (tDictF d U)) n L') (p : Put (lOwn (oDict d U) none) n L' L) {own1 σ} {ρ : Env L'}, BeAll L → ESub B1 B2 →
    Rel K B1 H1 L' own1 σ ρ → σ[n]? = some (some (.ref l')) → ∃ own3, Rel K B2 H1 L own3 σ (p.put (i.get ρ) ρ) ∧ own3.Perm (l' :: own1)
  | _, _, _, .z, .z, own1, σ, ρ, .cons b bs, t, ⟨u1, u2, v', σ'', f1, f2, ⟨g1, v, g2, a, ps2, g3, ⟨od2, g4⟩, g5, g6⟩, r'⟩, hl => by
    subst f2 g2 g3
    have ff : own1 = u2 := by rw [f1, g1, List.nil_append]
    subst ff
    obtain rfl : a = l' := by simpa using hl
    rw [hB] at g4
    cases g4
    exact ⟨[a] ++ own1, ⟨[a], own1, _, σ'', rfl, rfl, ⟨a, .dK ps, rfl, rfl, hH, ⟨ps, rfl, Pmap g5 fun _ _ r => ⟨r.1, U.emok hU t r.2⟩, g6⟩, fun _ z => nomatch z⟩, Rel.be bs t r'⟩, .refl _⟩
  | _, _, _, .s i, .s p, own1, σ, ρ, .cons b bs, t, ⟨u1, u2, v', σ'', f1, f2, h', r'⟩, hl => by
    subst f1 f2
    obtain ⟨own3, r3, pm⟩ := Rel.unfrz hU hB hH i p bs t r' hl
    exact ⟨u1 ++ own3, ⟨u1, own3, v', σ'', rfl, rfl, b t h', r3⟩, (pm.append_left u1).trans List.perm_middle⟩
end
theorem Stt.frz {K : Fg} {F : Fr} {L L' : List Loc} {B : Hp} {σ : List (Option V)} {H : Hp} {κ β : Type} {T : Ty κ} {U : Ty β} {d : Kt T} {n : Nat} (i : Ix (lOwn (oDict d U) none) n L) (p : Put (lImm (tDictF d U)) n L L') {ρ : Env L} (st : Stt K F L B ρ σ H) :
    ∃ l ps, σ[n]? = some (some (.ref l)) ∧ H l = some (HO.dK ps) ∧ ∀ od, ∃ F' B', Stt K F' L' B' (p.put (i.get ρ) ρ) σ (upd H l (.frz od (.dK ps))) ∧ ∀ {Lx Ly : List Loc} {B1 H1 : Hp} {own1 : List Addr} {σ1 : L2.St} {ρ1 : Env Lx} (i2 : Ix (lImm (tDictF d U)) n Lx) (p2 : Put (lOwn (oDict d U) none) n Lx Ly), U.em = true → BeAll Ly → Sub B' B1 → StO K F' Lx own1 B1 ρ1 σ1 H1 → σ1[n]? = some (some (.ref l)) → H1 l = some (.frz od (.dK ps)) ∧ B1 l = some (.frz od (.dK ps)) ∧ ∃ B2 own3, Sub B B2 ∧ ESub B1 B2 ∧ StO K F Ly own3 B2 (p2.put (i2.get ρ1) ρ1) σ1 (upd H1 l (.dK ps)) ∧ (∀ q, B1 q = none → q ∉ own1 → (F'.H0 q = none ∨ q ∈ F'.M) → B2 q = none ∧ q ∉ own3 ∧ (F.H0 q = none ∨ q ∈ F.M)) := by
  obtain ⟨own, S⟩ := st
  obtain ⟨l, ps, own', q1, q2, q3, q4, q5, q6⟩ := Rel.frz i p S.rel S.nd fun a m => (S.own a m).1
  refine ⟨l, ps, q1, q2, fun od => ?_⟩
  have hbl := (S.own l q3).1
  have sbc : Sub B (upd B l (.frz od (.dK ps))) := Sub.upd hbl
  have fr : ∀ a, (upd H l (.frz od (.dK ps)) a = none ∨ a ∈ own') → F.H0 a = none ∨ a ∈ F.M := fun a h => by
    rcases h with h | h
    · have hl : a ≠ l := fun z => by rw [z, upd_same] at h; cases h
      rw [upd_ne hl] at h
      cases e : F.H0 a with
      | none => exact .inl rfl
      | some u =>
        by_cases m : a ∈ F.M
        · exact .inr m
        · rw [S.keep a u m e] at h
          cases h
    · exact (S.own a (q4.subset h)).2
  refine ⟨⟨upd H l (.frz od (.dK ps)), upd B l (.frz od (.dK ps)), own'⟩, upd B l (.frz od (.dK ps)), ⟨own', Sub.refl _, S.sub.upd2, fun a u _ e => e, fun a _ h1 => .inl h1, q6 od, S.nd.sublist q4, fun a m => ⟨?_, .inr m⟩⟩, fun {Lx Ly B1 H1 own1 σ1 ρ1} i2 p2 hU hb s1 S1 hσ => ?_⟩
  · rw [upd_ne fun z => q5 (by rw [← z]; exact m)]
    exact (S.own a (q4.subset m)).1
  have hB1 : B1 l = some (.frz od (.dK ps)) := s1 l _ upd_same
  have hH1 : H1 l = some (.frz od (.dK ps)) := S1.sub l _ hB1
  refine ⟨hH1, hB1, ?_⟩
  let B2 : Hp := fun a => if a = l then none else B1 a
  have b2n : ∀ {a}, a ≠ l → B2 a = B1 a := fun h => if_neg h
  have b2l : B2 l = none := if_pos rfl
  have sB : Sub B B2 := fun a u e => by
    have : a ≠ l := ne_of_none e hbl
    rw [b2n this]
    exact s1 a u (sbc a u e)
  have tB : ESub B1 B2 := fun a u e n => by
    by_cases z : a = l
    · subst z
      rw [hB1] at e
      cases e
      cases n
    · rw [b2n z]; exact e
  have s2 : Sub B2 (upd H1 l (.dK ps)) := fun a u e => by
    by_cases z : a = l
    · subst z; rw [b2l] at e; cases e
    · rw [b2n z] at e; rw [upd_ne z]; exact S1.sub a u e
  have nl : ∀ a ∈ own1, a ≠ l := fun a m z => by
    have := (S1.own a m).1
    rw [z, hB1] at this
    cases this
  have r1 : Rel K B1 (upd H1 l (.dK ps)) Lx own1 σ1 ρ1 := S1.rel.frame (Sub.refl _) fun a m => upd_ne (nl a m)
  obtain ⟨own3, r3, pm⟩ := Rel.unfrz (B2 := B2) hU hB1 upd_same i2 p2 hb tB r1 hσ
  refine ⟨B2, own3, sB, tB, ⟨S.base.trans sB, s2, fun a u m e => ?_, fun a h0 h1 => ?_, r3, ?_, fun a m => ?_⟩, fun q h1 h2 h3 => ⟨?_, ?_, fr q h3⟩⟩
  · have h := S.keep a u m e
    by_cases z : a = l
    · subst z
      rw [upd_same]
      rw [q2] at h
      exact h
    · rw [upd_ne z]
      refine S1.keep a u (fun y => ?_) (by show upd H l _ a = _; rw [upd_ne z]; exact h)
      rcases (S.own a (q4.subset y)).2 with y | y
      · rw [y] at e; cases e
      · exact m y
  · by_cases z : a = l
    · subst z; exact absurd b2l h1
    · rw [b2n z] at h1
      by_cases m : a ∈ F.M
      · exact .inr m
      · obtain ⟨u, e⟩ : ∃ u, F.H0 a = some u := by
          cases e : F.H0 a with
          | none => exact absurd e h0
          | some u => exact ⟨u, rfl⟩
        have hH : upd H l (.frz od (.dK ps)) a ≠ none := by rw [upd_ne z, S.keep a u m e]; exact fun y => nomatch y
        rcases S1.old a hH h1 with y | y
        · exact S.old a h0 (by have y : upd B l (.frz od (.dK ps)) a ≠ none := y; rw [upd_ne z] at y; exact y)
        · exact (S.own a (q4.subset y)).2.elim (fun y => absurd y h0) .inr
  · exact pm.nodup_iff.mpr (List.nodup_cons.mpr ⟨fun m => nl l m rfl, S1.nd⟩)
  · rcases List.mem_cons.mp (pm.mem_iff.mp m) with rfl | m
    · exact ⟨b2l, (S.own _ q3).2⟩
    · exact ⟨by rw [b2n (nl a m)]; exact (S1.own a m).1, fr a (S1.own a m).2⟩
  · by_cases z : q = l
    · subst z; exact b2l
    · rw [b2n z]; exact h1
  · intro m
    rcases List.mem_cons.mp (pm.mem_iff.mp m) with rfl | m
    · rw [hB1] at h1; cases h1
    · exact h2 m
section
variable {X : Cx} {K : Fg} {L L' : List Loc} {e : Expr}
theorem y_frz {α κ β : Type} {T : Ty α} {Tk : Ty κ} {U : Ty β} {d : Kt Tk} {n : Nat} {m : Mo L' α} (i : Ix (lOwn (oDict d U) none) n L) (p : Put (lImm (tDictF d U)) n L L') (i2 : Ix (lImm (tDictF d U)) n L') (p2 : Put (lOwn (oDict d U) none) n L' L) (ht : T.em = true) (hU : U.em = true) (hb : BeAll L) (h : PE X e (tE K L' T m)) :
    PE X e (tE K L T fun ω ρ k => m ω (p.put (i.get ρ) ρ) fun x ρ' => k x (p2.put (i2.get ρ') ρ')) := by
  refine pe_weak (pe_lock h) fun σ H Q ⟨F, B, ρ, ω, k, o, st, e1, q⟩ => ?_
  obtain ⟨l, ps, hσ, hu, fz⟩ := Stt.frz i p st
  refine ⟨l, .dK ps, hu, trivial, fun od => ?_⟩
  obtain ⟨F', B', st', back⟩ := fz od
  refine ⟨F', B', p.put (i.get ρ) ρ, ω, _, o, st', e1, fun B1 v H1 x1 ρ1 s1 ⟨own1, S1⟩ r e4 => ?_⟩
  obtain ⟨hl, _, B2, own3, sB, tB, S2, _⟩ := back i2 p2 hU hb s1 S1 hσ
  exact ⟨hl, q B2 v _ x1 _ sB ⟨own3, S2⟩ (T.emok ht tB r) e4⟩
theorem y_frzO {α κ β : Type} {Tk : Ty κ} {U : Ty β} {d : Kt Tk} {O2 : OTy α} {n : Nat} {m : Mo L' α} (i : Ix (lOwn (oDict d U) none) n L) (p : Put (lImm (tDictF d U)) n L L') (i2 : Ix (lImm (tDictF d U)) n L') (p2 : Put (lOwn (oDict d U) none) n L' L) (ht : O2.em = true) (hU : U.em = true) (hb : BeAll L) (h : PE X e (tO K L' O2 m)) :
    PE X e (tO K L O2 fun ω ρ k => m ω (p.put (i.get ρ) ρ) fun x ρ' => k x (p2.put (i2.get ρ') ρ')) := by
  refine pe_weak (pe_lock h) fun σ H Q ⟨F, B, ρ, ω, k, o, st, e1, q⟩ => ?_
  obtain ⟨l, ps, hσ, hu, fz⟩ := Stt.frz i p st
  refine ⟨l, .dK ps, hu, trivial, fun od => ?_⟩
  obtain ⟨F', B', st', back⟩ := fz od
  refine ⟨F', B', p.put (i.get ρ) ρ, ω, _, o, st', e1, fun B1 a v H1 own1 x1 ρ1 s1 S1 h1 h2 h3 h4 h5 e4 => ?_⟩
  obtain ⟨hl, hbl, B2, own3, sB, tB, S2, nw⟩ := back i2 p2 hU hb s1 S1 hσ
  obtain ⟨n1, n2, n3⟩ := nw a h3 h4 h5
  have al : a ≠ l := fun z => by rw [z, hbl] at h3; cases h3
  exact ⟨hl, q B2 a v _ own3 x1 _ sB S2 (by rw [upd_ne al]; exact h1) (O2.emok ht tB h2) n1 n2 n3 e4⟩
end
/-! ### for k in d -/
section
variable {X : Cx} {K : Fg} {L : List Loc} {e tg : Expr} {κ α : Type} {T : Ty κ} {U : Ty α}
theorem itk_ok {d : Kt T} (hb : ∀ {K B x}, T.rep K B (kV (d.key x)) x) {ad : Addr} {od : Obj} {ps : List (L2.Key × V)} {xs : List (κ × α)} {B : Hp} (hB : B ad = some (.frz od (.dK ps))) (r : KVr K B d U ps xs) : ItOk K (Itk ad od ps) B T (xs.map Prod.fst) := fun i B1 H s1 s2 => by
  have hH : H ad = some (.frz od (.dK ps)) := (s1.trans s2) _ _ hB
  have hl := Paired.length r
  refine ⟨fun h => ⟨hH, by rw [List.length_map] at h; omega⟩, fun x hx => ?_⟩
  rw [List.getElem?_map] at hx
  cases hx2 : xs[i]? with
  | none => rw [hx2] at hx; cases hx
  | some q =>
    rw [hx2] at hx
    cases hx
    obtain ⟨p, e1, rv⟩ := P_get r hx2
    refine ⟨⟨hH, (List.getElem?_eq_some_iff.mp e1).1⟩, fun u H' hy => ?_⟩
    obtain ⟨rfl, k, v, e2, rfl⟩ := hy
    rw [e1] at e2
    cases e2
    refine ⟨B1, Grow.refl s2, ?_⟩
    rw [show k = d.key q.1 from rv.1]
    exact hb
theorem i_keys (d : Kt T) (hb : ∀ {K B x}, T.rep K B (kV (d.key x)) x) {m : Mo L (List (κ × α))} (h : PE X e (tE X.K L (tDictF d U) m)) : PI X tg e (tIt X.K L T fun ω ρ k => m ω ρ fun xs ρ' => k (xs.map Prod.fst) ρ') := by
  refine pi_weak (pi_keys h) fun σ H R ⟨F, B, ρ, ω, k, o, st, e1, q⟩ => ?_
  refine ⟨F, B, ρ, ω, _, o, st, e1, fun B' v H' xs ρ' s st' r e2 => ?_⟩
  obtain ⟨ad, ps, rfl, ⟨od, hl⟩, r, _⟩ := r
  exact ⟨ad, od, rfl, .inl ⟨ps, st'.sb _ _ hl, q B' _ H' _ ρ' s st' (itk_ok hb hl r) e2⟩⟩
end
/-! ### dict(pairs) -/
section
variable {K : Fg} {κ α : Type} {T : Ty κ} {U : Ty α} [DecidableEq κ]
/-- later pairs win -/
def dictOf (ps : List (κ × α)) : List (κ × α) := ps.foldl (fun d p => setK d p.1 p.2) []
theorem P_merge {B : Hp} {d : Kt T} : ∀ {ks : List (L2.Key × V)} {qs : List (κ × α)} {kvs : List (L2.Key × V)} {xs : List (κ × α)}, KVr K B d U ks qs → KVr K B d U kvs xs → KVr K B d U (mergeK kvs ks) (qs.foldl (fun d p => setK d p.1 p.2) xs)
  | [], _, kvs, xs, .nil, r => r
  | k :: ks, q :: qs, kvs, xs, .cons h t, r => by
    show KVr K B d U (mergeK (putK kvs k.1 k.2) ks) (qs.foldl _ (setK xs q.1 q.2))
    rw [h.1]
    exact P_merge t (P_setK r q.1 h.2)
theorem pairs_at {B H : Hp} {d : Kt T} (s : Sub B H) : ∀ {vs : List V} {xs : List (κ × α)}, Paired ((tPair T U).rep K B) vs xs → ∃ (ps : List Addr) (kvs : List (L2.Key × V)), vs = ps.map V.ref ∧ Paired (fun p kv => SqT K H p [kV kv.1, kv.2]) ps kvs ∧ KVr K B d U kvs xs
  | _, _, .nil => ⟨[], [], rfl, .nil, .nil⟩
  | _, _, .cons h t => by
    obtain ⟨ps, kvs, e, h1, h2⟩ := pairs_at (d := d) s t
    obtain ⟨a, us, rfl, sq, v, r, rfl, hv, w, rfl, hw⟩ := h
    obtain rfl := d.rep hv
    exact ⟨a :: ps, (d.key _, w) :: kvs, by rw [e]; rfl, .cons (s.seqT sq) h1, .cons ⟨rfl, hw⟩ h2⟩
theorem dictOf_len : ∀ (ps xs : List (κ × α)), (ps.foldl (fun d p => setK d p.1 p.2) xs).length ≤ xs.length + ps.length
  | [], xs => Nat.le_refl _
  | p :: ps, xs => by
    have h1 := dictOf_len ps (setK xs p.1 p.2)
    have h2 := setK_len xs p.1 p.2
    rw [List.foldl_cons, List.length_cons]
    omega
abbrev rDictP (K : Fg) : List V → Hp → VK → Prop := fun xs H Q => ∃ (a : Addr) (ps : List Addr) (kvs : List (L2.Key × V)), xs = [.ref a] ∧ SqL K H a (ps.map V.ref) ∧ Paired (fun p kv => SqT K H p [kV kv.1, kv.2]) ps kvs ∧ ∀ p, H p = none → Q (.ref p) (upd H p (.dK (mergeK [] kvs)))
theorem c_dict (d : Kt T) : OpNO K (rDictP K) (rOne (tLst (tPair T U))) (oDict d U) fun x => some (dictOf x) := fun {B H y z vs Q} s h e q => by
  obtain ⟨v, rfl, a, vs, rfl, hb, r, hl⟩ := h
  cases e
  obtain ⟨ps, kvs, rfl, h1, h2⟩ := pairs_at (d := d) s r
  refine ⟨a, ps, kvs, rfl, .inl (.inl (s _ _ hb)), h1, fun p hp => q p _ hp ⟨_, rfl, P_merge h2 .nil, ?_⟩⟩
  have := dictOf_len y []
  unfold dictOf
  simp only [List.length_nil, Nat.zero_add] at this
  omega
end
/-! ### dict comprehensions -/
def dcompM {β A κ γ : Type} [DecidableEq κ] (f : β → A → Option (Option (κ × γ) × A)) : List β → A → List (κ × γ) → Option (List (κ × γ) × A)
  | [], s, d => some (d, s)
  | x :: xs, s, d => (f x s).bind fun p => dcompM f xs p.2 (match p.1 with | some y => setK d y.1 y.2 | none => d)
section
variable {X : Cx} {L Lw Lb : List Loc} {pos p : Pos}
abbrev turnD {κ γ : Type} (mc : Mo Lb Bool) (mk : Mo Lb κ) (me : Mo Lb γ) (fw : Env Lb → Env Lw) (b : Env Lb) : Option (Option (κ × γ) × Env Lw) := mc _ b fun t b1 => if t = true then mk _ b1 fun k b2 => me _ b2 fun y b3 => some (some (k, y), fw b3) else some (none, fw b1)
abbrev dcompO {β κ γ : Type} [DecidableEq κ] (mi : Mo L (List β)) (bd : β → Env Lw → Env Lb) (mc : Mo Lb Bool) (mk : Mo Lb κ) (me : Mo Lb γ) (we : Env L → Env Lw) (wb : Env Lb → Env Lw) (bk : Env L → Env Lw → Env L) : Mo L (List (κ × γ)) :=
  fun ω ρ k => mi ω ρ fun xs ρ' => if xs.length ≤ 16777216 then (dcompM (fun x s => turnD mc mk me wb (bd x s)) xs (we ρ') []).bind fun z => k z.1 (bk ρ' z.2) else none
theorem y_dcompR {X : Cx} {L Lw Lb : List Loc} {vs ws : List Nat} {own : List (Str × Nat)} {β κ γ : Type} [DecidableEq κ] {T : Ty β} {Tk : Ty κ} {U : Ty γ} (d : Kt Tk) {mi : Mo L (List β)} {bd : β → Env Lw → Env Lb} {mc : Mo Lb Bool} {mk : Mo Lb κ} {me : Mo Lb γ}
    (w : Wp vs 0 L Lw) (wb : Wp vs 0 Lb Lw) (hv : own.map (·.2) = vs) (hsub : ∀ i ∈ ws, i ∈ vs) {σ : L2.St} {H : Hp} {Q : VK} (h : tO X.K L (oDict d U) (dcompO mi bd mc mk me w.env wb.env w.back) σ H Q) :
    tDc (tIt X.K L T mi) (tGt X.K Lw Lb ws T bd) (tC X.K Lb mc) (tE X.K Lb Tk mk) (tE X.K Lb U me) (own.map (·.2)) σ H Q := by
  obtain ⟨F, B, ρ, ω, kk, oo, st, e1, q⟩ := h
  rw [hv]
  refine ⟨F, B, ρ, ω, _, oo, st, e1, fun B1 J H1 xs ρ1 s1 st1 it e3 => fun D hD => ?_⟩
  by_cases hxs : xs.length ≤ 16777216
  case neg =>
    rw [if_neg hxs] at e3
    cases e3
  rw [if_pos hxs] at e3
  obtain ⟨⟨ys, τ⟩, e4, e5⟩ := bind_some e3
  obtain ⟨own1, S1⟩ := id st1
  obtain ⟨hbD, hoD, hfD⟩ := S1.fresh hD
  have hlen := S1.rel.len
  refine ⟨fun i m H => m = xs.length - i ∧ i ≤ xs.length ∧ ∃ Bi τi owni vsd done, Sub B1 Bi ∧ StO X.K F Lw owni Bi τi (wipe σ vs) H ∧ H D = some (.dK vsd) ∧ Bi D = none ∧ D ∉ owni ∧ KVr X.K Bi d U vsd done ∧
      dcompM (fun x s => turnD mc mk me wb.env (bd x s)) (xs.drop i) τi done = some (ys, τ) ∧ done.length ≤ i, ⟨xs.length, by simp, Nat.zero_le _, B1, w.env ρ1, own1, [], [], Sub.refl _, ?_, upd_same, hbD, hoD, .nil, by rw [List.drop_zero]; exact e4, Nat.le_refl _⟩, ?_⟩
  · have S2 := S1.newH (o := HO.dK []) hD
    exact ⟨S2.base, S2.sub, S2.keep, S2.old, S2.rel.wipe w (wipe_length _ _) fun i hi => wipe_out (by simpa using hi), S2.nd, S2.own⟩
  rintro i m H2 ⟨rfl, hle, Bi, τi, owni, vsd, done, si, Si, hDi, hbi, hoi, pr, ei, dl⟩
  obtain ⟨hstop, hgo⟩ := it i Bi H2 si Si.sub
  by_cases hlt : i < xs.length
  · have hx : xs[i]? = some xs[i] := List.getElem?_eq_getElem hlt
    obtain ⟨go, yl⟩ := hgo _ hx
    rw [List.drop_eq_getElem_cons hlt] at ei
    obtain ⟨⟨o1, τ1⟩, f1, f2⟩ := bind_some ei
    refine .inr ⟨go, fun H => ∃ Bi τi owni vsd done, Sub B1 Bi ∧ StO X.K F Lw owni Bi τi (wipe σ vs) H ∧ H D = some (.dK vsd) ∧ Bi D = none ∧ D ∉ owni ∧ KVr X.K Bi d U vsd done ∧
      dcompM (fun x s => turnD mc mk me wb.env (bd x s)) (xs.drop (i + 1)) τi done = some (ys, τ) ∧ done.length ≤ i + 1, fun H' p => ⟨xs.length - (i + 1), by omega, rfl, hlt, p⟩, fun v H' yy => ?_⟩
    obtain ⟨B3, g, r⟩ := yl v H' yy
    have Sg := Si.grow g
    have hDg : H' D = some (.dK vsd) := g.h D _ hDi
    have hbg : B3 D = none := by
      cases z : B3 D with
      | none => rfl
      | some u =>
        rcases g.old D (by rw [z]; exact fun y => nomatch y) with y | y
        · exact absurd hbi y
        · rw [hDi] at y; cases y
    refine ⟨frAt H' B3 owni, B3, τi, xs[i], ⟨owni, Sg.inner⟩, r, fun σ2 ho st2 => ⟨?_, ?_⟩⟩
    · refine wipe_same (ho.1.trans (wipe_length _ _)) fun j hj => ho.2 j fun z => hj (hsub j z)
    have hws : wipe σ2 vs = wipe σ vs := wipe_same (ho.1.trans (wipe_length _ _)) fun j hj => ho.2 j fun z => hj (hsub j z)
    have fin : ∀ {B5 : Hp} {b5 : Env Lb} {H5 : Hp}, Sub B3 B5 → Stt X.K (frAt H' B3 owni) Lb B5 b5 σ2 H5 → ∃ own5, StO X.K F Lw own5 B5 (wb.env b5) (wipe σ vs) H5 ∧ H5 D = some (.dK vsd) ∧ B5 D = none ∧ D ∉ own5 := by
      intro B5 b5 H5 s5 ⟨own5, S5⟩
      have So := Sg.outer S5
      refine ⟨own5, ⟨So.base, So.sub, So.keep, So.old, ?_, So.nd, So.own⟩, S5.keep D _ hoi hDg, ?_, fun m5 => ?_⟩
      · have := So.rel.wipe wb (wipe_length σ2 vs) fun j hj => wipe_out (by simpa using hj)
        rwa [hws] at this
      · cases z : B5 D with
        | none => rfl
        | some u =>
          rcases S5.old D (by show H' D ≠ none; rw [hDg]; exact fun y => nomatch y) (by rw [z]; exact fun y => nomatch y) with y | y
          · exact absurd hbg y
          · exact absurd y hoi
      · rcases (S5.own D m5).2 with y | y
        · rw [show (frAt H' B3 owni).H0 D = H' D from rfl, hDg] at y; cases y
        · exact absurd y hoi
    refine ⟨frAt H' B3 owni, B3, _, _, _, _, st2, f1, fun B4 H4 k b1 s4 st4 f6 => ?_⟩
    cases k with
    | false =>
      cases f6
      obtain ⟨own5, S5, h1, h2, h3⟩ := fin s4 st4
      refine ⟨B4, _, own5, vsd, done, (si.trans g.b).trans s4, S5, h1, h2, h3, Pmap pr fun _ _ z => ⟨z.1, U.mono (g.b.trans s4) z.2⟩, f2, by omega⟩
    | true =>
      refine ⟨frAt H' B3 owni, B4, b1, _, _, _, st4, f6, fun B5 v5 H5 u b2 s5 st5 r5 f7 => ?_⟩
      refine ⟨frAt H' B3 owni, B5, b2, _, _, _, st5, f7, fun B6 v6 H6 u6 b3 s6 st6 r6 f8 => ?_⟩
      cases f8
      obtain ⟨own5, S5, h1, h2, h3⟩ := fin ((s4.trans s5).trans s6) st6
      have lp := Paired.length pr
      obtain rfl := d.rep r5
      refine ⟨vsd, d.key u, rfl, h1, by rw [lp, sizeLine_eq]; omega, B6, _, own5, putK vsd (d.key u) v6, setK done u u6, (((si.trans g.b).trans s4).trans s5).trans s6, ?_, upd_same, h2, h3, P_setK (Pmap pr fun _ _ z => ⟨z.1, U.mono (((g.b.trans s4).trans s5).trans s6) z.2⟩) u r6, f2, ?_⟩
      · refine ⟨S5.base, fun a o z => ?_, fun a o m z => ?_, S5.old, S5.rel.frame (Sub.refl _) fun a m => upd_ne fun z => h3 (by rw [← z]; exact m), S5.nd, S5.own⟩
        · rw [upd_ne (ne_of_none z h2)]; exact S5.sub a o z
        · refine (upd_ne fun y => ?_).trans (S5.keep a o m z)
          subst y
          rcases hfD with y | y
          · rw [z] at y; cases y
          · exact m y
      · have := setK_len done u u6
        omega
  · refine .inl ⟨hstop (by omega), ?_⟩
    rw [List.drop_eq_nil_of_le (by omega)] at ei
    cases ei
    refine q Bi D _ H2 owni _ _ (s1.trans si) ⟨Si.base, Si.sub, Si.keep, Si.old, ?_, Si.nd, Si.own⟩ hDi ⟨vsd, rfl, pr, by
      rw [sizeLine_eq]; omega⟩ hbi hoi hfD e5
    exact Rel.unwipe si w S1.rel Si.rel (wipe_length _ _) fun j hj => wipe_out (by simpa using hj)
theorem y_dcomp {vs ws : List Nat} {kx vx tg iter : Expr} {ifs : List Expr} {scope : Scope} {own : List (Str × Nat)} {β κ γ : Type} [DecidableEq κ] {T : Ty β} {Tk : Ty κ} {U : Ty γ} (d : Kt Tk) {mi : Mo L (List β)} {bd : β → Env Lw → Env Lb} {mc : Mo Lb Bool} {mk : Mo Lb κ} {me : Mo Lb γ} {mm : Mo L (List (κ × γ))}
    (w : Wp vs 0 L Lw) (wb : Wp vs 0 Lb Lw) (hv : own.map (·.2) = vs) (hsub : ∀ i ∈ ws, i ∈ vs)
    (hc : X.calm = true) (hN : X.N.Nodup) (hi : PI X tg iter (tIt X.K L T mi)) (ok : BlkOk X.N X.env.scope scope own)
    (hg : ∀ (s : Shared) (H : Hp) (C : Addr) (cl : List (Str × Addr)) (fp : List Addr), PG (X.blk s H scope (compEnvC scope cl C X.env) fp) tg (tGt X.K Lw Lb ws T bd))
    (ht : ∀ (s : Shared) (H : Hp) (C : Addr) (cl : List (Str × Addr)) (fp : List Addr), PTs (X.blk s H scope (compEnvC scope cl C X.env) fp) ifs (tC X.K Lb mc))
    (hk : ∀ (s : Shared) (H : Hp) (C : Addr) (cl : List (Str × Addr)) (fp : List Addr), PE (X.blk s H scope (compEnvC scope cl C X.env) fp) kx (tE X.K Lb Tk mk))
    (he : ∀ (s : Shared) (H : Hp) (C : Addr) (cl : List (Str × Addr)) (fp : List Addr), PE (X.blk s H scope (compEnvC scope cl C X.env) fp) vx (tE X.K Lb U me))
    (hm : mm = dcompO mi bd mc mk me w.env wb.env w.back := by rfl) (hs : ∀ x, foldedSetIterable iter X.env x = pure x := by intro _; rfl) :
    PE X (.DictComp kx vx [⟨tg, iter, ifs, 0⟩] scope pos) (tO X.K L (oDict d U) mm) := by
  rw [hm]
  exact pe_weak (pe_dc (own := own) hc hN hi ok hg ht hk he hs) fun σ H Q h => y_dcompR d w wb hv hsub h
/-- name = {..} on one line, the name a local -/
theorem ps_setDc {i : Nat} {y : Str} {py : Pos} {kx vx tg iter : Expr} {ifs : List Expr} {scope : Scope} {own : List (Str × Nat)} {pos spos : Pos} {wi : TI} {g : TG} {tt : TT} {tk tv : TE} (hc : X.calm = true) (hN : X.N.Nodup) (hy : X.N[i]? = some y) (hyl : X.env.scope.names.lookup y = some .local)
    (hsw : swapsWith (.DictComp kx vx [⟨tg, iter, ifs, 0⟩] scope pos) (some (.Name y py)) spos.line X.env = pure true) (hi : PI X tg iter wi) (ok : BlkOk X.N X.env.scope scope own)
    (hg : ∀ (s : Shared) (H : Hp) (C : Addr) (cl : List (Str × Addr)) (fp : List Addr), PG (X.blk s H scope (compEnvC scope cl C X.env) fp) tg g) (ht : ∀ (s : Shared) (H : Hp) (C : Addr) (cl : List (Str × Addr)) (fp : List Addr), PTs (X.blk s H scope (compEnvC scope cl C X.env) fp) ifs tt)
    (hk : ∀ (s : Shared) (H : Hp) (C : Addr) (cl : List (Str × Addr)) (fp : List Addr), PE (X.blk s H scope (compEnvC scope cl C X.env) fp) kx tk)
    (he : ∀ (s : Shared) (H : Hp) (C : Addr) (cl : List (Str × Addr)) (fp : List Addr), PE (X.blk s H scope (compEnvC scope cl C X.env) fp) vx tv) (hs : ∀ x, foldedSetIterable iter X.env x = pure x := by intro _; rfl) :
    PS X (.Assign [.Name y py] (.DictComp kx vx [⟨tg, iter, ifs, 0⟩] scope pos) spos) (tAsg (tDc wi g tt tk tv (own.map (·.2))) (gName i)) := by
  refine ⟨fun pins s σ H D I h => ?_⟩
  rw [exec_Assign_Name_used _ _ _ _ hsw]
  refine wpAny_bind (wpAny_standAt (wpAny_bind ?_))
  show wpAny _ X.A (do let _ ← comprehension (.DictComp kx vx [⟨tg, iter, ifs, 0⟩] scope pos) scope X.env (firstIterPos [⟨tg, iter, ifs, 0⟩] pos) newDict false (eval iter X.env) (some (assign (.Name y py) X.env))) _ _ s
  have h : tDc wi g tt tk tv (own.map (·.2)) σ H (fun x H1 => gName i x σ H1 D.nx) := h
  refine wpAny_bind (thn (dc_core (Qf := fun _ s' => SP X pins D .next s') hc hN I hi ok hg ht hk he hs h fun L C s' m H' I' q hn f => ?_) fun _ s' hq => wpAny_pure (wpAny_pure hq))
  show wpAny _ _ (assign (.Name y py) X.env (.ref L)) _ _ _
  refine wpAny_assign_Name (store_ok2 (v := V.ref L) I' hN hy (.inl hyl) rfl (fun s2 I2 ⟨a, sb, ha⟩ => ?_) (.inr hyl))
  obtain ⟨f0, f1, f2, f3, f4, f5⟩ := f
  have haC : C ≠ a := by
    rcases ha with z | z
    · rw [z]; exact f1
    · exact fun e => f4 y a z e.symm
  refine ⟨m, hn.sameBut sb haC, fun h3 sb3 => ?_⟩
  exact ⟨_, H', I2.turned (t' := s2.toks) (fun b o hb e => (sb3.2 b hb).trans e) f0 f1 f3 f4 f5, q⟩
theorem sw_trueD {kx vx : Expr} {gs : List Comprehension} {scope : Scope} {pos py : Pos} {y : Str} {l : Nat} {env : PySem.Env} (hk : env.scope.kind = .function) (hy : env.scope.names.lookup y = some .local) (hl : (py.line == pos.line) = true)
    (ha : (scope.names.any fun (n, k) => n == y && (k == .local || k == .cell)) = false) : swapsWith (.DictComp kx vx gs scope pos) (some (.Name y py)) l env = pure true := by
  have ky : env.kindOf y = some .local := hy
  have hb : env.blockKind = .function := by unfold Env.blockKind; rw [hk]; rfl
  unfold swapsWith
  simp only [hb, ky, ha, Expr.pos, hl]
  rfl
theorem y_dcompS {L' Lh : List Loc} {S : RS} {i : Nat} {y : Str} {py : Pos} {spos : Pos} {vs ws : List Nat} {kx vx tg iter : Expr} {ifs : List Expr} {scope : Scope} {own : List (Str × Nat)} {β κ γ : Type} [DecidableEq κ] {T : Ty β} {Tk : Ty κ} {U : Ty γ} (d : Kt Tk) {mi : Mo L (List β)} {bd : β → Env Lw → Env Lb} {mc : Mo Lb Bool} {mk : Mo Lb κ} {me : Mo Lb γ} {mm : Mo L (List (κ × γ))}
    (pp : Put (lOwn (oDict d U) none) i L L') (hy : X.N[i]? = some y) (hyl : X.env.scope.names.lookup y = some .local) (hsw : swapsWith (.DictComp kx vx [⟨tg, iter, ifs, 0⟩] scope pos) (some (.Name y py)) spos.line X.env = pure true)
    (w : Wp vs 0 L Lw) (wb : Wp vs 0 Lb Lw) (hv : own.map (·.2) = vs) (hsub : ∀ i ∈ ws, i ∈ vs)
    (hc : X.calm = true) (hN : X.N.Nodup) (hi : PI X tg iter (tIt X.K L T mi)) (ok : BlkOk X.N X.env.scope scope own)
    (hg : ∀ (s : Shared) (H : Hp) (C : Addr) (cl : List (Str × Addr)) (fp : List Addr), PG (X.blk s H scope (compEnvC scope cl C X.env) fp) tg (tGt X.K Lw Lb ws T bd))
    (ht : ∀ (s : Shared) (H : Hp) (C : Addr) (cl : List (Str × Addr)) (fp : List Addr), PTs (X.blk s H scope (compEnvC scope cl C X.env) fp) ifs (tC X.K Lb mc))
    (hk : ∀ (s : Shared) (H : Hp) (C : Addr) (cl : List (Str × Addr)) (fp : List Addr), PE (X.blk s H scope (compEnvC scope cl C X.env) fp) kx (tE X.K Lb Tk mk))
    (he : ∀ (s : Shared) (H : Hp) (C : Addr) (cl : List (Str × Addr)) (fp : List Addr), PE (X.blk s H scope (compEnvC scope cl C X.env) fp) vx (tE X.K Lb U me))
    (hm : mm = dcompO mi bd mc mk me w.env wb.env w.back := by rfl) (hs : ∀ x, foldedSetIterable iter X.env x = pure x := by intro _; rfl) :
    PS X (.Assign [.Name y py] (.DictComp kx vx [⟨tg, iter, ifs, 0⟩] scope pos) spos) (tS X.K L L' Lh S fun ω ρ k => mm ω ρ fun x ρ' => k (.nx (pp.put x ρ'))) := by
  rw [hm]
  refine ps_weak (ps_setDc (own := own) (i := i) hc hN hy hyl hsw hi ok hg ht hk he hs) fun D σ H ⟨F, B, ρ, ω, k, o, st, e1, q⟩ => ?_
  refine y_dcompR d w wb hv hsub ⟨F, B, ρ, ω, _, o, st, e1, fun B' p u H' own x ρ' s st' h1 h2 h3 h4 h5 e2 => ?_⟩
  exact q _ e2 B' _ H' s (st'.putO pp h1 h2 h3 h4 h5)
end
end L3

/-! L3: a module's constants; dicts locked for good; `xs += ys` of an own list. -/
namespace L3
open PySem PySem.Spec PyProof.Rows L2
section
variable {X : Cx} {K : Fg} {L L' Lh La : List Loc} {S : RS} {e : Expr} {rest : List Stmt} {pos : Pos} {x : Str}
/-- a module's constant -/
theorem y_globI {c : Int} (hg : Gl X x) (hm : ∃ t, X.mg x = some (.int c t)) (hd : (x == ("__debug__" : Str)) = false := by decide) : PE X (.Name x pos) (tE K L tInt fun _ ρ k => k c ρ) := by
  obtain ⟨t, hm⟩ := hm
  refine pe_weak (pe_glob (v := V.int c) hg hm ⟨t, rfl⟩ hd) fun σ H Q ⟨F, B, ρ, ω, k, o, st, e1, q⟩ => ?_
  exact q B _ H c ρ (Sub.refl B) st rfl e1
theorem y_globS {c : Str} (hg : Gl X x) (hm : ∃ t, X.mg x = some (.str c t)) (hd : (x == ("__debug__" : Str)) = false := by decide) : PE X (.Name x pos) (tE K L tStr fun _ ρ k => k c ρ) := by
  obtain ⟨t, hm⟩ := hm
  refine pe_weak (pe_glob (v := V.str c) hg hm ⟨t, rfl⟩ hd) fun σ H Q ⟨F, B, ρ, ω, k, o, st, e1, q⟩ => ?_
  exact q B _ H c ρ (Sub.refl B) st rfl e1
/-- a new dict, locked for good -/
theorem y_fzF {κ α : Type} {T : Ty κ} {U : Ty α} {d : Kt T} {m : Mo L (List (κ × α))} (h : PE X e (tO K L (oDict d U) m)) : PE X e (tE K L (tDictF d U) m) := by
  refine ⟨fun pins s σ H Q I hq => ?_⟩
  obtain ⟨F, B, ρ, ω, k, o, st, e1, q⟩ := hq
  refine thn (h.run pins s σ H (fun v H' => ∃ l ps, v = .ref l ∧ H' l = some (HO.dK ps) ∧ ∀ od, Q v (upd H' l (.frz od (.dK ps)))) I ⟨F, B, ρ, ω, k, o, st, e1, fun B' p u H' own x ρ' sb S h1 h2 h3 h4 h5 e2 => ?_⟩) fun v s1 ⟨y, H1, I1, r, l, ps, ey, hl, qq⟩ => ?_
  · obtain ⟨ps, rfl, kv, hz⟩ := h2
    refine ⟨p, ps, rfl, h1, fun od => q (upd B' p (.frz od (.dK ps))) _ _ x ρ' (sb.trans (Sub.upd h3)) ⟨own, S.base.trans (Sub.upd h3), S.sub.upd2, fun a o m z => ?_, fun a z0 z1 => ?_, S.rel.frame (Sub.upd h3) fun a m => upd_ne fun z => h4 (by rw [← z]; exact m), S.nd, fun a m => ⟨?_, (S.own a m).2⟩⟩ ⟨p, ps, rfl, ⟨od, upd_same⟩, Pmap kv fun _ _ r => ⟨r.1, U.mono (Sub.upd h3) r.2⟩, hz⟩ e2⟩
    · have ne : a ≠ p := fun y => by
        subst y
        rcases h5 with w | w
        · rw [z] at w; cases w
        · exact m w
      rw [upd_ne ne]
      exact S.keep a o m z
    · by_cases y : a = p
      · subst y
        rcases h5 with w | w
        · exact absurd w z0
        · exact .inr w
      · rw [upd_ne y] at z1
        exact S.old a z0 z1
    · rw [upd_ne fun z => h4 (by rw [← z]; exact m)]
      exact (S.own a m).1
  · obtain ⟨od, I2⟩ := I1.lock hl trivial
    exact ⟨y, _, I2, r, by subst ey; exact qq od⟩
theorem Stt.frzP {F : Fr} {B : Hp} {σ : List (Option V)} {H : Hp} {κ β : Type} {T : Ty κ} {U : Ty β} {d : Kt T} {f : Option Addr} {n : Nat} (i : Ix (lOwn (oDict d U) f) n L) (p : Put (lImm (tDictF d U)) n L L') {ρ : Env L} (st : Stt K F L B ρ σ H) :
    ∃ l ps, H l = some (HO.dK ps) ∧ ∀ od, ∃ B', Sub B B' ∧ Stt K F L' B' (p.put (i.get ρ) ρ) σ (upd H l (.frz od (.dK ps))) := by
  obtain ⟨own, S⟩ := st
  obtain ⟨l, ps, own', q1, q2, q3, q4, q5, q6⟩ := Rel.frz i p S.rel S.nd fun a m => (S.own a m).1
  refine ⟨l, ps, q2, fun od => ?_⟩
  have hbl := (S.own l q3).1
  refine ⟨upd B l (.frz od (.dK ps)), Sub.upd hbl, own', S.base.trans (Sub.upd hbl), S.sub.upd2, fun a u m z => ?_, fun a z0 z1 => ?_, q6 od, S.nd.sublist q4, fun a m => ⟨?_, (S.own a (q4.subset m)).2⟩⟩
  · have ne : a ≠ l := fun y => by
      subst y
      rcases (S.own a q3).2 with w | w
      · rw [z] at w; cases w
      · exact m w
    rw [upd_ne ne]
    exact S.keep a u m z
  · by_cases y : a = l
    · subst y
      rcases (S.own a q3).2 with w | w
      · exact absurd w z0
      · exact .inr w
    · rw [upd_ne y] at z1
      exact S.old a z0 z1
  · rw [upd_ne fun z => q5 (by rw [← z]; exact m)]
    exact (S.own a (q4.subset m)).1
/-- an own dict is locked for good -/
theorem y_lockF {κ β : Type} {T : Ty κ} {U : Ty β} {d : Kt T} {n : Nat} {f : Option Addr} {m : Ms La L' Lh S} (i : Ix (lOwn (oDict d U) f) n L) (p : Put (lImm (tDictF d U)) n L La) (h : PSs X rest (tS K La L' Lh S m)) : PSs X rest (tS K L L' Lh S fun ω ρ k => m ω (p.put (i.get ρ) ρ) k) := by
  refine ⟨fun pins s σ H D I hq => ?_⟩
  obtain ⟨F, B, ρ, ω, k, o, st, e1, q⟩ := hq
  obtain ⟨l, ps, hl, fz⟩ := Stt.frzP i p st
  obtain ⟨od, I2⟩ := I.lock hl trivial
  obtain ⟨B', sb, st'⟩ := fz od
  exact h.run pins s σ _ D I2 ⟨F, B', _, ω, k, o, st', e1, fun o2 e2 => (q o2 e2).sub sb⟩
/-- xs += ys, xs an own list -/
theorem y_augExt {α : Type} {T : Ty α} {f : Option Addr} {n : Nat} {m : Mo L (List α)} {pos' : Pos} (i : Ix (lOwn (oLst T) f) n L) (hN : X.N.Nodup) (hi : X.N[n]? = some x) (hx : L2.Loc X.env.scope x) (he : PE X e (tE X.K L (tLst T) m)) (hf : X.fn x = true ∨ X.env.scope.names.lookup x = some .local := by first | exact .inl rfl | exact .inr rfl | assumption) :
    PS X (.AugAssign (.Name x pos') .Add e pos) (tS X.K L L Lh S fun ω ρ k => m ω ρ fun y ρ' => (catC (i.get ρ') y).bind fun z => k (.nx (i.set z ρ'))) := by
  refine ps_weak (ps_aug (i := n) hN hi hx he iop_ext hf) fun D σ H ⟨F, B, ρ, ω, k, o, st, e1, q⟩ => ?_
  obtain ⟨own0, S0⟩ := id st
  obtain ⟨l, _, w1, _⟩ := S0.rel.own i
  refine ⟨.ref l, w1, F, B, ρ, ω, _, o, st, e1, fun B' v H' y ρ' s st' r e2 => ?_⟩
  obtain ⟨z, e3, e4⟩ := bind_some e2
  obtain ⟨hz, rfl⟩ := catC_of e3
  obtain ⟨own, S⟩ := id st'
  obtain ⟨l2, u, v1, v2, v3, ⟨vs, rfl, rp⟩, v5⟩ := S.rel.own i
  have el : l2 = l := by
    rw [w1] at v1
    simp at v1
    exact v1.symm
  subst el
  obtain ⟨b, us, rfl, hb, rb⟩ := r
  have lp := Paired.length rp.1
  have lb := Paired.length rb.1
  have hh : ∀ xs ys : List α, xs.length + ys.length ≤ 16777216 → (xs ++ ys).length ≤ sizeLine := fun xs ys h => by rw [List.length_append, sizeLine_eq]; exact h
  refine ⟨l2, b, vs, us, rfl, rfl, v3, S.sub _ _ hb, by rw [lp, lb, sizeLine_eq]; exact hz, ?_⟩
  show D.nx (σ.set n (some (.ref l2))) _
  rw [set_self v1]
  exact q _ e4 B' σ _ s ⟨own, S.setc i v1 v2 (o' := .lst (vs ++ us)) ⟨_, rfl, P_app rp.1 rb.1, hh _ _ hz⟩⟩
/-- sorted(d) of a locked dict -/
theorem c_sortDF {α : Type} {U : Ty α} : OpNO K (fun xs H Q => ∃ (a : Addr) (kvs : List (L2.Key × V)) (ks : List Int), xs = [.ref a] ∧ Rd H a (.dK kvs) ∧ kvs.map (·.1) = ks.map Sum.inl ∧ ks.length < 64 ∧
    ∀ (ys : List Int) (p : Addr), ys.Perm ks → ys.Pairwise (· ≤ ·) → H p = none → Q (.ref p) (upd H p (.lst (ys.map V.int)))) (rOne (tDictF kInt U)) (oLst tInt) fun x => if x.length < 64 then some (sortI (x.map Prod.fst)) else none := fun {B H y z vs Q} s ⟨v, e1, h⟩ e q => by
  subst e1
  obtain ⟨a, ps, rfl, ⟨od, hb⟩, rp, hl⟩ := h
  try dsimp only at e
  split at e
  · rename_i h64
    cases e
    refine ⟨a, ps, y.map Prod.fst, rfl, .inr ⟨od, s _ _ hb⟩, ?_, by rw [List.length_map]; exact h64, fun ys p h1 h2 hp => ?_⟩
    · rw [keys_of rp, List.map_map]
      rfl
    · rw [sortI_eq h1 h2]
      exact q p _ hp (sortRow (by rw [List.length_map]; exact hl))
  · cases e
/-- len of a locked dict -/
theorem call_lenDF : CallR X (.builtin "len") (fun xs H Q => ∃ a od kvs, xs = [V.ref a] ∧ H a = some (.frz od (.dK kvs)) ∧ Q (.int kvs.length) H) := by
  intro pins s σ H xs us Q I r h
  obtain ⟨a, od, kvs, rfl, ha, q⟩ := h
  obtain ⟨u, rfl, ru⟩ := vals1 r
  cases ru
  exact d_len I (.inr ⟨od, ha⟩) fun t s' I' => ⟨.int kvs.length, H, I', ⟨t, rfl⟩, q⟩
theorem c_lenDF {κ α : Type} {T : Ty κ} {U : Ty α} {d : Kt T} : OpN K (fun xs H Q => ∃ a od kvs, xs = [V.ref a] ∧ H a = some (.frz od (.dK kvs)) ∧ Q (.int kvs.length) H) (rOne (tDictF d U)) tInt fun x => some (x.length : Int) := fun {B H y z vs Q} s ⟨v, e1, h⟩ e q => by
  subst e1
  obtain ⟨a, ps, rfl, ⟨od, hb⟩, rp, _⟩ := h
  cases e
  exact ⟨a, od, ps, rfl, s _ _ hb, by rw [Paired.length rp]; exact q _ _ _ (gr0 s) rfl⟩
end
end L3

/-! L3: tuples that surely have no dict of their own; their methods. -/
namespace L3
open PySem PySem.Spec PyProof.Rows L2

def tTupD {β : Type} (R : Tys β) : Ty β where
  rep := fun K B v x => ∃ a vs, v = .ref a ∧ (∃ o, B a = some (.frz o (.tup vs)) ∧ o.dict = none) ∧ R.rep K B vs x
  mono := fun s ⟨a, vs, e, ⟨o, h, hd⟩, k⟩ => ⟨a, vs, e, ⟨o, s _ _ h, hd⟩, R.mono s k⟩
  nn := true
  nnok := fun _ _ _ _ _ ⟨a, vs, e, _⟩ z => by rw [e] at z; cases z
  to := R.to
  took := fun h _ _ _ _ _ s ⟨a, vs, e, ⟨o, k, hd⟩, r⟩ => ⟨a, vs, e, ⟨o, s _ _ k rfl, hd⟩, R.took h s r⟩
  em := R.em
  emok := fun h _ _ _ _ _ s ⟨a, vs, e, ⟨o, k, hd⟩, r⟩ => ⟨a, vs, e, ⟨o, s _ _ k rfl, hd⟩, R.emok h s r⟩
abbrev tAllD {α : Type} (T : Ty α) : Ty (List α) := tTupD (rAll T)
theorem tupD_tup {β : Type} {R : Tys β} {K B v x} (h : (tTupD R).rep K B v x) : (tTup R).rep K B v x := by
  obtain ⟨a, vs, e, ⟨o, k, hd⟩, r⟩ := h
  exact ⟨a, vs, e, .inl (.inr ⟨o, k⟩), r⟩

/-! ### what makes them -/
def tTupX (t : TA) : TE := fun σ H Q => t σ H fun xs H1 => xs.length ≤ sizeLine ∧ ∀ p (o : Obj), o.dict = none → H1 p = none → Q (.ref p) (upd H1 p (.frz o (.tup xs)))
section
variable {X : Cx} {K : Fg} {L : List Loc} {e : Expr} {es : List Expr} {pos : Pos}
theorem pe_tupX {t : TA} {x1} (h : PA X es t) : PE X (.Tuple es x1 pos) (tTupX t) := by
  refine ⟨fun pins s σ H Q I hq => ?_⟩
  refine wpAny_Tuple_spliced (thn (h.run pos pins s σ H _ I hq) fun us s1 ⟨xs, H1, I1, r, z, q⟩ => ⟨by rw [← r.length]; exact z, ?_⟩)
  have hf : H1 s1.heap.objs.size = none := I1.hok.fresh (Nat.le_refl _)
  refine ⟨.ref s1.heap.objs.size, upd H1 s1.heap.objs.size (.frz { cls := .type "tuple", data := .seq us.toArray } (.tup xs)), I1.laid (t' := s1.toks) (fun b u e => Heap.get?_push_of_some _ e) (Nat.le_refl _) ?_, rfl, q _ _ rfl hf⟩
  exact ⟨Heap.get?_push_size _ rfl, z, us, r, ⟨_, Heap.get?_push_size _ rfl, rfl, _, rfl⟩⟩
theorem y_tupAD {x1} {α : Type} {T : Ty α} {n : Nat} {m : Mo L (List α)} (h : PA X es (tAr K L (rLen T n) m)) (hn : n ≤ 16777216 := by decide) : PE X (.Tuple es x1 pos) (tE K L (tAllD T) m) := by
  refine pe_weak (pe_tupX h) fun σ H Q ⟨F, B, ρ, ω, k, o, st, e1, q⟩ => ?_
  refine ⟨F, B, ρ, ω, k, o, st, e1, fun B' vs H' x ρ' s st' r e2 => ?_⟩
  have r := rLen.all hn r
  refine ⟨by rw [Paired.length r.1]; exact r.2, fun p ob hd hp => ?_⟩
  have g := Grow.new (o := HO.frz ob (.tup vs)) st'.sb hp
  exact q _ _ _ x ρ' (s.trans g.b) (st'.grow g) ⟨p, vs, rfl, ⟨ob, upd_same, hd⟩, (rAll T).mono g.b r⟩ e2
theorem y_tD {β : Type} {R : Tys β} {m : Mo L β} (h : PE X e (tE K L (tTupD R) m)) : PE X e (tE K L (tTup R) m) := by
  refine pe_weak h fun σ H Q ⟨F, B, ρ, ω, k, o, st, e1, q⟩ => ?_
  exact ⟨F, B, ρ, ω, k, o, st, e1, fun B' v H' x ρ' s st' r e2 => q B' v H' x ρ' s st' (tupD_tup r) e2⟩
theorem call_tuple_ofX : CallR X (.type "tuple") (fun xs H Q => ∃ p ys, xs = [.ref p] ∧ SqL X.K H p ys ∧ ∀ l (o : Obj), o.dict = none → H l = none → Q (.ref l) (upd H l (.frz o (.tup ys)))) := by
  intro pins s σ H xs us Q I r h
  obtain ⟨p, ys, rfl, hq, q⟩ := h
  obtain ⟨u, rfl, rx⟩ := vals1 r
  cases rx
  obtain ⟨its, r', pl, hz⟩ := I.list hq
  have hlen := r'.length
  refine call_tuple_list pl.isList (fun h' kp => ?_) (by simp only [List.size_toArray] <;> omega)
  have I1 : Inv X pins σ H { s with heap := h' } := I.kept (t' := s.toks) kp
  have I2 : Inv X pins σ (upd H h'.objs.size (.frz { cls := .type "tuple", data := .seq its.toArray } (.tup ys))) { s with heap := h'.push { cls := .type "tuple", data := .seq its.toArray } } :=
    I1.laid (t' := s.toks) (fun b o e => Heap.get?_push_of_some _ e) (Nat.le_refl _) (show ObjOk X.prog X.w _ _ _ (.frz _ (.tup ys)) from ⟨Heap.get?_push_size _ rfl, hz, its, r', IsTup.new _ _⟩)
  exact ⟨.ref h'.objs.size, _, I2, rfl, q _ _ rfl (I1.hok.fresh (Nat.le_refl _))⟩
theorem c_tupleX {T : Ty α} : OpN K (fun xs H Q => ∃ p ys, xs = [.ref p] ∧ SqL K H p ys ∧ ∀ l (o : Obj), o.dict = none → H l = none → Q (.ref l) (upd H l (.frz o (.tup ys)))) (rOne (tLst T)) (tAllD T) fun x => some x := fun s ⟨v, e1, r⟩ e q => by
  obtain ⟨a, vs, rfl, sq, r⟩ := r
  cases e1
  cases e
  refine ⟨a, vs, rfl, .inl (.inl (s _ _ sq)), fun l ob hd hl => ?_⟩
  have g := Grow.new (o := HO.frz ob (.tup vs)) s hl
  exact q _ _ _ g ⟨l, vs, rfl, ⟨ob, upd_same, hd⟩, (rAll T).mono g.b r⟩
end
section
variable {X : Cx} {K : Fg}
def rCatX (K : PySem.W.Frag) : R2 := fun x y H Q => ∃ a b xs ys, x = .ref a ∧ y = .ref b ∧ SqT K H a xs ∧ SqT K H b ys ∧ xs.length + ys.length ≤ sizeLine ∧
  (xs = [] → Q (.ref b) H) ∧ (xs ≠ [] → ys = [] → Q (.ref a) H) ∧ (xs ≠ [] → ys ≠ [] → ∀ p (o : Obj), o.dict = none → H p = none → Q (.ref p) (upd H p (.frz o (.tup (xs ++ ys)))))
theorem op_catX : OpR X (binaryOp .Add) (rCatX X.K) := by
  intro pins s σ H x y v u Q I rx ry h
  obtain ⟨a, b, xs, ys, rfl, rfl, ha, hb, hz, q0, q1, q2⟩ := h
  cases rx
  cases ry
  obtain ⟨its, r1, p1, _⟩ := I.tuple ha
  obtain ⟨its2, r2, p2, _⟩ := I.tuple hb
  by_cases hx : xs = []
  · subst hx
    cases r1
    exact cat_tup0 p1 p2 ⟨.ref b, H, I, rfl, q0 rfl⟩
  · refine HT.cat_tup p1 p2 (fun z => hx (r1.nil_iff.mp z)) (fun z => ⟨.ref a, H, I, rfl, q1 hx (r2.nil_iff.mp z)⟩) (fun z => ?_) (by rw [← r1.length, ← r2.length]; exact hz)
    refine ⟨.ref s.heap.objs.size, _, I.laid (t' := s.toks) (o := .frz { cls := .type "tuple", data := .seq (its ++ its2).toArray } (.tup (xs ++ ys))) (fun b ob q => Heap.get?_push_of_some _ q) (Nat.le_refl _) ?_, rfl, q2 hx (fun w => z (r2.nil_iff.mpr w)) _ _ rfl (I.hok.fresh (Nat.le_refl _))⟩
    exact ⟨Heap.get?_push_size _ rfl, by rw [List.length_append]; exact hz, _, r1.append r2, IsTup.new _ _⟩
theorem o_catX {T : Ty α} : Op2 K (rCatX K) (tAllD T) (tAllD T) (tAllD T) catC := fun {B H x y z v w Q} s hx hy e q => by
  obtain ⟨hz, rfl⟩ := catC_of e
  obtain ⟨a, vs, rfl, ⟨oa, sq, da⟩, r⟩ := hx
  obtain ⟨b, ws, rfl, ⟨ob, sq2, db⟩, r2⟩ := hy
  have hr : (rAll T).rep K B (vs ++ ws) (x ++ y) := ⟨P_app r.1 r2.1, by rw [sizeLine_eq, List.length_append]; exact hz⟩
  refine ⟨a, b, vs, ws, rfl, rfl, .inl (.inr ⟨oa, s _ _ sq⟩), .inl (.inr ⟨ob, s _ _ sq2⟩), ?_, fun e1 => ?_, fun _ e2 => ?_, fun _ _ p oo hd hp => ?_⟩
  · rw [Paired.length r.1, Paired.length r2.1, sizeLine_eq]; exact hz
  · subst e1
    rw [List.nil_append] at hr
    exact q _ _ _ (gr0 s) ⟨b, ws, rfl, ⟨ob, sq2, db⟩, hr⟩
  · subst e2
    rw [List.append_nil] at hr
    exact q _ _ _ (gr0 s) ⟨a, vs, rfl, ⟨oa, sq, da⟩, hr⟩
  · have g := Grow.new (o := HO.frz oo (.tup (vs ++ ws))) s hp
    exact q _ _ _ g ⟨p, _, rfl, ⟨oo, upd_same, hd⟩, (rAll T).mono g.b hr⟩
end

/-! ### methods -/
section
variable {X : Cx} {o e : Expr} {es : List Expr} {to : TE} {t : TA} {name : Str} {apos cpos : Pos} {id : String} {r : V → List V → Hp → VK → Prop}
def tBMX (r : V → List V → Hp → VK → Prop) (to : TE) (t : TA) : TE := fun σ H Q => to σ H fun x H1 => (∃ p ob vs, x = .ref p ∧ H1 p = some (.frz ob (.tup vs)) ∧ ob.dict = none) ∧ t σ H1 fun xs H2 => r x xs H2 Q
theorem pe_bmX (slot : Slot "tuple" name id) (hty : typeOf (.builtin id) = pure (.type "method_descriptor")) (hm : MtR X id r) (ho : PE X o to) (ha : PA X (e :: es) t)
    (hbase : attributeBase o name X.env (eval o X.env) = eval o X.env := by rfl)
    (hfew : ((backTo cpos (starEach (e :: es) X.env)).all (fun x => !x.1) && (backToKw cpos (keywordEach [] X.env)).all (fun x => x.1.isSome)
      && decide ((e :: es).length + ([] : List Keyword).length + (if ([] : List Keyword).isEmpty then 0 else 1) < 30)) = true := by rfl)
    (hline : (apos.endLine == cpos.line) = true := by rfl) (hs : starEach (e :: es) X.env = (false, eval e X.env) :: starEach es X.env := by rfl) (hplain : (backTo cpos (starEach es X.env)).any (·.1) = false := by rfl) :
    PE X (.Call (.Attribute o name apos) (e :: es) [] cpos) (tBMX r to t) := by
  refine ⟨fun pins s σ H Q I h => ?_⟩
  refine wpAny_Call_method_late hbase hfew hline rfl (thn (ho.run pins s σ H _ I h) fun v s1 ⟨x, H1, I1, r1, ⟨p, ob, vs, ex, hp, hd⟩, q1⟩ => ?_)
  subst ex
  cases (show v = .ref p from r1)
  obtain ⟨ho', z, its, rv, o2, ho2, hc, n, hdt⟩ := (show ObjOk X.prog X.w H1 s1.heap p (.frz ob (.tup vs)) from I1.hok p _ hp)
  refine ⟨"tuple", id, PySem.F.plainAttrs_tuple, slot, hty, ⟨o2, ho2, hc⟩, fun a ea => ?_, ?_⟩
  · cases ea
    exact ⟨ob, ho', hd⟩
  have hA := ha.run cpos pins s1 σ H1 _ I1 q1
  rw [hs] at hA ⊢
  refine Calls.callWith_builtin (by show (false || (backTo cpos (starEach es X.env)).any (·.1)) = false; rw [hplain] <;> rfl) (Calls.evalArgs_plain ?_)
  exact thn hA fun us s2 ⟨xs, H2, I2, r2, q2⟩ => hm pins s2 σ H2 (.ref p) xs (.ref p) us Q I2 rfl r2 q2
theorem mt_tcountF : MtR X "tuple.count" (fun x xs H Q => ∃ (p : Addr) (ys : List V) (y : V), x = .ref p ∧ xs = [y] ∧ flatV y = true ∧ SqT X.K H p ys ∧ ys.all flatV = true ∧ Q (.int ((ys.countP fun z => eqV z y) : Nat)) H) := by
  intro pins s σ H x xs v us Q I rx rxs h
  obtain ⟨p, ys, y, rfl, rfl, fy, hs, fs, q⟩ := h
  cases rx
  obtain ⟨u, rfl, ru⟩ := rxs.one
  obtain ⟨its, rv, ⟨⟨cls, dd, data, sl⟩, ho, hc, n, hd⟩, hlen⟩ := I.tuple hs
  simp only at hc hd
  subst hc hd
  refine call_meets PySem.F.slot_tuple_count ⟨_, ho, rfl⟩ PySem.F.entry_tuple_count (PySem.F.args_tuple_count_2 _ _)
    (SeqAt.tuple_countAt p its.toArray n dd sl u (eqU y)) ⟨ho, fun w hw => mem_eqAt ru fy rv fs w (by simpa using hw), ?_⟩
  have ec : its.toArray.toList.countP (eqU y) = ys.countP fun z => eqV z y := count_flat rv fs
  refine ⟨.int ((ys.countP fun z => eqV z y) : Nat), H, I.tok _, ⟨s.toks, ?_⟩, q⟩
  show Value.int ((its.toArray.toList.countP (eqU y) : Nat) : Int) s.toks = _
  rw [ec]
theorem mt_tindexF : MtR X "tuple.index" (fun x xs H Q => ∃ (p : Addr) (ys : List V) (y w : V) (j : Nat), x = .ref p ∧ xs = [y] ∧ flatV y = true ∧ SqT X.K H p ys ∧ ys.all flatV = true ∧ ys[j]? = some w ∧ eqV w y = true ∧
    (∀ m z, m < j → ys[m]? = some z → eqV z y = false) ∧ Q (.int (j : Nat)) H) := by
  intro pins s σ H x xs v us Q I rx rxs h
  obtain ⟨p, ys, y, w, j, rfl, rfl, fy, hs, fs, hj, hit, hno, q⟩ := h
  cases rx
  obtain ⟨u, rfl, ru⟩ := rxs.one
  obtain ⟨its, rv, ⟨⟨cls, dd, data, sl⟩, ho, hc, n, hd⟩, hlen⟩ := I.tuple hs
  simp only at hc hd
  subst hc hd
  have hl : its.toArray.size = ys.length := by rw [List.size_toArray, ← rv.length]
  have hjl : j < its.toArray.size := by rw [hl]; exact (List.getElem?_eq_some_iff.mp hj).1
  have at' : ∀ (m : Nat) (hm : m < its.toArray.size), ∃ z, ys[m]? = some z ∧ eqU y its.toArray[m] = eqV z y := fun m hm => by
    have hm' : m < ys.length := by rw [← hl]; exact hm
    obtain ⟨w', hw, rw'⟩ := rv.get (i := m) (x := ys[m]) (by simp [hm'])
    refine ⟨ys[m], List.getElem?_eq_getElem hm', ?_⟩
    have e := (List.getElem?_eq_some_iff.mp hw).2
    rw [show its.toArray[m] = w' from by rw [← e]; simp]
    exact eqU_of rw' (List.all_eq_true.mp fs _ (List.getElem_mem hm'))
  refine call_meets PySem.F.slot_tuple_index ⟨_, ho, rfl⟩ PySem.F.entry_tuple_index (PySem.F.args_tuple_index_2 _ _) (TI.tuple_indexAt p its.toArray n dd sl u (eqU y) j hjl ?_ ?_)
    ⟨ho, fun w hw => mem_eqAt ru fy rv fs w (by simpa using hw), ⟨.int (j : Nat), H, I.tok _, ⟨_, rfl⟩, q⟩⟩
  · obtain ⟨z, h1, h2⟩ := at' j hjl
    rw [hj] at h1
    cases h1
    rw [h2]
    exact hit
  · intro m hm hmj
    obtain ⟨z, h1, h2⟩ := at' m hm
    rw [h2]
    exact hno m z hmj h1
end

/-- values that are told apart at sight -/
structure Flt {α : Type} [DecidableEq α] (T : Ty α) : Prop where
  fl : ∀ {K B v x}, T.rep K B v x → flatV v = true
  eq : ∀ {K B v w x y}, T.rep K B v x → T.rep K B w y → eqV v w = decide (x = y)
theorem fltI : Flt tInt := ⟨fun h => by cases (show _ = V.int _ from h); rfl, fun {K B v w x y} h h' => by
  cases (show v = V.int x from h); cases (show w = V.int y from h')
  show (x == y) = decide (x = y)
  by_cases c : x = y <;> simp [c]⟩
theorem fltS : Flt tStr := ⟨fun h => by cases (show _ = V.str _ from h); rfl, fun {K B v w x y} h h' => by
  cases (show v = V.str x from h); cases (show w = V.str y from h')
  show (x == y) = decide (x = y)
  by_cases c : x = y <;> simp [c]⟩
theorem fltO : Flt (tOpt tInt) := ⟨fun {K B v x} h => by
  cases x with
  | none => obtain rfl : v = V.non := h; rfl
  | some i => obtain rfl : v = V.int i := h.1; rfl, fun {K B v w x y} h h' => by
  cases x with
  | none =>
    obtain rfl : v = V.non := h
    cases y with
    | none => obtain rfl : w = V.non := h'; rfl
    | some j => obtain rfl : w = V.int j := h'.1; rfl
  | some i =>
    obtain rfl : v = V.int i := h.1
    cases y with
    | none => obtain rfl : w = V.non := h'; rfl
    | some j =>
      obtain rfl : w = V.int j := h'.1
      show (i == j) = decide (some i = some j)
      by_cases c : i = j <;> simp [c]⟩
section
variable {α : Type} [DecidableEq α] {T : Ty α}
theorem flt_all (f : Flt T) {K B} : ∀ {vs : List V} {xs : List α}, Paired (T.rep K B) vs xs → vs.all flatV = true
  | _, _, .nil => rfl
  | _, _, .cons h r => by rw [List.all_cons, f.fl h, flt_all f r]; rfl
theorem flt_count (f : Flt T) {K B w y} (hw : T.rep K B w y) : ∀ {vs : List V} {xs : List α}, Paired (T.rep K B) vs xs → (vs.countP fun z => eqV z w) = xs.count y
  | _, _, .nil => rfl
  | _, x :: _, .cons h r => by
    rw [List.countP_cons, List.count_cons, flt_count f hw r, f.eq h hw]
    by_cases c : x = y <;> simp [c]
variable {X : Cx} {L : List Loc} {o e : Expr} {cpos apos : Pos}
/-- t.count(x) -/
theorem y_tcount {mo : Mo L (List α)} {ma : Mo L α} (f : Flt T) (ho : PE X o (tE X.K L (tAllD T) mo)) (ha : PE X e (tE X.K L T ma))
    (hbase : attributeBase o "count" X.env (eval o X.env) = eval o X.env := by rfl)
    (hfew : ((backTo cpos (starEach [e] X.env)).all (fun x => !x.1) && (backToKw cpos (keywordEach [] X.env)).all (fun x => x.1.isSome) && decide (([e] : List Expr).length + ([] : List Keyword).length + (if ([] : List Keyword).isEmpty then 0 else 1) < 30)) = true := by rfl)
    (hline : (apos.endLine == cpos.line) = true := by rfl) (hs : starEach [e] X.env = (false, eval e X.env) :: starEach [] X.env := by rfl) (hplain : (backTo cpos (starEach [] X.env)).any (·.1) = false := by rfl) :
    PE X (.Call (.Attribute o "count" apos) [e] [] cpos) (tE X.K L tInt fun ω ρ k => mo ω ρ fun xs ρ1 => ma ω ρ1 fun x ρ2 => k ((List.count x xs : Nat) : Int) ρ2) := by
  refine pe_weak (pe_bmX PySem.F.slot_tuple_count PySem.F.type_tuple_count mt_tcountF ho (pa_cons ha pa_nil hs) hbase hfew hline hs hplain) fun σ H Q ⟨F, B, ρ, ω, k, oo, st, e1, q⟩ => ?_
  refine ⟨F, B, ρ, ω, _, oo, st, e1, fun B' v H' xs ρ1 s st' rv e2 => ?_⟩
  obtain ⟨a, vs, rfl, ⟨ob, sq, hd⟩, r⟩ := rv
  refine ⟨⟨a, ob, vs, rfl, st'.sb _ _ sq, hd⟩, F, B', ρ1, ω, _, oo, st', e2, fun B2 w H2 x ρ2 s2 st2 rw2 e3 => ?_⟩
  have r2 := ((rAll T).mono s2 r).1
  refine ⟨a, vs, w, rfl, rfl, f.fl rw2, .inl (.inr ⟨ob, st2.sb _ _ (s2 _ _ sq)⟩), flt_all f r2, ?_⟩
  rw [flt_count f rw2 r2]
  exact q B2 _ H2 _ ρ2 (s.trans s2) st2 rfl e3
/-- t.index(x) -/
theorem y_tindex {mo : Mo L (List α)} {ma : Mo L α} (f : Flt T) (ho : PE X o (tE X.K L (tAllD T) mo)) (ha : PE X e (tE X.K L T ma))
    (hbase : attributeBase o "index" X.env (eval o X.env) = eval o X.env := by rfl)
    (hfew : ((backTo cpos (starEach [e] X.env)).all (fun x => !x.1) && (backToKw cpos (keywordEach [] X.env)).all (fun x => x.1.isSome) && decide (([e] : List Expr).length + ([] : List Keyword).length + (if ([] : List Keyword).isEmpty then 0 else 1) < 30)) = true := by rfl)
    (hline : (apos.endLine == cpos.line) = true := by rfl) (hs : starEach [e] X.env = (false, eval e X.env) :: starEach [] X.env := by rfl) (hplain : (backTo cpos (starEach [] X.env)).any (·.1) = false := by rfl) :
    PE X (.Call (.Attribute o "index" apos) [e] [] cpos) (tE X.K L tInt fun ω ρ k => mo ω ρ fun xs ρ1 => ma ω ρ1 fun x ρ2 => (indexC xs x).bind fun z => k z ρ2) := by
  refine pe_weak (pe_bmX PySem.F.slot_tuple_index PySem.F.type_tuple_index mt_tindexF ho (pa_cons ha pa_nil hs) hbase hfew hline hs hplain) fun σ H Q ⟨F, B, ρ, ω, k, oo, st, e1, q⟩ => ?_
  refine ⟨F, B, ρ, ω, _, oo, st, e1, fun B' v H' xs ρ1 s st' rv e2 => ?_⟩
  obtain ⟨a, vs, rfl, ⟨ob, sq, hd⟩, r⟩ := rv
  refine ⟨⟨a, ob, vs, rfl, st'.sb _ _ sq, hd⟩, F, B', ρ1, ω, _, oo, st', e2, fun B2 w H2 x ρ2 s2 st2 rw2 e3 => ?_⟩
  have r2 := ((rAll T).mono s2 r).1
  obtain ⟨z, e4, e5⟩ := bind_some e3
  unfold indexC at e4
  cases e6 : ixOf x xs with
  | none => rw [e6] at e4; exact nomatch e4
  | some j =>
    rw [e6] at e4
    cases e4
    obtain ⟨g1, g2⟩ := ixOf_some e6
    obtain ⟨wj, hw1, hw2⟩ := P_get r2 g1
    refine ⟨a, vs, w, wj, j, rfl, rfl, f.fl rw2, .inl (.inr ⟨ob, st2.sb _ _ (s2 _ _ sq)⟩), flt_all f r2, hw1, by rw [f.eq hw2 rw2]; exact decide_eq_true rfl, fun m z hm hz => ?_, q B2 _ H2 _ ρ2 (s.trans s2) st2 rfl e5⟩
    obtain ⟨y, hy1, hy2⟩ := P_mem r2 m z hz
    rw [f.eq hy2 rw2]
    exact decide_eq_false fun c => g2 m y hm hy1 c
end
end L3

/-! L3: an own list read as a value inside an expression that may change other slots. -/
namespace L3
open PySem PySem.Spec PyProof.Rows L2
/-- what stays true of a slot when a list leaves the base -/
def Bt (l : Loc) : Prop := ∀ {K : Fg} {B1 B2 H1 : Hp} {own1 : List Addr} {s x}, TSub B1 B2 → l.holds K B1 H1 own1 s x → l.holds K B2 H1 own1 s x
theorem bt_none : Bt lNone := fun _ h => h
theorem bt_imm {α : Type} {T : Ty α} (h : T.to = true) : Bt (lImm T) := fun s ⟨h1, v, e, r⟩ => ⟨h1, v, e, T.took h s r⟩
theorem bt_own {α : Type} {O : OTy α} {f : Option Addr} (h : O.to = true) : Bt (lOwn O f) := fun t ⟨l, o, e1, e2, e3, e4, e5⟩ => ⟨l, o, e1, e2, e3, O.took h t e4, e5⟩
inductive BtAll : List Loc → Prop
  | nil : BtAll []
  | cons {l L} : Bt l → BtAll L → BtAll (l :: L)
section
variable {K : Fg} {B1 B2 H1 : Hp}
theorem Rel.bt : ∀ {L : List Loc} {own1 : List Addr} {σ : List (Option V)} {ρ : Env L}, BtAll L → TSub B1 B2 → Rel K B1 H1 L own1 σ ρ → Rel K B2 H1 L own1 σ ρ
  | [], _, _, _, _, _, h => h
  | l :: L, own1, σ, ρ, .cons b bs, t, ⟨u1, u2, v', σ'', f1, f2, h', r'⟩ => ⟨u1, u2, v', σ'', f1, f2, b t h', Rel.bt bs t r'⟩
theorem Rel.unlock2 {α : Type} {T : Ty α} {l' : Addr} {o : HO} (hT : T.to = true) (hB : B1 l' = some o) (hH : H1 l' = some o) : ∀ {n : Nat} {L L' : List Loc} (i : Ix (lImm (oLst T).fz) n L') (p : Put (lOwn (oLst T) none) n L' L) {own1 σ} {ρ : Env L'}, BtAll L → TSub B1 B2 →
    Rel K B1 H1 L' own1 σ ρ → σ[n]? = some (some (.ref l')) → ∃ own3, Rel K B2 H1 L own3 σ (p.put (i.get ρ) ρ) ∧ own3.Perm (l' :: own1)
  | _, _, _, .z, .z, own1, σ, ρ, .cons b bs, t, ⟨u1, u2, v', σ'', f1, f2, ⟨g1, v, g2, a, vs, g3, g4, g5⟩, r'⟩, hl => by
    subst f2 g2 g3
    have ff : own1 = u2 := by rw [f1, g1, List.nil_append]
    subst ff
    obtain rfl : a = l' := by simpa using hl
    rw [hB] at g4
    cases g4
    exact ⟨[a] ++ own1, ⟨[a], own1, _, σ'', rfl, rfl, ⟨a, .lst vs, rfl, rfl, hH, ⟨vs, rfl, (rAll T).took hT t g5⟩, fun _ z => nomatch z⟩, Rel.bt bs t r'⟩, .refl _⟩
  | _, _, _, .s i, .s p, own1, σ, ρ, .cons b bs, t, ⟨u1, u2, v', σ'', f1, f2, h', r'⟩, hl => by
    subst f1 f2
    obtain ⟨own3, r3, pm⟩ := Rel.unlock2 hT hB hH i p bs t r' hl
    exact ⟨u1 ++ own3, ⟨u1, own3, v', σ'', rfl, rfl, b t h', r3⟩, (pm.append_left u1).trans List.perm_middle⟩
end
theorem Stt.unlock2 {K : Fg} {F : Fr} {L L' : List Loc} {B : Hp} {σ : List (Option V)} {H : Hp} {α : Type} {T : Ty α} {n : Nat} (i : Ix (lOwn (oLst T) none) n L) (p : Put (lImm (oLst T).fz) n L L') {ρ : Env L} (st : Stt K F L B ρ σ H) :
    ∃ F' B', Stt K F' L' B' (p.put (i.get ρ) ρ) σ H ∧ ∀ {Lx Ly : List Loc} (i2 : Ix (lImm (oLst T).fz) n Lx) (p2 : Put (lOwn (oLst T) none) n Lx Ly) (hT : T.to = true) (hb : BtAll Ly) (B1 H1 : Hp) (own1 : List Addr) (ρ1 : Env Lx), Sub B' B1 → StO K F' Lx own1 B1 ρ1 σ H1 → ∃ B2 own3, Sub B B2 ∧ TSub B1 B2 ∧ StO K F Ly own3 B2 (p2.put (i2.get ρ1) ρ1) σ H1 ∧ (∀ q, B1 q = none → q ∉ own1 → (F'.H0 q = none ∨ q ∈ F'.M) → B2 q = none ∧ q ∉ own3 ∧ (F.H0 q = none ∨ q ∈ F.M)) := by
  obtain ⟨own, S⟩ := st
  obtain ⟨l, o, own', q1, q2, q3, q4, q5, q6⟩ := Rel.lock i p S.rel S.nd fun a m => (S.own a m).1
  have hbl := (S.own l q3).1
  have sbc : Sub B (upd B l o) := Sub.upd hbl
  have fr : ∀ a, (H a = none ∨ a ∈ own') → F.H0 a = none ∨ a ∈ F.M := fun a h => by
    rcases h with h | h
    · cases e : F.H0 a with
      | none => exact .inl rfl
      | some u =>
        by_cases m : a ∈ F.M
        · exact .inr m
        · rw [S.keep a u m e] at h
          cases h
    · exact (S.own a (q4.subset h)).2
  refine ⟨⟨H, upd B l o, own'⟩, upd B l o, ⟨own', Sub.refl _, S.sub.ext q2, fun a u _ e => e, fun a _ h1 => .inl h1, q6, S.nd.sublist q4, fun a m => ⟨?_, .inr m⟩⟩, fun {Lx Ly} i2 p2 hT hb B1 H1 own1 ρ1 s1 S1 => ?_⟩
  · rw [upd_ne fun z => q5 (by rw [← z]; exact m)]
    exact (S.own a (q4.subset m)).1
  have hB1 : B1 l = some o := s1 l o upd_same
  have hH1 : H1 l = some o := S1.sub l o hB1
  have mo : NLo o = false := by
    obtain ⟨l2, o2, w1, w2, w3, w4, _⟩ := S.rel.own i
    have e : l2 = l := by
      have := w1.symm.trans q1
      simpa using this
    subst e
    rw [q2] at w3
    cases w3
    exact nlo_mut ((oLst T).mtb w4)
  let B2 : Hp := fun a => if a = l then none else B1 a
  have b2n : ∀ {a}, a ≠ l → B2 a = B1 a := fun h => if_neg h
  have b2l : B2 l = none := if_pos rfl
  have sB : Sub B B2 := fun a u e => by
    have : a ≠ l := ne_of_none e hbl
    rw [b2n this]
    exact s1 a u (sbc a u e)
  have tB : TSub B1 B2 := fun a u e n => by
    by_cases z : a = l
    · subst z
      rw [hB1] at e
      cases e
      rw [mo] at n
      cases n
    · rw [b2n z]; exact e
  have s2 : Sub B2 H1 := fun a u e => by
    by_cases z : a = l
    · subst z; rw [b2l] at e; cases e
    · rw [b2n z] at e; exact S1.sub a u e
  have nl : ∀ a ∈ own1, a ≠ l := fun a m z => by
    have := (S1.own a m).1
    rw [z, hB1] at this
    cases this
  obtain ⟨own3, r3, pm⟩ := Rel.unlock2 (B2 := B2) (l' := l) hT hB1 hH1 i2 p2 hb tB S1.rel q1
  refine ⟨B2, own3, sB, tB, ⟨S.base.trans sB, s2, fun a u m e => ?_, fun a h0 h1 => ?_, r3, ?_, fun a m => ?_⟩, fun q h1 h2 h3 => ⟨?_, ?_, fr q h3⟩⟩
  · have h := S.keep a u m e
    refine S1.keep a u (fun z => ?_) h
    rcases (S.own a (q4.subset z)).2 with y | y
    · rw [y] at e; cases e
    · exact m y
  · by_cases z : a = l
    · subst z; exact absurd b2l h1
    · rw [b2n z] at h1
      by_cases m : a ∈ F.M
      · exact .inr m
      · obtain ⟨u, e⟩ : ∃ u, F.H0 a = some u := by
          cases e : F.H0 a with
          | none => exact absurd e h0
          | some u => exact ⟨u, rfl⟩
        have hH : H a ≠ none := by rw [S.keep a u m e]; exact fun y => nomatch y
        rcases S1.old a hH h1 with y | y
        · exact S.old a h0 (by have y : upd B l o a ≠ none := y; rw [upd_ne z] at y; exact y)
        · exact (S.own a (q4.subset y)).2.elim (fun y => absurd y h0) .inr
  · exact pm.nodup_iff.mpr (List.nodup_cons.mpr ⟨fun m => nl l m rfl, S1.nd⟩)
  · rcases List.mem_cons.mp (pm.mem_iff.mp m) with rfl | m
    · exact ⟨b2l, (S.own _ q3).2⟩
    · exact ⟨by rw [b2n (nl a m)]; exact (S1.own a m).1, fr a (S1.own a m).2⟩
  · by_cases z : q = l
    · subst z; exact b2l
    · rw [b2n z]; exact h1
  · intro m
    rcases List.mem_cons.mp (pm.mem_iff.mp m) with rfl | m
    · rw [hB1] at h1; cases h1
    · exact h2 m
section
variable {X : Cx} {K : Fg} {L L' : List Loc} {e : Expr}
theorem y_bo2 {α β : Type} {T : Ty α} {U : Ty β} {n : Nat} {m : Mo L' α} (i : Ix (lOwn (oLst U) none) n L) (p : Put (lImm (oLst U).fz) n L L') (i2 : Ix (lImm (oLst U).fz) n L') (p2 : Put (lOwn (oLst U) none) n L' L) (ht : T.to = true) (hU : U.to = true) (hb : BtAll L) (h : PE X e (tE K L' T m)) :
    PE X e (tE K L T fun ω ρ k => m ω (p.put (i.get ρ) ρ) fun x ρ' => k x (p2.put (i2.get ρ') ρ')) := by
  refine pe_weak h fun σ H Q ⟨F, B, ρ, ω, k, o, st, e1, q⟩ => ?_
  obtain ⟨F', B', st', back⟩ := Stt.unlock2 i p st
  refine ⟨F', B', p.put (i.get ρ) ρ, ω, _, o, st', e1, fun B1 v H1 x1 ρ1 s1 ⟨own1, S1⟩ r e4 => ?_⟩
  obtain ⟨B2, own3, sB, tB, S2, _⟩ := back i2 p2 hU hb B1 H1 own1 ρ1 s1 S1
  exact q B2 v H1 x1 _ sB ⟨own3, S2⟩ (T.took ht tB r) e4
theorem y_bo2O {α β : Type} {O2 : OTy α} {U : Ty β} {n : Nat} {m : Mo L' α} (i : Ix (lOwn (oLst U) none) n L) (p : Put (lImm (oLst U).fz) n L L') (i2 : Ix (lImm (oLst U).fz) n L') (p2 : Put (lOwn (oLst U) none) n L' L) (ht : O2.to = true) (hU : U.to = true) (hb : BtAll L) (h : PE X e (tO K L' O2 m)) :
    PE X e (tO K L O2 fun ω ρ k => m ω (p.put (i.get ρ) ρ) fun x ρ' => k x (p2.put (i2.get ρ') ρ')) := by
  refine pe_weak h fun σ H Q ⟨F, B, ρ, ω, k, o, st, e1, q⟩ => ?_
  obtain ⟨F', B', st', back⟩ := Stt.unlock2 i p st
  refine ⟨F', B', p.put (i.get ρ) ρ, ω, _, o, st', e1, fun B1 a u H1 own1 x1 ρ1 s1 S1 h1 h2 h3 h4 h5 e4 => ?_⟩
  obtain ⟨B2, own3, sB, tB, S2, nw⟩ := back i2 p2 hU hb B1 H1 own1 ρ1 s1 S1
  obtain ⟨n1, n2, n3⟩ := nw a h3 h4 h5
  exact q B2 a u H1 own3 x1 _ sB S2 h1 (O2.took ht tB h2) n1 n2 n3 e4
end
end L3

/-! L3: // by a divisor of any sign. -/
namespace L3
open PySem PySem.Spec PyProof.Rows L2
def CDivS (_ j : Int) : Prop := j ≠ 0 ∧ j.natAbs.log2 < 9000
theorem op_fdivS {X : Cx} : OpR X (binaryOp .FloorDiv) (rI CDivS fun i j => .int (i.fdiv j)) := opI fun i j _ _ _ _ _ hc q =>
  floordiv_int hc.1 q (.inl (PyProof.noPylong_of_log2 hc.2))
noncomputable def divS (x y : Int) : Option Int := blk (if y ≠ 0 ∧ y.natAbs < 2 ^ 9000 then some (x.fdiv y) else none)
theorem divS_eq (x y : Int) : divS x y = if y ≠ 0 ∧ y.natAbs < 2 ^ 9000 then some (x.fdiv y) else none := blk_eq _
theorem o_divS {K : Fg} : Op2 K (rI CDivS fun i j => .int (i.fdiv j)) tInt tInt tInt divS := fun s hx hy e q => by
  cases hx; cases hy
  rw [divS_eq] at e
  split at e
  · rename_i h
    cases e
    exact ⟨_, _, rfl, rfl, ⟨h.1, PySem.Flt.log2_lt_of (by decide) h.2⟩, q _ _ _ (gr0 s) rfl⟩
  · cases e
/-- a module's constant pair of ints -/
theorem y_globP {X : Cx} {L : List Loc} {pos : Pos} {x : Str} {c1 c2 : Int} (hg : Gl X x) (hm : ∃ (a : Addr) (o : Obj) (its : Array Value) (n : Nat), X.mg x = some (.ref a) ∧ X.K.lookup a = some o ∧ o.cls = .type "tuple" ∧ o.data = .seq its n ∧ its.size ≤ sizeLine ∧ Vals [V.int c1, V.int c2] its.toList) (hd : (x == ("__debug__" : Str)) = false := by decide) :
    PE X (.Name x pos) (tE X.K L (tPair tInt tInt) fun _ ρ k => k (c1, c2) ρ) := by
  obtain ⟨a, o, its, n, hm, h1, h2, h3, h4, h5⟩ := hm
  refine pe_weak (pe_glob (v := V.ref a) hg hm rfl hd) fun σ H Q ⟨F, B, ρ, ω, k, oo, st, e1, q⟩ => ?_
  exact q B _ H (c1, c2) ρ (Sub.refl B) st ⟨a, _, rfl, .inr ⟨o, its, n, h1, h2, h3, h4, h5⟩, V.int c1, [V.int c2], rfl, rfl, V.int c2, rfl, rfl⟩ e1
end L3

/-! L3: a list or a tuple, walked; t.index(x) of data. -/
namespace L3
open PySem PySem.Spec PyProof.Rows L2
/-- a list that changes no more, or a tuple -/
def tSq {α : Type} (T : Ty α) : Ty (List α) where
  rep := fun K B v x => ∃ a vs, v = .ref a ∧ (SqL K B a vs ∨ SqT K B a vs) ∧ (rAll T).rep K B vs x
  mono := fun s ⟨a, vs, e, h, k⟩ => ⟨a, vs, e, h.imp s.seqL s.seqT, (rAll T).mono s k⟩
  nn := true
  nnok := fun _ _ _ _ _ ⟨a, vs, e, _⟩ z => by rw [e] at z; cases z
  to := false
  took := fun h => nomatch h
  em := T.em
  emok := fun h _ _ _ _ _ s ⟨a, vs, e, k, r⟩ => ⟨a, vs, e, k.imp s.seqL s.seqT, (rAll T).emok h s r⟩
def iSq (K : PySem.W.Frag) (tl : TE) : TI := fun σ H R => tl σ H fun x H1 => ∃ a, x = .ref a ∧ ((∃ xs, SqL K H1 a xs) ∧ R (Itl K a) H1 ∨ (∃ xs, SqT K H1 a xs) ∧ R (Itt K a) H1)
section
variable {X : Cx} {L : List Loc} {e tg : Expr} {α : Type} {T : Ty α}
theorem pi_sq {tl : TE} (hl : PE X e tl) : PI X tg e (iSq X.K tl) := by
  refine ⟨fun pins s σ H R I h => ?_⟩
  refine thn (hl.run pins s σ H _ I h) fun v s1 ⟨x, H1, I1, r1, q1⟩ => ?_
  obtain ⟨a, ea, q1⟩ := q1
  subst ea
  cases r1
  rcases q1 with ⟨⟨xs, hq⟩, q⟩ | ⟨⟨xs, hq⟩, q⟩
  · obtain ⟨its, rv, p, hz⟩ := I1.list hq
    refine wpAny_pyIter_list p.isList ?_
    refine ⟨s1.heap.objs.size, [s1.heap.objs.size], _, _, H1, rfl, I1.kept (t' := s1.toks) fun b o e => Heap.get?_push_of_some _ e, turn_list a _, ⟨_, Heap.get?_push_size _ rfl, rfl, rfl⟩, fun b hb => ?_, q⟩
    have e : b = s1.heap.objs.size := by simpa using hb
    subst e
    exact I1.fpOk (Nat.le_refl _) (I1.hok.fresh (Nat.le_refl _))
  · obtain ⟨its, rv, p, hz⟩ := I1.tuple hq
    refine wpAny_pyIter_tuple (show s1.heap.IsTuple a its.toArray from p) ?_
    refine ⟨s1.heap.objs.size, [s1.heap.objs.size], _, _, H1, rfl, I1.kept (t' := s1.toks) fun b o e => Heap.get?_push_of_some _ e, turn_tuple a _, ⟨_, Heap.get?_push_size _ rfl, rfl, rfl⟩, fun b hb => ?_, q⟩
    have e : b = s1.heap.objs.size := by simpa using hb
    subst e
    exact I1.fpOk (Nat.le_refl _) (I1.hok.fresh (Nat.le_refl _))
theorem i_sq {m : Mo L (List α)} (h : PE X e (tE X.K L (tSq T) m)) : PI X tg e (tIt X.K L T m) := by
  refine pi_weak (pi_sq h) fun σ H R ⟨F, B, ρ, ω, k, o, st, e1, q⟩ => ?_
  refine ⟨F, B, ρ, ω, k, o, st, e1, fun B' v H' xs ρ' s st' r e2 => ?_⟩
  obtain ⟨ad, vs, rfl, hl, r⟩ := r
  rcases hl with hl | hl
  · exact ⟨ad, rfl, .inl ⟨⟨vs, st'.sb.seqL hl⟩, q B' _ H' xs ρ' s st' (itl_ok hl r.1) e2⟩⟩
  · exact ⟨ad, rfl, .inr ⟨⟨vs, st'.sb.seqT hl⟩, q B' _ H' xs ρ' s st' (itt_ok hl r.1) e2⟩⟩
theorem y_lstSq {m : Mo L (List α)} (h : PE X e (tE X.K L (tLst T) m)) : PE X e (tE X.K L (tSq T) m) := by
  refine pe_weak h fun σ H Q ⟨F, B, ρ, ω, k, o, st, e1, q⟩ => ?_
  exact ⟨F, B, ρ, ω, k, o, st, e1, fun B' v H' x ρ' s st' ⟨a, vs, e, h, r⟩ e2 => q B' v H' x ρ' s st' ⟨a, vs, e, .inl (.inl (.inl h)), r⟩ e2⟩
theorem y_tupSq {m : Mo L (List α)} (h : PE X e (tE X.K L (tAll T) m)) : PE X e (tE X.K L (tSq T) m) := by
  refine pe_weak h fun σ H Q ⟨F, B, ρ, ω, k, o, st, e1, q⟩ => ?_
  exact ⟨F, B, ρ, ω, k, o, st, e1, fun B' v H' x ρ' s st' ⟨a, vs, e, h, r⟩ e2 => q B' v H' x ρ' s st' ⟨a, vs, e, .inr h, r⟩ e2⟩
end
/-! ### t.index(x), data -/
section
variable {X : Cx}
def rIndexT (K : PySem.W.Frag) : V → List V → Hp → VK → Prop := fun x xs H Q => ∃ (a : Addr) (y : V) (d : PyData) (ds : List PyData) (j : Nat) (z : PyData), x = V.ref a ∧ xs = [y] ∧ Dp K H (V.ref a) (.tuple ds) ∧ Dp K H y d ∧
  SeqAt.shaped (.tuple ds) = true ∧ SeqAt.shaped d = true ∧ ds[j]? = some z ∧ PyData.eqv z d = true ∧ (∀ (m : Nat) (z' : PyData), m < j → ds[m]? = some z' → PyData.eqv z' d = false) ∧ Q (.int (j : Nat)) H
theorem mt_tindexD (hu : X.A.units + 65 < cLine) : MtR X "tuple.index" (rIndexT X.K) := by
  intro pins s σ H x xs v us Q I rx rxs h
  obtain ⟨a, y, d, ds, j, z, rfl, rfl, hl, hy, sl, sd, hz, hzj, hno, q⟩ := h
  cases rx
  cases rxs with
  | cons ry rt =>
    rename_i uy ut
    cases rt
    obtain ⟨bs, r1⟩ := Dp.reads I d y uy hy ry
    have hxs : PyData.canLayAll0 ds = true := SeqAt.canLay_of_shaped sl
    have hroom : X.A.units + 1 + min (PyData.depthAll ds) d.depth < cLine := room_in_shaped sd hu
    cases hl with
    | tup hs ha =>
      obtain ⟨its, rv, ⟨⟨cls, dd, data, sls⟩, ho, hc, n, hdt⟩, hlen⟩ := I.tuple hs
      simp only at hc hdt
      subst hc hdt
      obtain ⟨as, h4⟩ := Dp.readsAll I ds _ its ha rv
      have hn : its.length = ds.length := SeqAt.ReadsAll.length ds its as h4
      have hmap : its.map (SeqAt.readOf s.heap) = ds := SeqAt.readsAll_map ds its as hxs h4
      have hvl := rv.length
      have hsl := sizeLine_eq
      obtain ⟨hjd, _⟩ := List.getElem?_eq_some_iff.mp hz
      have hjl : j < its.length := by omega
      have hj : j < its.toArray.size := by simpa using hjl
      have at_ : ∀ (m : Nat) (hm : m < its.toArray.size) (z' : PyData), ds[m]? = some z' → SeqAt.readOf s.heap its.toArray[m] = z' := by
        intro m hm z' hz'
        have hml : m < its.length := by simpa using hm
        rw [← hmap, List.getElem?_map, List.getElem?_eq_getElem hml] at hz'
        have e1 : SeqAt.readOf s.heap its[m] = z' := Option.some.inj (show some (SeqAt.readOf s.heap its[m]) = some z' from hz')
        simpa using e1
      refine call_meets PySem.F.slot_tuple_index ⟨_, ho, rfl⟩ PySem.F.entry_tuple_index (PySem.F.args_tuple_index_2 _ _)
        (TI.tuple_indexAt a its.toArray n dd sls uy (fun u => PyData.eqv (SeqAt.readOf s.heap u) d) j hj ?_ ?_) ⟨ho, SeqAt.items_eqAt (vs := its.toArray) (show ReadsAll s.heap its.toArray.toList ds as from h4) r1 hxs (SeqAt.canLay_of_shaped sd) hroom, ?_⟩
      · show PyData.eqv (SeqAt.readOf s.heap its.toArray[j]) d = true
        rw [at_ j hj z hz]
        exact hzj
      · intro m hm hmj
        have hmd : m < ds.length := by omega
        have hz' : ds[m]? = some ds[m] := List.getElem?_eq_getElem hmd
        show PyData.eqv (SeqAt.readOf s.heap its.toArray[m]) d = false
        rw [at_ m hm _ hz']
        exact hno m _ hmj hz'
      · exact ⟨.int (j : Nat), H, I.tok _, ⟨_, rfl⟩, q⟩
end
section
variable {X : Cx} {L : List Loc} {o e : Expr} {cpos apos : Pos}
theorem y_tindexD {α : Type} {T : Ty α} [DecidableEq α] {mo : Mo L (List α)} {ma : Mo L α} (d : Emb T) (hu : X.A.units + 65 < cLine) (ho : PE X o (tE X.K L (tAllD T) mo)) (ha : PE X e (tE X.K L T ma)) (h : (d.ly && decide (d.dn < 64)) = true := by rfl)
    (hbase : attributeBase o "index" X.env (eval o X.env) = eval o X.env := by rfl)
    (hfew : ((backTo cpos (starEach [e] X.env)).all (fun x => !x.1) && (backToKw cpos (keywordEach [] X.env)).all (fun x => x.1.isSome) && decide (([e] : List Expr).length + ([] : List Keyword).length + (if ([] : List Keyword).isEmpty then 0 else 1) < 30)) = true := by rfl)
    (hline : (apos.endLine == cpos.line) = true := by rfl) (hs : starEach [e] X.env = (false, eval e X.env) :: starEach [] X.env := by rfl) (hplain : (backTo cpos (starEach [] X.env)).any (·.1) = false := by rfl) :
    PE X (.Call (.Attribute o "index" apos) [e] [] cpos) (tE X.K L tInt fun ω ρ k => mo ω ρ fun xs ρ1 => ma ω ρ1 fun x ρ2 => (indexC xs x).bind fun z => k z ρ2) := by
  refine pe_weak (pe_bmX PySem.F.slot_tuple_index PySem.F.type_tuple_index (mt_tindexD hu) ho (pa_cons ha pa_nil hs) hbase hfew hline hs hplain) fun σ H Q ⟨F, B, ρ, ω, k, oo, st, e1, q⟩ => ?_
  refine ⟨F, B, ρ, ω, _, oo, st, e1, fun B' v H' xs ρ1 s st' rv e2 => ?_⟩
  have rv0 := tupD_tup rv
  obtain ⟨a, vs, rfl, ⟨ob, hq, hd⟩, _⟩ := rv
  refine ⟨⟨a, ob, vs, rfl, st'.sb _ _ hq, hd⟩, F, B', ρ1, ω, _, oo, st', e2, fun B2 w H2 x ρ2 s2 st2 rw2 e3 => ?_⟩
  obtain ⟨z, e4, e5⟩ := bind_some e3
  unfold indexC at e4
  cases e6 : ixOf x xs with
  | none => rw [e6] at e4; exact nomatch e4
  | some j =>
    rw [e6] at e4
    cases e4
    obtain ⟨g1, g2⟩ := ixOf_some e6
    have h2 : ((dAll d).ly && decide ((dAll d).dn ≤ 64)) = true := h
    have h1 : (d.ly && decide (d.dn ≤ 64)) = true := by
      rw [Bool.and_eq_true] at h ⊢
      exact ⟨h.1, decide_eq_true (Nat.le_of_lt (of_decide_eq_true h.2))⟩
    refine ⟨a, w, d.to x, xs.map d.to, j, d.to x, rfl, rfl, Dp.up st2.sb ((dAll d).rep ((tAll T).mono s2 rv0)), Dp.up st2.sb (d.rep rw2), (dAll d).shp h2 xs, d.shp h1 x, ?_, d.eqv.mpr rfl, ?_, ?_⟩
    · rw [List.getElem?_map, g1]
      rfl
    · intro m z' hm hz
      rw [List.getElem?_map] at hz
      cases e7 : xs[m]? with
      | none => rw [e7] at hz; exact nomatch hz
      | some y =>
        rw [e7] at hz
        cases hz
        cases e8 : PyData.eqv (d.to y) (d.to x) with
        | false => rfl
        | true => exact absurd (d.eqv.mp e8) (g2 m y hm e7)
    · exact q B2 _ H2 _ ρ2 (s.trans s2) st2 rfl e5
end
end L3

/-! L3: sorted() of tuples of any length, none of them empty. -/
namespace L3
open PySem PySem.Spec PyProof.Rows L2 PySem.W
section
variable {X : Cx} {K : Fg}
theorem cr_sortNE {α : Type} {T : L3.Ty α} {d : Emb T} (u : Ord d) (hd : d.dn ≤ 60) (hu : X.A.units + 64 < cLine) : CallR X (.builtin "sorted") (fun vs H Q => ∃ (B : Hp) (a : Addr) (xs : List α) (us : List V), Sub B H ∧ vs = [V.ref a] ∧ SqL X.K H a us ∧ Paired (T.rep X.K B) us xs ∧ (∀ x ∈ xs, ∃ y r, d.to x = .tuple (y :: r)) ∧
    ∀ (ys : List V) (p : Addr), Paired (T.rep X.K B) ys (sortU u.lt xs) → H p = none → Q (.ref p) (upd H p (.lst ys))) := by
  intro pins s σ H vs us Q I r ⟨B, a, xs, ws, sb, e0, sq, pr, hs, q⟩
  subst e0
  obtain ⟨its, rv, hl, hz⟩ := I.list sq
  rw [Vals.ref1 r]
  have hn := Paired.length pr
  refine sorted_data (R := fun u x => ∃ v, RelV v u ∧ T.rep X.K B v x) (enc := d.to) (bs := xs) hl.isList (P_each pr rv fun v u x f r => ⟨v, r, f⟩) (P_each pr rv fun v u x f r => Dp.reads I (d.to x) v u (d.rep (T.mono sb f)) r) (alike_of u xs) (sortable_of (.inl hs)) (by rw [← hn]; exact hz) (fun b _ => ?_) fun out ho he => ?_
  · have := d.dep b
    omega
  · rw [dataLe_ord u] at he
    obtain ⟨ys, rv2, pr2⟩ := each_P he
    obtain ⟨ep, he'⟩ := PyProof.Rows.sortedAll_at s.heap its out.toArray
    have hlen : ys.length ≤ sizeLine := by
      rw [Paired.length pr2, List.length_mergeSort, ← hn]
      exact hz
    exact ⟨.ref _, upd H (s.heap.objs.size + 1) (.lst ys), I.laid (t' := s.toks) (fun _ _ => PyProof.Rows.sortedAll_old) (Nat.le_succ _) ⟨hlen, out, ep, rv2, he'⟩, rfl, q ys _ pr2 (I.hok.fresh (Nat.le_succ _))⟩
theorem c_sortNE {α : Type} {T : L3.Ty α} {d : Emb T} (u : Ord (dAll d)) : OpNO K (fun vs H Q => ∃ (B : Hp) (a : Addr) (xs : List (List α)) (us : List V), Sub B H ∧ vs = [V.ref a] ∧ SqL K H a us ∧ Paired ((tAll T).rep K B) us xs ∧ (∀ x ∈ xs, ∃ y r, (dAll d).to x = .tuple (y :: r)) ∧
    ∀ (ys : List V) (p : Addr), Paired ((tAll T).rep K B) ys (sortU u.lt xs) → H p = none → Q (.ref p) (upd H p (.lst ys))) (rOne (tLst (tAll T))) (oLst (tAll T)) fun x => if x.all (fun y => !y.isEmpty) = true then some (sortU u.lt x) else none := fun {B H y z vs Q} s ⟨v, e1, h⟩ e q => by
  subst e1
  try dsimp only at e
  split at e
  · rename_i hne
    cases e
    obtain ⟨a, ws, rfl, sq, pr, hl⟩ := h
    refine ⟨B, a, y, ws, s, rfl, .inl (.inl (s _ _ sq)), pr, fun x hx => ?_, fun ys p pr2 hp => q p _ hp ⟨ys, rfl, pr2, by unfold sortU; rw [List.length_mergeSort]; exact hl⟩⟩
    have := List.all_eq_true.mp hne x hx
    cases x with
    | nil => simp at this
    | cons b l => exact ⟨d.to b, l.map d.to, rfl⟩
  · cases e
end
end L3

/-! L3: ranges kept as values; math.gcd. -/
namespace L3
open PySem PySem.Spec PyProof PyProof.Rows L2
/-- a range object -/
def tRng : Ty (Int × Int) where
  rep := fun _ B v x => ∃ a, v = .ref a ∧ B a = some (.rng x.1 x.2)
  mono := fun s ⟨a, e, h⟩ => ⟨a, e, s _ _ h⟩
  nn := true
  nnok := fun _ _ _ _ _ ⟨a, e, _⟩ z => by rw [e] at z; cases z
  to := false
  took := fun h => nomatch h
  em := true
  emok := fun _ _ _ _ _ _ s ⟨a, e, h⟩ => ⟨a, e, s _ _ h rfl⟩
/-! casts: a value seen as of a wider type -/
def Cast {α β : Type} (T : Ty α) (U : Ty β) (f : α → β) : Prop := ∀ {K B v x}, T.rep K B v x → U.rep K B v (f x)
def CastR {α β : Type} (T : Tys α) (U : Tys β) (f : α → β) : Prop := ∀ {K B vs x}, T.rep K B vs x → U.rep K B vs (f x)
theorem cId {α : Type} {T : Ty α} : Cast T T fun x => x := fun h => h
theorem cSome {α β : Type} {T : Ty α} {U : Ty β} {f : α → β} (c : Cast T U f) (hn : U.nn = true := by rfl) : Cast T (tOpt U) fun x => some (f x) := fun h => ⟨c h, U.nnok hn (c h)⟩
theorem cOpt {α β : Type} {T : Ty α} {U : Ty β} {f : α → β} (c : Cast T U f) : Cast (tOpt T) (tOpt U) fun x => x.map f := fun {K B v x} h => by
  cases x with
  | none => exact h
  | some y => exact ⟨c h.1, h.2⟩
theorem cD {β : Type} {R : Tys β} : Cast (tTupD R) (tTup R) fun x => x := fun h => tupD_tup h
theorem cTup {β γ : Type} {R : Tys β} {S : Tys γ} {f : β → γ} (c : CastR R S f) : Cast (tTup R) (tTup S) f := fun ⟨a, vs, e, h, k⟩ => ⟨a, vs, e, h, c k⟩
theorem cTupD {β γ : Type} {R : Tys β} {S : Tys γ} {f : β → γ} (c : CastR R S f) : Cast (tTupD R) (tTupD S) f := fun ⟨a, vs, e, h, k⟩ => ⟨a, vs, e, h, c k⟩
theorem cTupDT {β γ : Type} {R : Tys β} {S : Tys γ} {f : β → γ} (c : CastR R S f) : Cast (tTupD R) (tTup S) f := fun h => cTup c (tupD_tup h)
theorem kOne {α β : Type} {T : Ty α} {U : Ty β} {f : α → β} (c : Cast T U f) : CastR (rOne T) (rOne U) f := fun ⟨v, e, h⟩ => ⟨v, e, c h⟩
theorem kCons {α β γ δ : Type} {T : Ty α} {U : Ty β} {R : Tys γ} {S : Tys δ} {f : α → β} {g : γ → δ} (c : Cast T U f) (d : CastR R S g) : CastR (rCons T R) (rCons U S) fun x => (f x.1, g x.2) := fun ⟨v, r, e, h, k⟩ => ⟨v, r, e, c h, d k⟩
theorem kAll {α β : Type} {T : Ty α} {U : Ty β} {f : α → β} (c : Cast T U f) : CastR (rAll T) (rAll U) fun x => x.map f := fun ⟨p, l⟩ => ⟨P_map2 c p, by rw [List.length_map]; exact l⟩
  where P_map2 {α β : Type} {T : Ty α} {U : Ty β} {f : α → β} (c : Cast T U f) {K : Fg} {B : Hp} : ∀ {vs : List V} {xs : List α}, Paired (T.rep K B) vs xs → Paired (U.rep K B) vs (xs.map f)
    | _, _, .nil => .nil
    | _, _, .cons a h => .cons (c a) (P_map2 c h)
theorem cLst {α β : Type} {T : Ty α} {U : Ty β} {f : α → β} (c : Cast T U f) : Cast (tLst T) (tLst U) fun x => x.map f := fun ⟨a, vs, e, h, k⟩ => ⟨a, vs, e, h, kAll c k⟩
theorem k1All {α β : Type} {T : Ty α} {U : Ty β} {f : α → β} (c : Cast T U f) : CastR (rOne T) (rAll U) fun x => [f x] := fun ⟨v, e, h⟩ => by subst e; exact ⟨.cons (c h) .nil, by rw [sizeLine_eq]; exact (by decide : 1 ≤ 16777216)⟩
theorem kNAll {α β γ : Type} {T : Ty α} {U : Ty β} {R : Tys γ} {f : α → β} {g : γ → List β} (c : Cast T U f) (d : CastR R (rAll U) g) (n : Nat) (hl : ∀ {K B vs x}, R.rep K B vs x → vs.length = n) (hn : n < 16777216 := by decide) : CastR (rCons T R) (rAll U) fun x => f x.1 :: g x.2 := fun ⟨v, r, e, h, k⟩ => by
  subst e
  refine ⟨.cons (c h) (d k).1, ?_⟩
  have h1 := hl k
  rw [Paired.length (d k).1] at h1
  rw [List.length_cons, sizeLine_eq]; omega
theorem y_castG {X : Cx} {K : Fg} {L : List L3.Loc} {e : Expr} {α β : Type} {T : Ty α} {U : Ty β} {f : α → β} {m : Mo L α} (c : Cast T U f) (h : PE X e (tE K L T m)) : PE X e (tE K L U fun ω ρ k => m ω ρ fun x ρ' => k (f x) ρ') := y_cast f (fun r => c r) h
section
variable {X : Cx} {K : Fg} {L : List L3.Loc} {tg e : Expr} {es : List Expr} {x : Str} {p pos : Pos}
theorem cr_range1 : CallR X (.type "range") (fun vs H Q => ∃ j, vs = [V.int j] ∧ ∀ p, H p = none → Q (.ref p) (upd H p (.rng 0 j))) := by
  intro pins s σ H vs us Q I r h
  obtain ⟨j, rfl, q⟩ := h
  cases r with
  | cons r rr =>
    cases rr
    obtain ⟨t, rfl⟩ := r
    refine call_range_1 ⟨.ref s.heap.objs.size, upd H s.heap.objs.size (.rng 0 j), I.laid (t' := s.toks + 2) (fun b o e => Heap.get?_push_of_some _ e) (Nat.le_refl _) ?_, rfl, q _ (I.hok.fresh (Nat.le_refl _))⟩
    exact ⟨_, _, _, Heap.get?_push_size _ rfl⟩
theorem c_range1 : OpN K (fun vs H Q => ∃ j, vs = [V.int j] ∧ ∀ p, H p = none → Q (.ref p) (upd H p (.rng 0 j))) (rOne tInt) tRng fun y => some (0, y) := fun {B H y z vs Q} s ⟨v, e1, h⟩ e q => by
  cases e1; cases h; cases e
  exact ⟨y, rfl, fun p hp => q _ _ _ (Grow.new s hp) ⟨p, rfl, upd_same⟩⟩
theorem c_range2 : OpN K (fun vs H Q => ∃ i j, vs = [V.int i, V.int j] ∧ ∀ p, H p = none → Q (.ref p) (upd H p (.rng i j))) (rCons tInt (rOne tInt)) tRng fun y => some y := fun {B H y z vs Q} s h e q => by
  obtain ⟨v, _, rfl, r, w, rfl, r2⟩ := h
  cases r; cases r2; cases e
  exact ⟨_, _, rfl, fun p hp => q _ _ _ (Grow.new s hp) ⟨p, rfl, upd_same⟩⟩
theorem range_at {pins : List (Addr × Obj)} {σ : L2.St} {H : L2.Hp} {s : Shared} {R : It → Hp → Prop} {E : Value → Shared → Prop} {lo hi : Int} {a : Addr} (I : Inv X pins σ H s) (ha : H a = some (.rng lo hi))
    (q : R (Itc lo 1 (hi - lo).toNat) H) : wpAny (model X.prog X.w) X.A (pyIter (.ref a)) (PIE X pins σ tg R) E s := by
  obtain ⟨t, u, v, hr⟩ := I.hok a _ ha
  have e1 : lo + ((0 : Nat) : Int) * 1 = lo := by simp
  have e2 : (((hi - lo).toNat : Nat) : Int) - ((0 : Nat) : Int) = Builtin.Range.rangeSize lo hi 1 := by rw [rangeSize_one]; split <;> omega
  cases sm : Builtin.Range.small lo hi 1 with
  | true =>
    refine wpAny_pyIter_range hr sm ?_
    refine pi_one I _ (turn_rangeC _ lo 1 (hi - lo).toNat) ?_ q
    show IsRangeIter _ _ (lo + ((0 : Nat) : Int) * 1) ((((hi - lo).toNat : Nat) : Int) - ((0 : Nat) : Int)) 1
    rw [e1, e2]
    exact Heap.get?_push_size _ rfl
  | false =>
    refine wpAny_pyIter_longrange hr sm ?_
    refine pi_one I _ (turn_long _ lo 1 (hi - lo).toNat) ?_ q
    show IsLongIter _ _ (lo + ((0 : Nat) : Int) * 1) ((((hi - lo).toNat : Nat) : Int) - ((0 : Nat) : Int)) 1
    rw [e1, e2]
    exact Heap.get?_push_size _ rfl
theorem i_rng {m : Mo L (Int × Int)} (h : PE X e (tE K L tRng m)) : PI X tg e (tIt K L tInt fun ω ρ k => m ω ρ fun y ρ' => (rngW y.1 y.2).bind fun z => k z ρ') := by
  refine ⟨fun pins s σ H R I hq => ?_⟩
  obtain ⟨F, B, ρ, ω, k, o, st, e1, q⟩ := hq
  refine thn (h.run pins s σ H (fun v H' => ∃ a lo hi, v = .ref a ∧ H' a = some (.rng lo hi) ∧ R (Itc lo 1 (hi - lo).toNat) H') I ⟨F, B, ρ, ω, _, o, st, e1, fun B' v H' y ρ' s st' r e2 => ?_⟩) fun v s1 ⟨y, H1, I1, r, a, lo, hi, ey, ha, q1⟩ => ?_
  · rw [rngW_eq, Option.bind_some] at e2
    obtain ⟨a, e, ha⟩ := r
    exact ⟨a, y.1, y.2, e, st'.sb _ _ ha, q B' _ H' _ ρ' s st' itc_one e2⟩
  · subst ey
    cases r
    exact range_at I1 ha q1
theorem op_notIn_rng : OpR X (compareOp .NotIn) (fun x y H Q => ∃ i a lo hi, x = V.int i ∧ y = V.ref a ∧ H a = some (.rng lo hi) ∧ Q (.bl (!decide (lo ≤ i ∧ i < hi))) H) := by
  intro pins s σ H x y v u Q I rx ry h
  obtain ⟨i, a, lo, hi, rfl, rfl, ha, q⟩ := h
  obtain ⟨k, rfl⟩ := rx
  obtain rfl : u = Value.ref a := ry
  obtain ⟨t1, t2, t3, ho⟩ := I.hok a _ ha
  show wpAny _ _ (do return Value.bool (!(← contains (Value.ref a) (Value.int i k)))) _ _ s
  refine wpAny_bind (wpAny_contains_slot (T := "range") ⟨_, ho, rfl⟩ F.slot_range_contains (call_meets F.slot_range_contains ⟨_, ho, rfl⟩ F.entry_range_contains (F.args_range_contains_2 _ _) (q_contains a lo hi i t1 t2 t3 k)
    ⟨ho, wpAny_truthy_bool (wpAny_pure ⟨.bl _, H, I, rfl, ?_⟩)⟩))
  rw [place1]
  exact q
theorem o_inRng : Op2 K (fun x y H Q => ∃ i a lo hi, x = V.int i ∧ y = V.ref a ∧ H a = some (.rng lo hi) ∧ Q (.bl (decide (lo ≤ i ∧ i < hi))) H) tInt tRng tBool fun x y => some (decide (y.1 ≤ x ∧ x < y.2)) := fun {B H x y z v w Q} s hx hy e q => by
  cases hx; cases e
  obtain ⟨a, rfl, ha⟩ := hy
  exact ⟨x, a, y.1, y.2, rfl, rfl, s _ _ ha, q _ _ _ (gr0 s) rfl⟩
theorem o_notInRng : Op2 K (fun x y H Q => ∃ i a lo hi, x = V.int i ∧ y = V.ref a ∧ H a = some (.rng lo hi) ∧ Q (.bl (!decide (lo ≤ i ∧ i < hi))) H) tInt tRng tBool fun x y => some (!decide (y.1 ≤ x ∧ x < y.2)) := fun {B H x y z v w Q} s hx hy e q => by
  cases hx; cases e
  obtain ⟨a, rfl, ha⟩ := hy
  exact ⟨x, a, y.1, y.2, rfl, rfl, s _ _ ha, q _ _ _ (gr0 s) rfl⟩
theorem c_gcd : OpN K rGcd (rCons tInt (rOne tInt)) tInt fun y => some ((Nat.gcd y.1.natAbs y.2.natAbs : Nat) : Int) := fun {B H y z vs Q} s h e q => by
  obtain ⟨v, _, rfl, r, w, rfl, r2⟩ := h
  cases r; cases r2; cases e
  exact ⟨_, _, rfl, q _ _ _ (gr0 s) rfl⟩
theorem y_cF {id : String} {r : List V → Hp → VK → Prop} {β γ : Type} {R : Tys β} {Tc : Ty γ} {g : β → Option γ} {m : Mo L β} (hc : CallR X (.builtin id) r) (h : OpN K r R Tc g) (hg : Gl X x) (hm : X.mg x = some (.builtin id)) (ha : PA X (e :: es) (tAr K L R m)) (hdb : (x == ("__debug__" : Str)) = false := by decide)
    (he : starEach (e :: es) X.env = (false, eval e X.env) :: starEach es X.env := by rfl) (hpl : (backTo pos (starEach es X.env)).any (·.1) = false := by rfl) : PE X (.Call (.Name x p) (e :: es) [] pos) (tE K L Tc fun ω ρ k => m ω ρ fun x ρ' => (g x).bind fun z => k z ρ') :=
  pe_weak (pe_callBfun hc hg hm ha hdb he hpl) fun σ H Q w => cN_fin h w
end
end L3

/-! L3: texts joined, split, made small. -/
namespace L3
open PySem PySem.Spec PyProof PyProof.Rows L2
/-- sep.join(ys) -/
def joinC (a : Str) (ys : List Str) : Option Str := if (ys.map (·.length)).sum + ys.length * a.length ≤ 16777216 then some (Txt.join a ys) else none
theorem joinC_ok {a : Str} {ys : List Str} (h : (ys.map (·.length)).sum + ys.length * a.length ≤ 16777216) : joinC a ys = some (Txt.join a ys) := if_pos h
def splitC (a b : Str) : Option (List Str) := if (b.length == 0) = false ∧ a.length + 2 ≤ 16777216 ∧ (Txt.split a b).length ≤ 16777216 then some (Txt.split a b) else none
def lowerC (a : Str) : Option Str := if a.length ≤ 5592405 then some (Txt.lower a) else none
def stripC (a : Str) : Option Str := if a.length ≤ 16777216 then some (Txt.strip a) else none
theorem P_ofStrs {K : Fg} {B : Hp} : ∀ ys : List Str, Paired (tStr.rep K B) (ys.map V.str) ys
  | [] => .nil
  | _ :: ys => .cons rfl (P_ofStrs ys)
section
variable {X : Cx} {L : List L3.Loc} {o e : Expr} {apos pos : Pos}
theorem y_joinL {mo : Mo L Str} {me : Mo L (List Str)} (ho : PE X o (tE X.K L tStr mo)) (he : PE X e (tE X.K L (tLst tStr) me)) (hs : starEach [e] X.env = [(false, eval e X.env)] := by rfl) (hbase : attributeBase o "join" X.env (eval o X.env) = eval o X.env := by rfl) (hline : (apos.endLine == pos.line) = true := by rfl) :
    PE X (.Call (.Attribute o "join" apos) [e] [] pos) (tE X.K L tStr (bin2 mo me joinC)) := by
  refine pe_weak (pe_join ho he hs hbase hline) fun σ H Q ⟨F, B, ρ, ω, k, oo, st, e1, q⟩ => ?_
  refine ⟨F, B, ρ, ω, _, oo, st, e1, fun B' v H' x ρ1 s st' r e2 => ⟨⟨x, r⟩, F, B', ρ1, ω, _, oo, st', e2, fun B2 w H2 y ρ2 s2 st2 r2 e3 => ?_⟩⟩
  obtain ⟨z, e4, e5⟩ := bind_some e3
  unfold joinC at e4
  split at e4
  case isFalse => cases e4
  rename_i hl
  cases e4
  cases r
  obtain ⟨p, vs, rfl, hp, rp, _⟩ := r2
  rw [P_strs rp] at hp
  exact ⟨x, p, y, rfl, rfl, .inl (.inl (.inl (st2.sb _ _ hp))), hl, q B2 _ H2 _ _ (s.trans s2) st2 rfl e5⟩
theorem y_joinT {mo : Mo L Str} {me : Mo L (List Str)} (ho : PE X o (tE X.K L tStr mo)) (he : PE X e (tE X.K L (tAll tStr) me)) (hs : starEach [e] X.env = [(false, eval e X.env)] := by rfl) (hbase : attributeBase o "join" X.env (eval o X.env) = eval o X.env := by rfl) (hline : (apos.endLine == pos.line) = true := by rfl) :
    PE X (.Call (.Attribute o "join" apos) [e] [] pos) (tE X.K L tStr (bin2 mo me joinC)) := by
  refine pe_weak (pe_join ho he hs hbase hline) fun σ H Q ⟨F, B, ρ, ω, k, oo, st, e1, q⟩ => ?_
  refine ⟨F, B, ρ, ω, _, oo, st, e1, fun B' v H' x ρ1 s st' r e2 => ⟨⟨x, r⟩, F, B', ρ1, ω, _, oo, st', e2, fun B2 w H2 y ρ2 s2 st2 r2 e3 => ?_⟩⟩
  obtain ⟨z, e4, e5⟩ := bind_some e3
  unfold joinC at e4
  split at e4
  case isFalse => cases e4
  rename_i hl
  cases e4
  cases r
  obtain ⟨p, vs, rfl, hp, rp, _⟩ := r2
  rw [P_strs rp] at hp
  exact ⟨x, p, y, rfl, rfl, .inr (st2.sb.seqT hp), hl, q B2 _ H2 _ _ (s.trans s2) st2 rfl e5⟩
theorem y_split {mo me : Mo L Str} (ho : PE X o (tE X.K L tStr mo)) (he : PE X e (tE X.K L tStr me)) (hs : starEach [e] X.env = [(false, eval e X.env)] := by rfl) (hbase : attributeBase o "split" X.env (eval o X.env) = eval o X.env := by rfl) (hline : (apos.endLine == pos.line) = true := by rfl) :
    PE X (.Call (.Attribute o "split" apos) [e] [] pos) (tO X.K L (oLst tStr) (bin2 mo me splitC)) := by
  refine pe_weak (pe_split ho he hs hbase hline) fun σ H Q ⟨F, B, ρ, ω, k, oo, st, e1, q⟩ => ?_
  refine ⟨F, B, ρ, ω, _, oo, st, e1, fun B' v H' x ρ1 s st' r e2 => ⟨⟨x, r⟩, F, B', ρ1, ω, _, oo, st', e2, fun B2 w H2 y ρ2 s2 st2 r2 e3 => ?_⟩⟩
  obtain ⟨z, e4, e5⟩ := bind_some e3
  unfold splitC at e4
  split at e4
  case isFalse => cases e4
  rename_i hl
  cases e4
  cases r; cases r2
  refine ⟨x, y, rfl, rfl, hl.1, by rw [sizeLine_eq]; exact hl.2.1, fun p hp => ?_⟩
  obtain ⟨own, S, g1, g2, g3, g4⟩ := st2.made (o := HO.lst ((Txt.split x y).map V.str)) hp
  exact q B2 p _ _ own (Txt.split x y) ρ2 (s.trans s2) S g1 ⟨_, rfl, P_ofStrs _, by rw [sizeLine_eq]; exact hl.2.2⟩ g2 g3 g4 e5
theorem y_lower {mo : Mo L Str} (ho : PE X o (tE X.K L tStr mo)) (hbase : attributeBase o "lower" X.env (eval o X.env) = eval o X.env := by rfl) (hline : (apos.endLine == pos.line) = true := by rfl) :
    PE X (.Call (.Attribute o "lower" apos) [] [] pos) (tE X.K L tStr fun ω ρ k => mo ω ρ fun x ρ' => (lowerC x).bind fun z => k z ρ') := by
  refine pe_weak (pe_lower ho hbase hline) fun σ H Q ⟨F, B, ρ, ω, k, oo, st, e1, q⟩ => ?_
  refine ⟨F, B, ρ, ω, _, oo, st, e1, fun B' v H' x ρ1 s st' r e2 => ?_⟩
  obtain ⟨z, e4, e5⟩ := bind_some e2
  unfold lowerC at e4
  split at e4
  case isFalse => cases e4
  rename_i hl
  cases e4
  cases r
  exact ⟨⟨x, rfl⟩, x, rfl, rfl, hl, q B' _ H' _ _ s st' rfl e5⟩
theorem y_strip {mo : Mo L Str} (ho : PE X o (tE X.K L tStr mo)) (hbase : attributeBase o "strip" X.env (eval o X.env) = eval o X.env := by rfl) (hline : (apos.endLine == pos.line) = true := by rfl) :
    PE X (.Call (.Attribute o "strip" apos) [] [] pos) (tE X.K L tStr fun ω ρ k => mo ω ρ fun x ρ' => (stripC x).bind fun z => k z ρ') := by
  refine pe_weak (pe_strip ho hbase hline) fun σ H Q ⟨F, B, ρ, ω, k, oo, st, e1, q⟩ => ?_
  refine ⟨F, B, ρ, ω, _, oo, st, e1, fun B' v H' x ρ1 s st' r e2 => ?_⟩
  obtain ⟨z, e4, e5⟩ := bind_some e2
  unfold stripC at e4
  split at e4
  case isFalse => cases e4
  rename_i hl
  cases e4
  cases r
  exact ⟨⟨x, rfl⟩, x, rfl, rfl, by rw [sizeLine_eq]; exact hl, q B' _ H' _ _ s st' rfl e5⟩
end
end L3

/-! L3: sorted() of tuples of which some may be empty. -/
namespace PySem.W
open PySem PySem.Calls PyProof.Rows PySem.SeqAt
section
variable {prog : Program} {w : World} {A : Around} {E : Value → Shared → Prop} {s : Shared}
theorem call_tuple_ltZ {Q : Value → Shared → Prop} {l b : Addr} {items items2 : Array Value} {e r : Nat → Bool} (hl : s.heap.IsTuple l items) (hb : s.heap.IsTuple b items2)
    (he : ∀ j (h1 : j < items.size) (h2 : j < items2.size), EqAt A.in1 s items[j] items2[j] (e j)) (hr : ∀ j (h1 : j < items.size) (h2 : j < items2.size), e j = false → RcLt A.in1 s items[j] items2[j] (r j))
    (h : Q (.bool (firstLt e r (decide (items.size < items2.size)) (List.range (min items.size items2.size)))) s) : wpAny (model prog w) A (call (.builtin "tuple.__lt__") [.ref l, .ref b]) Q E s := by
  obtain ⟨⟨cls, dd, data, sl⟩, ho, hc, n, hd⟩ := id hl
  obtain ⟨⟨cls2, dd2, data2, sl2⟩, ho2, hc2, n2, hd2⟩ := id hb
  simp only at hc hd hc2 hd2
  subst hc hd hc2 hd2
  exact call_meets F.slot_tuple_lt ⟨_, ho, rfl⟩ F.entry_tuple_lt (F.args_tuple_lt_2 _ _) (tuple_ltAt l b items items2 n n2 dd dd2 sl sl2 e r) ⟨ho, ho2, he, hr, h⟩
theorem oneLt_tuplesZ {xs ys : List PyData} {a b : Value} {as bs : List Addr} {Q : Bool → Shared → Prop} (ra : Reads s.heap a (.tuple xs) as) (rb : Reads s.heap b (.tuple ys) bs) (h : alike (.tuple xs) (.tuple ys) = true)
    (hu : A.units + min (PyData.tuple xs).depth (PyData.tuple ys).depth < cLine) (hq : Q (dataLt (.tuple xs) (.tuple ys)) s) : wpAny (model prog w) A (oneLt' true a b) Q E s := by
  have hal : alikeAll xs ys = true := by simpa [alike] using h
  cases ra with
  | @tuple l o vs n _ as₁ h1 h2 h3 h4 =>
    cases rb with
    | @tuple l' o' vs' n' _ bs₁ k1 k2 k3 k4 =>
      have n1 : vs.size = xs.length := by simpa using ReadsAll.length _ _ _ h4
      have n2 : vs'.size = ys.length := by simpa using ReadsAll.length _ _ _ k4
      rw [dataLt_tuple, ← firstLt_toks xs ys hal, ← n1, ← n2] at hq
      rw [oneLt'_eq]
      simp only [if_true]
      refine wpAny_bind (wpAny_cRoomFor (room_here hu) ?_)
      refine wpAny_bind (wpAny_callSpecialIfBound?_slot (T := "tuple") ⟨_, h1, h2⟩ F.slot_tuple_lt (call_tuple_ltZ (e := pairEq xs ys) (r := fun j => dataLt (xs.getD j .none) (ys.getD j .none)) ⟨_, h1, h2, _, h3⟩ ⟨_, k1, k2, _, k3⟩ (fun j j1 j2 => ?_) (fun j j1 j2 hj => ?_) ?_))
      · have := eqAt_alikeAll xs ys A.in1 s vs.toList vs'.toList _ _ h4 k4 hal (room_in hu) j (by simpa using j1) (by simpa using j2)
        simpa using this
      · have := rcLt_alikeAll xs ys A.in1 s vs.toList vs'.toList _ _ h4 k4 hal (room_in hu) j (by simpa using j1) (by simpa using j2) hj
        simpa using this
      · exact wpAny_truthy_bool hq
end
def TupV (h : Heap) (v : Value) (f : Option Value) : Prop := ∃ a o xs n, v = .ref a ∧ h.get? a = some o ∧ o.cls = .type "tuple" ∧ o.data = .seq xs n ∧ f = xs[0]?
section
variable {M : Model} {A : Around} {E : Value → Shared → Prop} {s : Shared}
theorem firsts_opt : ∀ (vs : List Value) (fs : List (Option Value)) {Q : List (Option Value) → Shared → Prop}, EachIs (TupV s.heap) vs fs → Q fs s → wpAny M A (vs.mapM firstOfTuple') Q E s
  | _, _, _, .nil, h => by rw [List.mapM_nil]; exact wpAny_pure h
  | v :: vs, f :: fs, Q, .cons ht t, h => by
    obtain ⟨a, o, xs, n, rfl, ho, hc, hd, hf⟩ := ht
    rw [List.mapM_cons]
    refine wpAny_bind ?_
    rw [kas_first_eq]
    refine wpAny_bind (Looks.here (show Looks M s.heap (typeOf (.ref a)) o.cls from (Looks.ld ho).andThen .now) ?_)
    rw [hc, if_neg (by first | decide | simp)]
    refine wpAny_bind (listItems_at ho hd (wpAny_pure ?_))
    rw [← hf]
    exact wpAny_bind (firsts_opt vs fs (Q := fun bs s' => wpAny M A (pure (f :: bs)) Q E s') t (wpAny_pure h))
theorem kind_tups {vs : List Value} {fs : List (Option Value)} {Q : SortKind → Shared → Prop} (t : EachIs (TupV s.heap) vs fs) (h2 : 0 < vs.length) (hn : fs.all (·.isSome) = false) (h : Q (if ((fs[0]?).bind id).isSome then general' else oneType') s) :
    wpAny M A (keyKind' vs.toArray) Q E s := by
  rw [kat_kind_eq, List.mapM_toArray, map_eq_pure_bind]
  refine wpAny_bind (wpAny_bind (firsts_opt vs _ t (wpAny_pure ?_)))
  rw [if_neg (by rw [List.all_toArray, hn]; simp)]
  by_cases c : ((fs[0]?).bind id).isSome
  · rw [if_pos c] at h
    rw [if_pos (by simpa using c)]
    exact wpAny_pure h
  · rw [if_neg c] at h
    rw [if_neg (by simpa using c)]
    rw [oneTypeOnly'_eq, List.mapM_toArray, map_eq_pure_bind]
    refine wpAny_bind (wpAny_bind (wpAny_bind (kas_mapM (r := .type "tuple") _ (fun v hv Q' hq => ?_) (wpAny_pure ?_))))
    · obtain ⟨f, _, a, o, xs, n, rfl, ho, hc, hd, hf⟩ := t.left v hv
      exact Looks.here (hc ▸ (show Looks M s.heap (typeOf (.ref a)) o.cls from (Looks.ld ho).andThen .now)) hq
    obtain ⟨v, vs, rfl⟩ : ∃ v r, vs = v :: r := by
      cases vs with
      | nil => simp at h2
      | cons v r => exact ⟨v, r, rfl⟩
    have hall2 : ((List.map (fun _ => Value.type "tuple") (v :: vs)).toArray.all fun x => x == Value.type "tuple") = true := by
      simp only [List.all_toArray, List.all_map, List.all_eq_true]
      intro _ _
      exact beq_self_eq_true _
    have h0 : (List.map (fun _ => Value.type "tuple") (v :: vs)).toArray[0]? = some (Value.type "tuple") := by simp
    rw [h0]
    simp only [hall2, if_true]
    exact wpAny_pure (wpAny_pure h)
end
section
variable {prog : Program} {w : World} {A : Around} {s : Shared}
theorem each_firsts {h : Heap} : ∀ {vs : List Value} {ds : List PyData}, EachIs (fun v d => ∃ as, Reads h v d as) vs ds → (∀ d, d ∈ ds → ∃ xs, d = .tuple xs) → ∃ fs, EachIs (TupV h) vs fs ∧ fs.map (·.isSome) = ds.map fun d => match d with | .tuple (_ :: _) => true | _ => false
  | _, _, .nil, _ => ⟨[], .nil, rfl⟩
  | _, _, .cons (b := d) ⟨as, r⟩ t, ht => by
    obtain ⟨fs, h1, h2⟩ := each_firsts t fun d hd => ht d (List.mem_cons_of_mem _ hd)
    obtain ⟨ys, rfl⟩ := ht d (List.mem_cons_self ..)
    cases r with
    | @tuple a o xs n _ _ ho hc hd hr =>
      refine ⟨xs[0]? :: fs, .cons ⟨a, o, xs, n, rfl, ho, hc, hd, rfl⟩ h1, ?_⟩
      rw [List.map_cons, List.map_cons, h2]
      congr 1
      have hl : xs.size = ys.length := by simpa using SeqAt.ReadsAll.length _ _ _ hr
      cases ys with
      | nil => simp at hl; simp [hl]
      | cons y ys =>
        have : 0 < xs.size := by rw [hl]; simp
        simp [this]
theorem SortsAt.tups {vs : List Value} {ds : List PyData} (e : EachIs (fun v d => ∃ as, Reads s.heap v d as) vs ds) (hal : AllAlike ds) (hk : ∀ d, d ∈ ds → ∃ xs, d = .tuple xs) (hu : ∀ d, d ∈ ds → A.units + d.depth < cLine) : SortsAt prog w A s (dataKind s.heap ds) vs := by
  by_cases hs : ∀ d, d ∈ ds → ∃ x r, d = .tuple (x :: r)
  · exact SortsAt.data e hal (.inl hs) hu
  have room : ∀ {d d' : PyData}, d ∈ ds → A.units + min d.depth d'.depth < cLine := fun {d d'} hd => Nat.lt_of_le_of_lt (Nat.add_le_add_left (Nat.min_le_left _ _) _) (hu d hd)
  obtain ⟨fs, f1, f2⟩ := each_firsts e hk
  have hn : fs.all (·.isSome) = false := by
    cases q : fs.all (·.isSome) with
    | false => rfl
    | true =>
      exfalso
      apply hs
      intro d hd
      obtain ⟨xs, rfl⟩ := hk d hd
      cases xs with
      | cons x r => exact ⟨x, r, rfl⟩
      | nil =>
        have : false ∈ fs.map (·.isSome) := by rw [f2]; exact List.mem_map.mpr ⟨_, hd, rfl⟩
        obtain ⟨f, hf, e⟩ := List.mem_map.mp this
        rw [List.all_eq_true.mp q f hf] at e
        cases e
  refine ⟨fun v hv => ?_, if ((fs[0]?).bind id).isSome then general' else oneType', ?_, fun h2 E Q hq => kind_tups f1 (by omega) hn hq⟩
  · obtain ⟨d, hd, as, r⟩ := e.left v hv
    exact ⟨_, dataKind_some hal hd r⟩
  · intro E x y a b Q ha hb hq
    obtain ⟨d, as, hd, ra, rfl⟩ := dataKind_inv ha
    obtain ⟨d', as', hd', rb, rfl⟩ := dataKind_inv hb
    have hdd := hal d hd d' hd'
    have hroom := room (d' := d') hd
    obtain ⟨xs, rfl⟩ := hk d hd
    obtain ⟨ys, rfl⟩ := hk d' hd'
    split
    · show wpAny _ _ (oneLt' false x y) _ _ _
      exact oneLt_alike (fun h => nomatch h) ra rb hdd (fun h => nomatch h) hroom hq
    · rw [keyLt'_oneType]
      exact oneLt_tuplesZ ra rb hdd hroom hq
variable {E : Value → Shared → Prop} {β : Type} {vs : List Value} {bs : List β} {enc : β → PyData} {R : Value → β → Prop}
theorem sorted_tups {l : Addr} {Q : Value → Shared → Prop} (hl : s.heap.IsList l vs.toArray) (e : EachIs R vs bs) (er : EachIs (fun v b => ∃ as, Reads s.heap v (enc b) as) vs bs) (hal : AllAlike (bs.map enc)) (hk : ∀ b, ∃ xs, enc b = .tuple xs) (hL : bs.length ≤ sizeLine)
    (hu : ∀ b, b ∈ bs → A.units + 2 + (enc b).depth < cLine) (h : ∀ out, out.length = bs.length → EachIs R out (bs.mergeSort (dataLe false enc)) → Q (.ref (s.heap.objs.size + 1)) { s with heap := sortedAll s.heap vs (List.toArray out) }) :
    wpAny (model prog w) A (call (.builtin "sorted") [.ref l]) Q E s := by
  have er' : EachIs (fun v b => ∃ as, Reads (sortingHeap (copyHeap s.heap vs) (s.heap.objs.size + 1) vs) v (enc b) as) vs bs := er.mono fun _ _ ⟨as, r⟩ => ⟨as, PyProof.Rows.Reads.keeps (fun _ _ => sorting_copy_old) r⟩
  exact sorted_vals hl (SortsAt.tups (s := { s with heap := sortingHeap (copyHeap s.heap vs) (s.heap.objs.size + 1) vs }) (each_map (R := fun v d => ∃ as, Reads (sortingHeap (copyHeap s.heap vs) (s.heap.objs.size + 1) vs) v d as) enc er') hal (fun d hd => by
    obtain ⟨b, _, rfl⟩ := List.mem_map.mp hd
    exact hk b) (bound_map hu)) (by rw [e.length]; exact hL)
    (h _ (by rw [sortVals_length false rfl]; exact e.length) (sortVals_data false e er' hal))
end
end PySem.W
namespace L3
open PySem PySem.Spec PyProof.Rows L2 PySem.W
section
variable {X : Cx} {K : Fg}
theorem cr_sortTE {α : Type} {T : L3.Ty α} {d : Emb T} (u : Ord d) (ht : ∀ x, ∃ xs, d.to x = .tuple xs) (hd : d.dn ≤ 60) (hu : X.A.units + 64 < cLine) : CallR X (.builtin "sorted") (fun vs H Q => ∃ (B : Hp) (a : Addr) (xs : List α) (us : List V), Sub B H ∧ vs = [V.ref a] ∧ SqL X.K H a us ∧ Paired (T.rep X.K B) us xs ∧
    ∀ (ys : List V) (p : Addr), Paired (T.rep X.K B) ys (sortU u.lt xs) → H p = none → Q (.ref p) (upd H p (.lst ys))) := by
  intro pins s σ H vs us Q I r ⟨B, a, xs, ws, sb, e0, sq, pr, q⟩
  subst e0
  obtain ⟨its, rv, hl, hz⟩ := I.list sq
  rw [Vals.ref1 r]
  have hn := Paired.length pr
  refine sorted_tups (R := fun u x => ∃ v, RelV v u ∧ T.rep X.K B v x) (enc := d.to) (bs := xs) hl.isList (P_each pr rv fun v u x f r => ⟨v, r, f⟩) (P_each pr rv fun v u x f r => Dp.reads I (d.to x) v u (d.rep (T.mono sb f)) r) (alike_of u xs) ht (by rw [← hn]; exact hz) (fun b _ => ?_) fun out ho he => ?_
  · have := d.dep b
    omega
  · rw [dataLe_ord u] at he
    obtain ⟨ys, rv2, pr2⟩ := each_P he
    obtain ⟨ep, he'⟩ := PyProof.Rows.sortedAll_at s.heap its out.toArray
    have hlen : ys.length ≤ sizeLine := by
      rw [Paired.length pr2, List.length_mergeSort, ← hn]
      exact hz
    exact ⟨.ref _, upd H (s.heap.objs.size + 1) (.lst ys), I.laid (t' := s.toks) (fun _ _ => PyProof.Rows.sortedAll_old) (Nat.le_succ _) ⟨hlen, out, ep, rv2, he'⟩, rfl, q ys _ pr2 (I.hok.fresh (Nat.le_succ _))⟩
theorem c_sortTE {α : Type} {T : L3.Ty α} {d : Emb T} (u : Ord d) : OpNO K (fun vs H Q => ∃ (B : Hp) (a : Addr) (xs : List α) (us : List V), Sub B H ∧ vs = [V.ref a] ∧ SqL K H a us ∧ Paired (T.rep K B) us xs ∧
    ∀ (ys : List V) (p : Addr), Paired (T.rep K B) ys (sortU u.lt xs) → H p = none → Q (.ref p) (upd H p (.lst ys))) (rOne (tLst T)) (oLst T) fun x => some (sortU u.lt x) := fun {B H y z vs Q} s ⟨v, e1, h⟩ e q => by
  subst e1
  cases e
  obtain ⟨a, ws, rfl, sq, pr, hl⟩ := h
  exact ⟨B, a, y, ws, s, rfl, .inl (.inl (s _ _ sq)), pr, fun ys p pr2 hp => q p _ hp ⟨ys, rfl, pr2, by unfold sortU; rw [List.length_mergeSort]; exact hl⟩⟩
end
end L3
namespace L3
open PySem PySem.Spec PyProof.Rows L2 PySem.W
section
variable {prog : Program} {w : World} {A : Around} {s : Shared} {E : Value → Shared → Prop} {κ : PyProof.Rows.KeyKind}
/-- sorted(xs) of a tuple -/
theorem sortedT_vals {l : Addr} {vs : List Value} {Q : Value → Shared → Prop} (hl : s.heap.IsTuple l vs.toArray) (S : SortsAt prog w A.in1.in1 { s with heap := sortingHeap (copyHeap s.heap vs) (s.heap.objs.size + 1) vs } κ vs) (hz : vs.length ≤ sizeLine)
    (h : Q (.ref (s.heap.objs.size + 1)) { s with heap := sortedAll s.heap vs (sortVals κ false vs vs).toArray }) : wpAny (model prog w) A (call (.builtin "sorted") [.ref l]) Q E s := by
  refine Calls.call_function_entry kind_sorted plain_sorted entry_sorted (args_sorted1 _) ?_
  unfold Builtin.«sorted»
  refine wpAny_bind (m := checkCount "sorted" 1 1 _) (wpAny_pure ?_)
  refine wpAny_bind (collectT hl hz ?_)
  refine wpAny_bind (wpAny_newList ?_ hz)
  have h1 : ((s.heap.push (seqObj "list" #[] 0)).update s.heap.objs.size (Obj.mapSeq (· ++ vs.toArray))).objs.size = s.heap.objs.size + 1 := by
    rw [Heap.size_update, size_push']
  show wpAny _ _ _ _ _ { s with heap := copyHeap s.heap vs }
  rw [h1]
  exact wpAny_bind (wpAny_holding (wpAny_call_entry slot_list_sort ⟨_, copyHeap_at s.heap vs, rfl⟩ entry_list_sort (list_sort_vals (s := { s with heap := copyHeap s.heap vs }) (copyHeap_at s.heap vs) S hz ⟨_, rfl, wpAny_pure ⟨_, rfl, h⟩⟩) (args_list_sort _)))
variable {β : Type} {vs : List Value} {bs : List β} {enc : β → PyData} {R : Value → β → Prop}
theorem sortedT_tups {l : Addr} {Q : Value → Shared → Prop} (hl : s.heap.IsTuple l vs.toArray) (e : EachIs R vs bs) (er : EachIs (fun v b => ∃ as, Reads s.heap v (enc b) as) vs bs) (hal : AllAlike (bs.map enc)) (hk : ∀ b, ∃ xs, enc b = .tuple xs) (hL : bs.length ≤ sizeLine)
    (hu : ∀ b, b ∈ bs → A.units + 2 + (enc b).depth < cLine) (h : ∀ out, out.length = bs.length → EachIs R out (bs.mergeSort (dataLe false enc)) → Q (.ref (s.heap.objs.size + 1)) { s with heap := sortedAll s.heap vs (List.toArray out) }) :
    wpAny (model prog w) A (call (.builtin "sorted") [.ref l]) Q E s := by
  have er' : EachIs (fun v b => ∃ as, Reads (sortingHeap (copyHeap s.heap vs) (s.heap.objs.size + 1) vs) v (enc b) as) vs bs := er.mono fun _ _ ⟨as, r⟩ => ⟨as, PyProof.Rows.Reads.keeps (fun _ _ => sorting_copy_old) r⟩
  exact sortedT_vals hl (SortsAt.tups (s := { s with heap := sortingHeap (copyHeap s.heap vs) (s.heap.objs.size + 1) vs }) (each_map (R := fun v d => ∃ as, Reads (sortingHeap (copyHeap s.heap vs) (s.heap.objs.size + 1) vs) v d as) enc er') hal (fun d hd => by
    obtain ⟨b, _, rfl⟩ := List.mem_map.mp hd
    exact hk b) (bound_map hu)) (by rw [e.length]; exact hL)
    (h _ (by rw [sortVals_length false rfl]; exact e.length) (sortVals_data false e er' hal))
end
section
variable {X : Cx} {K : Fg}
theorem cr_sortTT {α : Type} {T : L3.Ty α} {d : Emb T} (u : Ord d) (ht : ∀ x, ∃ xs, d.to x = .tuple xs) (hd : d.dn ≤ 60) (hu : X.A.units + 64 < cLine) : CallR X (.builtin "sorted") (fun vs H Q => ∃ (B : Hp) (a : Addr) (xs : List α) (us : List V), Sub B H ∧ vs = [V.ref a] ∧ SqT X.K H a us ∧ Paired (T.rep X.K B) us xs ∧
    ∀ (ys : List V) (p : Addr), Paired (T.rep X.K B) ys (sortU u.lt xs) → H p = none → Q (.ref p) (upd H p (.lst ys))) := by
  intro pins s σ H vs us Q I r ⟨B, a, xs, ws, sb, e0, sq, pr, q⟩
  subst e0
  obtain ⟨its, rv, hl, hz⟩ := I.tuple sq
  rw [Vals.ref1 r]
  have hn := Paired.length pr
  refine sortedT_tups (R := fun u x => ∃ v, RelV v u ∧ T.rep X.K B v x) (enc := d.to) (bs := xs) hl (P_each pr rv fun v u x f r => ⟨v, r, f⟩) (P_each pr rv fun v u x f r => Dp.reads I (d.to x) v u (d.rep (T.mono sb f)) r) (alike_of u xs) ht (by rw [← hn]; exact hz) (fun b _ => ?_) fun out ho he => ?_
  · have := d.dep b
    omega
  · rw [dataLe_ord u] at he
    obtain ⟨ys, rv2, pr2⟩ := each_P he
    obtain ⟨ep, he'⟩ := PyProof.Rows.sortedAll_at s.heap its out.toArray
    have hlen : ys.length ≤ sizeLine := by
      rw [Paired.length pr2, List.length_mergeSort, ← hn]
      exact hz
    exact ⟨.ref _, upd H (s.heap.objs.size + 1) (.lst ys), I.laid (t' := s.toks) (fun _ _ => PyProof.Rows.sortedAll_old) (Nat.le_succ _) ⟨hlen, out, ep, rv2, he'⟩, rfl, q ys _ pr2 (I.hok.fresh (Nat.le_succ _))⟩
theorem c_sortTT {α : Type} {T : L3.Ty α} {d : Emb T} (u : Ord d) : OpNO K (fun vs H Q => ∃ (B : Hp) (a : Addr) (xs : List α) (us : List V), Sub B H ∧ vs = [V.ref a] ∧ SqT K H a us ∧ Paired (T.rep K B) us xs ∧
    ∀ (ys : List V) (p : Addr), Paired (T.rep K B) ys (sortU u.lt xs) → H p = none → Q (.ref p) (upd H p (.lst ys))) (rOne (tAll T)) (oLst T) fun x => some (sortU u.lt x) := fun {B H y z vs Q} s ⟨v, e1, h⟩ e q => by
  subst e1
  cases e
  obtain ⟨a, ws, rfl, sq, pr, hl⟩ := h
  exact ⟨B, a, y, ws, s, rfl, s.seqT sq, pr, fun ys p pr2 hp => q p _ hp ⟨ys, rfl, pr2, by unfold sortU; rw [List.length_mergeSort]; exact hl⟩⟩
variable {L : List L3.Loc} {κ α : Type} [DecidableEq κ] {T : Ty κ} {U : Ty α} {e o : Expr} {pos : Pos}
/-- k in d, d any expression -/
theorem y_d_inE (hu : X.A.units + 65 < cLine) (d : Kt T) {m : Mo L κ} {mo : Mo L (List (κ × α))} (he : PE X e (tE X.K L T m)) (ho : PE X o (tE X.K L (tDictF d U) mo)) (hm : behindInMarks .In o = false := by rfl) :
    PE X (.Compare e [.In] [o] pos) (tE X.K L tBool fun ω ρ k => m ω ρ fun j ρ1 => mo ω ρ1 fun kvs ρ' => k (getK kvs j).isSome ρ') := by
  refine pe_weak (pe_cmp (pc_din (by omega) he ho) hm) fun σ H Q ⟨F, B, ρ, ω, k, o, st, e1, q⟩ => ?_
  refine ⟨F, B, ρ, ω, _, o, st, e1, fun B' v H' j ρ1 s st' r e2 => ⟨F, B', ρ1, ω, _, o, st', e2, fun B2 v2 H2 kvs ρ' s2 st2 r2 e3 => ?_⟩⟩
  obtain ⟨a, ps, rfl, ⟨od, hb⟩, rp, _⟩ := r2
  obtain rfl := d.rep r
  refine ⟨a, valV ps (d.key j), rfl, DGet.kF (st2.sb _ _ hb), ?_⟩
  rw [(P_getK rp j).is]
  exact q B2 _ H2 _ ρ' (s.trans s2) st2 rfl e3
theorem y_d_notInE (hu : X.A.units + 65 < cLine) (d : Kt T) {m : Mo L κ} {mo : Mo L (List (κ × α))} (he : PE X e (tE X.K L T m)) (ho : PE X o (tE X.K L (tDictF d U) mo)) (hm : behindInMarks .NotIn o = false := by rfl) :
    PE X (.Compare e [.NotIn] [o] pos) (tE X.K L tBool fun ω ρ k => m ω ρ fun j ρ1 => mo ω ρ1 fun kvs ρ' => k (!(getK kvs j).isSome) ρ') := by
  refine pe_weak (pe_cmp (pc_dnotin (by omega) he ho) hm) fun σ H Q ⟨F, B, ρ, ω, k, o, st, e1, q⟩ => ?_
  refine ⟨F, B, ρ, ω, _, o, st, e1, fun B' v H' j ρ1 s st' r e2 => ⟨F, B', ρ1, ω, _, o, st', e2, fun B2 v2 H2 kvs ρ' s2 st2 r2 e3 => ?_⟩⟩
  obtain ⟨a, ps, rfl, ⟨od, hb⟩, rp, _⟩ := r2
  obtain rfl := d.rep r
  refine ⟨a, valV ps (d.key j), rfl, DGet.kF (st2.sb _ _ hb), ?_⟩
  rw [(P_getK rp j).is]
  exact q B2 _ H2 _ ρ' (s.trans s2) st2 rfl e3
end
end L3

/-! L3: places, parts, signs and order of texts. -/
namespace L3
open PySem PySem.Spec PyProof PyProof.Rows L2
def catS (x y : Str) : Option Str := if x.length + y.length ≤ 16777216 then some (x ++ y) else none
theorem catS_ok {x y : Str} (h : x.length + y.length ≤ 16777216) : catS x y = some (x ++ y) := if_pos h
def getS (z : Str) (i : Int) : Option Str := if z.length ≤ 16777216 then (getI z.cps.toList i).map fun c => ⟨#[c]⟩ else none
def slS (z : Str) (lo hi : Option Int) : Option Str := if z.length ≤ 16777216 then some (cutS z lo hi) else none
def signs (x : Str) : List Str := x.cps.toList.map fun c => ⟨#[c]⟩
def inS (x y : Str) : Bool := !(Builtin.Str.occurrences y x 0 y.length 1).isEmpty
def ltS (x y : Str) : Bool := decide (x.cps.toList < y.cps.toList)
section
variable {X : Cx} {K : Fg} {L : List L3.Loc} {e : Expr} {pos p2 : Pos} {tg : Expr} {lo hi : Option Expr}
theorem o_catS : Op2 K (fun x y H Q => ∃ i j, x = .str i ∧ y = .str j ∧ i.length + j.length ≤ sizeLine ∧ Q (.str (i ++ j)) H) tStr tStr tStr catS := fun {B H x y z v w Q} s hx hy e q => by
  cases hx; cases hy
  unfold catS at e
  split at e
  · rename_i h
    cases e
    exact ⟨x, y, rfl, rfl, by rw [sizeLine_eq]; exact h, q _ _ _ (gr0 s) rfl⟩
  · cases e
theorem ix_s : Op2 K rIxS tStr tInt tStr getS := fun {B H x y z v w Q} s hx hy e q => by
  cases hx; cases hy
  unfold getS at e
  split at e
  · rename_i h
    obtain ⟨c, e1, rfl⟩ := map_some e
    exact ⟨x, y, c, rfl, rfl, by rw [sizeLine_eq]; exact h, by rw [atI_getI]; exact e1, q _ _ _ (gr0 s) rfl⟩
  · cases e
theorem o_inS : Op2 K (fun x y H Q => ∃ i j, x = .str i ∧ y = .str j ∧ Q (.bl (!(Builtin.Str.occurrences j i 0 j.length 1).isEmpty)) H) tStr tStr tBool fun x y => some (inS x y) := fun {B H x y z v w Q} s hx hy e q => by
  cases hx; cases hy; cases e
  exact ⟨x, y, rfl, rfl, q _ _ _ (gr0 s) rfl⟩
theorem o_notInS : Op2 K (fun x y H Q => ∃ i j, x = .str i ∧ y = .str j ∧ Q (.bl (!(!(Builtin.Str.occurrences j i 0 j.length 1).isEmpty))) H) tStr tStr tBool fun x y => some (!inS x y) := fun {B H x y z v w Q} s hx hy e q => by
  cases hx; cases hy; cases e
  exact ⟨x, y, rfl, rfl, q _ _ _ (gr0 s) rfl⟩
theorem o_ltS : Op2 K (fun x y H Q => ∃ i j, x = .str i ∧ y = .str j ∧ Q (.bl (decide (i.cps.toList < j.cps.toList))) H) tStr tStr tBool fun x y => some (ltS x y) := fun {B H x y z v w Q} s hx hy e q => by
  cases hx; cases hy; cases e
  exact ⟨x, y, rfl, rfl, q _ _ _ (gr0 s) rfl⟩
theorem o_gtS : Op2 K (fun x y H Q => ∃ i j, x = .str i ∧ y = .str j ∧ Q (.bl (decide (j.cps.toList < i.cps.toList))) H) tStr tStr tBool fun x y => some (ltS y x) := fun {B H x y z v w Q} s hx hy e q => by
  cases hx; cases hy; cases e
  exact ⟨x, y, rfl, rfl, q _ _ _ (gr0 s) rfl⟩
theorem o_leS : Op2 K (fun x y H Q => ∃ i j, x = .str i ∧ y = .str j ∧ Q (.bl (!decide (j.cps.toList < i.cps.toList))) H) tStr tStr tBool fun x y => some (!ltS y x) := fun {B H x y z v w Q} s hx hy e q => by
  cases hx; cases hy; cases e
  exact ⟨x, y, rfl, rfl, q _ _ _ (gr0 s) rfl⟩
theorem o_geS : Op2 K (fun x y H Q => ∃ i j, x = .str i ∧ y = .str j ∧ Q (.bl (!decide (i.cps.toList < j.cps.toList))) H) tStr tStr tBool fun x y => some (!ltS x y) := fun {B H x y z v w Q} s hx hy e q => by
  cases hx; cases hy; cases e
  exact ⟨x, y, rfl, rfl, q _ _ _ (gr0 s) rfl⟩
theorem y_slS {m : Mo L Str} {ml mh : Mo L (Option Int)} (he : PE X e (tE X.K L tStr m)) (hl : PO X lo (tPt X.K L ml)) (hh : PO X hi (tPt X.K L mh)) :
    PE X (.Subscript e (.Slice lo hi none p2) pos) (tE X.K L tStr fun ω ρ k => m ω ρ fun x ρ1 => ml ω ρ1 fun lo ρ2 => mh ω ρ2 fun hi ρ3 => (slS x lo hi).bind fun z => k z ρ3) := by
  refine pe_weak (pe_slice sl_str he hl hh) fun σ H Q ⟨F, B, ρ, ω, k, o, st, e1, q⟩ => ?_
  refine ⟨F, B, ρ, ω, _, o, st, e1, fun B1 v H1 x1 ρ1 s1 st1 r1 e2 => ⟨F, B1, ρ1, ω, _, o, st1, e2, fun B2 H2 x2 ρ2 s2 st2 e3 => ⟨F, B2, ρ2, ω, _, o, st2, e3, fun B3 H3 x3 ρ3 s3 st3 e4 => ?_⟩⟩⟩
  obtain ⟨z, e5, e6⟩ := bind_some e4
  unfold slS at e5
  split at e5
  case isFalse => cases e5
  rename_i h
  cases e5
  cases r1
  exact ⟨x1, rfl, by rw [sizeLine_eq]; exact h, q B3 _ H3 _ _ ((s1.trans s2).trans s3) st3 rfl e6⟩
theorem its_ok {x : Str} {B : Hp} : ItOk K (Its x) B tStr (signs x) := fun i B1 H s1 s2 => by
  refine ⟨fun h => by
    have h2 : x.cps.size ≤ i := by simpa [signs] using h
    exact h2, fun y hy => ?_⟩
  unfold signs at hy
  rw [List.getElem?_map] at hy
  obtain ⟨c, e1, rfl⟩ := map_some hy
  rw [Array.getElem?_toList] at e1
  refine ⟨(Array.getElem?_eq_some_iff.mp e1).1, fun u H' hu => ?_⟩
  obtain ⟨rfl, c', e2, rfl⟩ := hu
  rw [e1] at e2
  cases e2
  exact ⟨B1, Grow.refl s2, rfl⟩
theorem i_str {m : Mo L Str} (h : PE X e (tE X.K L tStr m)) : PI X tg e (tIt X.K L tStr fun ω ρ k => m ω ρ fun x ρ' => k (signs x) ρ') := by
  refine pi_weak (pi_str h) fun σ H R ⟨F, B, ρ, ω, k, o, st, e1, q⟩ => ?_
  refine ⟨F, B, ρ, ω, _, o, st, e1, fun B' v H' x ρ' s st' r e2 => ?_⟩
  cases r
  exact ⟨x, rfl, q B' _ H' _ ρ' s st' its_ok e2⟩
end
theorem rl1 {α : Type} {T : Ty α} {K B vs x} (h : (rOne T).rep K B vs x) : vs.length = 1 := by
  obtain ⟨v, rfl, _⟩ := h
  rfl
theorem rl5 {α β γ δ ε : Type} {T : Ty α} {U : Ty β} {W : Ty γ} {Z : Ty δ} {Y : Ty ε} {K B vs x} (h : (rCons T (rCons U (rCons W (rCons Z (rOne Y))))).rep K B vs x) : vs.length = 5 := by
  obtain ⟨v, r, rfl, _, w, r2, rfl, _, a, r3, rfl, _, b, r4, rfl, _, c, rfl, _⟩ := h
  rfl
theorem hl5 {α β γ δ ε : Type} {T : Ty α} {U : Ty β} {W : Ty γ} {Z : Ty δ} {Y : Ty ε} {K B vs x} (h : (rCons T (rCons U (rCons W (rCons Z (rOne Y))))).rep K B vs x) : vs.length ≤ sizeLine := by
  rw [rl5 h, sizeLine_eq]; decide
section
variable {K : Fg} {α β γ δ ε ζ : Type} {T : Ty α} {U : Ty β} {W : Ty γ} {Z : Ty δ} {Y : Ty ε}
theorem n3' {R : Tys ζ} : Nth (K := K) (rCons T (rCons U (rCons W (rCons Z R)))) 3 Z fun x => x.2.2.2.1 := fun ⟨v, r, e, h, w, r2, e2, k, z, r3, e3, l, y, r4, e4, m, _⟩ => ⟨y, by rw [e, e2, e3, e4]; exact atI_nat (j := 3) rfl, m⟩
theorem n4 : Nth (K := K) (rCons T (rCons U (rCons W (rCons Z (rOne Y))))) 4 Y fun x => x.2.2.2.2 := fun ⟨v, r, e, h, w, r2, e2, k, z, r3, e3, l, y, r4, e4, m, t, e5, n⟩ => ⟨t, by rw [e, e2, e3, e4, e5]; exact atI_nat (j := 4) rfl, n⟩
end
end L3

/-! L3: a text so many times. -/
namespace L3
open PySem PySem.Spec PyProof PyProof.Rows L2
def repS (x : Str) (n : Nat) : Str := ⟨(List.replicate n x.cps).foldl (· ++ ·) #[]⟩
theorem rep_size (c : Array Nat) : ∀ (n : Nat) (a : Array Nat), ((List.replicate n c).foldl (· ++ ·) a).size = a.size + n * c.size
  | 0, a => by simp
  | n + 1, a => by
    rw [List.replicate_succ, List.foldl_cons, rep_size c n, Array.size_append, Nat.add_mul]
    omega
def mulS (x : Str) (n : Int) : Option Str := if 1 < n ∧ n ≤ 1000 ∧ 0 < x.length ∧ x.length ≤ 1000 then some (repS x n.toNat) else none
section
variable {X : Cx} {K : Fg}
theorem op_mulS : OpR X (binaryOp .Mult) (fun x y H Q => ∃ i n, x = .str i ∧ y = .int n ∧ 1 < n ∧ n ≤ 1000 ∧ 0 < i.length ∧ i.length ≤ 1000 ∧ Q (.str (repS i n.toNat)) H) := by
  intro pins s σ H x y v u Q I rx ry h
  obtain ⟨i, n, rfl, rfl, h1, h2, h3, h4, q⟩ := h
  obtain ⟨t, rfl⟩ := rx
  obtain ⟨t', rfl⟩ := ry
  have hm : i.length * n.toNat ≤ 1000000 := Nat.le_trans (Nat.mul_le_mul h4 (show n.toNat ≤ 1000 by omega)) (by decide)
  have hs : (repS i n.toNat).length = n.toNat * i.length := by
    show ((List.replicate n.toNat i.cps).foldl (· ++ ·) #[]).size = _
    rw [rep_size]
    show 0 + n.toNat * i.cps.size = n.toNat * i.cps.size
    omega
  have hq : 1000 ≤ (2 ^ 63 - 1 : Int) / n := by
    rw [Int.le_ediv_iff_mul_le (by omega)]
    omega
  refine P.mul_str (by
      rw [decide_eq_false (by omega), decide_eq_false (by omega)]
      rfl) (fun _ _ => by omega) (fun _ _ => by
      unfold Builtin.Str.tooLong
      rw [decide_eq_false]
      rw [sizeLine_eq]
      omega) ?_
  rw [if_neg (by omega), if_neg (by
    rw [Bool.or_eq_true, beq_iff_eq, beq_iff_eq]
    omega)]
  refine ⟨by
    show (repS i n.toNat).length ≤ _
    rw [hs, Nat.mul_comm, sizeLine_eq]
    omega, ⟨.str (repS i n.toNat), H, I.tok _, ⟨_, rfl⟩, q⟩⟩
theorem o_mulS : Op2 K (fun x y H Q => ∃ i n, x = .str i ∧ y = .int n ∧ 1 < n ∧ n ≤ 1000 ∧ 0 < i.length ∧ i.length ≤ 1000 ∧ Q (.str (repS i n.toNat)) H) tStr tInt tStr mulS := fun {B H x y z v w Q} s hx hy e q => by
  cases hx; cases hy
  unfold mulS at e
  split at e
  · rename_i h
    cases e
    exact ⟨x, y, rfl, rfl, h.1, h.2.1, h.2.2.1, h.2.2.2, q _ _ _ (gr0 s) rfl⟩
  · cases e
end
end L3

/-! L3: dict() of a tuple of pairs. -/
namespace L3
open PySem PySem.Spec PyProof PyProof.Rows L2
abbrev rDictPT (K : Fg) : List V → Hp → VK → Prop := fun xs H Q => ∃ (a : Addr) (ob : Obj) (ps : List Addr) (kvs : List (L2.Key × V)), xs = [.ref a] ∧ H a = some (.frz ob (.tup (ps.map V.ref))) ∧ ob.dict = none ∧ Paired (fun p kv => SqT K H p [kV kv.1, kv.2]) ps kvs ∧ ∀ p, H p = none → Q (.ref p) (upd H p (.dK (mergeK [] kvs)))
section
variable {X : Cx}
theorem call_dictPT (hcalm : X.calm = true) : CallR X (.type "dict") (rDictPT X.K) := by
  intro pins s σ H xs us Q I r q
  obtain ⟨a, ob, ps, kvs, ex, hq, hdn, hp, q⟩ := q
  subst ex
  obtain ⟨u, eu, rx⟩ := vals1 r
  subst eu
  cases rx
  obtain ⟨hget, hz, its, rv, o, ho, hc, n, hdat⟩ := (show ObjOk X.prog X.w H s.heap a (.frz ob (.tup (ps.map V.ref))) from I.hok a _ hq)
  have ei := refs_at rv
  subst ei
  rw [List.length_map] at hz
  obtain ⟨prs, rel, hl, hpr⟩ := pairs_of I hp
  have eo : o = ob := Option.some.inj (ho.symm.trans hget)
  subst eo
  have ch : ∀ j : Nat, ∃ x : Addr × Value, ∀ q', prs[j]? = some q' → ps[j]? = some x.1 ∧ IsTup s.heap x.1 #[x.2, q'.2] ∧ keyIs q'.1 x.2 = true := fun j => by
    cases e : prs[j]? with
    | none => exact ⟨(0, .none), fun q' z => nomatch z⟩
    | some q0 =>
      obtain ⟨b, u, e1, e2, e3⟩ := hpr j q0 e
      exact ⟨(b, u), fun q' z => by cases z; exact ⟨e1, e2, e3⟩⟩
  have ch2 := Classical.axiomOfChoice ch
  obtain ⟨f, hf⟩ := ch2
  have hlenV : ((List.range prs.length).map fun j => ((f j).2, ((prs[j]?).map Prod.snd).getD .none)).length = prs.length := by rw [List.length_map, List.length_range]
  have atV : ∀ (j : Nat) (k v : Value), ((List.range prs.length).map fun j => ((f j).2, ((prs[j]?).map Prod.snd).getD .none))[j]? = some (k, v) → ∃ q', prs[j]? = some q' ∧ k = (f j).2 ∧ v = q'.2 := fun j k v e => by
    have hj : j < prs.length := by
      have := (List.getElem?_eq_some_iff.mp e).1
      rwa [hlenV] at this
    rw [List.getElem?_map, List.getElem?_range hj, Option.map_some] at e
    have e := Option.some.inj e
    refine ⟨prs[j], List.getElem?_eq_getElem hj, ?_, ?_⟩
    · exact (congrArg Prod.fst e).symm
    · have := (congrArg Prod.snd e).symm
      rw [List.getElem?_eq_getElem hj] at this
      exact this
  refine PySem.call_dict_pairs (knd := mixKind X.prog X.w) (kvs := prs) (PairArg.tuple a (ps.map Value.ref).toArray (fun j => (f j).1) ((List.range prs.length).map fun j => ((f j).2, ((prs[j]?).map Prod.snd).getD .none))) (I.ok.hd hcalm) ⟨⟨_, n, hget, hc, hdn, hdat⟩, ?_, fun j k v e => ?_⟩ ⟨hlenV.symm, fun i key v e => ?_⟩ (by rw [hlenV, hl]; exact hz) fun h' tk hd' k => ?_
  · rw [hlenV, hl]
    simp
  · obtain ⟨q', e1, rfl, rfl⟩ := atV j k v e
    obtain ⟨h1, h2, h3⟩ := hf j q' e1
    exact ⟨by simp [h1], .inl h2⟩
  · obtain ⟨q', e1, rfl, rfl⟩ := atV i key v e
    obtain ⟨h1, h2, h3⟩ := hf i q' e1
    exact ⟨q'.1, e1, h3⟩
  · have hm : (s.heap.objs.size == sysModules) = false := beq_eq_false_iff_ne.mpr (Nat.ne_of_gt I.big)
    have hlen : (mergeK [] kvs).length ≤ sizeLine := by
      refine Nat.le_trans (length_mergeK kvs []) ?_
      rw [List.length_nil, Nat.zero_add, rel.length, hl]
      exact hz
    exact ⟨.ref s.heap.objs.size, upd H s.heap.objs.size (.dK (mergeK [] kvs)), I.laid (t' := tk) (fun b o e => k b o (by simp) e) (Nat.le_refl _) (show ObjOk X.prog X.w _ _ _ (.dK (mergeK [] kvs)) from ⟨hlen, hm, merged [] prs, KV.merge rel .nil, hd'⟩), rfl, q _ (I.hok.fresh (Nat.le_refl _))⟩
end
section
variable {K : Fg} {κ α : Type} {T : Ty κ} {U : Ty α} [DecidableEq κ]
theorem c_dictT (d : Kt T) : OpNO K (rDictPT K) (rOne (tAllD (tPair T U))) (oDict d U) fun x => some (dictOf x) := fun {B H y z vs Q} s h e q => by
  obtain ⟨v, rfl, a, vs, rfl, ⟨ob, hb, hdn⟩, r, hl⟩ := h
  cases e
  obtain ⟨ps, kvs, rfl, h1, h2⟩ := pairs_at (d := d) s r
  refine ⟨a, ob, ps, kvs, rfl, s _ _ hb, hdn, h1, fun p hp => q p _ hp ⟨_, rfl, P_merge h2 .nil, ?_⟩⟩
  have := dictOf_len y []
  unfold dictOf
  simp only [List.length_nil, Nat.zero_add] at this
  omega
end
/-! ### k in d, d any expression, as a test -/
section
variable {X : Cx} {L : List L3.Loc} {κ α : Type} [DecidableEq κ] {T : Ty κ} {U : Ty α} {e o : Expr} {pos : Pos}
theorem y_d_inET (hu : X.A.units + 65 < cLine) (d : Kt T) {m : Mo L κ} {mo : Mo L (List (κ × α))} (he : PE X e (tE X.K L T m)) (ho : PE X o (tE X.K L (tDictF d U) mo)) (hm : behindInMarks .In o = false := by rfl) :
    PT X (.Compare e [.In] [o] pos) (tC X.K L fun ω ρ k => m ω ρ fun j ρ1 => mo ω ρ1 fun kvs ρ' => k (getK kvs j).isSome ρ') := by
  refine pt_weak (pt_cmp (pc_din (by omega) he ho) hm) fun σ H Q ⟨F, B, ρ, ω, k, o, st, e1, q⟩ => ?_
  refine ⟨F, B, ρ, ω, _, o, st, e1, fun B' v H' j ρ1 s st' r e2 => ⟨F, B', ρ1, ω, _, o, st', e2, fun B2 v2 H2 kvs ρ' s2 st2 r2 e3 => ?_⟩⟩
  obtain ⟨a, ps, rfl, ⟨od, hb⟩, rp, _⟩ := r2
  obtain rfl := d.rep r
  refine ⟨a, valV ps (d.key j), rfl, DGet.kF (st2.sb _ _ hb), ?_⟩
  rw [(P_getK rp j).is]
  exact ⟨_, rfl, q B2 H2 _ ρ' (s.trans s2) st2 e3⟩
theorem y_d_notInET (hu : X.A.units + 65 < cLine) (d : Kt T) {m : Mo L κ} {mo : Mo L (List (κ × α))} (he : PE X e (tE X.K L T m)) (ho : PE X o (tE X.K L (tDictF d U) mo)) (hm : behindInMarks .NotIn o = false := by rfl) :
    PT X (.Compare e [.NotIn] [o] pos) (tC X.K L fun ω ρ k => m ω ρ fun j ρ1 => mo ω ρ1 fun kvs ρ' => k (!(getK kvs j).isSome) ρ') := by
  refine pt_weak (pt_cmp (pc_dnotin (by omega) he ho) hm) fun σ H Q ⟨F, B, ρ, ω, k, o, st, e1, q⟩ => ?_
  refine ⟨F, B, ρ, ω, _, o, st, e1, fun B' v H' j ρ1 s st' r e2 => ⟨F, B', ρ1, ω, _, o, st', e2, fun B2 v2 H2 kvs ρ' s2 st2 r2 e3 => ?_⟩⟩
  obtain ⟨a, ps, rfl, ⟨od, hb⟩, rp, _⟩ := r2
  obtain rfl := d.rep r
  refine ⟨a, valV ps (d.key j), rfl, DGet.kF (st2.sb _ _ hb), ?_⟩
  rw [(P_getK rp j).is]
  exact ⟨_, rfl, q B2 H2 _ ρ' (s.trans s2) st2 e3⟩
end
end L3

/-! L3: plain facts of the mirrors' words. -/
namespace L3
open PySem
theorem loop_ix {β A R : Type} {f : β → A → Option (Out A A R)} {P : Nat → A → Prop} : ∀ (xs : List β) (i : Nat) (s : A), (∀ j x s, xs[j]? = some x → P (i + j) s → ∃ s', f x s = some (.nx s') ∧ P (i + j + 1) s') → P i s → ∃ s', loopM f xs s = some (.go s') ∧ P (i + xs.length) s'
  | [], i, s, _, h => ⟨s, rfl, h⟩
  | x :: xs, i, s, hs, h => by
    obtain ⟨s1, e, h1⟩ := hs 0 x s rfl h
    obtain ⟨s2, e2, h2⟩ := loop_ix (f := f) (P := P) xs (i + 1) s1 (fun j x s hx hp => by
      have := hs (j + 1) x s (by simpa using hx) (by rw [show i + (j + 1) = i + 1 + j by omega]; exact hp)
      rw [show i + (j + 1) + 1 = i + 1 + j + 1 by omega] at this
      exact this) h1
    refine ⟨s2, ?_, by rw [List.length_cons, show i + (xs.length + 1) = i + 1 + xs.length by omega]; exact h2⟩
    show (f x s).bind _ = _
    rw [e]
    exact e2
theorem loop_inv {β A R : Type} {f : β → A → Option (Out A A R)} {P : A → Prop} {xs : List β} {s : A} (hs : ∀ x ∈ xs, ∀ s, P s → ∃ s', f x s = some (.nx s') ∧ P s') (h : P s) : ∃ s', loopM f xs s = some (.go s') ∧ P s' := by
  obtain ⟨s', e, h'⟩ := loop_ix (P := fun _ => P) xs 0 s (fun j x s hx hp => hs x (List.mem_of_getElem? hx) s hp) h
  exact ⟨s', e, h'⟩
theorem loop_bind {β A R γ : Type} {f : β → A → Option (Out A A R)} {P : Nat → A → Prop} {xs : List β} {s : A} {K : Fin A R → Option γ} {r : Option γ} (hs : ∀ j x s, xs[j]? = some x → P j s → ∃ s', f x s = some (.nx s') ∧ P (j + 1) s') (h : P 0 s) (hk : ∀ s', P xs.length s' → K (.go s') = r) : (loopM f xs s).bind K = r := by
  obtain ⟨s', e, h'⟩ := loop_ix xs 0 s (fun j x s hx hp => by
    rw [Nat.zero_add] at hp ⊢
    exact hs j x s hx hp) h
  rw [e, Option.bind_some]
  rw [Nat.zero_add] at h'
  exact hk s' h'
theorem loop_ex {β A R γ τ : Type} {f : β → A → Option (Out A A R)} {P : A → Prop} {xs : List β} {s : A} {K : Fin A R → Option γ} {g : τ → γ} {Q : τ → Prop} (hs : ∀ x ∈ xs, ∀ s, P s → ∃ s', f x s = some (.nx s') ∧ P s') (h : P s) (hk : ∀ s', P s' → ∃ t, K (.go s') = some (g t) ∧ Q t) : ∃ t, (loopM f xs s).bind K = some (g t) ∧ Q t := by
  obtain ⟨s', e, h'⟩ := loop_inv hs h
  rw [e, Option.bind_some]
  exact hk s' h'
theorem loop_ex0 {β A R γ τ : Type} {f : β → A → Option (Out A A R)} {P : A → Prop} {xs : List β} {s : A} {K : Fin A R → Option γ} {g : τ → γ} (hs : ∀ x ∈ xs, ∀ s, P s → ∃ s', f x s = some (.nx s') ∧ P s') (h : P s) (hk : ∀ s', P s' → ∃ t, K (.go s') = some (g t)) : ∃ t, (loopM f xs s).bind K = some (g t) := by
  obtain ⟨s', e, h'⟩ := loop_inv hs h
  rw [e, Option.bind_some]
  exact hk s' h'
theorem loop_ixe {β A R γ τ : Type} {f : β → A → Option (Out A A R)} {P : Nat → A → Prop} {xs : List β} {s : A} {K : Fin A R → Option γ} {g : τ → γ} {Q : τ → Prop} (hs : ∀ j x s, xs[j]? = some x → P j s → ∃ s', f x s = some (.nx s') ∧ P (j + 1) s') (h : P 0 s) (hk : ∀ s', P xs.length s' → ∃ t, K (.go s') = some (g t) ∧ Q t) : ∃ t, (loopM f xs s).bind K = some (g t) ∧ Q t := by
  obtain ⟨s', e, h'⟩ := loop_ix xs 0 s (fun j x s hx hp => by
    rw [Nat.zero_add] at hp ⊢
    exact hs j x s hx hp) h
  rw [e, Option.bind_some]
  rw [Nat.zero_add] at h'
  exact hk s' h'
theorem any_fm {α : Type} {g : α → Option Bool} : ∀ xs : List α, (xs.filterMap g).any id = xs.any fun x => (g x).getD false
  | [] => rfl
  | x :: xs => by
    rw [List.filterMap_cons, List.any_cons, ← any_fm xs]
    cases g x <;> simp
theorem len_fm {α β : Type} {g : α → Option β} : ∀ xs : List α, decide (0 < ((xs.filterMap g).length : Int)) = xs.any fun x => (g x).isSome
  | [] => rfl
  | x :: xs => by
    rw [List.filterMap_cons, List.any_cons, ← len_fm xs]
    cases g x with
    | none => simp
    | some y => simp
theorem any_same {α : Type} {p q : α → Bool} {xs : List α} (h : ∀ x ∈ xs, p x = q x) : xs.any p = xs.any q := by
  induction xs with
  | nil => rfl
  | cons x xs ih => rw [List.any_cons, List.any_cons, h x (List.mem_cons_self ..), ih fun y m => h y (List.mem_cons_of_mem _ m)]
theorem mem_range' {n : Nat} {x : Int} (h : x ∈ (List.range n).map fun (i : Nat) => (i : Int)) : ∃ j : Nat, x = (j : Int) ∧ j < n := by
  obtain ⟨j, h1, h2⟩ := List.mem_map.mp h
  exact ⟨j, h2.symm, List.mem_range.mp h1⟩
theorem ix_range {n j : Nat} {x : Int} (h : ((List.range n).map fun (i : Nat) => (i : Int))[j]? = some x) : x = (j : Int) ∧ j < n := by
  obtain ⟨h1, h2⟩ := List.getElem?_eq_some_iff.mp h
  have h3 : j < n := by simpa using h1
  exact ⟨by simpa using h2.symm, h3⟩
theorem comp_pure {β A γ : Type} {f : β → A → Option (Option γ × A)} {g : β → Option γ} {s : A} : ∀ (xs : List β), (∀ x ∈ xs, f x s = some (g x, s)) → compM f xs s = some (xs.filterMap g, s)
  | [], _ => rfl
  | x :: xs, h => by
    show (f x s).bind _ = _
    rw [h x (List.mem_cons_self ..), Option.bind_some, comp_pure xs fun y hy => h y (List.mem_cons_of_mem _ hy)]
    cases e : g x <;> simp [List.filterMap_cons, e]
theorem comp_inv {β A γ : Type} {f : β → A → Option (Option γ × A)} {P : A → Prop} {C : γ → Prop} : ∀ (xs : List β) (s : A), (∀ x ∈ xs, ∀ s, P s → ∃ y s', f x s = some (some y, s') ∧ P s' ∧ C y) → P s → ∃ ys s', compM f xs s = some (ys, s') ∧ P s' ∧ (∀ y ∈ ys, C y) ∧ ys.length = xs.length
  | [], s, _, h => ⟨[], s, rfl, h, (by intro y m; cases m), rfl⟩
  | x :: xs, s, hs, h => by
    obtain ⟨y, s1, e, h1, c⟩ := hs x (List.mem_cons_self ..) s h
    obtain ⟨ys, s2, e2, h2, c2, l⟩ := comp_inv (f := f) (P := P) (C := C) xs s1 (fun z hz => hs z (List.mem_cons_of_mem _ hz)) h1
    refine ⟨y :: ys, s2, ?_, h2, ?_, by simp [l]⟩
    · show (f x s).bind _ = _
      rw [e, Option.bind_some]
      try dsimp only
      rw [e2]
      rfl
    · intro z m
      rcases List.mem_cons.mp m with rfl | m
      · exact c
      · exact c2 z m
theorem comp_ex {β A γ δ τ : Type} {f : β → A → Option (Option γ × A)} {P : A → Prop} {C : γ → Prop} {xs : List β} {s : A} {K : List γ × A → Option δ} {g : τ → δ} {Q : τ → Prop} (hs : ∀ x ∈ xs, ∀ s, P s → ∃ y s', f x s = some (some y, s') ∧ P s' ∧ C y) (h : P s)
    (hk : ∀ ys s', ys.length = xs.length → (∀ y ∈ ys, C y) → P s' → ∃ t, K (ys, s') = some (g t) ∧ Q t) : ∃ t, (compM f xs s).bind K = some (g t) ∧ Q t := by
  obtain ⟨ys, s', e, h1, h2, h3⟩ := comp_inv xs s hs h
  rw [e, Option.bind_some]
  exact hk ys s' h3 h2 h1
theorem rng1_nat {n : Nat} (h : n ≤ 4000000000) : rng1 (n : Int) = some ((List.range n).map fun (i : Nat) => (i : Int)) := by
  rw [rng1_eq, if_pos (by omega)]
  unfold rangeL
  rw [Int.sub_zero, Int.toNat_natCast]
  congr 2
  funext i
  omega
theorem getI_at {α : Type} {xs : List α} {i : Nat} (h : i < xs.length) : getI xs (i : Int) = some xs[i] := by
  unfold getI
  rw [if_pos (by omega), Int.toNat_natCast, List.getElem?_eq_getElem h]
theorem getI_ok {α : Type} {xs : List α} {i : Int} (h : 0 ≤ i) (h2 : i < xs.length) : ∃ y, getI xs i = some y ∧ y ∈ xs := by
  obtain ⟨n, rfl⟩ := Int.eq_ofNat_of_zero_le h
  have hn : n < xs.length := by omega
  exact ⟨_, getI_at hn, List.getElem_mem hn⟩
theorem getI_last {α : Type} {xs : List α} {y : α} : getI (xs ++ [y]) (-1) = some y := by
  unfold getI
  rw [if_neg (by omega), if_pos (by simp; omega)]
  have : (-1 + ((xs ++ [y]).length : Int)).toNat = xs.length := by simp; omega
  rw [this]
  simp
theorem modC_ok {x y : Int} (h : 0 < y) : ∃ r, modC x y = some r ∧ 0 ≤ r ∧ r < y := ⟨_, by unfold modC; rw [if_pos h], Int.emod_nonneg _ (by omega), Int.emod_lt_of_pos _ h⟩
theorem mulC_ok {x y : Int} (h : y.natAbs < 2 ^ 64) : mulC x y = some (x * y) := by
  rw [mulC_eq, if_pos (by simp [mulOk, h])]
theorem mulC_ok' {x y : Int} (h : x.natAbs < 2 ^ 64) : mulC x y = some (x * y) := by
  rw [mulC_eq, if_pos (by simp [mulOk, h])]
theorem small9000 {y : Int} (h : y < 2 ^ 64) (h0 : 0 < y) : y.natAbs < 2 ^ 9000 := by
  refine Nat.lt_of_lt_of_le (m := 2 ^ 64) (by omega) (Nat.pow_le_pow_right (by omega) (by omega))
theorem divC_ok {x y : Int} (h0 : 0 < y) (h : y < 2 ^ 64) : divC x y = some (x / y) := by
  rw [divC_eq, if_pos ⟨h0, small9000 h h0⟩]
theorem appC_ok {α : Type} {xs : List α} {y : α} (h : xs.length < 16777216) : appC xs y = some ((), xs ++ [y]) := by
  unfold appC
  rw [if_pos h]
theorem catC_ok {α : Type} {xs ys : List α} (h : xs.length + ys.length ≤ 16777216) : catC xs ys = some (xs ++ ys) := by
  unfold catC
  rw [if_pos h]
theorem setC_ok {α : Type} {xs : List α} {i : Int} {y : α} (h : 0 ≤ i) (h2 : i < xs.length) : ∃ zs, setC xs i y = some zs ∧ zs.length = xs.length := by
  refine ⟨xs.set i.toNat y, ?_, List.length_set ..⟩
  unfold setC L2.ixN
  rw [if_pos h, if_pos h2]
  rfl
theorem popC_ok {xs : List Int} (h : xs ≠ []) : ∃ y ys, popC xs () = some (y, ys) := ⟨_, _, by unfold popC; rw [List.getLast?_eq_some_getLast h]; rfl⟩
theorem loop_hit {β A R γ : Type} {f : β → A → Option (Out A A R)} {P : A → Prop} {y : β} {post : List β} {r : R} {K : Fin A R → Option γ} : ∀ (pre : List β) {xs : List β} {s : A}, xs = pre ++ y :: post → (∀ x ∈ pre, ∀ s, P s → ∃ s', f x s = some (.nx s') ∧ P s') → P s → (∀ s, P s → f y s = some (.rt r)) → (loopM f xs s).bind K = K (.rt r)
  | [], xs, s, e, _, h, hy => by
    subst e
    show Option.bind ((f y s).bind _) K = _
    rw [hy s h]
    rfl
  | x :: pre, xs, s, e, hs, h, hy => by
    subst e
    obtain ⟨s1, e1, h1⟩ := hs x (List.mem_cons_self ..) s h
    show Option.bind ((f x s).bind _) K = _
    rw [e1]
    exact loop_hit pre rfl (fun z m => hs z (List.mem_cons_of_mem _ m)) h1 hy
theorem mem_rangeL {lo hi x : Int} (h : x ∈ rangeL lo hi) : lo ≤ x ∧ x < hi := by
  unfold rangeL at h
  obtain ⟨i, hi, rfl⟩ := List.mem_map.mp h
  have := List.mem_range.mp hi
  omega
theorem rangeL_cons {lo hi : Int} (h : lo < hi) : rangeL lo hi = lo :: rangeL (lo + 1) hi := by
  unfold rangeL
  rw [show (hi - lo).toNat = (hi - (lo + 1)).toNat + 1 by omega, List.range_succ_eq_map, List.map_cons, List.map_map]
  congr 1
  · omega
  · refine List.map_congr_left fun i _ => ?_
    simp only [Function.comp]
    omega
theorem rangeL_split : ∀ (n : Nat) {lo m hi : Int}, (m - lo).toNat = n → lo ≤ m → m < hi → rangeL lo hi = rangeL lo m ++ m :: rangeL (m + 1) hi
  | 0, lo, m, hi, hn, h1, h2 => by
    have e : m = lo := by omega
    subst e
    rw [rangeL_cons h2]
    unfold rangeL
    simp
  | n + 1, lo, m, hi, hn, h1, h2 => by
    rw [rangeL_cons (show lo < hi by omega), rangeL_cons (show lo < m by omega), rangeL_split n (lo := lo + 1) (by omega) (by omega) h2]
    rfl
theorem rng1_L {n : Int} (h : -(2 ^ 62) ≤ n) (h2 : n < 2 ^ 62) : rng1 n = some (rangeL 0 n) := by
  rw [rng1_eq, if_pos ⟨h, h2⟩]
end L3

/-! L3: what every law's text has alike, and words for its plain part. -/
namespace L3
open PySem
/-- o ends with a value of which Q -/
def Ev {α : Type} (o : Option α) (Q : α → Prop) : Prop := ∃ r, o = some r ∧ Q r
theorem Ev.some {α : Type} {x : α} {Q : α → Prop} (h : Q x) : Ev (some x) Q := ⟨x, rfl, h⟩
theorem Ev.imp {α : Type} {o : Option α} {P Q : α → Prop} (h : Ev o P) (k : ∀ x, P x → Q x) : Ev o Q := let ⟨x, e, p⟩ := h; ⟨x, e, k x p⟩
theorem Ev.bind {α β : Type} {o : Option α} {f : α → Option β} {P : α → Prop} {Q : β → Prop} (h : Ev o P) (k : ∀ x, P x → Ev (f x) Q) : Ev (o.bind f) Q := by
  obtain ⟨x, e, p⟩ := h
  rw [e, Option.bind_some]
  exact k x p
theorem Ev.eq {α : Type} {o : Option α} {x : α} (h : Ev o fun y => y = x) : o = Option.some x := by
  obtain ⟨y, e, rfl⟩ := h
  exact e
theorem wp_eq {α β : Type} {o : Option α} {x : α} {f : α → Option β} {Q : β → Prop} (h : o = some x) (k : Ev (f x) Q) : Ev (o.bind f) Q := by rw [h]; exact k
def TakeOk (f : List Int → Int → Option (Int × List Int)) : Prop := ∀ ds many, 0 < many → ∃ t ds', f ds many = some (t, ds') ∧ 0 ≤ t ∧ t < many
theorem take_gen {f : List Int → Int → Option (Int × List Int)} (e : ∀ draws many, f draws many = if decide ((↑(List.length draws) : Int) = 0) = true then some (0, draws)
  else (popC draws ()).bind fun (t0, d1) =>
    (modC t0 many).bind fun t2 =>
    some (t2, d1)) : TakeOk f := by
  intro ds many h
  rw [e]
  by_cases hd : ds = []
  · subst hd
    exact ⟨0, [], rfl, by omega, h⟩
  · obtain ⟨y, ys, e⟩ := popC_ok hd
    obtain ⟨r, e2, h1, h2⟩ := modC_ok (x := y) h
    refine ⟨r, ys, ?_, h1, h2⟩
    have hl : ds.length ≠ 0 := fun z => hd (List.eq_nil_of_length_eq_zero z)
    rw [if_neg (by simp; omega), e]
    show (modC y many).bind _ = _
    rw [e2]
    rfl
theorem wp_take {f : List Int → Int → Option (Int × List Int)} (T : TakeOk f) {ds : List Int} {many : Int} {γ : Type} {K : Int × List Int → Option γ} {Q : γ → Prop} (h : 0 < many) (k : ∀ t d, 0 ≤ t → t < many → Ev (K (t, d)) Q) : Ev ((f ds many).bind K) Q := by
  obtain ⟨t, d, e, h1, h2⟩ := T ds many h
  rw [e, Option.bind_some]
  exact k t d h1 h2
theorem wp_getI {α γ : Type} {xs : List α} {i : Int} {K : α → Option γ} {Q : γ → Prop} (h : 0 ≤ i) (h2 : i < xs.length) (k : ∀ y ∈ xs, Ev (K y) Q) : Ev ((getI xs i).bind K) Q := by
  obtain ⟨y, e, m⟩ := getI_ok h h2
  rw [e, Option.bind_some]
  exact k y m
theorem wp_if {α : Type} {c : Prop} [Decidable c] {a b : Option α} {Q : α → Prop} (h1 : c → Ev a Q) (h2 : ¬c → Ev b Q) : Ev (if c then a else b) Q := by
  by_cases h : c
  · rw [if_pos h]; exact h1 h
  · rw [if_neg h]; exact h2 h
/-- a loop of which only the first part of the state (the draws) changes -/
theorem wp_loop {β D S R γ : Type} {f : β → D × S → Option (Out (D × S) (D × S) R)} {xs : List β} {d : D} {s : S} {K : Fin (D × S) R → Option γ} {Q : γ → Prop} (hs : ∀ x ∈ xs, ∀ d, Ev (f x (d, s)) fun o => ∃ d', o = .nx (d', s)) (hk : ∀ d, Ev (K (.go (d, s))) Q) : Ev ((loopM f xs (d, s)).bind K) Q := by
  obtain ⟨s', e, d', rfl⟩ := loop_inv (f := f) (xs := xs) (s := (d, s)) (P := fun z => ∃ d, z = (d, s)) (fun x m z ⟨d, hz⟩ => by
    subst hz
    obtain ⟨o, e, d', rfl⟩ := hs x m d
    exact ⟨_, e, d', rfl⟩) ⟨d, rfl⟩
  rw [e, Option.bind_some]
  exact hk d'
/-- .. the second part -/
theorem wp_loop1 {β D S U R γ : Type} {f : β → U × D × S → Option (Out (U × D × S) (U × D × S) R)} {xs : List β} {u : U} {d : D} {s : S} {K : Fin (U × D × S) R → Option γ} {Q : γ → Prop} (hs : ∀ x ∈ xs, ∀ d, Ev (f x (u, d, s)) fun o => ∃ d', o = .nx (u, d', s)) (hk : ∀ d, Ev (K (.go (u, d, s))) Q) : Ev ((loopM f xs (u, d, s)).bind K) Q := by
  obtain ⟨s', e, d', rfl⟩ := loop_inv (f := f) (xs := xs) (s := (u, d, s)) (P := fun z => ∃ d, z = (u, d, s)) (fun x m z ⟨d, hz⟩ => by
    subst hz
    obtain ⟨o, e, d', rfl⟩ := hs x m d
    exact ⟨_, e, d', rfl⟩) ⟨d, rfl⟩
  rw [e, Option.bind_some]
  exact hk d'
/-- a loop that changes nothing -/
theorem wp_loop0 {β S R γ : Type} {f : β → S → Option (Out S S R)} {xs : List β} {s : S} {K : Fin S R → Option γ} {Q : γ → Prop} (hs : ∀ x ∈ xs, f x s = some (.nx s)) (hk : Ev (K (.go s)) Q) : Ev ((loopM f xs s).bind K) Q := by
  obtain ⟨s', e, rfl⟩ := loop_inv (f := f) (xs := xs) (s := s) (P := fun z => z = s) (fun x m z hz => by
    subst hz
    exact ⟨_, hs x m, rfl⟩) rfl
  rw [e, Option.bind_some]
  exact hk
/-- a loop by an invariant -/
theorem wp_loopP {β A R γ : Type} {f : β → A → Option (Out A A R)} (P : Nat → A → Prop) {xs : List β} {s : A} {K : Fin A R → Option γ} {Q : γ → Prop} (hs : ∀ j x s, xs[j]? = some x → P j s → ∃ s', f x s = some (.nx s') ∧ P (j + 1) s') (h : P 0 s) (hk : ∀ s', P xs.length s' → Ev (K (.go s')) Q) : Ev ((loopM f xs s).bind K) Q := by
  obtain ⟨s', e, h'⟩ := loop_ix (f := f) (P := P) xs 0 s (fun j x s hx hp => by
    rw [Nat.zero_add] at hp ⊢
    exact hs j x s hx hp) h
  rw [e, Option.bind_some]
  rw [Nat.zero_add] at h'
  exact hk s' h'
/-- a comprehension that draws -/
theorem wp_comp {β D S α γ : Type} {f : β → D × S → Option (Option α × D × S)} {C : α → Prop} {xs : List β} {d : D} {s : S} {K : List α × D × S → Option γ} {Q : γ → Prop} (hs : ∀ x ∈ xs, ∀ d, Ev (f x (d, s)) fun o => ∃ y d', o = (some y, d', s) ∧ C y) (hk : ∀ ys d, ys.length = xs.length → (∀ y ∈ ys, C y) → Ev (K (ys, d, s)) Q) : Ev ((compM f xs (d, s)).bind K) Q := by
  obtain ⟨ys, s', e, ⟨d', rfl⟩, h2, h3⟩ := comp_inv (f := f) (C := C) (P := fun z => ∃ d, z = (d, s)) xs (d, s) (fun x m z ⟨d, hz⟩ => by
    subst hz
    obtain ⟨o, e, y, d', rfl, c⟩ := hs x m d
    exact ⟨y, _, e, ⟨d', rfl⟩, c⟩) ⟨d, rfl⟩
  rw [e, Option.bind_some]
  exact hk ys d' h3 h2
theorem wp_comp1 {β D S U α γ : Type} {f : β → U × D × S → Option (Option α × U × D × S)} {C : α → Prop} {xs : List β} {u : U} {d : D} {s : S} {K : List α × U × D × S → Option γ} {Q : γ → Prop} (hs : ∀ x ∈ xs, ∀ d, Ev (f x (u, d, s)) fun o => ∃ y d', o = (some y, u, d', s) ∧ C y) (hk : ∀ ys d, ys.length = xs.length → (∀ y ∈ ys, C y) → Ev (K (ys, u, d, s)) Q) : Ev ((compM f xs (u, d, s)).bind K) Q := by
  obtain ⟨ys, s', e, ⟨d', rfl⟩, h2, h3⟩ := comp_inv (f := f) (C := C) (P := fun z => ∃ d, z = (u, d, s)) xs (u, d, s) (fun x m z ⟨d, hz⟩ => by
    subst hz
    obtain ⟨o, e, y, d', rfl, c⟩ := hs x m d
    exact ⟨y, _, e, ⟨d', rfl⟩, c⟩) ⟨d, rfl⟩
  rw [e, Option.bind_some]
  exact hk ys d' h3 h2
/-! ### comprehensions as map and filter -/
theorem cmap {β A γ : Type} {f : β → A → Option (Option γ × A)} (g : β → γ) {xs : List β} {s : A} (h : ∀ x ∈ xs, f x s = some (some (g x), s)) : compM f xs s = some (xs.map g, s) := by
  rw [comp_pure (g := fun x => some (g x)) xs h]
  show some (xs.filterMap (some ∘ g), s) = _
  rw [List.filterMap_eq_map]
theorem fm_if {α γ : Type} (p : α → Bool) (g : α → γ) : ∀ xs : List α, (xs.filterMap fun x => if p x = true then some (g x) else none) = (xs.filter p).map g
  | [] => rfl
  | x :: xs => by
    rw [List.filterMap_cons, List.filter_cons, fm_if p g xs]
    cases p x <;> rfl
theorem comp_if {β A γ : Type} {f : β → A → Option (Option γ × A)} (p : β → Bool) (g : β → γ) {xs : List β} {s : A} (h : ∀ x ∈ xs, f x s = some (if p x = true then some (g x) else none, s)) : compM f xs s = some ((xs.filter p).map g, s) := by
  rw [comp_pure (g := fun x => if p x = true then some (g x) else none) xs h, fm_if]
theorem comp_fil {β A : Type} {f : β → A → Option (Option β × A)} (p : β → Bool) {xs : List β} {s : A} (h : ∀ x ∈ xs, f x s = some (if p x = true then some x else none, s)) : compM f xs s = some (xs.filter p, s) := by
  rw [comp_if p id h, List.map_id]
/-! ### numbers of things -/
def nums (n : Nat) : List Int := (List.range n).map fun (i : Nat) => (i : Int)
def idx (n : Nat) (p : Nat → Bool) : List Int := ((List.range n).filter p).map fun (i : Nat) => (i : Int)
def ix {α : Type} [Inhabited α] (xs : List α) (j : Nat) : α := xs.getD j default
theorem rng_len {n : Nat} (h : n ≤ 4000000000) : rng1 (n : Int) = some (nums n) := rng1_nat h
theorem nums_len (n : Nat) : (nums n).length = n := by simp [nums]
theorem idx_len (n : Nat) (p : Nat → Bool) : (idx n p).length ≤ n := by
  unfold idx
  rw [List.length_map]
  refine Nat.le_trans (List.length_filter_le ..) ?_
  rw [List.length_range]
  exact Nat.le_refl _
theorem mem_nums {n : Nat} {x : Int} : x ∈ nums n ↔ ∃ j : Nat, x = (j : Int) ∧ j < n := by
  unfold nums
  simp only [List.mem_map, List.mem_range]
  constructor
  · rintro ⟨j, h, rfl⟩; exact ⟨j, rfl, h⟩
  · rintro ⟨j, rfl, h⟩; exact ⟨j, h, rfl⟩
theorem mem_idx {n : Nat} {p : Nat → Bool} {x : Int} : x ∈ idx n p ↔ ∃ j : Nat, x = (j : Int) ∧ j < n ∧ p j = true := by
  unfold idx
  simp only [List.mem_map, List.mem_filter, List.mem_range]
  constructor
  · rintro ⟨j, h, rfl⟩; exact ⟨j, rfl, h⟩
  · rintro ⟨j, rfl, h⟩; exact ⟨j, h, rfl⟩
theorem ix_at {α : Type} [Inhabited α] {xs : List α} {j : Nat} (h : j < xs.length) : ix xs j = xs[j] := by
  unfold ix
  rw [List.getD_eq_getElem?_getD, List.getElem?_eq_getElem h]
  rfl
theorem ix_mem {α : Type} [Inhabited α] {xs : List α} {j : Nat} (h : j < xs.length) : ix xs j ∈ xs := by
  rw [ix_at h]; exact List.getElem_mem h
theorem getI_ix {α : Type} [Inhabited α] {xs : List α} {j : Nat} (h : j < xs.length) : getI xs (j : Int) = some (ix xs j) := by rw [getI_at h, ix_at h]
theorem getI_ixI {α : Type} [Inhabited α] {xs : List α} {i : Int} (h : 0 ≤ i) (h2 : i < xs.length) : getI xs i = some (ix xs i.toNat) := by
  obtain ⟨j, rfl⟩ := Int.eq_ofNat_of_zero_le h
  rw [getI_ix (by omega), Int.toNat_natCast]
theorem comp_nums {A γ : Type} {f : Int → A → Option (Option γ × A)} (g : Nat → γ) {n : Nat} {s : A} (h : ∀ j < n, f (j : Int) s = some (some (g j), s)) : compM f (nums n) s = some ((List.range n).map g, s) := by
  rw [cmap (fun x => g x.toNat) (xs := nums n)]
  · unfold nums
    rw [List.map_map]
    rfl
  · intro x m
    obtain ⟨j, rfl, hj⟩ := mem_nums.mp m
    rw [Int.toNat_natCast]
    exact h j hj
theorem comp_idx {A : Type} {f : Int → A → Option (Option Int × A)} (p : Nat → Bool) {n : Nat} {s : A} (h : ∀ j < n, f (j : Int) s = some (if p j = true then some (j : Int) else none, s)) : compM f (nums n) s = some (idx n p, s) := by
  rw [comp_fil (fun x => p x.toNat) (xs := nums n)]
  · unfold nums idx
    rw [List.filter_map]
    rfl
  · intro x m
    obtain ⟨j, rfl, hj⟩ := mem_nums.mp m
    rw [Int.toNat_natCast]
    exact h j hj
theorem nums_get {n j : Nat} {x : Int} (h : (nums n)[j]? = some x) : x = (j : Int) ∧ j < n := ix_range h
theorem idx_succ (n : Nat) (p : Nat → Bool) : idx (n + 1) p = idx n p ++ if p n = true then [(n : Int)] else [] := by
  unfold idx
  rw [List.range_succ, List.filter_append, List.map_append, List.filter_cons, List.filter_nil]
  cases p n <;> rfl
theorem idx_congr {n : Nat} {p q : Nat → Bool} (h : ∀ j < n, p j = q j) : idx n p = idx n q := by
  unfold idx
  rw [List.filter_congr fun x m => h x (List.mem_range.mp m)]
theorem idx_nil {n : Nat} {p : Nat → Bool} (h : ∀ j < n, p j = false) : idx n p = [] := by
  unfold idx
  rw [List.filter_eq_nil_iff.mpr]
  · rfl
  · intro x m
    rw [h x (List.mem_range.mp m)]
    exact Bool.false_ne_true
/-! ### while -/
theorem while_go {A R : Type} {f : A → Option (Option (Out A A R) × A)} {n : Nat} {s s1 s2 : A} (h : f s = some (some (.nx s1), s2)) : whileM f (n + 1) s = whileM f n s1 := by
  show (f s).bind _ = _
  rw [h]
  rfl
theorem while_end {A R : Type} {f : A → Option (Option (Out A A R) × A)} {n : Nat} {s s1 : A} (h : f s = some (none, s1)) : whileM f (n + 1) s = some (.go s1) := by
  show (f s).bind _ = _
  rw [h]
  rfl
theorem while_ret {A R : Type} {f : A → Option (Option (Out A A R) × A)} {n : Nat} {s s2 : A} {r : R} (h : f s = some (some (.rt r), s2)) : whileM f (n + 1) s = some (.rt r) := by
  show (f s).bind _ = _
  rw [h]
  rfl
/-- a while by a measure: each turn goes on with less, or ends -/
theorem while_by {A R : Type} {f : A → Option (Option (Out A A R) × A)} {D : A → Prop} (P : Nat → A → Prop) (hs : ∀ n s, P n s → (∃ s1, f s = some (none, s1) ∧ D s1) ∨ (∃ s1 s2 m, f s = some (some (.nx s1), s2) ∧ P m s1 ∧ m < n)) : ∀ (N n : Nat) (s : A), n < N → P n s → ∃ s', whileM f N s = some (.go s') ∧ D s'
  | 0, n, s, h, _ => absurd h (Nat.not_lt_zero n)
  | N + 1, n, s, h, p => by
    rcases hs n s p with ⟨s1, e, d⟩ | ⟨s1, s2, m, e, p', hm⟩
    · exact ⟨s1, while_end e, d⟩
    · rw [while_go e]
      exact while_by P hs N m s1 (by omega) p'
theorem wp_while {A R γ : Type} {f : A → Option (Option (Out A A R) × A)} {D : A → Prop} {N : Nat} {s : A} {K : Fin A R → Option γ} {Q : γ → Prop} (P : Nat → A → Prop) (n : Nat) (hn : n < N) (h : P n s) (hs : ∀ n s, P n s → (∃ s1, f s = some (none, s1) ∧ D s1) ∨ (∃ s1 s2 m, f s = some (some (.nx s1), s2) ∧ P m s1 ∧ m < n)) (hk : ∀ s, D s → Ev (K (.go s)) Q) : Ev ((whileM f N s).bind K) Q := by
  obtain ⟨s', e, d⟩ := while_by P hs N n s hn h
  rw [e, Option.bind_some]
  exact hk s' d
theorem big {n : Nat} (h : n < 10 ^ 30) : n < 10 ^ 100 := Nat.lt_of_lt_of_le h (Nat.pow_le_pow_right (by omega) (by omega))
/-! ### the first of which -/
theorem loop_first {β A R : Type} {f : β → A → Option (Out A A R)} (p : β → Bool) (g : β → R) {s : A} : ∀ (xs : List β), (∀ x ∈ xs, f x s = some (if p x = true then .rt (g x) else .nx s)) → loopM f xs s = some (match xs.find? p with | some x => .rt (g x) | none => .go s)
  | [], _ => rfl
  | x :: xs, h => by
    show (f x s).bind _ = _
    rw [h x (List.mem_cons_self ..), Option.bind_some, List.find?_cons]
    cases p x with
    | true => rfl
    | false => exact loop_first p g xs fun y m => h y (List.mem_cons_of_mem _ m)
theorem getI_first {α : Type} (p : α → Bool) (xs : List α) : getI ((xs.filter p).map some ++ [none]) 0 = some (xs.find? p) := by
  rw [← List.head?_filter]
  cases xs.filter p <;> rfl
theorem catC_le {α : Type} {xs ys : List α} (h : xs.length + ys.length ≤ 16777216) : catC xs ys = some (xs ++ ys) := catC_ok h
theorem cutI_tail {α : Type} (a : α) (l : List α) : cutI (a :: l) (some 1) none = l := by
  unfold cutI HT.sIx
  simp
theorem cutI_last {α : Type} (l : List α) (x : α) : cutI (l ++ [x]) (some (-1)) none = [x] := by
  unfold cutI
  have e : HT.sIx (l ++ [x]).length 0 (some (-1)) = l.length := by
    show (-1 + (((l ++ [x]).length : Nat) : Int)).toNat = l.length
    simp
    omega
  rw [e, HT.sIx_none, List.drop_left]
  rw [List.take_of_length_le (by simp)]
theorem ix_map {α β : Type} [Inhabited α] [Inhabited β] {f : α → β} {xs : List α} {j : Nat} (h : j < xs.length) : ix (xs.map f) j = f (ix xs j) := by
  rw [ix_at (by rw [List.length_map]; exact h), ix_at h, List.getElem_map]
theorem max_some {xs : List Int} (h : xs ≠ []) : ∃ m, xs.max? = some m := by
  cases xs with
  | nil => exact absurd rfl h
  | cons a l => exact ⟨_, rfl⟩
theorem min_some {xs : List Int} (h : xs ≠ []) : ∃ m, xs.min? = some m := by
  cases xs with
  | nil => exact absurd rfl h
  | cons a l => exact ⟨_, rfl⟩
theorem sortU_map {α β : Type} {lt : α → α → Bool} {lt' : β → β → Bool} {f : α → β} {xs : List α} (h : ∀ a ∈ xs, ∀ b ∈ xs, lt a b = lt' (f a) (f b)) : sortU lt' (xs.map f) = (sortU lt xs).map f :=
  (List.map_mergeSort fun a ha b hb => by rw [h b hb a ha]).symm
/-! ### the one sorted list -/
structure Tot {α : Type} (lt : α → α → Bool) : Prop where
  anti : ∀ a b, lt a b = false → lt b a = false → a = b
  tr : ∀ a b c, lt b a = false → lt c b = false → lt c a = false
  tot : ∀ a b, lt b a = false ∨ lt a b = false
theorem sortU_srt {α : Type} {lt : α → α → Bool} (T : Tot lt) (xs : List α) : (sortU lt xs).Pairwise fun a b => lt b a = false := by
  have h := List.pairwise_mergeSort (le := fun a b => !lt b a) (fun a b c h1 h2 => by
    simp only [Bool.not_eq_true'] at *
    exact T.tr a b c h1 h2) (fun a b => by
    simp only [Bool.or_eq_true, Bool.not_eq_true']
    exact T.tot a b) xs
  exact h.imp fun h => by simpa using h
theorem sortU_perm {α : Type} (lt : α → α → Bool) (xs : List α) : (sortU lt xs).Perm xs := List.mergeSort_perm xs _
theorem sortU_eq {α : Type} {lt : α → α → Bool} (T : Tot lt) {xs ys : List α} (h : ys.Perm xs) (h2 : ys.Pairwise fun a b => lt b a = false) : sortU lt xs = ys :=
  List.Perm.eq_of_pairwise (fun a b _ _ h1 h2 => T.anti a b h2 h1) (sortU_srt T xs) h2 ((sortU_perm lt xs).trans h.symm)
abbrev ltI : Int → Int → Bool := Ord.lt uInt
abbrev ltII : Int × Int → Int × Int → Bool := Ord.lt (uTup (wCons uInt (wOne uInt)))
theorem totI : Tot ltI := ⟨fun a b h1 h2 => by
    have h1 := of_decide_eq_false h1
    have h2 := of_decide_eq_false h2
    omega, fun a b c h1 h2 => by
    have h1 := of_decide_eq_false h1
    have h2 := of_decide_eq_false h2
    exact decide_eq_false (by omega), fun a b => by
    by_cases h : b < a
    · exact .inr (decide_eq_false (by omega))
    · exact .inl (decide_eq_false h)⟩
theorem ltII_eq (a b : Int × Int) : ltII a b = decide (a.1 < b.1 ∨ a.1 = b.1 ∧ a.2 < b.2) := by
  show (if a.1 = b.1 then decide (a.2 < b.2) else decide (a.1 < b.1)) = _
  by_cases h : a.1 = b.1
  · rw [if_pos h]; exact decide_eq_decide.mpr (by omega)
  · rw [if_neg h]; exact decide_eq_decide.mpr (by omega)
theorem totII : Tot ltII := ⟨fun a b h1 h2 => by
    rw [ltII_eq] at h1 h2
    have h1 := of_decide_eq_false h1
    have h2 := of_decide_eq_false h2
    refine Prod.ext ?_ ?_ <;> omega, fun a b c h1 h2 => by
    rw [ltII_eq] at h1 h2 ⊢
    have h1 := of_decide_eq_false h1
    have h2 := of_decide_eq_false h2
    exact decide_eq_false (by omega), fun a b => by
    rw [ltII_eq, ltII_eq]
    by_cases h : b.1 < a.1 ∨ b.1 = a.1 ∧ b.2 < a.2
    · exact .inr (decide_eq_false (by omega))
    · exact .inl (decide_eq_false h)⟩
theorem if_some {A B : Type} {c : Prop} [Decidable c] {a b : Bool} {s : A} {K : Bool × A → Option B} : (if c then some (a, s) else some (b, s)).bind K = K (if c then a else b, s) := by
  by_cases h : c
  · rw [if_pos h, if_pos h]; rfl
  · rw [if_neg h, if_neg h]; rfl
theorem memD_false {α : Type} [DecidableEq α] {x : α} {ys : List α} (h : x ∉ ys) : memD x ys = false := by unfold memD; exact decide_eq_false h
theorem memD_true {α : Type} [DecidableEq α] {x : α} {ys : List α} (h : x ∈ ys) : memD x ys = true := by unfold memD; exact decide_eq_true h
/-- a loop by an invariant, its turns by what they end with -/
theorem wp_loopE {β A R γ : Type} {f : β → A → Option (Out A A R)} (P : Nat → A → Prop) {xs : List β} {s : A} {K : Fin A R → Option γ} {Q : γ → Prop} (hs : ∀ j x s, xs[j]? = some x → P j s → Ev (f x s) fun o => ∃ s', o = .nx s' ∧ P (j + 1) s') (h : P 0 s) (hk : ∀ s', P xs.length s' → Ev (K (.go s')) Q) : Ev ((loopM f xs s).bind K) Q :=
  wp_loopP P (fun j x s hx hp => by
    obtain ⟨o, e, s', rfl, h'⟩ := hs j x s hx hp
    exact ⟨s', e, h'⟩) h hk
end L3

/-! L3: the draws of a law's script, its cells, sizes. -/
namespace L3
open PySem
noncomputable def drawsF (script : List Int) (many : Int) : Option (List Int) :=
  if List.length script ≤ 16777216 then (compM (fun x0 (script, many, _, _, _, _, _, _, _, _) =>
        if true = true then some (some x0, script, many, (), (), (), (), (), (), (), ())
        else some (none, script, many, (), (), (), (), (), (), (), ())) script ((script, many, (), (), (), (), (), (), (), ()))).bind fun (t1, (script, many, _, _, _, _, _, _, _, _)) =>
    (if decide ((↑(List.length t1) : Int) = 0) = true then (appC t1 0).bind fun (t2, d3) =>
        some (Out.nx ((), many, d3, (), (), (), (), (), (), ()))
      else some (Out.nx ((), many, t1, (), (), (), (), (), (), ())) : Option (Out (PUnit × Int × List Int × PUnit × PUnit × PUnit × PUnit × PUnit × PUnit × PUnit) PUnit (List Int))).bind fun o => match o with
    | .nx (_, many, cells, _, _, _, _, _, _, _) => (rng1 many).bind fun t4 =>
      (loopM (fun x5 (_, many, cells, rest, draws, _, _, _, _, _) =>
          (modC x5 (↑(List.length cells) : Int)).bind fun t6 =>
          ((getI cells t6).bind fun t7 =>
            if decide (1000000000000000000 ≤ t7) = true then (getI rest t6).bind fun t8 =>
              some (decide (0 < t8), (), many, cells, rest, draws, x5, t6, (), (), ())
            else some (false, (), many, cells, rest, draws, x5, t6, (), (), ())).bind fun (t9, (_, many, cells, rest, draws, k, at', _, _, _)) =>
          (if t9 = true then (getI rest at').bind fun t10 =>
              (modC t10 1000).bind fun t11 =>
              (appC draws t11).bind fun (t12, d13) =>
              (getI rest at').bind fun t14 =>
              (divC t14 1000).bind fun t15 =>
              (setC rest at' t15).bind fun t16 =>
              some (Out.nx ((), many, cells, t16, d13, (), (), (), (), ()))
            else (getI cells at').bind fun t17 =>
              (mulC t17 48271).bind fun t18 =>
              (mulC k 69621).bind fun t19 =>
              (modC (t18 + t19 + 11) 2147483647).bind fun t20 =>
              (mulC t20 t20).bind fun t21 =>
              (mulC 3 t20).bind fun t22 =>
              (modC (t21 + t22 + k) 1000003).bind fun t23 =>
              (appC draws t23).bind fun (t24, d25) =>
              some (Out.nx ((), many, cells, rest, d25, (), (), (), (), ())) : Option
  (Out (PUnit × Int × List Int × List Int × List Int × PUnit × PUnit × PUnit × PUnit × PUnit)
    (PUnit × Int × List Int × List Int × List Int × PUnit × PUnit × PUnit × PUnit × PUnit) (List Int))).bind fun o => match o with
          | .nx (_, many, cells, rest, draws, _, _, _, _, _) => some (Out.nx ((), many, cells, rest, draws, (), (), (), (), ()))
          | .bk (_, many, cells, rest, draws, _, _, _, _, _) => some (Out.bk ((), many, cells, rest, draws, (), (), (), (), ()))
          | .ct (_, many, cells, rest, draws, _, _, _, _, _) => some (Out.ct ((), many, cells, rest, draws, (), (), (), (), ()))
          | .rt r => some (Out.rt r)) t4 (((), many, cells, cells, [], (), (), (), (), ()))).bind fun o => match o with
      | .go (_, many, cells, rest, draws, _, _, _, _, _) => some (List.reverse draws)
      | .rt r => some r
    | .bk s26 => none
    | .ct s27 => none
    | .rt r => some r
  else none
theorem e_drawsF (script : List Int) (many : Int) : drawsF script many =
  if List.length script ≤ 16777216 then (compM (fun x0 (script, many, _, _, _, _, _, _, _, _) =>
        if true = true then some (some x0, script, many, (), (), (), (), (), (), (), ())
        else some (none, script, many, (), (), (), (), (), (), (), ())) script ((script, many, (), (), (), (), (), (), (), ()))).bind fun (t1, (script, many, _, _, _, _, _, _, _, _)) =>
    (if decide ((↑(List.length t1) : Int) = 0) = true then (appC t1 0).bind fun (t2, d3) =>
        some (Out.nx ((), many, d3, (), (), (), (), (), (), ()))
      else some (Out.nx ((), many, t1, (), (), (), (), (), (), ())) : Option (Out (PUnit × Int × List Int × PUnit × PUnit × PUnit × PUnit × PUnit × PUnit × PUnit) PUnit (List Int))).bind fun o => match o with
    | .nx (_, many, cells, _, _, _, _, _, _, _) => (rng1 many).bind fun t4 =>
      (loopM (fun x5 (_, many, cells, rest, draws, _, _, _, _, _) =>
          (modC x5 (↑(List.length cells) : Int)).bind fun t6 =>
          ((getI cells t6).bind fun t7 =>
            if decide (1000000000000000000 ≤ t7) = true then (getI rest t6).bind fun t8 =>
              some (decide (0 < t8), (), many, cells, rest, draws, x5, t6, (), (), ())
            else some (false, (), many, cells, rest, draws, x5, t6, (), (), ())).bind fun (t9, (_, many, cells, rest, draws, k, at', _, _, _)) =>
          (if t9 = true then (getI rest at').bind fun t10 =>
              (modC t10 1000).bind fun t11 =>
              (appC draws t11).bind fun (t12, d13) =>
              (getI rest at').bind fun t14 =>
              (divC t14 1000).bind fun t15 =>
              (setC rest at' t15).bind fun t16 =>
              some (Out.nx ((), many, cells, t16, d13, (), (), (), (), ()))
            else (getI cells at').bind fun t17 =>
              (mulC t17 48271).bind fun t18 =>
              (mulC k 69621).bind fun t19 =>
              (modC (t18 + t19 + 11) 2147483647).bind fun t20 =>
              (mulC t20 t20).bind fun t21 =>
              (mulC 3 t20).bind fun t22 =>
              (modC (t21 + t22 + k) 1000003).bind fun t23 =>
              (appC draws t23).bind fun (t24, d25) =>
              some (Out.nx ((), many, cells, rest, d25, (), (), (), (), ())) : Option
  (Out (PUnit × Int × List Int × List Int × List Int × PUnit × PUnit × PUnit × PUnit × PUnit)
    (PUnit × Int × List Int × List Int × List Int × PUnit × PUnit × PUnit × PUnit × PUnit) (List Int))).bind fun o => match o with
          | .nx (_, many, cells, rest, draws, _, _, _, _, _) => some (Out.nx ((), many, cells, rest, draws, (), (), (), (), ()))
          | .bk (_, many, cells, rest, draws, _, _, _, _, _) => some (Out.bk ((), many, cells, rest, draws, (), (), (), (), ()))
          | .ct (_, many, cells, rest, draws, _, _, _, _, _) => some (Out.ct ((), many, cells, rest, draws, (), (), (), (), ()))
          | .rt r => some (Out.rt r)) t4 (((), many, cells, cells, [], (), (), (), (), ()))).bind fun o => match o with
      | .go (_, many, cells, rest, draws, _, _, _, _, _) => some (List.reverse draws)
      | .rt r => some r
    | .bk s26 => none
    | .ct s27 => none
    | .rt r => some r
  else none := rfl
abbrev SD := Unit × Int × List Int × List Int × List Int × Unit × Unit × Unit × Unit × Unit
noncomputable def dbody (x5 : Int) : SD → Option (Out SD SD (List Int))
  | (_, many, cells, rest, draws, _, _, _, _, _) =>
          (modC x5 (↑(List.length cells) : Int)).bind fun t6 =>
          ((getI cells t6).bind fun t7 =>
            if decide (1000000000000000000 ≤ t7) = true then (getI rest t6).bind fun t8 =>
              some (decide (0 < t8), (), many, cells, rest, draws, x5, t6, (), (), ())
            else some (false, (), many, cells, rest, draws, x5, t6, (), (), ())).bind fun (t9, (_, many, cells, rest, draws, k, at', _, _, _)) =>
          (if t9 = true then (getI rest at').bind fun t10 =>
              (modC t10 1000).bind fun t11 =>
              (appC draws t11).bind fun (t12, d13) =>
              (getI rest at').bind fun t14 =>
              (divC t14 1000).bind fun t15 =>
              (setC rest at' t15).bind fun t16 =>
              some (Out.nx ((), many, cells, t16, d13, (), (), (), (), ()))
            else (getI cells at').bind fun t17 =>
              (mulC t17 48271).bind fun t18 =>
              (mulC k 69621).bind fun t19 =>
              (modC (t18 + t19 + 11) 2147483647).bind fun t20 =>
              (mulC t20 t20).bind fun t21 =>
              (mulC 3 t20).bind fun t22 =>
              (modC (t21 + t22 + k) 1000003).bind fun t23 =>
              (appC draws t23).bind fun (t24, d25) =>
              some (Out.nx ((), many, cells, rest, d25, (), (), (), (), ())) : Option (Out SD SD (List Int))).bind fun o => match o with
          | .nx (_, many, cells, rest, draws, _, _, _, _, _) => some (Out.nx ((), many, cells, rest, draws, (), (), (), (), ()))
          | .bk (_, many, cells, rest, draws, _, _, _, _, _) => some (Out.bk ((), many, cells, rest, draws, (), (), (), (), ()))
          | .ct (_, many, cells, rest, draws, _, _, _, _, _) => some (Out.ct ((), many, cells, rest, draws, (), (), (), (), ()))
          | .rt r => some (Out.rt r)
theorem dbody_ok (x many : Int) (cells rest draws : List Int) (hc : cells ≠ []) (hr : rest.length = cells.length) (hd : draws.length < 16777216) : ∃ rest' draws', dbody x ((), many, cells, rest, draws, (), (), (), (), ()) = some (.nx ((), many, cells, rest', draws', (), (), (), (), ())) ∧ rest'.length = cells.length ∧ draws'.length = draws.length + 1 := by
  have hl : cells.length ≠ 0 := fun z => hc (List.eq_nil_of_length_eq_zero z)
  obtain ⟨r, e2, h1, h2⟩ := modC_ok (x := x) (y := ((cells.length : Nat) : Int)) (by omega)
  obtain ⟨c, e3, _⟩ := getI_ok (xs := cells) h1 h2
  obtain ⟨c2, e4, _⟩ := getI_ok (xs := rest) h1 (by omega)
  obtain ⟨q, e5, _, _⟩ := modC_ok (x := c2) (y := 1000) (by decide)
  obtain ⟨zs, e6, hz⟩ := setC_ok (xs := rest) (i := r) (y := c2 / 1000) h1 (by omega)
  obtain ⟨u, e7, g1, g2⟩ := modC_ok (x := c * 48271 + x * 69621 + 11) (y := 2147483647) (by decide)
  obtain ⟨u2, e8, _, _⟩ := modC_ok (x := u * u + 3 * u + x) (y := 1000003) (by decide)
  have d1 : divC c2 1000 = some (c2 / 1000) := divC_ok (by decide) (by decide)
  have m1 : mulC c 48271 = some (c * 48271) := mulC_ok (by decide)
  have m2 : mulC x 69621 = some (x * 69621) := mulC_ok (by decide)
  have m3 : mulC u u = some (u * u) := mulC_ok (by omega)
  have m4 : mulC 3 u = some (3 * u) := mulC_ok (by omega)
  have two : (∃ rest' draws', dbody x ((), many, cells, rest, draws, (), (), (), (), ()) = some (.nx ((), many, cells, rest', draws', (), (), (), (), ())) ∧ rest'.length = cells.length ∧ draws'.length = draws.length + 1) := by
    unfold dbody
    try dsimp only
    rw [e2, Option.bind_some, e3, Option.bind_some]
    by_cases hb : 1000000000000000000 ≤ c
    · rw [decide_eq_true hb, if_pos rfl, e4, Option.bind_some, Option.bind_some]
      try dsimp only
      by_cases h0 : 0 < c2
      · simp only [decide_eq_true h0, if_true, e4, Option.bind_some, e5, appC_ok (y := q) hd, d1, e6]
        exact ⟨_, _, rfl, by omega, by simp⟩
      · simp only [decide_eq_false h0, Bool.false_eq_true, if_false, e3, Option.bind_some, m1, m2, e7, m3, m4, e8, appC_ok (y := u2) hd]
        exact ⟨_, _, rfl, hr, by simp⟩
    · rw [decide_eq_false hb, if_neg (by decide), Option.bind_some]
      try dsimp only
      simp only [Bool.false_eq_true, if_false, e3, Option.bind_some, m1, m2, e7, m3, m4, e8, appC_ok (y := u2) hd]
      exact ⟨_, _, rfl, hr, by simp⟩
  exact two
theorem draws_ok (ns : List Int) {many : Nat} (h : ns.length ≤ 63) (hm : many ≤ 10000) : ∃ ds, drawsF ns (many : Int) = some ds := by
  have key : ∀ cells : List Int, cells ≠ [] → ∃ s' : SD, loopM dbody ((List.range many).map fun (i : Nat) => (i : Int)) (((), (many : Int), cells, cells, [], (), (), (), (), ()) : SD) = some (.go s') := by
    intro cells hc
    have step : ∀ j x (s : SD), ((List.range many).map fun (i : Nat) => (i : Int))[j]? = some x → (∃ rest draws, s = ((), (many : Int), cells, rest, draws, (), (), (), (), ()) ∧ rest.length = cells.length ∧ draws.length = 0 + j) → ∃ s', dbody x s = some (.nx s') ∧ ∃ rest draws, s' = ((), (many : Int), cells, rest, draws, (), (), (), (), ()) ∧ rest.length = cells.length ∧ draws.length = 0 + j + 1 := by
      rintro j x s hx ⟨rest, draws, rfl, hr, hd⟩
      have hj := (ix_range hx).2
      obtain ⟨r2, d2, e, h1, h2⟩ := dbody_ok x many cells rest draws hc hr (by omega)
      exact ⟨_, e, _, _, rfl, h1, by omega⟩
    obtain ⟨s', e, _⟩ := loop_ix (f := dbody) (P := fun i (s : SD) => ∃ rest draws, s = ((), (many : Int), cells, rest, draws, (), (), (), (), ()) ∧ rest.length = cells.length ∧ draws.length = i) ((List.range many).map fun (i : Nat) => (i : Int)) 0 ((), (many : Int), cells, cells, [], (), (), (), (), ()) step ⟨_, _, rfl, rfl, rfl⟩
    exact ⟨s', e⟩
  rw [e_drawsF, if_pos (by omega)]
  rw [comp_pure (g := fun x => some x) ns (fun x _ => rfl)]
  rw [List.filterMap_some, Option.bind_some]
  have r420 : rng1 (many : Int) = some ((List.range many).map fun (i : Nat) => (i : Int)) := rng1_nat (n := many) (by omega)
  cases ns with
  | nil =>
    obtain ⟨s', e⟩ := key [0] (by simp)
    refine ⟨s'.2.2.2.2.1.reverse, ?_⟩
    show ((rng1 (many : Int)).bind fun t4 => (loopM dbody t4 ((), (many : Int), [0], [0], [], (), (), (), (), ())).bind fun o => _) = _
    rw [r420, Option.bind_some, e, Option.bind_some]
  | cons a l =>
    obtain ⟨s', e⟩ := key (a :: l) (by simp)
    refine ⟨s'.2.2.2.2.1.reverse, ?_⟩
    show (Option.bind (if decide (((a :: l).length : Int) = 0) = true then _ else _) _) = _
    rw [if_neg (by simp; omega), Option.bind_some]
    show ((rng1 (many : Int)).bind fun t4 => (loopM dbody t4 ((), (many : Int), a :: l, a :: l, [], (), (), (), (), ())).bind fun o => _) = _
    rw [r420, Option.bind_some, e, Option.bind_some]


/-- a cell drawn -/
noncomputable def cellF (take : List Int → Int → Option (Int × List Int)) (script : List Int) (draws : List Int) : Option (Int × List Int) :=
  if decide ((↑(List.length draws) : Int) = 0) = true then some (0, script)
  else (take script (↑(List.length draws) : Int)).bind fun (t0, d1) =>
    (getI draws t0).bind fun t2 =>
    (modC (↑(Int.natAbs t2) : Int) 1000000000000000000000000000000000000000000000000000000000000).bind fun t3 =>
    (getI [1, -1] (b01 (decide (t2 < 0)))).bind fun t4 =>
    (mulC t3 t4).bind fun t5 =>
    some (t5, d1)
def CellOk (f : List Int → List Int → Option (Int × List Int)) : Prop := ∀ ds ns, ∃ t ds', f ds ns = some (t, ds') ∧ t.natAbs < 10 ^ 60
theorem cellF_ok {take : List Int → Int → Option (Int × List Int)} (T : TakeOk take) : CellOk (cellF take) := by
  intro ds ns
  unfold cellF
  by_cases hd : ns = []
  · subst hd
    exact ⟨0, ds, rfl, by decide⟩
  · have hl : ns.length ≠ 0 := fun z => hd (List.eq_nil_of_length_eq_zero z)
    obtain ⟨r, ds', e2, h1, h2⟩ := T ds ((ns.length : Nat) : Int) (by omega)
    obtain ⟨c, e3, _⟩ := getI_ok (xs := ns) h1 h2
    obtain ⟨q, e4, g1, g2⟩ := modC_ok (x := (c.natAbs : Int)) (y := 1000000000000000000000000000000000000000000000000000000000000) (by decide)
    rw [if_neg (by simp; omega), e2, Option.bind_some]
    try dsimp only
    rw [e3, Option.bind_some, e4, Option.bind_some]
    by_cases hc : c < 0
    · rw [decide_eq_true hc, show getI [1, -1] (b01 true) = some (-1 : Int) from rfl, Option.bind_some, mulC_ok (by decide)]
      exact ⟨_, _, rfl, by omega⟩
    · rw [decide_eq_false hc, show getI [1, -1] (b01 false) = some (1 : Int) from rfl, Option.bind_some, mulC_ok (by decide)]
      exact ⟨_, _, rfl, by omega⟩
theorem wp_cell {f : List Int → List Int → Option (Int × List Int)} (T : CellOk f) {ds ns : List Int} {γ : Type} {K : Int × List Int → Option γ} {Q : γ → Prop} (k : ∀ t d, t.natAbs < 10 ^ 60 → Ev (K (t, d)) Q) : Ev ((f ds ns).bind K) Q := by
  obtain ⟨t, d, e, h⟩ := T ds ns
  rw [e, Option.bind_some]
  exact k t d h
/-- products of numbers that are not too great -/
theorem sm60 {n : Nat} (h : n < 10 ^ 120) : n < 2 ^ 40000 := Nat.lt_of_lt_of_le (Nat.lt_of_lt_of_le h (show 10 ^ 120 ≤ 2 ^ 400 by decide)) (Nat.pow_le_pow_right (by omega) (by omega))
theorem mulC_sm {x y : Int} (hx : x.natAbs < 10 ^ 120) (hy : y.natAbs < 10 ^ 120) : mulC x y = some (x * y) := by
  rw [mulC_eq, if_pos (by simp [mulOk, sm60 hx, sm60 hy])]
theorem modC_eq {x y : Int} (h : 0 < y) : modC x y = some (x % y) := by
  unfold modC
  rw [if_pos h]
theorem getI0 {α : Type} {x : α} {xs : List α} : getI (x :: xs) 0 = some x := rfl
end L3

/-! L3: more plain facts, of use to several laws. -/
namespace L3
open PySem
theorem ev_nx {A C R : Type} {o : Option (Out A C R)} {s' : A} {P : A → Prop} (h : Ev o fun r => r = Out.nx s') (p : P s') : ∃ s', o = some (Out.nx s') ∧ P s' := by
  obtain ⟨r, e, rfl⟩ := h
  exact ⟨s', e, p⟩
theorem ev_nxP {A C R : Type} {o : Option (Out A C R)} {P : A → Prop} (h : Ev o fun r => ∃ s', r = Out.nx s' ∧ P s') : ∃ s', o = some (Out.nx s') ∧ P s' := by
  obtain ⟨r, e, s', rfl, p⟩ := h
  exact ⟨s', e, p⟩
theorem cutI_first {α : Type} {l : List α} {n : Nat} (h : n ≤ l.length) : cutI l none (some (n : Int)) = l.take n := by
  unfold cutI
  rw [HT.sIx_nat, HT.sIx_none, List.drop_zero, Nat.sub_zero, Nat.min_eq_left h]
theorem cutI_from {α : Type} {l : List α} {n : Nat} (h : n ≤ l.length) : cutI l (some (n : Int)) none = l.drop n := by
  unfold cutI
  rw [HT.sIx_nat, HT.sIx_none, Nat.min_eq_left h, List.take_of_length_le (by rw [List.length_drop]; omega)]
theorem getI_rng {α : Type} (f : Nat → α) {n j : Nat} (h : j < n) : getI ((List.range n).map f) (j : Int) = some (f j) := by
  rw [getI_at (by simp; exact h)]
  simp
theorem last_rng {α : Type} (f : Nat → α) {n : Nat} (h : 0 < n) : getI ((List.range n).map f) (-1) = some (f (n - 1)) := by
  obtain ⟨m, rfl⟩ : ∃ m, n = m + 1 := ⟨n - 1, by omega⟩
  rw [List.range_succ, List.map_append]
  exact getI_last
/-- a comprehension that draws and leaves some out -/
theorem comp_fd {β D S α : Type} {f : β → D × S → Option (Option α × D × S)} {C : α → Prop} {s : S} : ∀ (xs : List β) (d : D), (∀ x ∈ xs, ∀ d, Ev (f x (d, s)) fun o => ∃ y d', o = (y, d', s) ∧ ∀ z, y = some z → C z) → ∃ ys d', compM f xs (d, s) = some (ys, d', s) ∧ ys.length ≤ xs.length ∧ ∀ y ∈ ys, C y
  | [], d, _ => ⟨[], d, rfl, Nat.le_refl _, (fun y h => nomatch h)⟩
  | x :: xs, d, hs => by
    obtain ⟨o, e, y, d1, rfl, hc⟩ := hs x (List.mem_cons_self ..) d
    obtain ⟨ys, d2, e2, hl, h2⟩ := comp_fd xs d1 fun z hz => hs z (List.mem_cons_of_mem _ hz)
    cases y with
    | none =>
      refine ⟨ys, d2, ?_, Nat.le_succ_of_le hl, h2⟩
      show (f x (d, s)).bind _ = _
      rw [e, Option.bind_some]
      try dsimp only
      rw [e2]
      rfl
    | some y =>
      refine ⟨y :: ys, d2, ?_, Nat.succ_le_succ hl, fun z hz => ?_⟩
      · show (f x (d, s)).bind _ = _
        rw [e, Option.bind_some]
        try dsimp only
        rw [e2]
        rfl
      · rcases List.mem_cons.mp hz with q | q
        · rw [q]; exact hc y rfl
        · exact h2 z q
theorem wp_compfd {β D S α γ : Type} {f : β → D × S → Option (Option α × D × S)} {C : α → Prop} {xs : List β} {d : D} {s : S} {K : List α × D × S → Option γ} {Q : γ → Prop} (hs : ∀ x ∈ xs, ∀ d, Ev (f x (d, s)) fun o => ∃ y d', o = (y, d', s) ∧ ∀ z, y = some z → C z) (hk : ∀ ys d, ys.length ≤ xs.length → (∀ y ∈ ys, C y) → Ev (K (ys, d, s)) Q) : Ev ((compM f xs (d, s)).bind K) Q := by
  obtain ⟨ys, d', e, h1, h2⟩ := comp_fd xs d hs
  rw [e, Option.bind_some]
  exact hk ys d' h1 h2
theorem wp_compfd1 {β D S U α γ : Type} {f : β → U × D × S → Option (Option α × U × D × S)} {C : α → Prop} {xs : List β} {u : U} {d : D} {s : S} {K : List α × U × D × S → Option γ} {Q : γ → Prop} (hs : ∀ x ∈ xs, ∀ d, Ev (f x (u, d, s)) fun o => ∃ y d', o = (y, u, d', s) ∧ ∀ z, y = some z → C z) (hk : ∀ ys d, ys.length ≤ xs.length → (∀ y ∈ ys, C y) → Ev (K (ys, u, d, s)) Q) : Ev ((compM f xs (u, d, s)).bind K) Q := by
  have key : ∀ (xs : List β) (d : D), (∀ x ∈ xs, ∀ d, Ev (f x (u, d, s)) fun o => ∃ y d', o = (y, u, d', s) ∧ ∀ z, y = some z → C z) → ∃ ys d', compM f xs (u, d, s) = some (ys, u, d', s) ∧ ys.length ≤ xs.length ∧ ∀ y ∈ ys, C y := by
    intro xs
    induction xs with
    | nil => exact fun d _ => ⟨[], d, rfl, Nat.le_refl _, (fun y h => nomatch h)⟩
    | cons x xs ih =>
      intro d hs
      obtain ⟨o, e, y, d1, rfl, hc⟩ := hs x (List.mem_cons_self ..) d
      obtain ⟨ys, d2, e2, hl, h2⟩ := ih d1 fun z hz => hs z (List.mem_cons_of_mem _ hz)
      cases y with
      | none =>
        refine ⟨ys, d2, ?_, Nat.le_succ_of_le hl, h2⟩
        show (f x (u, d, s)).bind _ = _
        rw [e, Option.bind_some]
        try dsimp only
        rw [e2]
        rfl
      | some y =>
        refine ⟨y :: ys, d2, ?_, Nat.succ_le_succ hl, fun z hz => ?_⟩
        · show (f x (u, d, s)).bind _ = _
          rw [e, Option.bind_some]
          try dsimp only
          rw [e2]
          rfl
        · rcases List.mem_cons.mp hz with q | q
          · rw [q]; exact hc y rfl
          · exact h2 z q
  obtain ⟨ys, d', e, h1, h2⟩ := key xs d hs
  rw [e, Option.bind_some]
  exact hk ys d' h1 h2
theorem minU_snoc {α : Type} (lt : α → α → Bool) (l : List α) (y : α) : minU lt (l ++ [y]) = some (match minU lt l with | none => y | some a => if lt y a = true then y else a) := by
  cases l with
  | nil => rfl
  | cons a l =>
    show some ((l ++ [y]).foldl _ a) = some _
    rw [List.foldl_append]
    rfl
theorem ix_set {α : Type} [Inhabited α] {an : List α} {p : Nat} {x : α} (j : Nat) (hp : p < an.length) : ix (an.set p x) j = if j = p then x else ix an j := by
  unfold ix
  rw [List.getD_eq_getElem?_getD, List.getD_eq_getElem?_getD, List.getElem?_set]
  by_cases c : p = j
  · subst c
    rw [if_pos rfl, if_pos hp, if_pos rfl]
    rfl
  · rw [if_neg c, if_neg (by omega)]
theorem ix_app {α : Type} [Inhabited α] {xs ys : List α} {j : Nat} (h : j < xs.length) : ix (xs ++ ys) j = ix xs j := by
  rw [ix_at (by rw [List.length_append]; omega), ix_at h, List.getElem_append_left h]
theorem take_set {α : Type} {xs : List α} {j : Nat} {x : α} (h : j < xs.length) : xs.take j ++ [x] ++ xs.drop (j + 1) = xs.set j x := by
  rw [List.set_eq_take_append_cons_drop, if_pos h, List.append_assoc]
  rfl
theorem nums_succ (j : Nat) : nums (j + 1) = nums j ++ [(j : Int)] := by
  unfold nums
  rw [List.range_succ, List.map_append]
  rfl
theorem repT_one {α : Type} (x : α) {n : Nat} (h : n ≤ 16777216) : repT [x] (n : Int) = some (List.replicate n x) := by
  rw [repT_eq, if_pos (by simp; omega), Int.toNat_natCast]
  congr 1
  clear h
  induction n with
  | zero => rfl
  | succ n ih => rw [List.replicate_succ, List.flatten_cons, ih, List.replicate_succ]; rfl
theorem noNone_map {β α : Type} {f : β → Option α} {g : β → α} : ∀ (l : List β), (∀ x ∈ l, f x = some (g x)) → noNone (l.map f) = some (l.map g)
  | [], _ => rfl
  | x :: l, h => by
    rw [List.map_cons, h x (List.mem_cons_self ..)]
    show (noNone (l.map f)).map _ = _
    rw [noNone_map l fun y hy => h y (List.mem_cons_of_mem _ hy)]
    rfl
theorem ixOf_mem {α : Type} [DecidableEq α] {x : α} : ∀ {ys : List α}, x ∈ ys → ∃ j, ixOf x ys = some j
  | y :: ys, h => by
    unfold ixOf
    by_cases c : y = x
    · exact ⟨0, by rw [if_pos c]⟩
    · rw [if_neg c]
      rcases List.mem_cons.mp h with z | z
      · exact absurd z.symm c
      · obtain ⟨j, e⟩ := ixOf_mem z
        exact ⟨j + 1, by rw [e]; rfl⟩
theorem pigeon : ∀ (n : Nat) (l : List Int), l.Nodup → (∀ x ∈ l, 0 ≤ x ∧ x < (n : Int)) → l.length ≤ n
  | 0, [], _, _ => Nat.le_refl _
  | 0, x :: l, _, h => by
    have := h x (List.mem_cons_self ..)
    omega
  | n + 1, l, nd, h => by
    by_cases m : (n : Int) ∈ l
    · have h2 := pigeon n (l.erase (n : Int)) (nd.erase _) (fun x hx => by
        have h3 := (List.Nodup.mem_erase_iff nd).mp hx
        have := h x h3.2
        have : x ≠ (n : Int) := h3.1
        omega)
      rw [List.length_erase_of_mem m] at h2
      omega
    · have h2 := pigeon n l nd (fun x hx => by
        have h3 := h x hx
        have : x ≠ (n : Int) := fun z => m (z ▸ hx)
        omega)
      omega
theorem nodup_sub {α : Type} [DecidableEq α] : ∀ {l m : List α}, l.Nodup → (∀ x ∈ l, x ∈ m) → l.length ≤ m.length
  | [], _, _, _ => Nat.zero_le _
  | a :: l, m, nd, h => by
    obtain ⟨n1, n2⟩ := List.nodup_cons.mp nd
    have ha := h a (List.mem_cons_self ..)
    have := nodup_sub (l := l) (m := m.erase a) n2 fun x hx => (List.mem_erase_of_ne (fun e : x = a => n1 (by rw [← e]; exact hx))).mpr (h x (List.mem_cons_of_mem _ hx))
    rw [List.length_erase_of_mem ha] at this
    have := List.length_pos_of_mem ha
    rw [List.length_cons]
    omega
theorem rgL_len (a b : Int) : (rangeL a b).length = (b - a).toNat := by simp [rangeL]
theorem rgL_mem {a b x : Int} : x ∈ rangeL a b ↔ a ≤ x ∧ x < b := by
  constructor
  · exact mem_rangeL
  · intro h
    unfold rangeL
    exact List.mem_map.mpr ⟨(x - a).toNat, List.mem_range.mpr (by omega), by omega⟩
theorem rgL_nil {a b : Int} (h : b ≤ a) : rangeL a b = [] := by
  have := rgL_len a b
  rw [show (b - a).toNat = 0 by omega] at this
  exact List.eq_nil_of_length_eq_zero this
theorem rgL_app {a b c : Int} (h1 : a ≤ b) (h2 : b ≤ c) : rangeL a c = rangeL a b ++ rangeL b c := by
  by_cases e : b = c
  · rw [e, rgL_nil (Int.le_refl c), List.append_nil]
  · rw [rangeL_split _ rfl h1 (by omega), rangeL_cons (show b < c by omega)]
theorem rgL_get {a b x : Int} {j : Nat} (h : (rangeL a b)[j]? = some x) : x = a + (j : Int) ∧ (j : Int) < b - a := by
  obtain ⟨h1, h2⟩ := List.getElem?_eq_some_iff.mp h
  rw [rgL_len] at h1
  refine ⟨?_, by omega⟩
  rw [← h2]
  simp [rangeL]
theorem rgL_shift (a b c : Int) : rangeL (a + c) (b + c) = (rangeL a b).map fun x => x + c := by
  unfold rangeL
  rw [List.map_map, show (b + c - (a + c)) = b - a by omega]
  refine List.map_congr_left fun i _ => ?_
  simp only [Function.comp]
  omega
theorem rgL_nodup (a b : Int) : (rangeL a b).Nodup := by
  unfold rangeL
  refine List.Pairwise.map _ (fun x y (h : x ≠ y) => ?_) List.nodup_range
  omega
theorem rgL_lt (a b : Int) : (rangeL a b).Pairwise (· < ·) := by
  unfold rangeL
  refine List.Pairwise.map _ (fun x y (h : x < y) => ?_) List.pairwise_lt_range
  omega
theorem nat_rgW (n : Nat) : rngW 0 (n : Int) = some (nums n) := by
  rw [rngW_eq]
  unfold rangeL nums
  rw [show ((n : Int) - 0).toNat = n by omega]
  simp
theorem mem_cutI {α : Type} {l : List α} {a b : Option Int} {x : α} (h : x ∈ cutI l a b) : x ∈ l := by
  unfold cutI at h
  exact List.mem_of_mem_drop (List.mem_of_mem_take h)
theorem head_sortU {α : Type} {lt : α → α → Bool} (T : Tot lt) {xs : List α} {y : α} (h : y ∈ xs) (k : ∀ x ∈ xs, lt x y = false) : ∃ l, sortU lt xs = y :: l := by
  have p := sortU_perm lt xs
  have s := sortU_srt T xs
  cases e : sortU lt xs with
  | nil => rw [e] at p; rw [← p.nil_eq] at h; exact nomatch h
  | cons a l =>
    rw [e] at p s
    have ha : a ∈ xs := p.mem_iff.mp (List.mem_cons_self ..)
    have hy : y ∈ a :: l := p.mem_iff.mpr h
    rcases List.mem_cons.mp hy with q | q
    · exact ⟨l, by rw [q]⟩
    · have := (List.pairwise_cons.mp s).1 y q
      exact ⟨l, by rw [T.anti a y (k a ha) this]⟩
theorem fil_two {α : Type} (p : α → Bool) : ∀ l : List α, (l.filter p).length + (l.filter fun x => !p x).length = l.length
  | [] => rfl
  | a :: l => by
    have := fil_two p l
    rw [List.filter_cons, List.filter_cons, List.length_cons]
    cases p a <;> simp <;> omega
theorem sortU_nil {α : Type} (lt : α → α → Bool) : sortU lt [] = [] := by
  unfold sortU
  exact List.mergeSort_nil
theorem getK_set {κ α : Type} [DecidableEq κ] {kvs : List (κ × α)} {k j : κ} {y : α} : getK (setK kvs k y) j = if j = k then some y else getK kvs j := by
  have key : ∀ kvs : List (κ × α), getK (kvs.map fun p => if p.1 = k then (p.1, y) else p) j = (getK kvs j).map fun x => if j = k then y else x := by
    intro kvs
    induction kvs with
    | nil => rfl
    | cons p l ih =>
      unfold getK at ih ⊢
      rw [List.map_cons, List.find?_cons, List.find?_cons]
      by_cases c : p.1 = k
      · rw [if_pos c]
        by_cases c2 : p.1 = j
        · rw [decide_eq_true c2]
          simp [c2.symm.trans c]
        · rw [decide_eq_false c2]
          exact ih
      · rw [if_neg c]
        by_cases c2 : p.1 = j
        · rw [decide_eq_true c2]
          simp
          exact fun z => absurd (c2.trans z) c
        · rw [decide_eq_false c2]
          exact ih
  unfold setK
  by_cases c : (kvs.any fun p => decide (p.1 = k)) = true
  · rw [if_pos c, key]
    by_cases c2 : j = k
    · subst c2
      rw [if_pos rfl]
      obtain ⟨p, hp, h2⟩ := List.any_eq_true.mp c
      cases e : getK kvs j with
      | some x => simp
      | none =>
        unfold getK at e
        rw [Option.map_eq_none_iff, List.find?_eq_none] at e
        exact absurd h2 (e p hp)
    · rw [if_neg c2]
      cases getK kvs j with
      | none => rfl
      | some x => simp [c2]
  · rw [if_neg c]
    unfold getK
    rw [List.find?_append]
    by_cases c2 : j = k
    · subst c2
      rw [if_pos rfl]
      have : kvs.find? (fun p => decide (p.1 = j)) = none := by
        rw [List.find?_eq_none]
        intro p hp h2
        exact c (List.any_eq_true.mpr ⟨p, hp, h2⟩)
      rw [this]
      simp
    · rw [if_neg c2]
      cases e : kvs.find? (fun p => decide (p.1 = j)) with
      | some x => simp
      | none =>
        simp
        exact fun z => c2 z.symm
theorem setKC_ok {κ α : Type} [DecidableEq κ] {kvs : List (κ × α)} {k : κ} {y : α} (h : kvs.length < 16777216) : setKC kvs k y = some (setK kvs k y) := if_pos h
/-- a cell at a place -/
theorem cellA_ok {f : List Int × Int → Option Int} {N : Int} (hN : 0 < N) (e : ∀ script at', f (script, at') = if decide ((↑(List.length script) : Int) = 0) = true then some 0
  else (modC at' (↑(List.length script) : Int)).bind fun t0 =>
    (getI script t0).bind fun t1 =>
    (modC (↑(Int.natAbs t1) : Int) N).bind fun t2 =>
    (getI [1, -1] (b01 (decide (t1 < 0)))).bind fun t3 =>
    (mulC t2 t3).bind fun t4 =>
    some t4) (script : List Int) (a : Int) : ∃ r, f (script, a) = some r ∧ (r.natAbs : Int) < N := by
  rw [e]
  by_cases hd : script = []
  · subst hd
    exact ⟨0, rfl, by simpa using hN⟩
  · have hl : script.length ≠ 0 := fun z => hd (List.eq_nil_of_length_eq_zero z)
    obtain ⟨r, e1, r1, r2⟩ := modC_ok (x := a) (y := (script.length : Int)) (by omega)
    obtain ⟨c, e2, _⟩ := getI_ok (xs := script) r1 r2
    obtain ⟨q, e3, q1, q2⟩ := modC_ok (x := (c.natAbs : Int)) hN
    rw [if_neg (by simp; omega), e1, Option.bind_some, e2, Option.bind_some, e3, Option.bind_some]
    by_cases hc : c < 0
    · rw [decide_eq_true hc, show getI [1, -1] (b01 true) = some (-1 : Int) from rfl, Option.bind_some, mulC_ok (by decide)]
      exact ⟨_, rfl, by omega⟩
    · rw [decide_eq_false hc, show getI [1, -1] (b01 false) = some (1 : Int) from rfl, Option.bind_some, mulC_ok (by decide)]
      exact ⟨_, rfl, by omega⟩
/-- the first of a sorted set -/
theorem find_sset (p : Int → Bool) (xs : List Int) : (sset xs).find? p = (sortI (xs.filter p)).head? := by
  have hs := sset_lt xs
  have hp := sortI_perm (xs.filter p)
  have hq := sortI_srt (xs.filter p)
  cases e : (sset xs).find? p with
  | none =>
    have h := List.find?_eq_none.mp e
    have : xs.filter p = [] := List.filter_eq_nil_iff.mpr fun x hx => h x (mem_sset.mpr hx)
    rw [this, show sortI [] = [] by unfold sortI; exact List.mergeSort_nil]
    rfl
  | some y =>
    have h1 := List.find?_some e
    have h2 := mem_sset.mp (List.mem_of_find?_eq_some e)
    obtain ⟨as, bs, e1, e2⟩ := (List.find?_eq_some_iff_append.mp e).2
    cases e3 : sortI (xs.filter p) with
    | nil =>
      rw [e3] at hp
      have := hp.mem_iff.mpr (List.mem_filter.mpr ⟨h2, h1⟩)
      exact nomatch this
    | cons a l =>
      rw [e3] at hp hq
      have ha := List.mem_filter.mp (hp.mem_iff.mp (List.mem_cons_self ..))
      have hy : y ∈ a :: l := hp.mem_iff.mpr (List.mem_filter.mpr ⟨h2, h1⟩)
      have le : a ≤ y := by
        rcases List.mem_cons.mp hy with q | q
        · omega
        · exact (List.pairwise_cons.mp hq).1 y q
      have ge : y ≤ a := by
        have hm := mem_sset.mpr ha.1
        rw [e1] at hm hs
        rcases List.mem_append.mp hm with q | q
        · have := e2 a q
          rw [ha.2] at this
          exact nomatch this
        · rcases List.mem_cons.mp q with q | q
          · omega
          · have := (List.pairwise_cons.mp (List.pairwise_append.mp hs).2.1).1 a q
            omega
      rw [List.head?_cons, Int.le_antisymm ge le]
theorem ev_is {α : Type} {o : Option α} {x : α} (h : o = some x) : Ev o fun r => r = x := ⟨x, h, rfl⟩
theorem find_least {p : Int → Bool} {xs : List Int} (h : xs.Pairwise (· < ·)) {y : Int} (e : xs.find? p = some y) : ∀ z ∈ xs, z < y → p z = false := fun z hz hlt => by
  obtain ⟨as, bs, e1, e2⟩ := (List.find?_eq_some_iff_append.mp e).2
  rw [e1] at hz h
  rcases List.mem_append.mp hz with q | q
  · simpa using e2 z q
  · rcases List.mem_cons.mp q with q | q
    · omega
    · have := (List.pairwise_cons.mp (List.pairwise_append.mp h).2.1).1 z q
      omega
theorem head_none {α : Type} (l : List α) : getI (l.map some ++ [none]) 0 = some l.head? := by
  cases l <;> rfl
theorem mem_idxN {n j : Nat} {p : Nat → Bool} (h : j < n) : decide ((j : Int) ∈ idx n p) = p j := by
  rw [Bool.eq_iff_iff, decide_eq_true_eq, mem_idx]
  constructor
  · rintro ⟨k, e, _, q⟩
    rw [show j = k by omega]
    exact q
  · intro q
    exact ⟨j, rfl, h, q⟩
/-- the draws, as the laws k40 and later tell them -/
noncomputable def drawsH (script : List Int) (many : Int) : Option (List Int) :=
  if List.length script ≤ 16777216 then (compM (fun x0 (script, many, _, _, _, _, _, _, _, _) =>
        if true = true then some (some x0, script, many, (), (), (), (), (), (), (), ())
        else some (none, script, many, (), (), (), (), (), (), (), ())) script ((script, many, (), (), (), (), (), (), (), ()))).bind fun (t1, (script, many, _, _, _, _, _, _, _, _)) =>
    (repC [0] (b01 (decide ((↑(List.length script) : Int) = 0)))).bind fun t2 =>
    (catC t1 t2).bind fun t3 =>
    (rng1 many).bind fun t4 =>
    (loopM dbody t4 (((), many, t3, t3, [], (), (), (), (), ()) : SD)).bind fun o => match o with
    | .go (_, many, cells, rest, draws, _, _, _, _, _) => some (List.reverse draws)
    | .rt r => some r
  else none
theorem drawsH_ok (ns : List Int) {many : Nat} (h : ns.length ≤ 63) (hm : many ≤ 10000) : ∃ ds, drawsH ns (many : Int) = some ds := by
  have g : Ev (drawsH ns (many : Int)) fun _ => True := by
    unfold drawsH
    rw [if_pos (by omega), comp_pure (g := fun x => some x) ns (fun x _ => rfl), List.filterMap_some, Option.bind_some]
    obtain ⟨cells, hc, e1⟩ : ∃ t2, ns ++ t2 ≠ [] ∧ repC [0] (b01 (decide ((ns.length : Int) = 0))) = some t2 ∧ t2.length ≤ 1 := by
      cases ns with
      | nil => exact ⟨[0], by simp, by rw [repC_eq]; rfl, by decide⟩
      | cons a l =>
        refine ⟨[], by simp, ?_, by decide⟩
        rw [decide_eq_false (by simp; omega), repC_eq]
        rfl
    try dsimp only
    rw [e1.1, Option.bind_some, catC_le (by omega), Option.bind_some, rng_len (by omega), Option.bind_some]
    generalize ns ++ cells = cs at *
    refine wp_loopP (fun i s => ∃ rest draws, s = (((), (many : Int), cs, rest, draws, (), (), (), (), ()) : SD) ∧ rest.length = cs.length ∧ draws.length = i) ?_ ⟨_, _, rfl, rfl, rfl⟩ ?_
    · rintro j x s hx ⟨rest, draws, rfl, hr, hd⟩
      obtain ⟨rfl, hj⟩ := nums_get hx
      obtain ⟨r2, d2, e, h1, h2⟩ := dbody_ok (j : Int) many cs rest draws hc hr (by omega)
      exact ⟨_, e, _, _, rfl, h1, by omega⟩
    · rintro _ ⟨rest, draws, rfl, _, _⟩
      exact ⟨_, rfl, trivial⟩
  exact let ⟨x, e, _⟩ := g; ⟨x, e⟩
/-! ### keys of a dict -/
theorem keys_set {κ α : Type} [DecidableEq κ] {kvs : List (κ × α)} {k : κ} {y : α} : (setK kvs k y).map Prod.fst = if k ∈ kvs.map Prod.fst then kvs.map Prod.fst else kvs.map Prod.fst ++ [k] := by
  have h : (kvs.any fun p => decide (p.1 = k)) = true ↔ k ∈ kvs.map Prod.fst := by
    rw [List.any_eq_true, List.mem_map]
    constructor
    · rintro ⟨p, hp, h⟩; exact ⟨p, hp, of_decide_eq_true h⟩
    · rintro ⟨p, hp, h⟩; exact ⟨p, hp, decide_eq_true h⟩
  unfold setK
  by_cases c : k ∈ kvs.map Prod.fst
  · rw [if_pos (h.mpr c), if_pos c, List.map_map]
    refine List.map_congr_left fun p _ => ?_
    show (if p.1 = k then (p.1, y) else p).1 = p.1
    split <;> rfl
  · rw [if_neg (fun z => c (h.mp z)), if_neg c, List.map_append]
    rfl
/-- its keys, each once, are those of which S -/
structure KeysOk {κ α : Type} (kvs : List (κ × α)) (S : κ → Prop) : Prop where
  nd : (kvs.map Prod.fst).Nodup
  mem : ∀ k, k ∈ kvs.map Prod.fst ↔ S k
theorem KeysOk.nil {κ α : Type} : KeysOk ([] : List (κ × α)) fun _ => False := ⟨List.nodup_nil, fun _ => ⟨(fun h => nomatch h), False.elim⟩⟩
theorem KeysOk.set {κ α : Type} [DecidableEq κ] {kvs : List (κ × α)} {S S' : κ → Prop} (h : KeysOk kvs S) {k : κ} {y : α} (e : ∀ j, S' j ↔ S j ∨ j = k) : KeysOk (setK kvs k y) S' := by
  refine ⟨?_, fun j => ?_⟩
  · rw [keys_set]
    split
    · exact h.nd
    · rename_i c
      rw [List.nodup_append]
      exact ⟨h.nd, by simp, fun a ha b hb e => c (by rw [List.mem_singleton] at hb; rw [← hb, ← e]; exact ha)⟩
  · rw [keys_set, e]
    split
    · rename_i c
      rw [h.mem]
      exact ⟨.inl, fun q => q.elim id fun z => by rw [z]; exact (h.mem _).mp c⟩
    · rw [List.mem_append, h.mem, List.mem_singleton]
theorem KeysOk.congr {κ α : Type} {kvs : List (κ × α)} {S S' : κ → Prop} (h : KeysOk kvs S) (e : ∀ j, S' j ↔ S j) : KeysOk kvs S' := ⟨h.nd, fun j => (h.mem j).trans (e j).symm⟩
theorem KeysOk.sort {α : Type} {kvs : List (Int × α)} {xs : List Int} (h : KeysOk kvs (· ∈ xs)) : sortI (kvs.map Prod.fst) = sset xs := by
  refine sset_eq ?_ fun j => by rw [(sortI_perm _).mem_iff, h.mem]
  have h1 := sortI_srt (kvs.map Prod.fst)
  have h2 : (sortI (kvs.map Prod.fst)).Nodup := (sortI_perm _).nodup_iff.mpr h.nd
  exact (h1.and h2).imp fun ⟨a, b⟩ => by omega
theorem KeysOk.len {κ α : Type} [DecidableEq κ] {kvs : List (κ × α)} {S : κ → Prop} (h : KeysOk kvs S) {xs : List κ} (e : ∀ j, S j → j ∈ xs) : kvs.length ≤ xs.length := by
  have := nodup_sub h.nd fun x hx => e x ((h.mem x).mp hx)
  rwa [List.length_map] at this
/-- how often each stands in a list -/
structure CntOk (kvs : List (Int × Int)) (xs : List Int) : Prop where
  keys : KeysOk kvs (· ∈ xs)
  get : ∀ k, getK kvs k = if k ∈ xs then some ((xs.count k : Nat) : Int) else none
theorem CntOk.nil : CntOk [] [] := ⟨KeysOk.nil.congr fun j => ⟨(fun h => nomatch h), False.elim⟩, fun k => rfl⟩
theorem CntOk.snoc {kvs : List (Int × Int)} {xs : List Int} (h : CntOk kvs xs) (k : Int) : CntOk (setK kvs k ((getK kvs k).getD 0 + 1)) (xs ++ [k]) := by
  refine ⟨h.keys.set fun j => by rw [List.mem_append, List.mem_singleton], fun j => ?_⟩
  rw [getK_set, List.count_append]
  by_cases c : j = k
  · subst c
    rw [if_pos rfl, if_pos (by simp), h.get]
    by_cases m : j ∈ xs
    · rw [if_pos m]; simp
    · rw [if_neg m, List.count_eq_zero_of_not_mem m]; simp
  · rw [if_neg c, h.get]
    have e : List.count j [k] = 0 := List.count_eq_zero_of_not_mem (by simpa using c)
    rw [e]
    by_cases m : j ∈ xs
    · rw [if_pos m, if_pos (List.mem_append_left _ m)]; rfl
    · rw [if_neg m, if_neg (by simp [m, c])]
/-- the last event after a, up to b -/
theorem last_event {xs : List Int} {a b : Int} (h : a ≤ b) : (∀ e ∈ xs, ¬ (a < e ∧ e ≤ b)) ∨ ∃ m ∈ xs, a < m ∧ m ≤ b ∧ ∀ e ∈ xs, ¬ (m < e ∧ e ≤ b) := by
  cases hL : (xs.filter fun x => decide (a < x) && decide (x ≤ b)).max? with
  | none =>
    have : xs.filter (fun x => decide (a < x) && decide (x ≤ b)) = [] := by
      cases h : xs.filter (fun x => decide (a < x) && decide (x ≤ b)) with
      | nil => rfl
      | cons a l => rw [h] at hL; exact nomatch hL
    refine .inl fun e he z => ?_
    have := List.filter_eq_nil_iff.mp this e he
    simp at this
    omega
  | some m =>
    obtain ⟨m1, m2⟩ := List.max?_eq_some_iff.mp hL
    obtain ⟨h1, h2⟩ := List.mem_filter.mp m1
    rw [Bool.and_eq_true, decide_eq_true_eq, decide_eq_true_eq] at h2
    refine .inr ⟨m, h1, h2.1, h2.2, fun e he z => ?_⟩
    have := m2 e (List.mem_filter.mpr ⟨he, by rw [Bool.and_eq_true, decide_eq_true_eq, decide_eq_true_eq]; omega⟩)
    omega
/-! ### minutes counted span by span -/
def cntM (f : Int → Bool) (b : Int) : Nat → Int
  | 0 => 0
  | k + 1 => cntM f b k + if f (b + (k : Int)) = true then 1 else 0
theorem cntM_add (f : Int → Bool) (b : Int) (i : Nat) : ∀ j : Nat, cntM f b (i + j) = cntM f b i + cntM f (b + (i : Int)) j
  | 0 => by simp [cntM]
  | j + 1 => by
    show cntM f b (i + j) + _ = _ + (cntM f (b + (i : Int)) j + _)
    rw [cntM_add f b i j, show b + ((i.add j : Nat) : Int) = b + (i : Int) + (j : Int) by show b + ((i + j : Nat) : Int) = _; omega]
    omega
theorem cntM_const {f : Int → Bool} {b : Int} {c : Bool} : ∀ {j : Nat}, (∀ k : Nat, k < j → f (b + (k : Int)) = c) → cntM f b j = if c = true then (j : Int) else 0
  | 0, _ => by cases c <;> rfl
  | j + 1, h => by
    show cntM f b j + _ = _
    rw [cntM_const fun k hk => h k (by omega), h j (by omega)]
    cases c <;> simp
theorem cntM_congr {f g : Int → Bool} {b : Int} : ∀ {j : Nat}, (∀ k : Nat, k < j → f (b + (k : Int)) = g (b + (k : Int))) → cntM f b j = cntM g b j
  | 0, _ => rfl
  | j + 1, h => by
    show cntM f b j + _ = cntM g b j + _
    rw [cntM_congr fun k hk => h k (by omega), h j (by omega)]
/-- spans between borders -/
def spanS (f : Int → Bool) (B : List Int) : Nat → Int
  | 0 => 0
  | i + 1 => spanS f B i + if ix B i < ix B (i + 1) ∧ f (ix B i) = true then ix B (i + 1) - ix B i else 0
theorem spanS_ok {f : Int → Bool} {b e : Int} {M : List Int} (hM : M.Pairwise (· < ·)) (hin : ∀ x ∈ M, b < x ∧ x < e) (hf : ∀ x y, b ≤ x → x ≤ y → y < e → (∀ m ∈ M, ¬ (x < m ∧ m ≤ y)) → f x = f y) :
    spanS f ([b] ++ M ++ [e]) (M.length + 1) = cntM f b (e - b).toNat := by
  have hB : ∀ j, ix ([b] ++ M ++ [e]) j = if j = 0 then b else if j ≤ M.length then ix M (j - 1) else if j = M.length + 1 then e else default := by
    intro j
    unfold ix
    rw [List.getD_eq_getElem?_getD, List.getD_eq_getElem?_getD]
    cases j with
    | zero => rfl
    | succ j =>
      rw [if_neg (by omega), show [b] ++ M ++ [e] = b :: (M ++ [e]) from rfl, List.getElem?_cons_succ]
      by_cases c : j < M.length
      · rw [if_pos (by omega), List.getElem?_append_left c]
        rfl
      · rw [if_neg (by omega), List.getElem?_append_right (by omega)]
        by_cases c2 : j = M.length
        · rw [if_pos (by omega), c2, Nat.sub_self]; rfl
        · rw [if_neg (by omega), List.getElem?_eq_none (by simp; omega)]; rfl
  by_cases hbe : b < e
  · have key : ∀ i ≤ M.length, ix ([b] ++ M ++ [e]) i < e ∧ b ≤ ix ([b] ++ M ++ [e]) i ∧ spanS f ([b] ++ M ++ [e]) i = cntM f b (ix ([b] ++ M ++ [e]) i - b).toNat ∧ ix ([b] ++ M ++ [e]) i < ix ([b] ++ M ++ [e]) (i + 1) ∧ ∀ m ∈ M, ¬ (ix ([b] ++ M ++ [e]) i < m ∧ m < ix ([b] ++ M ++ [e]) (i + 1)) := by
      have nxt : ∀ i ≤ M.length, ix ([b] ++ M ++ [e]) i < ix ([b] ++ M ++ [e]) (i + 1) ∧ ∀ m ∈ M, ¬ (ix ([b] ++ M ++ [e]) i < m ∧ m < ix ([b] ++ M ++ [e]) (i + 1)) := by
        intro i hi
        have mono : ∀ p q (hq : q < M.length), p < q → ix M p < ix M q := fun p q hq hpq => by
          rw [ix_at (by omega), ix_at hq]
          exact List.pairwise_iff_getElem.mp hM p q (by omega) hq hpq
        have one : ∀ q (hq : q < M.length), b < ix M q ∧ ix M q < e := fun q hq => hin _ (ix_mem hq)
        rw [hB, hB (i + 1)]
        constructor
        · by_cases c0 : i = 0
          · rw [if_pos c0, if_neg (by omega)]
            by_cases c : i + 1 ≤ M.length
            · rw [if_pos c]; exact (one _ (by omega)).1
            · rw [if_neg c, if_pos (by omega)]; exact hbe
          · rw [if_neg c0, if_pos hi, if_neg (by omega)]
            by_cases c : i + 1 ≤ M.length
            · rw [if_pos c]; exact mono _ _ (by omega) (by omega)
            · rw [if_neg c, if_pos (by omega)]; exact (one _ (by omega)).2
        · intro m hm ⟨z1, z2⟩
          obtain ⟨q, hq, rfl⟩ := List.getElem_of_mem hm
          rw [← ix_at hq] at z1 z2
          have hqi : q < i := by
            by_cases c : i + 1 ≤ M.length
            · rw [if_neg (by omega), if_pos c] at z2
              refine Nat.lt_of_not_le fun h => ?_
              by_cases c2 : q = i
              · rw [c2] at z2; simp at z2
              · have := mono (i + 1 - 1) q hq (by omega); omega
            · omega
          rw [if_neg (by omega), if_pos hi] at z1
          by_cases c2 : q = i - 1
          · rw [c2] at z1; simp at z1
          · have := mono q (i - 1) (by omega) (by omega); omega
      intro i
      induction i with
      | zero =>
        intro hi
        have := nxt 0 hi
        have e0 : ix ([b] ++ M ++ [e]) 0 = b := rfl
        exact ⟨by rw [e0]; exact hbe, by rw [e0]; exact Int.le_refl _, by rw [e0]; simp [spanS, cntM], this⟩
      | succ i ih =>
        intro hi
        obtain ⟨g1, g2, g3, g4, g5⟩ := ih (by omega)
        have n2 := nxt (i + 1) hi
        have hlt : ix ([b] ++ M ++ [e]) (i + 1) < e := by
          rw [hB, if_neg (by omega), if_pos hi]
          exact (hin _ (ix_mem (by omega))).2
        refine ⟨hlt, by omega, ?_, n2⟩
        show spanS f ([b] ++ M ++ [e]) i + _ = _
        generalize ix ([b] ++ M ++ [e]) i = x at *
        generalize ix ([b] ++ M ++ [e]) (i + 1) = y at *
        rw [g3, show (y - b).toNat = (x - b).toNat + (y - x).toNat by omega, cntM_add, show b + ((x - b).toNat : Int) = x by omega, cntM_const (f := f) (b := x) (c := f x) (fun k hk => (hf x (x + (k : Int)) g2 (by omega) (by omega) fun m hm z => g5 m hm ⟨z.1, by omega⟩).symm)]
        cases f x
        · simp
        · rw [if_pos ⟨g4, rfl⟩, if_pos rfl]; omega
    obtain ⟨g1, g2, g3, g4, g5⟩ := key M.length (Nat.le_refl _)
    have e1 : ix ([b] ++ M ++ [e]) (M.length + 1) = e := by rw [hB, if_neg (by omega), if_neg (by omega), if_pos rfl]
    show spanS f ([b] ++ M ++ [e]) M.length + _ = _
    rw [e1] at g4 g5 ⊢
    generalize ix ([b] ++ M ++ [e]) M.length = x at *
    rw [g3, show (e - b).toNat = (x - b).toNat + (e - x).toNat by omega, cntM_add, show b + ((x - b).toNat : Int) = x by omega, cntM_const (f := f) (b := x) (c := f x) (fun k hk => (hf x (x + (k : Int)) g2 (by omega) (by omega) fun m hm z => g5 m hm ⟨z.1, by omega⟩).symm)]
    cases f x
    · simp
    · rw [if_pos ⟨g4, rfl⟩, if_pos rfl]; omega
  · have : M = [] := by
      cases M with
      | nil => rfl
      | cons a l => have := hin a (List.mem_cons_self ..); omega
    subst this
    rw [show (e - b).toNat = 0 by omega]
    show 0 + (if ix ([b] ++ [] ++ [e]) 0 < ix ([b] ++ [] ++ [e]) (0 + 1) ∧ f (ix ([b] ++ [] ++ [e]) 0) = true then ix ([b] ++ [] ++ [e]) (0 + 1) - ix ([b] ++ [] ++ [e]) 0 else 0) = 0
    rw [if_neg fun z => hbe z.1]
    rfl
/-- a loop over two -/
theorem loop2 {β A R : Type} {f : β → A → Option (Out A A R)} {x y : β} {s s1 s2 : A} (h1 : f x s = some (.nx s1)) (h2 : f y s1 = some (.nx s2)) : loopM f [x, y] s = some (.go s2) := by
  show Option.bind (f x s) _ = _
  rw [h1]
  show Option.bind (f y s1) _ = _
  rw [h2]
  rfl
end L3

/-! L3: general lemmas on loops that end early, on the least of a list. -/
namespace L3
open PySem
/-- a loop by its states; none: it has returned r -/
theorem loop_or {β A R : Type} {f : β → A → Option (Out A A R)} {r : R} (S : Nat → Option A) (hn : ∀ j, S j = none → S (j + 1) = none) : ∀ (xs : List β) (i : Nat) (s : A), S i = some s → (∀ j x s, xs[j]? = some x → S (i + j) = some s → f x s = some (match S (i + j + 1) with | some t => .nx t | none => .rt r)) → loopM f xs s = some (match S (i + xs.length) with | some t => .go t | none => .rt r)
  | [], i, s, h, _ => by
    show some (Fin.go s) = _
    rw [List.length_nil, Nat.add_zero, h]
  | x :: xs, i, s, h, hs => by
    have h0 := hs 0 x s rfl h
    show (f x s).bind _ = _
    rw [h0, Option.bind_some]
    cases e : S (i + 1) with
    | none =>
      have : ∀ k, S (i + 1 + k) = none := fun k => by
        induction k with
        | zero => exact e
        | succ k ih => exact hn _ ih
      rw [List.length_cons, show i + (xs.length + 1) = i + 1 + xs.length by omega, this]
    | some t =>
      have := loop_or S hn xs (i + 1) t e fun j y s hj hS => by
        have := hs (j + 1) y s (by simpa using hj) (by rw [show i + (j + 1) = i + 1 + j by omega]; exact hS)
        rw [show i + (j + 1) + 1 = i + 1 + j + 1 by omega] at this
        exact this
      rw [List.length_cons, show i + (xs.length + 1) = i + 1 + xs.length by omega]
      exact this
theorem loop_or0 {β A R : Type} {f : β → A → Option (Out A A R)} {r : R} (S : Nat → Option A) {xs : List β} {s : A} (h : S 0 = some s) (hn : ∀ j, S j = none → S (j + 1) = none) (hs : ∀ j x s, xs[j]? = some x → S j = some s → f x s = some (match S (j + 1) with | some t => .nx t | none => .rt r)) : loopM f xs s = some (match S xs.length with | some t => .go t | none => .rt r) := by
  have := loop_or S hn xs 0 s h fun j x s hj hS => by
    rw [Nat.zero_add] at hS ⊢
    exact hs j x s hj hS
  rwa [Nat.zero_add] at this
/-- a while and what it ends with -/
theorem while_res {A R : Type} {f : A → Option (Option (Out A A R) × A)} (P : Nat → A → Fin A R → Prop) (hs : ∀ n s o, P n s o → (∃ s1, f s = some (none, s1) ∧ o = .go s1) ∨ (∃ r s2, f s = some (some (.rt r), s2) ∧ o = .rt r) ∨ (∃ s1 s2 m, f s = some (some (.nx s1), s2) ∧ P m s1 o ∧ m < n)) : ∀ (N n : Nat) (s : A) (o : Fin A R), n < N → P n s o → whileM f N s = some o
  | 0, n, s, _, h, _ => absurd h (Nat.not_lt_zero n)
  | N + 1, n, s, o, h, p => by
    rcases hs n s o p with ⟨s1, e, rfl⟩ | ⟨r, s2, e, rfl⟩ | ⟨s1, s2, m, e, p', hm⟩
    · exact while_end e
    · exact while_ret e
    · rw [while_go e]
      exact while_res P hs N m s1 o (by omega) p'
theorem wp_loopOr {β A R γ : Type} {f : β → A → Option (Out A A R)} {xs : List β} {s : A} {K : Fin A R → Option γ} {Q : γ → Prop} (S : Nat → Option A) (r : R) (h : S 0 = some s) (hn : ∀ j, S j = none → S (j + 1) = none) (hs : ∀ j x s, xs[j]? = some x → S j = some s → f x s = some (match S (j + 1) with | some t => .nx t | none => .rt r)) (hgo : ∀ t, S xs.length = some t → Ev (K (.go t)) Q) (hrt : S xs.length = none → Ev (K (.rt r)) Q) : Ev ((loopM f xs s).bind K) Q := by
  rw [loop_or0 S h hn hs, Option.bind_some]
  cases e : S xs.length with
  | none => exact hrt e
  | some t => exact hgo t e
theorem wp_whileR {A R γ : Type} {f : A → Option (Option (Out A A R) × A)} {N : Nat} {s : A} {K : Fin A R → Option γ} {Q : γ → Prop} (P : Nat → A → Fin A R → Prop) (n : Nat) (o : Fin A R) (hn : n < N) (h : P n s o) (hs : ∀ n s o, P n s o → (∃ s1, f s = some (none, s1) ∧ o = .go s1) ∨ (∃ r s2, f s = some (some (.rt r), s2) ∧ o = .rt r) ∨ (∃ s1 s2 m, f s = some (some (.nx s1), s2) ∧ P m s1 o ∧ m < n)) (hk : Ev (K o) Q) : Ev ((whileM f N s).bind K) Q := by
  rw [while_res P hs N n s o hn h, Option.bind_some]
  exact hk
/-- the least of a list -/
theorem minU_get {α : Type} {lt : α → α → Bool} (T : Tot lt) : ∀ (l : List α), l ≠ [] → ∃ m, minU lt l = some m ∧ m ∈ l ∧ ∀ x ∈ l, lt x m = false
  | [], h => absurd rfl h
  | a :: l, _ => by
    have key : ∀ (l : List α) (a : α), (l.foldl (fun b x => if lt x b = true then x else b) a) ∈ a :: l ∧ ∀ x ∈ a :: l, lt x (l.foldl (fun b x => if lt x b = true then x else b) a) = false := by
      intro l
      induction l with
      | nil =>
        intro a
        refine ⟨List.mem_cons_self .., fun x hx => ?_⟩
        rw [List.mem_singleton.mp hx]
        rcases T.tot a a with h | h <;> exact h
      | cons b l ih =>
        intro a
        rw [List.foldl_cons]
        by_cases c : lt b a = true
        · rw [if_pos c]
          obtain ⟨h1, h2⟩ := ih b
          refine ⟨List.mem_cons_of_mem _ h1, fun x hx => ?_⟩
          rcases List.mem_cons.mp hx with rfl | hx
          · have hb := h2 b (List.mem_cons_self ..)
            refine T.tr _ b _ hb ?_
            rcases T.tot b x with q | q
            · exact q
            · rw [q] at c; exact absurd c (by simp)
          · exact h2 x hx
        · rw [if_neg c]
          have c : lt b a = false := by simpa using c
          obtain ⟨h1, h2⟩ := ih a
          refine ⟨?_, fun x hx => ?_⟩
          · rcases List.mem_cons.mp h1 with q | q
            · rw [q]; exact List.mem_cons_self ..
            · exact List.mem_cons_of_mem _ (List.mem_cons_of_mem _ q)
          · rcases List.mem_cons.mp hx with rfl | hx
            · exact h2 x (List.mem_cons_self ..)
            · rcases List.mem_cons.mp hx with rfl | hx
              · exact T.tr _ _ _ (h2 a (List.mem_cons_self ..)) c
              · exact h2 x (List.mem_cons_of_mem _ hx)
    exact ⟨_, rfl, (key l a).1, (key l a).2⟩
theorem minU_head {α : Type} {lt : α → α → Bool} (T : Tot lt) (l : List α) : (sortU lt l).head? = minU lt l := by
  cases e : l with
  | nil => rw [sortU_nil]; rfl
  | cons a t =>
    obtain ⟨m, h1, h2, h3⟩ := minU_get T (a :: t) (by simp)
    obtain ⟨r, h4⟩ := head_sortU T h2 h3
    rw [h4, h1]
    rfl
/-- a size drawn -/
noncomputable def sizeF (take : List Int → Int → Option (Int × List Int)) (draws : List Int) (script : List Int) : Option (Int × List Int) :=
  (take draws 4).bind fun (t0, d1) =>
  (take d1 1000).bind fun (t2, d3) =>
  (if decide (t0 = 1) = true then (take d3 1000).bind fun (t4, d5) =>
      (mulC (1 + t4) 1000000000000000).bind fun t6 =>
      some (Out.nx (d5, script, t0, t2 + t6, ()))
    else some (Out.nx (d3, script, t0, t2, ())) : Option (Out (List Int × List Int × Int × Int × PUnit) PUnit (Int × List Int))).bind fun o => match o with
  | .nx (draws, script, kind, number, _) => (if (decide (kind = 2) && decide (0 < (↑(List.length script) : Int))) = true then (take draws (↑(List.length script) : Int)).bind fun (t7, d8) =>
        (getI script t7).bind fun t9 =>
        (modC (↑(Int.natAbs t9) : Int) 1000000000000000000000000000000000000000000000000000000000000).bind fun t10 =>
        some (Out.nx (d8, (), kind, number + t10, ()))
      else some (Out.nx (draws, (), kind, number, ())) : Option (Out (List Int × PUnit × Int × Int × PUnit) PUnit (Int × List Int))).bind fun o => match o with
    | .nx (draws, _, kind, number, _) => (if decide (kind = 3) = true then (mulC number 1000).bind fun t11 =>
          (take draws 1000).bind fun (t12, d13) =>
          some (Out.nx (d13, (), (), t11 + t12, ()))
        else some (Out.nx (draws, (), (), number, ())) : Option (Out (List Int × PUnit × PUnit × Int × PUnit) PUnit (Int × List Int))).bind fun o => match o with
      | .nx (draws, _, _, number, _) => some (number, draws)
      | .bk s14 => none
      | .ct s15 => none
      | .rt r => some r
    | .bk s16 => none
    | .ct s17 => none
    | .rt r => some r
  | .bk s18 => none
  | .ct s19 => none
  | .rt r => some r
def SizeOk (f : List Int → List Int → Option (Int × List Int)) : Prop := ∀ ds ns, ∃ t ds', f ds ns = some (t, ds') ∧ 0 ≤ t ∧ t < 10 ^ 61
theorem sizeF_ok {take : List Int → Int → Option (Int × List Int)} (T : TakeOk take) : SizeOk (sizeF take) := by
  intro d sc
  have g : Ev (sizeF take d sc) fun r => 0 ≤ r.1 ∧ r.1 < 10 ^ 61 := by
    unfold sizeF
    refine wp_take T (by decide) fun t0 d1 _ _ => ?_
    try dsimp only
    refine wp_take T (by decide) fun t1 d2 b1 b2 => ?_
    try dsimp only
    refine Ev.bind (P := fun z => ∃ d n, z = Out.nx (d, sc, t0, n, ()) ∧ 0 ≤ n ∧ n < 10 ^ 20 ∧ (t0 ≠ 1 → n < 1000)) ?_ ?_
    · by_cases c : t0 = 1
      · rw [if_pos (by simpa using c)]
        refine wp_take T (by decide) fun t2 d3 c1 c2 => ?_
        try dsimp only
        rw [mulC_ok (by decide)]
        exact ⟨_, rfl, _, _, rfl, by omega, by omega, fun h => absurd c h⟩
      · rw [if_neg (by simpa using c)]
        exact ⟨_, rfl, _, _, rfl, b1, by omega, fun _ => b2⟩
    rintro _ ⟨d, n, rfl, n1, n2, n3⟩
    try dsimp only
    refine Ev.bind (P := fun z => ∃ d n, z = Out.nx (d, (), t0, n, ()) ∧ 0 ≤ n ∧ n < 2 * 10 ^ 60 ∧ (t0 = 3 → n < 1000)) ?_ ?_
    · by_cases c : t0 = 2 ∧ 0 < (sc.length : Int)
      · rw [if_pos (by simpa using c)]
        refine wp_take T c.2 fun t2 d3 a1 a2 => ?_
        try dsimp only
        refine wp_getI a1 a2 fun y _ => ?_
        obtain ⟨q, e4, g1, g2⟩ := modC_ok (x := (y.natAbs : Int)) (y := 1000000000000000000000000000000000000000000000000000000000000) (by decide)
        rw [e4]
        exact ⟨_, rfl, _, _, rfl, by omega, by omega, fun h => by omega⟩
      · rw [if_neg (by simpa using c)]
        exact ⟨_, rfl, _, _, rfl, n1, by omega, fun h => n3 (by omega)⟩
    rintro _ ⟨d, n, rfl, m1, m2, m3⟩
    try dsimp only
    refine Ev.bind (P := fun z => ∃ d n, z = Out.nx (d, (), (), n, ()) ∧ 0 ≤ n ∧ n < 10 ^ 61) ?_ ?_
    · by_cases c : t0 = 3
      · rw [if_pos (by simpa using c), mulC_ok (by decide), Option.bind_some]
        refine wp_take T (by decide) fun t2 d3 c1 c2 => ?_
        have := m3 c
        exact ⟨_, rfl, _, _, rfl, by omega, by omega⟩
      · rw [if_neg (by simpa using c)]
        exact ⟨_, rfl, _, _, rfl, m1, by omega⟩
    rintro _ ⟨d, n, rfl, k1, k2⟩
    exact ⟨_, rfl, k1, k2⟩
  obtain ⟨⟨t, d⟩, e, h⟩ := g
  exact ⟨t, d, e, h⟩
theorem wp_size {f : List Int → List Int → Option (Int × List Int)} (T : SizeOk f) {ds ns : List Int} {γ : Type} {K : Int × List Int → Option γ} {Q : γ → Prop} (k : ∀ t d, 0 ≤ t → t < 10 ^ 61 → Ev (K (t, d)) Q) : Ev ((f ds ns).bind K) Q := by
  obtain ⟨t, d, e, h1, h2⟩ := T ds ns
  rw [e, Option.bind_some]
  exact k t d h1 h2
theorem wp_mod {x y : Int} {γ : Type} {K : Int → Option γ} {Q : γ → Prop} (h : 0 < y) (k : ∀ t, 0 ≤ t → t < y → Ev (K t) Q) : Ev ((modC x y).bind K) Q := by
  obtain ⟨r, e, h1, h2⟩ := modC_ok (x := x) h
  rw [e, Option.bind_some]
  exact k r h1 h2
/-- a comprehension whose state goes on with the place -/
theorem comp_at {β A γ : Type} {f : β → A → Option (Option γ × A)} (P : Nat → A → Prop) (C : β → γ → Prop) : ∀ (xs : List β) (i : Nat) (s : A), (∀ j x s, xs[j]? = some x → P (i + j) s → ∃ y s', f x s = some (some y, s') ∧ P (i + j + 1) s' ∧ C x y) → P i s → ∃ ys s', compM f xs s = some (ys, s') ∧ P (i + xs.length) s' ∧ ys.length = xs.length ∧ ∀ (j : Nat) (x : β) (y : γ), xs[j]? = some x → ys[j]? = some y → C x y
  | [], i, s, _, h => ⟨[], s, rfl, h, rfl, fun j x y h => by simp at h⟩
  | x :: xs, i, s, hs, h => by
    obtain ⟨y, s1, e, h1, c⟩ := hs 0 x s rfl h
    obtain ⟨ys, s2, e2, h2, l, c2⟩ := comp_at P C xs (i + 1) s1 (fun j x s hx hp => by
      have := hs (j + 1) x s (by simpa using hx) (by rw [show i + (j + 1) = i + 1 + j by omega]; exact hp)
      rw [show i + (j + 1) + 1 = i + 1 + j + 1 by omega] at this
      exact this) h1
    refine ⟨y :: ys, s2, ?_, by rw [List.length_cons, show i + (xs.length + 1) = i + 1 + xs.length by omega]; exact h2, by simp [l], fun j a b ha hb => ?_⟩
    · show (f x s).bind _ = _
      rw [e, Option.bind_some]
      try dsimp only
      rw [e2]
      rfl
    · cases j with
      | zero => simp at ha hb; subst ha hb; exact c
      | succ j => exact c2 j a b (by simpa using ha) (by simpa using hb)
theorem wp_compAt {β A γ δ : Type} {f : β → A → Option (Option γ × A)} (P : Nat → A → Prop) (C : β → γ → Prop) {xs : List β} {s : A} {K : List γ × A → Option δ} {Q : δ → Prop} (h : P 0 s) (hs : ∀ (j : Nat) x s, xs[j]? = some x → P j s → ∃ y s', f x s = some (some y, s') ∧ P (j + 1) s' ∧ C x y) (hk : ∀ ys s', P xs.length s' → ys.length = xs.length → (∀ (j : Nat) (x : β) (y : γ), xs[j]? = some x → ys[j]? = some y → C x y) → Ev (K (ys, s')) Q) : Ev ((compM f xs s).bind K) Q := by
  obtain ⟨ys, s', e, h1, h2, h3⟩ := comp_at (f := f) P C xs 0 s (fun j x s hx hp => by
    rw [Nat.zero_add] at hp ⊢
    exact hs j x s hx hp) h
  rw [e, Option.bind_some]
  rw [Nat.zero_add] at h1
  exact hk ys s' h1 h2 h3
/-- items kept or left out by draws -/
theorem comp_sub {β D S : Type} {f : β → D × S → Option (Option β × D × S)} {s : S} : ∀ (xs : List β) (d : D), (∀ x ∈ xs, ∀ d, Ev (f x (d, s)) fun o => ∃ d', o = (some x, d', s) ∨ o = (none, d', s)) → ∃ ys d', compM f xs (d, s) = some (ys, d', s) ∧ ys.Sublist xs
  | [], d, _ => ⟨[], d, rfl, List.Sublist.refl _⟩
  | x :: xs, d, hs => by
    obtain ⟨o, e, d1, h⟩ := hs x (List.mem_cons_self ..) d
    obtain ⟨ys, d2, e2, h2⟩ := comp_sub xs d1 fun z hz => hs z (List.mem_cons_of_mem _ hz)
    rcases h with rfl | rfl
    · refine ⟨x :: ys, d2, ?_, h2.cons_cons x⟩
      show (f x (d, s)).bind _ = _
      rw [e, Option.bind_some]
      try dsimp only
      rw [e2]
      rfl
    · refine ⟨ys, d2, ?_, h2.cons x⟩
      show (f x (d, s)).bind _ = _
      rw [e, Option.bind_some]
      try dsimp only
      rw [e2]
      rfl
theorem wp_compsub {β D S γ : Type} {f : β → D × S → Option (Option β × D × S)} {xs : List β} {d : D} {s : S} {K : List β × D × S → Option γ} {Q : γ → Prop} (hs : ∀ x ∈ xs, ∀ d, Ev (f x (d, s)) fun o => ∃ d', o = (some x, d', s) ∨ o = (none, d', s)) (hk : ∀ ys d, ys.Sublist xs → Ev (K (ys, d, s)) Q) : Ev ((compM f xs (d, s)).bind K) Q := by
  obtain ⟨ys, d', e, h1⟩ := comp_sub xs d hs
  rw [e, Option.bind_some]
  exact hk ys d' h1
theorem nums_lt (n : Nat) : (nums n).Pairwise (· < ·) := by
  unfold nums
  exact List.pairwise_map.mpr (List.pairwise_lt_range.imp fun h => by omega)
/-! ### dict comprehensions -/
theorem dcompM_pure {β A κ γ : Type} [DecidableEq κ] {f : β → A → Option (Option (κ × γ) × A)} {g : β → Option (κ × γ)} {s : A} : ∀ (xs : List β) (d : List (κ × γ)), (∀ x ∈ xs, f x s = some (g x, s)) → dcompM f xs s d = some (xs.foldl (fun d x => match g x with | some y => setK d y.1 y.2 | none => d) d, s)
  | [], d, _ => rfl
  | x :: xs, d, h => by
    show (f x s).bind _ = _
    rw [h x (List.mem_cons_self ..), Option.bind_some]
    try dsimp only
    rw [dcompM_pure xs _ fun y hy => h y (List.mem_cons_of_mem _ hy)]
    rfl
theorem getK_some {κ α : Type} [DecidableEq κ] {kvs : List (κ × α)} {k : κ} : (getK kvs k).isSome = decide (k ∈ kvs.map Prod.fst) := by
  unfold getK
  induction kvs with
  | nil => rfl
  | cons p l ih =>
    rw [List.find?_cons]
    by_cases c : p.1 = k
    · rw [decide_eq_true c]
      simp [c]
    · rw [decide_eq_false c, ih]
      refine decide_eq_decide.mpr ?_
      rw [List.map_cons, List.mem_cons]
      constructor
      · exact .inr
      · rintro (h | h)
        · exact absurd h.symm c
        · exact h
/-! ### comprehensions with two fors -/
theorem compC_pure {β A γ : Type} {f : β → A → Option (List γ × A)} {g : β → List γ} {s : A} : ∀ (xs : List β), (∀ x ∈ xs, f x s = some (g x, s)) → compC f xs s = some (xs.flatMap g, s)
  | [], _ => rfl
  | x :: xs, h => by
    show (f x s).bind _ = _
    rw [h x (List.mem_cons_self ..), Option.bind_some, compC_pure xs fun y hy => h y (List.mem_cons_of_mem _ hy)]
    rfl
theorem flat_len {α β : Type} {f : α → List β} {n : Nat} : ∀ (xs : List α), (∀ x ∈ xs, (f x).length ≤ n) → (xs.flatMap f).length ≤ xs.length * n
  | [], _ => by simp
  | x :: xs, h => by
    rw [List.flatMap_cons, List.length_append, List.length_cons, Nat.succ_mul]
    have h1 := h x (List.mem_cons_self ..)
    have h2 := flat_len xs fun y hy => h y (List.mem_cons_of_mem _ hy)
    omega
theorem rng_pred {n : Nat} (h : n ≤ 4000000000) : rng1 ((n : Int) - 1) = some (nums (n - 1)) := by
  cases n with
  | zero => rw [rng1_eq]; rfl
  | succ n => rw [show ((n + 1 : Nat) : Int) - 1 = (n : Int) by omega, rng_len (by omega)]; rfl
theorem rngW_pred (n : Nat) : rngW 0 ((n : Int) - 1) = some (nums (n - 1)) := by
  cases n with
  | zero => rw [rngW_eq]; rfl
  | succ n => rw [show ((n + 1 : Nat) : Int) - 1 = (n : Int) by omega, nat_rgW]; rfl
theorem setC_last {α : Type} (l : List α) (x y : α) : setC (l ++ [x]) (-1) y = some (l ++ [y]) := by
  unfold setC L2.ixN
  rw [if_neg (by omega), if_pos (by simp; omega)]
  show some ((l ++ [x]).set (-1 + ((l ++ [x]).length : Int)).toNat y) = _
  rw [show (-1 + ((l ++ [x]).length : Int)).toNat = l.length by simp; omega]
  simp
/-- a comprehension with a state that goes on and what is found so far -/
theorem comp_acc {β A γ : Type} {f : β → A → Option (Option γ × A)} (P : List γ → A → Prop) : ∀ (xs : List β) (ys : List γ) (s : A), (∀ x ∈ xs, ∀ zs s, zs.length < ys.length + xs.length → P zs s → ∃ y s', f x s = some (some y, s') ∧ P (zs ++ [y]) s') → P ys s → ∃ zs s', compM f xs s = some (zs, s') ∧ P (ys ++ zs) s' ∧ zs.length = xs.length
  | [], ys, s, _, h => ⟨[], s, rfl, by rw [List.append_nil]; exact h, rfl⟩
  | x :: xs, ys, s, hs, h => by
    obtain ⟨y, s1, e, h1⟩ := hs x (List.mem_cons_self ..) ys s (by rw [List.length_cons]; omega) h
    obtain ⟨zs, s2, e2, h2, l⟩ := comp_acc P xs (ys ++ [y]) s1 (fun x hx zs s hl hp => hs x (List.mem_cons_of_mem _ hx) zs s (by rw [List.length_append, List.length_cons, List.length_nil] at hl; rw [List.length_cons]; omega) hp) h1
    refine ⟨y :: zs, s2, ?_, by rw [List.append_assoc] at h2; exact h2, by simp [l]⟩
    show (f x s).bind _ = _
    rw [e, Option.bind_some]
    try dsimp only
    rw [e2]
    rfl
theorem wp_compAcc {β A γ δ : Type} {f : β → A → Option (Option γ × A)} (P : List γ → A → Prop) {xs : List β} {s : A} {K : List γ × A → Option δ} {Q : δ → Prop} (h : P [] s) (hs : ∀ x ∈ xs, ∀ zs s, zs.length < xs.length → P zs s → ∃ y s', f x s = some (some y, s') ∧ P (zs ++ [y]) s') (hk : ∀ ys s', ys.length = xs.length → P ys s' → Ev (K (ys, s')) Q) : Ev ((compM f xs s).bind K) Q := by
  obtain ⟨zs, s', e, h1, h2⟩ := comp_acc (f := f) P xs [] s (fun x hx zs s hl hp => hs x hx zs s (by simpa using hl) hp) h
  rw [e, Option.bind_some]
  exact hk zs s' h2 h1
theorem pop_perm {α : Type} {l : List α} {t : Nat} (h : t < l.length) (h2 : l.length ≤ 16777216) : ∃ y, popAtC l (t : Int) = some (y, l.eraseIdx t) ∧ (y :: l.eraseIdx t).Perm l := by
  refine ⟨l[t], ?_, ?_⟩
  · unfold popAtC
    rw [if_pos ⟨by omega, by omega⟩, Int.toNat_natCast, List.getElem?_eq_getElem h]
    rfl
  · rw [List.eraseIdx_eq_take_drop_succ]
    refine List.perm_middle.symm.trans ?_
    rw [List.getElem_cons_drop, List.take_append_drop]
theorem lrng_nat {n : Nat} (h : n ≤ 16777216) : lrng (n : Int) = some (nums n) := by
  unfold lrng
  rw [if_pos ⟨by omega, by omega⟩]
  unfold rangeL nums
  simp
theorem nums_nodup (n : Nat) : (nums n).Nodup := (nums_lt n).imp fun h => by omega
theorem emod_is {a b m q : Int} (h : a = b + m * q) (h0 : 0 ≤ b) (h1 : b < m) : a % m = b := by
  rw [h, Int.add_mul_emod_self_left, Int.emod_eq_of_lt h0 h1]
theorem emod_qr (a m : Int) : ∃ q, a = a % m + m * q := ⟨a / m, (Int.emod_add_mul_ediv a m).symm⟩
theorem mem_nums' {n : Nat} {x : Int} : x ∈ nums n ↔ 0 ≤ x ∧ x < (n : Int) := by
  rw [mem_nums]
  exact ⟨fun ⟨j, e, h⟩ => by omega, fun h => ⟨x.toNat, by omega, by omega⟩⟩
end L3

/-! L3 (plain): orders of rows, the first of the least, all sets of some items. -/
namespace L3
open PySem
/-! ### strict orders -/
structure Sto {α : Type} (lt : α → α → Bool) : Prop where
  irr : ∀ a, lt a a = false
  tr : ∀ a b c, lt a b = true → lt b c = true → lt a c = true
  tri : ∀ a b, a = b ∨ lt a b = true ∨ lt b a = true
theorem Sto.asym {α : Type} {lt : α → α → Bool} (S : Sto lt) {a b : α} (h : lt a b = true) : lt b a = false := by
  cases c : lt b a with
  | false => rfl
  | true => have := S.tr a b a h c; rw [S.irr] at this; cases this
theorem Sto.tot {α : Type} {lt : α → α → Bool} (S : Sto lt) : Tot lt where
  anti a b h1 h2 := by
    rcases S.tri a b with h | h | h
    · exact h
    · rw [h] at h1; cases h1
    · rw [h] at h2; cases h2
  tr a b c h1 h2 := by
    cases d : lt c a with
    | false => rfl
    | true =>
      rcases S.tri a b with h | h | h
      · subst h; rw [d] at h2; cases h2
      · have := S.tr c a b d h
        rw [this] at h2; cases h2
      · rw [h] at h1; cases h1
  tot a b := by
    cases c : lt b a with
    | false => exact .inl rfl
    | true => exact .inr (S.asym c)
theorem stoI : Sto ltI := ⟨fun a => decide_eq_false (by omega), fun a b c h1 h2 => by
    have h1 := of_decide_eq_true h1
    have h2 := of_decide_eq_true h2
    exact decide_eq_true (by omega), fun a b => by
    by_cases h : a = b
    · exact .inl h
    · by_cases k : a < b
      · exact .inr (.inl (decide_eq_true k))
      · exact .inr (.inr (decide_eq_true (by omega)))⟩
theorem stoPair {α β : Type} [DecidableEq α] {lt : α → α → Bool} {lt2 : β → β → Bool} (S : Sto lt) (S2 : Sto lt2) : Sto fun (x y : α × β) => if x.1 = y.1 then lt2 x.2 y.2 else lt x.1 y.1 := ⟨fun a => by
    show (if a.1 = a.1 then _ else _) = false
    rw [if_pos rfl]; exact S2.irr _, fun a b c h1 h2 => by
    try dsimp only at h1 h2 ⊢
    by_cases e : a.1 = b.1
    · rw [if_pos e] at h1
      by_cases f : b.1 = c.1
      · rw [if_pos f] at h2
        rw [if_pos (e.trans f)]
        exact S2.tr _ _ _ h1 h2
      · rw [if_neg f] at h2
        rw [if_neg (by rw [e]; exact f), e]
        exact h2
    · rw [if_neg e] at h1
      by_cases f : b.1 = c.1
      · rw [if_neg (by rw [← f]; exact e), ← f]
        exact h1
      · rw [if_neg f] at h2
        have h3 := S.tr _ _ _ h1 h2
        rw [if_neg (fun z => by rw [z, S.irr] at h3; cases h3)]
        exact h3, fun a b => by
    by_cases e : a.1 = b.1
    · rcases S2.tri a.2 b.2 with h | h | h
      · exact .inl (Prod.ext e h)
      · refine .inr (.inl ?_)
        show (if _ then _ else _) = true
        rw [if_pos e]; exact h
      · refine .inr (.inr ?_)
        show (if _ then _ else _) = true
        rw [if_pos e.symm]; exact h
    · rcases S.tri a.1 b.1 with h | h | h
      · exact absurd h e
      · refine .inr (.inl ?_)
        show (if _ then _ else _) = true
        rw [if_neg e]; exact h
      · refine .inr (.inr ?_)
        show (if _ then _ else _) = true
        rw [if_neg fun z => e z.symm]; exact h⟩
theorem lexL_cons {α : Type} [DecidableEq α] (lt : α → α → Bool) (x y : α) (xs ys : List α) : lexL lt (x :: xs) (y :: ys) = if x = y then lexL lt xs ys else lt x y := by rw [lexL]
theorem stoL {α : Type} [DecidableEq α] {lt : α → α → Bool} (S : Sto lt) : Sto (lexL lt) := ⟨fun a => by
    induction a with
    | nil => rw [lexL]
    | cons x a ih => rw [lexL_cons, if_pos rfl]; exact ih, fun a => by
    induction a with
    | nil =>
      intro b c h1 h2
      cases b with
      | nil => rw [lexL] at h1; cases h1
      | cons y b =>
        cases c with
        | nil => rw [lexL] at h2; cases h2
        | cons z c => rw [lexL]
    | cons x a ih =>
      intro b c h1 h2
      cases b with
      | nil => rw [lexL] at h1; cases h1
      | cons y b =>
        cases c with
        | nil => rw [lexL] at h2; cases h2
        | cons z c =>
          rw [lexL_cons] at h1 h2 ⊢
          by_cases e : x = y
          · rw [if_pos e] at h1
            by_cases f : y = z
            · rw [if_pos f] at h2
              rw [if_pos (e.trans f)]
              exact ih _ _ h1 h2
            · rw [if_neg f] at h2
              rw [if_neg (by rw [e]; exact f), e]
              exact h2
          · rw [if_neg e] at h1
            by_cases f : y = z
            · rw [if_neg (by rw [← f]; exact e), ← f]
              exact h1
            · rw [if_neg f] at h2
              have h3 := S.tr _ _ _ h1 h2
              rw [if_neg (fun z => by rw [z, S.irr] at h3; cases h3)]
              exact h3, fun a => by
    induction a with
    | nil =>
      intro b
      cases b with
      | nil => exact .inl rfl
      | cons y b => exact .inr (.inl (by rw [lexL]))
    | cons x a ih =>
      intro b
      cases b with
      | nil => exact .inr (.inr (by rw [lexL]))
      | cons y b =>
        rw [lexL_cons, lexL_cons]
        by_cases e : x = y
        · subst e
          rw [if_pos rfl, if_pos rfl]
          rcases ih b with h | h | h
          · exact .inl (by rw [h])
          · exact .inr (.inl h)
          · exact .inr (.inr h)
        · rw [if_neg e, if_neg fun z => e z.symm]
          rcases S.tri x y with h | h | h
          · exact absurd h e
          · exact .inr (.inl h)
          · exact .inr (.inr h)⟩
abbrev ltL : List Int → List Int → Bool := Ord.lt (uTup (wAll uInt))
abbrev ltIL : Int × List Int → Int × List Int → Bool := Ord.lt (uTup (wCons uInt (wOne (uTup (wAll uInt)))))
theorem stoLI : Sto ltL := stoL stoI
theorem stoIL : Sto ltIL := stoPair stoI stoLI
theorem totL : Tot ltL := stoLI.tot
theorem totIL : Tot ltIL := stoIL.tot
theorem ltIL_eq (a b : Int × List Int) : ltIL a b = if a.1 = b.1 then ltL a.2 b.2 else decide (a.1 < b.1) := rfl
theorem ltL_nil (b : Int) (bs : List Int) : ltL [] (b :: bs) = true := by show lexL _ _ _ = _; rw [lexL]
theorem ltL_snoc {a b : List Int} (h : a.length = b.length) (x y : Int) : ltL (a ++ [x]) (b ++ [y]) = if a = b then decide (x < y) else ltL a b := by
  show lexL _ _ _ = if a = b then _ else lexL _ _ _
  induction a generalizing b with
  | nil =>
    cases b with
    | nil =>
      rw [if_pos rfl, List.nil_append, List.nil_append, lexL_cons]
      by_cases e : x = y
      · subst e
        rw [if_pos rfl, lexL]
        exact (decide_eq_false (by omega)).symm
      · rw [if_neg e]
        rfl
    | cons c b => simp at h
  | cons c a ih =>
    cases b with
    | nil => simp at h
    | cons d b =>
      rw [List.cons_append, List.cons_append, lexL_cons, lexL_cons]
      by_cases e : c = d
      · subst e
        rw [if_pos rfl, if_pos rfl, ih (by simpa using h)]
        by_cases f : a = b
        · rw [if_pos f, if_pos (by rw [f])]
        · rw [if_neg f, if_neg (by simpa using f)]
      · rw [if_neg e, if_neg e, if_neg (by simp [e])]
/-! ### the first of the least -/
/-- the first row of the least price, with its price -/
def amin {α : Type} (p : α → Int) (rows : List α) : Option (Int × α) := rows.foldl (fun b r => match b with | none => some (p r, r) | some b => if p r < b.1 then some (p r, r) else some b) none
theorem amin_snoc {α : Type} (p : α → Int) (rows : List α) (r : α) : amin p (rows ++ [r]) = match amin p rows with | none => some (p r, r) | some b => if p r < b.1 then some (p r, r) else some b := by
  unfold amin
  rw [List.foldl_append]
  rfl
theorem list_snoc {α : Type} {P : List α → Prop} (h0 : P []) (hs : ∀ l x, P l → P (l ++ [x])) (l : List α) : P l := by
  have : ∀ n (l : List α), l.length = n → P l := fun n => by
    induction n with
    | zero => intro l h; rw [List.length_eq_zero_iff.mp h]; exact h0
    | succ n ih =>
      intro l h
      have hne : l ≠ [] := by intro z; subst z; simp at h
      rw [← List.dropLast_concat_getLast hne]
      exact hs _ _ (ih _ (by rw [List.length_dropLast]; omega))
  exact this _ l rfl
theorem amin_nil {α : Type} (p : α → Int) : amin p ([] : List α) = none := rfl
theorem amin_spec {α : Type} (p : α → Int) (rows : List α) : (rows = [] ∧ amin p rows = none) ∨ ∃ r, amin p rows = some (p r, r) ∧ r ∈ rows ∧ (∀ x ∈ rows, p r ≤ p x) := by
  induction rows using list_snoc with
  | h0 => exact .inl ⟨rfl, rfl⟩
  | hs l x ih =>
    refine .inr ?_
    rw [amin_snoc]
    rcases ih with ⟨rfl, e⟩ | ⟨r, e, m, le⟩
    · rw [e]
      exact ⟨x, rfl, by simp, fun y hy => by simp at hy; subst hy; exact Int.le_refl _⟩
    · rw [e]
      try dsimp only
      by_cases c : p x < p r
      · rw [if_pos c]
        refine ⟨x, rfl, by simp, fun y hy => ?_⟩
        rcases List.mem_append.mp hy with hy | hy
        · have := le y hy; omega
        · simp at hy; subst hy; exact Int.le_refl _
      · rw [if_neg c]
        refine ⟨r, rfl, List.mem_append_left _ m, fun y hy => ?_⟩
        rcases List.mem_append.mp hy with hy | hy
        · exact le y hy
        · simp at hy; subst hy; omega
theorem amin_none {α : Type} {p : α → Int} {rows : List α} : amin p rows = none ↔ rows = [] := by
  rcases amin_spec p rows with ⟨a, b⟩ | ⟨r, a, m, _⟩
  · exact ⟨fun _ => a, fun _ => b⟩
  · rw [a]
    constructor
    · intro h; cases h
    · intro h; rw [h] at m; cases m
theorem minU_snoc' {α : Type} (lt : α → α → Bool) (l : List α) (y : α) : minU lt (l ++ [y]) = some (match minU lt l with | none => y | some a => if lt y a = true then y else a) := by
  cases l with
  | nil => rfl
  | cons a l =>
    show some (List.foldl _ a (l ++ [y])) = _
    rw [List.foldl_append]
    rfl
/-- over rows that ascend, min of the pairs is the first of the least -/
theorem minU_amin {α : Type} [DecidableEq α] {lt : α → α → Bool} (S : Sto lt) (p : α → Int) (rows : List α) (h : rows.Pairwise fun a b => lt a b = true) :
    minU (fun (x y : Int × α) => if x.1 = y.1 then lt x.2 y.2 else decide (x.1 < y.1)) (rows.map fun r => (p r, r)) = amin p rows := by
  induction rows using list_snoc with
  | h0 => rfl
  | hs l x ih =>
    obtain ⟨h1, _, h3⟩ := List.pairwise_append.mp h
    rw [List.map_append, List.map_cons, List.map_nil, minU_snoc', ih h1, amin_snoc]
    rcases amin_spec p l with ⟨rfl, e⟩ | ⟨r, e, m, le⟩
    · rw [e]
    · rw [e]
      try dsimp only
      have hlt := h3 r m x (by simp)
      by_cases c : p x = p r
      · rw [if_pos c, S.asym hlt, if_neg (by simp), if_neg (by omega)]
      · rw [if_neg c]
        by_cases d : p x < p r
        · rw [decide_eq_true d, if_pos rfl, if_pos d]
        · rw [decide_eq_false d, if_neg (by simp), if_neg d]
theorem minIL_amin (p : List Int → Int) {rows : List (List Int)} (h : rows.Pairwise fun a b => ltL a b = true) : minU ltIL (rows.map fun r => (p r, r)) = amin p rows := minU_amin stoLI p rows h
/-! ### all sets of some items -/
def subs {α : Type} (items : List α) : List (List α) := items.foldl (fun rows x => rows ++ rows.map fun r => r ++ [x]) [[]]
theorem subs_snoc {α : Type} (items : List α) (x : α) : subs (items ++ [x]) = subs items ++ (subs items).map fun r => r ++ [x] := by
  unfold subs
  rw [List.foldl_append]
  rfl
theorem subs_len {α : Type} (items : List α) : (subs items).length = 2 ^ items.length := by
  induction items using list_snoc with
  | h0 => rfl
  | hs l x ih => rw [subs_snoc, List.length_append, List.length_map, ih, List.length_append, List.length_singleton, Nat.pow_succ]; omega
theorem mem_subs {α : Type} {items r : List α} : r ∈ subs items ↔ r.Sublist items := by
  induction items using list_snoc generalizing r with
  | h0 => exact ⟨fun h => by rw [List.mem_singleton.mp h]; exact List.Sublist.refl _, fun h => by rw [List.sublist_nil.mp h]; exact List.mem_singleton.mpr rfl⟩
  | hs l x ih =>
    rw [subs_snoc, List.mem_append, List.mem_map, ih]
    constructor
    · rintro (h | ⟨s, hs, rfl⟩)
      · exact h.trans (List.sublist_append_left _ _)
      · exact (ih.mp hs).append (List.Sublist.refl _)
    · intro h
      obtain ⟨a, b, rfl, ha, hb⟩ := List.sublist_append_iff.mp h
      cases hb with
      | cons _ hb =>
        rw [List.sublist_nil.mp hb, List.append_nil]
        exact .inl ha
      | cons_cons _ hb =>
        rw [List.sublist_nil.mp hb]
        exact .inr ⟨a, ih.mpr ha, rfl⟩
theorem subs_nodup {α : Type} {items : List α} (h : items.Nodup) : (subs items).Nodup := by
  induction items using list_snoc with
  | h0 => exact List.nodup_cons.mpr ⟨by simp, List.nodup_nil⟩
  | hs l x ih =>
    obtain ⟨h1, _, h3⟩ := List.nodup_append.mp h
    rw [subs_snoc, List.nodup_append]
    refine ⟨ih h1, List.pairwise_map.mpr ((ih h1).imp fun ne e => ne (List.append_cancel_right e)), fun a ha b hb e => ?_⟩
    obtain ⟨s, hs, rfl⟩ := List.mem_map.mp hb
    have h4 := (mem_subs.mp ha).subset (show x ∈ a by rw [e]; simp)
    exact h3 x h4 x (by simp) rfl
end L3

set_option exponentiation.threshold 100000
/-! Fractions in least form, as the program's own module has them. -/
namespace L3
open PySem
noncomputable def divisorF (one other : Int) : Option Int := (whileM (fun (one, other, _) =>
      if decide (0 < other) = true then (modC one other).bind fun t0 =>
        some (some (Out.nx (other, t0, ())), one, other, ())
      else some (none, one, other, ())) (10 ^ 100) ((one, other, ()))).bind fun o => match o with
  | .go (one, other, _) => some one
  | .rt r => some r
theorem half_step {x y : Int} (hy : 0 < y) (hx : y ≤ x) : 2 * (y * (x % y)) ≤ x * y := by
  have h0 := Int.emod_nonneg x (b := y) (by omega)
  have h1 := Int.emod_lt_of_pos x hy
  have h2 : x % y + y ≤ x := by
    have e := Int.emod_add_mul_ediv x y
    have hq : 1 ≤ x / y := by
      rw [Int.le_ediv_iff_mul_le hy]; omega
    have := Int.mul_le_mul_of_nonneg_left hq (show 0 ≤ y by omega)
    omega
  have h3 : 2 * (x % y) ≤ x := by omega
  have := Int.mul_le_mul_of_nonneg_left h3 (show 0 ≤ y by omega)
  have e1 : y * (2 * (x % y)) = 2 * (y * (x % y)) := by grind
  have e2 : y * x = x * y := Int.mul_comm ..
  omega
theorem divisorF_ok {a b : Int} (ha : 0 ≤ a) (hb : 0 ≤ b) (h : 0 < a + b) {N : Nat} (hN : N + 1 < 10 ^ 100) (hs : a * b < 2 ^ N) : divisorF a b = some ((Nat.gcd a.toNat b.toNat : Nat) : Int) := by
  refine Ev.eq ?_
  unfold divisorF
  refine wp_while (D := fun (z : Int × Int × PUnit) => z.1 = (Nat.gcd a.toNat b.toNat : Nat)) (fun n (z : Int × Int × PUnit) => 0 ≤ z.1 ∧ 0 ≤ z.2.1 ∧ 0 < z.1 + z.2.1 ∧ Nat.gcd z.1.toNat z.2.1.toNat = Nat.gcd a.toNat b.toNat ∧ ∃ k : Nat, z.1 * z.2.1 < 2 ^ k ∧ (k + 1 ≤ n ∨ z.2.1 ≤ z.1 ∧ k ≤ n)) (N + 1) hN ⟨ha, hb, h, rfl, N, hs, .inl (Nat.le_refl _)⟩ ?_ ?_
  · rintro n ⟨x, y, u⟩ ⟨h1, h2, h3, h4, k, h5, h6⟩
    try dsimp only at h1 h2 h3 h4 h5 h6
    try dsimp only
    by_cases c : 0 < y
    · have b0 := Int.emod_nonneg x (b := y) (by omega)
      have b1 := Int.emod_lt_of_pos x c
      have hg : Nat.gcd y.toNat (x % y).toNat = Nat.gcd a.toNat b.toNat := by
        rw [← h4, Int.toNat_emod h1 (by omega), Nat.gcd_comm, ← Nat.gcd_rec, Nat.gcd_comm]
      have run : (if decide (0 < y) = true then (modC x y).bind fun t0 =>
          some (some (Out.nx (y, t0, ())), x, y, ())
        else some (none, x, y, ())) = some (some (Out.nx (C := Int × Int × PUnit) (R := Int) (y, x % y, ())), x, y, ()) := by
        rw [if_pos (by simpa using c), modC_eq c]
        rfl
      by_cases d : y ≤ x
      · have hh := half_step c d
        have hk : 0 < k := by
          rcases Nat.eq_zero_or_pos k with z | z
          · subst z
            exfalso
            have := Int.mul_le_mul d (Int.le_refl y) (by omega) (by omega)
            have := Int.mul_le_mul (show (1 : Int) ≤ y by omega) (show (1 : Int) ≤ y by omega) (by omega) (by omega)
            omega
          · exact z
        have hp : (2 : Int) ^ k = 2 * 2 ^ (k - 1) := by
          rw [show k = k - 1 + 1 by omega, Int.pow_succ, Nat.add_sub_cancel, Int.mul_comm]
        refine .inr ⟨_, _, n - 1, run, ⟨by dsimp only; omega, b0, by dsimp only; omega, hg, k - 1, by dsimp only; omega, .inr ⟨by dsimp only; omega, by omega⟩⟩, by omega⟩
      · rcases h6 with h6 | h6
        · refine .inr ⟨_, _, n - 1, run, ⟨by dsimp only; omega, b0, by dsimp only; omega, hg, k, ?_, .inr ⟨by dsimp only; omega, by omega⟩⟩, by omega⟩
          try dsimp only
          rw [Int.emod_eq_of_lt h1 (by omega), Int.mul_comm]
          exact h5
        · omega
    · refine .inl ⟨(x, y, ()), by rw [if_neg (by simpa using c)], ?_⟩
      have : y = 0 := by omega
      subst this
      try dsimp only
      rw [← h4, Int.toNat_zero, Nat.gcd_zero_right]
      omega
  · rintro ⟨x, y, u⟩ hd
    exact ⟨_, rfl, hd⟩
noncomputable def fractionF (n d : Int) : Option (Int × Int) := (divisorF (n.natAbs : Int) (d.natAbs : Int)).bind fun t0 =>
  (if decide (d < 0) = true then some (Out.nx (n, d, -t0, ()))
    else some (Out.nx (n, d, t0, ())) : Option (Out (Int × Int × Int × PUnit) PUnit (Int × Int))).bind fun o => match o with
  | .nx (n, d, divisor, _) => (divC n divisor).bind fun t1 =>
    (divC d divisor).bind fun t2 =>
    some (t1, t2)
  | .bk s3 => none
  | .ct s4 => none
  | .rt r => some r
def ofR (q : Rat) : Int × Int := (q.num, (q.den : Int))
theorem ofR_inj {p q : Rat} (h : ofR p = ofR q) : p = q := by
  have h1 : p.num = q.num := congrArg Prod.fst h
  have h2 : (p.den : Int) = q.den := congrArg Prod.snd h
  exact Rat.ext h1 (by omega)
theorem ofR_0 : ofR 0 = (0, 1) := rfl
theorem ofR_1 : ofR 1 = (1, 1) := rfl
theorem fr_eq {n d : Int} (hd : 0 < d) : ofR ((n : Rat) / (d : Rat)) = (n / (Nat.gcd n.natAbs d.natAbs : Nat), d / (Nat.gcd n.natAbs d.natAbs : Nat)) := by
  rw [← Rat.divInt_eq_div]
  unfold ofR
  rw [Rat.num_divInt, Rat.den_divInt, if_neg (by omega), Int.sign_eq_one_of_pos hd, Int.one_mul, Nat.gcd_comm]
  have e : Int.gcd d n = Nat.gcd d.natAbs n.natAbs := rfl
  rw [e]
  refine Prod.ext rfl ?_
  try dsimp only
  rw [Int.natCast_ediv, Int.natAbs_of_nonneg (by omega)]
theorem ratio_ok {n d : Int} (hn : 0 ≤ n) (hd : 0 < d) {N : Nat} (hN : N + 1 < 10 ^ 100) (hs : (n.natAbs : Int) * d < 2 ^ N) (hb : d.natAbs < 2 ^ 9000) : ((divisorF n d).bind fun t0 => (divC n t0).bind fun t1 => (divC d t0).bind fun t2 => some (t1, t2)) = some (ofR ((n : Rat) / (d : Rat))) := by
  have h0 : 0 < Nat.gcd n.natAbs d.natAbs := Nat.gcd_pos_of_pos_right _ (by omega)
  have h1 : Nat.gcd n.natAbs d.natAbs ≤ d.natAbs := Nat.gcd_le_right _ (by omega)
  have hc : 0 < ((Nat.gcd n.natAbs d.natAbs : Nat) : Int) ∧ ((Nat.gcd n.natAbs d.natAbs : Nat) : Int).natAbs < 2 ^ 9000 := ⟨by omega, Nat.lt_of_le_of_lt (by omega) hb⟩
  rw [divisorF_ok hn (by omega) (by omega) hN (by rw [show n = (n.natAbs : Int) by omega]; exact hs), Option.bind_some, show n.toNat = n.natAbs by omega, show d.toNat = d.natAbs by omega, divC_eq, if_pos hc, Option.bind_some, divC_eq, if_pos hc, Option.bind_some, fr_eq hd]
theorem fractionF_ok {n d : Int} (hd : 0 < d) {N : Nat} (hN : N + 1 < 10 ^ 100) (hs : (n.natAbs : Int) * d < 2 ^ N) (hb : d.natAbs < 2 ^ 9000) : fractionF n d = some (ofR ((n : Rat) / (d : Rat))) := by
  have h0 : 0 < Nat.gcd n.natAbs d.natAbs := Nat.gcd_pos_of_pos_right _ (by omega)
  have h1 : Nat.gcd n.natAbs d.natAbs ≤ d.natAbs := Nat.gcd_le_right _ (by omega)
  unfold fractionF
  have ed : ((d.natAbs : Nat) : Int) = d := by omega
  have hc : 0 < ((Nat.gcd n.natAbs d.natAbs : Nat) : Int) ∧ ((Nat.gcd n.natAbs d.natAbs : Nat) : Int).natAbs < 2 ^ 9000 := ⟨by omega, Nat.lt_of_le_of_lt (by omega) hb⟩
  rw [divisorF_ok (by omega) (by omega) (by omega) hN (by rw [ed]; exact hs), Option.bind_some, Int.toNat_natCast, Int.toNat_natCast, decide_eq_false (show ¬ d < 0 by omega), if_neg (by simp), Option.bind_some]
  try dsimp only
  rw [divC_eq, if_pos hc, Option.bind_some, divC_eq, if_pos hc, Option.bind_some, fr_eq hd]
theorem rat_self (q : Rat) : q = (q.num : Rat) / ((q.den : Int) : Rat) := by
  have := Rat.num_divInt_den q
  rw [Rat.divInt_eq_div] at this
  exact this.symm
theorem den_ne (q : Rat) : ((q.den : Int) : Rat) ≠ 0 := by
  have := q.den_pos
  intro z
  have : (q.den : Int) = 0 := by exact_mod_cast z
  omega
theorem rat_plus (p q : Rat) : (((p.num * q.den + q.num * p.den : Int)) : Rat) / (((p.den : Int) * (q.den : Int) : Int) : Rat) = p + q := by
  have hp := rat_self p
  have hq := rat_self q
  have dp := den_ne p
  have dq := den_ne q
  rw [Rat.intCast_add, Rat.intCast_mul, Rat.intCast_mul, Rat.intCast_mul]
  generalize (p.num : Rat) = a at *
  generalize (q.num : Rat) = b at *
  generalize ((p.den : Int) : Rat) = c at *
  generalize ((q.den : Int) : Rat) = e at *
  subst hp hq
  grind
theorem rat_minus (p q : Rat) : (((p.num * q.den - q.num * p.den : Int)) : Rat) / (((p.den : Int) * (q.den : Int) : Int) : Rat) = p - q := by
  have hp := rat_self p
  have hq := rat_self q
  have dp := den_ne p
  have dq := den_ne q
  rw [Rat.intCast_sub, Rat.intCast_mul, Rat.intCast_mul, Rat.intCast_mul]
  generalize (p.num : Rat) = a at *
  generalize (q.num : Rat) = b at *
  generalize ((p.den : Int) : Rat) = c at *
  generalize ((q.den : Int) : Rat) = e at *
  subst hp hq
  grind
theorem rat_times (p q : Rat) : (((p.num * q.num : Int)) : Rat) / (((p.den : Int) * (q.den : Int) : Int) : Rat) = p * q := by
  have hp := rat_self p
  have hq := rat_self q
  have dp := den_ne p
  have dq := den_ne q
  rw [Rat.intCast_mul, Rat.intCast_mul]
  generalize (p.num : Rat) = a at *
  generalize (q.num : Rat) = b at *
  generalize ((p.den : Int) : Rat) = c at *
  generalize ((q.den : Int) : Rat) = e at *
  subst hp hq
  grind
theorem rat_over (p q : Rat) (h : q ≠ 0) : (((p.num * q.den : Int)) : Rat) / (((p.den : Int) * q.num : Int) : Rat) = p / q := by
  have hp := rat_self p
  have hq := rat_self q
  have dp := den_ne p
  have dq := den_ne q
  rw [Rat.intCast_mul, Rat.intCast_mul]
  generalize (p.num : Rat) = a at *
  generalize (q.num : Rat) = b at *
  generalize ((p.den : Int) : Rat) = c at *
  generalize ((q.den : Int) : Rat) = e at *
  subst hp hq
  have : b ≠ 0 := fun z => h (by rw [z]; grind)
  grind
/-- numbers that fit -/
def Sm (x : Int) : Prop := x.natAbs < 10 ^ 120
def SmR (q : Rat) : Prop := Sm q.num ∧ Sm q.den
theorem two_sm {x y : Int} (hx : Sm x) (hy : Sm y) : (x * y).natAbs < 10 ^ 240 := by
  rw [Int.natAbs_mul]
  unfold Sm at hx hy
  calc x.natAbs * y.natAbs < 10 ^ 120 * 10 ^ 120 := Nat.mul_lt_mul'' hx hy
    _ = 10 ^ 240 := by rw [← Nat.pow_add]
theorem frac_fit {n d : Int} (hd : 0 < d) (hn : n.natAbs < 10 ^ 250) (hd2 : d.natAbs < 10 ^ 250) : fractionF n d = some (ofR ((n : Rat) / (d : Rat))) := by
  have e : ((n.natAbs : Int) * d) < 2 ^ 1800 := by
    have : n.natAbs * d.natAbs < 2 ^ 1800 := Nat.lt_of_lt_of_le (Nat.mul_lt_mul'' hn hd2) (by decide)
    have h2 : ((n.natAbs * d.natAbs : Nat) : Int) < ((2 ^ 1800 : Nat) : Int) := by omega
    rw [Int.natCast_mul, show ((d.natAbs : Nat) : Int) = d by omega] at h2
    exact h2
  exact fractionF_ok hd (N := 1800) (Nat.lt_of_lt_of_le (show 1801 < 10 ^ 4 by decide) (Nat.pow_le_pow_right (by omega) (by omega))) e (Nat.lt_of_lt_of_le hd2 (Nat.le_trans (show 10 ^ 250 ≤ 2 ^ 900 by decide) (Nat.pow_le_pow_right (by omega) (by omega))))
theorem ratio_fit {n d : Int} (hn : 0 ≤ n) (hd : 0 < d) (hn2 : n.natAbs < 10 ^ 250) (hd2 : d.natAbs < 10 ^ 250) : ((divisorF n d).bind fun t0 => (divC n t0).bind fun t1 => (divC d t0).bind fun t2 => some (t1, t2)) = some (ofR ((n : Rat) / (d : Rat))) := by
  have e : ((n.natAbs : Int) * d) < 2 ^ 1800 := by
    have : n.natAbs * d.natAbs < 2 ^ 1800 := Nat.lt_of_lt_of_le (Nat.mul_lt_mul'' hn2 hd2) (by decide)
    have h2 : ((n.natAbs * d.natAbs : Nat) : Int) < ((2 ^ 1800 : Nat) : Int) := by omega
    rw [Int.natCast_mul, show ((d.natAbs : Nat) : Int) = d by omega] at h2
    exact h2
  exact ratio_ok hn hd (N := 1800) (Nat.lt_of_lt_of_le (show 1801 < 10 ^ 4 by decide) (Nat.pow_le_pow_right (by omega) (by omega))) e (Nat.lt_of_lt_of_le hd2 (Nat.le_trans (show 10 ^ 250 ≤ 2 ^ 900 by decide) (Nat.pow_le_pow_right (by omega) (by omega))))
theorem dens_pos (p q : Rat) : (0 : Int) < (p.den : Int) * (q.den : Int) := Int.mul_pos (by have := p.den_pos; omega) (by have := q.den_pos; omega)
/-- the module's sums, differences, products, quotients, by fractionF -/
noncomputable def plusF (one other : Int × Int) : Option (Int × Int) := (mulC one.1 other.2).bind fun t0 => (mulC other.1 one.2).bind fun t1 => (mulC one.2 other.2).bind fun t2 => (fractionF (t0 + t1) t2).bind fun (t3, d4) => some (t3, d4)
noncomputable def minusF (one other : Int × Int) : Option (Int × Int) := (mulC one.1 other.2).bind fun t0 => (mulC other.1 one.2).bind fun t1 => (mulC one.2 other.2).bind fun t2 => (fractionF (t0 - t1) t2).bind fun (t3, d4) => some (t3, d4)
noncomputable def timesF (one other : Int × Int) : Option (Int × Int) := (mulC one.1 other.1).bind fun t0 => (mulC one.2 other.2).bind fun t1 => (fractionF t0 t1).bind fun (t2, d3) => some (t2, d3)
noncomputable def overF (one other : Int × Int) : Option (Int × Int) := (mulC one.1 other.2).bind fun t0 => (mulC one.2 other.1).bind fun t1 => (fractionF t0 t1).bind fun (t2, d3) => some (t2, d3)
noncomputable def lessF (one other : Int × Int) : Option Bool := (mulC one.1 other.2).bind fun t0 => (mulC other.1 one.2).bind fun t1 => some (decide (t0 < t1))
theorem plusF_ok {p q : Rat} (hp : SmR p) (hq : SmR q) : plusF (ofR p) (ofR q) = some (ofR (p + q)) := by
  have a1 := two_sm hp.1 hq.2
  have a2 := two_sm hq.1 hp.2
  have a3 := two_sm hp.2 hq.2
  unfold plusF ofR
  try dsimp only
  rw [mulC_sm hp.1 hq.2, Option.bind_some, mulC_sm hq.1 hp.2, Option.bind_some, mulC_sm hp.2 hq.2, Option.bind_some, frac_fit (dens_pos p q) (by
    have := Int.natAbs_add_le (p.num * q.den) (q.num * p.den)
    have : (10 : Nat) ^ 250 = 10 ^ 240 * 10 ^ 10 := by rw [← Nat.pow_add]
    omega) (by
    have : (10 : Nat) ^ 250 = 10 ^ 240 * 10 ^ 10 := by rw [← Nat.pow_add]
    omega), rat_plus]
  rfl
theorem minusF_ok {p q : Rat} (hp : SmR p) (hq : SmR q) : minusF (ofR p) (ofR q) = some (ofR (p - q)) := by
  have a1 := two_sm hp.1 hq.2
  have a2 := two_sm hq.1 hp.2
  have a3 := two_sm hp.2 hq.2
  unfold minusF ofR
  try dsimp only
  rw [mulC_sm hp.1 hq.2, Option.bind_some, mulC_sm hq.1 hp.2, Option.bind_some, mulC_sm hp.2 hq.2, Option.bind_some, frac_fit (dens_pos p q) (by
    have := Int.natAbs_sub_le (p.num * q.den) (q.num * p.den)
    have : (10 : Nat) ^ 250 = 10 ^ 240 * 10 ^ 10 := by rw [← Nat.pow_add]
    omega) (by
    have : (10 : Nat) ^ 250 = 10 ^ 240 * 10 ^ 10 := by rw [← Nat.pow_add]
    omega), rat_minus]
  rfl
theorem timesF_ok {p q : Rat} (hp : SmR p) (hq : SmR q) : timesF (ofR p) (ofR q) = some (ofR (p * q)) := by
  have a1 := two_sm hp.1 hq.1
  have a3 := two_sm hp.2 hq.2
  have : (10 : Nat) ^ 250 = 10 ^ 240 * 10 ^ 10 := by rw [← Nat.pow_add]
  unfold timesF ofR
  try dsimp only
  rw [mulC_sm hp.1 hq.1, Option.bind_some, mulC_sm hp.2 hq.2, Option.bind_some, frac_fit (dens_pos p q) (by omega) (by omega), rat_times]
  rfl
theorem overF_ok {p q : Rat} (hp : SmR p) (hq : SmR q) (h : 0 < q) : overF (ofR p) (ofR q) = some (ofR (p / q)) := by
  have a1 := two_sm hp.1 hq.2
  have a3 := two_sm hp.2 hq.1
  have : (10 : Nat) ^ 250 = 10 ^ 240 * 10 ^ 10 := by rw [← Nat.pow_add]
  have hn : 0 < q.num := by
    have h1 := (Rat.lt_iff 0 q).mp h
    have e0 : (0 : Rat).num = 0 := rfl
    have e1 : (0 : Rat).den = 1 := rfl
    rw [e0, e1] at h1
    omega
  unfold overF ofR
  try dsimp only
  rw [mulC_sm hp.1 hq.2, Option.bind_some, mulC_sm hp.2 hq.1, Option.bind_some, frac_fit (Int.mul_pos (by have := p.den_pos; omega) hn) (by omega) (by omega), rat_over p q (fun z => by rw [z] at h; exact absurd h (by decide))]
  rfl
theorem lessF_ok {p q : Rat} (hp : SmR p) (hq : SmR q) : lessF (ofR p) (ofR q) = some (decide (p < q)) := by
  unfold lessF ofR
  try dsimp only
  rw [mulC_sm hp.1 hq.2, Option.bind_some, mulC_sm hq.1 hp.2, Option.bind_some]
  exact congrArg some (decide_eq_decide.mpr (Rat.lt_iff p q).symm)
theorem smR_of {n d : Int} (hd : 0 < d) (hn : Sm n) (hd2 : Sm d) : SmR ((n : Rat) / (d : Rat)) := by
  have e := fr_eq (n := n) hd
  have e1 := congrArg Prod.fst e
  have e2 := congrArg Prod.snd e
  unfold ofR at e1 e2
  try dsimp only at e1 e2
  unfold SmR
  rw [e1, e2]
  unfold Sm at *
  exact ⟨Nat.lt_of_le_of_lt (Int.natAbs_ediv_le_natAbs ..) hn, Nat.lt_of_le_of_lt (Int.natAbs_ediv_le_natAbs ..) hd2⟩
theorem idx_countP {α : Type} [Inhabited α] (xs : List α) (q : α → Bool) : (idx xs.length fun j => q (ix xs j)).length = xs.countP q := by
  unfold idx
  rw [List.length_map, ← List.countP_eq_length_filter]
  have e : xs = (List.range xs.length).map (ix xs) := by
    refine List.ext_getElem (by simp) fun i h1 h2 => ?_
    rw [List.getElem_map, List.getElem_range, ix_at h1]
  conv => rhs; rw [e, List.countP_map]
  rfl
theorem countP_two {α : Type} {p q r : α → Bool} : ∀ (l : List α), (∀ x ∈ l, p x = (q x || r x) ∧ (q x && r x) = false) → l.countP p = l.countP q + l.countP r
  | [], _ => rfl
  | x :: l, h => by
    obtain ⟨h1, h2⟩ := h x (List.mem_cons_self ..)
    rw [List.countP_cons, List.countP_cons, List.countP_cons, countP_two l fun y hy => h y (List.mem_cons_of_mem _ hy), h1]
    cases hq : q x <;> cases hr : r x <;> rw [hq, hr] at h2 <;> simp at h2 ⊢ <;> omega
/-- each item has its own number: the counts add up -/
theorem counts_sum {l : List Int} {n : Nat} (h : ∀ x ∈ l, 0 ≤ x ∧ x < (n : Int)) : ((nums n).map fun k => (l.count k : Int)).sum = (l.length : Int) := by
  have key : ∀ k : Nat, ((nums k).map fun k => (l.count k : Int)).sum = (l.countP fun x => decide (0 ≤ x ∧ x < (k : Int)) : Nat) := by
    intro k
    induction k with
    | zero =>
      have : (l.countP fun x => decide (0 ≤ x ∧ x < ((0 : Nat) : Int))) = 0 := List.countP_eq_zero.mpr fun x hx => by simp
      rw [this]
      rfl
    | succ k ih =>
      rw [nums_succ, List.map_append, List.sum_append, ih, countP_two (p := fun x => decide (0 ≤ x ∧ x < ((k + 1 : Nat) : Int))) (q := fun x => decide (0 ≤ x ∧ x < (k : Int))) (r := fun x => x == (k : Int)) l (fun x hx => by
        constructor
        · by_cases c : x = (k : Int)
          · subst c; simp; omega
          · by_cases d : 0 ≤ x ∧ x < (k : Int)
            · simp [d]; omega
            · have : ¬ (0 ≤ x ∧ x < ((k + 1 : Nat) : Int)) := by omega
              rw [decide_eq_false d, decide_eq_false this]
              simp [c]
        · by_cases c : x = (k : Int)
          · subst c; simp
          · simp [c])]
      simp [List.count_eq_countP]
  rw [key n, List.countP_eq_length.mpr fun x hx => decide_eq_true (h x hx)]
end L3

set_option exponentiation.threshold 100000
/-! Fractions of any sign, given as pairs, with sizes. -/
namespace L3
open PySem
def val (x : Int × Int) : Rat := (x.1 : Rat) / (x.2 : Rat)
def Pk (k : Nat) (x : Int × Int) : Prop := 0 < x.2 ∧ x.1.natAbs < 10 ^ k ∧ x.2.natAbs < 10 ^ k
def Sz (k : Nat) (q : Rat) : Prop := Pk k (ofR q)
theorem val_ofR (q : Rat) : val (ofR q) = q := (rat_self q).symm
theorem Pk.mono {a b : Nat} {x : Int × Int} (h : Pk a x) (l : a ≤ b) : Pk b x := by
  have := Nat.pow_le_pow_right (n := 10) (by omega) l
  exact ⟨h.1, by have := h.2.1; omega, by have := h.2.2; omega⟩
theorem Sz.mono {a b : Nat} {q : Rat} (h : Sz a q) (l : a ≤ b) : Sz b q := Pk.mono h l
theorem ofR_val {x : Int × Int} (h : 0 < x.2) : ofR (val x) = (x.1 / (Nat.gcd x.1.natAbs x.2.natAbs : Nat), x.2 / (Nat.gcd x.1.natAbs x.2.natAbs : Nat)) := fr_eq h
theorem Sz_of {k : Nat} {x : Int × Int} (h : Pk k x) : Sz k (val x) := by
  have p : (0 : Int) < (ofR (val x)).2 := by
    show (0 : Int) < ((val x).den : Int)
    have := (val x).den_pos
    omega
  refine ⟨p, ?_, ?_⟩
  · rw [ofR_val h.1]
    exact Nat.lt_of_le_of_lt (Int.natAbs_ediv_le_natAbs ..) h.2.1
  · rw [ofR_val h.1]
    exact Nat.lt_of_le_of_lt (Int.natAbs_ediv_le_natAbs ..) h.2.2
theorem pk_prod {a b : Nat} {x y : Int} (hx : x.natAbs < 10 ^ a) (hy : y.natAbs < 10 ^ b) : (x * y).natAbs < 10 ^ (a + b) := by
  rw [Int.natAbs_mul, Nat.pow_add]
  exact Nat.mul_lt_mul'' hx hy
theorem ne_of {x : Int} (h : x ≠ 0) : (x : Rat) ≠ 0 := fun z => h (by exact_mod_cast z)
theorem val_add {x y : Int × Int} (hx : x.2 ≠ 0) (hy : y.2 ≠ 0) : ((x.1 * y.2 + y.1 * x.2 : Int) : Rat) / ((x.2 * y.2 : Int) : Rat) = val x + val y := by
  have dx := ne_of hx
  have dy := ne_of hy
  unfold val
  rw [Rat.intCast_add, Rat.intCast_mul, Rat.intCast_mul, Rat.intCast_mul]
  grind
theorem val_sub {x y : Int × Int} (hx : x.2 ≠ 0) (hy : y.2 ≠ 0) : ((x.1 * y.2 - y.1 * x.2 : Int) : Rat) / ((x.2 * y.2 : Int) : Rat) = val x - val y := by
  have dx := ne_of hx
  have dy := ne_of hy
  unfold val
  rw [Rat.intCast_sub, Rat.intCast_mul, Rat.intCast_mul, Rat.intCast_mul]
  grind
theorem val_mul {x y : Int × Int} (hx : x.2 ≠ 0) (hy : y.2 ≠ 0) : ((x.1 * y.1 : Int) : Rat) / ((x.2 * y.2 : Int) : Rat) = val x * val y := by
  have dx := ne_of hx
  have dy := ne_of hy
  unfold val
  rw [Rat.intCast_mul, Rat.intCast_mul]
  grind
theorem val_div {x y : Int × Int} (hx : x.2 ≠ 0) (hy : y.2 ≠ 0) (h0 : y.1 ≠ 0) : ((x.1 * y.2 : Int) : Rat) / ((x.2 * y.1 : Int) : Rat) = val x / val y := by
  have dx := ne_of hx
  have dy := ne_of hy
  have d0 := ne_of h0
  unfold val
  rw [Rat.intCast_mul, Rat.intCast_mul]
  grind
theorem pk_add {a b : Nat} {x y : Int × Int} (hx : Pk a x) (hy : Pk b y) : Pk (a + b + 1) (x.1 * y.2 + y.1 * x.2, x.2 * y.2) := by
  have h1 := pk_prod hx.2.1 hy.2.2
  have h2 := pk_prod hy.2.1 hx.2.2
  have h3 := pk_prod hx.2.2 hy.2.2
  have h4 := Int.natAbs_add_le (x.1 * y.2) (y.1 * x.2)
  have e : (10 : Nat) ^ (a + b + 1) = 10 * 10 ^ (a + b) := by rw [Nat.pow_succ, Nat.mul_comm]
  rw [Nat.add_comm b a] at h2
  exact ⟨Int.mul_pos hx.1 hy.1, by dsimp only; omega, by dsimp only; omega⟩
theorem pk_neg {a : Nat} {x : Int × Int} (hx : Pk a x) : Pk a (-x.1, x.2) := ⟨hx.1, by rw [Int.natAbs_neg]; exact hx.2.1, hx.2.2⟩
theorem val_neg {x : Int × Int} : val (-x.1, x.2) = -val x := by
  unfold val
  rw [Rat.intCast_neg, Rat.div_def, Rat.div_def]
  grind
theorem Sz.add {a b : Nat} {p q : Rat} (hp : Sz a p) (hq : Sz b q) : Sz (a + b + 1) (p + q) := by
  have h := Sz_of (pk_add hp hq)
  have e : val ((ofR p).1 * (ofR q).2 + (ofR q).1 * (ofR p).2, (ofR p).2 * (ofR q).2) = p + q := by
    have := val_add (x := ofR p) (y := ofR q) (by have := hp.1; omega) (by have := hq.1; omega)
    rw [val_ofR, val_ofR] at this
    exact this
  rw [e] at h
  exact h
theorem neg_ofR (q : Rat) : ofR (-q) = (-(ofR q).1, (ofR q).2) := rfl
theorem Sz.neg {a : Nat} {p : Rat} (hp : Sz a p) : Sz a (-p) := by
  unfold Sz
  rw [neg_ofR]
  exact pk_neg hp
theorem Sz.sub {a b : Nat} {p q : Rat} (hp : Sz a p) (hq : Sz b q) : Sz (a + b + 1) (p - q) := by
  rw [Rat.sub_eq_add_neg]
  exact hp.add hq.neg
theorem Sz.mul {a b : Nat} {p q : Rat} (hp : Sz a p) (hq : Sz b q) : Sz (a + b) (p * q) := by
  have h : Pk (a + b) ((ofR p).1 * (ofR q).1, (ofR p).2 * (ofR q).2) := ⟨Int.mul_pos hp.1 hq.1, pk_prod hp.2.1 hq.2.1, pk_prod hp.2.2 hq.2.2⟩
  have h := Sz_of h
  have e : val ((ofR p).1 * (ofR q).1, (ofR p).2 * (ofR q).2) = p * q := by
    have := val_mul (x := ofR p) (y := ofR q) (by have := hp.1; omega) (by have := hq.1; omega)
    rw [val_ofR, val_ofR] at this
    exact this
  rw [e] at h
  exact h
theorem num_ne {q : Rat} (h : q ≠ 0) : (ofR q).1 ≠ 0 := fun z => h (by
  have e := rat_self q
  rw [show q.num = 0 from z] at e
  rw [e, Rat.div_def]
  exact Rat.zero_mul _)
theorem Sz.inv {a : Nat} {p : Rat} (hp : Sz a p) (h0 : p ≠ 0) : Sz a p⁻¹ := by
  have n0 := num_ne h0
  have dp := den_ne p
  have hp' := hp
  by_cases c : 0 < (ofR p).1
  · have h : Pk a ((ofR p).2, (ofR p).1) := ⟨c, hp.2.2, hp.2.1⟩
    have h := Sz_of h
    have e : val ((ofR p).2, (ofR p).1) = p⁻¹ := by
      have e := rat_self p
      have := ne_of n0
      unfold val ofR
      try dsimp only
      conv => rhs; rw [e]
      unfold ofR at this
      grind
    rw [e] at h
    exact h
  · have h : Pk a (-(ofR p).2, -(ofR p).1) := ⟨by dsimp only; omega, by rw [Int.natAbs_neg]; exact hp.2.2, by rw [Int.natAbs_neg]; exact hp.2.1⟩
    have h := Sz_of h
    have e : val (-(ofR p).2, -(ofR p).1) = p⁻¹ := by
      have e := rat_self p
      have := ne_of n0
      unfold val ofR
      try dsimp only
      rw [Rat.intCast_neg, Rat.intCast_neg]
      conv => rhs; rw [e]
      unfold ofR at this
      grind
    rw [e] at h
    exact h
theorem Sz.div {a b : Nat} {p q : Rat} (hp : Sz a p) (hq : Sz b q) (h0 : q ≠ 0) : Sz (a + b) (p / q) := by
  rw [Rat.div_def]
  exact hp.mul (hq.inv h0)
/-! ### the module's operations -/
theorem mulC_big {x y : Int} (hx : x.natAbs < 10 ^ 900) (hy : y.natAbs < 10 ^ 900) : mulC x y = some (x * y) := by
  have b : (10 : Nat) ^ 900 < 2 ^ 3000 := by decide
  rw [mulC_eq, if_pos]
  unfold mulOk
  simp only [Bool.or_eq_true, Bool.and_eq_true, decide_eq_true_eq]
  first
    | exact .inr ⟨Nat.lt_of_lt_of_le (Nat.lt_trans hx b) (Nat.pow_le_pow_right (by omega) (by omega)), Nat.lt_of_lt_of_le (Nat.lt_trans hy b) (Nat.pow_le_pow_right (by omega) (by omega))⟩
    | omega
theorem fdiv_neg_gcd {n : Int} {g : Nat} (hg : 0 < g) (h : (g : Int) ∣ n) : n.fdiv (-(g : Int)) = -(n / (g : Int)) := by
  obtain ⟨k, rfl⟩ := h
  rw [Int.mul_ediv_cancel_left _ (by omega), show (g : Int) * k = (-k) * (-(g : Int)) by grind, Int.mul_fdiv_cancel _ (by omega)]
theorem fr_neg {n d : Int} : ((-n : Int) : Rat) / ((-d : Int) : Rat) = (n : Rat) / (d : Rat) := by
  rw [Rat.intCast_neg, Rat.intCast_neg]
  by_cases h : (d : Rat) = 0
  · rw [h]; grind
  · grind
noncomputable def fractionS (n d : Int) : Option (Int × Int) := (divisorF (n.natAbs : Int) (d.natAbs : Int)).bind fun t0 =>
  (if decide (d < 0) = true then some (Out.nx (n, d, -t0, ()))
    else some (Out.nx (n, d, t0, ())) : Option (Out (Int × Int × Int × PUnit) PUnit (Int × Int))).bind fun o => match o with
  | .nx (n, d, divisor, _) => (divS n divisor).bind fun t1 =>
    (divS d divisor).bind fun t2 =>
    some (t1, t2)
  | .bk s3 => none
  | .ct s4 => none
  | .rt r => some r
theorem prod_sm {n d : Int} (hn : n.natAbs < 10 ^ 1900) (hd : d.natAbs < 10 ^ 1900) : ((n.natAbs : Int) * (d.natAbs : Int)) < 2 ^ 14000 := by
  have : n.natAbs * d.natAbs < 2 ^ 14000 := Nat.lt_of_lt_of_le (Nat.mul_lt_mul'' hn hd) (by decide)
  have h2 : ((n.natAbs * d.natAbs : Nat) : Int) < ((2 ^ 14000 : Nat) : Int) := by omega
  rw [Int.natCast_mul] at h2
  exact h2
theorem fractionS_ok {n d : Int} (hd : d ≠ 0) (hn : n.natAbs < 10 ^ 1900) (hd2 : d.natAbs < 10 ^ 1900) : fractionS n d = some (ofR ((n : Rat) / (d : Rat))) := by
  have h0 : 0 < Nat.gcd n.natAbs d.natAbs := Nat.gcd_pos_of_pos_right _ (by omega)
  have h1 : Nat.gcd n.natAbs d.natAbs ≤ d.natAbs := Nat.gcd_le_right _ (by omega)
  have hb : d.natAbs < 2 ^ 9000 := Nat.lt_of_lt_of_le hd2 (by decide)
  have v1 : ((Nat.gcd n.natAbs d.natAbs : Nat) : Int) ∣ n := Int.ofNat_dvd_left.mpr (Nat.gcd_dvd_left ..)
  have v2 : ((Nat.gcd n.natAbs d.natAbs : Nat) : Int) ∣ d := Int.ofNat_dvd_left.mpr (Nat.gcd_dvd_right ..)
  unfold fractionS
  rw [divisorF_ok (by omega) (by omega) (by omega) (N := 14000) (Nat.lt_of_lt_of_le (show 14001 < 10 ^ 5 by decide) (Nat.pow_le_pow_right (by omega) (by omega))) (prod_sm hn hd2), Option.bind_some, Int.toNat_natCast, Int.toNat_natCast]
  by_cases c : d < 0
  · have hc : -((Nat.gcd n.natAbs d.natAbs : Nat) : Int) ≠ 0 ∧ (-((Nat.gcd n.natAbs d.natAbs : Nat) : Int)).natAbs < 2 ^ 9000 := ⟨by omega, Nat.lt_of_le_of_lt (by omega) hb⟩
    rw [decide_eq_true c, if_pos rfl, Option.bind_some]
    try dsimp only
    rw [divS_eq, if_pos hc, Option.bind_some, divS_eq, if_pos hc, Option.bind_some, fdiv_neg_gcd h0 v1, fdiv_neg_gcd h0 v2, ← fr_neg, fr_eq (by omega), Int.natAbs_neg, Int.natAbs_neg, Int.neg_ediv_of_dvd v1, Int.neg_ediv_of_dvd v2]
  · have hc : ((Nat.gcd n.natAbs d.natAbs : Nat) : Int) ≠ 0 ∧ ((Nat.gcd n.natAbs d.natAbs : Nat) : Int).natAbs < 2 ^ 9000 := ⟨by omega, Nat.lt_of_le_of_lt (by omega) hb⟩
    rw [decide_eq_false c, if_neg (by simp), Option.bind_some]
    try dsimp only
    rw [divS_eq, if_pos hc, Option.bind_some, divS_eq, if_pos hc, Option.bind_some, fr_eq (by omega), Int.fdiv_eq_ediv_of_nonneg _ (by omega), Int.fdiv_eq_ediv_of_nonneg _ (by omega)]
theorem ratioF_ok {n d : Int} (hn : 0 ≤ n) (hd : 0 < d) (hn2 : n.natAbs < 10 ^ 1900) (hd2 : d.natAbs < 10 ^ 1900) : divisorF n d = some ((Nat.gcd n.natAbs d.natAbs : Nat) : Int) := by
  have := divisorF_ok (a := n) (b := d) hn (by omega) (by omega) (N := 14000) (Nat.lt_of_lt_of_le (show 14001 < 10 ^ 5 by decide) (Nat.pow_le_pow_right (by omega) (by omega))) (by
    have := prod_sm hn2 hd2
    rw [show ((n.natAbs : Nat) : Int) = n by omega, show ((d.natAbs : Nat) : Int) = d by omega] at this
    exact this)
  rw [this, show n.toNat = n.natAbs by omega, show d.toNat = d.natAbs by omega]
/-- the laws' own ratio: n over d, d not 0 -/
noncomputable def ratioS (n d : Int) : Option (Int × Int) := (if decide (d < 0) = true then some (Out.nx (-n, -d, (), ()))
    else some (Out.nx (n, d, (), ())) : Option (Out (Int × Int × PUnit × PUnit) PUnit (Int × Int))).bind fun o => match o with
  | .nx (n, d, _, _) => (divisorF ((↑(Int.natAbs n) : Int)) d).bind fun t0 =>
    (divC n t0).bind fun t1 =>
    (divC d t0).bind fun t2 =>
    some (t1, t2)
  | .bk s3 => none
  | .ct s4 => none
  | .rt r => some r
theorem ratioS_ok {n d : Int} (hd : d ≠ 0) (hn : n.natAbs < 10 ^ 1900) (hd2 : d.natAbs < 10 ^ 1900) : ratioS n d = some (ofR ((n : Rat) / (d : Rat))) := by
  have core : ∀ n d : Int, 0 < d → n.natAbs < 10 ^ 1900 → d.natAbs < 10 ^ 1900 → ((divisorF ((↑(Int.natAbs n) : Int)) d).bind fun t0 => (divC n t0).bind fun t1 => (divC d t0).bind fun t2 => some (t1, t2)) = some (ofR ((n : Rat) / (d : Rat))) := by
    intro n d hd hn hd2
    have h0 : 0 < Nat.gcd n.natAbs d.natAbs := Nat.gcd_pos_of_pos_right _ (by omega)
    have h1 : Nat.gcd n.natAbs d.natAbs ≤ d.natAbs := Nat.gcd_le_right _ (by omega)
    have hb : d.natAbs < 2 ^ 9000 := Nat.lt_of_lt_of_le hd2 (by decide)
    have hc : 0 < ((Nat.gcd n.natAbs d.natAbs : Nat) : Int) ∧ ((Nat.gcd n.natAbs d.natAbs : Nat) : Int).natAbs < 2 ^ 9000 := ⟨by omega, Nat.lt_of_le_of_lt (by omega) hb⟩
    rw [ratioF_ok (by omega) hd (by simpa using hn) hd2, Option.bind_some, Int.natAbs_natCast, divC_eq, if_pos hc, Option.bind_some, divC_eq, if_pos hc, Option.bind_some, fr_eq hd]
  unfold ratioS
  by_cases c : d < 0
  · rw [decide_eq_true c, if_pos rfl, Option.bind_some]
    try dsimp only
    rw [core (-n) (-d) (by omega) (by rw [Int.natAbs_neg]; exact hn) (by rw [Int.natAbs_neg]; exact hd2), fr_neg]
  · rw [decide_eq_false c, if_neg (by simp), Option.bind_some]
    try dsimp only
    rw [core n d (by omega) hn hd2]
theorem e1900 : (10 : Nat) ^ 1900 = 10 ^ 1800 * 10 ^ 100 := by rw [← Nat.pow_add]
theorem two900 {x y : Int} (hx : x.natAbs < 10 ^ 900) (hy : y.natAbs < 10 ^ 900) : (x * y).natAbs < 10 ^ 1800 := pk_prod hx hy
theorem wp_plus {F : Int → Int → Option (Int × Int)} (hF : ∀ {n d : Int}, d ≠ 0 → n.natAbs < 10 ^ 1900 → d.natAbs < 10 ^ 1900 → F n d = some (ofR ((n : Rat) / (d : Rat)))) {x y : Int × Int} (hx : Pk 900 x) (hy : Pk 900 y) :
    ((mulC x.1 y.2).bind fun t0 => (mulC y.1 x.2).bind fun t1 => (mulC x.2 y.2).bind fun t2 => (F (t0 + t1) t2).bind fun (t3, d4) => some (t3, d4)) = some (ofR (val x + val y)) := by
  have a1 := two900 hx.2.1 hy.2.2
  have a2 := two900 hy.2.1 hx.2.2
  have a3 := two900 hx.2.2 hy.2.2
  have := Int.natAbs_add_le (x.1 * y.2) (y.1 * x.2)
  have := e1900
  rw [mulC_big hx.2.1 hy.2.2, Option.bind_some, mulC_big hy.2.1 hx.2.2, Option.bind_some, mulC_big hx.2.2 hy.2.2, Option.bind_some, hF (by have := Int.mul_pos hx.1 hy.1; omega) (by omega) (by omega), val_add (by have := hx.1; omega) (by have := hy.1; omega)]
  rfl
theorem wp_minus {F : Int → Int → Option (Int × Int)} (hF : ∀ {n d : Int}, d ≠ 0 → n.natAbs < 10 ^ 1900 → d.natAbs < 10 ^ 1900 → F n d = some (ofR ((n : Rat) / (d : Rat)))) {x y : Int × Int} (hx : Pk 900 x) (hy : Pk 900 y) :
    ((mulC x.1 y.2).bind fun t0 => (mulC y.1 x.2).bind fun t1 => (mulC x.2 y.2).bind fun t2 => (F (t0 - t1) t2).bind fun (t3, d4) => some (t3, d4)) = some (ofR (val x - val y)) := by
  have a1 := two900 hx.2.1 hy.2.2
  have a2 := two900 hy.2.1 hx.2.2
  have a3 := two900 hx.2.2 hy.2.2
  have := Int.natAbs_sub_le (x.1 * y.2) (y.1 * x.2)
  have := e1900
  rw [mulC_big hx.2.1 hy.2.2, Option.bind_some, mulC_big hy.2.1 hx.2.2, Option.bind_some, mulC_big hx.2.2 hy.2.2, Option.bind_some, hF (by have := Int.mul_pos hx.1 hy.1; omega) (by omega) (by omega), val_sub (by have := hx.1; omega) (by have := hy.1; omega)]
  rfl
theorem wp_times {F : Int → Int → Option (Int × Int)} (hF : ∀ {n d : Int}, d ≠ 0 → n.natAbs < 10 ^ 1900 → d.natAbs < 10 ^ 1900 → F n d = some (ofR ((n : Rat) / (d : Rat)))) {x y : Int × Int} (hx : Pk 900 x) (hy : Pk 900 y) :
    ((mulC x.1 y.1).bind fun t0 => (mulC x.2 y.2).bind fun t1 => (F t0 t1).bind fun (t2, d3) => some (t2, d3)) = some (ofR (val x * val y)) := by
  have a1 := two900 hx.2.1 hy.2.1
  have a3 := two900 hx.2.2 hy.2.2
  have := e1900
  rw [mulC_big hx.2.1 hy.2.1, Option.bind_some, mulC_big hx.2.2 hy.2.2, Option.bind_some, hF (by have := Int.mul_pos hx.1 hy.1; omega) (by omega) (by omega), val_mul (by have := hx.1; omega) (by have := hy.1; omega)]
  rfl
theorem wp_over {F : Int → Int → Option (Int × Int)} (hF : ∀ {n d : Int}, d ≠ 0 → n.natAbs < 10 ^ 1900 → d.natAbs < 10 ^ 1900 → F n d = some (ofR ((n : Rat) / (d : Rat)))) {x y : Int × Int} (hx : Pk 900 x) (hy : Pk 900 y) (h0 : y.1 ≠ 0) :
    ((mulC x.1 y.2).bind fun t0 => (mulC x.2 y.1).bind fun t1 => (F t0 t1).bind fun (t2, d3) => some (t2, d3)) = some (ofR (val x / val y)) := by
  have a1 := two900 hx.2.1 hy.2.2
  have a3 := two900 hx.2.2 hy.2.1
  have := e1900
  rw [mulC_big hx.2.1 hy.2.2, Option.bind_some, mulC_big hx.2.2 hy.2.1, Option.bind_some, hF (Int.mul_ne_zero (by have := hx.1; omega) h0) (by omega) (by omega), val_div (by have := hx.1; omega) (by have := hy.1; omega) h0]
  rfl
theorem val_lt {x y : Int × Int} (hx : 0 < x.2) (hy : 0 < y.2) : (x.1 * y.2 < y.1 * x.2) ↔ val x < val y := by
  have px : (0 : Rat) < (x.2 : Rat) := by exact_mod_cast hx
  have py : (0 : Rat) < (y.2 : Rat) := by exact_mod_cast hy
  unfold val
  rw [Rat.div_lt_iff px, show (y.1 : Rat) / (y.2 : Rat) * (x.2 : Rat) = ((y.1 : Rat) * (x.2 : Rat)) / (y.2 : Rat) by grind, Rat.lt_div_iff py]
  exact ⟨fun h => by exact_mod_cast h, fun h => by exact_mod_cast h⟩
theorem wp_less {x y : Int × Int} (hx : Pk 900 x) (hy : Pk 900 y) : ((mulC x.1 y.2).bind fun t0 => (mulC y.1 x.2).bind fun t1 => some (decide (t0 < t1))) = some (decide (val x < val y)) := by
  rw [mulC_big hx.2.1 hy.2.2, Option.bind_some, mulC_big hy.2.1 hx.2.2, Option.bind_some]
  exact congrArg some (decide_eq_decide.mpr (val_lt hx.1 hy.1))
/-- without a sign -/
def rabs (q : Rat) : Rat := if q < 0 then -q else q
theorem num_neg {q : Rat} : q.num < 0 ↔ q < 0 := by
  rw [Rat.lt_iff]
  show _ ↔ q.num * ((1 : Nat) : Int) < 0 * _
  omega
theorem rabs_pair (q : Rat) : (((q.num.natAbs : Nat) : Int), (q.den : Int)) = ofR (rabs q) := by
  unfold rabs
  by_cases c : q < 0
  · rw [if_pos c, neg_ofR]
    have := num_neg.mpr c
    refine Prod.ext ?_ rfl
    show ((q.num.natAbs : Nat) : Int) = -q.num
    omega
  · rw [if_neg c]
    have : ¬ q.num < 0 := fun z => c (num_neg.mp z)
    refine Prod.ext ?_ rfl
    show ((q.num.natAbs : Nat) : Int) = q.num
    omega
theorem Sz.abs {k : Nat} {q : Rat} (h : Sz k q) : Sz k (rabs q) := by
  unfold rabs
  split
  · exact h.neg
  · exact h
theorem rabs_nn (q : Rat) : 0 ≤ rabs q := by
  unfold rabs
  split <;> grind
end L3

namespace Wk78
open PySem PySem.Spec PyProof.Rows L2 L3
def topS (i : Nat) : Stmt := PySem.Challenge.pw_sentintime_k78_whole_words_heard_once.main.body.getD i (.Pass ⟨0, 0, 0, 0⟩)
abbrev s_often : Stmt := topS 1
abbrev s_heard_by : Stmt := topS 2
abbrev s_sets_by_size : Stmt := topS 3
abbrev s_fewest_groups : Stmt := topS 4
abbrev s_just_these : Stmt := topS 5
abbrev s_each_once : Stmt := topS 6
abbrev s_twice_by : Stmt := topS 7
abbrev s_needless_sent : Stmt := topS 8
abbrev s_law_draws : Stmt := topS 10
abbrev s_law_take : Stmt := topS 11
abbrev s_law_same : Stmt := topS 12
abbrev s_law_size : Stmt := topS 13
abbrev s_law_groups : Stmt := topS 14
abbrev s_law_counts : Stmt := topS 15
abbrev s_law_sets : Stmt := topS 16
abbrev s_law_sent_right : Stmt := topS 17
abbrev s_law_told_right : Stmt := topS 18
abbrev s_law_more_right : Stmt := topS 19
abbrev s_law : Stmt := topS 20
/-- what the top leaves: where each def stands, that the built-ins are what they are -/
structure Txt (K : Fg) (mg : Str → Option Value) where
  (a_often : Addr) (d_often : FuncData) (F_often : Fun K "often" "often" s_often a_often d_often) (m_often : mg "often" = some (.ref a_often)) (b_often : Binds K d_often ["groups", "sent"] [])
  (a_heard_by : Addr) (d_heard_by : FuncData) (F_heard_by : Fun K "heard_by" "heard_by" s_heard_by a_heard_by d_heard_by) (m_heard_by : mg "heard_by" = some (.ref a_heard_by)) (b_heard_by : Binds K d_heard_by ["groups", "sent"] [])
  (a_sets_by_size : Addr) (d_sets_by_size : FuncData) (F_sets_by_size : Fun K "sets_by_size" "sets_by_size" s_sets_by_size a_sets_by_size d_sets_by_size) (m_sets_by_size : mg "sets_by_size" = some (.ref a_sets_by_size)) (b_sets_by_size : Binds K d_sets_by_size ["many"] [])
  (a_fewest_groups : Addr) (d_fewest_groups : FuncData) (F_fewest_groups : Fun K "fewest_groups" "fewest_groups" s_fewest_groups a_fewest_groups d_fewest_groups) (m_fewest_groups : mg "fewest_groups" = some (.ref a_fewest_groups)) (b_fewest_groups : Binds K d_fewest_groups ["groups", "wanted"] [])
  (a_just_these : Addr) (d_just_these : FuncData) (F_just_these : Fun K "just_these" "just_these" s_just_these a_just_these d_just_these) (m_just_these : mg "just_these" = some (.ref a_just_these)) (b_just_these : Binds K d_just_these ["groups", "wanted"] [])
  (a_each_once : Addr) (d_each_once : FuncData) (F_each_once : Fun K "each_once" "each_once" s_each_once a_each_once d_each_once) (m_each_once : mg "each_once" = some (.ref a_each_once)) (b_each_once : Binds K d_each_once ["groups", "wanted"] [])
  (a_twice_by : Addr) (d_twice_by : FuncData) (F_twice_by : Fun K "twice_by" "twice_by" s_twice_by a_twice_by d_twice_by) (m_twice_by : mg "twice_by" = some (.ref a_twice_by)) (b_twice_by : Binds K d_twice_by ["groups", "sent"] [])
  (a_needless_sent : Addr) (d_needless_sent : FuncData) (F_needless_sent : Fun K "needless_sent" "needless_sent" s_needless_sent a_needless_sent d_needless_sent) (m_needless_sent : mg "needless_sent" = some (.ref a_needless_sent)) (b_needless_sent : Binds K d_needless_sent ["groups", "sent"] [])
  (a_law_draws : Addr) (d_law_draws : FuncData) (F_law_draws : Fun K "_law_draws" "_law_draws" s_law_draws a_law_draws d_law_draws) (m_law_draws : mg "_law_draws" = some (.ref a_law_draws)) (b_law_draws : Binds K d_law_draws ["script", "many"] [])
  (a_law_take : Addr) (d_law_take : FuncData) (F_law_take : Fun K "_law_take" "_law_take" s_law_take a_law_take d_law_take) (m_law_take : mg "_law_take" = some (.ref a_law_take)) (b_law_take : Binds K d_law_take ["draws", "many"] [])
  (a_law_same : Addr) (d_law_same : FuncData) (F_law_same : Fun K "_law_same" "_law_same" s_law_same a_law_same d_law_same) (m_law_same : mg "_law_same" = some (.ref a_law_same)) (b_law_same : Binds K d_law_same ["actual", "due"] [])
  (a_law_size : Addr) (d_law_size : FuncData) (F_law_size : Fun K "_law_size" "_law_size" s_law_size a_law_size d_law_size) (m_law_size : mg "_law_size" = some (.ref a_law_size)) (b_law_size : Binds K d_law_size ["draws", "script"] [])
  (a_law_groups : Addr) (d_law_groups : FuncData) (F_law_groups : Fun K "_law_groups" "_law_groups" s_law_groups a_law_groups d_law_groups) (m_law_groups : mg "_law_groups" = some (.ref a_law_groups)) (b_law_groups : Binds K d_law_groups ["draws", "many"] [])
  (a_law_counts : Addr) (d_law_counts : FuncData) (F_law_counts : Fun K "_law_counts" "_law_counts" s_law_counts a_law_counts d_law_counts) (m_law_counts : mg "_law_counts" = some (.ref a_law_counts)) (b_law_counts : Binds K d_law_counts ["groups", "sent"] [])
  (a_law_sets : Addr) (d_law_sets : FuncData) (F_law_sets : Fun K "_law_sets" "_law_sets" s_law_sets a_law_sets d_law_sets) (m_law_sets : mg "_law_sets" = some (.ref a_law_sets)) (b_law_sets : Binds K d_law_sets ["many"] [])
  (a_law_sent_right : Addr) (d_law_sent_right : FuncData) (F_law_sent_right : Fun K "_law_sent_right" "_law_sent_right" s_law_sent_right a_law_sent_right d_law_sent_right) (m_law_sent_right : mg "_law_sent_right" = some (.ref a_law_sent_right)) (b_law_sent_right : Binds K d_law_sent_right ["draws", "groups"] [])
  (a_law_told_right : Addr) (d_law_told_right : FuncData) (F_law_told_right : Fun K "_law_told_right" "_law_told_right" s_law_told_right a_law_told_right d_law_told_right) (m_law_told_right : mg "_law_told_right" = some (.ref a_law_told_right)) (b_law_told_right : Binds K d_law_told_right ["groups", "wanted"] [])
  (a_law_more_right : Addr) (d_law_more_right : FuncData) (F_law_more_right : Fun K "_law_more_right" "_law_more_right" s_law_more_right a_law_more_right d_law_more_right) (m_law_more_right : mg "_law_more_right" = some (.ref a_law_more_right)) (b_law_more_right : Binds K d_law_more_right ["draws", "script", "groups", "wanted"] [])
  (a_law : Addr) (d_law : FuncData) (F_law : Fun K "law" "law" s_law a_law d_law) (m_law : mg "law" = some (.ref a_law)) (b_law : Binds K d_law ["script"] [])
  (n_abs : mg "abs" = none)
  (n_all : mg "all" = none)
  (n_bool : mg "bool" = none)
  (n_dict : mg "dict" = none)
  (n_int : mg "int" = none)
  (n_isinstance : mg "isinstance" = none)
  (n_len : mg "len" = none)
  (n_list : mg "list" = none)
  (n_range : mg "range" = none)
  (n_set : mg "set" = none)
  (n_sorted : mg "sorted" = none)
  (n_str : mg "str" = none)
  (n_sum : mg "sum" = none)
  (n_tuple : mg "tuple" = none)
theorem sc_often : FnScope ["groups", "sent", "counts", "number", "person"] ["groups", "sent"] (defScope s_often) := ⟨rfl, rfl, rfl, by decide +kernel, rfl, by decide +kernel, by decide +kernel⟩
abbrev L_often_0 : List L3.Loc := [lImm (tAll (tAll tInt)), lImm (tAll tInt), lNone, lNone, lNone]
abbrev L_often_1 : List L3.Loc := [lImm (tAll (tAll tInt)), lImm (tAll tInt), lOwn (oDict kInt tInt) none, lNone, lNone]
abbrev L_often_2 : List L3.Loc := [lImm (tAll (tAll tInt)), lImm (tAll tInt), lOwn (oDict kInt tInt) none, lImm tInt, lNone]
abbrev L_often_3 : List L3.Loc := [lImm (tAll (tAll tInt)), lImm (tAll tInt), lOwn (oDict kInt tInt) none, lImm tInt, lImm tInt]
set_option maxHeartbeats 8000000 in
/-- def often(groups, sent): -/
noncomputable def D_often : { m : Ms (L_often_0) [] [] (rsO (oDict kInt tInt)) // ∀ {P : Program} {w : World} {K : Fg} {mg : Str → Option Value} {base : Heap} (T : Txt K mg) (cdv : Value) (A : Around) (outer : List PySem.Env) (s : Shared) (H : Hp) (E : XK), Room 0 (A.deeper (envOfC "often" (defScope s_often) s.heap.objs.size T.a_often cdv)) →
    PSs (cxOf CX0 P w K mg base ["groups", "sent", "counts", "number", "person"] "often" (defScope s_often) T.a_often cdv A outer s H E).nox (defBody s_often) (tS K (L_often_0) [] [] (rsO (oDict kInt tInt)) (m)) } :=
  ⟨_, fun {P w K mg base} T cdv A outer s H E hr =>
    have h : PSs (cxOf CX0 P w K mg base ["groups", "sent", "counts", "number", "person"] "often" (defScope s_often) T.a_often cdv A outer s H E).nox (defBody s_often) (tS K (L_often_0) [] [] (rsO (oDict kInt tInt)) _) :=
    (y_cons (La := L_often_1) (y_asgO (.s (.s .z)) sc_often.nd rfl (by first | exact .inl rfl | exact .inr rfl) (y_dnew (d := kInt) (U := tInt)))
      (y_cons (La := L_often_1) (y_for (vs := [3]) (Lb := L_often_2) PassesOwn.never rfl (i_tup (v_ (.s .z))) (g_name (i := 3) (.s (.s (.s .z))) (by exact sc_often.nd) rfl (by first | exact .inl rfl | exact .inr rfl))
       (y_cons (La := L_often_2) (y_for (vs := [4]) (Lb := L_often_3) PassesOwn.never rfl (i_tup (y_ix ix_tup ix_t (v_ .z) (v_ (.s (.s (.s .z)))))) (g_name (i := 4) (.s (.s (.s (.s .z)))) (by exact sc_often.nd) rfl (by first | exact .inl rfl | exact .inr rfl))
       (y_cons (La := L_often_3) (y_dput hr.units65 kInt (.s (.s .z)) (y_binT op_add o_add (y_dgt2O hr.units65 kInt (.s (.s .z)) (v_ (.s (.s (.s (.s .z))))) y_int) y_int) (v_ (.s (.s (.s (.s .z))))))
      (y_fg (La := L_often_2) (.s (.s (.s (.s .z)))) y_nil)))
      (y_fg (La := L_often_1) (.s (.s (.s .z))) y_nil)))
      (y_one (y_retN (.s (.s .z)) rfl (by first | exact .inl rfl | exact .inr (.inl rfl) | exact .inr (.inr rfl))))))
    (by exact h)⟩
noncomputable def m_often (y : (List (List Int)) × (List Int)) : Option (List (Int × Int)) := D_often.1 _ ((y.1, y.2, (), (), (), ()) : Env L_often_0) retO
theorem ok_often {P : Program} {w : World} {K : Fg} {mg : Str → Option Value} {base : Heap} (T : Txt K mg) : FnOk P w K mg base CX0 1 T.a_often T.d_often ["groups", "sent"] (spO K (rCons (tAll (tAll tInt)) (rOne (tAll tInt))) (oDict kInt tInt) m_often) :=
  fnO (k := 0) (L := L_often_0) (L' := []) (m := D_often.1) (fun y => (y.1, y.2, (), (), (), ())) T.F_often sc_often hs2 (pars2 (n := 3) rfl) (fun _ => rfl) (fun cdv A outer s H E hr => D_often.2 T cdv A outer s H E hr)
theorem sc_heard_by : FnScope ["groups", "sent", "counts", "person"] ["groups", "sent"] (defScope s_heard_by) := ⟨rfl, rfl, rfl, by decide +kernel, rfl, by decide +kernel, by decide +kernel⟩
abbrev L_heard_by_0 : List L3.Loc := [lImm (tAll (tAll tInt)), lImm (tAll tInt), lNone, lNone]
abbrev L_heard_by_1 : List L3.Loc := [lImm (tAll (tAll tInt)), lImm (tAll tInt), lImm (tDict kInt tInt), lNone]
abbrev L_heard_by_2 : List L3.Loc := [lImm (tAll (tAll tInt)), lImm (tAll tInt), lImm (tDict kInt tInt), lImm tInt]
set_option maxHeartbeats 8000000 in
/-- def heard_by(groups, sent): -/
noncomputable def D_heard_by : { m : Ms (L_heard_by_0) [] [] (rsT (tAllD (tTup (rCons tInt (rOne tInt))))) // ∀ {P : Program} {w : World} {K : Fg} {mg : Str → Option Value} {base : Heap} (T : Txt K mg) (cdv : Value) (A : Around) (outer : List PySem.Env) (s : Shared) (H : Hp) (E : XK), Room 1 (A.deeper (envOfC "heard_by" (defScope s_heard_by) s.heap.objs.size T.a_heard_by cdv)) →
    PSs (cxOf CX0 P w K mg base ["groups", "sent", "counts", "person"] "heard_by" (defScope s_heard_by) T.a_heard_by cdv A outer s H E).nox (defBody s_heard_by) (tS K (L_heard_by_0) [] [] (rsT (tAllD (tTup (rCons tInt (rOne tInt))))) (m)) } :=
  ⟨_, fun {P w K mg base} T cdv A outer s H E hr =>
    have h : PSs (cxOf CX0 P w K mg base ["groups", "sent", "counts", "person"] "heard_by" (defScope s_heard_by) T.a_heard_by cdv A outer s H E).nox (defBody s_heard_by) (tS K (L_heard_by_0) [] [] (rsT (tAllD (tTup (rCons tInt (rOne tInt))))) _) :=
    (y_cons (La := L_heard_by_1) (y_asg (.s (.s .z)) sc_heard_by.nd rfl (by first | exact .inl rfl | exact .inr rfl) (y_fz (O := (oDict kInt tInt)) (y_callO (ok_often T) (hr.mono (by decide)) (by rfl) T.m_often T.F_often.kp T.b_often (a_cons (v_ .z) (a_one (v_ (.s .z)))))))
      (y_one (y_ret (y_cT call_tuple_ofX c_tupleX (by rfl) T.n_tuple (by decide +kernel) (a_one (y_fz (O := (oLst (tTup (rCons tInt (rOne tInt))))) (y_comp (own := [("person", 3)]) (vs := [3]) (ws := [3]) (Lw := L_heard_by_1) (Lb := L_heard_by_2) (.keep (by decide) (.keep (by decide) (.keep (by decide) (.non .nil)))) (.keep (by decide) (.keep (by decide) (.keep (by decide) (.imm .nil)))) rfl (by decide) rfl sc_heard_by.nd (i_list (y_fz (O := (oLst tInt)) (y_cBO (call_sortedDI rfl) c_sortD (by rfl) T.n_sorted (by decide +kernel) (a_one (v_ (.s (.s .z))))))) (blkOk_by (own := [("person", 3)]) (N := ["groups", "sent", "counts", "person"]) (sc := defScope s_heard_by) (by decide +kernel)) (fun _ _ _ _ _ => (g_name (i := 3) (.s (.s (.s .z))) (by exact sc_heard_by.nd) rfl (by first | exact .inl rfl | exact .inr rfl))) (fun _ _ _ _ _ => t_nil) (fun _ _ _ _ _ => (y_tup (a_cons (v_ (.s (.s (.s .z)))) (a_one (y_dget hr.units65 kInt (v_ (.s (.s .z))) (v_ (.s (.s (.s .z))))))) hl2)))))))))
    (by exact h)⟩
noncomputable def m_heard_by (y : (List (List Int)) × (List Int)) : Option (List (Int × Int)) := D_heard_by.1 _ ((y.1, y.2, (), (), ()) : Env L_heard_by_0) retO
theorem ok_heard_by {P : Program} {w : World} {K : Fg} {mg : Str → Option Value} {base : Heap} (T : Txt K mg) : FnOk P w K mg base CX0 2 T.a_heard_by T.d_heard_by ["groups", "sent"] (spP K (rCons (tAll (tAll tInt)) (rOne (tAll tInt))) (tAllD (tTup (rCons tInt (rOne tInt)))) m_heard_by) :=
  fnP (k := 1) (L := L_heard_by_0) (L' := []) (m := D_heard_by.1) (fun y => (y.1, y.2, (), (), ())) T.F_heard_by sc_heard_by hs2 (pars2 (n := 2) rfl) (fun _ => rfl) (fun cdv A outer s H E hr => D_heard_by.2 T cdv A outer s H E hr)
theorem sc_sets_by_size : FnScope ["many", "found", "number", "some", "size"] ["many"] (defScope s_sets_by_size) := ⟨rfl, rfl, rfl, by decide +kernel, rfl, by decide +kernel, by decide +kernel⟩
abbrev L_sets_by_size_0 : List L3.Loc := [lImm tInt, lNone, lNone, lNone, lNone]
abbrev L_sets_by_size_1 : List L3.Loc := [lImm tInt, lOwn (oLst (tAll tInt)) none, lNone, lNone, lNone]
abbrev L_sets_by_size_2 : List L3.Loc := [lImm tInt, lOwn (oLst (tAll tInt)) none, lImm tInt, lNone, lNone]
abbrev L_sets_by_size_3 : List L3.Loc := [lImm tInt, lImm (tLst (tAll tInt)), lImm tInt, lNone, lNone]
abbrev L_sets_by_size_4 : List L3.Loc := [lImm tInt, lImm (tLst (tAll tInt)), lImm tInt, lImm (tAll tInt), lNone]
abbrev L_sets_by_size_5 : List L3.Loc := [lImm tInt, lImm (tLst (tAll tInt)), lNone, lNone, lNone]
abbrev L_sets_by_size_6 : List L3.Loc := [lImm tInt, lImm (tLst (tAll tInt)), lNone, lImm (tAll tInt), lNone]
abbrev L_sets_by_size_7 : List L3.Loc := [lImm tInt, lImm (tLst (tAll tInt)), lNone, lNone, lImm tInt]
abbrev L_sets_by_size_8 : List L3.Loc := [lImm tInt, lImm (tLst (tAll tInt)), lNone, lImm (tAll tInt), lImm tInt]
set_option maxHeartbeats 8000000 in
/-- def sets_by_size(many): -/
noncomputable def D_sets_by_size : { m : Ms (L_sets_by_size_0) [] [] (rsT (tLst (tAll tInt))) // ∀ {P : Program} {w : World} {K : Fg} {mg : Str → Option Value} {base : Heap} (T : Txt K mg) (cdv : Value) (A : Around) (outer : List PySem.Env) (s : Shared) (H : Hp) (E : XK), Room 0 (A.deeper (envOfC "sets_by_size" (defScope s_sets_by_size) s.heap.objs.size T.a_sets_by_size cdv)) →
    PSs (cxOf CX0 P w K mg base ["many", "found", "number", "some", "size"] "sets_by_size" (defScope s_sets_by_size) T.a_sets_by_size cdv A outer s H E).nox (defBody s_sets_by_size) (tS K (L_sets_by_size_0) [] [] (rsT (tLst (tAll tInt))) (m)) } :=
  ⟨_, fun {P w K mg base} T cdv A outer s H E hr =>
    have h : PSs (cxOf CX0 P w K mg base ["many", "found", "number", "some", "size"] "sets_by_size" (defScope s_sets_by_size) T.a_sets_by_size cdv A outer s H E).nox (defBody s_sets_by_size) (tS K (L_sets_by_size_0) [] [] (rsT (tLst (tAll tInt))) _) :=
    (y_cons (La := L_sets_by_size_1) (y_asgO (.s .z) sc_sets_by_size.nd rfl (by first | exact .inl rfl | exact .inr rfl) (y_lst (a_consA (y_tupA a_nilA) a_nilA)))
      (y_cons (La := L_sets_by_size_1) (y_for (vs := [2]) (Lb := L_sets_by_size_2) PassesOwn.never rfl (i_range (by rfl) T.n_range (v_ .z)) (g_name (i := 2) (.s (.s .z)) (by exact sc_sets_by_size.nd) rfl (by first | exact .inl rfl | exact .inr rfl))
       (y_cons (La := L_sets_by_size_2) (y_augExt (.s .z) sc_sets_by_size.nd rfl (by first | exact .inl rfl | exact .inr rfl) (y_fz (O := (oLst (tAll tInt))) (y_bo2O (L' := L_sets_by_size_3) (.s .z) (.s .z) (.s .z) (.s .z) rfl rfl (.cons (bt_imm rfl) (.cons (bt_own rfl) (.cons (bt_imm rfl) (.cons bt_none (.cons bt_none .nil))))) (y_comp (own := [("some", 3)]) (vs := [3]) (ws := [3]) (Lw := L_sets_by_size_3) (Lb := L_sets_by_size_4) (.keep (by decide) (.keep (by decide) (.keep (by decide) (.non (.keep (by decide) .nil))))) (.keep (by decide) (.keep (by decide) (.keep (by decide) (.imm (.keep (by decide) .nil))))) rfl (by decide) rfl sc_sets_by_size.nd (i_list (v_ (.s .z))) (blkOk_by (own := [("some", 3)]) (N := ["many", "found", "number", "some", "size"]) (sc := defScope s_sets_by_size) (by decide +kernel)) (fun _ _ _ _ _ => (g_name (i := 3) (.s (.s (.s .z))) (by exact sc_sets_by_size.nd) rfl (by first | exact .inl rfl | exact .inr rfl))) (fun _ _ _ _ _ => t_nil) (fun _ _ _ _ _ => (y_bin op_catA o_catT (v_ (.s (.s (.s .z)))) (y_tupA (a_consA (v_ (.s (.s .z))) a_nilA))))))))
      (y_fg (La := L_sets_by_size_1) (.s (.s .z)) y_nil)))
      (y_lock (La := L_sets_by_size_5) (.s .z) (.s .z) (y_one (y_ret (y_fz (O := (oLst (tAll tInt))) (y_comp (own := [("size", 4), ("some", 3)]) (vs := [4, 3]) (ws := [4, 3]) (Lw := L_sets_by_size_5) (Lb := L_sets_by_size_8) (.keep (by decide) (.keep (by decide) (.keep (by decide) (.non (.non .nil))))) (.keep (by decide) (.keep (by decide) (.keep (by decide) (.imm (.imm .nil))))) rfl (by decide) rfl sc_sets_by_size.nd (i_list (y_fz (O := (oLst (tTup (rCons tInt (rOne (tAll tInt)))))) (y_cBO (cr_sortU (uTup (wCons uInt (wOne (uTup (wAll uInt))))) (.inl fun x => ⟨_, _, rfl⟩) (by decide) hr.units) (c_sortU (uTup (wCons uInt (wOne (uTup (wAll uInt)))))) (by rfl) T.n_sorted (by decide +kernel) (a_one (y_fz (O := (oLst (tTup (rCons tInt (rOne (tAll tInt)))))) (y_comp (own := [("some", 3)]) (vs := [3]) (ws := [3]) (Lw := L_sets_by_size_5) (Lb := L_sets_by_size_6) (.keep (by decide) (.keep (by decide) (.keep (by decide) (.non (.keep (by decide) .nil))))) (.keep (by decide) (.keep (by decide) (.keep (by decide) (.imm (.keep (by decide) .nil))))) rfl (by decide) rfl sc_sets_by_size.nd (i_list (v_ (.s .z))) (blkOk_by (own := [("some", 3)]) (N := ["many", "found", "number", "some", "size"]) (sc := defScope s_sets_by_size) (by decide +kernel)) (fun _ _ _ _ _ => (g_name (i := 3) (.s (.s (.s .z))) (by exact sc_sets_by_size.nd) rfl (by first | exact .inl rfl | exact .inr rfl))) (fun _ _ _ _ _ => t_nil) (fun _ _ _ _ _ => (y_tup (a_cons (y_cB call_len_seq c_lenT (by rfl) T.n_len (by decide +kernel) (a_one (v_ (.s (.s (.s .z)))))) (a_one (v_ (.s (.s (.s .z)))))) hl2)))))))) (blkOk_by (own := [("size", 4), ("some", 3)]) (N := ["many", "found", "number", "some", "size"]) (sc := defScope s_sets_by_size) (by decide +kernel)) (fun _ _ _ _ _ => (g_tup rfl (gs_cons (La := L_sets_by_size_7) (g_name (i := 4) (.s (.s (.s (.s .z)))) (by exact sc_sets_by_size.nd) rfl (by first | exact .inl rfl | exact .inr rfl)) (gs_one (g_name (i := 3) (.s (.s (.s .z))) (by exact sc_sets_by_size.nd) rfl (by first | exact .inl rfl | exact .inr rfl)))) rl2)) (fun _ _ _ _ _ => t_nil) (fun _ _ _ _ _ => (v_ (.s (.s (.s .z))))))))))))
    (by exact h)⟩
noncomputable def m_sets_by_size (y : Int) : Option (List (List Int)) := D_sets_by_size.1 _ ((y, (), (), (), (), ()) : Env L_sets_by_size_0) retO
theorem ok_sets_by_size {P : Program} {w : World} {K : Fg} {mg : Str → Option Value} {base : Heap} (T : Txt K mg) : FnOk P w K mg base CX0 1 T.a_sets_by_size T.d_sets_by_size ["many"] (spP K (rOne tInt) (tLst (tAll tInt)) m_sets_by_size) :=
  fnP (k := 0) (L := L_sets_by_size_0) (L' := []) (m := D_sets_by_size.1) (fun y => (y, (), (), (), (), ())) T.F_sets_by_size sc_sets_by_size hs1 (pars1 (n := 4) rfl) (fun _ => rfl) (fun cdv A outer s H E hr => D_sets_by_size.2 T cdv A outer s H E hr)
theorem sc_fewest_groups : FnScope ["groups", "wanted", "some", "counts", "person"] ["groups", "wanted"] (defScope s_fewest_groups) := ⟨rfl, rfl, rfl, by decide +kernel, rfl, by decide +kernel, by decide +kernel⟩
abbrev L_fewest_groups_0 : List L3.Loc := [lImm (tAll (tAll tInt)), lImm (tAll tInt), lNone, lNone, lNone]
abbrev L_fewest_groups_1 : List L3.Loc := [lImm (tAll (tAll tInt)), lImm (tAll tInt), lImm (tAll tInt), lNone, lNone]
abbrev L_fewest_groups_2 : List L3.Loc := [lImm (tAll (tAll tInt)), lImm (tAll tInt), lImm (tAll tInt), lImm (tDict kInt tInt), lNone]
abbrev L_fewest_groups_3 : List L3.Loc := [lImm (tAll (tAll tInt)), lImm (tAll tInt), lImm (tAll tInt), lImm (tDict kInt tInt), lImm tInt]
abbrev L_fewest_groups_4 : List L3.Loc := [lImm (tAll (tAll tInt)), lImm (tAll tInt), lNone, lImm (tDict kInt tInt), lNone]
set_option maxHeartbeats 8000000 in
/-- def fewest_groups(groups, wanted): -/
noncomputable def D_fewest_groups : { m : Ms (L_fewest_groups_0) [] [] (rsT (tOpt (tAll tInt))) // ∀ {P : Program} {w : World} {K : Fg} {mg : Str → Option Value} {base : Heap} (T : Txt K mg) (cdv : Value) (A : Around) (outer : List PySem.Env) (s : Shared) (H : Hp) (E : XK), Room 1 (A.deeper (envOfC "fewest_groups" (defScope s_fewest_groups) s.heap.objs.size T.a_fewest_groups cdv)) →
    PSs (cxOf CX0 P w K mg base ["groups", "wanted", "some", "counts", "person"] "fewest_groups" (defScope s_fewest_groups) T.a_fewest_groups cdv A outer s H E).nox (defBody s_fewest_groups) (tS K (L_fewest_groups_0) [] [] (rsT (tOpt (tAll tInt))) (m)) } :=
  ⟨_, fun {P w K mg base} T cdv A outer s H E hr =>
    have h : PSs (cxOf CX0 P w K mg base ["groups", "wanted", "some", "counts", "person"] "fewest_groups" (defScope s_fewest_groups) T.a_fewest_groups cdv A outer s H E).nox (defBody s_fewest_groups) (tS K (L_fewest_groups_0) [] [] (rsT (tOpt (tAll tInt))) _) :=
    (y_cons (La := L_fewest_groups_0) (y_for (vs := [2]) (Lb := L_fewest_groups_1) PassesOwn.never rfl (i_list (y_call (ok_sets_by_size T) (hr.mono (by decide)) (by rfl) T.m_sets_by_size T.F_sets_by_size.kp T.b_sets_by_size (a_one (y_cB call_len_seq c_lenT (by rfl) T.n_len (by decide +kernel) (a_one (v_ .z)))))) (g_name (i := 2) (.s (.s .z)) (by exact sc_fewest_groups.nd) rfl (by first | exact .inl rfl | exact .inr rfl))
       (y_cons (La := L_fewest_groups_2) (y_asg (.s (.s (.s .z))) sc_fewest_groups.nd rfl (by first | exact .inl rfl | exact .inr rfl) (y_fz (O := (oDict kInt tInt)) (y_callO (ok_often T) (hr.mono (by decide)) (by rfl) T.m_often T.F_often.kp T.b_often (a_cons (v_ .z) (a_one (v_ (.s (.s .z))))))))
      (y_cons (La := L_fewest_groups_0) (y_if (y_val (y_cB (cr_all rfl) c_all (by rfl) T.n_all (by decide +kernel) (a_one (y_fz (O := (oLst tBool)) (y_comp (own := [("person", 4)]) (vs := [4]) (ws := [4]) (Lw := L_fewest_groups_2) (Lb := L_fewest_groups_3) (.keep (by decide) (.keep (by decide) (.keep (by decide) (.keep (by decide) (.non .nil))))) (.keep (by decide) (.keep (by decide) (.keep (by decide) (.keep (by decide) (.imm .nil))))) rfl (by decide) rfl sc_fewest_groups.nd (i_tup (v_ (.s .z))) (blkOk_by (own := [("person", 4)]) (N := ["groups", "wanted", "some", "counts", "person"]) (sc := defScope s_fewest_groups) (by decide +kernel)) (fun _ _ _ _ _ => (g_name (i := 4) (.s (.s (.s (.s .z)))) (by exact sc_fewest_groups.nd) rfl (by first | exact .inl rfl | exact .inr rfl))) (fun _ _ _ _ _ => t_nil) (fun _ _ _ _ _ => (y_d_in hr.units65 kInt (.s (.s (.s .z))) (v_ (.s (.s (.s (.s .z))))))))))))
       (y_one (y_ret (y_some rfl (v_ (.s (.s .z))))))
       (y_fg (La := L_fewest_groups_4) (.s (.s .z)) (y_fg (La := L_fewest_groups_0) (.s (.s (.s .z))) y_nil)))
      y_nil)))
      (y_one (y_ret y_none)))
    (by exact h)⟩
noncomputable def m_fewest_groups (y : (List (List Int)) × (List Int)) : Option (Option (List Int)) := D_fewest_groups.1 _ ((y.1, y.2, (), (), (), ()) : Env L_fewest_groups_0) retO
theorem ok_fewest_groups {P : Program} {w : World} {K : Fg} {mg : Str → Option Value} {base : Heap} (T : Txt K mg) : FnOk P w K mg base CX0 2 T.a_fewest_groups T.d_fewest_groups ["groups", "wanted"] (spP K (rCons (tAll (tAll tInt)) (rOne (tAll tInt))) (tOpt (tAll tInt)) m_fewest_groups) :=
  fnP (k := 1) (L := L_fewest_groups_0) (L' := []) (m := D_fewest_groups.1) (fun y => (y.1, y.2, (), (), (), ())) T.F_fewest_groups sc_fewest_groups hs2 (pars2 (n := 3) rfl) (fun _ => rfl) (fun cdv A outer s H E hr => D_fewest_groups.2 T cdv A outer s H E hr)
theorem sc_just_these : FnScope ["groups", "wanted", "some"] ["groups", "wanted"] (defScope s_just_these) := ⟨rfl, rfl, rfl, by decide +kernel, rfl, by decide +kernel, by decide +kernel⟩
abbrev L_just_these_0 : List L3.Loc := [lImm (tAll (tAll tInt)), lImm (tAll tInt), lNone]
abbrev L_just_these_1 : List L3.Loc := [lImm (tAll (tAll tInt)), lImm (tAll tInt), lImm (tAll tInt)]
set_option maxHeartbeats 8000000 in
/-- def just_these(groups, wanted): -/
noncomputable def D_just_these : { m : Ms (L_just_these_0) [] [] (rsT (tOpt (tAll tInt))) // ∀ {P : Program} {w : World} {K : Fg} {mg : Str → Option Value} {base : Heap} (T : Txt K mg) (cdv : Value) (A : Around) (outer : List PySem.Env) (s : Shared) (H : Hp) (E : XK), Room 1 (A.deeper (envOfC "just_these" (defScope s_just_these) s.heap.objs.size T.a_just_these cdv)) →
    PSs (cxOf CX0 P w K mg base ["groups", "wanted", "some"] "just_these" (defScope s_just_these) T.a_just_these cdv A outer s H E).nox (defBody s_just_these) (tS K (L_just_these_0) [] [] (rsT (tOpt (tAll tInt))) (m)) } :=
  ⟨_, fun {P w K mg base} T cdv A outer s H E hr =>
    have h : PSs (cxOf CX0 P w K mg base ["groups", "wanted", "some"] "just_these" (defScope s_just_these) T.a_just_these cdv A outer s H E).nox (defBody s_just_these) (tS K (L_just_these_0) [] [] (rsT (tOpt (tAll tInt))) _) :=
    (y_cons (La := L_just_these_0) (y_for (vs := [2]) (Lb := L_just_these_1) PassesOwn.never rfl (i_list (y_call (ok_sets_by_size T) (hr.mono (by decide)) (by rfl) T.m_sets_by_size T.F_sets_by_size.kp T.b_sets_by_size (a_one (y_cB call_len_seq c_lenT (by rfl) T.n_len (by decide +kernel) (a_one (v_ .z)))))) (g_name (i := 2) (.s (.s .z)) (by exact sc_just_these.nd) rfl (by first | exact .inl rfl | exact .inr rfl))
       (y_cons (La := L_just_these_0) (y_if (y_cmpT (op_eqD hr.units) (o_eqD (dLst dInt)) (y_fz (O := (oLst tInt)) (y_cBO (call_sortedDI rfl) c_sortD (by rfl) T.n_sorted (by decide +kernel) (a_one (y_fz (O := (oDict kInt tInt)) (y_callO (ok_often T) (hr.mono (by decide)) (by rfl) T.m_often T.F_often.kp T.b_often (a_cons (v_ .z) (a_one (v_ (.s (.s .z)))))))))) (y_fz (O := (oLst tInt)) (y_cTO call_list_of c_listT (by rfl) T.n_list (by decide +kernel) (a_one (v_ (.s .z))))) (nomark _))
       (y_one (y_ret (y_some rfl (v_ (.s (.s .z))))))
       (y_fg (La := L_just_these_0) (.s (.s .z)) y_nil))
      y_nil))
      (y_one (y_ret y_none)))
    (by exact h)⟩
noncomputable def m_just_these (y : (List (List Int)) × (List Int)) : Option (Option (List Int)) := D_just_these.1 _ ((y.1, y.2, (), ()) : Env L_just_these_0) retO
theorem ok_just_these {P : Program} {w : World} {K : Fg} {mg : Str → Option Value} {base : Heap} (T : Txt K mg) : FnOk P w K mg base CX0 2 T.a_just_these T.d_just_these ["groups", "wanted"] (spP K (rCons (tAll (tAll tInt)) (rOne (tAll tInt))) (tOpt (tAll tInt)) m_just_these) :=
  fnP (k := 1) (L := L_just_these_0) (L' := []) (m := D_just_these.1) (fun y => (y.1, y.2, (), ())) T.F_just_these sc_just_these hs2 (pars2 (n := 1) rfl) (fun _ => rfl) (fun cdv A outer s H E hr => D_just_these.2 T cdv A outer s H E hr)
theorem sc_each_once : FnScope ["groups", "wanted", "some", "person"] ["groups", "wanted"] (defScope s_each_once) := ⟨rfl, rfl, rfl, by decide +kernel, rfl, by decide +kernel, by decide +kernel⟩
abbrev L_each_once_0 : List L3.Loc := [lImm (tAll (tAll tInt)), lImm (tAll tInt), lNone, lNone]
abbrev L_each_once_1 : List L3.Loc := [lImm (tAll (tAll tInt)), lImm (tAll tInt), lImm (tAll tInt), lNone]
abbrev L_each_once_2 : List L3.Loc := [lImm (tAll (tAll tInt)), lImm (tAll tInt), lImm (tAll tInt), lImm tInt]
set_option maxHeartbeats 8000000 in
/-- def each_once(groups, wanted): -/
noncomputable def D_each_once : { m : Ms (L_each_once_0) [] [] (rsT (tOpt (tAll tInt))) // ∀ {P : Program} {w : World} {K : Fg} {mg : Str → Option Value} {base : Heap} (T : Txt K mg) (cdv : Value) (A : Around) (outer : List PySem.Env) (s : Shared) (H : Hp) (E : XK), Room 2 (A.deeper (envOfC "each_once" (defScope s_each_once) s.heap.objs.size T.a_each_once cdv)) →
    PSs (cxOf CX0 P w K mg base ["groups", "wanted", "some", "person"] "each_once" (defScope s_each_once) T.a_each_once cdv A outer s H E).nox (defBody s_each_once) (tS K (L_each_once_0) [] [] (rsT (tOpt (tAll tInt))) (m)) } :=
  ⟨_, fun {P w K mg base} T cdv A outer s H E hr =>
    have h : PSs (cxOf CX0 P w K mg base ["groups", "wanted", "some", "person"] "each_once" (defScope s_each_once) T.a_each_once cdv A outer s H E).nox (defBody s_each_once) (tS K (L_each_once_0) [] [] (rsT (tOpt (tAll tInt))) _) :=
    (y_cons (La := L_each_once_0) (y_for (vs := [2]) (Lb := L_each_once_1) PassesOwn.never rfl (i_list (y_fz (O := (oLst (tAll tInt))) (y_cBO (cr_sortTE (uTup (wAll uInt)) (fun x => ⟨_, rfl⟩) (by decide) hr.units) (c_sortTE (uTup (wAll uInt))) (by rfl) T.n_sorted (by decide +kernel) (a_one (y_call (ok_sets_by_size T) (hr.mono (by decide)) (by rfl) T.m_sets_by_size T.F_sets_by_size.kp T.b_sets_by_size (a_one (y_cB call_len_seq c_lenT (by rfl) T.n_len (by decide +kernel) (a_one (v_ .z))))))))) (g_name (i := 2) (.s (.s .z)) (by exact sc_each_once.nd) rfl (by first | exact .inl rfl | exact .inr rfl))
       (y_cons (La := L_each_once_0) (y_if (y_cmpT (op_eqD hr.units) (o_eqD (dAll (dTup (eCons dInt (eOne dInt))))) (y_tD (y_call (ok_heard_by T) (hr.mono (by decide)) (by rfl) T.m_heard_by T.F_heard_by.kp T.b_heard_by (a_cons (v_ .z) (a_one (v_ (.s (.s .z))))))) (y_cT call_tuple_of c_tuple (by rfl) T.n_tuple (by decide +kernel) (a_one (y_fz (O := (oLst (tTup (rCons tInt (rOne tInt))))) (y_comp (own := [("person", 3)]) (vs := [3]) (ws := [3]) (Lw := L_each_once_1) (Lb := L_each_once_2) (.keep (by decide) (.keep (by decide) (.keep (by decide) (.non .nil)))) (.keep (by decide) (.keep (by decide) (.keep (by decide) (.imm .nil)))) rfl (by decide) rfl sc_each_once.nd (i_tup (v_ (.s .z))) (blkOk_by (own := [("person", 3)]) (N := ["groups", "wanted", "some", "person"]) (sc := defScope s_each_once) (by decide +kernel)) (fun _ _ _ _ _ => (g_name (i := 3) (.s (.s (.s .z))) (by exact sc_each_once.nd) rfl (by first | exact .inl rfl | exact .inr rfl))) (fun _ _ _ _ _ => t_nil) (fun _ _ _ _ _ => (y_tup (a_cons (v_ (.s (.s (.s .z)))) (a_one y_int)) hl2)))))) (nomark _))
       (y_one (y_ret (y_some rfl (v_ (.s (.s .z))))))
       (y_fg (La := L_each_once_0) (.s (.s .z)) y_nil))
      y_nil))
      (y_one (y_ret y_none)))
    (by exact h)⟩
noncomputable def m_each_once (y : (List (List Int)) × (List Int)) : Option (Option (List Int)) := D_each_once.1 _ ((y.1, y.2, (), (), ()) : Env L_each_once_0) retO
theorem ok_each_once {P : Program} {w : World} {K : Fg} {mg : Str → Option Value} {base : Heap} (T : Txt K mg) : FnOk P w K mg base CX0 3 T.a_each_once T.d_each_once ["groups", "wanted"] (spP K (rCons (tAll (tAll tInt)) (rOne (tAll tInt))) (tOpt (tAll tInt)) m_each_once) :=
  fnP (k := 2) (L := L_each_once_0) (L' := []) (m := D_each_once.1) (fun y => (y.1, y.2, (), (), ())) T.F_each_once sc_each_once hs2 (pars2 (n := 2) rfl) (fun _ => rfl) (fun cdv A outer s H E hr => D_each_once.2 T cdv A outer s H E hr)
theorem sc_twice_by : FnScope ["groups", "sent", "person", "many"] ["groups", "sent"] (defScope s_twice_by) := ⟨rfl, rfl, rfl, by decide +kernel, rfl, by decide +kernel, by decide +kernel⟩
abbrev L_twice_by_0 : List L3.Loc := [lImm (tAll (tAll tInt)), lImm (tAll tInt), lNone, lNone]
abbrev L_twice_by_1 : List L3.Loc := [lImm (tAll (tAll tInt)), lImm (tAll tInt), lImm tInt, lNone]
abbrev L_twice_by_2 : List L3.Loc := [lImm (tAll (tAll tInt)), lImm (tAll tInt), lImm tInt, lImm tInt]
set_option maxHeartbeats 8000000 in
/-- def twice_by(groups, sent): -/
noncomputable def D_twice_by : { m : Ms (L_twice_by_0) [] [] (rsT (tAll tInt)) // ∀ {P : Program} {w : World} {K : Fg} {mg : Str → Option Value} {base : Heap} (T : Txt K mg) (cdv : Value) (A : Around) (outer : List PySem.Env) (s : Shared) (H : Hp) (E : XK), Room 2 (A.deeper (envOfC "twice_by" (defScope s_twice_by) s.heap.objs.size T.a_twice_by cdv)) →
    PSs (cxOf CX0 P w K mg base ["groups", "sent", "person", "many"] "twice_by" (defScope s_twice_by) T.a_twice_by cdv A outer s H E).nox (defBody s_twice_by) (tS K (L_twice_by_0) [] [] (rsT (tAll tInt)) (m)) } :=
  ⟨_, fun {P w K mg base} T cdv A outer s H E hr =>
    have h : PSs (cxOf CX0 P w K mg base ["groups", "sent", "person", "many"] "twice_by" (defScope s_twice_by) T.a_twice_by cdv A outer s H E).nox (defBody s_twice_by) (tS K (L_twice_by_0) [] [] (rsT (tAll tInt)) _) :=
    (y_one (y_ret (y_cT call_tuple_of c_tuple (by rfl) T.n_tuple (by decide +kernel) (a_one (y_fz (O := (oLst tInt)) (y_comp (own := [("person", 2), ("many", 3)]) (vs := [2, 3]) (ws := [2, 3]) (Lw := L_twice_by_0) (Lb := L_twice_by_2) (.keep (by decide) (.keep (by decide) (.non (.non .nil)))) (.keep (by decide) (.keep (by decide) (.imm (.imm .nil)))) rfl (by decide) rfl sc_twice_by.nd (i_tup (y_tD (y_call (ok_heard_by T) (hr.mono (by decide)) (by rfl) T.m_heard_by T.F_heard_by.kp T.b_heard_by (a_cons (v_ .z) (a_one (v_ (.s .z))))))) (blkOk_by (own := [("person", 2), ("many", 3)]) (N := ["groups", "sent", "person", "many"]) (sc := defScope s_twice_by) (by decide +kernel)) (fun _ _ _ _ _ => (g_tup rfl (gs_cons (La := L_twice_by_1) (g_name (i := 2) (.s (.s .z)) (by exact sc_twice_by.nd) rfl (by first | exact .inl rfl | exact .inr rfl)) (gs_one (g_name (i := 3) (.s (.s (.s .z))) (by exact sc_twice_by.nd) rfl (by first | exact .inl rfl | exact .inr rfl)))) rl2)) (fun _ _ _ _ _ => (t_one (y_cmpT op_gt o_gt (v_ (.s (.s (.s .z)))) y_int (nomark _)))) (fun _ _ _ _ _ => (v_ (.s (.s .z))))))))))
    (by exact h)⟩
noncomputable def m_twice_by (y : (List (List Int)) × (List Int)) : Option (List Int) := D_twice_by.1 _ ((y.1, y.2, (), (), ()) : Env L_twice_by_0) retO
theorem ok_twice_by {P : Program} {w : World} {K : Fg} {mg : Str → Option Value} {base : Heap} (T : Txt K mg) : FnOk P w K mg base CX0 3 T.a_twice_by T.d_twice_by ["groups", "sent"] (spP K (rCons (tAll (tAll tInt)) (rOne (tAll tInt))) (tAll tInt) m_twice_by) :=
  fnP (k := 2) (L := L_twice_by_0) (L' := []) (m := D_twice_by.1) (fun y => (y.1, y.2, (), (), ())) T.F_twice_by sc_twice_by hs2 (pars2 (n := 2) rfl) (fun _ => rfl) (fun cdv A outer s H E hr => D_twice_by.2 T cdv A outer s H E hr)
theorem sc_needless_sent : FnScope ["groups", "sent", "counts", "found", "place", "rest"] ["groups", "sent"] (defScope s_needless_sent) := ⟨rfl, rfl, rfl, by decide +kernel, rfl, by decide +kernel, by decide +kernel⟩
abbrev L_needless_sent_0 : List L3.Loc := [lImm (tAll (tAll tInt)), lImm (tAll tInt), lNone, lNone, lNone, lNone]
abbrev L_needless_sent_1 : List L3.Loc := [lImm (tAll (tAll tInt)), lImm (tAll tInt), lImm (tDict kInt tInt), lNone, lNone, lNone]
abbrev L_needless_sent_2 : List L3.Loc := [lImm (tAll (tAll tInt)), lImm (tAll tInt), lImm (tDict kInt tInt), lOwn (oLst tInt) none, lNone, lNone]
abbrev L_needless_sent_3 : List L3.Loc := [lImm (tAll (tAll tInt)), lImm (tAll tInt), lImm (tDict kInt tInt), lOwn (oLst tInt) none, lImm tInt, lNone]
abbrev L_needless_sent_4 : List L3.Loc := [lImm (tAll (tAll tInt)), lImm (tAll tInt), lImm (tDict kInt tInt), lOwn (oLst tInt) none, lImm tInt, lImm (tDict kInt tInt)]
abbrev L_needless_sent_5 : List L3.Loc := [lImm (tAll (tAll tInt)), lImm (tAll tInt), lImm (tDict kInt tInt), lOwn (oLst tInt) none, lNone, lImm (tDict kInt tInt)]
abbrev L_needless_sent_6 : List L3.Loc := [lImm (tAll (tAll tInt)), lImm (tAll tInt), lImm (tDict kInt tInt), lImm (tLst tInt), lNone, lNone]
set_option maxHeartbeats 8000000 in
/-- def needless_sent(groups, sent): -/
noncomputable def D_needless_sent : { m : Ms (L_needless_sent_0) [] [] (rsT (tAll tInt)) // ∀ {P : Program} {w : World} {K : Fg} {mg : Str → Option Value} {base : Heap} (T : Txt K mg) (cdv : Value) (A : Around) (outer : List PySem.Env) (s : Shared) (H : Hp) (E : XK), Room 1 (A.deeper (envOfC "needless_sent" (defScope s_needless_sent) s.heap.objs.size T.a_needless_sent cdv)) →
    PSs (cxOf CX0 P w K mg base ["groups", "sent", "counts", "found", "place", "rest"] "needless_sent" (defScope s_needless_sent) T.a_needless_sent cdv A outer s H E).nox (defBody s_needless_sent) (tS K (L_needless_sent_0) [] [] (rsT (tAll tInt)) (m)) } :=
  ⟨_, fun {P w K mg base} T cdv A outer s H E hr =>
    have h : PSs (cxOf CX0 P w K mg base ["groups", "sent", "counts", "found", "place", "rest"] "needless_sent" (defScope s_needless_sent) T.a_needless_sent cdv A outer s H E).nox (defBody s_needless_sent) (tS K (L_needless_sent_0) [] [] (rsT (tAll tInt)) _) :=
    (y_cons (La := L_needless_sent_1) (y_asg (.s (.s .z)) sc_needless_sent.nd rfl (by first | exact .inl rfl | exact .inr rfl) (y_fz (O := (oDict kInt tInt)) (y_callO (ok_often T) (hr.mono (by decide)) (by rfl) T.m_often T.F_often.kp T.b_often (a_cons (v_ .z) (a_one (v_ (.s .z)))))))
      (y_cons (La := L_needless_sent_2) (y_asgO (.s (.s (.s .z))) sc_needless_sent.nd rfl (by first | exact .inl rfl | exact .inr rfl) (y_lst a_nilA))
      (y_cons (La := L_needless_sent_2) (y_for (vs := [4]) (Lb := L_needless_sent_3) PassesOwn.never rfl (i_range (by rfl) T.n_range (y_cB call_len_seq c_lenT (by rfl) T.n_len (by decide +kernel) (a_one (v_ (.s .z))))) (g_name (i := 4) (.s (.s (.s (.s .z)))) (by exact sc_needless_sent.nd) rfl (by first | exact .inl rfl | exact .inr rfl))
       (y_cons (La := L_needless_sent_4) (y_asg (.s (.s (.s (.s (.s .z))))) sc_needless_sent.nd rfl (by first | exact .inl rfl | exact .inr rfl) (y_fz (O := (oDict kInt tInt)) (y_callO (ok_often T) (hr.mono (by decide)) (by rfl) T.m_often T.F_often.kp T.b_often (a_cons (v_ .z) (a_one (y_bin op_catA o_catT (y_slT (v_ (.s .z)) p_none (p_some (v_ (.s (.s (.s (.s .z))))))) (y_slT (v_ (.s .z)) (p_some (y_binT op_add o_add (v_ (.s (.s (.s (.s .z))))) y_int)) p_none)))))))
      (y_cons (La := L_needless_sent_2) (y_ifJ (y_cmpT op_eq o_eqI (y_cB call_lenD c_lenD (by rfl) T.n_len (by decide +kernel) (a_one (v_ (.s (.s (.s (.s (.s .z)))))))) (y_cB call_lenD c_lenD (by rfl) T.n_len (by decide +kernel) (a_one (v_ (.s (.s .z))))) (nomark _))
       (y_cons (La := L_needless_sent_4) (y_expr (y_met (.s (.s (.s .z))) rfl (by first | exact .inl rfl | exact .inr (.inl rfl) | exact .inr (.inr rfl)) PySem.F.plainAttrs_list PySem.F.slot_list_append PySem.F.type_list_append mt_append ownTy m_append (a_one (v_ (.s (.s (.s (.s .z))))))))
      (y_fg (La := L_needless_sent_5) (.s (.s (.s (.s .z)))) (y_fg (La := L_needless_sent_2) (.s (.s (.s (.s (.s .z))))) y_nil)))
       (y_fg (La := L_needless_sent_5) (.s (.s (.s (.s .z)))) (y_fg (La := L_needless_sent_2) (.s (.s (.s (.s (.s .z))))) y_nil)))
      y_nil)))
      (y_lock (La := L_needless_sent_6) (.s (.s (.s .z))) (.s (.s (.s .z))) (y_one (y_ret (y_cT call_tuple_of c_tuple (by rfl) T.n_tuple (by decide +kernel) (a_one (v_ (.s (.s (.s .z))))))))))))
    (by exact h)⟩
noncomputable def m_needless_sent (y : (List (List Int)) × (List Int)) : Option (List Int) := D_needless_sent.1 _ ((y.1, y.2, (), (), (), (), ()) : Env L_needless_sent_0) retO
theorem ok_needless_sent {P : Program} {w : World} {K : Fg} {mg : Str → Option Value} {base : Heap} (T : Txt K mg) : FnOk P w K mg base CX0 2 T.a_needless_sent T.d_needless_sent ["groups", "sent"] (spP K (rCons (tAll (tAll tInt)) (rOne (tAll tInt))) (tAll tInt) m_needless_sent) :=
  fnP (k := 1) (L := L_needless_sent_0) (L' := []) (m := D_needless_sent.1) (fun y => (y.1, y.2, (), (), (), (), ())) T.F_needless_sent sc_needless_sent hs2 (pars2 (n := 4) rfl) (fun _ => rfl) (fun cdv A outer s H E hr => D_needless_sent.2 T cdv A outer s H E hr)
theorem sc_law_draws : FnScope ["script", "many", "cells", "rest", "draws", "k", "at", "once", "cell"] ["script", "many"] (defScope s_law_draws) := ⟨rfl, rfl, rfl, by decide +kernel, rfl, by decide +kernel, by decide +kernel⟩
abbrev L_law_draws_0 : List L3.Loc := [lImm (tScr tInt), lImm tInt, lNone, lNone, lNone, lNone, lNone, lNone, lNone]
abbrev L_law_draws_1 : List L3.Loc := [lImm (tScr tInt), lImm tInt, lNone, lNone, lNone, lNone, lNone, lNone, lImm tInt]
abbrev L_law_draws_2 : List L3.Loc := [lImm (tScr tInt), lImm tInt, lOwn (oLst tInt) none, lNone, lNone, lNone, lNone, lNone, lNone]
abbrev L_law_draws_3 : List L3.Loc := [lNone, lImm tInt, lOwn (oLst tInt) none, lNone, lNone, lNone, lNone, lNone, lNone]
abbrev L_law_draws_4 : List L3.Loc := [lNone, lImm tInt, lImm (tLst tInt), lOwn (oLst tInt) none, lNone, lNone, lNone, lNone, lNone]
abbrev L_law_draws_5 : List L3.Loc := [lNone, lImm tInt, lImm (tLst tInt), lOwn (oLst tInt) none, lOwn (oLst tInt) none, lNone, lNone, lNone, lNone]
abbrev L_law_draws_6 : List L3.Loc := [lNone, lImm tInt, lImm (tLst tInt), lOwn (oLst tInt) none, lOwn (oLst tInt) none, lImm tInt, lNone, lNone, lNone]
abbrev L_law_draws_7 : List L3.Loc := [lNone, lImm tInt, lImm (tLst tInt), lOwn (oLst tInt) none, lOwn (oLst tInt) none, lImm tInt, lImm tInt, lNone, lNone]
abbrev L_law_draws_8 : List L3.Loc := [lNone, lImm tInt, lImm (tLst tInt), lOwn (oLst tInt) none, lOwn (oLst tInt) none, lImm tInt, lImm tInt, lImm tInt, lNone]
abbrev L_law_draws_9 : List L3.Loc := [lNone, lImm tInt, lImm (tLst tInt), lOwn (oLst tInt) none, lOwn (oLst tInt) none, lNone, lImm tInt, lNone, lNone]
abbrev L_law_draws_10 : List L3.Loc := [lNone, lImm tInt, lImm (tLst tInt), lOwn (oLst tInt) none, lOwn (oLst tInt) none, lNone, lNone, lImm tInt, lNone]
abbrev L_law_draws_11 : List L3.Loc := [lNone, lImm tInt, lImm (tLst tInt), lOwn (oLst tInt) none, lOwn (oLst tInt) none, lNone, lImm tInt, lImm tInt, lNone]
abbrev L_law_draws_12 : List L3.Loc := [lNone, lImm tInt, lImm (tLst tInt), lNone, lNone, lNone, lNone, lNone, lNone]
set_option maxHeartbeats 8000000 in
/-- def _law_draws(script, many): -/
noncomputable def D_law_draws : { m : Ms (L_law_draws_0) [] [] (rsO (oLst tInt)) // ∀ {P : Program} {w : World} {K : Fg} {mg : Str → Option Value} {base : Heap} (T : Txt K mg) (cdv : Value) (A : Around) (outer : List PySem.Env) (s : Shared) (H : Hp) (E : XK), Room 0 (A.deeper (envOfC "_law_draws" (defScope s_law_draws) s.heap.objs.size T.a_law_draws cdv)) →
    PSs (cxOf CX0 P w K mg base ["script", "many", "cells", "rest", "draws", "k", "at", "once", "cell"] "_law_draws" (defScope s_law_draws) T.a_law_draws cdv A outer s H E).nox (defBody s_law_draws) (tS K (L_law_draws_0) [] [] (rsO (oLst tInt)) (m)) } :=
  ⟨_, fun {P w K mg base} T cdv A outer s H E hr =>
    have h : PSs (cxOf CX0 P w K mg base ["script", "many", "cells", "rest", "draws", "k", "at", "once", "cell"] "_law_draws" (defScope s_law_draws) T.a_law_draws cdv A outer s H E).nox (defBody s_law_draws) (tS K (L_law_draws_0) [] [] (rsO (oLst tInt)) _) :=
    (y_cons (La := L_law_draws_2) (y_compS (i := 2) (.s (.s .z)) rfl rfl (sw_true rfl rfl rfl (by decide +kernel)) (own := [("cell", 8)]) (vs := [8]) (ws := [8]) (Lw := L_law_draws_0) (Lb := L_law_draws_1) (.keep (by decide) (.keep (by decide) (.keep (by decide) (.keep (by decide) (.keep (by decide) (.keep (by decide) (.keep (by decide) (.keep (by decide) (.non .nil))))))))) (.keep (by decide) (.keep (by decide) (.keep (by decide) (.keep (by decide) (.keep (by decide) (.keep (by decide) (.keep (by decide) (.keep (by decide) (.imm .nil))))))))) rfl (by decide) rfl sc_law_draws.nd (i_scr (v_ .z)) (blkOk_by (own := [("cell", 8)]) (N := ["script", "many", "cells", "rest", "draws", "k", "at", "once", "cell"]) (sc := defScope s_law_draws) (by decide +kernel)) (fun _ _ _ _ _ => (g_name (i := 8) (.s (.s (.s (.s (.s (.s (.s (.s .z)))))))) (by exact sc_law_draws.nd) rfl (by first | exact .inl rfl | exact .inr rfl))) (fun _ _ _ _ _ => t_nil) (fun _ _ _ _ _ => (y_cT call_int1 c_int (by rfl) T.n_int (by decide +kernel) (a_one (v_ (.s (.s (.s (.s (.s (.s (.s (.s .z)))))))))))))
      (y_cons (La := L_law_draws_3) (y_ifJ (y_cmpT op_eq o_eqI (y_lenO (.s (.s .z)) rfl (by first | exact .inl rfl | exact .inr (.inl rfl) | exact .inr (.inr rfl)) (by rfl) T.n_len) y_int (nomark _))
       (y_cons (La := L_law_draws_2) (y_expr (y_met (.s (.s .z)) rfl (by first | exact .inl rfl | exact .inr (.inl rfl) | exact .inr (.inr rfl)) PySem.F.plainAttrs_list PySem.F.slot_list_append PySem.F.type_list_append mt_append ownTy m_append (a_one y_int)))
      (y_fg (La := L_law_draws_3) .z y_nil))
       (y_fg (La := L_law_draws_3) .z y_nil))
      (y_lock (La := L_law_draws_12) (.s (.s .z)) (.s (.s .z)) (y_cons (La := L_law_draws_4) (y_asgO (.s (.s (.s .z))) sc_law_draws.nd rfl (by first | exact .inl rfl | exact .inr rfl) (y_cTO call_list_of c_list (by rfl) T.n_list (by decide +kernel) (a_one (v_ (.s (.s .z))))))
      (y_cons (La := L_law_draws_5) (y_asgO (.s (.s (.s (.s .z)))) sc_law_draws.nd rfl (by first | exact .inl rfl | exact .inr rfl) (y_lst a_nilA))
      (y_cons (La := L_law_draws_5) (y_for (vs := [5]) (Lb := L_law_draws_6) PassesOwn.never rfl (i_range (by rfl) T.n_range (v_ (.s .z))) (g_name (i := 5) (.s (.s (.s (.s (.s .z))))) (by exact sc_law_draws.nd) rfl (by first | exact .inl rfl | exact .inr rfl))
       (y_cons (La := L_law_draws_7) (y_asg (.s (.s (.s (.s (.s (.s .z)))))) sc_law_draws.nd rfl (by first | exact .inl rfl | exact .inr rfl) (y_bin op_mod o_mod (v_ (.s (.s (.s (.s (.s .z)))))) (y_cB call_len_seq c_lenL (by rfl) T.n_len (by decide +kernel) (a_one (v_ (.s (.s .z)))))))
      (y_cons (La := L_law_draws_5) (y_ifJ (PW.pt (y_and (y_cmpT op_ge o_ge (y_ix ix_list ix_l (v_ (.s (.s .z))) (v_ (.s (.s (.s (.s (.s (.s .z)))))))) (y_lit (c := 1000000000000000000) op_pow o_pow (by first | (rw [powC_eq]; decide +kernel) | (rw [mulC_eq]; decide +kernel) | (rw [divC_eq]; decide +kernel) | decide +kernel)) (nomark _)) (y_and1 (y_cmpT op_gt o_gt (y_ixO (.s (.s (.s .z))) rfl (by first | exact .inl rfl | exact .inr (.inl rfl) | exact .inr (.inr rfl)) (v_ (.s (.s (.s (.s (.s (.s .z)))))))) y_int (nomark _)))))
       (y_cons (La := L_law_draws_7) (y_expr (y_met (.s (.s (.s (.s .z)))) rfl (by first | exact .inl rfl | exact .inr (.inl rfl) | exact .inr (.inr rfl)) PySem.F.plainAttrs_list PySem.F.slot_list_append PySem.F.type_list_append mt_append ownTy m_append (a_one (y_bin op_mod o_mod (y_cT call_int1 c_int (by rfl) T.n_int (by decide +kernel) (a_one (y_ixO (.s (.s (.s .z))) rfl (by first | exact .inl rfl | exact .inr (.inl rfl) | exact .inr (.inr rfl)) (v_ (.s (.s (.s (.s (.s (.s .z)))))))))) y_int))))
      (y_cons (La := L_law_draws_7) (y_setL (.s (.s (.s .z))) rfl (by first | exact .inl rfl | exact .inr (.inl rfl) | exact .inr (.inr rfl)) (y_bin op_fdivW o_div (y_ixO (.s (.s (.s .z))) rfl (by first | exact .inl rfl | exact .inr (.inl rfl) | exact .inr (.inr rfl)) (v_ (.s (.s (.s (.s (.s (.s .z)))))))) y_int) (v_ (.s (.s (.s (.s (.s (.s .z))))))))
      (y_fg (La := L_law_draws_9) (.s (.s (.s (.s (.s .z))))) (y_fg (La := L_law_draws_5) (.s (.s (.s (.s (.s (.s .z)))))) y_nil))))
       (y_cons (La := L_law_draws_8) (y_asg (.s (.s (.s (.s (.s (.s (.s .z))))))) sc_law_draws.nd rfl (by first | exact .inl rfl | exact .inr rfl) (y_bin op_mod o_mod (y_cT call_int1 c_int (by rfl) T.n_int (by decide +kernel) (a_one (y_binT op_add o_add (y_binT op_add o_add (y_bin op_mulA o_mul (y_ix ix_list ix_l (v_ (.s (.s .z))) (v_ (.s (.s (.s (.s (.s (.s .z)))))))) y_int) (y_bin op_mulA o_mul (v_ (.s (.s (.s (.s (.s .z)))))) y_int)) y_int))) y_int))
      (y_cons (La := L_law_draws_8) (y_expr (y_met (.s (.s (.s (.s .z)))) rfl (by first | exact .inl rfl | exact .inr (.inl rfl) | exact .inr (.inr rfl)) PySem.F.plainAttrs_list PySem.F.slot_list_append PySem.F.type_list_append mt_append ownTy m_append (a_one (y_bin op_mod o_mod (y_cT call_int1 c_int (by rfl) T.n_int (by decide +kernel) (a_one (y_binT op_add o_add (y_binT op_add o_add (y_bin op_mulA o_mul (v_ (.s (.s (.s (.s (.s (.s (.s .z)))))))) (v_ (.s (.s (.s (.s (.s (.s (.s .z))))))))) (y_bin op_mulA o_mul y_int (v_ (.s (.s (.s (.s (.s (.s (.s .z)))))))))) (v_ (.s (.s (.s (.s (.s .z))))))))) y_int))))
      (y_fg (La := L_law_draws_11) (.s (.s (.s (.s (.s .z))))) (y_fg (La := L_law_draws_10) (.s (.s (.s (.s (.s (.s .z)))))) (y_fg (La := L_law_draws_5) (.s (.s (.s (.s (.s (.s (.s .z))))))) y_nil))))))
      y_nil)))
      (y_cons (La := L_law_draws_5) (y_expr (y_met0 (.s (.s (.s (.s .z)))) rfl (by first | exact .inl rfl | exact .inr (.inl rfl) | exact .inr (.inr rfl)) PySem.F.plainAttrs_list PySem.F.slot_list_reverse PySem.F.type_list_reverse mt_reverse ownTy m_reverse))
      (y_one (y_retN (.s (.s (.s (.s .z)))) rfl (by first | exact .inl rfl | exact .inr (.inl rfl) | exact .inr (.inr rfl)))))))))))
    (by exact h)⟩
noncomputable def m_law_draws (y : (List Int) × Int) : Option (List Int) := D_law_draws.1 _ ((y.1, y.2, (), (), (), (), (), (), (), ()) : Env L_law_draws_0) retO
theorem ok_law_draws {P : Program} {w : World} {K : Fg} {mg : Str → Option Value} {base : Heap} (T : Txt K mg) : FnOk P w K mg base CX0 1 T.a_law_draws T.d_law_draws ["script", "many"] (spO K (rCons (tScr tInt) (rOne tInt)) (oLst tInt) m_law_draws) :=
  fnO (k := 0) (L := L_law_draws_0) (L' := []) (m := D_law_draws.1) (fun y => (y.1, y.2, (), (), (), (), (), (), (), ())) T.F_law_draws sc_law_draws hs2 (pars2 (n := 7) rfl) (fun _ => rfl) (fun cdv A outer s H E hr => D_law_draws.2 T cdv A outer s H E hr)
theorem sc_law_take : FnScope ["draws", "many"] ["draws", "many"] (defScope s_law_take) := ⟨rfl, rfl, rfl, by decide +kernel, rfl, by decide +kernel, by decide +kernel⟩
abbrev L_law_take_0 (d : Addr) : List L3.Loc := [lOwn (oLst tInt) (some d), lImm tInt]
set_option maxHeartbeats 8000000 in
/-- def _law_take(draws, many): -/
noncomputable def D_law_take : { m : (d : Addr) → Ms (L_law_take_0 d) [] [] (rsM d (oLst tInt) tInt) // ∀ {P : Program} {w : World} {K : Fg} {mg : Str → Option Value} {base : Heap} (T : Txt K mg) (d : Addr) (cdv : Value) (A : Around) (outer : List PySem.Env) (s : Shared) (H : Hp) (E : XK), Room 0 (A.deeper (envOfC "_law_take" (defScope s_law_take) s.heap.objs.size T.a_law_take cdv)) →
    PSs (cxOf CX0 P w K mg base ["draws", "many"] "_law_take" (defScope s_law_take) T.a_law_take cdv A outer s H E).nox (defBody s_law_take) (tS K (L_law_take_0 d) [] [] (rsM d (oLst tInt) tInt) (m d)) } :=
  ⟨_, fun {P w K mg base} T d cdv A outer s H E hr =>
    have h : PSs (cxOf CX0 P w K mg base ["draws", "many"] "_law_take" (defScope s_law_take) T.a_law_take cdv A outer s H E).nox (defBody s_law_take) (tS K (L_law_take_0 d) [] [] (rsM d (oLst tInt) tInt) _) :=
    (y_cons (La := (L_law_take_0 d)) (y_if (y_cmpT op_eq o_eqI (y_lenO .z rfl (by first | exact .inl rfl | exact .inr (.inl rfl) | exact .inr (.inr rfl)) (by rfl) T.n_len) y_int (nomark _))
       (y_one (y_retM .z y_int))
       y_nil)
      (y_one (y_retM .z (y_bin op_mod o_mod (y_cT call_int1 c_int (by rfl) T.n_int (by decide +kernel) (a_one (y_met0 .z rfl (by first | exact .inl rfl | exact .inr (.inl rfl) | exact .inr (.inr rfl)) PySem.F.plainAttrs_list PySem.F.slot_list_pop PySem.F.type_list_pop mt_pop ownTy m_pop))) (v_ (.s .z))))))
    (by exact h)⟩
noncomputable def m_law_take (y0 : (List Int)) (y : Int) : Option (Int × (List Int)) := (D_law_take.1 0) _ ((y0, y, ()) : Env (L_law_take_0 0)) retO
theorem ok_law_take {P : Program} {w : World} {K : Fg} {mg : Str → Option Value} {base : Heap} (T : Txt K mg) : FnOk P w K mg base CX0 1 T.a_law_take T.d_law_take ["draws", "many"] (spM K (oLst tInt) (rOne tInt) tInt m_law_take) :=
  fnM (k := 0) (L := fun d => L_law_take_0 d) (L' := fun _ => []) (m := D_law_take.1) (fun d y0 y => (y0, y, ())) T.F_law_take sc_law_take hsM1 (fun d => parsM1 (n := 0) rfl) (fun _ _ _ => rfl) (fun d cdv A outer s H E hr => D_law_take.2 T d cdv A outer s H E hr)
theorem sc_law_same : FnScope ["actual", "due", "k"] ["actual", "due"] (defScope s_law_same) := ⟨rfl, rfl, rfl, by decide +kernel, rfl, by decide +kernel, by decide +kernel⟩
abbrev L_law_same_0 : List L3.Loc := [lImm tDat, lImm tDat, lNone]
abbrev L_law_same_1 : List L3.Loc := [lImm tDat, lImm tDat, lImm tInt]
set_option maxHeartbeats 8000000 in
/-- def _law_same(actual, due): -/
noncomputable def D_law_same : { m : (PyData × PyData → Option Bool) → Ms (L_law_same_0) [] [] (rsT tBool) // ∀ (f : PyData × PyData → Option Bool) (n : Nat) {P : Program} {w : World} {K : Fg} {mg : Str → Option Value} {base : Heap} (T : Txt K mg) (G : FnOk P w K mg base CX0 n T.a_law_same T.d_law_same ["actual", "due"] (spP K (rCons tDat (rOne tDat)) tBool f)) (cdv : Value) (A : Around) (outer : List PySem.Env) (s : Shared) (H : Hp) (E : XK), Room n (A.deeper (envOfC "_law_same" (defScope s_law_same) s.heap.objs.size T.a_law_same cdv)) →
    PSs (cxOf CX0 P w K mg base ["actual", "due", "k"] "_law_same" (defScope s_law_same) T.a_law_same cdv A outer s H E).nox (defBody s_law_same) (tS K (L_law_same_0) [] [] (rsT tBool) (m f)) } :=
  ⟨fun f => _, fun f n {P w K mg base} T G cdv A outer s H E hr =>
    have h : PSs (cxOf CX0 P w K mg base ["actual", "due", "k"] "_law_same" (defScope s_law_same) T.a_law_same cdv A outer s H E).nox (defBody s_law_same) (tS K (L_law_same_0) [] [] (rsT tBool) _) :=
    (y_cons (La := L_law_same_0) (y_if (y_val (y_isi (nm := "bool") isT_D (by rfl) T.n_isinstance (by rfl) T.n_bool (by decide +kernel) (v_ (.s .z))))
       (y_one (y_ret (y_vand (y_isi (nm := "bool") isT_D (by rfl) T.n_isinstance (by rfl) T.n_bool (by decide +kernel) (v_ .z)) (y_vone (y_cmpO op_eq o_eqD0 (v_ .z) (v_ (.s .z)) (nomark _))))))
       y_nil)
      (y_cons (La := L_law_same_0) (y_if (y_val (y_isi (nm := "int") isT_D (by rfl) T.n_isinstance (by rfl) T.n_int (by decide +kernel) (v_ (.s .z))))
       (y_one (y_ret (y_vand (y_isi (nm := "int") isT_D (by rfl) T.n_isinstance (by rfl) T.n_int (by decide +kernel) (v_ .z)) (y_vand (y_vnot (y_isi (nm := "bool") isT_D (by rfl) T.n_isinstance (by rfl) T.n_bool (by decide +kernel) (v_ .z))) (y_vone (y_cmpO op_eq o_eqD0 (v_ .z) (v_ (.s .z)) (nomark _)))))))
       y_nil)
      (y_cons (La := L_law_same_0) (y_if (y_val (y_isi (nm := "str") isT_D (by rfl) T.n_isinstance (by rfl) T.n_str (by decide +kernel) (v_ (.s .z))))
       (y_one (y_ret (y_vand (y_isi (nm := "str") isT_D (by rfl) T.n_isinstance (by rfl) T.n_str (by decide +kernel) (v_ .z)) (y_vone (y_cmpO op_eq o_eqD0 (v_ .z) (v_ (.s .z)) (nomark _))))))
       y_nil)
      (y_cons (La := L_law_same_0) (y_if (y_isNT (y_datO (v_ (.s .z))))
       (y_one (y_ret (y_isN (y_datO (v_ .z)))))
       y_nil)
      (y_cons (La := L_law_same_0) (y_if (PW.pt (y_or (y_not (y_val (y_isi (nm := "tuple") isT_D (by rfl) T.n_isinstance (by rfl) T.n_tuple (by decide +kernel) (v_ .z)))) (y_or1 (y_cmpT op_ne o_neI (y_cB call_len_seq c_lenDat (by rfl) T.n_len (by decide +kernel) (a_one (v_ .z))) (y_cB call_len_seq c_lenDat (by rfl) T.n_len (by decide +kernel) (a_one (v_ (.s .z)))) (nomark _)))))
       (y_one (y_ret y_bl))
       y_nil)
      (y_cons (La := L_law_same_0) (y_for (vs := [2]) (Lb := L_law_same_1) PassesOwn.never rfl (i_range (by rfl) T.n_range (y_cB call_len_seq c_lenDat (by rfl) T.n_len (by decide +kernel) (a_one (v_ (.s .z))))) (g_name (i := 2) (.s (.s .z)) (by exact sc_law_same.nd) rfl (by first | exact .inl rfl | exact .inr rfl))
       (y_cons (La := L_law_same_0) (y_if (y_not (y_val (y_call G hr (by rfl) T.m_law_same T.F_law_same.kp T.b_law_same (a_cons (y_ix ix_tup ix_d (v_ .z) (v_ (.s (.s .z)))) (a_one (y_ix ix_tup ix_d (v_ (.s .z)) (v_ (.s (.s .z)))))))))
       (y_one (y_ret y_bl))
       (y_fg (La := L_law_same_0) (.s (.s .z)) y_nil))
      y_nil))
      (y_one (y_ret y_bl))))))))
    (by exact h)⟩
noncomputable def m_law_same : Nat → PyData × PyData → Option Bool
  | 0 => fun _ => none
  | n + 1 => fun y => D_law_same.1 (m_law_same n) _ ((y.1, y.2, (), ()) : Env L_law_same_0) retO
theorem ok_law_same {P : Program} {w : World} {K : Fg} {mg : Str → Option Value} {base : Heap} (T : Txt K mg) : ∀ n, FnOk P w K mg base CX0 (n + 1) T.a_law_same T.d_law_same ["actual", "due"] (spP K (rCons tDat (rOne tDat)) tBool (m_law_same n))
  | 0 => FnOk.void fun _ _ _ _ ⟨_, _, _, _, _, h, _⟩ => nomatch h
  | n + 1 => fnP (k := n + 1) (L := L_law_same_0) (L' := []) (m := D_law_same.1 (m_law_same n)) (fun y => (y.1, y.2, (), ())) T.F_law_same sc_law_same hs2 (pars2 (n := 1) rfl) (fun _ => rfl) (fun cdv A outer s H E hr => D_law_same.2 (m_law_same n) (n + 1) T (ok_law_same T n) cdv A outer s H E hr)
theorem same_law : SameOk m_law_same := same_A fun n d e => rfl

theorem sc_law_size : FnScope ["draws", "script", "kind", "number"] ["draws", "script"] (defScope s_law_size) := ⟨rfl, rfl, rfl, by decide +kernel, rfl, by decide +kernel, by decide +kernel⟩
abbrev L_law_size_0 (d : Addr) : List L3.Loc := [lOwn (oLst tInt) (some d), lImm (tScr tInt), lNone, lNone]
abbrev L_law_size_1 (d : Addr) : List L3.Loc := [lOwn (oLst tInt) (some d), lImm (tScr tInt), lImm tInt, lNone]
abbrev L_law_size_2 (d : Addr) : List L3.Loc := [lOwn (oLst tInt) (some d), lImm (tScr tInt), lImm tInt, lImm tInt]
abbrev L_law_size_3 (d : Addr) : List L3.Loc := [lOwn (oLst tInt) (some d), lNone, lImm tInt, lImm tInt]
abbrev L_law_size_4 (d : Addr) : List L3.Loc := [lOwn (oLst tInt) (some d), lNone, lNone, lImm tInt]
set_option maxHeartbeats 8000000 in
/-- def _law_size(draws, script): -/
noncomputable def D_law_size : { m : (d : Addr) → Ms (L_law_size_0 d) [] [] (rsM d (oLst tInt) tInt) // ∀ {P : Program} {w : World} {K : Fg} {mg : Str → Option Value} {base : Heap} (T : Txt K mg) (d : Addr) (cdv : Value) (A : Around) (outer : List PySem.Env) (s : Shared) (H : Hp) (E : XK), Room 1 (A.deeper (envOfC "_law_size" (defScope s_law_size) s.heap.objs.size T.a_law_size cdv)) →
    PSs (cxOf CX0 P w K mg base ["draws", "script", "kind", "number"] "_law_size" (defScope s_law_size) T.a_law_size cdv A outer s H E).nox (defBody s_law_size) (tS K (L_law_size_0 d) [] [] (rsM d (oLst tInt) tInt) (m d)) } :=
  ⟨_, fun {P w K mg base} T d cdv A outer s H E hr =>
    have h : PSs (cxOf CX0 P w K mg base ["draws", "script", "kind", "number"] "_law_size" (defScope s_law_size) T.a_law_size cdv A outer s H E).nox (defBody s_law_size) (tS K (L_law_size_0 d) [] [] (rsM d (oLst tInt) tInt) _) :=
    (y_cons (La := (L_law_size_1 d)) (y_asg (.s (.s .z)) sc_law_size.nd rfl (by first | exact .inl rfl | exact .inr rfl) (y_callM .z rfl (by first | exact .inl rfl | exact .inr (.inl rfl) | exact .inr (.inr rfl)) (ok_law_take T) (hr.mono (by decide)) (by rfl) T.m_law_take T.F_law_take.kp T.b_law_take (a_one y_int)))
      (y_cons (La := (L_law_size_2 d)) (y_asg (.s (.s (.s .z))) sc_law_size.nd rfl (by first | exact .inl rfl | exact .inr rfl) (y_callM .z rfl (by first | exact .inl rfl | exact .inr (.inl rfl) | exact .inr (.inr rfl)) (ok_law_take T) (hr.mono (by decide)) (by rfl) T.m_law_take T.F_law_take.kp T.b_law_take (a_one y_int)))
      (y_cons (La := (L_law_size_2 d)) (y_ifJ (y_cmpT op_eq o_eqI (v_ (.s (.s .z))) y_int (nomark _))
       (y_cons (La := (L_law_size_2 d)) (y_asg (.s (.s (.s .z))) sc_law_size.nd rfl (by first | exact .inl rfl | exact .inr rfl) (y_binT op_add o_add (v_ (.s (.s (.s .z)))) (y_bin op_mulA o_mul (y_binT op_add o_add y_int (y_callM .z rfl (by first | exact .inl rfl | exact .inr (.inl rfl) | exact .inr (.inr rfl)) (ok_law_take T) (hr.mono (by decide)) (by rfl) T.m_law_take T.F_law_take.kp T.b_law_take (a_one y_int))) (y_lit (c := 1000000000000000) op_pow o_pow (by first | (rw [powC_eq]; decide +kernel) | (rw [mulC_eq]; decide +kernel) | (rw [divC_eq]; decide +kernel) | decide +kernel)))))
      y_nil)
       y_nil)
      (y_cons (La := (L_law_size_3 d)) (y_ifJ (PW.pt (y_andP (fun _ _ _ => rfl) (fun _ _ _ => rfl) (y_cmpT op_eq o_eqI (v_ (.s (.s .z))) y_int (nomark _)) (y_and1 (y_cmpT op_gt o_gt (y_cB call_len_seq c_lenC (by rfl) T.n_len (by decide +kernel) (a_one (v_ (.s .z)))) y_int (nomark _)))))
       (y_cons (La := (L_law_size_2 d)) (y_asg (.s (.s (.s .z))) sc_law_size.nd rfl (by first | exact .inl rfl | exact .inr rfl) (y_binT op_add o_add (v_ (.s (.s (.s .z)))) (y_bin op_mod o_mod (y_cT call_int1 c_int (by rfl) T.n_int (by decide +kernel) (a_one (y_cB call_abs c_abs (by rfl) T.n_abs (by decide +kernel) (a_one (y_cT call_int1 c_int (by rfl) T.n_int (by decide +kernel) (a_one (y_ix ix_list ix_c (v_ (.s .z)) (y_callM .z rfl (by first | exact .inl rfl | exact .inr (.inl rfl) | exact .inr (.inr rfl)) (ok_law_take T) (hr.mono (by decide)) (by rfl) T.m_law_take T.F_law_take.kp T.b_law_take (a_one (y_cB call_len_seq c_lenC (by rfl) T.n_len (by decide +kernel) (a_one (v_ (.s .z))))))))))))) (y_lit (c := 1000000000000000000000000000000000000000000000000000000000000) op_pow o_pow (by first | (rw [powC_eq]; decide +kernel) | (rw [mulC_eq]; decide +kernel) | (rw [divC_eq]; decide +kernel) | decide +kernel)))))
      (y_fg (La := (L_law_size_3 d)) (.s .z) y_nil))
       (y_fg (La := (L_law_size_3 d)) (.s .z) y_nil))
      (y_cons (La := (L_law_size_4 d)) (y_ifJ (y_cmpT op_eq o_eqI (v_ (.s (.s .z))) y_int (nomark _))
       (y_cons (La := (L_law_size_3 d)) (y_asg (.s (.s (.s .z))) sc_law_size.nd rfl (by first | exact .inl rfl | exact .inr rfl) (y_binT op_add o_add (y_bin op_mulA o_mul (v_ (.s (.s (.s .z)))) y_int) (y_callM .z rfl (by first | exact .inl rfl | exact .inr (.inl rfl) | exact .inr (.inr rfl)) (ok_law_take T) (hr.mono (by decide)) (by rfl) T.m_law_take T.F_law_take.kp T.b_law_take (a_one y_int))))
      (y_fg (La := (L_law_size_4 d)) (.s (.s .z)) y_nil))
       (y_fg (La := (L_law_size_4 d)) (.s (.s .z)) y_nil))
      (y_one (y_retM .z (v_ (.s (.s (.s .z)))))))))))
    (by exact h)⟩
noncomputable def m_law_size (y0 : (List Int)) (y : (List Int)) : Option (Int × (List Int)) := (D_law_size.1 0) _ ((y0, y, (), (), ()) : Env (L_law_size_0 0)) retO
theorem ok_law_size {P : Program} {w : World} {K : Fg} {mg : Str → Option Value} {base : Heap} (T : Txt K mg) : FnOk P w K mg base CX0 2 T.a_law_size T.d_law_size ["draws", "script"] (spM K (oLst tInt) (rOne (tScr tInt)) tInt m_law_size) :=
  fnM (k := 1) (L := fun d => L_law_size_0 d) (L' := fun _ => []) (m := D_law_size.1) (fun d y0 y => (y0, y, (), (), ())) T.F_law_size sc_law_size hsM1 (fun d => parsM1 (n := 2) rfl) (fun _ _ _ => rfl) (fun d cdv A outer s H E hr => D_law_size.2 T d cdv A outer s H E hr)
theorem sc_law_groups : FnScope ["draws", "many", "wide", "rare", "found", "k", "group", "person"] ["draws", "many"] (defScope s_law_groups) := ⟨rfl, rfl, rfl, by decide +kernel, rfl, by decide +kernel, by decide +kernel⟩
abbrev L_law_groups_0 (d : Addr) : List L3.Loc := [lOwn (oLst tInt) (some d), lImm tInt, lNone, lNone, lNone, lNone, lNone, lNone]
abbrev L_law_groups_1 (d : Addr) : List L3.Loc := [lOwn (oLst tInt) (some d), lImm tInt, lImm tInt, lNone, lNone, lNone, lNone, lNone]
abbrev L_law_groups_2 (d : Addr) : List L3.Loc := [lOwn (oLst tInt) (some d), lImm tInt, lImm tInt, lImm tInt, lNone, lNone, lNone, lNone]
abbrev L_law_groups_3 (d : Addr) : List L3.Loc := [lOwn (oLst tInt) (some d), lImm tInt, lImm tInt, lImm tInt, lOwn (oLst (tAll tInt)) none, lNone, lNone, lNone]
abbrev L_law_groups_4 (d : Addr) : List L3.Loc := [lOwn (oLst tInt) (some d), lImm tInt, lImm tInt, lImm tInt, lOwn (oLst (tAll tInt)) none, lImm tInt, lNone, lNone]
abbrev L_law_groups_5 (d : Addr) : List L3.Loc := [lOwn (oLst tInt) (some d), lImm tInt, lImm tInt, lImm tInt, lOwn (oLst (tAll tInt)) none, lImm tInt, lNone, lImm tInt]
abbrev L_law_groups_6 (d : Addr) : List L3.Loc := [lOwn (oLst tInt) (some d), lImm tInt, lImm tInt, lImm tInt, lOwn (oLst (tAll tInt)) none, lImm tInt, lImm (tAll tInt), lNone]
abbrev L_law_groups_7 (d : Addr) : List L3.Loc := [lOwn (oLst tInt) (some d), lImm tInt, lImm tInt, lImm tInt, lOwn (oLst (tAll tInt)) none, lNone, lImm (tAll tInt), lNone]
abbrev L_law_groups_8 (d : Addr) : List L3.Loc := [lOwn (oLst tInt) (some d), lImm tInt, lImm tInt, lImm tInt, lImm (tLst (tAll tInt)), lNone, lNone, lNone]
set_option maxHeartbeats 8000000 in
/-- def _law_groups(draws, many): -/
noncomputable def D_law_groups : { m : (d : Addr) → Ms (L_law_groups_0 d) [] [] (rsM d (oLst tInt) (tAll (tAll tInt))) // ∀ {P : Program} {w : World} {K : Fg} {mg : Str → Option Value} {base : Heap} (T : Txt K mg) (d : Addr) (cdv : Value) (A : Around) (outer : List PySem.Env) (s : Shared) (H : Hp) (E : XK), Room 1 (A.deeper (envOfC "_law_groups" (defScope s_law_groups) s.heap.objs.size T.a_law_groups cdv)) →
    PSs (cxOf CX0 P w K mg base ["draws", "many", "wide", "rare", "found", "k", "group", "person"] "_law_groups" (defScope s_law_groups) T.a_law_groups cdv A outer s H E).nox (defBody s_law_groups) (tS K (L_law_groups_0 d) [] [] (rsM d (oLst tInt) (tAll (tAll tInt))) (m d)) } :=
  ⟨_, fun {P w K mg base} T d cdv A outer s H E hr =>
    have h : PSs (cxOf CX0 P w K mg base ["draws", "many", "wide", "rare", "found", "k", "group", "person"] "_law_groups" (defScope s_law_groups) T.a_law_groups cdv A outer s H E).nox (defBody s_law_groups) (tS K (L_law_groups_0 d) [] [] (rsM d (oLst tInt) (tAll (tAll tInt))) _) :=
    (y_cons (La := (L_law_groups_1 d)) (y_asg (.s (.s .z)) sc_law_groups.nd rfl (by first | exact .inl rfl | exact .inr rfl) (y_binT op_add o_add y_int (y_callM .z rfl (by first | exact .inl rfl | exact .inr (.inl rfl) | exact .inr (.inr rfl)) (ok_law_take T) (hr.mono (by decide)) (by rfl) T.m_law_take T.F_law_take.kp T.b_law_take (a_one y_int))))
      (y_cons (La := (L_law_groups_2 d)) (y_asg (.s (.s (.s .z))) sc_law_groups.nd rfl (by first | exact .inl rfl | exact .inr rfl) (y_binT op_add o_add y_int (y_callM .z rfl (by first | exact .inl rfl | exact .inr (.inl rfl) | exact .inr (.inr rfl)) (ok_law_take T) (hr.mono (by decide)) (by rfl) T.m_law_take T.F_law_take.kp T.b_law_take (a_one y_int))))
      (y_cons (La := (L_law_groups_3 d)) (y_asgO (.s (.s (.s (.s .z)))) sc_law_groups.nd rfl (by first | exact .inl rfl | exact .inr rfl) (y_lst a_nilA))
      (y_cons (La := (L_law_groups_3 d)) (y_for (vs := [5]) (Lb := (L_law_groups_4 d)) PassesOwn.never rfl (i_range (by rfl) T.n_range (v_ (.s .z))) (g_name (i := 5) (.s (.s (.s (.s (.s .z))))) (by exact sc_law_groups.nd) rfl (by first | exact .inl rfl | exact .inr rfl))
       (y_cons (La := (L_law_groups_6 d)) (y_asg (.s (.s (.s (.s (.s (.s .z)))))) sc_law_groups.nd rfl (by first | exact .inl rfl | exact .inr rfl) (y_cT call_tuple_of c_tuple (by rfl) T.n_tuple (by decide +kernel) (a_one (y_fz (O := (oLst tInt)) (y_comp (own := [("person", 7)]) (vs := [7]) (ws := [7]) (Lw := (L_law_groups_4 d)) (Lb := (L_law_groups_5 d)) (.keep (by decide) (.keep (by decide) (.keep (by decide) (.keep (by decide) (.keep (by decide) (.keep (by decide) (.keep (by decide) (.non .nil)))))))) (.keep (by decide) (.keep (by decide) (.keep (by decide) (.keep (by decide) (.keep (by decide) (.keep (by decide) (.keep (by decide) (.imm .nil)))))))) rfl (by decide) rfl sc_law_groups.nd (i_range (by rfl) T.n_range (v_ (.s (.s .z)))) (blkOk_by (own := [("person", 7)]) (N := ["draws", "many", "wide", "rare", "found", "k", "group", "person"]) (sc := defScope s_law_groups) (by decide +kernel)) (fun _ _ _ _ _ => (g_name (i := 7) (.s (.s (.s (.s (.s (.s (.s .z))))))) (by exact sc_law_groups.nd) rfl (by first | exact .inl rfl | exact .inr rfl))) (fun _ _ _ _ _ => (t_one (y_cmpT op_eq o_eqI (y_callM .z rfl (by first | exact .inl rfl | exact .inr (.inl rfl) | exact .inr (.inr rfl)) (ok_law_take T) (hr.mono (by decide)) (by rfl) T.m_law_take T.F_law_take.kp T.b_law_take (a_one (y_binT op_add o_add y_int (v_ (.s (.s (.s .z))))))) y_int (nomark _)))) (fun _ _ _ _ _ => (y_bin op_mulA o_mul y_int (v_ (.s (.s (.s (.s (.s (.s (.s .z)))))))))))))))
      (y_cons (La := (L_law_groups_7 d)) (y_ifJ (PW.pt (y_and (y_cmpT op_gt o_gt (v_ (.s (.s (.s (.s (.s .z)))))) y_int (nomark _)) (y_and1 (y_cmpT op_eq o_eqI (y_callM .z rfl (by first | exact .inl rfl | exact .inr (.inl rfl) | exact .inr (.inr rfl)) (ok_law_take T) (hr.mono (by decide)) (by rfl) T.m_law_take T.F_law_take.kp T.b_law_take (a_one y_int)) y_int (nomark _)))))
       (y_cons (La := (L_law_groups_6 d)) (y_asg (.s (.s (.s (.s (.s (.s .z)))))) sc_law_groups.nd rfl (by first | exact .inl rfl | exact .inr rfl) (y_slT (y_ixO (.s (.s (.s (.s .z)))) rfl (by first | exact .inl rfl | exact .inr (.inl rfl) | exact .inr (.inr rfl)) (y_un un_neg o_neg y_int)) (p_some (y_callM .z rfl (by first | exact .inl rfl | exact .inr (.inl rfl) | exact .inr (.inr rfl)) (ok_law_take T) (hr.mono (by decide)) (by rfl) T.m_law_take T.F_law_take.kp T.b_law_take (a_one y_int))) p_none))
      (y_fg (La := (L_law_groups_7 d)) (.s (.s (.s (.s (.s .z))))) y_nil))
       (y_fg (La := (L_law_groups_7 d)) (.s (.s (.s (.s (.s .z))))) y_nil))
      (y_cons (La := (L_law_groups_7 d)) (y_expr (y_met (.s (.s (.s (.s .z)))) rfl (by first | exact .inl rfl | exact .inr (.inl rfl) | exact .inr (.inr rfl)) PySem.F.plainAttrs_list PySem.F.slot_list_append PySem.F.type_list_append mt_append ownTy m_append (a_one (v_ (.s (.s (.s (.s (.s (.s .z))))))))))
      (y_fg (La := (L_law_groups_3 d)) (.s (.s (.s (.s (.s (.s .z)))))) y_nil)))))
      (y_lock (La := (L_law_groups_8 d)) (.s (.s (.s (.s .z)))) (.s (.s (.s (.s .z)))) (y_one (y_retM .z (y_cT call_tuple_of c_tuple (by rfl) T.n_tuple (by decide +kernel) (a_one (v_ (.s (.s (.s (.s .z))))))))))))))
    (by exact h)⟩
noncomputable def m_law_groups (y0 : (List Int)) (y : Int) : Option ((List (List Int)) × (List Int)) := (D_law_groups.1 0) _ ((y0, y, (), (), (), (), (), (), ()) : Env (L_law_groups_0 0)) retO
theorem ok_law_groups {P : Program} {w : World} {K : Fg} {mg : Str → Option Value} {base : Heap} (T : Txt K mg) : FnOk P w K mg base CX0 2 T.a_law_groups T.d_law_groups ["draws", "many"] (spM K (oLst tInt) (rOne tInt) (tAll (tAll tInt)) m_law_groups) :=
  fnM (k := 1) (L := fun d => L_law_groups_0 d) (L' := fun _ => []) (m := D_law_groups.1) (fun d y0 y => (y0, y, (), (), (), (), (), (), ())) T.F_law_groups sc_law_groups hsM1 (fun d => parsM1 (n := 6) rfl) (fun _ _ _ => rfl) (fun d cdv A outer s H E hr => D_law_groups.2 T d cdv A outer s H E hr)
theorem sc_law_counts : FnScope ["groups", "sent", "found", "number", "person"] ["groups", "sent"] (defScope s_law_counts) := ⟨rfl, rfl, rfl, by decide +kernel, rfl, by decide +kernel, by decide +kernel⟩
abbrev L_law_counts_0 : List L3.Loc := [lImm (tAll (tAll tInt)), lImm (tAll tInt), lNone, lNone, lNone]
abbrev L_law_counts_1 : List L3.Loc := [lImm (tAll (tAll tInt)), lImm (tAll tInt), lOwn (oDict kInt tInt) none, lNone, lNone]
abbrev L_law_counts_2 : List L3.Loc := [lImm (tAll (tAll tInt)), lImm (tAll tInt), lOwn (oDict kInt tInt) none, lImm tInt, lNone]
abbrev L_law_counts_3 : List L3.Loc := [lImm (tAll (tAll tInt)), lImm (tAll tInt), lOwn (oDict kInt tInt) none, lImm tInt, lImm tInt]
set_option maxHeartbeats 8000000 in
/-- def _law_counts(groups, sent): -/
noncomputable def D_law_counts : { m : Ms (L_law_counts_0) [] [] (rsO (oDict kInt tInt)) // ∀ {P : Program} {w : World} {K : Fg} {mg : Str → Option Value} {base : Heap} (T : Txt K mg) (cdv : Value) (A : Around) (outer : List PySem.Env) (s : Shared) (H : Hp) (E : XK), Room 0 (A.deeper (envOfC "_law_counts" (defScope s_law_counts) s.heap.objs.size T.a_law_counts cdv)) →
    PSs (cxOf CX0 P w K mg base ["groups", "sent", "found", "number", "person"] "_law_counts" (defScope s_law_counts) T.a_law_counts cdv A outer s H E).nox (defBody s_law_counts) (tS K (L_law_counts_0) [] [] (rsO (oDict kInt tInt)) (m)) } :=
  ⟨_, fun {P w K mg base} T cdv A outer s H E hr =>
    have h : PSs (cxOf CX0 P w K mg base ["groups", "sent", "found", "number", "person"] "_law_counts" (defScope s_law_counts) T.a_law_counts cdv A outer s H E).nox (defBody s_law_counts) (tS K (L_law_counts_0) [] [] (rsO (oDict kInt tInt)) _) :=
    (y_cons (La := L_law_counts_1) (y_asgO (.s (.s .z)) sc_law_counts.nd rfl (by first | exact .inl rfl | exact .inr rfl) (y_dnew (d := kInt) (U := tInt)))
      (y_cons (La := L_law_counts_1) (y_for (vs := [3]) (Lb := L_law_counts_2) PassesOwn.never rfl (i_tup (v_ (.s .z))) (g_name (i := 3) (.s (.s (.s .z))) (by exact sc_law_counts.nd) rfl (by first | exact .inl rfl | exact .inr rfl))
       (y_cons (La := L_law_counts_2) (y_for (vs := [4]) (Lb := L_law_counts_3) PassesOwn.never rfl (i_tup (y_ix ix_tup ix_t (v_ .z) (v_ (.s (.s (.s .z)))))) (g_name (i := 4) (.s (.s (.s (.s .z)))) (by exact sc_law_counts.nd) rfl (by first | exact .inl rfl | exact .inr rfl))
       (y_cons (La := L_law_counts_3) (y_dput hr.units65 kInt (.s (.s .z)) (y_binT op_add o_add (y_dgt2O hr.units65 kInt (.s (.s .z)) (v_ (.s (.s (.s (.s .z))))) y_int) y_int) (v_ (.s (.s (.s (.s .z))))))
      (y_fg (La := L_law_counts_2) (.s (.s (.s (.s .z)))) y_nil)))
      (y_fg (La := L_law_counts_1) (.s (.s (.s .z))) y_nil)))
      (y_one (y_retN (.s (.s .z)) rfl (by first | exact .inl rfl | exact .inr (.inl rfl) | exact .inr (.inr rfl))))))
    (by exact h)⟩
noncomputable def m_law_counts (y : (List (List Int)) × (List Int)) : Option (List (Int × Int)) := D_law_counts.1 _ ((y.1, y.2, (), (), (), ()) : Env L_law_counts_0) retO
theorem ok_law_counts {P : Program} {w : World} {K : Fg} {mg : Str → Option Value} {base : Heap} (T : Txt K mg) : FnOk P w K mg base CX0 1 T.a_law_counts T.d_law_counts ["groups", "sent"] (spO K (rCons (tAll (tAll tInt)) (rOne (tAll tInt))) (oDict kInt tInt) m_law_counts) :=
  fnO (k := 0) (L := L_law_counts_0) (L' := []) (m := D_law_counts.1) (fun y => (y.1, y.2, (), (), (), ())) T.F_law_counts sc_law_counts hs2 (pars2 (n := 3) rfl) (fun _ => rfl) (fun cdv A outer s H E hr => D_law_counts.2 T cdv A outer s H E hr)
theorem sc_law_sets : FnScope ["many", "found", "number", "some"] ["many"] (defScope s_law_sets) := ⟨rfl, rfl, rfl, by decide +kernel, rfl, by decide +kernel, by decide +kernel⟩
abbrev L_law_sets_0 : List L3.Loc := [lImm tInt, lNone, lNone, lNone]
abbrev L_law_sets_1 : List L3.Loc := [lImm tInt, lImm (tLst (tAll tInt)), lNone, lNone]
abbrev L_law_sets_2 : List L3.Loc := [lImm tInt, lImm (tLst (tAll tInt)), lImm tInt, lNone]
abbrev L_law_sets_3 : List L3.Loc := [lImm tInt, lImm (tLst (tAll tInt)), lImm tInt, lImm (tAll tInt)]
set_option maxHeartbeats 8000000 in
/-- def _law_sets(many): -/
noncomputable def D_law_sets : { m : Ms (L_law_sets_0) [] [] (rsT (tLst (tAll tInt))) // ∀ {P : Program} {w : World} {K : Fg} {mg : Str → Option Value} {base : Heap} (T : Txt K mg) (cdv : Value) (A : Around) (outer : List PySem.Env) (s : Shared) (H : Hp) (E : XK), Room 0 (A.deeper (envOfC "_law_sets" (defScope s_law_sets) s.heap.objs.size T.a_law_sets cdv)) →
    PSs (cxOf CX0 P w K mg base ["many", "found", "number", "some"] "_law_sets" (defScope s_law_sets) T.a_law_sets cdv A outer s H E).nox (defBody s_law_sets) (tS K (L_law_sets_0) [] [] (rsT (tLst (tAll tInt))) (m)) } :=
  ⟨_, fun {P w K mg base} T cdv A outer s H E hr =>
    have h : PSs (cxOf CX0 P w K mg base ["many", "found", "number", "some"] "_law_sets" (defScope s_law_sets) T.a_law_sets cdv A outer s H E).nox (defBody s_law_sets) (tS K (L_law_sets_0) [] [] (rsT (tLst (tAll tInt))) _) :=
    (y_cons (La := L_law_sets_1) (y_asg (.s .z) sc_law_sets.nd rfl (by first | exact .inl rfl | exact .inr rfl) (y_fz (O := (oLst (tAll tInt))) (y_lst (a_consA (y_tupA a_nilA) a_nilA))))
      (y_cons (La := L_law_sets_1) (y_for (vs := [2]) (Lb := L_law_sets_2) PassesOwn.never rfl (i_range (by rfl) T.n_range (v_ .z)) (g_name (i := 2) (.s (.s .z)) (by exact sc_law_sets.nd) rfl (by first | exact .inl rfl | exact .inr rfl))
       (y_cons (La := L_law_sets_2) (y_asg (.s .z) sc_law_sets.nd rfl (by first | exact .inl rfl | exact .inr rfl) (y_fz (O := (oLst (tAll tInt))) (y_binO op_cat o_catL (v_ (.s .z)) (y_fz (O := (oLst (tAll tInt))) (y_comp (own := [("some", 3)]) (vs := [3]) (ws := [3]) (Lw := L_law_sets_2) (Lb := L_law_sets_3) (.keep (by decide) (.keep (by decide) (.keep (by decide) (.non .nil)))) (.keep (by decide) (.keep (by decide) (.keep (by decide) (.imm .nil)))) rfl (by decide) rfl sc_law_sets.nd (i_list (v_ (.s .z))) (blkOk_by (own := [("some", 3)]) (N := ["many", "found", "number", "some"]) (sc := defScope s_law_sets) (by decide +kernel)) (fun _ _ _ _ _ => (g_name (i := 3) (.s (.s (.s .z))) (by exact sc_law_sets.nd) rfl (by first | exact .inl rfl | exact .inr rfl))) (fun _ _ _ _ _ => t_nil) (fun _ _ _ _ _ => (y_bin op_catA o_catT (v_ (.s (.s (.s .z)))) (y_tupA (a_consA (v_ (.s (.s .z))) a_nilA)))))))))
      (y_fg (La := L_law_sets_1) (.s (.s .z)) y_nil)))
      (y_one (y_ret (v_ (.s .z))))))
    (by exact h)⟩
noncomputable def m_law_sets (y : Int) : Option (List (List Int)) := D_law_sets.1 _ ((y, (), (), (), ()) : Env L_law_sets_0) retO
theorem ok_law_sets {P : Program} {w : World} {K : Fg} {mg : Str → Option Value} {base : Heap} (T : Txt K mg) : FnOk P w K mg base CX0 1 T.a_law_sets T.d_law_sets ["many"] (spP K (rOne tInt) (tLst (tAll tInt)) m_law_sets) :=
  fnP (k := 0) (L := L_law_sets_0) (L' := []) (m := D_law_sets.1) (fun y => (y, (), (), (), ())) T.F_law_sets sc_law_sets hs1 (pars1 (n := 3) rfl) (fun _ => rfl) (fun cdv A outer s H E hr => D_law_sets.2 T cdv A outer s H E hr)
theorem sc_law_sent_right : FnScope ["draws", "groups", "sent", "counts", "told", "due", "place", "every", "people", "k", "person", "pair", "number", "group"] ["draws", "groups"] (defScope s_law_sent_right) := ⟨rfl, rfl, rfl, by decide +kernel, rfl, by decide +kernel, by decide +kernel⟩
abbrev L_law_sent_right_0 (d : Addr) : List L3.Loc := [lOwn (oLst tInt) (some d), lImm (tAll (tAll tInt)), lNone, lNone, lNone, lNone, lNone, lNone, lNone, lNone, lNone, lNone, lNone, lNone]
abbrev L_law_sent_right_1 (d : Addr) : List L3.Loc := [lOwn (oLst tInt) (some d), lImm (tAll (tAll tInt)), lNone, lNone, lNone, lNone, lNone, lNone, lNone, lImm tInt, lNone, lNone, lNone, lNone]
abbrev L_law_sent_right_2 (d : Addr) : List L3.Loc := [lOwn (oLst tInt) (some d), lImm (tAll (tAll tInt)), lImm (tAllD tInt), lNone, lNone, lNone, lNone, lNone, lNone, lNone, lNone, lNone, lNone, lNone]
abbrev L_law_sent_right_3 (d : Addr) : List L3.Loc := [lOwn (oLst tInt) (some d), lImm (tAll (tAll tInt)), lImm (tAllD tInt), lImm (tDict kInt tInt), lNone, lNone, lNone, lNone, lNone, lNone, lNone, lNone, lNone, lNone]
abbrev L_law_sent_right_4 (d : Addr) : List L3.Loc := [lOwn (oLst tInt) (some d), lImm (tAll (tAll tInt)), lImm (tAllD tInt), lImm (tDict kInt tInt), lImm (tAll (tTup (rCons tInt (rOne tInt)))), lNone, lNone, lNone, lNone, lNone, lNone, lNone, lNone, lNone]
abbrev L_law_sent_right_5 (d : Addr) : List L3.Loc := [lOwn (oLst tInt) (some d), lImm (tAll (tAll tInt)), lImm (tAllD tInt), lImm (tDict kInt tInt), lImm (tAll (tTup (rCons tInt (rOne tInt)))), lNone, lNone, lNone, lNone, lNone, lImm tInt, lNone, lNone, lNone]
abbrev L_law_sent_right_6 (d : Addr) : List L3.Loc := [lOwn (oLst tInt) (some d), lImm (tAll (tAll tInt)), lImm (tAllD tInt), lImm (tDict kInt tInt), lImm (tAll (tTup (rCons tInt (rOne tInt)))), lNone, lNone, lNone, lNone, lNone, lNone, lImm (tTup (rCons tInt (rOne tInt))), lNone, lNone]
abbrev L_law_sent_right_7 (d : Addr) : List L3.Loc := [lOwn (oLst tInt) (some d), lImm (tAll (tAll tInt)), lImm (tAllD tInt), lImm (tDict kInt tInt), lImm (tAll (tTup (rCons tInt (rOne tInt)))), lNone, lNone, lNone, lNone, lNone, lNone, lNone, lImm tInt, lNone]
abbrev L_law_sent_right_8 (d : Addr) : List L3.Loc := [lOwn (oLst tInt) (some d), lImm (tAll (tAll tInt)), lImm (tAllD tInt), lImm (tDict kInt tInt), lNone, lNone, lNone, lNone, lNone, lNone, lImm tInt, lNone, lNone, lNone]
abbrev L_law_sent_right_9 (d : Addr) : List L3.Loc := [lOwn (oLst tInt) (some d), lImm (tAll (tAll tInt)), lImm (tAllD tInt), lImm (tDict kInt tInt), lNone, lOwn (oLst tInt) none, lNone, lNone, lNone, lNone, lNone, lNone, lNone, lNone]
abbrev L_law_sent_right_10 (d : Addr) : List L3.Loc := [lOwn (oLst tInt) (some d), lImm (tAll (tAll tInt)), lImm (tAllD tInt), lImm (tDict kInt tInt), lNone, lOwn (oLst tInt) none, lImm tInt, lNone, lNone, lNone, lNone, lNone, lNone, lNone]
abbrev L_law_sent_right_11 (d : Addr) : List L3.Loc := [lOwn (oLst tInt) (some d), lImm (tAll (tAll tInt)), lImm (tAllD tInt), lImm (tDict kInt tInt), lNone, lOwn (oLst tInt) none, lImm tInt, lNone, lNone, lNone, lImm tInt, lNone, lNone, lNone]
abbrev L_law_sent_right_12 (d : Addr) : List L3.Loc := [lOwn (oLst tInt) (some d), lImm (tAll (tAll tInt)), lImm (tAllD tInt), lImm (tDict kInt tInt), lNone, lImm (tLst tInt), lNone, lNone, lNone, lNone, lNone, lNone, lNone, lNone]
abbrev L_law_sent_right_13 (d : Addr) : List L3.Loc := [lOwn (oLst tInt) (some d), lImm (tAll (tAll tInt)), lImm (tAllD tInt), lImm (tDict kInt tInt), lNone, lImm (tLst tInt), lImm tInt, lNone, lNone, lNone, lNone, lNone, lNone, lNone]
abbrev L_law_sent_right_14 (d : Addr) : List L3.Loc := [lOwn (oLst tInt) (some d), lImm (tAll (tAll tInt)), lNone, lNone, lNone, lImm (tLst tInt), lNone, lNone, lNone, lNone, lNone, lNone, lNone, lNone]
abbrev L_law_sent_right_15 (d : Addr) : List L3.Loc := [lOwn (oLst tInt) (some d), lImm (tAll (tAll tInt)), lNone, lImm (tDict kInt tInt), lNone, lImm (tLst tInt), lNone, lNone, lNone, lNone, lNone, lNone, lNone, lNone]
abbrev L_law_sent_right_16 (d : Addr) : List L3.Loc := [lOwn (oLst tInt) (some d), lImm (tAll (tAll tInt)), lNone, lNone, lNone, lNone, lNone, lOwn (oDict kInt tInt) none, lNone, lNone, lNone, lNone, lNone, lNone]
abbrev L_law_sent_right_17 (d : Addr) : List L3.Loc := [lOwn (oLst tInt) (some d), lImm (tAll (tAll tInt)), lNone, lNone, lNone, lNone, lNone, lImm (tDictF kInt tInt), lNone, lNone, lNone, lNone, lNone, lNone]
abbrev L_law_sent_right_18 (d : Addr) : List L3.Loc := [lOwn (oLst tInt) (some d), lImm (tAll (tAll tInt)), lNone, lNone, lNone, lNone, lNone, lImm (tDictF kInt tInt), lNone, lNone, lImm tInt, lNone, lNone, lNone]
abbrev L_law_sent_right_19 (d : Addr) : List L3.Loc := [lOwn (oLst tInt) (some d), lImm (tAll (tAll tInt)), lNone, lNone, lNone, lNone, lNone, lImm (tDictF kInt tInt), lImm (tLst tInt), lNone, lNone, lNone, lNone, lNone]
abbrev L_law_sent_right_20 (d : Addr) : List L3.Loc := [lOwn (oLst tInt) (some d), lImm (tAll (tAll tInt)), lNone, lNone, lNone, lNone, lNone, lImm (tDictF kInt tInt), lImm (tLst tInt), lNone, lImm tInt, lNone, lNone, lNone]
abbrev L_law_sent_right_21 (d : Addr) : List L3.Loc := [lOwn (oLst tInt) (some d), lImm (tAll (tAll tInt)), lNone, lNone, lNone, lNone, lNone, lImm (tDictF kInt tInt), lImm (tLst tInt), lNone, lImm tInt, lNone, lNone, lImm (tAll tInt)]
set_option maxHeartbeats 8000000 in
/-- def _law_sent_right(draws, groups): -/
noncomputable def D_law_sent_right : { m : (d : Addr) → Ms (L_law_sent_right_0 d) [] [] (rsM d (oLst tInt) tBool) // ∀ {P : Program} {w : World} {K : Fg} {mg : Str → Option Value} {base : Heap} (T : Txt K mg) (d : Addr) (cdv : Value) (A : Around) (outer : List PySem.Env) (s : Shared) (H : Hp) (E : XK), Room 40 (A.deeper (envOfC "_law_sent_right" (defScope s_law_sent_right) s.heap.objs.size T.a_law_sent_right cdv)) →
    PSs (cxOf CX0 P w K mg base ["draws", "groups", "sent", "counts", "told", "due", "place", "every", "people", "k", "person", "pair", "number", "group"] "_law_sent_right" (defScope s_law_sent_right) T.a_law_sent_right cdv A outer s H E).nox (defBody s_law_sent_right) (tS K (L_law_sent_right_0 d) [] [] (rsM d (oLst tInt) tBool) (m d)) } :=
  ⟨_, fun {P w K mg base} T d cdv A outer s H E hr =>
    have h : PSs (cxOf CX0 P w K mg base ["draws", "groups", "sent", "counts", "told", "due", "place", "every", "people", "k", "person", "pair", "number", "group"] "_law_sent_right" (defScope s_law_sent_right) T.a_law_sent_right cdv A outer s H E).nox (defBody s_law_sent_right) (tS K (L_law_sent_right_0 d) [] [] (rsM d (oLst tInt) tBool) _) :=
    (y_cons (La := (L_law_sent_right_2 d)) (y_asg (.s (.s .z)) sc_law_sent_right.nd rfl (by first | exact .inl rfl | exact .inr rfl) (y_cT call_tuple_ofX c_tupleX (by rfl) T.n_tuple (by decide +kernel) (a_one (y_fz (O := (oLst tInt)) (y_comp (own := [("k", 9)]) (vs := [9]) (ws := [9]) (Lw := (L_law_sent_right_0 d)) (Lb := (L_law_sent_right_1 d)) (.keep (by decide) (.keep (by decide) (.keep (by decide) (.keep (by decide) (.keep (by decide) (.keep (by decide) (.keep (by decide) (.keep (by decide) (.keep (by decide) (.non (.keep (by decide) (.keep (by decide) (.keep (by decide) (.keep (by decide) .nil)))))))))))))) (.keep (by decide) (.keep (by decide) (.keep (by decide) (.keep (by decide) (.keep (by decide) (.keep (by decide) (.keep (by decide) (.keep (by decide) (.keep (by decide) (.imm (.keep (by decide) (.keep (by decide) (.keep (by decide) (.keep (by decide) .nil)))))))))))))) rfl (by decide) rfl sc_law_sent_right.nd (i_range (by rfl) T.n_range (y_bin op_mulA o_mul (y_callM .z rfl (by first | exact .inl rfl | exact .inr (.inl rfl) | exact .inr (.inr rfl)) (ok_law_take T) (hr.mono (by decide)) (by rfl) T.m_law_take T.F_law_take.kp T.b_law_take (a_one y_int)) (y_cT call_int1 c_intB (by rfl) T.n_int (by decide +kernel) (a_one (y_cmp op_gt o_gt (y_cB call_len_seq c_lenT (by rfl) T.n_len (by decide +kernel) (a_one (v_ (.s .z)))) y_int (nomark _)))))) (blkOk_by (own := [("k", 9)]) (N := ["draws", "groups", "sent", "counts", "told", "due", "place", "every", "people", "k", "person", "pair", "number", "group"]) (sc := defScope s_law_sent_right) (by decide +kernel)) (fun _ _ _ _ _ => (g_name (i := 9) (.s (.s (.s (.s (.s (.s (.s (.s (.s .z))))))))) (by exact sc_law_sent_right.nd) rfl (by first | exact .inl rfl | exact .inr rfl))) (fun _ _ _ _ _ => t_nil) (fun _ _ _ _ _ => (y_callM .z rfl (by first | exact .inl rfl | exact .inr (.inl rfl) | exact .inr (.inr rfl)) (ok_law_take T) (hr.mono (by decide)) (by rfl) T.m_law_take T.F_law_take.kp T.b_law_take (a_one (y_cB call_len_seq c_lenT (by rfl) T.n_len (by decide +kernel) (a_one (v_ (.s .z))))))))))))
      (y_cons (La := (L_law_sent_right_3 d)) (y_asg (.s (.s (.s .z))) sc_law_sent_right.nd rfl (by first | exact .inl rfl | exact .inr rfl) (y_fz (O := (oDict kInt tInt)) (y_callO (ok_law_counts T) (hr.mono (by decide)) (by rfl) T.m_law_counts T.F_law_counts.kp T.b_law_counts (a_cons (v_ (.s .z)) (a_one (y_tD (v_ (.s (.s .z)))))))))
      (y_cons (La := (L_law_sent_right_4 d)) (y_asg (.s (.s (.s (.s .z)))) sc_law_sent_right.nd rfl (by first | exact .inl rfl | exact .inr rfl) (y_tD (y_call (ok_heard_by T) (hr.mono (by decide)) (by rfl) T.m_heard_by T.F_heard_by.kp T.b_heard_by (a_cons (v_ (.s .z)) (a_one (y_tD (v_ (.s (.s .z)))))))))
      (y_cons (La := (L_law_sent_right_3 d)) (y_if (PW.pt (y_or (y_not (y_val (y_same (dAll (dTup (eCons dInt (eOne dInt)))) same_law (ok_law_same T) (hr.mono (by decide)) (by rfl) T.m_law_same T.F_law_same.kp T.b_law_same (v_ (.s (.s (.s (.s .z))))) (y_cT call_tuple_of c_tuple (by rfl) T.n_tuple (by decide +kernel) (a_one (y_fz (O := (oLst (tTup (rCons tInt (rOne tInt))))) (y_comp (own := [("person", 10)]) (vs := [10]) (ws := [10]) (Lw := (L_law_sent_right_4 d)) (Lb := (L_law_sent_right_5 d)) (.keep (by decide) (.keep (by decide) (.keep (by decide) (.keep (by decide) (.keep (by decide) (.keep (by decide) (.keep (by decide) (.keep (by decide) (.keep (by decide) (.keep (by decide) (.non (.keep (by decide) (.keep (by decide) (.keep (by decide) .nil)))))))))))))) (.keep (by decide) (.keep (by decide) (.keep (by decide) (.keep (by decide) (.keep (by decide) (.keep (by decide) (.keep (by decide) (.keep (by decide) (.keep (by decide) (.keep (by decide) (.imm (.keep (by decide) (.keep (by decide) (.keep (by decide) .nil)))))))))))))) rfl (by decide) rfl sc_law_sent_right.nd (i_list (y_fz (O := (oLst tInt)) (y_cBO (call_sortedDI rfl) c_sortD (by rfl) T.n_sorted (by decide +kernel) (a_one (v_ (.s (.s (.s .z)))))))) (blkOk_by (own := [("person", 10)]) (N := ["draws", "groups", "sent", "counts", "told", "due", "place", "every", "people", "k", "person", "pair", "number", "group"]) (sc := defScope s_law_sent_right) (by decide +kernel)) (fun _ _ _ _ _ => (g_name (i := 10) (.s (.s (.s (.s (.s (.s (.s (.s (.s (.s .z)))))))))) (by exact sc_law_sent_right.nd) rfl (by first | exact .inl rfl | exact .inr rfl))) (fun _ _ _ _ _ => t_nil) (fun _ _ _ _ _ => (y_tup (a_cons (v_ (.s (.s (.s (.s (.s (.s (.s (.s (.s (.s .z))))))))))) (a_one (y_dget hr.units65 kInt (v_ (.s (.s (.s .z)))) (v_ (.s (.s (.s (.s (.s (.s (.s (.s (.s (.s .z)))))))))))))) hl2))))))))) (y_or1 (y_cmpT op_ne o_neI (y_cB (cr_sum rfl) c_sum (by rfl) T.n_sum (by decide +kernel) (a_one (y_fz (O := (oLst tInt)) (y_comp (own := [("pair", 11)]) (vs := [11]) (ws := [11]) (Lw := (L_law_sent_right_4 d)) (Lb := (L_law_sent_right_6 d)) (.keep (by decide) (.keep (by decide) (.keep (by decide) (.keep (by decide) (.keep (by decide) (.keep (by decide) (.keep (by decide) (.keep (by decide) (.keep (by decide) (.keep (by decide) (.keep (by decide) (.non (.keep (by decide) (.keep (by decide) .nil)))))))))))))) (.keep (by decide) (.keep (by decide) (.keep (by decide) (.keep (by decide) (.keep (by decide) (.keep (by decide) (.keep (by decide) (.keep (by decide) (.keep (by decide) (.keep (by decide) (.keep (by decide) (.imm (.keep (by decide) (.keep (by decide) .nil)))))))))))))) rfl (by decide) rfl sc_law_sent_right.nd (i_tup (v_ (.s (.s (.s (.s .z)))))) (blkOk_by (own := [("pair", 11)]) (N := ["draws", "groups", "sent", "counts", "told", "due", "place", "every", "people", "k", "person", "pair", "number", "group"]) (sc := defScope s_law_sent_right) (by decide +kernel)) (fun _ _ _ _ _ => (g_name (i := 11) (.s (.s (.s (.s (.s (.s (.s (.s (.s (.s (.s .z))))))))))) (by exact sc_law_sent_right.nd) rfl (by first | exact .inl rfl | exact .inr rfl))) (fun _ _ _ _ _ => t_nil) (fun _ _ _ _ _ => (y_ixN ix_tup (ix_n n1) (v_ (.s (.s (.s (.s (.s (.s (.s (.s (.s (.s (.s .z)))))))))))))))))) (y_cB (cr_sum rfl) c_sum (by rfl) T.n_sum (by decide +kernel) (a_one (y_fz (O := (oLst tInt)) (y_comp (own := [("number", 12)]) (vs := [12]) (ws := [12]) (Lw := (L_law_sent_right_4 d)) (Lb := (L_law_sent_right_7 d)) (.keep (by decide) (.keep (by decide) (.keep (by decide) (.keep (by decide) (.keep (by decide) (.keep (by decide) (.keep (by decide) (.keep (by decide) (.keep (by decide) (.keep (by decide) (.keep (by decide) (.keep (by decide) (.non (.keep (by decide) .nil)))))))))))))) (.keep (by decide) (.keep (by decide) (.keep (by decide) (.keep (by decide) (.keep (by decide) (.keep (by decide) (.keep (by decide) (.keep (by decide) (.keep (by decide) (.keep (by decide) (.keep (by decide) (.keep (by decide) (.imm (.keep (by decide) .nil)))))))))))))) rfl (by decide) rfl sc_law_sent_right.nd (i_tup (y_tD (v_ (.s (.s .z))))) (blkOk_by (own := [("number", 12)]) (N := ["draws", "groups", "sent", "counts", "told", "due", "place", "every", "people", "k", "person", "pair", "number", "group"]) (sc := defScope s_law_sent_right) (by decide +kernel)) (fun _ _ _ _ _ => (g_name (i := 12) (.s (.s (.s (.s (.s (.s (.s (.s (.s (.s (.s (.s .z)))))))))))) (by exact sc_law_sent_right.nd) rfl (by first | exact .inl rfl | exact .inr rfl))) (fun _ _ _ _ _ => t_nil) (fun _ _ _ _ _ => (y_cB call_len_seq c_lenT (by rfl) T.n_len (by decide +kernel) (a_one (y_ix ix_tup ix_t (v_ (.s .z)) (v_ (.s (.s (.s (.s (.s (.s (.s (.s (.s (.s (.s (.s .z))))))))))))))))))))) (nomark _)))))
       (y_one (y_retM .z y_bl))
       (y_fg (La := (L_law_sent_right_3 d)) (.s (.s (.s (.s .z)))) y_nil))
      (y_cons (La := (L_law_sent_right_3 d)) (y_if (y_not (y_val (y_same (dAll dInt) same_law (ok_law_same T) (hr.mono (by decide)) (by rfl) T.m_law_same T.F_law_same.kp T.b_law_same (y_call (ok_twice_by T) (hr.mono (by decide)) (by rfl) T.m_twice_by T.F_twice_by.kp T.b_twice_by (a_cons (v_ (.s .z)) (a_one (y_tD (v_ (.s (.s .z))))))) (y_cT call_tuple_of c_tuple (by rfl) T.n_tuple (by decide +kernel) (a_one (y_fz (O := (oLst tInt)) (y_comp (own := [("person", 10)]) (vs := [10]) (ws := [10]) (Lw := (L_law_sent_right_3 d)) (Lb := (L_law_sent_right_8 d)) (.keep (by decide) (.keep (by decide) (.keep (by decide) (.keep (by decide) (.keep (by decide) (.keep (by decide) (.keep (by decide) (.keep (by decide) (.keep (by decide) (.keep (by decide) (.non (.keep (by decide) (.keep (by decide) (.keep (by decide) .nil)))))))))))))) (.keep (by decide) (.keep (by decide) (.keep (by decide) (.keep (by decide) (.keep (by decide) (.keep (by decide) (.keep (by decide) (.keep (by decide) (.keep (by decide) (.keep (by decide) (.imm (.keep (by decide) (.keep (by decide) (.keep (by decide) .nil)))))))))))))) rfl (by decide) rfl sc_law_sent_right.nd (i_list (y_fz (O := (oLst tInt)) (y_cBO (call_sortedDI rfl) c_sortD (by rfl) T.n_sorted (by decide +kernel) (a_one (v_ (.s (.s (.s .z)))))))) (blkOk_by (own := [("person", 10)]) (N := ["draws", "groups", "sent", "counts", "told", "due", "place", "every", "people", "k", "person", "pair", "number", "group"]) (sc := defScope s_law_sent_right) (by decide +kernel)) (fun _ _ _ _ _ => (g_name (i := 10) (.s (.s (.s (.s (.s (.s (.s (.s (.s (.s .z)))))))))) (by exact sc_law_sent_right.nd) rfl (by first | exact .inl rfl | exact .inr rfl))) (fun _ _ _ _ _ => (t_one (y_cmpT op_gt o_gt (y_dget hr.units65 kInt (v_ (.s (.s (.s .z)))) (v_ (.s (.s (.s (.s (.s (.s (.s (.s (.s (.s .z)))))))))))) y_int (nomark _)))) (fun _ _ _ _ _ => (v_ (.s (.s (.s (.s (.s (.s (.s (.s (.s (.s .z)))))))))))))))))))
       (y_one (y_retM .z y_bl))
       y_nil)
      (y_cons (La := (L_law_sent_right_9 d)) (y_asgO (.s (.s (.s (.s (.s .z))))) sc_law_sent_right.nd rfl (by first | exact .inl rfl | exact .inr rfl) (y_lst a_nilA))
      (y_cons (La := (L_law_sent_right_9 d)) (y_for (vs := [6]) (Lb := (L_law_sent_right_10 d)) PassesOwn.never rfl (i_range (by rfl) T.n_range (y_cB call_len_seq c_lenT (by rfl) T.n_len (by decide +kernel) (a_one (y_tD (v_ (.s (.s .z))))))) (g_name (i := 6) (.s (.s (.s (.s (.s (.s .z)))))) (by exact sc_law_sent_right.nd) rfl (by first | exact .inl rfl | exact .inr rfl))
       (y_cons (La := (L_law_sent_right_9 d)) (y_ifJ (y_cmpT op_eq o_eqI (y_cB call_len_seq c_lenL (by rfl) T.n_len (by decide +kernel) (a_one (y_fz (O := (oLst tInt)) (y_comp (own := [("person", 10)]) (vs := [10]) (ws := [10]) (Lw := (L_law_sent_right_10 d)) (Lb := (L_law_sent_right_11 d)) (.keep (by decide) (.keep (by decide) (.keep (by decide) (.keep (by decide) (.keep (by decide) (.keep (by decide) (.keep (by decide) (.keep (by decide) (.keep (by decide) (.keep (by decide) (.non (.keep (by decide) (.keep (by decide) (.keep (by decide) .nil)))))))))))))) (.keep (by decide) (.keep (by decide) (.keep (by decide) (.keep (by decide) (.keep (by decide) (.keep (by decide) (.keep (by decide) (.keep (by decide) (.keep (by decide) (.keep (by decide) (.imm (.keep (by decide) (.keep (by decide) (.keep (by decide) .nil)))))))))))))) rfl (by decide) rfl sc_law_sent_right.nd (i_tup (y_ix ix_tup ix_t (v_ (.s .z)) (y_ix ix_tup ix_t (y_tD (v_ (.s (.s .z)))) (v_ (.s (.s (.s (.s (.s (.s .z)))))))))) (blkOk_by (own := [("person", 10)]) (N := ["draws", "groups", "sent", "counts", "told", "due", "place", "every", "people", "k", "person", "pair", "number", "group"]) (sc := defScope s_law_sent_right) (by decide +kernel)) (fun _ _ _ _ _ => (g_name (i := 10) (.s (.s (.s (.s (.s (.s (.s (.s (.s (.s .z)))))))))) (by exact sc_law_sent_right.nd) rfl (by first | exact .inl rfl | exact .inr rfl))) (fun _ _ _ _ _ => (t_one (y_cmpT op_lt o_lt (y_dget hr.units65 kInt (v_ (.s (.s (.s .z)))) (v_ (.s (.s (.s (.s (.s (.s (.s (.s (.s (.s .z)))))))))))) y_int (nomark _)))) (fun _ _ _ _ _ => (v_ (.s (.s (.s (.s (.s (.s (.s (.s (.s (.s .z)))))))))))))))) y_int (nomark _))
       (y_cons (La := (L_law_sent_right_10 d)) (y_expr (y_met (.s (.s (.s (.s (.s .z))))) rfl (by first | exact .inl rfl | exact .inr (.inl rfl) | exact .inr (.inr rfl)) PySem.F.plainAttrs_list PySem.F.slot_list_append PySem.F.type_list_append mt_append ownTy m_append (a_one (v_ (.s (.s (.s (.s (.s (.s .z))))))))))
      (y_fg (La := (L_law_sent_right_9 d)) (.s (.s (.s (.s (.s (.s .z)))))) y_nil))
       (y_fg (La := (L_law_sent_right_9 d)) (.s (.s (.s (.s (.s (.s .z)))))) y_nil))
      y_nil))
      (y_lock (La := (L_law_sent_right_12 d)) (.s (.s (.s (.s (.s .z))))) (.s (.s (.s (.s (.s .z))))) (y_cons (La := (L_law_sent_right_0 d)) (y_if (PW.pt (y_or (y_not (y_val (y_same (dAll dInt) same_law (ok_law_same T) (hr.mono (by decide)) (by rfl) T.m_law_same T.F_law_same.kp T.b_law_same (y_call (ok_needless_sent T) (hr.mono (by decide)) (by rfl) T.m_needless_sent T.F_needless_sent.kp T.b_needless_sent (a_cons (v_ (.s .z)) (a_one (y_tD (v_ (.s (.s .z))))))) (y_cT call_tuple_of c_tuple (by rfl) T.n_tuple (by decide +kernel) (a_one (v_ (.s (.s (.s (.s (.s .z))))))))))) (y_or1 (y_cmpT op_gt o_gt (y_cB call_len_seq c_lenL (by rfl) T.n_len (by decide +kernel) (a_one (y_fz (O := (oLst tInt)) (y_comp (own := [("place", 6)]) (vs := [6]) (ws := [6]) (Lw := (L_law_sent_right_12 d)) (Lb := (L_law_sent_right_13 d)) (.keep (by decide) (.keep (by decide) (.keep (by decide) (.keep (by decide) (.keep (by decide) (.keep (by decide) (.non (.keep (by decide) (.keep (by decide) (.keep (by decide) (.keep (by decide) (.keep (by decide) (.keep (by decide) (.keep (by decide) .nil)))))))))))))) (.keep (by decide) (.keep (by decide) (.keep (by decide) (.keep (by decide) (.keep (by decide) (.keep (by decide) (.imm (.keep (by decide) (.keep (by decide) (.keep (by decide) (.keep (by decide) (.keep (by decide) (.keep (by decide) (.keep (by decide) .nil)))))))))))))) rfl (by decide) rfl sc_law_sent_right.nd (i_range (by rfl) T.n_range (y_cB call_len_seq c_lenT (by rfl) T.n_len (by decide +kernel) (a_one (y_tD (v_ (.s (.s .z))))))) (blkOk_by (own := [("place", 6)]) (N := ["draws", "groups", "sent", "counts", "told", "due", "place", "every", "people", "k", "person", "pair", "number", "group"]) (sc := defScope s_law_sent_right) (by decide +kernel)) (fun _ _ _ _ _ => (g_name (i := 6) (.s (.s (.s (.s (.s (.s .z)))))) (by exact sc_law_sent_right.nd) rfl (by first | exact .inl rfl | exact .inr rfl))) (fun _ _ _ _ _ => (t_one (PW.pt (y_and (y_cmpT op_gt o_gt (y_tcount fltI (v_ (.s (.s .z))) (y_ix ix_tup ix_t (y_tD (v_ (.s (.s .z)))) (v_ (.s (.s (.s (.s (.s (.s .z))))))))) y_int (nomark _)) (y_and1 (y_cmpT op_notIn_seq o_notInL (v_ (.s (.s (.s (.s (.s (.s .z))))))) (v_ (.s (.s (.s (.s (.s .z)))))) (by rfl))))))) (fun _ _ _ _ _ => (v_ (.s (.s (.s (.s (.s (.s .z)))))))))))) y_int (nomark _)))))
       (y_one (y_retM .z y_bl))
       (y_fg (La := (L_law_sent_right_15 d)) (.s (.s .z)) (y_fg (La := (L_law_sent_right_14 d)) (.s (.s (.s .z))) (y_fg (La := (L_law_sent_right_0 d)) (.s (.s (.s (.s (.s .z))))) y_nil))))
      (y_cons (La := (L_law_sent_right_16 d)) (y_asgO (.s (.s (.s (.s (.s (.s (.s .z))))))) sc_law_sent_right.nd rfl (by first | exact .inl rfl | exact .inr rfl) (y_cTO (call_dictPT rfl) (c_dictT kInt) (by rfl) T.n_dict (by decide +kernel) (a_one (y_call (ok_heard_by T) (hr.mono (by decide)) (by rfl) T.m_heard_by T.F_heard_by.kp T.b_heard_by (a_cons (v_ (.s .z)) (a_one (y_trange rfl (by rfl) T.n_tuple (by rfl) T.n_range (y_cB call_len_seq c_lenT (by rfl) T.n_len (by decide +kernel) (a_one (v_ (.s .z)))))))))))
      (y_lockF (La := (L_law_sent_right_17 d)) (.s (.s (.s (.s (.s (.s (.s .z))))))) (.s (.s (.s (.s (.s (.s (.s .z))))))) (y_cons (La := (L_law_sent_right_19 d)) (y_asg (.s (.s (.s (.s (.s (.s (.s (.s .z)))))))) sc_law_sent_right.nd rfl (by first | exact .inl rfl | exact .inr rfl) (y_fz (O := (oLst tInt)) (y_ssetL rfl (by rfl) T.n_sorted (by rfl) T.n_set (y_fz (O := (oLst tInt)) (y_comp (own := [("person", 10)]) (vs := [10]) (ws := [10]) (Lw := (L_law_sent_right_17 d)) (Lb := (L_law_sent_right_18 d)) (.keep (by decide) (.keep (by decide) (.keep (by decide) (.keep (by decide) (.keep (by decide) (.keep (by decide) (.keep (by decide) (.keep (by decide) (.keep (by decide) (.keep (by decide) (.non (.keep (by decide) (.keep (by decide) (.keep (by decide) .nil)))))))))))))) (.keep (by decide) (.keep (by decide) (.keep (by decide) (.keep (by decide) (.keep (by decide) (.keep (by decide) (.keep (by decide) (.keep (by decide) (.keep (by decide) (.keep (by decide) (.imm (.keep (by decide) (.keep (by decide) (.keep (by decide) .nil)))))))))))))) rfl (by decide) rfl sc_law_sent_right.nd (i_keys kInt (by intros; rfl) (v_ (.s (.s (.s (.s (.s (.s (.s .z))))))))) (blkOk_by (own := [("person", 10)]) (N := ["draws", "groups", "sent", "counts", "told", "due", "place", "every", "people", "k", "person", "pair", "number", "group"]) (sc := defScope s_law_sent_right) (by decide +kernel)) (fun _ _ _ _ _ => (g_name (i := 10) (.s (.s (.s (.s (.s (.s (.s (.s (.s (.s .z)))))))))) (by exact sc_law_sent_right.nd) rfl (by first | exact .inl rfl | exact .inr rfl))) (fun _ _ _ _ _ => t_nil) (fun _ _ _ _ _ => (v_ (.s (.s (.s (.s (.s (.s (.s (.s (.s (.s .z)))))))))))))))))
      (y_one (y_retM .z (y_cmp (op_eqD hr.units) (o_eqD (dLst dInt)) (v_ (.s (.s (.s (.s (.s (.s (.s (.s .z))))))))) (y_fz (O := (oLst tInt)) (y_comp (own := [("person", 10)]) (vs := [10]) (ws := [10]) (Lw := (L_law_sent_right_19 d)) (Lb := (L_law_sent_right_20 d)) (.keep (by decide) (.keep (by decide) (.keep (by decide) (.keep (by decide) (.keep (by decide) (.keep (by decide) (.keep (by decide) (.keep (by decide) (.keep (by decide) (.keep (by decide) (.non (.keep (by decide) (.keep (by decide) (.keep (by decide) .nil)))))))))))))) (.keep (by decide) (.keep (by decide) (.keep (by decide) (.keep (by decide) (.keep (by decide) (.keep (by decide) (.keep (by decide) (.keep (by decide) (.keep (by decide) (.keep (by decide) (.imm (.keep (by decide) (.keep (by decide) (.keep (by decide) .nil)))))))))))))) rfl (by decide) rfl sc_law_sent_right.nd (i_range (by rfl) T.n_range y_int) (blkOk_by (own := [("person", 10)]) (N := ["draws", "groups", "sent", "counts", "told", "due", "place", "every", "people", "k", "person", "pair", "number", "group"]) (sc := defScope s_law_sent_right) (by decide +kernel)) (fun _ _ _ _ _ => (g_name (i := 10) (.s (.s (.s (.s (.s (.s (.s (.s (.s (.s .z)))))))))) (by exact sc_law_sent_right.nd) rfl (by first | exact .inl rfl | exact .inr rfl))) (fun _ _ _ _ _ => (t_one (PW.pt (y_and (y_cmpT op_eq o_eqI (y_dgt2F hr.units65 kInt (.s (.s (.s (.s (.s (.s (.s .z))))))) (v_ (.s (.s (.s (.s (.s (.s (.s (.s (.s (.s .z))))))))))) y_int) (y_cB call_len_seq c_lenL (by rfl) T.n_len (by decide +kernel) (a_one (y_fz (O := (oLst (tAll tInt))) (y_compN (own := [("group", 13)]) (vs := [13]) (ws := [13]) (Lw := (L_law_sent_right_20 d)) (Lb := (L_law_sent_right_21 d)) (.keep (by decide) (.keep (by decide) (.keep (by decide) (.keep (by decide) (.keep (by decide) (.keep (by decide) (.keep (by decide) (.keep (by decide) (.keep (by decide) (.keep (by decide) (.keep (by decide) (.keep (by decide) (.keep (by decide) (.non .nil)))))))))))))) (.keep (by decide) (.keep (by decide) (.keep (by decide) (.keep (by decide) (.keep (by decide) (.keep (by decide) (.keep (by decide) (.keep (by decide) (.keep (by decide) (.keep (by decide) (.keep (by decide) (.keep (by decide) (.keep (by decide) (.imm .nil)))))))))))))) rfl (by decide) rfl sc_law_sent_right.nd (i_tup (v_ (.s .z))) (blkOk_by (own := [("group", 13)]) (by rfl)) (fun _ _ _ _ _ => (g_name (i := 13) (.s (.s (.s (.s (.s (.s (.s (.s (.s (.s (.s (.s (.s .z))))))))))))) (by exact sc_law_sent_right.nd) rfl (by first | exact .inl rfl | exact .inr rfl))) (fun _ _ _ _ _ => (t_one (y_cmpT op_in_seq o_inT (v_ (.s (.s (.s (.s (.s (.s (.s (.s (.s (.s .z))))))))))) (v_ (.s (.s (.s (.s (.s (.s (.s (.s (.s (.s (.s (.s (.s .z)))))))))))))) (by rfl)))) (fun _ _ _ _ _ => (v_ (.s (.s (.s (.s (.s (.s (.s (.s (.s (.s (.s (.s (.s .z))))))))))))))))))) (nomark _)) (y_and1 (y_cmpT op_gt o_gt (y_dgt2F hr.units65 kInt (.s (.s (.s (.s (.s (.s (.s .z))))))) (v_ (.s (.s (.s (.s (.s (.s (.s (.s (.s (.s .z))))))))))) y_int) y_int (nomark _))))))) (fun _ _ _ _ _ => (v_ (.s (.s (.s (.s (.s (.s (.s (.s (.s (.s .z)))))))))))))) (nomark _))))))))))))))))
    (by exact h)⟩
noncomputable def m_law_sent_right (y0 : (List Int)) (y : (List (List Int))) : Option (Bool × (List Int)) := (D_law_sent_right.1 0) _ ((y0, y, (), (), (), (), (), (), (), (), (), (), (), (), ()) : Env (L_law_sent_right_0 0)) retO
theorem ok_law_sent_right {P : Program} {w : World} {K : Fg} {mg : Str → Option Value} {base : Heap} (T : Txt K mg) : FnOk P w K mg base CX0 41 T.a_law_sent_right T.d_law_sent_right ["draws", "groups"] (spM K (oLst tInt) (rOne (tAll (tAll tInt))) tBool m_law_sent_right) :=
  fnM (k := 40) (L := fun d => L_law_sent_right_0 d) (L' := fun _ => []) (m := D_law_sent_right.1) (fun d y0 y => (y0, y, (), (), (), (), (), (), (), (), (), (), (), (), ())) T.F_law_sent_right sc_law_sent_right hsM1 (fun d => parsM1 (n := 12) rfl) (fun _ _ _ => rfl) (fun d cdv A outer s H E hr => D_law_sent_right.2 T d cdv A outer s H E hr)
theorem sc_law_told_right : FnScope ["groups", "wanted", "sets", "have", "just", "once", "first", "second", "third", "some", "person", "pair", "place"] ["groups", "wanted"] (defScope s_law_told_right) := ⟨rfl, rfl, rfl, by decide +kernel, rfl, by decide +kernel, by decide +kernel⟩
abbrev L_law_told_right_0 : List L3.Loc := [lImm (tAll (tAll tInt)), lImm (tAll tInt), lNone, lNone, lNone, lNone, lNone, lNone, lNone, lNone, lNone, lNone, lNone]
abbrev L_law_told_right_1 : List L3.Loc := [lImm (tAll (tAll tInt)), lImm (tAll tInt), lImm (tLst (tAll tInt)), lNone, lNone, lNone, lNone, lNone, lNone, lNone, lNone, lNone, lNone]
abbrev L_law_told_right_2 : List L3.Loc := [lImm (tAll (tAll tInt)), lImm (tAll tInt), lImm (tLst (tAll tInt)), lNone, lNone, lNone, lNone, lNone, lNone, lImm (tAll tInt), lNone, lNone, lNone]
abbrev L_law_told_right_3 : List L3.Loc := [lImm (tAll (tAll tInt)), lImm (tAll tInt), lImm (tLst (tAll tInt)), lNone, lNone, lNone, lNone, lNone, lNone, lImm (tAll tInt), lImm tInt, lNone, lNone]
abbrev L_law_told_right_4 : List L3.Loc := [lImm (tAll (tAll tInt)), lImm (tAll tInt), lImm (tLst (tAll tInt)), lOwn (oLst (tAll tInt)) none, lNone, lNone, lNone, lNone, lNone, lNone, lNone, lNone, lNone]
abbrev L_law_told_right_5 : List L3.Loc := [lImm (tAll (tAll tInt)), lImm (tAll tInt), lImm (tLst (tAll tInt)), lImm (tLst (tAll tInt)), lNone, lNone, lNone, lNone, lNone, lNone, lNone, lNone, lNone]
abbrev L_law_told_right_6 : List L3.Loc := [lImm (tAll (tAll tInt)), lImm (tAll tInt), lImm (tLst (tAll tInt)), lImm (tLst (tAll tInt)), lNone, lNone, lNone, lNone, lNone, lImm (tAll tInt), lNone, lNone, lNone]
abbrev L_law_told_right_7 : List L3.Loc := [lImm (tAll (tAll tInt)), lImm (tAll tInt), lImm (tLst (tAll tInt)), lImm (tLst (tAll tInt)), lOwn (oLst (tAll tInt)) none, lNone, lNone, lNone, lNone, lNone, lNone, lNone, lNone]
abbrev L_law_told_right_8 : List L3.Loc := [lImm (tAll (tAll tInt)), lImm (tAll tInt), lImm (tLst (tAll tInt)), lImm (tLst (tAll tInt)), lImm (tLst (tAll tInt)), lNone, lNone, lNone, lNone, lNone, lNone, lNone, lNone]
abbrev L_law_told_right_9 : List L3.Loc := [lImm (tAll (tAll tInt)), lImm (tAll tInt), lImm (tLst (tAll tInt)), lImm (tLst (tAll tInt)), lImm (tLst (tAll tInt)), lNone, lNone, lNone, lNone, lImm (tAll tInt), lNone, lNone, lNone]
abbrev L_law_told_right_10 : List L3.Loc := [lImm (tAll (tAll tInt)), lImm (tAll tInt), lImm (tLst (tAll tInt)), lImm (tLst (tAll tInt)), lImm (tLst (tAll tInt)), lNone, lNone, lNone, lNone, lImm (tAll tInt), lImm tInt, lNone, lNone]
abbrev L_law_told_right_11 : List L3.Loc := [lImm (tAll (tAll tInt)), lImm (tAll tInt), lImm (tLst (tAll tInt)), lImm (tLst (tAll tInt)), lImm (tLst (tAll tInt)), lOwn (oLst (tAll tInt)) none, lNone, lNone, lNone, lNone, lNone, lNone, lNone]
abbrev L_law_told_right_12 : List L3.Loc := [lImm (tAll (tAll tInt)), lImm (tAll tInt), lImm (tLst (tAll tInt)), lImm (tLst (tAll tInt)), lImm (tLst (tAll tInt)), lOwn (oLst (tAll tInt)) none, lNone, lNone, lNone, lImm (tAll tInt), lNone, lNone, lNone]
abbrev L_law_told_right_13 : List L3.Loc := [lImm (tAll (tAll tInt)), lImm (tAll tInt), lImm (tLst (tAll tInt)), lImm (tLst (tAll tInt)), lImm (tLst (tAll tInt)), lOwn (oLst (tAll tInt)) none, lNone, lNone, lNone, lNone, lNone, lImm (tTup (rCons tInt (rOne (tAll tInt)))), lNone]
abbrev L_law_told_right_14 : List L3.Loc := [lImm (tAll (tAll tInt)), lImm (tAll tInt), lImm (tLst (tAll tInt)), lImm (tLst (tAll tInt)), lImm (tLst (tAll tInt)), lOwn (oLst (tAll tInt)) none, lImm (tOpt (tAll tInt)), lNone, lNone, lNone, lNone, lNone, lNone]
abbrev L_law_told_right_15 : List L3.Loc := [lImm (tAll (tAll tInt)), lImm (tAll tInt), lImm (tLst (tAll tInt)), lImm (tLst (tAll tInt)), lImm (tLst (tAll tInt)), lOwn (oLst (tAll tInt)) none, lImm (tOpt (tAll tInt)), lNone, lNone, lImm (tAll tInt), lNone, lNone, lNone]
abbrev L_law_told_right_16 : List L3.Loc := [lImm (tAll (tAll tInt)), lImm (tAll tInt), lImm (tLst (tAll tInt)), lImm (tLst (tAll tInt)), lImm (tLst (tAll tInt)), lOwn (oLst (tAll tInt)) none, lImm (tOpt (tAll tInt)), lNone, lNone, lNone, lNone, lImm (tTup (rCons tInt (rOne (tAll tInt)))), lNone]
abbrev L_law_told_right_17 : List L3.Loc := [lImm (tAll (tAll tInt)), lImm (tAll tInt), lImm (tLst (tAll tInt)), lImm (tLst (tAll tInt)), lImm (tLst (tAll tInt)), lOwn (oLst (tAll tInt)) none, lImm (tOpt (tAll tInt)), lImm (tOpt (tAll tInt)), lNone, lNone, lNone, lNone, lNone]
abbrev L_law_told_right_18 : List L3.Loc := [lImm (tAll (tAll tInt)), lImm (tAll tInt), lImm (tLst (tAll tInt)), lImm (tLst (tAll tInt)), lImm (tLst (tAll tInt)), lImm (tLst (tAll tInt)), lImm (tOpt (tAll tInt)), lImm (tOpt (tAll tInt)), lImm (tOpt (tAll tInt)), lNone, lNone, lNone, lNone]
abbrev L_law_told_right_19 : List L3.Loc := [lImm (tAll (tAll tInt)), lImm (tAll tInt), lNone, lNone, lNone, lNone, lImm (tOpt (tAll tInt)), lImm (tOpt (tAll tInt)), lImm (tOpt (tAll tInt)), lNone, lNone, lNone, lNone]
abbrev L_law_told_right_20 : List L3.Loc := [lImm (tAll (tAll tInt)), lImm (tAll tInt), lNone, lNone, lNone, lImm (tLst (tAll tInt)), lImm (tOpt (tAll tInt)), lImm (tOpt (tAll tInt)), lImm (tOpt (tAll tInt)), lNone, lNone, lNone, lNone]
abbrev L_law_told_right_21 : List L3.Loc := [lImm (tAll (tAll tInt)), lImm (tAll tInt), lNone, lNone, lImm (tLst (tAll tInt)), lImm (tLst (tAll tInt)), lImm (tOpt (tAll tInt)), lImm (tOpt (tAll tInt)), lImm (tOpt (tAll tInt)), lNone, lNone, lNone, lNone]
abbrev L_law_told_right_22 : List L3.Loc := [lImm (tAll (tAll tInt)), lImm (tAll tInt), lNone, lImm (tLst (tAll tInt)), lImm (tLst (tAll tInt)), lImm (tLst (tAll tInt)), lImm (tOpt (tAll tInt)), lImm (tOpt (tAll tInt)), lImm (tOpt (tAll tInt)), lNone, lNone, lNone, lNone]
abbrev L_law_told_right_23 : List L3.Loc := [lImm (tAll (tAll tInt)), lImm (tAll tInt), lNone, lNone, lNone, lNone, lNone, lNone, lImm (tOpt (tAll tInt)), lNone, lNone, lNone, lNone]
abbrev L_law_told_right_24 : List L3.Loc := [lImm (tAll (tAll tInt)), lImm (tAll tInt), lNone, lNone, lNone, lNone, lNone, lImm (tOpt (tAll tInt)), lImm (tOpt (tAll tInt)), lNone, lNone, lNone, lNone]
abbrev L_law_told_right_25 : List L3.Loc := [lImm (tAll (tAll tInt)), lImm (tAll tInt), lNone, lNone, lNone, lNone, lNone, lNone, lImm (tOpt (tAll tInt)), lNone, lImm tInt, lNone, lNone]
abbrev L_law_told_right_26 : List L3.Loc := [lImm (tAll (tAll tInt)), lNone, lNone, lNone, lNone, lNone, lNone, lNone, lImm (tOpt (tAll tInt)), lNone, lNone, lNone, lNone]
abbrev L_law_told_right_27 : List L3.Loc := [lImm (tAll (tAll tInt)), lNone, lNone, lNone, lNone, lNone, lNone, lNone, lImm (tOpt (tAll tInt)), lNone, lNone, lNone, lImm tInt]
abbrev L_law_told_right_28 : List L3.Loc := [lImm (tAll (tAll tInt)), lImm (tAll tInt), lImm (tLst (tAll tInt)), lImm (tLst (tAll tInt)), lImm (tLst (tAll tInt)), lImm (tLst (tAll tInt)), lImm (tOpt (tAll tInt)), lImm (tOpt (tAll tInt)), lNone, lNone, lNone, lNone, lNone]
set_option maxHeartbeats 8000000 in
/-- def _law_told_right(groups, wanted): -/
noncomputable def D_law_told_right : { m : Ms (L_law_told_right_0) [] [] (rsT tBool) // ∀ {P : Program} {w : World} {K : Fg} {mg : Str → Option Value} {base : Heap} (T : Txt K mg) (cdv : Value) (A : Around) (outer : List PySem.Env) (s : Shared) (H : Hp) (E : XK), Room 40 (A.deeper (envOfC "_law_told_right" (defScope s_law_told_right) s.heap.objs.size T.a_law_told_right cdv)) →
    PSs (cxOf CX0 P w K mg base ["groups", "wanted", "sets", "have", "just", "once", "first", "second", "third", "some", "person", "pair", "place"] "_law_told_right" (defScope s_law_told_right) T.a_law_told_right cdv A outer s H E).nox (defBody s_law_told_right) (tS K (L_law_told_right_0) [] [] (rsT tBool) (m)) } :=
  ⟨_, fun {P w K mg base} T cdv A outer s H E hr =>
    have h : PSs (cxOf CX0 P w K mg base ["groups", "wanted", "sets", "have", "just", "once", "first", "second", "third", "some", "person", "pair", "place"] "_law_told_right" (defScope s_law_told_right) T.a_law_told_right cdv A outer s H E).nox (defBody s_law_told_right) (tS K (L_law_told_right_0) [] [] (rsT tBool) _) :=
    (y_cons (La := L_law_told_right_1) (y_asg (.s (.s .z)) sc_law_told_right.nd rfl (by first | exact .inl rfl | exact .inr rfl) (y_call (ok_law_sets T) (hr.mono (by decide)) (by rfl) T.m_law_sets T.F_law_sets.kp T.b_law_sets (a_one (y_cB call_len_seq c_lenT (by rfl) T.n_len (by decide +kernel) (a_one (v_ .z))))))
      (y_cons (La := L_law_told_right_4) (y_compS (i := 3) (.s (.s (.s .z))) rfl rfl (sw_true rfl rfl rfl (by decide +kernel)) (own := [("some", 9)]) (vs := [9]) (ws := [9]) (Lw := L_law_told_right_1) (Lb := L_law_told_right_2) (.keep (by decide) (.keep (by decide) (.keep (by decide) (.keep (by decide) (.keep (by decide) (.keep (by decide) (.keep (by decide) (.keep (by decide) (.keep (by decide) (.non (.keep (by decide) (.keep (by decide) (.keep (by decide) .nil))))))))))))) (.keep (by decide) (.keep (by decide) (.keep (by decide) (.keep (by decide) (.keep (by decide) (.keep (by decide) (.keep (by decide) (.keep (by decide) (.keep (by decide) (.imm (.keep (by decide) (.keep (by decide) (.keep (by decide) .nil))))))))))))) rfl (by decide) rfl sc_law_told_right.nd (i_list (v_ (.s (.s .z)))) (blkOk_by (own := [("some", 9)]) (N := ["groups", "wanted", "sets", "have", "just", "once", "first", "second", "third", "some", "person", "pair", "place"]) (sc := defScope s_law_told_right) (by decide +kernel)) (fun _ _ _ _ _ => (g_name (i := 9) (.s (.s (.s (.s (.s (.s (.s (.s (.s .z))))))))) (by exact sc_law_told_right.nd) rfl (by first | exact .inl rfl | exact .inr rfl))) (fun _ _ _ _ _ => (t_one (y_cmpT op_eq o_eqI (y_cB call_len_seq c_lenL (by rfl) T.n_len (by decide +kernel) (a_one (y_fz (O := (oLst tInt)) (y_compN (own := [("person", 10)]) (vs := [10]) (ws := [10]) (Lw := L_law_told_right_2) (Lb := L_law_told_right_3) (.keep (by decide) (.keep (by decide) (.keep (by decide) (.keep (by decide) (.keep (by decide) (.keep (by decide) (.keep (by decide) (.keep (by decide) (.keep (by decide) (.keep (by decide) (.non (.keep (by decide) (.keep (by decide) .nil))))))))))))) (.keep (by decide) (.keep (by decide) (.keep (by decide) (.keep (by decide) (.keep (by decide) (.keep (by decide) (.keep (by decide) (.keep (by decide) (.keep (by decide) (.keep (by decide) (.imm (.keep (by decide) (.keep (by decide) .nil))))))))))))) rfl (by decide) rfl sc_law_told_right.nd (i_tup (v_ (.s .z))) (blkOk_by (own := [("person", 10)]) (by rfl)) (fun _ _ _ _ _ => (g_name (i := 10) (.s (.s (.s (.s (.s (.s (.s (.s (.s (.s .z)))))))))) (by exact sc_law_told_right.nd) rfl (by first | exact .inl rfl | exact .inr rfl))) (fun _ _ _ _ _ => (t_one (y_d_notInET hr.units65 kInt (v_ (.s (.s (.s (.s (.s (.s (.s (.s (.s (.s .z))))))))))) (y_fzF (y_callO (ok_law_counts T) (hr.mono (by decide)) (by rfl) T.m_law_counts T.F_law_counts.kp T.b_law_counts (a_cons (v_ .z) (a_one (v_ (.s (.s (.s (.s (.s (.s (.s (.s (.s .z))))))))))))))))) (fun _ _ _ _ _ => (v_ (.s (.s (.s (.s (.s (.s (.s (.s (.s (.s .z)))))))))))))))) y_int (nomark _)))) (fun _ _ _ _ _ => (v_ (.s (.s (.s (.s (.s (.s (.s (.s (.s .z))))))))))))
      (y_lock (La := L_law_told_right_5) (.s (.s (.s .z))) (.s (.s (.s .z))) (y_cons (La := L_law_told_right_7) (y_compS (i := 4) (.s (.s (.s (.s .z)))) rfl rfl (sw_true rfl rfl rfl (by decide +kernel)) (own := [("some", 9)]) (vs := [9]) (ws := [9]) (Lw := L_law_told_right_5) (Lb := L_law_told_right_6) (.keep (by decide) (.keep (by decide) (.keep (by decide) (.keep (by decide) (.keep (by decide) (.keep (by decide) (.keep (by decide) (.keep (by decide) (.keep (by decide) (.non (.keep (by decide) (.keep (by decide) (.keep (by decide) .nil))))))))))))) (.keep (by decide) (.keep (by decide) (.keep (by decide) (.keep (by decide) (.keep (by decide) (.keep (by decide) (.keep (by decide) (.keep (by decide) (.keep (by decide) (.imm (.keep (by decide) (.keep (by decide) (.keep (by decide) .nil))))))))))))) rfl (by decide) rfl sc_law_told_right.nd (i_list (v_ (.s (.s (.s .z))))) (blkOk_by (own := [("some", 9)]) (N := ["groups", "wanted", "sets", "have", "just", "once", "first", "second", "third", "some", "person", "pair", "place"]) (sc := defScope s_law_told_right) (by decide +kernel)) (fun _ _ _ _ _ => (g_name (i := 9) (.s (.s (.s (.s (.s (.s (.s (.s (.s .z))))))))) (by exact sc_law_told_right.nd) rfl (by first | exact .inl rfl | exact .inr rfl))) (fun _ _ _ _ _ => (t_one (y_cmpT op_eq o_eqI (y_cB call_lenD c_lenD (by rfl) T.n_len (by decide +kernel) (a_one (y_fz (O := (oDict kInt tInt)) (y_callO (ok_law_counts T) (hr.mono (by decide)) (by rfl) T.m_law_counts T.F_law_counts.kp T.b_law_counts (a_cons (v_ .z) (a_one (v_ (.s (.s (.s (.s (.s (.s (.s (.s (.s .z)))))))))))))))) (y_cB call_len_seq c_lenT (by rfl) T.n_len (by decide +kernel) (a_one (v_ (.s .z)))) (nomark _)))) (fun _ _ _ _ _ => (v_ (.s (.s (.s (.s (.s (.s (.s (.s (.s .z))))))))))))
      (y_lock (La := L_law_told_right_8) (.s (.s (.s (.s .z)))) (.s (.s (.s (.s .z)))) (y_cons (La := L_law_told_right_11) (y_compS (i := 5) (.s (.s (.s (.s (.s .z))))) rfl rfl (sw_true rfl rfl rfl (by decide +kernel)) (own := [("some", 9)]) (vs := [9]) (ws := [9]) (Lw := L_law_told_right_8) (Lb := L_law_told_right_9) (.keep (by decide) (.keep (by decide) (.keep (by decide) (.keep (by decide) (.keep (by decide) (.keep (by decide) (.keep (by decide) (.keep (by decide) (.keep (by decide) (.non (.keep (by decide) (.keep (by decide) (.keep (by decide) .nil))))))))))))) (.keep (by decide) (.keep (by decide) (.keep (by decide) (.keep (by decide) (.keep (by decide) (.keep (by decide) (.keep (by decide) (.keep (by decide) (.keep (by decide) (.imm (.keep (by decide) (.keep (by decide) (.keep (by decide) .nil))))))))))))) rfl (by decide) rfl sc_law_told_right.nd (i_list (v_ (.s (.s (.s (.s .z)))))) (blkOk_by (own := [("some", 9)]) (N := ["groups", "wanted", "sets", "have", "just", "once", "first", "second", "third", "some", "person", "pair", "place"]) (sc := defScope s_law_told_right) (by decide +kernel)) (fun _ _ _ _ _ => (g_name (i := 9) (.s (.s (.s (.s (.s (.s (.s (.s (.s .z))))))))) (by exact sc_law_told_right.nd) rfl (by first | exact .inl rfl | exact .inr rfl))) (fun _ _ _ _ _ => (t_one (y_cmpT op_eq o_eqI (y_cB call_len_seq c_lenL (by rfl) T.n_len (by decide +kernel) (a_one (y_fz (O := (oLst tInt)) (y_compN (own := [("person", 10)]) (vs := [10]) (ws := [10]) (Lw := L_law_told_right_9) (Lb := L_law_told_right_10) (.keep (by decide) (.keep (by decide) (.keep (by decide) (.keep (by decide) (.keep (by decide) (.keep (by decide) (.keep (by decide) (.keep (by decide) (.keep (by decide) (.keep (by decide) (.non (.keep (by decide) (.keep (by decide) .nil))))))))))))) (.keep (by decide) (.keep (by decide) (.keep (by decide) (.keep (by decide) (.keep (by decide) (.keep (by decide) (.keep (by decide) (.keep (by decide) (.keep (by decide) (.keep (by decide) (.imm (.keep (by decide) (.keep (by decide) .nil))))))))))))) rfl (by decide) rfl sc_law_told_right.nd (i_tup (v_ (.s .z))) (blkOk_by (own := [("person", 10)]) (by rfl)) (fun _ _ _ _ _ => (g_name (i := 10) (.s (.s (.s (.s (.s (.s (.s (.s (.s (.s .z)))))))))) (by exact sc_law_told_right.nd) rfl (by first | exact .inl rfl | exact .inr rfl))) (fun _ _ _ _ _ => (t_one (y_cmpT op_gt o_gt (y_dgetF hr.units65 kInt (y_fzF (y_callO (ok_law_counts T) (hr.mono (by decide)) (by rfl) T.m_law_counts T.F_law_counts.kp T.b_law_counts (a_cons (v_ .z) (a_one (v_ (.s (.s (.s (.s (.s (.s (.s (.s (.s .z)))))))))))))) (v_ (.s (.s (.s (.s (.s (.s (.s (.s (.s (.s .z)))))))))))) y_int (nomark _)))) (fun _ _ _ _ _ => (v_ (.s (.s (.s (.s (.s (.s (.s (.s (.s (.s .z)))))))))))))))) y_int (nomark _)))) (fun _ _ _ _ _ => (v_ (.s (.s (.s (.s (.s (.s (.s (.s (.s .z))))))))))))
      (y_cons (La := L_law_told_right_14) (y_asg (.s (.s (.s (.s (.s (.s .z)))))) sc_law_told_right.nd rfl (by first | exact .inl rfl | exact .inr rfl) (y_ix ix_list ix_l (y_fz (O := (oLst (tOpt (tAll tInt)))) (y_binO op_cat o_catL (y_fz (O := (oLst (tOpt (tAll tInt)))) (y_comp (own := [("pair", 11)]) (vs := [11]) (ws := [11]) (Lw := L_law_told_right_11) (Lb := L_law_told_right_13) (.keep (by decide) (.keep (by decide) (.keep (by decide) (.keep (by decide) (.keep (by decide) (.keep (by decide) (.keep (by decide) (.keep (by decide) (.keep (by decide) (.keep (by decide) (.keep (by decide) (.non (.keep (by decide) .nil))))))))))))) (.keep (by decide) (.keep (by decide) (.keep (by decide) (.keep (by decide) (.keep (by decide) (.keep (by decide) (.keep (by decide) (.keep (by decide) (.keep (by decide) (.keep (by decide) (.keep (by decide) (.imm (.keep (by decide) .nil))))))))))))) rfl (by decide) rfl sc_law_told_right.nd (i_list (y_fz (O := (oLst (tTup (rCons tInt (rOne (tAll tInt)))))) (y_cBO (cr_sortU (uTup (wCons uInt (wOne (uTup (wAll uInt))))) (.inl fun x => ⟨_, _, rfl⟩) (by decide) hr.units) (c_sortU (uTup (wCons uInt (wOne (uTup (wAll uInt)))))) (by rfl) T.n_sorted (by decide +kernel) (a_one (y_fz (O := (oLst (tTup (rCons tInt (rOne (tAll tInt)))))) (y_comp (own := [("some", 9)]) (vs := [9]) (ws := [9]) (Lw := L_law_told_right_11) (Lb := L_law_told_right_12) (.keep (by decide) (.keep (by decide) (.keep (by decide) (.keep (by decide) (.keep (by decide) (.keep (by decide) (.keep (by decide) (.keep (by decide) (.keep (by decide) (.non (.keep (by decide) (.keep (by decide) (.keep (by decide) .nil))))))))))))) (.keep (by decide) (.keep (by decide) (.keep (by decide) (.keep (by decide) (.keep (by decide) (.keep (by decide) (.keep (by decide) (.keep (by decide) (.keep (by decide) (.imm (.keep (by decide) (.keep (by decide) (.keep (by decide) .nil))))))))))))) rfl (by decide) rfl sc_law_told_right.nd (i_list (v_ (.s (.s (.s .z))))) (blkOk_by (own := [("some", 9)]) (N := ["groups", "wanted", "sets", "have", "just", "once", "first", "second", "third", "some", "person", "pair", "place"]) (sc := defScope s_law_told_right) (by decide +kernel)) (fun _ _ _ _ _ => (g_name (i := 9) (.s (.s (.s (.s (.s (.s (.s (.s (.s .z))))))))) (by exact sc_law_told_right.nd) rfl (by first | exact .inl rfl | exact .inr rfl))) (fun _ _ _ _ _ => t_nil) (fun _ _ _ _ _ => (y_tup (a_cons (y_cB call_len_seq c_lenT (by rfl) T.n_len (by decide +kernel) (a_one (v_ (.s (.s (.s (.s (.s (.s (.s (.s (.s .z)))))))))))) (a_one (v_ (.s (.s (.s (.s (.s (.s (.s (.s (.s .z)))))))))))) hl2)))))))) (blkOk_by (own := [("pair", 11)]) (N := ["groups", "wanted", "sets", "have", "just", "once", "first", "second", "third", "some", "person", "pair", "place"]) (sc := defScope s_law_told_right) (by decide +kernel)) (fun _ _ _ _ _ => (g_name (i := 11) (.s (.s (.s (.s (.s (.s (.s (.s (.s (.s (.s .z))))))))))) (by exact sc_law_told_right.nd) rfl (by first | exact .inl rfl | exact .inr rfl))) (fun _ _ _ _ _ => t_nil) (fun _ _ _ _ _ => (y_some rfl (y_ixN ix_tup (ix_n n1) (v_ (.s (.s (.s (.s (.s (.s (.s (.s (.s (.s (.s .z))))))))))))))))) (y_fz (O := (oLst (tOpt (tAll tInt)))) (y_lst (a_consA y_none a_nilA))))) y_int))
      (y_cons (La := L_law_told_right_17) (y_asg (.s (.s (.s (.s (.s (.s (.s .z))))))) sc_law_told_right.nd rfl (by first | exact .inl rfl | exact .inr rfl) (y_ix ix_list ix_l (y_fz (O := (oLst (tOpt (tAll tInt)))) (y_binO op_cat o_catL (y_fz (O := (oLst (tOpt (tAll tInt)))) (y_comp (own := [("pair", 11)]) (vs := [11]) (ws := [11]) (Lw := L_law_told_right_14) (Lb := L_law_told_right_16) (.keep (by decide) (.keep (by decide) (.keep (by decide) (.keep (by decide) (.keep (by decide) (.keep (by decide) (.keep (by decide) (.keep (by decide) (.keep (by decide) (.keep (by decide) (.keep (by decide) (.non (.keep (by decide) .nil))))))))))))) (.keep (by decide) (.keep (by decide) (.keep (by decide) (.keep (by decide) (.keep (by decide) (.keep (by decide) (.keep (by decide) (.keep (by decide) (.keep (by decide) (.keep (by decide) (.keep (by decide) (.imm (.keep (by decide) .nil))))))))))))) rfl (by decide) rfl sc_law_told_right.nd (i_list (y_fz (O := (oLst (tTup (rCons tInt (rOne (tAll tInt)))))) (y_cBO (cr_sortU (uTup (wCons uInt (wOne (uTup (wAll uInt))))) (.inl fun x => ⟨_, _, rfl⟩) (by decide) hr.units) (c_sortU (uTup (wCons uInt (wOne (uTup (wAll uInt)))))) (by rfl) T.n_sorted (by decide +kernel) (a_one (y_fz (O := (oLst (tTup (rCons tInt (rOne (tAll tInt)))))) (y_comp (own := [("some", 9)]) (vs := [9]) (ws := [9]) (Lw := L_law_told_right_14) (Lb := L_law_told_right_15) (.keep (by decide) (.keep (by decide) (.keep (by decide) (.keep (by decide) (.keep (by decide) (.keep (by decide) (.keep (by decide) (.keep (by decide) (.keep (by decide) (.non (.keep (by decide) (.keep (by decide) (.keep (by decide) .nil))))))))))))) (.keep (by decide) (.keep (by decide) (.keep (by decide) (.keep (by decide) (.keep (by decide) (.keep (by decide) (.keep (by decide) (.keep (by decide) (.keep (by decide) (.imm (.keep (by decide) (.keep (by decide) (.keep (by decide) .nil))))))))))))) rfl (by decide) rfl sc_law_told_right.nd (i_list (v_ (.s (.s (.s (.s .z)))))) (blkOk_by (own := [("some", 9)]) (N := ["groups", "wanted", "sets", "have", "just", "once", "first", "second", "third", "some", "person", "pair", "place"]) (sc := defScope s_law_told_right) (by decide +kernel)) (fun _ _ _ _ _ => (g_name (i := 9) (.s (.s (.s (.s (.s (.s (.s (.s (.s .z))))))))) (by exact sc_law_told_right.nd) rfl (by first | exact .inl rfl | exact .inr rfl))) (fun _ _ _ _ _ => t_nil) (fun _ _ _ _ _ => (y_tup (a_cons (y_cB call_len_seq c_lenT (by rfl) T.n_len (by decide +kernel) (a_one (v_ (.s (.s (.s (.s (.s (.s (.s (.s (.s .z)))))))))))) (a_one (v_ (.s (.s (.s (.s (.s (.s (.s (.s (.s .z)))))))))))) hl2)))))))) (blkOk_by (own := [("pair", 11)]) (N := ["groups", "wanted", "sets", "have", "just", "once", "first", "second", "third", "some", "person", "pair", "place"]) (sc := defScope s_law_told_right) (by decide +kernel)) (fun _ _ _ _ _ => (g_name (i := 11) (.s (.s (.s (.s (.s (.s (.s (.s (.s (.s (.s .z))))))))))) (by exact sc_law_told_right.nd) rfl (by first | exact .inl rfl | exact .inr rfl))) (fun _ _ _ _ _ => t_nil) (fun _ _ _ _ _ => (y_some rfl (y_ixN ix_tup (ix_n n1) (v_ (.s (.s (.s (.s (.s (.s (.s (.s (.s (.s (.s .z))))))))))))))))) (y_fz (O := (oLst (tOpt (tAll tInt)))) (y_lst (a_consA y_none a_nilA))))) y_int))
      (y_lock (La := L_law_told_right_28) (.s (.s (.s (.s (.s .z))))) (.s (.s (.s (.s (.s .z))))) (y_cons (La := L_law_told_right_18) (y_asg (.s (.s (.s (.s (.s (.s (.s (.s .z)))))))) sc_law_told_right.nd rfl (by first | exact .inl rfl | exact .inr rfl) (y_ix ix_list ix_l (y_fz (O := (oLst (tOpt (tAll tInt)))) (y_binO op_cat o_catL (y_cast (List.map some) (lstSome rfl) (y_fz (O := (oLst (tAll tInt))) (y_cBO (cr_sortTE (uTup (wAll uInt)) (fun x => ⟨_, rfl⟩) (by decide) hr.units) (c_sortTE (uTup (wAll uInt))) (by rfl) T.n_sorted (by decide +kernel) (a_one (v_ (.s (.s (.s (.s (.s .z)))))))))) (y_fz (O := (oLst (tOpt (tAll tInt)))) (y_lst (a_consA y_none a_nilA))))) y_int))
      (y_cons (La := L_law_told_right_19) (y_if (PW.pt (y_or (y_not (y_val (y_same (dOpt (dAll dInt)) same_law (ok_law_same T) (hr.mono (by decide)) (by rfl) T.m_law_same T.F_law_same.kp T.b_law_same (y_call (ok_fewest_groups T) (hr.mono (by decide)) (by rfl) T.m_fewest_groups T.F_fewest_groups.kp T.b_fewest_groups (a_cons (v_ .z) (a_one (v_ (.s .z))))) (v_ (.s (.s (.s (.s (.s (.s .z)))))))))) (y_or (y_not (y_val (y_same (dOpt (dAll dInt)) same_law (ok_law_same T) (hr.mono (by decide)) (by rfl) T.m_law_same T.F_law_same.kp T.b_law_same (y_call (ok_just_these T) (hr.mono (by decide)) (by rfl) T.m_just_these T.F_just_these.kp T.b_just_these (a_cons (v_ .z) (a_one (v_ (.s .z))))) (v_ (.s (.s (.s (.s (.s (.s (.s .z))))))))))) (y_or1 (y_not (y_val (y_same (dOpt (dAll dInt)) same_law (ok_law_same T) (hr.mono (by decide)) (by rfl) T.m_law_same T.F_law_same.kp T.b_law_same (y_call (ok_each_once T) (hr.mono (by decide)) (by rfl) T.m_each_once T.F_each_once.kp T.b_each_once (a_cons (v_ .z) (a_one (v_ (.s .z))))) (v_ (.s (.s (.s (.s (.s (.s (.s (.s .z))))))))))))))))
       (y_one (y_ret y_bl))
       (y_fg (La := L_law_told_right_22) (.s (.s .z)) (y_fg (La := L_law_told_right_21) (.s (.s (.s .z))) (y_fg (La := L_law_told_right_20) (.s (.s (.s (.s .z)))) (y_fg (La := L_law_told_right_19) (.s (.s (.s (.s (.s .z))))) y_nil)))))
      (y_cons (La := L_law_told_right_23) (y_if (PW.pt (y_and (y_notNT (v_ (.s (.s (.s (.s (.s (.s (.s .z))))))))) (y_and1 (PW.pt (y_or (y_isNT (v_ (.s (.s (.s (.s (.s (.s .z)))))))) (y_or1 (y_cmpT op_lt o_lt (y_cB call_len_seq c_lenT (by rfl) T.n_len (by decide +kernel) (a_one (y_unw (v_ (.s (.s (.s (.s (.s (.s (.s .z))))))))))) (y_cB call_len_seq c_lenT (by rfl) T.n_len (by decide +kernel) (a_one (y_unw (v_ (.s (.s (.s (.s (.s (.s .z)))))))))) (nomark _))))))))
       (y_one (y_ret y_bl))
       (y_fg (La := L_law_told_right_24) (.s (.s (.s (.s (.s (.s .z)))))) (y_fg (La := L_law_told_right_23) (.s (.s (.s (.s (.s (.s (.s .z))))))) y_nil)))
      (y_cons (La := L_law_told_right_23) (y_if (y_isNT (v_ (.s (.s (.s (.s (.s (.s (.s (.s .z))))))))))
       (y_one (y_ret y_bl))
       y_nil)
      (y_cons (La := L_law_told_right_26) (y_if (PW.pt (y_or (y_cmpT (op_neD hr.units) (o_neD (dAll dInt)) (y_call (ok_twice_by T) (hr.mono (by decide)) (by rfl) T.m_twice_by T.F_twice_by.kp T.b_twice_by (a_cons (v_ .z) (a_one (y_unw (v_ (.s (.s (.s (.s (.s (.s (.s (.s .z))))))))))))) (y_tupA a_nilA) (nomark _)) (y_or1 (y_not (y_val (y_same (dAll (dTup (eCons dInt (eOne dInt)))) same_law (ok_law_same T) (hr.mono (by decide)) (by rfl) T.m_law_same T.F_law_same.kp T.b_law_same (y_tD (y_call (ok_heard_by T) (hr.mono (by decide)) (by rfl) T.m_heard_by T.F_heard_by.kp T.b_heard_by (a_cons (v_ .z) (a_one (y_unw (v_ (.s (.s (.s (.s (.s (.s (.s (.s .z)))))))))))))) (y_cT call_tuple_of c_tuple (by rfl) T.n_tuple (by decide +kernel) (a_one (y_fz (O := (oLst (tTup (rCons tInt (rOne tInt))))) (y_comp (own := [("person", 10)]) (vs := [10]) (ws := [10]) (Lw := L_law_told_right_23) (Lb := L_law_told_right_25) (.keep (by decide) (.keep (by decide) (.keep (by decide) (.keep (by decide) (.keep (by decide) (.keep (by decide) (.keep (by decide) (.keep (by decide) (.keep (by decide) (.keep (by decide) (.non (.keep (by decide) (.keep (by decide) .nil))))))))))))) (.keep (by decide) (.keep (by decide) (.keep (by decide) (.keep (by decide) (.keep (by decide) (.keep (by decide) (.keep (by decide) (.keep (by decide) (.keep (by decide) (.keep (by decide) (.imm (.keep (by decide) (.keep (by decide) .nil))))))))))))) rfl (by decide) rfl sc_law_told_right.nd (i_tup (v_ (.s .z))) (blkOk_by (own := [("person", 10)]) (N := ["groups", "wanted", "sets", "have", "just", "once", "first", "second", "third", "some", "person", "pair", "place"]) (sc := defScope s_law_told_right) (by decide +kernel)) (fun _ _ _ _ _ => (g_name (i := 10) (.s (.s (.s (.s (.s (.s (.s (.s (.s (.s .z)))))))))) (by exact sc_law_told_right.nd) rfl (by first | exact .inl rfl | exact .inr rfl))) (fun _ _ _ _ _ => t_nil) (fun _ _ _ _ _ => (y_tup (a_cons (v_ (.s (.s (.s (.s (.s (.s (.s (.s (.s (.s .z))))))))))) (a_one y_int)) hl2))))))))))))
       (y_one (y_ret y_bl))
       (y_fg (La := L_law_told_right_26) (.s .z) y_nil))
      (y_one (y_ret (y_cmp op_eq o_eqI (y_cB call_len_seq c_lenL (by rfl) T.n_len (by decide +kernel) (a_one (y_fz (O := (oLst tInt)) (y_comp (own := [("place", 12)]) (vs := [12]) (ws := [12]) (Lw := L_law_told_right_26) (Lb := L_law_told_right_27) (.keep (by decide) (.keep (by decide) (.keep (by decide) (.keep (by decide) (.keep (by decide) (.keep (by decide) (.keep (by decide) (.keep (by decide) (.keep (by decide) (.keep (by decide) (.keep (by decide) (.keep (by decide) (.non .nil))))))))))))) (.keep (by decide) (.keep (by decide) (.keep (by decide) (.keep (by decide) (.keep (by decide) (.keep (by decide) (.keep (by decide) (.keep (by decide) (.keep (by decide) (.keep (by decide) (.keep (by decide) (.keep (by decide) (.imm .nil))))))))))))) rfl (by decide) rfl sc_law_told_right.nd (i_tup (y_call (ok_needless_sent T) (hr.mono (by decide)) (by rfl) T.m_needless_sent T.F_needless_sent.kp T.b_needless_sent (a_cons (v_ .z) (a_one (y_unw (v_ (.s (.s (.s (.s (.s (.s (.s (.s .z)))))))))))))) (blkOk_by (own := [("place", 12)]) (N := ["groups", "wanted", "sets", "have", "just", "once", "first", "second", "third", "some", "person", "pair", "place"]) (sc := defScope s_law_told_right) (by decide +kernel)) (fun _ _ _ _ _ => (g_name (i := 12) (.s (.s (.s (.s (.s (.s (.s (.s (.s (.s (.s (.s .z)))))))))))) (by exact sc_law_told_right.nd) rfl (by first | exact .inl rfl | exact .inr rfl))) (fun _ _ _ _ _ => (t_one (y_cmpT op_gt o_gt (y_cB call_len_seq c_lenT (by rfl) T.n_len (by decide +kernel) (a_one (y_ix ix_tup ix_t (v_ .z) (y_ix ix_tup ix_t (y_unw (v_ (.s (.s (.s (.s (.s (.s (.s (.s .z)))))))))) (v_ (.s (.s (.s (.s (.s (.s (.s (.s (.s (.s (.s (.s .z))))))))))))))))) y_int (nomark _)))) (fun _ _ _ _ _ => (v_ (.s (.s (.s (.s (.s (.s (.s (.s (.s (.s (.s (.s .z)))))))))))))))))) y_int (nomark _))))))))))))))))))
    (by exact h)⟩
noncomputable def m_law_told_right (y : (List (List Int)) × (List Int)) : Option Bool := D_law_told_right.1 _ ((y.1, y.2, (), (), (), (), (), (), (), (), (), (), (), ()) : Env L_law_told_right_0) retO
theorem ok_law_told_right {P : Program} {w : World} {K : Fg} {mg : Str → Option Value} {base : Heap} (T : Txt K mg) : FnOk P w K mg base CX0 41 T.a_law_told_right T.d_law_told_right ["groups", "wanted"] (spP K (rCons (tAll (tAll tInt)) (rOne (tAll tInt))) tBool m_law_told_right) :=
  fnP (k := 40) (L := L_law_told_right_0) (L' := []) (m := D_law_told_right.1) (fun y => (y.1, y.2, (), (), (), (), (), (), (), (), (), (), (), ())) T.F_law_told_right sc_law_told_right hs2 (pars2 (n := 11) rfl) (fun _ => rfl) (fun cdv A outer s H E hr => D_law_told_right.2 T cdv A outer s H E hr)
theorem sc_law_more_right : FnScope ["draws", "script", "groups", "wanted", "before", "behind", "more", "later", "by", "renamed", "names", "person", "group"] ["draws", "script", "groups", "wanted"] (defScope s_law_more_right) := ⟨rfl, rfl, rfl, by decide +kernel, rfl, by decide +kernel, by decide +kernel⟩
abbrev L_law_more_right_0 (d : Addr) : List L3.Loc := [lOwn (oLst tInt) (some d), lImm (tScr tInt), lImm (tAll (tAll tInt)), lImm (tAll tInt), lNone, lNone, lNone, lNone, lNone, lNone, lNone, lNone, lNone]
abbrev L_law_more_right_1 (d : Addr) : List L3.Loc := [lOwn (oLst tInt) (some d), lImm (tScr tInt), lImm (tAll (tAll tInt)), lImm (tAll tInt), lImm (tOpt (tAll tInt)), lNone, lNone, lNone, lNone, lNone, lNone, lNone, lNone]
abbrev L_law_more_right_2 (d : Addr) : List L3.Loc := [lOwn (oLst tInt) (some d), lImm (tScr tInt), lImm (tAll (tAll tInt)), lImm (tAll tInt), lImm (tOpt (tAll tInt)), lImm (tOpt (tAll tInt)), lNone, lNone, lNone, lNone, lNone, lNone, lNone]
abbrev L_law_more_right_3 (d : Addr) : List L3.Loc := [lOwn (oLst tInt) (some d), lImm (tScr tInt), lImm (tAll (tAll tInt)), lImm (tAll tInt), lImm (tOpt (tAll tInt)), lNone, lImm (tAll tInt), lNone, lNone, lNone, lNone, lNone, lNone]
abbrev L_law_more_right_4 (d : Addr) : List L3.Loc := [lOwn (oLst tInt) (some d), lImm (tScr tInt), lImm (tAll (tAll tInt)), lImm (tAll tInt), lImm (tOpt (tAll tInt)), lNone, lImm (tAll tInt), lImm (tOpt (tAll tInt)), lNone, lNone, lNone, lNone, lNone]
abbrev L_law_more_right_5 (d : Addr) : List L3.Loc := [lOwn (oLst tInt) (some d), lImm (tScr tInt), lImm (tAll (tAll tInt)), lImm (tAll tInt), lImm (tOpt (tAll tInt)), lNone, lNone, lImm (tOpt (tAll tInt)), lNone, lNone, lNone, lNone, lNone]
abbrev L_law_more_right_6 (d : Addr) : List L3.Loc := [lOwn (oLst tInt) (some d), lImm (tScr tInt), lImm (tAll (tAll tInt)), lImm (tAll tInt), lImm (tOpt (tAll tInt)), lNone, lNone, lNone, lImm tInt, lNone, lNone, lNone, lNone]
abbrev L_law_more_right_7 (d : Addr) : List L3.Loc := [lOwn (oLst tInt) (some d), lImm (tScr tInt), lImm (tAll (tAll tInt)), lImm (tAll tInt), lImm (tOpt (tAll tInt)), lNone, lNone, lNone, lImm tInt, lNone, lNone, lNone, lImm (tAll tInt)]
abbrev L_law_more_right_8 (d : Addr) : List L3.Loc := [lOwn (oLst tInt) (some d), lImm (tScr tInt), lImm (tAll (tAll tInt)), lImm (tAll tInt), lImm (tOpt (tAll tInt)), lNone, lNone, lNone, lImm tInt, lNone, lNone, lImm tInt, lImm (tAll tInt)]
abbrev L_law_more_right_9 (d : Addr) : List L3.Loc := [lOwn (oLst tInt) (some d), lImm (tScr tInt), lImm (tAll (tAll tInt)), lImm (tAll tInt), lImm (tOpt (tAll tInt)), lNone, lNone, lNone, lImm tInt, lImm (tAll (tAll tInt)), lNone, lNone, lNone]
abbrev L_law_more_right_10 (d : Addr) : List L3.Loc := [lOwn (oLst tInt) (some d), lImm (tScr tInt), lImm (tAll (tAll tInt)), lImm (tAll tInt), lImm (tOpt (tAll tInt)), lNone, lNone, lNone, lImm tInt, lImm (tAll (tAll tInt)), lNone, lImm tInt, lNone]
abbrev L_law_more_right_11 (d : Addr) : List L3.Loc := [lOwn (oLst tInt) (some d), lImm (tScr tInt), lImm (tAll (tAll tInt)), lImm (tAll tInt), lImm (tOpt (tAll tInt)), lNone, lNone, lNone, lImm tInt, lImm (tAll (tAll tInt)), lImm (tAll tInt), lNone, lNone]
abbrev L_law_more_right_12 (d : Addr) : List L3.Loc := [lOwn (oLst tInt) (some d), lNone, lImm (tAll (tAll tInt)), lImm (tAll tInt), lNone, lNone, lNone, lNone, lNone, lImm (tAll (tAll tInt)), lImm (tAll tInt), lNone, lNone]
abbrev L_law_more_right_13 (d : Addr) : List L3.Loc := [lOwn (oLst tInt) (some d), lNone, lImm (tAll (tAll tInt)), lImm (tAll tInt), lNone, lNone, lNone, lNone, lImm tInt, lImm (tAll (tAll tInt)), lImm (tAll tInt), lNone, lNone]
abbrev L_law_more_right_14 (d : Addr) : List L3.Loc := [lOwn (oLst tInt) (some d), lNone, lImm (tAll (tAll tInt)), lImm (tAll tInt), lImm (tOpt (tAll tInt)), lNone, lNone, lNone, lImm tInt, lImm (tAll (tAll tInt)), lImm (tAll tInt), lNone, lNone]
set_option maxHeartbeats 8000000 in
/-- def _law_more_right(draws, script, groups, wanted): -/
noncomputable def D_law_more_right : { m : (d : Addr) → Ms (L_law_more_right_0 d) [] [] (rsM d (oLst tInt) tBool) // ∀ {P : Program} {w : World} {K : Fg} {mg : Str → Option Value} {base : Heap} (T : Txt K mg) (d : Addr) (cdv : Value) (A : Around) (outer : List PySem.Env) (s : Shared) (H : Hp) (E : XK), Room 40 (A.deeper (envOfC "_law_more_right" (defScope s_law_more_right) s.heap.objs.size T.a_law_more_right cdv)) →
    PSs (cxOf CX0 P w K mg base ["draws", "script", "groups", "wanted", "before", "behind", "more", "later", "by", "renamed", "names", "person", "group"] "_law_more_right" (defScope s_law_more_right) T.a_law_more_right cdv A outer s H E).nox (defBody s_law_more_right) (tS K (L_law_more_right_0 d) [] [] (rsM d (oLst tInt) tBool) (m d)) } :=
  ⟨_, fun {P w K mg base} T d cdv A outer s H E hr =>
    have h : PSs (cxOf CX0 P w K mg base ["draws", "script", "groups", "wanted", "before", "behind", "more", "later", "by", "renamed", "names", "person", "group"] "_law_more_right" (defScope s_law_more_right) T.a_law_more_right cdv A outer s H E).nox (defBody s_law_more_right) (tS K (L_law_more_right_0 d) [] [] (rsM d (oLst tInt) tBool) _) :=
    (y_cons (La := (L_law_more_right_1 d)) (y_asg (.s (.s (.s (.s .z)))) sc_law_more_right.nd rfl (by first | exact .inl rfl | exact .inr rfl) (y_call (ok_fewest_groups T) (hr.mono (by decide)) (by rfl) T.m_fewest_groups T.F_fewest_groups.kp T.b_fewest_groups (a_cons (v_ (.s (.s .z))) (a_one (v_ (.s (.s (.s .z))))))))
      (y_cons (La := (L_law_more_right_2 d)) (y_asg (.s (.s (.s (.s (.s .z))))) sc_law_more_right.nd rfl (by first | exact .inl rfl | exact .inr rfl) (y_call (ok_fewest_groups T) (hr.mono (by decide)) (by rfl) T.m_fewest_groups T.F_fewest_groups.kp T.b_fewest_groups (a_cons (y_bin op_catA o_catT (v_ (.s (.s .z))) (y_tupA (a_consA (y_cT call_tuple_of c_tuple (by rfl) T.n_tuple (by decide +kernel) (a_one (y_fz (O := (oLst tInt)) (y_ssetT rfl (by rfl) T.n_sorted (by rfl) T.n_set (y_bin op_catA o_catT (y_slT (v_ (.s (.s (.s .z)))) p_none (p_some y_int)) (y_tupA (a_consA y_int a_nilA))))))) a_nilA))) (a_one (v_ (.s (.s (.s .z))))))))
      (y_cons (La := (L_law_more_right_1 d)) (y_if (PW.pt (y_and (y_notNT (v_ (.s (.s (.s (.s .z)))))) (y_and1 (PW.pt (y_or (y_isNT (v_ (.s (.s (.s (.s (.s .z))))))) (y_or1 (y_cmpT op_gt o_gt (y_cB call_len_seq c_lenT (by rfl) T.n_len (by decide +kernel) (a_one (y_unw (v_ (.s (.s (.s (.s (.s .z))))))))) (y_cB call_len_seq c_lenT (by rfl) T.n_len (by decide +kernel) (a_one (y_unw (v_ (.s (.s (.s (.s .z)))))))) (nomark _))))))))
       (y_one (y_retM .z y_bl))
       (y_fg (La := (L_law_more_right_1 d)) (.s (.s (.s (.s (.s .z))))) y_nil))
      (y_cons (La := (L_law_more_right_3 d)) (y_asg (.s (.s (.s (.s (.s (.s .z)))))) sc_law_more_right.nd rfl (by first | exact .inl rfl | exact .inr rfl) (y_cT call_tuple_of c_tuple (by rfl) T.n_tuple (by decide +kernel) (a_one (y_fz (O := (oLst tInt)) (y_ssetT rfl (by rfl) T.n_sorted (by rfl) T.n_set (y_bin op_catA o_catT (v_ (.s (.s (.s .z)))) (y_tupA (a_consA (y_bin op_mulA o_mul y_int (y_callM .z rfl (by first | exact .inl rfl | exact .inr (.inl rfl) | exact .inr (.inr rfl)) (ok_law_take T) (hr.mono (by decide)) (by rfl) T.m_law_take T.F_law_take.kp T.b_law_take (a_one y_int))) a_nilA))))))))
      (y_cons (La := (L_law_more_right_4 d)) (y_asg (.s (.s (.s (.s (.s (.s (.s .z))))))) sc_law_more_right.nd rfl (by first | exact .inl rfl | exact .inr rfl) (y_call (ok_fewest_groups T) (hr.mono (by decide)) (by rfl) T.m_fewest_groups T.F_fewest_groups.kp T.b_fewest_groups (a_cons (v_ (.s (.s .z))) (a_one (v_ (.s (.s (.s (.s (.s (.s .z)))))))))))
      (y_cons (La := (L_law_more_right_1 d)) (y_if (PW.pt (y_and (y_notNT (v_ (.s (.s (.s (.s (.s (.s (.s .z))))))))) (y_and1 (PW.pt (y_or (y_isNT (v_ (.s (.s (.s (.s .z)))))) (y_or1 (y_cmpT op_lt o_lt (y_cB call_len_seq c_lenT (by rfl) T.n_len (by decide +kernel) (a_one (y_unw (v_ (.s (.s (.s (.s (.s (.s (.s .z))))))))))) (y_cB call_len_seq c_lenT (by rfl) T.n_len (by decide +kernel) (a_one (y_unw (v_ (.s (.s (.s (.s .z)))))))) (nomark _))))))))
       (y_one (y_retM .z y_bl))
       (y_fg (La := (L_law_more_right_5 d)) (.s (.s (.s (.s (.s (.s .z)))))) (y_fg (La := (L_law_more_right_1 d)) (.s (.s (.s (.s (.s (.s (.s .z))))))) y_nil)))
      (y_cons (La := (L_law_more_right_6 d)) (y_asg (.s (.s (.s (.s (.s (.s (.s (.s .z)))))))) sc_law_more_right.nd rfl (by first | exact .inl rfl | exact .inr rfl) (y_bin op_mod o_mod (y_callM .z rfl (by first | exact .inl rfl | exact .inr (.inl rfl) | exact .inr (.inr rfl)) (ok_law_size T) (hr.mono (by decide)) (by rfl) T.m_law_size T.F_law_size.kp T.b_law_size (a_one (v_ (.s .z)))) (y_lit (c := 10000000000000000000000000000) op_pow o_pow (by first | (rw [powC_eq]; decide +kernel) | (rw [mulC_eq]; decide +kernel) | (rw [divC_eq]; decide +kernel) | decide +kernel))))
      (y_cons (La := (L_law_more_right_9 d)) (y_asg (.s (.s (.s (.s (.s (.s (.s (.s (.s .z))))))))) sc_law_more_right.nd rfl (by first | exact .inl rfl | exact .inr rfl) (y_cT call_tuple_of c_tuple (by rfl) T.n_tuple (by decide +kernel) (a_one (y_fz (O := (oLst (tAll tInt))) (y_comp (own := [("group", 12)]) (vs := [12]) (ws := [12]) (Lw := (L_law_more_right_6 d)) (Lb := (L_law_more_right_7 d)) (.keep (by decide) (.keep (by decide) (.keep (by decide) (.keep (by decide) (.keep (by decide) (.keep (by decide) (.keep (by decide) (.keep (by decide) (.keep (by decide) (.keep (by decide) (.keep (by decide) (.keep (by decide) (.non .nil))))))))))))) (.keep (by decide) (.keep (by decide) (.keep (by decide) (.keep (by decide) (.keep (by decide) (.keep (by decide) (.keep (by decide) (.keep (by decide) (.keep (by decide) (.keep (by decide) (.keep (by decide) (.keep (by decide) (.imm .nil))))))))))))) rfl (by decide) rfl sc_law_more_right.nd (i_tup (v_ (.s (.s .z)))) (blkOk_by (own := [("group", 12)]) (N := ["draws", "script", "groups", "wanted", "before", "behind", "more", "later", "by", "renamed", "names", "person", "group"]) (sc := defScope s_law_more_right) (by decide +kernel)) (fun _ _ _ _ _ => (g_name (i := 12) (.s (.s (.s (.s (.s (.s (.s (.s (.s (.s (.s (.s .z)))))))))))) (by exact sc_law_more_right.nd) rfl (by first | exact .inl rfl | exact .inr rfl))) (fun _ _ _ _ _ => t_nil) (fun _ _ _ _ _ => (y_cT call_tuple_of c_tuple (by rfl) T.n_tuple (by decide +kernel) (a_one (y_fz (O := (oLst tInt)) (y_compN (own := [("person", 11)]) (vs := [11]) (ws := [11]) (Lw := (L_law_more_right_7 d)) (Lb := (L_law_more_right_8 d)) (.keep (by decide) (.keep (by decide) (.keep (by decide) (.keep (by decide) (.keep (by decide) (.keep (by decide) (.keep (by decide) (.keep (by decide) (.keep (by decide) (.keep (by decide) (.keep (by decide) (.non (.keep (by decide) .nil))))))))))))) (.keep (by decide) (.keep (by decide) (.keep (by decide) (.keep (by decide) (.keep (by decide) (.keep (by decide) (.keep (by decide) (.keep (by decide) (.keep (by decide) (.keep (by decide) (.keep (by decide) (.imm (.keep (by decide) .nil))))))))))))) rfl (by decide) rfl sc_law_more_right.nd (i_tup (v_ (.s (.s (.s (.s (.s (.s (.s (.s (.s (.s (.s (.s .z)))))))))))))) (blkOk_by (own := [("person", 11)]) (by rfl)) (fun _ _ _ _ _ => (g_name (i := 11) (.s (.s (.s (.s (.s (.s (.s (.s (.s (.s (.s .z))))))))))) (by exact sc_law_more_right.nd) rfl (by first | exact .inl rfl | exact .inr rfl))) (fun _ _ _ _ _ => t_nil) (fun _ _ _ _ _ => (y_binT op_add o_add (y_bin op_mulA o_mul y_int (v_ (.s (.s (.s (.s (.s (.s (.s (.s (.s (.s (.s .z))))))))))))) (v_ (.s (.s (.s (.s (.s (.s (.s (.s .z)))))))))))))))))))))
      (y_cons (La := (L_law_more_right_11 d)) (y_asg (.s (.s (.s (.s (.s (.s (.s (.s (.s (.s .z)))))))))) sc_law_more_right.nd rfl (by first | exact .inl rfl | exact .inr rfl) (y_cT call_tuple_of c_tuple (by rfl) T.n_tuple (by decide +kernel) (a_one (y_fz (O := (oLst tInt)) (y_comp (own := [("person", 11)]) (vs := [11]) (ws := [11]) (Lw := (L_law_more_right_9 d)) (Lb := (L_law_more_right_10 d)) (.keep (by decide) (.keep (by decide) (.keep (by decide) (.keep (by decide) (.keep (by decide) (.keep (by decide) (.keep (by decide) (.keep (by decide) (.keep (by decide) (.keep (by decide) (.keep (by decide) (.non (.keep (by decide) .nil))))))))))))) (.keep (by decide) (.keep (by decide) (.keep (by decide) (.keep (by decide) (.keep (by decide) (.keep (by decide) (.keep (by decide) (.keep (by decide) (.keep (by decide) (.keep (by decide) (.keep (by decide) (.imm (.keep (by decide) .nil))))))))))))) rfl (by decide) rfl sc_law_more_right.nd (i_tup (v_ (.s (.s (.s .z))))) (blkOk_by (own := [("person", 11)]) (N := ["draws", "script", "groups", "wanted", "before", "behind", "more", "later", "by", "renamed", "names", "person", "group"]) (sc := defScope s_law_more_right) (by decide +kernel)) (fun _ _ _ _ _ => (g_name (i := 11) (.s (.s (.s (.s (.s (.s (.s (.s (.s (.s (.s .z))))))))))) (by exact sc_law_more_right.nd) rfl (by first | exact .inl rfl | exact .inr rfl))) (fun _ _ _ _ _ => t_nil) (fun _ _ _ _ _ => (y_binT op_add o_add (y_bin op_mulA o_mul y_int (v_ (.s (.s (.s (.s (.s (.s (.s (.s (.s (.s (.s .z))))))))))))) (v_ (.s (.s (.s (.s (.s (.s (.s (.s .z))))))))))))))))
      (y_cons (La := (L_law_more_right_12 d)) (y_if (y_not (y_val (y_same (dOpt (dAll dInt)) same_law (ok_law_same T) (hr.mono (by decide)) (by rfl) T.m_law_same T.F_law_same.kp T.b_law_same (y_call (ok_fewest_groups T) (hr.mono (by decide)) (by rfl) T.m_fewest_groups T.F_fewest_groups.kp T.b_fewest_groups (a_cons (v_ (.s (.s (.s (.s (.s (.s (.s (.s (.s .z)))))))))) (a_one (v_ (.s (.s (.s (.s (.s (.s (.s (.s (.s (.s .z)))))))))))))) (v_ (.s (.s (.s (.s .z))))))))
       (y_one (y_retM .z y_bl))
       (y_fg (La := (L_law_more_right_14 d)) (.s .z) (y_fg (La := (L_law_more_right_13 d)) (.s (.s (.s (.s .z)))) (y_fg (La := (L_law_more_right_12 d)) (.s (.s (.s (.s (.s (.s (.s (.s .z)))))))) y_nil))))
      (y_one (y_retM .z (y_vand (y_same (dOpt (dAll dInt)) same_law (ok_law_same T) (hr.mono (by decide)) (by rfl) T.m_law_same T.F_law_same.kp T.b_law_same (y_call (ok_each_once T) (hr.mono (by decide)) (by rfl) T.m_each_once T.F_each_once.kp T.b_each_once (a_cons (v_ (.s (.s (.s (.s (.s (.s (.s (.s (.s .z)))))))))) (a_one (v_ (.s (.s (.s (.s (.s (.s (.s (.s (.s (.s .z)))))))))))))) (y_call (ok_each_once T) (hr.mono (by decide)) (by rfl) T.m_each_once T.F_each_once.kp T.b_each_once (a_cons (v_ (.s (.s .z))) (a_one (v_ (.s (.s (.s .z)))))))) (y_vone (y_same (dOpt (dAll dInt)) same_law (ok_law_same T) (hr.mono (by decide)) (by rfl) T.m_law_same T.F_law_same.kp T.b_law_same (y_call (ok_just_these T) (hr.mono (by decide)) (by rfl) T.m_just_these T.F_just_these.kp T.b_just_these (a_cons (v_ (.s (.s (.s (.s (.s (.s (.s (.s (.s .z)))))))))) (a_one (v_ (.s (.s (.s (.s (.s (.s (.s (.s (.s (.s .z)))))))))))))) (y_call (ok_just_these T) (hr.mono (by decide)) (by rfl) T.m_just_these T.F_just_these.kp T.b_just_these (a_cons (v_ (.s (.s .z))) (a_one (v_ (.s (.s (.s .z))))))))))))))))))))))
    (by exact h)⟩
noncomputable def m_law_more_right (y0 : (List Int)) (y : (List Int) × (List (List Int)) × (List Int)) : Option (Bool × (List Int)) := (D_law_more_right.1 0) _ ((y0, y.1, y.2.1, y.2.2, (), (), (), (), (), (), (), (), (), ()) : Env (L_law_more_right_0 0)) retO
theorem ok_law_more_right {P : Program} {w : World} {K : Fg} {mg : Str → Option Value} {base : Heap} (T : Txt K mg) : FnOk P w K mg base CX0 41 T.a_law_more_right T.d_law_more_right ["draws", "script", "groups", "wanted"] (spM K (oLst tInt) (rCons (tScr tInt) (rCons (tAll (tAll tInt)) (rOne (tAll tInt)))) tBool m_law_more_right) :=
  fnM (k := 40) (L := fun d => L_law_more_right_0 d) (L' := fun _ => []) (m := D_law_more_right.1) (fun d y0 y => (y0, y.1, y.2.1, y.2.2, (), (), (), (), (), (), (), (), (), ())) T.F_law_more_right sc_law_more_right hsM3 (fun d => parsM3 (n := 9) rfl) (fun _ _ _ => rfl) (fun d cdv A outer s H E hr => D_law_more_right.2 T d cdv A outer s H E hr)
theorem sc_law : FnScope ["script", "draws", "most", "groups", "wanted", "person"] ["script"] (defScope s_law) := ⟨rfl, rfl, rfl, by decide +kernel, rfl, by decide +kernel, by decide +kernel⟩
abbrev L_law_0 : List L3.Loc := [lImm (tScr tInt), lNone, lNone, lNone, lNone, lNone]
abbrev L_law_1 : List L3.Loc := [lImm (tScr tInt), lOwn (oLst tInt) none, lNone, lNone, lNone, lNone]
abbrev L_law_2 : List L3.Loc := [lImm (tScr tInt), lOwn (oLst tInt) none, lImm tInt, lNone, lNone, lNone]
abbrev L_law_3 : List L3.Loc := [lImm (tScr tInt), lOwn (oLst tInt) none, lImm tInt, lImm (tAll (tAll tInt)), lNone, lNone]
abbrev L_law_4 : List L3.Loc := [lImm (tScr tInt), lOwn (oLst tInt) none, lImm tInt, lImm (tAll (tAll tInt)), lNone, lImm tInt]
abbrev L_law_5 : List L3.Loc := [lImm (tScr tInt), lOwn (oLst tInt) none, lImm tInt, lImm (tAll (tAll tInt)), lImm (tAll tInt), lNone]
abbrev L_law_6 : List L3.Loc := [lImm (tScr tInt), lOwn (oLst tInt) none, lNone, lImm (tAll (tAll tInt)), lImm (tAll tInt), lNone]
abbrev L_law_7 : List L3.Loc := [lImm (tScr tInt), lOwn (oLst tInt) none, lNone, lNone, lImm (tAll tInt), lNone]
abbrev L_law_8 : List L3.Loc := [lImm (tScr tInt), lOwn (oLst tInt) none, lNone, lImm (tAll (tAll tInt)), lNone, lNone]
abbrev L_law_9 : List L3.Loc := [lNone, lNone, lNone, lImm (tAll (tAll tInt)), lNone, lNone]
abbrev L_law_10 : List L3.Loc := [lNone, lOwn (oLst tInt) none, lNone, lImm (tAll (tAll tInt)), lNone, lNone]
set_option maxHeartbeats 8000000 in
/-- def law(script): -/
noncomputable def D_law : { m : Ms (L_law_0) [] [] (rsT tBool) // ∀ {P : Program} {w : World} {K : Fg} {mg : Str → Option Value} {base : Heap} (T : Txt K mg) (cdv : Value) (A : Around) (outer : List PySem.Env) (s : Shared) (H : Hp) (E : XK), Room 41 (A.deeper (envOfC "law" (defScope s_law) s.heap.objs.size T.a_law cdv)) →
    PSs (cxOf CX0 P w K mg base ["script", "draws", "most", "groups", "wanted", "person"] "law" (defScope s_law) T.a_law cdv A outer s H E).nox (defBody s_law) (tS K (L_law_0) [] [] (rsT tBool) (m)) } :=
  ⟨_, fun {P w K mg base} T cdv A outer s H E hr =>
    have h : PSs (cxOf CX0 P w K mg base ["script", "draws", "most", "groups", "wanted", "person"] "law" (defScope s_law) T.a_law cdv A outer s H E).nox (defBody s_law) (tS K (L_law_0) [] [] (rsT tBool) _) :=
    (y_cons (La := L_law_1) (y_asgO (.s .z) sc_law.nd rfl (by first | exact .inl rfl | exact .inr rfl) (y_callO (ok_law_draws T) (hr.mono (by decide)) (by rfl) T.m_law_draws T.F_law_draws.kp T.b_law_draws (a_cons (v_ .z) (a_one y_int))))
      (y_cons (La := L_law_1) (y_for (vs := [2]) (Lb := L_law_2) PassesOwn.never rfl (i_list (y_fz (O := (oLst tInt)) (y_lst (a_consA y_int (a_consA y_int (a_consA y_int a_nilA)))))) (g_name (i := 2) (.s (.s .z)) (by exact sc_law.nd) rfl (by first | exact .inl rfl | exact .inr rfl))
       (y_cons (La := L_law_3) (y_asg (.s (.s (.s .z))) sc_law.nd rfl (by first | exact .inl rfl | exact .inr rfl) (y_callM (.s .z) rfl (by first | exact .inl rfl | exact .inr (.inl rfl) | exact .inr (.inr rfl)) (ok_law_groups T) (hr.mono (by decide)) (by rfl) T.m_law_groups T.F_law_groups.kp T.b_law_groups (a_one (y_callM (.s .z) rfl (by first | exact .inl rfl | exact .inr (.inl rfl) | exact .inr (.inr rfl)) (ok_law_take T) (hr.mono (by decide)) (by rfl) T.m_law_take T.F_law_take.kp T.b_law_take (a_one (v_ (.s (.s .z))))))))
      (y_cons (La := L_law_5) (y_asg (.s (.s (.s (.s .z)))) sc_law.nd rfl (by first | exact .inl rfl | exact .inr rfl) (y_cT call_tuple_of c_tuple (by rfl) T.n_tuple (by decide +kernel) (a_one (y_fz (O := (oLst tInt)) (y_comp (own := [("person", 5)]) (vs := [5]) (ws := [5]) (Lw := L_law_3) (Lb := L_law_4) (.keep (by decide) (.keep (by decide) (.keep (by decide) (.keep (by decide) (.keep (by decide) (.non .nil)))))) (.keep (by decide) (.keep (by decide) (.keep (by decide) (.keep (by decide) (.keep (by decide) (.imm .nil)))))) rfl (by decide) rfl sc_law.nd (i_range (by rfl) T.n_range y_int) (blkOk_by (own := [("person", 5)]) (N := ["script", "draws", "most", "groups", "wanted", "person"]) (sc := defScope s_law) (by decide +kernel)) (fun _ _ _ _ _ => (g_name (i := 5) (.s (.s (.s (.s (.s .z))))) (by exact sc_law.nd) rfl (by first | exact .inl rfl | exact .inr rfl))) (fun _ _ _ _ _ => (t_one (y_cmpT op_eq o_eqI (y_callM (.s .z) rfl (by first | exact .inl rfl | exact .inr (.inl rfl) | exact .inr (.inr rfl)) (ok_law_take T) (hr.mono (by decide)) (by rfl) T.m_law_take T.F_law_take.kp T.b_law_take (a_one y_int)) y_int (nomark _)))) (fun _ _ _ _ _ => (y_bin op_mulA o_mul y_int (v_ (.s (.s (.s (.s (.s .z)))))))))))))
      (y_cons (La := L_law_6) (y_ifJ (PW.pt (y_and (y_cmpT op_gt o_gt (y_cB call_len_seq c_lenT (by rfl) T.n_len (by decide +kernel) (a_one (v_ (.s (.s (.s .z)))))) y_int (nomark _)) (y_and1 (y_cmpT op_eq o_eqI (y_callM (.s .z) rfl (by first | exact .inl rfl | exact .inr (.inl rfl) | exact .inr (.inr rfl)) (ok_law_take T) (hr.mono (by decide)) (by rfl) T.m_law_take T.F_law_take.kp T.b_law_take (a_one y_int)) y_int (nomark _)))))
       (y_cons (La := L_law_5) (y_asg (.s (.s (.s (.s .z)))) sc_law.nd rfl (by first | exact .inl rfl | exact .inr rfl) (y_cT call_tuple_of c_tuple (by rfl) T.n_tuple (by decide +kernel) (a_one (y_fz (O := (oLst tInt)) (y_ssetT rfl (by rfl) T.n_sorted (by rfl) T.n_set (y_bin op_catA o_catT (y_ix ix_tup ix_t (v_ (.s (.s (.s .z)))) y_int) (y_ix ix_tup ix_t (v_ (.s (.s (.s .z)))) (y_un un_neg o_neg y_int))))))))
      (y_fg (La := L_law_6) (.s (.s .z)) y_nil))
       (y_fg (La := L_law_6) (.s (.s .z)) y_nil))
      (y_cons (La := L_law_1) (y_if (PW.pt (y_or (y_not (y_val (y_callM (.s .z) rfl (by first | exact .inl rfl | exact .inr (.inl rfl) | exact .inr (.inr rfl)) (ok_law_sent_right T) (hr.mono (by decide)) (by rfl) T.m_law_sent_right T.F_law_sent_right.kp T.b_law_sent_right (a_one (v_ (.s (.s (.s .z)))))))) (y_or (y_not (y_val (y_call (ok_law_told_right T) (hr.mono (by decide)) (by rfl) T.m_law_told_right T.F_law_told_right.kp T.b_law_told_right (a_cons (v_ (.s (.s (.s .z)))) (a_one (v_ (.s (.s (.s (.s .z)))))))))) (y_or1 (y_not (y_val (y_callM (.s .z) rfl (by first | exact .inl rfl | exact .inr (.inl rfl) | exact .inr (.inr rfl)) (ok_law_more_right T) (hr.mono (by decide)) (by rfl) T.m_law_more_right T.F_law_more_right.kp T.b_law_more_right (a_cons (v_ .z) (a_cons (v_ (.s (.s (.s .z)))) (a_one (v_ (.s (.s (.s (.s .z)))))))))))))))
       (y_one (y_ret y_bl))
       (y_fg (La := L_law_7) (.s (.s (.s .z))) (y_fg (La := L_law_1) (.s (.s (.s (.s .z)))) y_nil)))
      y_nil)))))
      (y_cons (La := L_law_8) (y_asg (.s (.s (.s .z))) sc_law.nd rfl (by first | exact .inl rfl | exact .inr rfl) (y_tupA (a_consA (y_tupA (a_consA y_int (a_consA y_int a_nilA))) (a_consA (y_tupA (a_consA y_int (a_consA y_int a_nilA))) (a_consA (y_tupA (a_consA y_int a_nilA)) (a_consA (y_tupA (a_consA y_int (a_consA y_int (a_consA y_int (a_consA y_int a_nilA))))) a_nilA))))))
      (y_cons (La := L_law_9) (y_if (PW.pt (y_or (y_not (y_val (y_same (dOpt (dAll dInt)) same_law (ok_law_same T) (hr.mono (by decide)) (by rfl) T.m_law_same T.F_law_same.kp T.b_law_same (y_call (ok_fewest_groups T) (hr.mono (by decide)) (by rfl) T.m_fewest_groups T.F_fewest_groups.kp T.b_fewest_groups (a_cons (v_ (.s (.s (.s .z)))) (a_one (y_tupA (a_consA y_int (a_consA y_int (a_consA y_int a_nilA))))))) (y_some rfl (y_tupA (a_consA y_int a_nilA)))))) (y_or (y_not (y_val (y_same (dOpt (dAll dInt)) same_law (ok_law_same T) (hr.mono (by decide)) (by rfl) T.m_law_same T.F_law_same.kp T.b_law_same (y_call (ok_just_these T) (hr.mono (by decide)) (by rfl) T.m_just_these T.F_just_these.kp T.b_just_these (a_cons (v_ (.s (.s (.s .z)))) (a_one (y_tupA (a_consA y_int (a_consA y_int (a_consA y_int a_nilA))))))) (y_some rfl (y_tupA (a_consA y_int (a_consA y_int a_nilA))))))) (y_or1 (y_not (y_val (y_same (dOpt (dAll dInt)) same_law (ok_law_same T) (hr.mono (by decide)) (by rfl) T.m_law_same T.F_law_same.kp T.b_law_same (y_call (ok_each_once T) (hr.mono (by decide)) (by rfl) T.m_each_once T.F_each_once.kp T.b_each_once (a_cons (v_ (.s (.s (.s .z)))) (a_one (y_tupA (a_consA y_int (a_consA y_int (a_consA y_int a_nilA))))))) (y_some rfl (y_tupA (a_consA y_int (a_consA y_int a_nilA)))))))))))
       (y_one (y_ret y_bl))
       (y_fg (La := L_law_10) .z (y_fg (La := L_law_9) (.s .z) y_nil)))
      (y_cons (La := L_law_9) (y_if (PW.pt (y_or (y_not (y_val (y_same (dAll (dTup (eCons dInt (eOne dInt)))) same_law (ok_law_same T) (hr.mono (by decide)) (by rfl) T.m_law_same T.F_law_same.kp T.b_law_same (y_tD (y_call (ok_heard_by T) (hr.mono (by decide)) (by rfl) T.m_heard_by T.F_heard_by.kp T.b_heard_by (a_cons (v_ (.s (.s (.s .z)))) (a_one (y_tupA (a_consA y_int (a_consA y_int (a_consA y_int a_nilA)))))))) (y_tupA (a_consA (y_tup (a_cons y_int (a_one y_int)) hl2) (a_consA (y_tup (a_cons y_int (a_one y_int)) hl2) (a_consA (y_tup (a_cons y_int (a_one y_int)) hl2) a_nilA))))))) (y_or (y_not (y_val (y_same (dAll dInt) same_law (ok_law_same T) (hr.mono (by decide)) (by rfl) T.m_law_same T.F_law_same.kp T.b_law_same (y_call (ok_needless_sent T) (hr.mono (by decide)) (by rfl) T.m_needless_sent T.F_needless_sent.kp T.b_needless_sent (a_cons (v_ (.s (.s (.s .z)))) (a_one (y_tupA (a_consA y_int (a_consA y_int (a_consA y_int a_nilA))))))) (y_tupA (a_consA y_int (a_consA y_int a_nilA)))))) (y_or1 (y_not (y_val (y_same (dAll dInt) same_law (ok_law_same T) (hr.mono (by decide)) (by rfl) T.m_law_same T.F_law_same.kp T.b_law_same (y_call (ok_twice_by T) (hr.mono (by decide)) (by rfl) T.m_twice_by T.F_twice_by.kp T.b_twice_by (a_cons (v_ (.s (.s (.s .z)))) (a_one (y_tupA (a_consA y_int (a_consA y_int a_nilA)))))) (y_tupA (a_consA y_int a_nilA)))))))))
       (y_one (y_ret y_bl))
       y_nil)
      (y_one (y_ret (y_vand (y_isN (y_call (ok_fewest_groups T) (hr.mono (by decide)) (by rfl) T.m_fewest_groups T.F_fewest_groups.kp T.b_fewest_groups (a_cons (v_ (.s (.s (.s .z)))) (a_one (y_tupA (a_consA y_int a_nilA)))))) (y_vand (y_same (dOpt (dAll dInt)) same_law (ok_law_same T) (hr.mono (by decide)) (by rfl) T.m_law_same T.F_law_same.kp T.b_law_same (y_call (ok_just_these T) (hr.mono (by decide)) (by rfl) T.m_just_these T.F_just_these.kp T.b_just_these (a_cons (v_ (.s (.s (.s .z)))) (a_one (y_tupA a_nilA)))) (y_some rfl (y_tupA a_nilA))) (y_vand (y_same (dOpt (dAll dInt)) same_law (ok_law_same T) (hr.mono (by decide)) (by rfl) T.m_law_same T.F_law_same.kp T.b_law_same (y_call (ok_each_once T) (hr.mono (by decide)) (by rfl) T.m_each_once T.F_each_once.kp T.b_each_once (a_cons (y_tupA (a_consA (y_tupA a_nilA) (a_consA (y_tupA (a_consA y_int a_nilA)) a_nilA))) (a_one (y_tupA (a_consA y_int a_nilA))))) (y_some rfl (y_tupA (a_consA y_int (a_consA y_int a_nilA))))) (y_vone (y_same (dAll (dTup (eCons dInt (eOne dInt)))) same_law (ok_law_same T) (hr.mono (by decide)) (by rfl) T.m_law_same T.F_law_same.kp T.b_law_same (y_tD (y_call (ok_heard_by T) (hr.mono (by decide)) (by rfl) T.m_heard_by T.F_heard_by.kp T.b_heard_by (a_cons (v_ (.s (.s (.s .z)))) (a_one (y_tupA a_nilA))))) (y_tupA a_nilA)))))))))))))
    (by exact h)⟩
noncomputable def m_law (y : (List Int)) : Option Bool := D_law.1 _ ((y, (), (), (), (), (), ()) : Env L_law_0) retO
theorem ok_law {P : Program} {w : World} {K : Fg} {mg : Str → Option Value} {base : Heap} (T : Txt K mg) : FnOk P w K mg base CX0 42 T.a_law T.d_law ["script"] (spP K (rOne (tScr tInt)) tBool m_law) :=
  fnP (k := 41) (L := L_law_0) (L' := []) (m := D_law.1) (fun y => (y, (), (), (), (), (), ())) T.F_law sc_law hs1 (pars1 (n := 5) rfl) (fun _ => rfl) (fun cdv A outer s H E hr => D_law.2 T cdv A outer s H E hr)
end Wk78

open L3 PySem
namespace Wk78
theorem e_often (groups : List (List Int)) (sent : List Int) : m_often (groups, sent) =
  (loopM (fun x0 (groups, sent, counts, _, _, _) =>
      (getI groups x0).bind fun t1 =>
      (loopM (fun x2 (groups, sent, counts, number, _, _) =>
          (setKC counts x2 (Option.getD (getK counts x2) (0 : Int) + (1 : Int))).bind fun t3 =>
          some (Out.nx (groups, sent, t3, number, (), ()))) t1 ((groups, sent, counts, x0, (), ()))).bind fun o => match o with
      | .go (groups, sent, counts, number, _, _) => some (Out.nx (groups, sent, counts, (), (), ()))
      | .rt r => some (Out.rt r)) sent ((groups, sent, [], (), (), ()))).bind fun o => match o with
  | .go (groups, sent, counts, _, _, _) => some counts
  | .rt r => some r := by set_option smartUnfolding false in exact rfl

theorem e_heard_by (groups : List (List Int)) (sent : List Int) : m_heard_by (groups, sent) =
  (m_often (groups, sent)).bind fun t0 =>
  (if List.length t0 < 64 then some (sortI (List.map (fun self ↦ self.1) t0))
    else none).bind fun t1 =>
  if List.length t1 ≤ 16777216 then (compM (fun x2 (groups, sent, counts, _, _) =>
        if true = true then (getK counts x2).bind fun t3 =>
          some (some (x2, t3), groups, sent, counts, (), ())
        else some (none, groups, sent, counts, (), ())) t1 ((groups, sent, t0, (), ()))).bind fun (t4, (groups, sent, counts, _, _)) =>
    some t4
  else none := by set_option smartUnfolding false in exact rfl

theorem e_sets_by_size (many : Int) : m_sets_by_size many =
  (rng1 many).bind fun t0 =>
  (loopM (fun x1 (many, found, _, _, _, _) =>
      if List.length found ≤ 16777216 then (compM (fun x2 (many, found, number, _, _, _) =>
            if true = true then (catC x2 [number]).bind fun t3 =>
              some (some t3, many, found, number, (), (), ())
            else some (none, many, found, number, (), (), ())) found ((many, found, x1, (), (), ()))).bind fun (t4, (many, found, number, _, _, _)) =>
        (catC found t4).bind fun t5 =>
        some (Out.nx (many, t5, (), (), (), ()))
      else none) t0 ((many, [[]], (), (), (), ()))).bind fun o => match o with
  | .go (many, found, _, _, _, _) => if List.length found ≤ 16777216 then (compM (fun x6 (many, found, _, _, _, _) =>
          if true = true then some (some ((↑(List.length x6) : Int), x6), many, found, (), (), (), ())
          else some (none, many, found, (), (), (), ())) found ((many, found, (), (), (), ()))).bind fun (t7, (many, found, _, _, _, _)) =>
      if List.length (sortU (Ord.lt (uTup (wCons uInt (wOne (uTup (wAll uInt)))))) t7) ≤ 16777216 then (compM (fun x8 (many, found, _, _, _, _) =>
            if true = true then some (some x8.2, many, found, (), (), (), ())
            else some (none, many, found, (), (), (), ())) (sortU (Ord.lt (uTup (wCons uInt (wOne (uTup (wAll uInt)))))) t7) ((many, found, (), (), (), ()))).bind fun (t9, (many, found, _, _, _, _)) =>
        some t9
      else none
    else none
  | .rt r => some r := by set_option smartUnfolding false in exact rfl

theorem e_fewest_groups (groups : List (List Int)) (wanted : List Int) : m_fewest_groups (groups, wanted) =
  (m_sets_by_size (↑(List.length groups) : Int)).bind fun t0 =>
  (loopM (fun x1 (groups, wanted, _, _, _, _) =>
      (m_often (groups, x1)).bind fun t2 =>
      if List.length wanted ≤ 16777216 then (compM (fun x3 (groups, wanted, some', counts, _, _) =>
            if true = true then some (some (Option.isSome (getK counts x3)), groups, wanted, some', counts, (), ())
            else some (none, groups, wanted, some', counts, (), ())) wanted ((groups, wanted, x1, t2, (), ()))).bind fun (t4, (groups, wanted, some', counts, _, _)) =>
        if List.all t4 id = true then some (Out.rt (some some'))
        else some (Out.nx (groups, wanted, (), (), (), ()))
      else none) t0 ((groups, wanted, (), (), (), ()))).bind fun o => match o with
  | .go (groups, wanted, _, _, _, _) => some none
  | .rt r => some r := by set_option smartUnfolding false in exact rfl

theorem e_just_these (groups : List (List Int)) (wanted : List Int) : m_just_these (groups, wanted) =
  (m_sets_by_size (↑(List.length groups) : Int)).bind fun t0 =>
  (loopM (fun x1 (groups, wanted, _, _) =>
      (m_often (groups, x1)).bind fun t2 =>
      (if List.length t2 < 64 then some (sortI (List.map (fun self ↦ self.1) t2))
        else none).bind fun t3 =>
      if decide (t3 = wanted) = true then some (Out.rt (some x1))
      else some (Out.nx (groups, wanted, (), ()))) t0 ((groups, wanted, (), ()))).bind fun o => match o with
  | .go (groups, wanted, _, _) => some none
  | .rt r => some r := by set_option smartUnfolding false in exact rfl

theorem e_each_once (groups : List (List Int)) (wanted : List Int) : m_each_once (groups, wanted) =
  (m_sets_by_size (↑(List.length groups) : Int)).bind fun t0 =>
  (loopM (fun x1 (groups, wanted, _, _, _) =>
      (m_heard_by (groups, x1)).bind fun t2 =>
      if List.length wanted ≤ 16777216 then (compM (fun x3 (groups, wanted, some', _, _) =>
            if true = true then some (some (x3, 1), groups, wanted, some', (), ())
            else some (none, groups, wanted, some', (), ())) wanted ((groups, wanted, x1, (), ()))).bind fun (t4, (groups, wanted, some', _, _)) =>
        if decide (t2 = t4) = true then some (Out.rt (some some'))
        else some (Out.nx (groups, wanted, (), (), ()))
      else none) (sortU (Ord.lt (uTup (wAll uInt))) t0) ((groups, wanted, (), (), ()))).bind fun o => match o with
  | .go (groups, wanted, _, _, _) => some none
  | .rt r => some r := by set_option smartUnfolding false in exact rfl

theorem e_twice_by (groups : List (List Int)) (sent : List Int) : m_twice_by (groups, sent) =
  (m_heard_by (groups, sent)).bind fun t0 =>
  if List.length t0 ≤ 16777216 then (compM (fun x1 (groups, sent, _, _, _) =>
        if decide (1 < x1.2) = true then some (some x1.1, groups, sent, (), (), ())
        else some (none, groups, sent, (), (), ())) t0 ((groups, sent, (), (), ()))).bind fun (t2, (groups, sent, _, _, _)) =>
    some t2
  else none := by set_option smartUnfolding false in exact rfl

theorem e_needless_sent (groups : List (List Int)) (sent : List Int) : m_needless_sent (groups, sent) =
  (m_often (groups, sent)).bind fun t0 =>
  (rng1 (↑(List.length sent) : Int)).bind fun t1 =>
  (loopM (fun x2 (groups, sent, counts, found, _, _, _) =>
      (catC (cutI sent none (some x2)) (cutI sent (some (x2 + 1)) none)).bind fun t3 =>
      (m_often (groups, t3)).bind fun t4 =>
      (if decide ((↑(List.length t4) : Int) = (↑(List.length counts) : Int)) = true then (appC found x2).bind fun (t5, d6) =>
          some (Out.nx (groups, sent, counts, d6, (), (), ()))
        else some (Out.nx (groups, sent, counts, found, (), (), ())) : Option (Out (List (List Int) × List Int × List (Int × Int) × List Int × PUnit × PUnit × PUnit) (List (List Int) × List Int × List (Int × Int) × List Int × PUnit × PUnit × PUnit) (List Int))).bind fun o => match o with
      | .nx (groups, sent, counts, found, _, _, _) => some (Out.nx (groups, sent, counts, found, (), (), ()))
      | .bk (groups, sent, counts, found, _, _, _) => some (Out.bk (groups, sent, counts, found, (), (), ()))
      | .ct (groups, sent, counts, found, _, _, _) => some (Out.ct (groups, sent, counts, found, (), (), ()))
      | .rt r => some (Out.rt r)) t1 ((groups, sent, t0, [], (), (), ()))).bind fun o => match o with
  | .go (groups, sent, counts, found, _, _, _) => some found
  | .rt r => some r := by set_option smartUnfolding false in exact rfl

theorem e_law_draws (script : List Int) (many : Int) : m_law_draws (script, many) =
  if List.length script ≤ 16777216 then (compM (fun x0 (script, many, _, _, _, _, _, _, _, _) =>
        if true = true then some (some x0, script, many, (), (), (), (), (), (), (), ())
        else some (none, script, many, (), (), (), (), (), (), (), ())) script ((script, many, (), (), (), (), (), (), (), ()))).bind fun (t1, (script, many, _, _, _, _, _, _, _, _)) =>
    (if decide ((↑(List.length t1) : Int) = 0) = true then (appC t1 0).bind fun (t2, d3) =>
        some (Out.nx ((), many, d3, (), (), (), (), (), (), ()))
      else some (Out.nx ((), many, t1, (), (), (), (), (), (), ())) : Option (Out (PUnit × Int × List Int × PUnit × PUnit × PUnit × PUnit × PUnit × PUnit × PUnit) PUnit (List Int))).bind fun o => match o with
    | .nx (_, many, cells, _, _, _, _, _, _, _) => (rng1 many).bind fun t4 =>
      (loopM (fun x5 (_, many, cells, rest, draws, _, _, _, _, _) =>
          (modC x5 (↑(List.length cells) : Int)).bind fun t6 =>
          ((getI cells t6).bind fun t7 =>
            if decide (1000000000000000000 ≤ t7) = true then (getI rest t6).bind fun t8 =>
              some (decide (0 < t8), (), many, cells, rest, draws, x5, t6, (), (), ())
            else some (false, (), many, cells, rest, draws, x5, t6, (), (), ())).bind fun (t9, (_, many, cells, rest, draws, k, at', _, _, _)) =>
          (if t9 = true then (getI rest at').bind fun t10 =>
              (modC t10 1000).bind fun t11 =>
              (appC draws t11).bind fun (t12, d13) =>
              (getI rest at').bind fun t14 =>
              (divC t14 1000).bind fun t15 =>
              (setC rest at' t15).bind fun t16 =>
              some (Out.nx ((), many, cells, t16, d13, (), (), (), (), ()))
            else (getI cells at').bind fun t17 =>
              (mulC t17 48271).bind fun t18 =>
              (mulC k 69621).bind fun t19 =>
              (modC (t18 + t19 + 11) 2147483647).bind fun t20 =>
              (mulC t20 t20).bind fun t21 =>
              (mulC 3 t20).bind fun t22 =>
              (modC (t21 + t22 + k) 1000003).bind fun t23 =>
              (appC draws t23).bind fun (t24, d25) =>
              some (Out.nx ((), many, cells, rest, d25, (), (), (), (), ())) : Option (Out (PUnit × Int × List Int × List Int × List Int × PUnit × PUnit × PUnit × PUnit × PUnit) (PUnit × Int × List Int × List Int × List Int × PUnit × PUnit × PUnit × PUnit × PUnit) (List Int))).bind fun o => match o with
          | .nx (_, many, cells, rest, draws, _, _, _, _, _) => some (Out.nx ((), many, cells, rest, draws, (), (), (), (), ()))
          | .bk (_, many, cells, rest, draws, _, _, _, _, _) => some (Out.bk ((), many, cells, rest, draws, (), (), (), (), ()))
          | .ct (_, many, cells, rest, draws, _, _, _, _, _) => some (Out.ct ((), many, cells, rest, draws, (), (), (), (), ()))
          | .rt r => some (Out.rt r)) t4 (((), many, cells, cells, [], (), (), (), (), ()))).bind fun o => match o with
      | .go (_, many, cells, rest, draws, _, _, _, _, _) => some (List.reverse draws)
      | .rt r => some r
    | .bk s26 => none
    | .ct s27 => none
    | .rt r => some r
  else none := by set_option smartUnfolding false in exact rfl

theorem e_law_take (draws : List Int) (many : Int) : m_law_take draws many =
  if decide ((↑(List.length draws) : Int) = 0) = true then some (0, draws)
  else (popC draws ()).bind fun (t0, d1) =>
    (modC t0 many).bind fun t2 =>
    some (t2, d1) := by set_option smartUnfolding false in exact rfl

theorem e_law_same (actual : Nat) (due : PyData × PyData) : m_law_same actual due =
  m_law_same actual due := by set_option smartUnfolding false in exact rfl

theorem e_law_size (draws : List Int) (script : List Int) : m_law_size draws script =
  (m_law_take draws 4).bind fun (t0, d1) =>
  (m_law_take d1 1000).bind fun (t2, d3) =>
  (if decide (t0 = 1) = true then (m_law_take d3 1000).bind fun (t4, d5) =>
      (mulC (1 + t4) 1000000000000000).bind fun t6 =>
      some (Out.nx (d5, script, t0, t2 + t6, ()))
    else some (Out.nx (d3, script, t0, t2, ())) : Option (Out (List Int × List Int × Int × Int × PUnit) PUnit (Int × List Int))).bind fun o => match o with
  | .nx (draws, script, kind, number, _) => (if (decide (kind = 2) && decide (0 < (↑(List.length script) : Int))) = true then (m_law_take draws (↑(List.length script) : Int)).bind fun (t7, d8) =>
        (getI script t7).bind fun t9 =>
        (modC (↑(Int.natAbs t9) : Int) 1000000000000000000000000000000000000000000000000000000000000).bind fun t10 =>
        some (Out.nx (d8, (), kind, number + t10, ()))
      else some (Out.nx (draws, (), kind, number, ())) : Option (Out (List Int × PUnit × Int × Int × PUnit) PUnit (Int × List Int))).bind fun o => match o with
    | .nx (draws, _, kind, number, _) => (if decide (kind = 3) = true then (mulC number 1000).bind fun t11 =>
          (m_law_take draws 1000).bind fun (t12, d13) =>
          some (Out.nx (d13, (), (), t11 + t12, ()))
        else some (Out.nx (draws, (), (), number, ())) : Option (Out (List Int × PUnit × PUnit × Int × PUnit) PUnit (Int × List Int))).bind fun o => match o with
      | .nx (draws, _, _, number, _) => some (number, draws)
      | .bk s14 => none
      | .ct s15 => none
      | .rt r => some r
    | .bk s16 => none
    | .ct s17 => none
    | .rt r => some r
  | .bk s18 => none
  | .ct s19 => none
  | .rt r => some r := by set_option smartUnfolding false in exact rfl

theorem e_law_groups (draws : List Int) (many : Int) : m_law_groups draws many =
  (m_law_take draws 8).bind fun (t0, d1) =>
  (m_law_take d1 3).bind fun (t2, d3) =>
  (rng1 many).bind fun t4 =>
  (loopM (fun x5 (draws, many, wide, rare, found, _, _, _, _) =>
      (rng1 wide).bind fun t6 =>
      if List.length t6 ≤ 16777216 then (compM (fun x7 (draws, many, wide, rare, found, k, _, _, _) =>
            (m_law_take draws (1 + rare)).bind fun (t8, d9) =>
            if decide (t8 = 0) = true then (mulC 2 x7).bind fun t10 =>
              some (some t10, d9, many, wide, rare, found, k, (), (), ())
            else some (none, d9, many, wide, rare, found, k, (), (), ())) t6 ((draws, many, wide, rare, found, x5, (), (), ()))).bind fun (t11, (draws, many, wide, rare, found, k, _, _, _)) =>
        (if decide (0 < k) = true then (m_law_take draws 4).bind fun (t12, d13) =>
            some (decide (t12 = 0), d13, many, wide, rare, found, k, t11, (), ())
          else some (false, draws, many, wide, rare, found, k, t11, (), ())).bind fun (t14, (draws, many, wide, rare, found, k, group, _, _)) =>
        (if t14 = true then (getI found (-1)).bind fun t15 =>
            (m_law_take draws 2).bind fun (t16, d17) =>
            some (Out.nx (d17, many, wide, rare, found, (), cutI t15 (some t16) none, (), ()))
          else some (Out.nx (draws, many, wide, rare, found, (), group, (), ())) : Option (Out (List Int × Int × Int × Int × List (List Int) × PUnit × List Int × PUnit × PUnit) (List Int × Int × Int × Int × List (List Int) × PUnit × PUnit × PUnit × PUnit) (List (List Int) × List Int))).bind fun o => match o with
        | .nx (draws, many, wide, rare, found, _, group, _, _) => (appC found group).bind fun (t18, d19) =>
          some (Out.nx (draws, many, wide, rare, d19, (), (), (), ()))
        | .bk (draws, many, wide, rare, found, _, _, _, _) => some (Out.bk (draws, many, wide, rare, found, (), (), (), ()))
        | .ct (draws, many, wide, rare, found, _, _, _, _) => some (Out.ct (draws, many, wide, rare, found, (), (), (), ()))
        | .rt r => some (Out.rt r)
      else none) t4 ((d3, many, 1 + t0, 1 + t2, [], (), (), (), ()))).bind fun o => match o with
  | .go (draws, many, wide, rare, found, _, _, _, _) => some (found, draws)
  | .rt r => some r := by set_option smartUnfolding false in exact rfl

theorem e_law_counts (groups : List (List Int)) (sent : List Int) : m_law_counts (groups, sent) =
  (loopM (fun x0 (groups, sent, found, _, _, _) =>
      (getI groups x0).bind fun t1 =>
      (loopM (fun x2 (groups, sent, found, number, _, _) =>
          (setKC found x2 (Option.getD (getK found x2) (0 : Int) + (1 : Int))).bind fun t3 =>
          some (Out.nx (groups, sent, t3, number, (), ()))) t1 ((groups, sent, found, x0, (), ()))).bind fun o => match o with
      | .go (groups, sent, found, number, _, _) => some (Out.nx (groups, sent, found, (), (), ()))
      | .rt r => some (Out.rt r)) sent ((groups, sent, [], (), (), ()))).bind fun o => match o with
  | .go (groups, sent, found, _, _, _) => some found
  | .rt r => some r := by set_option smartUnfolding false in exact rfl

theorem e_law_sets (many : Int) : m_law_sets many =
  (rng1 many).bind fun t0 =>
  (loopM (fun x1 (many_2, found, _, _, _) =>
      if List.length found ≤ 16777216 then (compM (fun x3 (many_4, found_5, number, _, _) =>
            if true = true then (catC x3 [number]).bind fun t6 =>
              some (some t6, many_4, found_5, number, (), ())
            else some (none, many_4, found_5, number, (), ())) found ((many_2, found, x1, (), ()))).bind fun (t7, (many_8, found_9, number, _, _)) =>
        (catC found t7).bind fun t10 =>
        some (Out.nx (many_8, t10, (), (), ()))
      else none) t0 ((many, [[]], (), (), ()))).bind fun o => match o with
  | .go (many_11, found, _, _, _) => some found
  | .rt r => some r := by set_option smartUnfolding false in exact rfl

theorem e_law_sent_right (draws : List Int) (groups : List (List Int)) : m_law_sent_right draws groups =
  (m_law_take draws 9).bind fun (t0, d1) =>
  (mulC t0 (b01 (decide (0 < (↑(List.length groups) : Int))))).bind fun t2 =>
  (rng1 t2).bind fun t3 =>
  if List.length t3 ≤ 16777216 then (compM (fun x4 (draws_5, groups_6, _, _, _, _, _, _, _, _, _, _, _, _, _) =>
        if true = true then (m_law_take draws_5 (↑(List.length groups_6) : Int)).bind fun (t7, d8) =>
          some (some t7, d8, groups_6, (), (), (), (), (), (), (), (), (), (), (), (), ())
        else some (none, draws_5, groups_6, (), (), (), (), (), (), (), (), (), (), (), (), ())) t3 ((d1, groups, (), (), (), (), (), (), (), (), (), (), (), (), ()))).bind fun (t9, (draws_10, groups_11, _, _, _, _, _, _, _, _, _, _, _, _, _)) =>
    (m_law_counts (groups_11, t9)).bind fun t12 =>
    (m_heard_by (groups_11, t9)).bind fun t13 =>
    ((if List.length t12 < 64 then some (sortI (List.map (fun self ↦ self.1) t12))
        else none).bind fun t14 =>
      if List.length t14 ≤ 16777216 then (compM (fun x15 (draws_16, groups_17, sent, counts, told, _, _, _, _, _, _, _, _, _, _) =>
            if true = true then (getK counts x15).bind fun t18 =>
              some (some (x15, t18), draws_16, groups_17, sent, counts, told, (), (), (), (), (), (), (), (), (), ())
            else some (none, draws_16, groups_17, sent, counts, told, (), (), (), (), (), (), (), (), (), ())) t14 ((draws_10, groups_11, t9, t12, t13, (), (), (), (), (), (), (), (), (), ()))).bind fun (t19, (draws_20, groups_21, sent, counts, told, _, _, _, _, _, _, _, _, _, _)) =>
        if (!decide (t13 = t19)) = true then some (true, draws_20, groups_21, sent, counts, told, (), (), (), (), (), (), (), (), (), ())
        else if List.length told ≤ 16777216 then (compM (fun x22 (draws_23, groups_24, sent_25, counts_26, told_27, _, _, _, _, _, _, _, _, _, _) =>
                if true = true then some (some x22.2, draws_23, groups_24, sent_25, counts_26, told_27, (), (), (), (), (), (), (), (), (), ())
                else some (none, draws_23, groups_24, sent_25, counts_26, told_27, (), (), (), (), (), (), (), (), (), ())) told ((draws_20, groups_21, sent, counts, told, (), (), (), (), (), (), (), (), (), ()))).bind fun (t28, (draws_29, groups_30, sent_31, counts_32, told_33, _, _, _, _, _, _, _, _, _, _)) =>
            if List.length sent_31 ≤ 16777216 then (compM (fun x34 (draws_35, groups_36, sent_37, counts_38, told_39, _, _, _, _, _, _, _, _, _, _) =>
                  if true = true then (getI groups_36 x34).bind fun t40 =>
                    some (some (↑(List.length t40) : Int), draws_35, groups_36, sent_37, counts_38, told_39, (), (), (), (), (), (), (), (), (), ())
                  else some (none, draws_35, groups_36, sent_37, counts_38, told_39, (), (), (), (), (), (), (), (), (), ())) sent_31 ((draws_29, groups_30, sent_31, counts_32, told_33, (), (), (), (), (), (), (), (), (), ()))).bind fun (t41, (draws_42, groups_43, sent_44, counts_45, told_46, _, _, _, _, _, _, _, _, _, _)) =>
              some (!decide (List.sum t28 = List.sum t41), draws_42, groups_43, sent_44, counts_45, told_46, (), (), (), (), (), (), (), (), (), ())
            else none
          else none
      else none).bind fun (t47, (draws_48, groups_49, sent, counts, told, _, _, _, _, _, _, _, _, _, _)) =>
    if t47 = true then some (false, draws_48)
    else (m_twice_by (groups_49, sent)).bind fun t50 =>
      (if List.length counts < 64 then some (sortI (List.map (fun self ↦ self.1) counts))
        else none).bind fun t51 =>
      if List.length t51 ≤ 16777216 then (compM (fun x52 (draws_53, groups_54, sent_55, counts_56, _, _, _, _, _, _, _, _, _, _, _) =>
            (getK counts_56 x52).bind fun t57 =>
            if decide (1 < t57) = true then some (some x52, draws_53, groups_54, sent_55, counts_56, (), (), (), (), (), (), (), (), (), (), ())
            else some (none, draws_53, groups_54, sent_55, counts_56, (), (), (), (), (), (), (), (), (), (), ())) t51 ((draws_48, groups_49, sent, counts, (), (), (), (), (), (), (), (), (), (), ()))).bind fun (t58, (draws_59, groups_60, sent_61, counts_62, _, _, _, _, _, _, _, _, _, _, _)) =>
        if (!decide (t50 = t58)) = true then some (false, draws_59)
        else (rng1 (↑(List.length sent_61) : Int)).bind fun t63 =>
          (loopM (fun x64 (draws_65, groups_66, sent_67, counts_68, _, due, _, _, _, _, _, _, _, _, _) =>
              (getI sent_67 x64).bind fun t69 =>
              (getI groups_66 t69).bind fun t70 =>
              if List.length t70 ≤ 16777216 then (compM (fun x71 (draws_72, groups_73, sent_74, counts_75, _, due_76, place, _, _, _, _, _, _, _, _) =>
                    (getK counts_75 x71).bind fun t77 =>
                    if decide (t77 < 2) = true then some (some x71, draws_72, groups_73, sent_74, counts_75, (), due_76, place, (), (), (), (), (), (), (), ())
                    else some (none, draws_72, groups_73, sent_74, counts_75, (), due_76, place, (), (), (), (), (), (), (), ())) t70 ((draws_65, groups_66, sent_67, counts_68, (), due, x64, (), (), (), (), (), (), (), ()))).bind fun (t78, (draws_79, groups_80, sent_81, counts_82, _, due_83, place, _, _, _, _, _, _, _, _)) =>
                (if decide ((↑(List.length t78) : Int) = 0) = true then (appC due_83 place).bind fun (t84, d85) =>
                    some (Out.nx (draws_79, groups_80, sent_81, counts_82, (), d85, (), (), (), (), (), (), (), (), ()))
                  else some (Out.nx (draws_79, groups_80, sent_81, counts_82, (), due_83, (), (), (), (), (), (), (), (), ())) : Option (Out (List Int × List (List Int) × List Int × List (Int × Int) × PUnit × List Int × PUnit × PUnit × PUnit × PUnit × PUnit × PUnit × PUnit × PUnit × PUnit) (List Int × List (List Int) × List Int × List (Int × Int) × PUnit × List Int × PUnit × PUnit × PUnit × PUnit × PUnit × PUnit × PUnit × PUnit × PUnit) (Bool × List Int))).bind fun o => match o with
                | .nx (draws_86, groups_87, sent_88, counts_89, _, due_90, _, _, _, _, _, _, _, _, _) => some (Out.nx (draws_86, groups_87, sent_88, counts_89, (), due_90, (), (), (), (), (), (), (), (), ()))
                | .bk (draws_91, groups_92, sent_93, counts_94, _, due_95, _, _, _, _, _, _, _, _, _) => some (Out.bk (draws_91, groups_92, sent_93, counts_94, (), due_95, (), (), (), (), (), (), (), (), ()))
                | .ct (draws_96, groups_97, sent_98, counts_99, _, due_100, _, _, _, _, _, _, _, _, _) => some (Out.ct (draws_96, groups_97, sent_98, counts_99, (), due_100, (), (), (), (), (), (), (), (), ()))
                | .rt r => some (Out.rt r)
              else none) t63 ((draws_59, groups_60, sent_61, counts_62, (), [], (), (), (), (), (), (), (), (), ()))).bind fun o => match o with
          | .go (draws_101, groups_102, sent_103, counts_104, _, due, _, _, _, _, _, _, _, _, _) => ((m_needless_sent (groups_102, sent_103)).bind fun t105 =>
              if (!decide (t105 = due)) = true then some (true, draws_101, groups_102, sent_103, counts_104, (), due, (), (), (), (), (), (), (), (), ())
              else (rng1 (↑(List.length sent_103) : Int)).bind fun t106 =>
                if List.length t106 ≤ 16777216 then (compM (fun x107 (draws_108, groups_109, sent_110, counts_111, _, due_112, _, _, _, _, _, _, _, _, _) =>
                      ((getI sent_110 x107).bind fun t113 =>
                        if decide (1 < (↑(List.count t113 sent_110) : Int)) = true then some (!decide (x107 ∈ due_112), draws_108, groups_109, sent_110, counts_111, (), due_112, x107, (), (), (), (), (), (), (), ())
                        else some (false, draws_108, groups_109, sent_110, counts_111, (), due_112, x107, (), (), (), (), (), (), (), ())).bind fun (t114, (draws_115, groups_116, sent_117, counts_118, _, due_119, place, _, _, _, _, _, _, _, _)) =>
                      if t114 = true then some (some place, draws_115, groups_116, sent_117, counts_118, (), due_119, (), (), (), (), (), (), (), (), ())
                      else some (none, draws_115, groups_116, sent_117, counts_118, (), due_119, (), (), (), (), (), (), (), (), ())) t106 ((draws_101, groups_102, sent_103, counts_104, (), due, (), (), (), (), (), (), (), (), ()))).bind fun (t120, (draws_121, groups_122, sent_123, counts_124, _, due_125, _, _, _, _, _, _, _, _, _)) =>
                  some (decide (0 < (↑(List.length t120) : Int)), draws_121, groups_122, sent_123, counts_124, (), due_125, (), (), (), (), (), (), (), (), ())
                else none).bind fun (t126, (draws_127, groups_128, sent_129, counts_130, _, due_131, _, _, _, _, _, _, _, _, _)) =>
            if t126 = true then some (false, draws_127)
            else (lrng (↑(List.length groups_128) : Int)).bind fun t132 =>
              (m_heard_by (groups_128, t132)).bind fun t133 =>
              if List.length (List.map (fun self ↦ self.1) (dictOf t133)) ≤ 16777216 then (compM (fun x134 (draws_135, groups_136, _, _, _, _, _, every, _, _, _, _, _, _, _) =>
                    if true = true then some (some x134, draws_135, groups_136, (), (), (), (), (), every, (), (), (), (), (), (), ())
                    else some (none, draws_135, groups_136, (), (), (), (), (), every, (), (), (), (), (), (), ())) (List.map (fun self ↦ self.1) (dictOf t133)) ((draws_127, groups_128, (), (), (), (), (), dictOf t133, (), (), (), (), (), (), ()))).bind fun (t137, (draws_138, groups_139, _, _, _, _, _, every, _, _, _, _, _, _, _)) =>
                (ssetC t137).bind fun t140 =>
                (rng1 16).bind fun t141 =>
                if List.length t141 ≤ 16777216 then (compM (fun x142 (draws_143, groups_144, _, _, _, _, _, every_145, people, _, _, _, _, _, _) =>
                      (if List.length groups_144 ≤ 16777216 then (compM (fun x146 (draws_147, groups_148, _, _, _, _, _, every_149, people_150, _, person, _, _, _, _) =>
                              if decide (person ∈ x146) = true then some (some x146, draws_147, groups_148, (), (), (), (), (), every_149, people_150, (), person, (), (), (), ())
                              else some (none, draws_147, groups_148, (), (), (), (), (), every_149, people_150, (), person, (), (), (), ())) groups_144 ((draws_143, groups_144, (), (), (), (), (), every_145, people, (), x142, (), (), (), ()))).bind fun (t151, (draws_152, groups_153, _, _, _, _, _, every_154, people_155, _, person, _, _, _, _)) =>
                          if decide (Option.getD (getK every_145 x142) 0 = (↑(List.length t151) : Int)) = true then some (decide (0 < Option.getD (getK every_154 person) 0), draws_152, groups_153, (), (), (), (), (), every_154, people_155, (), person, (), (), (), ())
                          else some (false, draws_152, groups_153, (), (), (), (), (), every_154, people_155, (), person, (), (), (), ())
                        else none).bind fun (t156, (draws_157, groups_158, _, _, _, _, _, every_159, people_160, _, person, _, _, _, _)) =>
                      if t156 = true then some (some person, draws_157, groups_158, (), (), (), (), (), every_159, people_160, (), (), (), (), (), ())
                      else some (none, draws_157, groups_158, (), (), (), (), (), every_159, people_160, (), (), (), (), (), ())) t141 ((draws_138, groups_139, (), (), (), (), (), every, t140, (), (), (), (), (), ()))).bind fun (t161, (draws_162, groups_163, _, _, _, _, _, every_164, people, _, _, _, _, _, _)) =>
                  some (decide (t140 = t161), draws_162)
                else none
              else none
          | .rt r => some r
      else none
  else none := by set_option smartUnfolding false in exact rfl

theorem e_law_told_right (groups : List (List Int)) (wanted : List Int) : m_law_told_right (groups, wanted) =
  (m_law_sets (↑(List.length groups) : Int)).bind fun t0 =>
  if List.length t0 ≤ 16777216 then (compM (fun x1 (groups, wanted, sets, _, _, _, _, _, _, _, _, _, _, _) =>
        if List.length wanted ≤ 16777216 then (compM (fun x2 (groups, wanted, sets, _, _, _, _, _, _, some', _, _, _, _) =>
              (m_law_counts (groups, some')).bind fun t3 =>
              if (!Option.isSome (getK t3 x2)) = true then some (some x2, groups, wanted, sets, (), (), (), (), (), (), some', (), (), (), ())
              else some (none, groups, wanted, sets, (), (), (), (), (), (), some', (), (), (), ())) wanted ((groups, wanted, sets, (), (), (), (), (), (), x1, (), (), (), ()))).bind fun (t4, (groups, wanted, sets, _, _, _, _, _, _, some', _, _, _, _)) =>
          if decide ((↑(List.length t4) : Int) = 0) = true then some (some some', groups, wanted, sets, (), (), (), (), (), (), (), (), (), (), ())
          else some (none, groups, wanted, sets, (), (), (), (), (), (), (), (), (), (), ())
        else none) t0 ((groups, wanted, t0, (), (), (), (), (), (), (), (), (), (), ()))).bind fun (t5, (groups, wanted, sets, _, _, _, _, _, _, _, _, _, _, _)) =>
    if List.length t5 ≤ 16777216 then (compM (fun x6 (groups, wanted, sets, have', _, _, _, _, _, _, _, _, _, _) =>
          (m_law_counts (groups, x6)).bind fun t7 =>
          if decide ((↑(List.length t7) : Int) = (↑(List.length wanted) : Int)) = true then some (some x6, groups, wanted, sets, have', (), (), (), (), (), (), (), (), (), ())
          else some (none, groups, wanted, sets, have', (), (), (), (), (), (), (), (), (), ())) t5 ((groups, wanted, sets, t5, (), (), (), (), (), (), (), (), (), ()))).bind fun (t8, (groups, wanted, sets, have', _, _, _, _, _, _, _, _, _, _)) =>
      if List.length t8 ≤ 16777216 then (compM (fun x9 (groups, wanted, sets, have', just, _, _, _, _, _, _, _, _, _) =>
            if List.length wanted ≤ 16777216 then (compM (fun x10 (groups, wanted, sets, have', just, _, _, _, _, some', _, _, _, _) =>
                  (m_law_counts (groups, some')).bind fun t11 =>
                  (getK t11 x10).bind fun t12 =>
                  if decide (1 < t12) = true then some (some x10, groups, wanted, sets, have', just, (), (), (), (), some', (), (), (), ())
                  else some (none, groups, wanted, sets, have', just, (), (), (), (), some', (), (), (), ())) wanted ((groups, wanted, sets, have', just, (), (), (), (), x9, (), (), (), ()))).bind fun (t13, (groups, wanted, sets, have', just, _, _, _, _, some', _, _, _, _)) =>
              if decide ((↑(List.length t13) : Int) = 0) = true then some (some some', groups, wanted, sets, have', just, (), (), (), (), (), (), (), (), ())
              else some (none, groups, wanted, sets, have', just, (), (), (), (), (), (), (), (), ())
            else none) t8 ((groups, wanted, sets, have', t8, (), (), (), (), (), (), (), (), ()))).bind fun (t14, (groups, wanted, sets, have', just, _, _, _, _, _, _, _, _, _)) =>
        if List.length have' ≤ 16777216 then (compM (fun x15 (groups, wanted, sets, have', just, once, _, _, _, _, _, _, _, _) =>
              if true = true then some (some ((↑(List.length x15) : Int), x15), groups, wanted, sets, have', just, once, (), (), (), (), (), (), (), ())
              else some (none, groups, wanted, sets, have', just, once, (), (), (), (), (), (), (), ())) have' ((groups, wanted, sets, have', just, t14, (), (), (), (), (), (), (), ()))).bind fun (t16, (groups, wanted, sets, have', just, once, _, _, _, _, _, _, _, _)) =>
          if List.length (sortU (Ord.lt (uTup (wCons uInt (wOne (uTup (wAll uInt)))))) t16) ≤ 16777216 then (compM (fun x17 (groups, wanted, sets, have', just, once, _, _, _, _, _, _, _, _) =>
                if true = true then some (some (some x17.2), groups, wanted, sets, have', just, once, (), (), (), (), (), (), (), ())
                else some (none, groups, wanted, sets, have', just, once, (), (), (), (), (), (), (), ())) (sortU (Ord.lt (uTup (wCons uInt (wOne (uTup (wAll uInt)))))) t16) ((groups, wanted, sets, have', just, once, (), (), (), (), (), (), (), ()))).bind fun (t18, (groups, wanted, sets, have', just, once, _, _, _, _, _, _, _, _)) =>
            (catC t18 [none]).bind fun t19 =>
            (getI t19 0).bind fun t20 =>
            if List.length just ≤ 16777216 then (compM (fun x21 (groups, wanted, sets, have', just, once, first, _, _, _, _, _, _, _) =>
                  if true = true then some (some ((↑(List.length x21) : Int), x21), groups, wanted, sets, have', just, once, first, (), (), (), (), (), (), ())
                  else some (none, groups, wanted, sets, have', just, once, first, (), (), (), (), (), (), ())) just ((groups, wanted, sets, have', just, once, t20, (), (), (), (), (), (), ()))).bind fun (t22, (groups, wanted, sets, have', just, once, first, _, _, _, _, _, _, _)) =>
              if List.length (sortU (Ord.lt (uTup (wCons uInt (wOne (uTup (wAll uInt)))))) t22) ≤ 16777216 then (compM (fun x23 (groups, wanted, sets, have', just, once, first, _, _, _, _, _, _, _) =>
                    if true = true then some (some (some x23.2), groups, wanted, sets, have', just, once, first, (), (), (), (), (), (), ())
                    else some (none, groups, wanted, sets, have', just, once, first, (), (), (), (), (), (), ())) (sortU (Ord.lt (uTup (wCons uInt (wOne (uTup (wAll uInt)))))) t22) ((groups, wanted, sets, have', just, once, first, (), (), (), (), (), (), ()))).bind fun (t24, (groups, wanted, sets, have', just, once, first, _, _, _, _, _, _, _)) =>
                (catC t24 [none]).bind fun t25 =>
                (getI t25 0).bind fun t26 =>
                (catC (List.map some (sortU (Ord.lt (uTup (wAll uInt))) once)) [none]).bind fun t27 =>
                (getI t27 0).bind fun t28 =>
                ((m_fewest_groups (groups, wanted)).bind fun t29 =>
                  if (!decide (t29 = first)) = true then some (true, groups, wanted, sets, have', just, once, first, t26, t28, (), (), (), (), ())
                  else ((m_just_these (groups, wanted)).bind fun t30 =>
                      if (!decide (t30 = t26)) = true then some (true, groups, wanted, sets, have', just, once, first, t26, t28, (), (), (), (), ())
                      else (m_each_once (groups, wanted)).bind fun t31 =>
                        some (!decide (t31 = t28), groups, wanted, sets, have', just, once, first, t26, t28, (), (), (), (), ())).bind fun (t32, (groups, wanted, sets, have', just, once, first, second, third, _, _, _, _, _)) =>
                    some (t32, groups, wanted, sets, have', just, once, first, second, third, (), (), (), (), ())).bind fun (t33, (groups, wanted, sets, have', just, once, first, second, third, _, _, _, _, _)) =>
                if t33 = true then some false
                else (if Option.isSome second = true then (if Option.isNone first = true then some (true, groups, wanted, (), (), (), (), first, second, third, (), (), (), (), ())
                        else (second).bind fun t34 =>
                          (first).bind fun t35 =>
                          some (decide ((↑(List.length t34) : Int) < (↑(List.length t35) : Int)), groups, wanted, (), (), (), (), first, second, third, (), (), (), (), ())).bind fun (t36, (groups, wanted, _, _, _, _, first, second, third, _, _, _, _, _)) =>
                      some (t36, groups, wanted, (), (), (), (), first, second, third, (), (), (), (), ())
                    else some (false, groups, wanted, (), (), (), (), first, second, third, (), (), (), (), ())).bind fun (t37, (groups, wanted, _, _, _, _, first, second, third, _, _, _, _, _)) =>
                  if t37 = true then some false
                  else if Option.isNone third = true then some true
                    else ((third).bind fun t38 =>
                        (m_twice_by (groups, t38)).bind fun t39 =>
                        if (!decide (t39 = [])) = true then some (true, groups, wanted, (), (), (), (), (), (), third, (), (), (), (), ())
                        else (third).bind fun t40 =>
                          (m_heard_by (groups, t40)).bind fun t41 =>
                          if List.length wanted ≤ 16777216 then (compM (fun x42 (groups, wanted, _, _, _, _, _, _, third, _, _, _, _, _) =>
                                if true = true then some (some (x42, 1), groups, wanted, (), (), (), (), (), (), third, (), (), (), (), ())
                                else some (none, groups, wanted, (), (), (), (), (), (), third, (), (), (), (), ())) wanted ((groups, wanted, (), (), (), (), (), (), third, (), (), (), (), ()))).bind fun (t43, (groups, wanted, _, _, _, _, _, _, third, _, _, _, _, _)) =>
                            some (!decide (t41 = t43), groups, wanted, (), (), (), (), (), (), third, (), (), (), (), ())
                          else none).bind fun (t44, (groups, wanted, _, _, _, _, _, _, third, _, _, _, _, _)) =>
                      if t44 = true then some false
                      else (third).bind fun t45 =>
                        (m_needless_sent (groups, t45)).bind fun t46 =>
                        if List.length t46 ≤ 16777216 then (compM (fun x47 (groups, _, _, _, _, _, _, _, third, _, _, _, _, _) =>
                              (third).bind fun t48 =>
                              (getI t48 x47).bind fun t49 =>
                              (getI groups t49).bind fun t50 =>
                              if decide (0 < (↑(List.length t50) : Int)) = true then some (some x47, groups, (), (), (), (), (), (), (), third, (), (), (), (), ())
                              else some (none, groups, (), (), (), (), (), (), (), third, (), (), (), (), ())) t46 ((groups, (), (), (), (), (), (), (), third, (), (), (), (), ()))).bind fun (t51, (groups, _, _, _, _, _, _, _, third, _, _, _, _, _)) =>
                          some (decide ((↑(List.length t51) : Int) = 0))
                        else none
              else none
            else none
          else none
        else none
      else none
    else none
  else none := by set_option smartUnfolding false in exact rfl

theorem e_law_more_right (draws : List Int) (script : List Int) (groups : List (List Int)) (wanted : List Int) : m_law_more_right draws (script, groups, wanted) =
  (m_fewest_groups (groups, wanted)).bind fun t0 =>
  (catC (cutI wanted none (some 3)) [30]).bind fun t1 =>
  (ssetC t1).bind fun t2 =>
  (catC groups [t2]).bind fun t3 =>
  (m_fewest_groups (t3, wanted)).bind fun t4 =>
  (if Option.isSome t0 = true then (if Option.isNone t4 = true then some (true, draws, script, groups, wanted, t0, t4, (), (), (), (), (), (), (), ())
        else (t4).bind fun t5 =>
          (t0).bind fun t6 =>
          some (decide ((↑(List.length t6) : Int) < (↑(List.length t5) : Int)), draws, script, groups, wanted, t0, t4, (), (), (), (), (), (), (), ())).bind fun (t7, (draws, script, groups, wanted, before, behind, _, _, _, _, _, _, _, _)) =>
      some (t7, draws, script, groups, wanted, before, behind, (), (), (), (), (), (), (), ())
    else some (false, draws, script, groups, wanted, t0, t4, (), (), (), (), (), (), (), ())).bind fun (t8, (draws, script, groups, wanted, before, behind, _, _, _, _, _, _, _, _)) =>
  if t8 = true then some (false, draws)
  else (m_law_take draws 8).bind fun (t9, d10) =>
    (mulC 2 t9).bind fun t11 =>
    (catC wanted [t11]).bind fun t12 =>
    (ssetC t12).bind fun t13 =>
    (m_fewest_groups (groups, t13)).bind fun t14 =>
    (if Option.isSome t14 = true then (if Option.isNone before = true then some (true, d10, script, groups, wanted, before, (), t13, t14, (), (), (), (), (), ())
          else (t14).bind fun t15 =>
            (before).bind fun t16 =>
            some (decide ((↑(List.length t15) : Int) < (↑(List.length t16) : Int)), d10, script, groups, wanted, before, (), t13, t14, (), (), (), (), (), ())).bind fun (t17, (draws, script, groups, wanted, before, _, more, later, _, _, _, _, _, _)) =>
        some (t17, draws, script, groups, wanted, before, (), more, later, (), (), (), (), (), ())
      else some (false, d10, script, groups, wanted, before, (), t13, t14, (), (), (), (), (), ())).bind fun (t18, (draws, script, groups, wanted, before, _, more, later, _, _, _, _, _, _)) =>
    if t18 = true then some (false, draws)
    else (m_law_size draws script).bind fun (t19, d20) =>
      (modC t19 10000000000000000000000000000).bind fun t21 =>
      if List.length groups ≤ 16777216 then (compM (fun x22 (draws, script, groups, wanted, before, _, _, _, by', _, _, _, _, _) =>
            if true = true then if List.length x22 ≤ 16777216 then (compM (fun x23 (draws, script, groups, wanted, before, _, _, _, by', _, _, _, group, _) =>
                    if true = true then (mulC 3 x23).bind fun t24 =>
                      some (some (t24 + by'), draws, script, groups, wanted, before, (), (), (), by', (), (), (), group, ())
                    else some (none, draws, script, groups, wanted, before, (), (), (), by', (), (), (), group, ())) x22 ((draws, script, groups, wanted, before, (), (), (), by', (), (), (), x22, ()))).bind fun (t25, (draws, script, groups, wanted, before, _, _, _, by', _, _, _, group, _)) =>
                some (some t25, draws, script, groups, wanted, before, (), (), (), by', (), (), (), (), ())
              else none
            else some (none, draws, script, groups, wanted, before, (), (), (), by', (), (), (), (), ())) groups ((d20, script, groups, wanted, before, (), (), (), t21, (), (), (), (), ()))).bind fun (t26, (draws, script, groups, wanted, before, _, _, _, by', _, _, _, _, _)) =>
        if List.length wanted ≤ 16777216 then (compM (fun x27 (draws, script, groups, wanted, before, _, _, _, by', renamed, _, _, _, _) =>
              if true = true then (mulC 3 x27).bind fun t28 =>
                some (some (t28 + by'), draws, script, groups, wanted, before, (), (), (), by', renamed, (), (), (), ())
              else some (none, draws, script, groups, wanted, before, (), (), (), by', renamed, (), (), (), ())) wanted ((draws, script, groups, wanted, before, (), (), (), by', t26, (), (), (), ()))).bind fun (t29, (draws, script, groups, wanted, before, _, _, _, by', renamed, _, _, _, _)) =>
          (m_fewest_groups (renamed, t29)).bind fun t30 =>
          if (!decide (t30 = before)) = true then some (false, draws)
          else ((m_each_once (renamed, t29)).bind fun t31 =>
              (m_each_once (groups, wanted)).bind fun t32 =>
              if decide (t31 = t32) = true then (m_just_these (renamed, t29)).bind fun t33 =>
                (m_just_these (groups, wanted)).bind fun t34 =>
                some (decide (t33 = t34), draws, (), groups, wanted, (), (), (), (), (), renamed, t29, (), (), ())
              else some (false, draws, (), groups, wanted, (), (), (), (), (), renamed, t29, (), (), ())).bind fun (t35, (draws, _, groups, wanted, _, _, _, _, _, renamed, names, _, _, _)) =>
            some (t35, draws)
        else none
      else none := by set_option smartUnfolding false in exact rfl

theorem e_law (script : List Int) : m_law script =
  (m_law_draws (script, (420 : Int))).bind fun t0 =>
  (loopM (fun x1 (script, draws, _, _, _, _, _) =>
      (m_law_take draws x1).bind fun (t2, d3) =>
      (m_law_groups d3 t2).bind fun (t4, d5) =>
      (rng1 (8 : Int)).bind fun t6 =>
      if List.length t6 ≤ (16777216 : Nat) then (compM (fun x7 (script, draws, most, groups, _, _, _) =>
            (m_law_take draws (3 : Int)).bind fun (t8, d9) =>
            if decide (t8 = (0 : Int)) = true then (mulC (2 : Int) x7).bind fun t10 =>
              some (some t10, script, d9, most, groups, (), (), ())
            else some ((none : Option Int), script, d9, most, groups, (), (), ())) t6 ((script, d5, x1, t4, (), (), ()))).bind fun (t11, (script, draws, most, groups, _, _, _)) =>
        (if decide ((0 : Int) < (↑(List.length groups) : Int)) = true then (m_law_take draws (2 : Int)).bind fun (t12, d13) =>
            some (decide (t12 = (0 : Int)), script, d13, most, groups, t11, (), ())
          else some (false, script, draws, most, groups, t11, (), ())).bind fun (t14, (script, draws, most, groups, wanted, _, _)) =>
        (if t14 = true then (getI groups (0 : Int)).bind fun t15 =>
            (getI groups (-1 : Int)).bind fun t16 =>
            (catC t15 t16).bind fun t17 =>
            (ssetC t17).bind fun t18 =>
            some (Out.nx (script, draws, (), groups, t18, (), ()))
          else some (Out.nx (script, draws, (), groups, wanted, (), ())) : Option (Out (List Int × List Int × PUnit × List (List Int) × List Int × PUnit × PUnit) (List Int × List Int × PUnit × PUnit × PUnit × PUnit × PUnit) Bool)).bind fun o => match o with
        | .nx (script, draws, _, groups, wanted, _, _) => ((m_law_sent_right draws groups).bind fun (t19, d20) =>
            if (!t19) = true then some (true, script, d20, (), groups, wanted, (), ())
            else ((m_law_told_right (groups, wanted)).bind fun t21 =>
                if (!t21) = true then some (true, script, d20, (), groups, wanted, (), ())
                else (m_law_more_right d20 (script, groups, wanted)).bind fun (t22, d23) =>
                  some (!t22, script, d23, (), groups, wanted, (), ())).bind fun (t24, (script, draws, _, groups, wanted, _, _)) =>
              some (t24, script, draws, (), groups, wanted, (), ())).bind fun (t25, (script, draws, _, groups, wanted, _, _)) =>
          if t25 = true then some (Out.rt false)
          else some (Out.nx (script, draws, (), (), (), (), ()))
        | .bk (script, draws, _, _, _, _, _) => some (Out.bk (script, draws, (), (), (), (), ()))
        | .ct (script, draws, _, _, _, _, _) => some (Out.ct (script, draws, (), (), (), (), ()))
        | .rt r => some (Out.rt r)
      else (none : Option (Out (List Int × List Int × PUnit × PUnit × PUnit × PUnit × PUnit) (List Int × List Int × PUnit × PUnit × PUnit × PUnit × PUnit) Bool))) [(4 : Int), (8 : Int), (7 : Int)] ((script, t0, (), (), (), (), ()))).bind fun o => match o with
  | .go (script, draws, _, _, _, _, _) => ((m_fewest_groups ([[(1 : Int), (2 : Int)], [(2 : Int), (3 : Int)], [(3 : Int)], [(1 : Int), (2 : Int), (3 : Int), (4 : Int)]], [(1 : Int), (2 : Int), (3 : Int)])).bind fun t26 =>
      if (!decide (t26 = some [(3 : Int)])) = true then some (true, script, draws, (), [[(1 : Int), (2 : Int)], [(2 : Int), (3 : Int)], [(3 : Int)], [(1 : Int), (2 : Int), (3 : Int), (4 : Int)]], (), (), ())
      else ((m_just_these ([[(1 : Int), (2 : Int)], [(2 : Int), (3 : Int)], [(3 : Int)], [(1 : Int), (2 : Int), (3 : Int), (4 : Int)]], [(1 : Int), (2 : Int), (3 : Int)])).bind fun t27 =>
          if (!decide (t27 = some [(0 : Int), (1 : Int)])) = true then some (true, script, draws, (), [[(1 : Int), (2 : Int)], [(2 : Int), (3 : Int)], [(3 : Int)], [(1 : Int), (2 : Int), (3 : Int), (4 : Int)]], (), (), ())
          else (m_each_once ([[(1 : Int), (2 : Int)], [(2 : Int), (3 : Int)], [(3 : Int)], [(1 : Int), (2 : Int), (3 : Int), (4 : Int)]], [(1 : Int), (2 : Int), (3 : Int)])).bind fun t28 =>
            some (!decide (t28 = some [(0 : Int), (2 : Int)]), script, draws, (), [[(1 : Int), (2 : Int)], [(2 : Int), (3 : Int)], [(3 : Int)], [(1 : Int), (2 : Int), (3 : Int), (4 : Int)]], (), (), ())).bind fun (t29, (script, draws, _, groups, _, _, _)) =>
        some (t29, script, draws, (), groups, (), (), ())).bind fun (t30, (script, draws, _, groups, _, _, _)) =>
    if t30 = true then some false
    else ((m_heard_by (groups, [(0 : Int), (1 : Int), (0 : Int)])).bind fun t31 =>
        if (!decide (t31 = [((1 : Int), (2 : Int)), ((2 : Int), (3 : Int)), ((3 : Int), (1 : Int))])) = true then some (true, (), (), (), groups, (), (), ())
        else ((m_needless_sent (groups, [(0 : Int), (1 : Int), (0 : Int)])).bind fun t32 =>
            if (!decide (t32 = [(0 : Int), (2 : Int)])) = true then some (true, (), (), (), groups, (), (), ())
            else (m_twice_by (groups, [(1 : Int), (2 : Int)])).bind fun t33 =>
              some (!decide (t33 = [(3 : Int)]), (), (), (), groups, (), (), ())).bind fun (t34, (_, _, _, groups, _, _, _)) =>
          some (t34, (), (), (), groups, (), (), ())).bind fun (t35, (_, _, _, groups, _, _, _)) =>
      if t35 = true then some false
      else ((m_fewest_groups (groups, [(5 : Int)])).bind fun t36 =>
          if Option.isNone t36 = true then ((m_just_these (groups, [])).bind fun t37 =>
              if decide (t37 = some []) = true then ((m_each_once ([[], [(1 : Int)]], [(1 : Int)])).bind fun t38 =>
                  if decide (t38 = some [(0 : Int), (1 : Int)]) = true then (m_heard_by (groups, [])).bind fun t39 =>
                    some (decide (t39 = []), (), (), (), groups, (), (), ())
                  else some (false, (), (), (), groups, (), (), ())).bind fun (t40, (_, _, _, groups, _, _, _)) =>
                some (t40, (), (), (), groups, (), (), ())
              else some (false, (), (), (), groups, (), (), ())).bind fun (t41, (_, _, _, groups, _, _, _)) =>
            some (t41, (), (), (), groups, (), (), ())
          else some (false, (), (), (), groups, (), (), ())).bind fun (t42, (_, _, _, groups, _, _, _)) =>
        some t42
  | .rt r => some r := by set_option smartUnfolding false in exact rfl

end Wk78

namespace Wk78
open L3 PySem
theorem take_ok : TakeOk m_law_take := take_gen e_law_take
/-! ### words to groups -/
abbrev Gs := List (List Int)
def gr (G : Gs) (a : Int) : List Int := ix G a.toNat
def In (G : Gs) (s : List Int) : Prop := ∀ a ∈ s, 0 ≤ a ∧ a < (G.length : Int)
structure Gok (G : Gs) : Prop where
  ln : G.length ≤ 10
  gl : ∀ g ∈ G, g.length ≤ 12
  nd : ∀ g ∈ G, g.Nodup
  us : ∃ U : List Int, U.length ≤ 40 ∧ ∀ g ∈ G, ∀ p ∈ g, p ∈ U
/-- who hears, one behind the other -/
def hs (G : Gs) (s : List Int) : List Int := s.flatMap (gr G)
theorem get_gr {G : Gs} {a : Int} (h : 0 ≤ a ∧ a < (G.length : Int)) : getI G a = some (gr G a) ∧ gr G a ∈ G := ⟨getI_ixI h.1 h.2, ix_mem (by omega)⟩
theorem hs_snoc (G : Gs) (s : List Int) (a : Int) : hs G (s ++ [a]) = hs G s ++ gr G a := by
  unfold hs
  rw [List.flatMap_append]
  simp
theorem hs_len {G : Gs} (hG : Gok G) {s : List Int} (h : In G s) : (hs G s).length ≤ s.length * 12 := flat_len s fun a ha => hG.gl _ (get_gr (h a ha)).2
theorem take_at {α : Type} {H : List α} {j : Nat} {x : α} (h : H[j]? = some x) : H.take (j + 1) = H.take j ++ [x] := by
  rw [List.take_add_one, h]
  rfl
/-! ### all sets -/
def p1 (G : Gs) (w s : List Int) : Bool := w.all fun p => decide (p ∈ hs G s)
def p2 (G : Gs) (w s : List Int) : Bool := p1 G w s && decide ((sset (hs G s)).length = w.length)
def p3 (G : Gs) (w s : List Int) : Bool := p2 G w s && w.all fun p => decide ((hs G s).count p ≤ 1)
def f1 (s : List Int) : Int × List Int := ((s.length : Int), s)
def SZ (n : Nat) : List (List Int) := (sortU ltIL ((subs (nums n)).map f1)).map Prod.snd
def ST (n : Nat) : List (List Int) := sortU ltL (subs (nums n))
theorem sort_perm {α : Type} {lt : α → α → Bool} (T : Tot lt) {xs ys : List α} (h : xs.Perm ys) : sortU lt xs = sortU lt ys := sortU_eq T ((sortU_perm lt ys).trans h.symm) (sortU_srt T ys)
theorem sort_fil {α : Type} {lt : α → α → Bool} (T : Tot lt) (p : α → Bool) (l : List α) : sortU lt (l.filter p) = (sortU lt l).filter p := sortU_eq T ((sortU_perm lt l).filter p) ((sortU_srt T l).filter p)
theorem SZ_perm (n : Nat) : (SZ n).Perm (subs (nums n)) := by
  unfold SZ
  have := (sortU_perm ltIL ((subs (nums n)).map f1)).map Prod.snd
  rw [List.map_map] at this
  have e : (subs (nums n)).map (Prod.snd ∘ f1) = subs (nums n) := List.map_id'' (fun _ => rfl) _
  rwa [e] at this
theorem mem_SZ {n : Nat} {s : List Int} : s ∈ SZ n ↔ s.Sublist (nums n) := by rw [(SZ_perm n).mem_iff, mem_subs]
theorem mem_ST {n : Nat} {s : List Int} : s ∈ ST n ↔ s.Sublist (nums n) := by unfold ST; rw [(sortU_perm _ _).mem_iff, mem_subs]
theorem ST_SZ (n : Nat) : sortU ltL (SZ n) = ST n := sort_perm totL (SZ_perm n)
theorem SZ_fil (n : Nat) (p : List Int → Bool) : (sortU ltIL (((subs (nums n)).filter p).map f1)).map Prod.snd = (SZ n).filter p := by
  have e : ((subs (nums n)).filter p).map f1 = ((subs (nums n)).map f1).filter fun x => p x.2 := by
    rw [List.filter_map]
    rfl
  rw [e, sort_fil totIL]
  unfold SZ
  rw [List.filter_map]
  rfl
theorem sub_in {G : Gs} {s : List Int} (h : s.Sublist (nums G.length)) : In G s ∧ s.length ≤ G.length := ⟨fun a ha => mem_nums'.mp (h.subset ha), by
  have := h.length_le
  rw [nums_len] at this
  exact this⟩
theorem find_pw {α : Type} {R : α → α → Prop} {p : α → Bool} : ∀ {l : List α}, l.Pairwise R → ∀ {d e : α}, l.find? p = some d → e ∈ l → p e = true → d = e ∨ R d e
  | a :: l, h, d, e, hf, he, hp => by
    rw [List.find?_cons] at hf
    cases c : p a with
    | true =>
      rw [c] at hf
      cases hf
      rcases List.mem_cons.mp he with z | z
      · exact .inl z.symm
      · exact .inr ((List.pairwise_cons.mp h).1 e z)
    | false =>
      rw [c] at hf
      rcases List.mem_cons.mp he with z | z
      · rw [z, c] at hp; cases hp
      · exact find_pw (List.pairwise_cons.mp h).2 hf z hp
theorem SZ_least {n : Nat} {p : List Int → Bool} {d e : List Int} (hd : (SZ n).find? p = some d) (he : e.Sublist (nums n)) (hp : p e = true) : d.length ≤ e.length := by
  have pw : (SZ n).Pairwise fun a b => a.length ≤ b.length := by
    unfold SZ
    refine List.pairwise_map.mpr (List.Pairwise.imp_of_mem (fun {x y} hx hy h => ?_) (sortU_srt totIL ((subs (nums n)).map f1)))
    obtain ⟨a, _, rfl⟩ := List.mem_map.mp ((sortU_perm _ _).mem_iff.mp hx)
    obtain ⟨b, _, rfl⟩ := List.mem_map.mp ((sortU_perm _ _).mem_iff.mp hy)
    rw [ltIL_eq] at h
    unfold f1 at h ⊢
    try dsimp only at h ⊢
    by_cases c : (b.length : Int) = (a.length : Int)
    · omega
    · rw [if_neg c, decide_eq_false_iff_not] at h
      omega
  rcases find_pw pw hd (mem_SZ.mpr he) hp with z | z
  · rw [z]; exact Nat.le_refl _
  · exact z
theorem find_ex {α : Type} {p : α → Bool} {l : List α} {e : α} (he : e ∈ l) (hp : p e = true) : ∃ d, l.find? p = some d := by
  cases c : l.find? p with
  | some d => exact ⟨d, rfl⟩
  | none => exact absurd hp (List.find?_eq_none.mp c e he)
theorem find_same {α : Type} {p q : α → Bool} : ∀ {l : List α}, (∀ a ∈ l, p a = q a) → l.find? p = l.find? q
  | [], _ => rfl
  | a :: l, h => by
    rw [List.find?_cons, List.find?_cons, h a (List.mem_cons_self ..), find_same fun b hb => h b (List.mem_cons_of_mem _ hb)]
/-- each wanted one and no others -/
theorem just_iff {w K : List Int} (hw : w.Pairwise (· < ·)) : sset K = w ↔ (∀ p ∈ w, p ∈ K) ∧ (sset K).length = w.length := by
  constructor
  · intro e
    exact ⟨fun p hp => by rw [← e, mem_sset] at hp; exact hp, by rw [e]⟩
  · rintro ⟨h, hl⟩
    have n1 : (sset K).Nodup := (sset_lt K).imp fun h => by omega
    have n2 : w.Nodup := hw.imp fun h => by omega
    refine lt_uniq (sset_lt K) hw fun k => ?_
    rw [mem_sset]
    refine ⟨fun hk => ?_, h k⟩
    rcases Classical.em (k ∈ w) with z | z
    · exact z
    · have : (k :: w).length ≤ (sset K).length := nodup_sub (List.nodup_cons.mpr ⟨z, n2⟩) fun x hx => by
        rw [mem_sset]
        rcases List.mem_cons.mp hx with y | y
        · rw [y]; exact hk
        · exact h x y
      rw [List.length_cons] at this
      omega
def hb (K : List Int) : List (Int × Int) := (sset K).map fun p => (p, ((K.count p : Nat) : Int))
theorem p2_iff {G : Gs} {w s : List Int} (hw : w.Pairwise (· < ·)) : p2 G w s = decide (sset (hs G s) = w) := by
  unfold p2 p1
  rw [Bool.eq_iff_iff, Bool.and_eq_true, decide_eq_true_eq, decide_eq_true_eq, List.all_eq_true, just_iff hw]
  simp
theorem p3_iff {G : Gs} {w s : List Int} (hw : w.Pairwise (· < ·)) : p3 G w s = decide (hb (hs G s) = w.map fun p => (p, (1 : Int))) := by
  unfold p3
  rw [p2_iff hw, Bool.eq_iff_iff, Bool.and_eq_true, decide_eq_true_eq, decide_eq_true_eq, List.all_eq_true]
  unfold hb
  generalize hs G s = K
  constructor
  · rintro ⟨e, h⟩
    rw [e]
    refine List.map_congr_left fun p hp => ?_
    have h1 := h p hp
    rw [decide_eq_true_eq] at h1
    have hk : p ∈ K := by rw [← e, mem_sset] at hp; exact hp
    have := List.count_pos_iff.mpr hk
    congr 1
    omega
  · intro e
    have e1 : sset K = w := by
      have := congrArg (fun l => l.map Prod.fst) e
      try dsimp only at this
      rw [List.map_map, List.map_map] at this
      have a : (sset K).map (Prod.fst ∘ fun p => (p, ((K.count p : Nat) : Int))) = sset K := List.map_id'' (fun _ => rfl) _
      have b : w.map (Prod.fst ∘ fun p => (p, (1 : Int))) = w := List.map_id'' (fun _ => rfl) _
      rwa [a, b] at this
    refine ⟨e1, fun p hp => ?_⟩
    rw [e1] at e
    have := List.map_inj_left.mp e p hp
    have := congrArg Prod.snd this
    try dsimp only at this
    rw [decide_eq_true_eq]
    omega
/-! ### who hears, how often -/
theorem hs_us {G : Gs} {U s : List Int} (hU : ∀ g ∈ G, ∀ p ∈ g, p ∈ U) (h : In G s) : ∀ p ∈ hs G s, p ∈ U := fun p hp => by
  obtain ⟨a, ha, hp⟩ := List.mem_flatMap.mp hp
  exact hU _ (get_gr (h a ha)).2 p hp
theorem In.take {G : Gs} {s : List Int} (h : In G s) (j : Nat) : In G (s.take j) := fun a ha => h a (List.mem_of_mem_take ha)
theorem often_ok {G : Gs} (hG : Gok G) {s : List Int} (h : In G s) (hl : s.length ≤ 100) : ∃ c, m_often (G, s) = some c ∧ CntOk c (hs G s) ∧ c.length < 64 ∧ c.length = (sset (hs G s)).length := by
  obtain ⟨U, hUl, hU⟩ := hG.us
  have key : Ev (m_often (G, s)) fun c => CntOk c (hs G s) := by
    rw [e_often]
    refine wp_loopP (fun j z => ∃ c, z = (G, s, c, (), (), ()) ∧ CntOk c (hs G (s.take j))) (fun j a z hx hz => ?_) ⟨[], rfl, CntOk.nil⟩ (fun z hz => ?_)
    · obtain ⟨c, rfl, hc⟩ := hz
      have ha := h a (List.mem_of_getElem? hx)
      have hlen := hs_len hG (h.take j)
      rw [List.length_take] at hlen
      have gl := hG.gl _ (get_gr ha).2
      refine ev_nxP ?_
      try dsimp only
      rw [(get_gr ha).1, Option.bind_some]
      refine wp_loopP (fun i z => ∃ c, z = (G, s, c, a, (), ()) ∧ CntOk c (hs G (s.take j) ++ (gr G a).take i)) (fun i p z hx2 hz => ?_) ⟨c, rfl, by rw [List.take_zero, List.append_nil]; exact hc⟩ (fun z hz => ?_)
      · obtain ⟨c, rfl, hc⟩ := hz
        have cl := hc.keys.len (xs := hs G (s.take j) ++ (gr G a).take i) fun _ h => h
        rw [List.length_append, List.length_take] at cl
        try dsimp only
        rw [setKC_ok (by omega), Option.bind_some]
        refine ⟨_, rfl, _, rfl, ?_⟩
        rw [take_at hx2, ← List.append_assoc]
        exact hc.snoc p
      · obtain ⟨c, rfl, hc⟩ := hz
        rw [List.take_length] at hc
        refine ⟨_, rfl, _, rfl, c, rfl, ?_⟩
        rw [take_at hx, hs_snoc]
        exact hc
    · obtain ⟨c, rfl, hc⟩ := hz
      rw [List.take_length] at hc
      exact ⟨_, rfl, hc⟩
  obtain ⟨c, e, hc⟩ := key
  have := hc.keys.len (xs := U) (hs_us hU h)
  refine ⟨c, e, hc, by omega, ?_⟩
  rw [← hc.keys.sort, (sortI_perm _).length_eq, List.length_map]
theorem lcounts_ok {G : Gs} (hG : Gok G) {s : List Int} (h : In G s) (hl : s.length ≤ 100) : ∃ c, m_law_counts (G, s) = some c ∧ CntOk c (hs G s) ∧ c.length < 64 ∧ c.length = (sset (hs G s)).length := by
  obtain ⟨c, e, r⟩ := often_ok hG h hl
  refine ⟨c, ?_, r⟩
  rw [← e, e_often, e_law_counts]
theorem srt_ok {c : List (Int × Int)} {K : List Int} (h : CntOk c K) (hl : c.length < 64) : (if List.length c < 64 then some (sortI (c.map fun self => self.1)) else none) = some (sset K) := by
  rw [if_pos hl]
  exact congrArg some h.keys.sort
theorem get_cnt {c : List (Int × Int)} {K : List Int} (h : CntOk c K) {p : Int} (hp : p ∈ K) : getK c p = some ((K.count p : Nat) : Int) := by rw [h.get, if_pos hp]
theorem some_cnt {c : List (Int × Int)} {K : List Int} (h : CntOk c K) (p : Int) : (getK c p).isSome = decide (p ∈ K) := by
  rw [h.get]
  by_cases z : p ∈ K
  · rw [if_pos z, decide_eq_true z]; rfl
  · rw [if_neg z, decide_eq_false z]; rfl
theorem heard_ok {G : Gs} (hG : Gok G) {s : List Int} (h : In G s) (hl : s.length ≤ 100) : m_heard_by (G, s) = some (hb (hs G s)) := by
  obtain ⟨c, e, hc, h64, hn⟩ := often_ok hG h hl
  rw [e_heard_by, e, Option.bind_some, srt_ok hc h64, Option.bind_some, if_pos (by omega), cmap (fun p => (p, (((hs G s).count p : Nat) : Int))) (fun p hp => by
    try dsimp only
    rw [if_pos rfl, get_cnt hc (mem_sset.mp hp)]
    rfl), Option.bind_some]
  rfl
theorem subs_le {n : Nat} (h : n ≤ 10) : (subs (nums n)).length ≤ 1024 := by
  rw [subs_len, nums_len]
  exact Nat.pow_le_pow_right (n := 2) (by omega) h
theorem SZ_len {n : Nat} (h : n ≤ 10) : (SZ n).length ≤ 1024 := by rw [(SZ_perm n).length_eq]; exact subs_le h
theorem sets_ok {n : Nat} (h : n ≤ 10) : m_sets_by_size (n : Int) = some (SZ n) := by
  have hl := subs_le h
  refine Ev.eq ?_
  rw [e_sets_by_size, rng_len (by omega), Option.bind_some]
  refine wp_loopP (fun j z => z = ((n : Int), subs (nums j), (), (), (), ())) (fun j x s hx hs => ?_) rfl (fun s hs => ?_)
  · subst hs
    obtain ⟨rfl, hj⟩ := nums_get hx
    have hl := subs_le (n := j) (by omega)
    try dsimp only
    rw [if_pos (by omega), cmap (fun r => r ++ [(j : Int)]) (fun r hr => by
      have := (mem_subs.mp hr).length_le
      rw [nums_len] at this
      try dsimp only
      rw [if_pos rfl, catC_ok (by rw [List.length_singleton]; omega)]
      rfl), Option.bind_some]
    try dsimp only
    rw [catC_ok (by rw [List.length_map]; omega), Option.bind_some]
    refine ⟨_, rfl, ?_⟩
    rw [nums_succ, subs_snoc]
  · subst hs
    rw [nums_len]
    try dsimp only
    have sl : (sortU ltIL ((subs (nums n)).map f1)).length ≤ 1024 := by rw [(sortU_perm _ _).length_eq, List.length_map]; exact hl
    have sl : (sortU (Ord.lt (uTup (wCons uInt (wOne (uTup (wAll uInt)))))) ((subs (nums n)).map f1)).length ≤ 1024 := sl
    rw [if_pos (by omega), cmap f1 (fun x hx => by
      try dsimp only
      rw [if_pos rfl]
      rfl), Option.bind_some]
    try dsimp only
    rw [if_pos (by omega), cmap (fun x => x.2) (fun x hx => by
      try dsimp only
      rw [if_pos rfl]), Option.bind_some]
    exact ⟨_, rfl, rfl⟩
theorem lsets_ok {n : Nat} (h : n ≤ 10) : m_law_sets (n : Int) = some (subs (nums n)) := by
  refine Ev.eq ?_
  rw [e_law_sets, rng_len (by omega), Option.bind_some]
  refine wp_loopP (fun j z => z = ((n : Int), subs (nums j), (), (), ())) (fun j x s hx hs => ?_) rfl (fun s hs => ?_)
  · subst hs
    obtain ⟨rfl, hj⟩ := nums_get hx
    have hl := subs_le (n := j) (by omega)
    try dsimp only
    rw [if_pos (by omega), cmap (fun r => r ++ [(j : Int)]) (fun r hr => by
      have := (mem_subs.mp hr).length_le
      rw [nums_len] at this
      try dsimp only
      rw [if_pos rfl, catC_ok (by rw [List.length_singleton]; omega)]
      rfl), Option.bind_some]
    try dsimp only
    rw [catC_ok (by rw [List.length_map]; omega), Option.bind_some]
    refine ⟨_, rfl, ?_⟩
    rw [nums_succ, subs_snoc]
  · subst hs
    rw [nums_len]
    exact ⟨_, rfl, rfl⟩
theorem fewest_ok {G : Gs} (hG : Gok G) {w : List Int} (hw : w.length ≤ 100) : m_fewest_groups (G, w) = some ((SZ G.length).find? (p1 G w)) := by
  have hn := hG.ln
  rw [e_fewest_groups, sets_ok hG.ln, Option.bind_some, loop_first (p1 G w) (fun s => some s) _ (fun s hs' => by
    obtain ⟨h, hl⟩ := sub_in (mem_SZ.mp hs')
    obtain ⟨c, e, hc, _⟩ := often_ok hG h (by omega)
    try dsimp only
    rw [e, Option.bind_some, if_pos (by omega), cmap (fun p => decide (p ∈ hs G s)) (fun p hp => by
      try dsimp only
      rw [if_pos rfl, some_cnt hc]), Option.bind_some]
    try dsimp only
    rw [List.all_map]
    show (if p1 G w s = true then _ else _) = _
    cases p1 G w s <;> rfl), Option.bind_some]
  cases (SZ G.length).find? (p1 G w) <;> rfl
theorem just_ok {G : Gs} (hG : Gok G) {w : List Int} (hw : w.Pairwise (· < ·)) : m_just_these (G, w) = some ((SZ G.length).find? (p2 G w)) := by
  have hn := hG.ln
  rw [e_just_these, sets_ok hG.ln, Option.bind_some, loop_first (p2 G w) (fun s => some s) _ (fun s hs' => by
    obtain ⟨h, hl⟩ := sub_in (mem_SZ.mp hs')
    obtain ⟨c, e, hc, h64, _⟩ := often_ok hG h (by omega)
    try dsimp only
    rw [e, Option.bind_some, srt_ok hc h64, Option.bind_some, p2_iff hw]
    cases decide (sset (hs G s) = w) <;> rfl), Option.bind_some]
  cases (SZ G.length).find? (p2 G w) <;> rfl
theorem once_ok {G : Gs} (hG : Gok G) {w : List Int} (hw : w.Pairwise (· < ·)) (hl' : w.length ≤ 100) : m_each_once (G, w) = some ((ST G.length).find? (p3 G w)) := by
  have hn := hG.ln
  have es : sortU (Ord.lt (uTup (wAll uInt))) (SZ G.length) = ST G.length := ST_SZ G.length
  rw [e_each_once, sets_ok hG.ln, Option.bind_some, es, loop_first (p3 G w) (fun s => some s) _ (fun s hs' => by
    obtain ⟨h, hl⟩ := sub_in (mem_ST.mp hs')
    try dsimp only
    rw [heard_ok hG h (by omega), Option.bind_some, if_pos (by omega), cmap (fun p => (p, (1 : Int))) (fun p hp => by
      try dsimp only
      rw [if_pos rfl]), Option.bind_some]
    try dsimp only
    rw [p3_iff hw]
    cases decide (hb (hs G s) = w.map fun p => (p, (1 : Int))) <;> rfl), Option.bind_some]
  cases (ST G.length).find? (p3 G w) <;> rfl
theorem twice_ok {G : Gs} (hG : Gok G) {s : List Int} (h : In G s) (hl : s.length ≤ 100) : m_twice_by (G, s) = some ((sset (hs G s)).filter fun p => decide (1 < (((hs G s).count p : Nat) : Int))) := by
  obtain ⟨c, _, _, h64, hn⟩ := often_ok hG h hl
  have hl2 : (hb (hs G s)).length ≤ 100 := by unfold hb; rw [List.length_map]; omega
  rw [e_twice_by, heard_ok hG h hl, Option.bind_some, if_pos (by omega), comp_if (fun x => decide (1 < x.2)) (fun x => x.1) (fun x hx => by
    try dsimp only
    by_cases c : 1 < x.2
    · rw [if_pos (decide_eq_true c), if_pos (decide_eq_true c)]
    · rw [if_neg (by rw [decide_eq_true_eq]; exact c), if_neg (by rw [decide_eq_true_eq]; exact c)]), Option.bind_some]
  try dsimp only
  unfold hb
  rw [List.filter_map, List.map_map]
  congr 1
  exact List.map_id'' (fun _ => rfl) _
/-- heard by all without one -/
def need (G : Gs) (s : List Int) (j : Nat) : Bool := decide ((sset (hs G (s.take j ++ s.drop (j + 1)))).length = (sset (hs G s)).length)
theorem needless_ok {G : Gs} (hG : Gok G) {s : List Int} (h : In G s) (hl : s.length ≤ 90) : m_needless_sent (G, s) = some (idx s.length (need G s)) := by
  obtain ⟨c, e, hc, h64, hn⟩ := often_ok hG h (by omega)
  refine Ev.eq ?_
  rw [e_needless_sent, e, Option.bind_some, rng_len (by omega), Option.bind_some]
  refine wp_loopP (fun j z => z = (G, s, c, idx j (need G s), (), (), ())) (fun j x z hx hz => ?_) rfl (fun z hz => ?_)
  · subst hz
    obtain ⟨rfl, hj⟩ := nums_get hx
    have il := idx_len j (need G s)
    have hin : In G (s.take j ++ s.drop (j + 1)) := fun a ha => by
      rcases List.mem_append.mp ha with z | z
      · exact h a (List.mem_of_mem_take z)
      · exact h a (List.mem_of_mem_drop z)
    have hll : (s.take j ++ s.drop (j + 1)).length ≤ 100 := by simp; omega
    obtain ⟨c2, e2, hc2, _, hn2⟩ := often_ok hG hin hll
    refine ev_nx ?_ rfl
    try dsimp only
    rw [cutI_first (by omega), show (j : Int) + 1 = ((j + 1 : Nat) : Int) by omega, cutI_from (by omega), catC_ok (by simp; omega), Option.bind_some, e2, Option.bind_some, hn2, hn, idx_succ]
    by_cases q : (sset (hs G (s.take j ++ s.drop (j + 1)))).length = (sset (hs G s)).length
    · rw [if_pos (decide_eq_true (by omega)), show need G s j = true from decide_eq_true q, if_pos rfl, appC_ok (by omega), Option.bind_some, Option.bind_some]
      exact ⟨_, rfl, rfl⟩
    · rw [if_neg (by rw [decide_eq_true_eq]; omega), show need G s j = false from decide_eq_false q, if_neg (by simp), Option.bind_some, List.append_nil]
      exact ⟨_, rfl, rfl⟩
  · subst hz
    rw [nums_len]
    exact ⟨_, rfl, rfl⟩
/-! ### without one -/
theorem s_split {s : List Int} {j : Nat} (h : j < s.length) : s = s.take j ++ ix s j :: s.drop (j + 1) := by
  rw [ix_at h, List.getElem_cons_drop, List.take_append_drop]
theorem same_len {K R : List Int} (hs' : ∀ p ∈ R, p ∈ K) : (sset R).length = (sset K).length ↔ ∀ p ∈ K, p ∈ R := by
  have nR : (sset R).Nodup := (sset_lt R).imp fun h => by omega
  constructor
  · intro e p hp
    rcases Classical.em (p ∈ R) with z | z
    · exact z
    · have := nodup_sub (l := p :: sset R) (m := sset K) (List.nodup_cons.mpr ⟨fun y => z (mem_sset.mp y), nR⟩) fun x hx => by
        rcases List.mem_cons.mp hx with y | y
        · rw [y]; exact mem_sset.mpr hp
        · exact mem_sset.mpr (hs' x (mem_sset.mp y))
      rw [List.length_cons] at this
      omega
  · intro h
    rw [show sset R = sset K from lt_uniq (sset_lt _) (sset_lt _) fun k => by rw [mem_sset, mem_sset]; exact ⟨hs' k, h k⟩]
theorem need_iff {G : Gs} (hG : Gok G) {s : List Int} (h : In G s) {j : Nat} (hj : j < s.length) : need G s j = true ↔ ∀ p ∈ gr G (ix s j), 2 ≤ (hs G s).count p := by
  have ha := h _ (ix_mem hj)
  have nd := hG.nd _ (get_gr ha).2
  have eK : hs G s = hs G (s.take j) ++ (gr G (ix s j) ++ hs G (s.drop (j + 1))) := by
    have e := congrArg (hs G) (s_split hj)
    rw [e]
    unfold hs
    rw [List.flatMap_append, List.flatMap_cons]
  have eR : hs G (s.take j ++ s.drop (j + 1)) = hs G (s.take j) ++ hs G (s.drop (j + 1)) := by
    unfold hs
    rw [List.flatMap_append]
  have cnt : ∀ p, (hs G s).count p = (gr G (ix s j)).count p + (hs G (s.take j ++ s.drop (j + 1))).count p := fun p => by
    rw [eK, eR, List.count_append, List.count_append, List.count_append]
    omega
  unfold need
  rw [decide_eq_true_eq, same_len fun p hp => by
    have := List.count_pos_iff.mpr hp
    have := cnt p
    exact List.count_pos_iff.mp (by omega)]
  constructor
  · intro k p hp
    have h1 := List.count_pos_iff.mpr hp
    have h2 : p ∈ hs G s := List.count_pos_iff.mp (by have := cnt p; omega)
    have h3 := List.count_pos_iff.mpr (k p h2)
    have := cnt p
    omega
  · intro k p hp
    rcases Classical.em (p ∈ gr G (ix s j)) with z | z
    · have h1 := k p z
      have h2 : (gr G (ix s j)).count p ≤ 1 := List.nodup_iff_count.mp nd p
      have := cnt p
      exact List.count_pos_iff.mp (by omega)
    · have h1 := List.count_eq_zero_of_not_mem z
      have h2 := List.count_pos_iff.mpr hp
      have := cnt p
      exact List.count_pos_iff.mp (by omega)
/-! ### told by all sets -/
theorem told_right {G : Gs} (hG : Gok G) {w : List Int} (hw : w.Pairwise (· < ·)) (hwl : w.length ≤ 40) : m_law_told_right (G, w) = some true := by
  have hn := hG.ln
  have sl := subs_le hG.ln
  refine Ev.eq ?_
  rw [e_law_told_right, lsets_ok hG.ln, Option.bind_some, if_pos (by omega), comp_fil (p1 G w) (fun s hs' => by
    obtain ⟨h, hl⟩ := sub_in (mem_subs.mp hs')
    obtain ⟨c, e, hc, _⟩ := lcounts_ok hG h (by omega)
    try dsimp only
    rw [if_pos (by omega), comp_fil (fun p => !decide (p ∈ hs G s)) (fun p hp => by
      try dsimp only
      rw [e, Option.bind_some, some_cnt hc]
      cases decide (p ∈ hs G s) <;> rfl), Option.bind_some]
    try dsimp only
    have e1 : decide ((((w.filter fun p => !decide (p ∈ hs G s)).length : Nat) : Int) = 0) = p1 G w s := by
      unfold p1
      rw [Bool.eq_iff_iff, decide_eq_true_eq, List.all_eq_true]
      constructor
      · intro z p hp
        have := List.filter_eq_nil_iff.mp (List.length_eq_zero_iff.mp (show (w.filter fun p => !decide (p ∈ hs G s)).length = 0 by omega)) p hp
        simpa using this
      · intro z
        rw [List.filter_eq_nil_iff.mpr fun p hp => by have := z p hp; simp [this]]
        rfl
    rw [e1]
    cases p1 G w s <;> rfl), Option.bind_some]
  try dsimp only
  have l1 := List.length_filter_le (p1 G w) (subs (nums G.length))
  rw [if_pos (by omega), comp_fil (fun s => decide ((sset (hs G s)).length = w.length)) (fun s hs' => by
    obtain ⟨h, hl⟩ := sub_in (mem_subs.mp (List.mem_filter.mp hs').1)
    obtain ⟨c, e, hc, _, hcl⟩ := lcounts_ok hG h (by omega)
    try dsimp only
    rw [e, Option.bind_some, hcl]
    by_cases q : (sset (hs G s)).length = w.length
    · rw [if_pos (decide_eq_true (by omega)), if_pos (decide_eq_true q)]
    · rw [if_neg (by rw [decide_eq_true_eq]; omega), if_neg (by rw [decide_eq_true_eq]; exact q)]), Option.bind_some]
  try dsimp only
  have ej : ((subs (nums G.length)).filter (p1 G w)).filter (fun s => decide ((sset (hs G s)).length = w.length)) = (subs (nums G.length)).filter (p2 G w) := by
    rw [List.filter_filter]
    refine List.filter_congr fun s _ => ?_
    unfold p2
    rw [Bool.and_comm]
  rw [ej]
  have l2 := List.length_filter_le (p2 G w) (subs (nums G.length))
  rw [if_pos (by omega), comp_fil (fun s => w.all fun p => decide ((hs G s).count p ≤ 1)) (fun s hs' => by
    obtain ⟨hm, hp2⟩ := List.mem_filter.mp hs'
    obtain ⟨h, hl⟩ := sub_in (mem_subs.mp hm)
    obtain ⟨c, e, hc, _⟩ := lcounts_ok hG h (by omega)
    have hall : ∀ p ∈ w, p ∈ hs G s := fun p hp => by
      unfold p2 p1 at hp2
      rw [Bool.and_eq_true, List.all_eq_true] at hp2
      exact of_decide_eq_true (hp2.1 p hp)
    try dsimp only
    rw [if_pos (by omega), comp_fil (fun p => decide (1 < (((hs G s).count p : Nat) : Int))) (fun p hp => by
      try dsimp only
      rw [e, Option.bind_some, get_cnt hc (hall p hp), Option.bind_some]
      by_cases q : 1 < (((hs G s).count p : Nat) : Int)
      · rw [if_pos (decide_eq_true q), if_pos (decide_eq_true q)]
      · rw [if_neg (by rw [decide_eq_true_eq]; exact q), if_neg (by rw [decide_eq_true_eq]; exact q)]), Option.bind_some]
    try dsimp only
    have e1 : decide ((((w.filter fun p => decide (1 < (((hs G s).count p : Nat) : Int))).length : Nat) : Int) = 0) = w.all fun p => decide ((hs G s).count p ≤ 1) := by
      rw [Bool.eq_iff_iff, decide_eq_true_eq, List.all_eq_true]
      constructor
      · intro z p hp
        have := List.filter_eq_nil_iff.mp (List.length_eq_zero_iff.mp (show (w.filter fun p => decide (1 < (((hs G s).count p : Nat) : Int))).length = 0 by omega)) p hp
        rw [decide_eq_true_eq] at this ⊢
        omega
      · intro z
        rw [List.filter_eq_nil_iff.mpr fun p hp => by
          have := z p hp
          rw [decide_eq_true_eq] at this ⊢
          omega]
        rfl
    rw [e1]
    cases w.all fun p => decide ((hs G s).count p ≤ 1) <;> rfl), Option.bind_some]
  try dsimp only
  have eo : ((subs (nums G.length)).filter (p2 G w)).filter (fun s => w.all fun p => decide ((hs G s).count p ≤ 1)) = (subs (nums G.length)).filter (p3 G w) := by
    rw [List.filter_filter]
    refine List.filter_congr fun s _ => ?_
    unfold p3
    rw [Bool.and_comm]
  rw [eo]
  have l3 := List.length_filter_le (p3 G w) (subs (nums G.length))
  have sz : ∀ p : List Int → Bool, (sortU (Ord.lt (uTup (wCons uInt (wOne (uTup (wAll uInt)))))) (((subs (nums G.length)).filter p).map f1)).length ≤ 1024 := fun p => by
    have := (sortU_perm ltIL (((subs (nums G.length)).filter p).map f1)).length_eq
    rw [List.length_map] at this
    have l := List.length_filter_le p (subs (nums G.length))
    exact Nat.le_trans (Nat.le_of_eq this) (by omega)
  have ez : ∀ p : List Int → Bool, (sortU (Ord.lt (uTup (wCons uInt (wOne (uTup (wAll uInt)))))) (((subs (nums G.length)).filter p).map f1)).map (fun x => some x.2) = ((SZ G.length).filter p).map some := fun p => by
    rw [← SZ_fil, List.map_map]
    rfl
  have szl := SZ_len hG.ln
  have fz : ∀ p : List Int → Bool, (((SZ G.length).filter p).map some).length ≤ 1024 := fun p => by
    rw [List.length_map]
    exact Nat.le_trans (List.length_filter_le _ _) szl
  rw [if_pos (by omega), cmap f1 (fun x hx => by
    try dsimp only
    rw [if_pos rfl]
    rfl), Option.bind_some]
  try dsimp only
  have s1 := sz (p1 G w)
  rw [if_pos (by omega), cmap (fun x => some x.2) (fun x hx => by
    try dsimp only
    rw [if_pos rfl]), Option.bind_some]
  try dsimp only
  rw [ez, catC_ok (by have := fz (p1 G w); rw [List.length_singleton]; omega), Option.bind_some, getI_first, Option.bind_some, if_pos (by omega), cmap f1 (fun x hx => by
    try dsimp only
    rw [if_pos rfl]
    rfl), Option.bind_some]
  try dsimp only
  have s2 := sz (p2 G w)
  rw [if_pos (by omega), cmap (fun x => some x.2) (fun x hx => by
    try dsimp only
    rw [if_pos rfl]), Option.bind_some]
  try dsimp only
  have es3 : sortU (Ord.lt (uTup (wAll uInt))) ((subs (nums G.length)).filter (p3 G w)) = (ST G.length).filter (p3 G w) := sort_fil totL (p3 G w) (subs (nums G.length))
  have l4 : (((ST G.length).filter (p3 G w)).map some).length ≤ 1024 := by
    rw [List.length_map]
    refine Nat.le_trans (List.length_filter_le _ _) ?_
    unfold ST
    rw [(sortU_perm _ _).length_eq]
    exact sl
  rw [ez, catC_ok (by have := fz (p2 G w); rw [List.length_singleton]; omega), Option.bind_some, getI_first, Option.bind_some, es3, catC_ok (by rw [List.length_singleton]; omega), Option.bind_some, getI_first, Option.bind_some, fewest_ok hG (by omega), Option.bind_some, decide_eq_true rfl, if_neg (by simp), just_ok hG hw, Option.bind_some, decide_eq_true rfl, if_neg (by simp), once_ok hG hw (by omega), Option.bind_some, decide_eq_true rfl, Option.bind_some]
  try dsimp only
  rw [Option.bind_some]
  try dsimp only
  rw [if_neg (by simp)]
  generalize e1 : (SZ G.length).find? (p1 G w) = first
  generalize e2 : (SZ G.length).find? (p2 G w) = second
  generalize e3 : (ST G.length).find? (p3 G w) = third
  refine Ev.bind (P := fun o => o = (false, G, w, (), (), (), (), first, second, third, (), (), (), (), ())) ?_ ?_
  · cases second with
    | none => exact ⟨_, rfl, rfl⟩
    | some t =>
      have ht := mem_SZ.mp (List.mem_of_find?_eq_some e2)
      have hp := List.find?_some e2
      have hp1 : p1 G w t = true := by
        unfold p2 at hp
        rw [Bool.and_eq_true] at hp
        exact hp.1
      obtain ⟨f, ef⟩ := find_ex (mem_SZ.mpr ht) hp1
      have hle := SZ_least ef ht hp1
      rw [ef] at e1
      subst e1
      rw [if_pos (show (some t).isSome = true from rfl), if_neg (by simp), Option.bind_some, Option.bind_some, Option.bind_some]
      try dsimp only
      rw [decide_eq_false (by omega)]
      exact ⟨_, rfl, rfl⟩
  · rintro o rfl
    try dsimp only
    rw [if_neg (by simp)]
    cases third with
    | none => exact ⟨_, rfl, rfl⟩
    | some t =>
      have ht := mem_ST.mp (List.mem_of_find?_eq_some e3)
      have hp := List.find?_some e3
      obtain ⟨hin, hl⟩ := sub_in ht
      have hb3 : hb (hs G t) = w.map fun p => (p, (1 : Int)) := by rw [p3_iff hw] at hp; exact of_decide_eq_true hp
      have one : ∀ p, (hs G t).count p ≤ 1 := fun p => by
        rcases Nat.eq_zero_or_pos ((hs G t).count p) with z | z
        · omega
        · have hm : (p, (((hs G t).count p : Nat) : Int)) ∈ hb (hs G t) := List.mem_map.mpr ⟨p, mem_sset.mpr (List.count_pos_iff.mp z), rfl⟩
          rw [hb3] at hm
          obtain ⟨q, _, eq⟩ := List.mem_map.mp hm
          have := congrArg Prod.snd eq
          try dsimp only at this
          omega
      rw [if_neg (by simp), Option.bind_some, twice_ok hG hin (by omega), Option.bind_some, List.filter_eq_nil_iff.mpr (fun p _ => by
        have := one p
        rw [decide_eq_true_eq]
        omega), decide_eq_true rfl, if_neg (by simp), Option.bind_some, heard_ok hG hin (by omega), Option.bind_some, if_pos (by omega), cmap (fun p => (p, (1 : Int))) (fun p hp => by
        try dsimp only
        rw [if_pos rfl]), Option.bind_some]
      try dsimp only
      rw [hb3, decide_eq_true rfl, Option.bind_some]
      try dsimp only
      have il := idx_len t.length (need G t)
      rw [if_neg (by simp), Option.bind_some, needless_ok hG hin (by omega), Option.bind_some, if_pos (by omega), comp_fil (fun _ => false) (fun x hx => by
        obtain ⟨j, rfl, hj, hnj⟩ := mem_idx.mp hx
        have hnj := (need_iff hG hin hj).mp hnj
        have ha := hin _ (ix_mem hj)
        have hnil : gr G (ix t j) = [] := by
          cases c : gr G (ix t j) with
          | nil => rfl
          | cons p l =>
            have h1 := hnj p (by rw [c]; exact List.mem_cons_self ..)
            have h2 := one p
            omega
        try dsimp only
        rw [Option.bind_some, getI_ix hj, Option.bind_some, (get_gr ha).1, Option.bind_some, hnil]
        rfl), Option.bind_some]
      try dsimp only
      rw [List.filter_eq_nil_iff.mpr (by simp)]
      exact ⟨_, rfl, rfl⟩
/-! ### more groups, more wanted, other names -/
def Sm (G : Gs) : Prop := ∀ g ∈ G, ∀ p ∈ g, 0 ≤ p ∧ p < 16
theorem hs_app {G : Gs} (g : List Int) {s : List Int} (h : In G s) : hs (G ++ [g]) s = hs G s := by
  unfold hs
  have : ∀ a ∈ s, gr (G ++ [g]) a = gr G a := fun a ha => by
    unfold gr
    have := h a ha
    rw [ix_app (by omega)]
  clear h
  induction s with
  | nil => rfl
  | cons a s ih => rw [List.flatMap_cons, List.flatMap_cons, this a (List.mem_cons_self ..), ih fun b hb => this b (List.mem_cons_of_mem _ hb)]
def rn (b p : Int) : Int := 3 * p + b
def rG (b : Int) (G : Gs) : Gs := G.map fun g => g.map (rn b)
theorem hs_rn (b : Int) {G : Gs} {s : List Int} (h : In G s) : hs (rG b G) s = (hs G s).map (rn b) := by
  unfold hs
  have : ∀ a ∈ s, gr (rG b G) a = (gr G a).map (rn b) := fun a ha => by
    unfold gr rG
    have := h a ha
    rw [ix_map (by omega)]
  clear h
  induction s with
  | nil => rfl
  | cons a s ih => rw [List.flatMap_cons, List.flatMap_cons, List.map_append, this a (List.mem_cons_self ..), ih fun b hb => this b (List.mem_cons_of_mem _ hb)]
theorem rn_inj {b p q : Int} (h : rn b p = rn b q) : p = q := by unfold rn at h; omega
theorem mem_rn {b p : Int} {K : List Int} : rn b p ∈ K.map (rn b) ↔ p ∈ K := by
  rw [List.mem_map]
  exact ⟨fun ⟨q, hq, e⟩ => by rw [← rn_inj e]; exact hq, fun h => ⟨p, h, rfl⟩⟩
theorem cnt_rn (b p : Int) : ∀ K : List Int, (K.map (rn b)).count (rn b p) = K.count p
  | [] => rfl
  | a :: K => by
    rw [List.map_cons, List.count_cons, List.count_cons, cnt_rn b p K]
    by_cases c : a = p
    · subst c; simp
    · have : ¬ rn b a = rn b p := fun z => c (rn_inj z)
      simp [c, this]
theorem sset_rn (b : Int) (K : List Int) : sset (K.map (rn b)) = (sset K).map (rn b) := by
  refine lt_uniq (sset_lt _) (List.pairwise_map.mpr ((sset_lt K).imp fun h => by unfold rn; omega)) fun k => ?_
  rw [mem_sset, List.mem_map, List.mem_map]
  exact ⟨fun ⟨q, hq, e⟩ => ⟨q, mem_sset.mpr hq, e⟩, fun ⟨q, hq, e⟩ => ⟨q, mem_sset.mp hq, e⟩⟩
theorem p1_rn (b : Int) {G : Gs} {s : List Int} (h : In G s) (w : List Int) : p1 (rG b G) (w.map (rn b)) s = p1 G w s := by
  unfold p1
  rw [List.all_map, hs_rn b h]
  refine congrArg (List.all w) (funext fun p => ?_)
  exact decide_eq_decide.mpr mem_rn
theorem p2_rn (b : Int) {G : Gs} {s : List Int} (h : In G s) (w : List Int) : p2 (rG b G) (w.map (rn b)) s = p2 G w s := by
  unfold p2
  rw [p1_rn b h, hs_rn b h, sset_rn, List.length_map, List.length_map]
theorem p3_rn (b : Int) {G : Gs} {s : List Int} (h : In G s) (w : List Int) : p3 (rG b G) (w.map (rn b)) s = p3 G w s := by
  unfold p3
  rw [p2_rn b h, List.all_map, hs_rn b h]
  congr 1
  refine congrArg (List.all w) (funext fun p => ?_)
  show decide (((hs G s).map (rn b)).count (rn b p) ≤ 1) = _
  rw [cnt_rn]
theorem Gok.rn {G : Gs} (hG : Gok G) (b : Int) : Gok (rG b G) := by
  obtain ⟨U, hl, hU⟩ := hG.us
  refine ⟨by unfold rG; rw [List.length_map]; exact hG.ln, fun g hg => ?_, fun g hg => ?_, U.map (Wk78.rn b), by rw [List.length_map]; exact hl, fun g hg p hp => ?_⟩
  · obtain ⟨q, hq, rfl⟩ := List.mem_map.mp hg
    rw [List.length_map]
    exact hG.gl q hq
  · obtain ⟨q, hq, rfl⟩ := List.mem_map.mp hg
    exact List.pairwise_map.mpr ((hG.nd q hq).imp fun h z => h (rn_inj z))
  · obtain ⟨q, hq, rfl⟩ := List.mem_map.mp hg
    obtain ⟨x, hx, rfl⟩ := List.mem_map.mp hp
    exact mem_rn.mpr (hU q hq x hx)
theorem sset_le (xs : List Int) : (sset xs).length ≤ xs.length := by
  unfold sset
  rw [(sortI_perm _).length_eq]
  exact uniqI_len xs
theorem size_ok : SizeOk m_law_size := fun ds ns => by
  rw [show m_law_size ds ns = sizeF m_law_take ds ns from e_law_size ds ns]
  exact sizeF_ok take_ok ds ns
theorem more_right (d sc : List Int) {G : Gs} (hG : Gok G) (h7 : G.length ≤ 8) (hS : Sm G) {w : List Int} (hw : w.Pairwise (· < ·)) (hwl : w.length ≤ 40) : Ev (m_law_more_right d (sc, G, w)) fun o => o.1 = true := by
  have c3 : (cutI w none (some (3 : Int))).length ≤ 3 := by
    unfold cutI
    rw [HT.sIx_none, show (3 : Int) = ((3 : Nat) : Int) from rfl, HT.sIx_nat, List.length_take]
    omega
  rw [e_law_more_right, fewest_ok hG (by omega), Option.bind_some, catC_ok (by rw [List.length_singleton]; omega), Option.bind_some, ssetC_ok (by rw [List.length_append, List.length_singleton]; omega), Option.bind_some]
  have gl := sset_le (cutI w none (some (3 : Int)) ++ [30])
  rw [List.length_append, List.length_singleton] at gl
  have gn : (sset (cutI w none (some (3 : Int)) ++ [30])).Nodup := (sset_lt _).imp fun h => by omega
  generalize sset (cutI w none (some (3 : Int)) ++ [30]) = g at gl gn ⊢
  have hG2 : Gok (G ++ [g]) := by
    refine ⟨by rw [List.length_append, List.length_singleton]; omega, fun x hx => ?_, fun x hx => ?_, nums 16 ++ g, by rw [List.length_append, nums_len]; omega, fun x hx p hp => ?_⟩
    · rcases List.mem_append.mp hx with z | z
      · exact hG.gl x z
      · rw [List.mem_singleton.mp z]; omega
    · rcases List.mem_append.mp hx with z | z
      · exact hG.nd x z
      · rw [List.mem_singleton.mp z]; exact gn
    · rcases List.mem_append.mp hx with z | z
      · exact List.mem_append_left _ (mem_nums'.mpr (hS x z p hp))
      · rw [List.mem_singleton.mp z] at hp
        exact List.mem_append_right _ hp
  rw [catC_ok (by rw [List.length_singleton]; omega), Option.bind_some, fewest_ok hG2 (by omega), Option.bind_some]
  generalize e1 : (SZ G.length).find? (p1 G w) = before
  generalize e2 : (SZ (G ++ [g]).length).find? (p1 (G ++ [g]) w) = behind
  refine Ev.bind (P := fun o => o = (false, d, sc, G, w, before, behind, (), (), (), (), (), (), (), ())) ?_ ?_
  · cases before with
    | none => exact ⟨_, rfl, rfl⟩
    | some f =>
      have hf := mem_SZ.mp (List.mem_of_find?_eq_some e1)
      have hp := List.find?_some e1
      have hf2 : f.Sublist (nums (G ++ [g]).length) := by
        rw [List.length_append, List.length_singleton, nums_succ]
        exact hf.trans (List.sublist_append_left _ _)
      have hp2 : p1 (G ++ [g]) w f = true := by
        unfold p1 at hp ⊢
        rw [hs_app g (sub_in hf).1]
        exact hp
      obtain ⟨f', ef⟩ := find_ex (mem_SZ.mpr hf2) hp2
      have hle := SZ_least ef hf2 hp2
      rw [ef] at e2
      subst e2
      rw [if_pos (show (some f).isSome = true from rfl), if_neg (by simp), Option.bind_some, Option.bind_some, Option.bind_some]
      try dsimp only
      rw [decide_eq_false (by omega)]
      exact ⟨_, rfl, rfl⟩
  · rintro o rfl
    try dsimp only
    rw [if_neg (by simp)]
    refine wp_take take_ok (by decide) fun t d2 t1 t2 => ?_
    try dsimp only
    rw [mulC_ok' (by decide), Option.bind_some, catC_ok (by rw [List.length_singleton]; omega), Option.bind_some, ssetC_ok (by rw [List.length_append, List.length_singleton]; omega), Option.bind_some]
    have ml := sset_le (w ++ [2 * t])
    rw [List.length_append, List.length_singleton] at ml
    have mm : ∀ p ∈ w, p ∈ sset (w ++ [2 * t]) := fun p hp => mem_sset.mpr (List.mem_append_left _ hp)
    generalize sset (w ++ [2 * t]) = more at ml mm ⊢
    rw [fewest_ok hG (by omega), Option.bind_some]
    generalize e3 : (SZ G.length).find? (p1 G more) = later
    refine Ev.bind (P := fun o => o = (false, d2, sc, G, w, before, (), more, later, (), (), (), (), (), ())) ?_ ?_
    · cases later with
      | none => exact ⟨_, rfl, rfl⟩
      | some l =>
        have hl := mem_SZ.mp (List.mem_of_find?_eq_some e3)
        have hp := List.find?_some e3
        have hp2 : p1 G w l = true := by
          unfold p1 at hp ⊢
          rw [List.all_eq_true] at hp ⊢
          exact fun p h => hp p (mm p h)
        obtain ⟨f', ef⟩ := find_ex (mem_SZ.mpr hl) hp2
        have hle := SZ_least ef hl hp2
        rw [ef] at e1
        subst e1
        rw [if_pos (show (some l).isSome = true from rfl), if_neg (by simp), Option.bind_some, Option.bind_some, Option.bind_some]
        try dsimp only
        rw [decide_eq_false (by omega)]
        exact ⟨_, rfl, rfl⟩
    · rintro o rfl
      try dsimp only
      rw [if_neg (by simp)]
      refine wp_size size_ok fun z d3 z0 z1 => ?_
      try dsimp only
      rw [modC_eq (by decide), Option.bind_some]
      generalize z % 10000000000000000000000000000 = b
      rw [if_pos (by omega), cmap (fun g => g.map (rn b)) (fun g hg => by
        have := hG.gl g hg
        try dsimp only
        rw [if_pos rfl, if_pos (by omega), cmap (rn b) (fun p hp => by
          try dsimp only
          rw [if_pos rfl, mulC_ok' (by decide)]
          rfl), Option.bind_some]), Option.bind_some]
      try dsimp only
      rw [if_pos (by omega), cmap (rn b) (fun p hp => by
        try dsimp only
        rw [if_pos rfl, mulC_ok' (by decide)]
        rfl), Option.bind_some]
      try dsimp only
      have hR := hG.rn b
      have lR : (rG b G).length = G.length := List.length_map ..
      have hw2 : (w.map (rn b)).Pairwise (· < ·) := List.pairwise_map.mpr (hw.imp fun h => by unfold rn; omega)
      rw [show (G.map fun g => g.map (rn b)) = rG b G from rfl, fewest_ok hR (by rw [List.length_map]; omega), lR, find_same (q := p1 G w) (fun s hs' => p1_rn b (sub_in (mem_SZ.mp hs')).1 w), e1, Option.bind_some, decide_eq_true rfl, if_neg (by simp), once_ok hR hw2 (by rw [List.length_map]; omega), lR, find_same (q := p3 G w) (fun s hs' => p3_rn b (sub_in (mem_ST.mp hs')).1 w), Option.bind_some, once_ok hG hw (by omega), Option.bind_some, if_pos (decide_eq_true rfl), just_ok hR hw2, lR, find_same (q := p2 G w) (fun s hs' => p2_rn b (sub_in (mem_SZ.mp hs')).1 w), Option.bind_some, just_ok hG hw, Option.bind_some, Option.bind_some, decide_eq_true rfl]
      exact ⟨_, rfl, rfl⟩
theorem sum_counts {Q : List Int} (nd : Q.Nodup) (r : List Int) : (Q.map fun a => (r.count a : Int)).sum = (r.countP fun a => decide (a ∈ Q) : Nat) := by
  induction r with
  | nil =>
    have : ∀ Q : List Int, (Q.map fun a => (([] : List Int).count a : Int)).sum = 0 := fun Q => by
      induction Q with
      | nil => rfl
      | cons b Q ih => rw [List.map_cons, List.sum_cons, ih]; simp
    rw [this]
    rfl
  | cons x r ih =>
    have one : ∀ Q : List Int, Q.Nodup → (Q.map fun c => if x = c then (1 : Int) else 0).sum = if x ∈ Q then 1 else 0 := fun Q nd => by
      induction Q with
      | nil => rfl
      | cons b Q ih =>
        have nd' := List.nodup_cons.mp nd
        rw [List.map_cons, List.sum_cons, ih nd'.2]
        by_cases e : x = b
        · subst e
          rw [if_pos rfl, if_neg nd'.1, if_pos (List.mem_cons_self ..)]
          omega
        · rw [if_neg e]
          by_cases m : x ∈ Q
          · rw [if_pos m, if_pos (List.mem_cons_of_mem _ m)]; omega
          · rw [if_neg m, if_neg (by simp [e, m])]; rfl
    have two : ∀ Q : List Int, (Q.map fun c => ((x :: r).count c : Int)).sum = (Q.map fun c => (r.count c : Int)).sum + (Q.map fun c => if x = c then (1 : Int) else 0).sum := fun Q => by
      induction Q with
      | nil => rfl
      | cons b Q ih =>
        rw [List.map_cons, List.sum_cons, List.map_cons, List.sum_cons, List.map_cons, List.sum_cons, ih, List.count_cons]
        by_cases e : x = b
        · subst e
          rw [if_pos (by simp), if_pos rfl]
          omega
        · rw [if_neg e, if_neg (by simpa using e)]
          omega
    rw [two, ih, one Q nd, List.countP_cons]
    by_cases m : x ∈ Q
    · rw [if_pos m, if_pos (decide_eq_true m)]; omega
    · rw [if_neg m, if_neg (by simpa using m)]; omega
theorem sum_lens (G : Gs) : ∀ s : List Int, (s.map fun a => ((gr G a).length : Int)).sum = ((hs G s).length : Int)
  | [] => rfl
  | a :: s => by
    have := sum_lens G s
    unfold hs at this ⊢
    rw [List.map_cons, List.sum_cons, this, List.flatMap_cons, List.length_append]
    omega
theorem sum_hb (K : List Int) : ((hb K).map fun x => x.2).sum = (K.length : Int) := by
  unfold hb
  rw [List.map_map]
  have n1 : (sset K).Nodup := (sset_lt K).imp fun h => by omega
  have := sum_counts n1 K
  rw [List.countP_eq_length.mpr (fun p hp => decide_eq_true (mem_sset.mpr hp))] at this
  exact this
theorem cnt_dup {G : Gs} {a p : Int} (hp : p ∈ gr G a) : ∀ s : List Int, s.count a ≤ (hs G s).count p
  | [] => Nat.le_refl _
  | b :: s => by
    have := cnt_dup hp s
    unfold hs at this ⊢
    rw [List.flatMap_cons, List.count_append, List.count_cons]
    by_cases c : b = a
    · subst c
      have := List.count_pos_iff.mpr hp
      simp
      omega
    · have : (b == a) = false := by simpa using c
      rw [this]
      simp
      omega
theorem cnt_all : ∀ (G : Gs) (p : Int), (∀ g ∈ G, g.Nodup) → G.flatten.count p = (G.filter fun g => decide (p ∈ g)).length
  | [], p, _ => rfl
  | g :: G, p, h => by
    have := cnt_all G p fun x hx => h x (List.mem_cons_of_mem _ hx)
    rw [List.flatten_cons, List.count_append, this, List.filter_cons]
    by_cases c : p ∈ g
    · have h1 := List.count_pos_iff.mpr c
      have h2 : g.count p ≤ 1 := List.nodup_iff_count.mp (h g (List.mem_cons_self ..)) p
      rw [if_pos (decide_eq_true c), List.length_cons]
      omega
    · rw [if_neg (by rw [decide_eq_true_eq]; exact c), List.count_eq_zero_of_not_mem c]
      omega
theorem hs_all (G : Gs) : hs G (nums G.length) = G.flatten := by
  unfold hs
  rw [List.flatMap_def]
  congr 1
  refine List.ext_getElem (by rw [List.length_map, nums_len]) fun i h1 h2 => ?_
  rw [List.getElem_map]
  have e : (nums G.length)[i]'(by rw [nums_len]; exact h2) = (i : Int) := by
    unfold nums
    rw [List.getElem_map, List.getElem_range]
  rw [e]
  unfold gr
  rw [Int.toNat_natCast, ix_at h2]
theorem dictOf_nd {ps : List (Int × Int)} (h : (ps.map Prod.fst).Nodup) : dictOf ps = ps := by
  unfold dictOf
  induction ps using list_snoc with
  | h0 => rfl
  | hs l x ih =>
    rw [List.map_append, List.map_singleton] at h
    have h' := List.nodup_append.mp h
    rw [List.foldl_append, ih h'.1]
    show setK l x.1 x.2 = l ++ [x]
    unfold setK
    rw [if_neg]
    intro z
    exact h'.2.2 x.1 (by simpa using z) x.1 (List.mem_singleton.mpr rfl) rfl
theorem getK_hb (K : List Int) (p : Int) : (getK (hb K) p).getD 0 = ((K.count p : Nat) : Int) := by
  have key : ∀ xs : List Int, getK (xs.map fun p => (p, ((K.count p : Nat) : Int))) p = if p ∈ xs then some ((K.count p : Nat) : Int) else none := fun xs => by
    induction xs with
    | nil => rfl
    | cons a xs ih =>
      rw [List.map_cons]
      unfold getK at ih ⊢
      rw [List.find?_cons]
      by_cases c : a = p
      · subst c
        simp
      · rw [show decide (a = p) = false from decide_eq_false c]
        rw [ih]
        by_cases m : p ∈ xs
        · rw [if_pos m, if_pos (List.mem_cons_of_mem _ m)]
        · rw [if_neg m, if_neg (fun z => by
            rcases List.mem_cons.mp z with y | y
            · exact c y.symm
            · exact m y)]
  unfold hb
  rw [key]
  by_cases m : p ∈ sset K
  · rw [if_pos m]; rfl
  · rw [if_neg m, List.count_eq_zero_of_not_mem fun z => m (mem_sset.mpr z)]
    rfl
theorem sent_right (d : List Int) {G : Gs} (hG : Gok G) (hS : Sm G) : Ev (m_law_sent_right d G) fun o => o.1 = true := by
  have hn := hG.ln
  rw [e_law_sent_right]
  refine wp_take take_ok (by decide) fun t d2 t1 t2 => ?_
  try dsimp only
  have eb : ∃ n : Nat, mulC t (b01 (decide (0 < ((List.length G : Nat) : Int)))) = some (n : Int) ∧ n ≤ 8 ∧ (G.length = 0 → n = 0) := by
    by_cases c : 0 < ((List.length G : Nat) : Int)
    · refine ⟨t.toNat, ?_, by omega, fun z => by omega⟩
      rw [decide_eq_true c, mulC_ok (by decide)]
      show some (t * 1) = _
      rw [Int.mul_one]
      congr 1
      omega
    · refine ⟨0, ?_, by omega, fun _ => rfl⟩
      rw [decide_eq_false c, mulC_ok (by decide)]
      show some (t * 0) = _
      rw [Int.mul_zero]
      rfl
  obtain ⟨n, eb, n8, n0⟩ := eb
  rw [eb, Option.bind_some, rng_len (by omega), Option.bind_some, if_pos (by rw [nums_len]; omega)]
  refine wp_comp (C := fun a => 0 ≤ a ∧ a < (G.length : Int)) (fun x hx d => ?_) fun s d3 hl hin => ?_
  · have hx := mem_nums'.mp hx
    try dsimp only
    rw [if_pos rfl]
    refine wp_take take_ok (by omega) fun a d4 a1 a2 => ?_
    exact ⟨_, rfl, a, d4, rfl, a1, a2⟩
  · rw [nums_len] at hl
    have hin : In G s := hin
    obtain ⟨c, e, hc, h64, hcl⟩ := lcounts_ok hG hin (by omega)
    have hbl : (hb (hs G s)).length ≤ 100 := by unfold hb; rw [List.length_map]; omega
    try dsimp only
    rw [e, Option.bind_some, heard_ok hG hin (by omega), Option.bind_some, srt_ok hc h64, Option.bind_some, if_pos (by omega), cmap (fun p => (p, (((hs G s).count p : Nat) : Int))) (fun p hp => by
      try dsimp only
      rw [if_pos rfl, get_cnt hc (mem_sset.mp hp)]
      rfl), Option.bind_some]
    try dsimp only
    rw [show (sset (hs G s)).map (fun p => (p, (((hs G s).count p : Nat) : Int))) = hb (hs G s) from rfl, decide_eq_true rfl, if_neg (by simp), if_pos (by omega), cmap (fun x => x.2) (fun x hx => by
      try dsimp only
      rw [if_pos rfl]), Option.bind_some]
    try dsimp only
    rw [if_pos (by omega), cmap (fun a => ((gr G a).length : Int)) (fun a ha => by
      try dsimp only
      rw [if_pos rfl, (get_gr (hin a ha)).1]
      rfl), Option.bind_some]
    try dsimp only
    rw [sum_hb, sum_lens, decide_eq_true rfl, Option.bind_some]
    try dsimp only
    rw [if_neg (by simp), twice_ok hG hin (by omega), Option.bind_some, srt_ok hc h64, Option.bind_some, if_pos (by omega), comp_fil (fun p => decide (1 < (((hs G s).count p : Nat) : Int))) (fun p hp => by
      try dsimp only
      rw [get_cnt hc (mem_sset.mp hp), Option.bind_some]
      by_cases q : 1 < (((hs G s).count p : Nat) : Int)
      · rw [if_pos (decide_eq_true q), if_pos (decide_eq_true q)]
      · rw [if_neg (by rw [decide_eq_true_eq]; exact q), if_neg (by rw [decide_eq_true_eq]; exact q)]), Option.bind_some]
    try dsimp only
    rw [decide_eq_true rfl, if_neg (by simp), rng_len (by omega), Option.bind_some]
    refine wp_loopP (fun j z => z = (d3, G, s, c, (), idx j (need G s), (), (), (), (), (), (), (), (), ())) (fun j x z hx hz => ?_) rfl (fun z hz => ?_)
    · subst hz
      obtain ⟨rfl, hj⟩ := nums_get hx
      have ha := hin _ (ix_mem hj)
      have gl := hG.gl _ (get_gr ha).2
      have il := idx_len j (need G s)
      refine ev_nx ?_ rfl
      try dsimp only
      rw [getI_ix hj, Option.bind_some, (get_gr ha).1, Option.bind_some, if_pos (by omega), comp_fil (fun p => decide ((((hs G s).count p : Nat) : Int) < 2)) (fun p hp => by
        have hk : p ∈ hs G s := List.mem_flatMap.mpr ⟨_, ix_mem hj, hp⟩
        try dsimp only
        rw [get_cnt hc hk, Option.bind_some]
        by_cases q : (((hs G s).count p : Nat) : Int) < 2
        · rw [if_pos (decide_eq_true q), if_pos (decide_eq_true q)]
        · rw [if_neg (by rw [decide_eq_true_eq]; exact q), if_neg (by rw [decide_eq_true_eq]; exact q)]), Option.bind_some]
      try dsimp only
      have e1 : decide (((((gr G (ix s j)).filter fun p => decide ((((hs G s).count p : Nat) : Int) < 2)).length : Nat) : Int) = 0) = need G s j := by
        rw [Bool.eq_iff_iff, decide_eq_true_eq, need_iff hG hin hj]
        constructor
        · intro z p hp
          have := List.filter_eq_nil_iff.mp (List.length_eq_zero_iff.mp (show ((gr G (ix s j)).filter fun p => decide ((((hs G s).count p : Nat) : Int) < 2)).length = 0 by omega)) p hp
          rw [decide_eq_true_eq] at this
          omega
        · intro z
          rw [List.filter_eq_nil_iff.mpr fun p hp => by
            have := z p hp
            rw [decide_eq_true_eq]
            omega]
          rfl
      rw [e1, idx_succ]
      cases need G s j with
      | true =>
        rw [if_pos rfl, if_pos rfl, appC_ok (by omega), Option.bind_some, Option.bind_some]
        exact ⟨_, rfl, rfl⟩
      | false =>
        rw [if_neg (by simp), if_neg (by simp), Option.bind_some, List.append_nil]
        exact ⟨_, rfl, rfl⟩
    · subst hz
      rw [nums_len]
      have il := idx_len s.length (need G s)
      try dsimp only
      rw [needless_ok hG hin (by omega), Option.bind_some, decide_eq_true rfl, if_neg (by simp), rng_len (by omega), Option.bind_some, if_pos (by rw [nums_len]; omega), comp_fil (fun _ => false) (fun x hx => by
        obtain ⟨j, rfl, hj⟩ := mem_nums.mp hx
        try dsimp only
        rw [getI_ix hj, Option.bind_some]
        by_cases q : 1 < (((s.count (ix s j)) : Nat) : Int)
        · have hnj : need G s j = true := (need_iff hG hin hj).mpr fun p hp => by
            have := cnt_dup hp s
            omega
          rw [if_pos (decide_eq_true q), decide_eq_true (mem_idx.mpr ⟨j, rfl, hj, hnj⟩)]
          rfl
        · rw [if_neg (by rw [decide_eq_true_eq]; exact q)]
          rfl), Option.bind_some]
      try dsimp only
      rw [List.filter_eq_nil_iff.mpr (by simp), decide_eq_false (by simp), Option.bind_some]
      try dsimp only
      have hinA : In G (nums G.length) := fun a ha => mem_nums'.mp ha
      rw [if_neg (by simp), lrng_nat (by omega), Option.bind_some, heard_ok hG hinA (by rw [nums_len]; omega), Option.bind_some]
      obtain ⟨c2, _, hc2, h642, hcl2⟩ := often_ok hG hinA (by rw [nums_len]; omega)
      have kf : (hb (hs G (nums G.length))).map (fun self => self.1) = sset (hs G (nums G.length)) := by
        unfold hb
        rw [List.map_map]
        exact List.map_id'' (fun _ => rfl) _
      have dn : dictOf (hb (hs G (nums G.length))) = hb (hs G (nums G.length)) := dictOf_nd (by
        have : (hb (hs G (nums G.length))).map Prod.fst = sset (hs G (nums G.length)) := kf
        rw [this]
        exact (sset_lt _).imp fun h => by omega)
      rw [dn]
      show Ev (if List.length ((hb (hs G (nums G.length))).map fun self => self.1) ≤ 16777216 then Option.bind (compM _ ((hb (hs G (nums G.length))).map fun self => self.1) _) _ else none) _
      rw [kf, if_pos (by omega), cmap (fun x => x) (fun x hx => by
        try dsimp only
        rw [if_pos rfl]), Option.bind_some]
      try dsimp only
      have ss : sset (sset (hs G (nums G.length))) = sset (hs G (nums G.length)) := lt_uniq (sset_lt _) (sset_lt _) fun k => mem_sset
      rw [List.map_id', ssetC_ok (by omega), ss, Option.bind_some, show rng1 (16 : Int) = some (nums 16) from rng_len (n := 16) (by decide), Option.bind_some, if_pos (by rw [nums_len]; decide), comp_fil (fun p => decide (0 < (((hs G (nums G.length)).count p : Nat) : Int))) (fun p hp => by
        have e1 : (((G.filter fun g => decide (p ∈ g)).length : Nat) : Int) = (((hs G (nums G.length)).count p : Nat) : Int) := by
          rw [hs_all, cnt_all G p hG.nd]
        try dsimp only
        rw [if_pos (by omega), comp_fil (fun g => decide (p ∈ g)) (fun g hg => by
          try dsimp only
          by_cases q : p ∈ g
          · rw [if_pos (decide_eq_true q), if_pos (decide_eq_true q)]
          · rw [if_neg (by rw [decide_eq_true_eq]; exact q), if_neg (by rw [decide_eq_true_eq]; exact q)]), Option.bind_some]
        try dsimp only
        rw [getK_hb, e1, if_pos (decide_eq_true rfl), Option.bind_some]
        try dsimp only
        by_cases q : 0 < (((hs G (nums G.length)).count p : Nat) : Int)
        · rw [if_pos (decide_eq_true q), if_pos (decide_eq_true q)]
        · rw [if_neg (by rw [decide_eq_true_eq]; exact q), if_neg (by rw [decide_eq_true_eq]; exact q)]), Option.bind_some]
      try dsimp only
      have ef : sset (hs G (nums G.length)) = (nums 16).filter fun p => decide (0 < (((hs G (nums G.length)).count p : Nat) : Int)) := by
        refine lt_uniq (sset_lt _) ((nums_lt 16).filter _) fun p => ?_
        rw [mem_sset, List.mem_filter, mem_nums', decide_eq_true_eq]
        constructor
        · intro hp
          have := List.count_pos_iff.mpr hp
          obtain ⟨a, ha, hpa⟩ := List.mem_flatMap.mp hp
          have := hS _ (get_gr (hinA a ha)).2 p hpa
          exact ⟨by omega, by omega⟩
        · rintro ⟨_, h⟩
          exact List.count_pos_iff.mp (by omega)
      rw [← ef, decide_eq_true rfl]
      exact ⟨_, rfl, rfl⟩
/-! ### the law's groups -/
theorem comp_subm {β A γ : Type} {f : β → A → Option (Option γ × A)} (g : β → γ) {P : A → Prop} : ∀ (xs : List β) (s : A), (∀ x ∈ xs, ∀ s, P s → Ev (f x s) fun o => P o.2 ∧ (o.1 = none ∨ o.1 = some (g x))) → P s → ∃ (ys : List β) (s' : A), compM f xs s = some (ys.map g, s') ∧ P s' ∧ ys.Sublist xs
  | [], s, _, hs => ⟨[], s, rfl, hs, List.Sublist.refl _⟩
  | x :: xs, s, h, hs => by
    obtain ⟨⟨o, s1⟩, e1, p1, ho⟩ := h x (List.mem_cons_self ..) s hs
    obtain ⟨ys, s2, e2, p2, sub⟩ := comp_subm g xs s1 (fun y hy => h y (List.mem_cons_of_mem _ hy)) p1
    try dsimp only at ho
    rcases ho with z | z
    · refine ⟨ys, s2, ?_, p2, sub.cons x⟩
      show (f x s).bind _ = _
      rw [e1, Option.bind_some]
      try dsimp only
      rw [e2, z]
      rfl
    · refine ⟨x :: ys, s2, ?_, p2, sub.cons_cons x⟩
      show (f x s).bind _ = _
      rw [e1, Option.bind_some]
      try dsimp only
      rw [e2, z]
      rfl
theorem groups_ok (d : List Int) {n : Nat} (hn : n ≤ 7) : Ev (m_law_groups d (n : Int)) fun o => Gok o.1 ∧ Sm o.1 ∧ o.1.length = n := by
  rw [e_law_groups]
  refine wp_take take_ok (by decide) fun w d2 w1 w2 => ?_
  obtain ⟨w, hw⟩ := Int.eq_ofNat_of_zero_le (show 0 ≤ 1 + w by omega)
  try dsimp only
  refine wp_take take_ok (by decide) fun r d3 r1 r2 => ?_
  try dsimp only
  rw [hw, rng_len (by omega), Option.bind_some]
  refine wp_loopE (fun j z => ∃ d F, z = (d, (n : Int), (w : Int), 1 + r, F, (), (), (), ()) ∧ F.length = j ∧ ∀ g ∈ F, g.Nodup ∧ g.length ≤ 8 ∧ ∀ p ∈ g, 0 ≤ p ∧ p < 16) (fun j x z hx hz => ?_) ⟨_, [], rfl, rfl, (by intro x h; cases h)⟩ (fun z hz => ?_)
  · obtain ⟨d, F, rfl, fl, fg⟩ := hz
    obtain ⟨rfl, hj⟩ := nums_get hx
    try dsimp only
    rw [rng_len (by omega), Option.bind_some, if_pos (by rw [nums_len]; omega)]
    obtain ⟨ys, s', ec, ⟨d4, rfl⟩, sub⟩ := comp_subm (f := fun x7 (z : List Int × Int × Int × Int × List (List Int) × Int × PUnit × PUnit × PUnit) => (m_law_take z.1 (1 + z.2.2.2.1)).bind fun w =>
            if decide (w.1 = 0) = true then (mulC 2 x7).bind fun t10 =>
              some (some t10, w.2, z.2.1, z.2.2.1, z.2.2.2.1, z.2.2.2.2.1, z.2.2.2.2.2.1, (), (), ())
            else some (none, w.2, z.2.1, z.2.2.1, z.2.2.2.1, z.2.2.2.2.1, z.2.2.2.2.2.1, (), (), ())) (fun x => 2 * x) (P := fun z => ∃ d, z = (d, (n : Int), (w : Int), 1 + r, F, (j : Int), (), (), ())) (nums w) (d, (n : Int), (w : Int), 1 + r, F, (j : Int), (), (), ()) (fun x hx z hz => by
      obtain ⟨d, rfl⟩ := hz
      try dsimp only
      refine wp_take take_ok (by omega) fun t d5 t1 t2 => ?_
      try dsimp only
      by_cases c : t = 0
      · rw [if_pos (decide_eq_true c), mulC_ok' (by decide), Option.bind_some]
        exact ⟨_, rfl, ⟨d5, rfl⟩, .inr rfl⟩
      · rw [if_neg (by rw [decide_eq_true_eq]; exact c)]
        exact ⟨_, rfl, ⟨d5, rfl⟩, .inl rfl⟩) ⟨d, rfl⟩
    refine wp_eq ec ?_
    have hg : (ys.map fun x => 2 * x).Nodup ∧ (ys.map fun x => 2 * x).length ≤ 8 ∧ ∀ p ∈ ys.map (fun x => 2 * x), 0 ≤ p ∧ p < 16 := by
      refine ⟨List.pairwise_map.mpr ((sub.nodup (nums_nodup w)).imp fun h z => h (by omega)), ?_, fun p hp => ?_⟩
      · have := sub.length_le
        rw [nums_len] at this
        rw [List.length_map]
        omega
      · obtain ⟨x, hx, rfl⟩ := List.mem_map.mp hp
        have := mem_nums'.mp (sub.subset hx)
        omega
    generalize ys.map (fun x => 2 * x) = g at hg ⊢
    try dsimp only
    refine Ev.bind (P := fun o => ∃ c d, o = (c, d, (n : Int), (w : Int), 1 + r, F, (j : Int), g, (), ()) ∧ (c = true → 0 < j)) ?_ ?_
    · by_cases c : 0 < (j : Int)
      · rw [if_pos (decide_eq_true c)]
        refine wp_take take_ok (by decide) fun t d5 t1 t2 => ?_
        exact ⟨_, rfl, _, d5, rfl, fun _ => by omega⟩
      · rw [if_neg (by rw [decide_eq_true_eq]; exact c)]
        exact ⟨_, rfl, _, d4, rfl, (fun h => nomatch h)⟩
    · rintro o ⟨c, d5, rfl, hc⟩
      try dsimp only
      refine Ev.bind (P := fun o => ∃ d g, o = Out.nx (d, (n : Int), (w : Int), 1 + r, F, (), g, (), ()) ∧ g.Nodup ∧ g.length ≤ 8 ∧ ∀ p ∈ g, 0 ≤ p ∧ p < 16) ?_ ?_
      · cases c with
        | true =>
          have h0 := hc rfl
          obtain ⟨F', q, eF⟩ : ∃ F' q, F = F' ++ [q] := ⟨F.dropLast, F.getLast (by intro z; rw [z] at fl; simp at fl; omega), (List.dropLast_concat_getLast _).symm⟩
          have hq := fg q (by rw [eF]; simp)
          rw [if_pos rfl, show getI F (-1) = some q by rw [eF]; exact getI_last, Option.bind_some]
          refine wp_take take_ok (by decide) fun t d6 t1 t2 => ?_
          try dsimp only
          have sb : (cutI q (some t) none).Sublist q := by
            unfold cutI
            exact (List.take_sublist _ _).trans (List.drop_sublist _ _)
          exact ⟨_, rfl, d6, _, rfl, sb.nodup hq.1, Nat.le_trans sb.length_le hq.2.1, fun p hp => hq.2.2 p (sb.subset hp)⟩
        | false =>
          rw [if_neg (by simp)]
          exact ⟨_, rfl, d5, g, rfl, hg⟩
      · rintro o ⟨d6, g', rfl, hg'⟩
        try dsimp only
        rw [appC_ok (by omega), Option.bind_some]
        refine ⟨_, rfl, _, rfl, d6, _, rfl, by rw [List.length_append, List.length_singleton, fl], fun x hx => ?_⟩
        rcases List.mem_append.mp hx with z | z
        · exact fg x z
        · rw [List.mem_singleton.mp z]
          exact hg'
  · obtain ⟨d, F, rfl, fl, fg⟩ := hz
    rw [nums_len] at fl
    refine ⟨_, rfl, ⟨by dsimp only; omega, fun g hg => by have := (fg g hg).2.1; omega, fun g hg => (fg g hg).1, nums 16, by rw [nums_len]; decide, fun g hg p hp => mem_nums'.mpr ((fg g hg).2.2 p hp)⟩, fun g hg p hp => (fg g hg).2.2 p hp, fl⟩
/-! ### the law -/
theorem sset_u (K : List Int) : (sset K).length = (uniqI K).length := by
  unfold sset
  rw [(sortI_perm _).length_eq]
def p2c (G : Gs) (w s : List Int) : Bool := p1 G w s && decide ((uniqI (hs G s)).length = w.length)
theorem p2_c (G : Gs) (w : List Int) : p2 G w = p2c G w := by
  funext s
  unfold p2 p2c
  rw [sset_u]
def p3c (G : Gs) (w s : List Int) : Bool := p2c G w s && w.all fun p => decide ((hs G s).count p ≤ 1)
theorem p3_c (G : Gs) (w : List Int) : p3 G w = p3c G w := by
  funext s
  unfold p3 p3c
  rw [p2_c]
def needc (G : Gs) (s : List Int) (j : Nat) : Bool := decide ((uniqI (hs G (s.take j ++ s.drop (j + 1)))).length = (uniqI (hs G s)).length)
theorem need_c (G : Gs) (s : List Int) : need G s = needc G s := by
  funext j
  unfold need needc
  rw [sset_u, sset_u]
abbrev CG : Gs := [[1, 2], [2, 3], [3], [1, 2, 3, 4]]
theorem law_true (ns : List Int) (h : ns.length ≤ 63) : m_law ns = some true := by
  have hC : Gok CG := ⟨by decide, by decide, by decide, [1, 2, 3, 4], by decide, by decide⟩
  have hD : Gok [[], [1]] := ⟨by decide, by decide, by decide, [1], by decide, by decide⟩
  have i1 : In CG [0, 1, 0] := by unfold In; decide
  have i2 : In CG [1, 2] := by unfold In; decide
  have i3 : In CG [] := by intro a h; cases h
  have s4 : SZ 4 = [[], [0], [1], [2], [3], [0, 1], [0, 2], [0, 3], [1, 2], [1, 3], [2, 3], [0, 1, 2], [0, 1, 3], [0, 2, 3], [1, 2, 3], [0, 1, 2, 3]] := by
    unfold SZ
    rw [show sortU ltIL ((subs (nums 4)).map f1) = [[], [0], [1], [2], [3], [0, 1], [0, 2], [0, 3], [1, 2], [1, 3], [2, 3], [0, 1, 2], [0, 1, 3], [0, 2, 3], [1, 2, 3], [0, 1, 2, 3]].map f1 from sortU_eq totIL (by decide +kernel) (by decide +kernel)]
    rfl
  have t4 : ST 4 = [[], [0], [0, 1], [0, 1, 2], [0, 1, 2, 3], [0, 1, 3], [0, 2], [0, 2, 3], [0, 3], [1], [1, 2], [1, 2, 3], [1, 3], [2], [2, 3], [3]] := sortU_eq totL (by decide +kernel) (by decide +kernel)
  have t2 : ST 2 = [[], [0], [0, 1], [1]] := sortU_eq totL (by decide +kernel) (by decide +kernel)
  have z1 : m_fewest_groups (CG, [1, 2, 3]) = some (some [3]) := by
    rw [fewest_ok hC (by decide), show CG.length = 4 from rfl, s4]
    decide +kernel
  have z2 : m_just_these (CG, [1, 2, 3]) = some (some [0, 1]) := by
    rw [just_ok hC (by decide), p2_c, show CG.length = 4 from rfl, s4]
    decide +kernel
  have z3 : m_each_once (CG, [1, 2, 3]) = some (some [0, 2]) := by
    rw [once_ok hC (by decide) (by decide), p3_c, show CG.length = 4 from rfl, t4]
    decide +kernel
  have z4 : m_heard_by (CG, [0, 1, 0]) = some [(1, 2), (2, 3), (3, 1)] := by
    rw [heard_ok hC i1 (by decide)]
    unfold hb
    rw [show hs CG [0, 1, 0] = [1, 2, 2, 3, 1, 2] by decide +kernel, ← sset_eq (x := [1, 2, 2, 3, 1, 2]) (ys := [1, 2, 3]) (by decide) (by intro j; simp; omega)]
    decide +kernel
  have z5 : m_needless_sent (CG, [0, 1, 0]) = some [0, 2] := by
    rw [needless_ok hC i1 (by decide), need_c]
    decide +kernel
  have z6 : m_twice_by (CG, [1, 2]) = some [3] := by
    rw [twice_ok hC i2 (by decide), show hs CG [1, 2] = [2, 3, 3] by decide +kernel, ← sset_eq (x := [2, 3, 3]) (ys := [2, 3]) (by decide) (by intro j; simp)]
    decide +kernel
  have z7 : m_fewest_groups (CG, [5]) = some none := by
    rw [fewest_ok hC (by decide), show CG.length = 4 from rfl, s4]
    decide +kernel
  have z8 : m_just_these (CG, []) = some (some []) := by
    rw [just_ok hC (by decide), p2_c, show CG.length = 4 from rfl, s4]
    decide +kernel
  have z9 : m_each_once ([[], [1]], [1]) = some (some [0, 1]) := by
    rw [once_ok hD (by decide) (by decide), p3_c, show ([[], [1]] : Gs).length = 2 from rfl, t2]
    decide +kernel
  have z10 : m_heard_by (CG, []) = some [] := by
    rw [heard_ok hC i3 (by decide)]
    unfold hb
    rw [show hs CG [] = [] from rfl, ← sset_eq (x := []) (ys := []) List.Pairwise.nil fun j => Iff.rfl]
    rfl
  obtain ⟨ds, e⟩ : ∃ ds, m_law_draws (ns, 420) = some ds := by
    rw [show m_law_draws (ns, 420) = drawsF ns ((420 : Nat) : Int) from e_law_draws ns 420]
    exact draws_ok ns h (by omega)
  refine Ev.eq ?_
  rw [e_law, e, Option.bind_some]
  refine wp_loop1 (fun x hx d => ?_) fun d => ?_
  · have hx : 0 < x ∧ x ≤ 8 := by
      simp only [List.mem_cons, List.not_mem_nil, or_false] at hx
      omega
    try dsimp only
    refine wp_take take_ok hx.1 fun n d2 n1 n2 => ?_
    obtain ⟨n, rfl⟩ := Int.eq_ofNat_of_zero_le n1
    try dsimp only
    refine Ev.bind (groups_ok d2 (n := n) (by omega)) ?_
    rintro ⟨G, d3⟩ ⟨hG, hS, hl⟩
    try dsimp only at hG hS hl ⊢
    rw [show rng1 (8 : Int) = some (nums 8) from rng_len (n := 8) (by decide), Option.bind_some, if_pos (by rw [nums_len]; decide)]
    obtain ⟨ys, s', ec, ⟨d4, rfl⟩, sub⟩ := comp_subm (f := fun x7 (z : List Int × List Int × Int × List (List Int) × PUnit × PUnit × PUnit) => (m_law_take z.2.1 (3 : Int)).bind fun w =>
            if decide (w.1 = (0 : Int)) = true then (mulC (2 : Int) x7).bind fun t10 =>
              some (some t10, z.1, w.2, z.2.2.1, z.2.2.2.1, (), (), ())
            else some ((none : Option Int), z.1, w.2, z.2.2.1, z.2.2.2.1, (), (), ())) (fun x => 2 * x) (P := fun z => ∃ d, z = (ns, d, x, G, (), (), ())) (nums 8) (ns, d3, x, G, (), (), ()) (fun y hy z hz => by
      obtain ⟨d, rfl⟩ := hz
      try dsimp only
      refine wp_take take_ok (by decide) fun t d5 t1 t2 => ?_
      try dsimp only
      by_cases c : t = 0
      · rw [if_pos (decide_eq_true c), mulC_ok' (by decide), Option.bind_some]
        exact ⟨_, rfl, ⟨d5, rfl⟩, .inr rfl⟩
      · rw [if_neg (by rw [decide_eq_true_eq]; exact c)]
        exact ⟨_, rfl, ⟨d5, rfl⟩, .inl rfl⟩) ⟨d3, rfl⟩
    refine wp_eq ec ?_
    have hw : (ys.map fun x => 2 * x).Pairwise (· < ·) ∧ (ys.map fun x => 2 * x).length ≤ 40 := by
      refine ⟨List.pairwise_map.mpr (((nums_lt 8).sublist sub).imp fun h => by omega), ?_⟩
      have := sub.length_le
      rw [nums_len] at this
      rw [List.length_map]
      omega
    generalize ys.map (fun x => 2 * x) = w at hw ⊢
    try dsimp only
    refine Ev.bind (P := fun o => ∃ c d, o = (c, ns, d, x, G, w, (), ()) ∧ (c = true → 0 < G.length)) ?_ ?_
    · by_cases c : 0 < ((List.length G : Nat) : Int)
      · rw [if_pos (decide_eq_true c)]
        refine wp_take take_ok (by decide) fun t d5 t1 t2 => ?_
        exact ⟨_, rfl, _, d5, rfl, fun _ => by omega⟩
      · rw [if_neg (by rw [decide_eq_true_eq]; exact c)]
        exact ⟨_, rfl, _, d4, rfl, (fun h => nomatch h)⟩
    · rintro o ⟨c, d5, rfl, hc⟩
      try dsimp only
      refine Ev.bind (P := fun o => ∃ w : List Int, o = Out.nx (ns, d5, (), G, w, (), ()) ∧ w.Pairwise (· < ·) ∧ w.length ≤ 40) ?_ ?_
      · cases c with
        | true =>
          have h0 := hc rfl
          obtain ⟨F', q, eF⟩ : ∃ F' q, G = F' ++ [q] := ⟨G.dropLast, G.getLast (by intro z; rw [z] at h0; simp at h0), (List.dropLast_concat_getLast _).symm⟩
          have e0 : getI G (0 : Int) = some (ix G 0) := getI_ix (j := 0) h0
          have l0 := hG.gl _ (ix_mem h0)
          have lq := hG.gl q (by rw [eF]; simp)
          have sl := sset_le (ix G 0 ++ q)
          rw [List.length_append] at sl
          rw [if_pos rfl, e0, Option.bind_some, show getI G (-1) = some q by rw [eF]; exact getI_last, Option.bind_some, catC_ok (by omega), Option.bind_some, ssetC_ok (by rw [List.length_append]; omega), Option.bind_some]
          exact ⟨_, rfl, _, rfl, sset_lt _, by omega⟩
        | false =>
          rw [if_neg (by simp)]
          exact ⟨_, rfl, w, rfl, hw⟩
      · rintro o ⟨w, rfl, hw1, hw2⟩
        try dsimp only
        refine Ev.bind (P := fun o => ∃ d, o = (false, ns, d, (), G, w, (), ())) ?_ ?_
        · refine Ev.bind (sent_right d5 hG hS) ?_
          rintro ⟨c, d6⟩ hc
          try dsimp only at hc
          subst hc
          try dsimp only
          rw [if_neg (by simp), told_right hG hw1 hw2, Option.bind_some, if_neg (by simp)]
          refine Ev.bind (P := fun o => ∃ d, o = (false, ns, d, (), G, w, (), ())) ?_ ?_
          · refine Ev.bind (more_right d6 ns hG (by omega) hS hw1 hw2) ?_
            rintro ⟨c, d7⟩ hc
            try dsimp only at hc
            subst hc
            exact ⟨_, rfl, d7, rfl⟩
          · rintro o ⟨d7, rfl⟩
            exact ⟨_, rfl, d7, rfl⟩
        · rintro o ⟨d7, rfl⟩
          try dsimp only
          rw [if_neg (by simp)]
          exact ⟨_, rfl, d7, rfl⟩
  · try dsimp only
    simp only [z1, z2, z3, z4, z5, z6, z7, z8, z9, z10, Option.bind_some, decide_true, Bool.not_true, Bool.false_eq_true, if_false, if_true, Option.isNone_none]
    exact ⟨_, rfl, rfl⟩
end Wk78

namespace Wk78
open PySem PySem.Spec PyProof.Rows L2 L3
theorem all_mk {l : PySem.W.OpenLaw} {w : World} {K : PySem.W.Frag} {h : Heap} {mg : Str → Option Value} {fa : Addr} (X : K.In h) (G : h.Ns mainGlobals mg) (hfa : mg "law" = some (.ref fa))
    {f0 : Addr} {o0 n0 : Option Addr} {s0 : Array (Option Value)} {x0 v0 d0 p0 e0 y0 : Value} (a0 : PySem.W.nsIn K mainGlobals "often" = some (some (.ref f0)))
    (l0 : K.lookup f0 = some ⟨x0, o0, .func (PySem.W.fnOf "often" "often" (defArgs s_often) (defBody s_often) (defScope s_often) .none v0 d0 p0 n0 e0 y0), s0⟩) (c0 : PySem.W.codeIn K e0 "often" = true) (k0 : PySem.W.keepIn K (.ref f0) = true)
    {f1 : Addr} {o1 n1 : Option Addr} {s1 : Array (Option Value)} {x1 v1 d1 p1 e1 y1 : Value} (a1 : PySem.W.nsIn K mainGlobals "heard_by" = some (some (.ref f1)))
    (l1 : K.lookup f1 = some ⟨x1, o1, .func (PySem.W.fnOf "heard_by" "heard_by" (defArgs s_heard_by) (defBody s_heard_by) (defScope s_heard_by) .none v1 d1 p1 n1 e1 y1), s1⟩) (c1 : PySem.W.codeIn K e1 "heard_by" = true) (k1 : PySem.W.keepIn K (.ref f1) = true)
    {f2 : Addr} {o2 n2 : Option Addr} {s2 : Array (Option Value)} {x2 v2 d2 p2 e2 y2 : Value} (a2 : PySem.W.nsIn K mainGlobals "sets_by_size" = some (some (.ref f2)))
    (l2 : K.lookup f2 = some ⟨x2, o2, .func (PySem.W.fnOf "sets_by_size" "sets_by_size" (defArgs s_sets_by_size) (defBody s_sets_by_size) (defScope s_sets_by_size) .none v2 d2 p2 n2 e2 y2), s2⟩) (c2 : PySem.W.codeIn K e2 "sets_by_size" = true) (k2 : PySem.W.keepIn K (.ref f2) = true)
    {f3 : Addr} {o3 n3 : Option Addr} {s3 : Array (Option Value)} {x3 v3 d3 p3 e3 y3 : Value} (a3 : PySem.W.nsIn K mainGlobals "fewest_groups" = some (some (.ref f3)))
    (l3 : K.lookup f3 = some ⟨x3, o3, .func (PySem.W.fnOf "fewest_groups" "fewest_groups" (defArgs s_fewest_groups) (defBody s_fewest_groups) (defScope s_fewest_groups) .none v3 d3 p3 n3 e3 y3), s3⟩) (c3 : PySem.W.codeIn K e3 "fewest_groups" = true) (k3 : PySem.W.keepIn K (.ref f3) = true)
    {f4 : Addr} {o4 n4 : Option Addr} {s4 : Array (Option Value)} {x4 v4 d4 p4 e4 y4 : Value} (a4 : PySem.W.nsIn K mainGlobals "just_these" = some (some (.ref f4)))
    (l4 : K.lookup f4 = some ⟨x4, o4, .func (PySem.W.fnOf "just_these" "just_these" (defArgs s_just_these) (defBody s_just_these) (defScope s_just_these) .none v4 d4 p4 n4 e4 y4), s4⟩) (c4 : PySem.W.codeIn K e4 "just_these" = true) (k4 : PySem.W.keepIn K (.ref f4) = true)
    {f5 : Addr} {o5 n5 : Option Addr} {s5 : Array (Option Value)} {x5 v5 d5 p5 e5 y5 : Value} (a5 : PySem.W.nsIn K mainGlobals "each_once" = some (some (.ref f5)))
    (l5 : K.lookup f5 = some ⟨x5, o5, .func (PySem.W.fnOf "each_once" "each_once" (defArgs s_each_once) (defBody s_each_once) (defScope s_each_once) .none v5 d5 p5 n5 e5 y5), s5⟩) (c5 : PySem.W.codeIn K e5 "each_once" = true) (k5 : PySem.W.keepIn K (.ref f5) = true)
    {f6 : Addr} {o6 n6 : Option Addr} {s6 : Array (Option Value)} {x6 v6 d6 p6 e6 y6 : Value} (a6 : PySem.W.nsIn K mainGlobals "twice_by" = some (some (.ref f6)))
    (l6 : K.lookup f6 = some ⟨x6, o6, .func (PySem.W.fnOf "twice_by" "twice_by" (defArgs s_twice_by) (defBody s_twice_by) (defScope s_twice_by) .none v6 d6 p6 n6 e6 y6), s6⟩) (c6 : PySem.W.codeIn K e6 "twice_by" = true) (k6 : PySem.W.keepIn K (.ref f6) = true)
    {f7 : Addr} {o7 n7 : Option Addr} {s7 : Array (Option Value)} {x7 v7 d7 p7 e7 y7 : Value} (a7 : PySem.W.nsIn K mainGlobals "needless_sent" = some (some (.ref f7)))
    (l7 : K.lookup f7 = some ⟨x7, o7, .func (PySem.W.fnOf "needless_sent" "needless_sent" (defArgs s_needless_sent) (defBody s_needless_sent) (defScope s_needless_sent) .none v7 d7 p7 n7 e7 y7), s7⟩) (c7 : PySem.W.codeIn K e7 "needless_sent" = true) (k7 : PySem.W.keepIn K (.ref f7) = true)
    {f8 : Addr} {o8 n8 : Option Addr} {s8 : Array (Option Value)} {x8 v8 d8 p8 e8 y8 : Value} (a8 : PySem.W.nsIn K mainGlobals "_law_draws" = some (some (.ref f8)))
    (l8 : K.lookup f8 = some ⟨x8, o8, .func (PySem.W.fnOf "_law_draws" "_law_draws" (defArgs s_law_draws) (defBody s_law_draws) (defScope s_law_draws) .none v8 d8 p8 n8 e8 y8), s8⟩) (c8 : PySem.W.codeIn K e8 "_law_draws" = true) (k8 : PySem.W.keepIn K (.ref f8) = true)
    {f9 : Addr} {o9 n9 : Option Addr} {s9 : Array (Option Value)} {x9 v9 d9 p9 e9 y9 : Value} (a9 : PySem.W.nsIn K mainGlobals "_law_take" = some (some (.ref f9)))
    (l9 : K.lookup f9 = some ⟨x9, o9, .func (PySem.W.fnOf "_law_take" "_law_take" (defArgs s_law_take) (defBody s_law_take) (defScope s_law_take) .none v9 d9 p9 n9 e9 y9), s9⟩) (c9 : PySem.W.codeIn K e9 "_law_take" = true) (k9 : PySem.W.keepIn K (.ref f9) = true)
    {f10 : Addr} {o10 n10 : Option Addr} {s10 : Array (Option Value)} {x10 v10 d10 p10 e10 y10 : Value} (a10 : PySem.W.nsIn K mainGlobals "_law_same" = some (some (.ref f10)))
    (l10 : K.lookup f10 = some ⟨x10, o10, .func (PySem.W.fnOf "_law_same" "_law_same" (defArgs s_law_same) (defBody s_law_same) (defScope s_law_same) .none v10 d10 p10 n10 e10 y10), s10⟩) (c10 : PySem.W.codeIn K e10 "_law_same" = true) (k10 : PySem.W.keepIn K (.ref f10) = true)
    {f11 : Addr} {o11 n11 : Option Addr} {s11 : Array (Option Value)} {x11 v11 d11 p11 e11 y11 : Value} (a11 : PySem.W.nsIn K mainGlobals "_law_size" = some (some (.ref f11)))
    (l11 : K.lookup f11 = some ⟨x11, o11, .func (PySem.W.fnOf "_law_size" "_law_size" (defArgs s_law_size) (defBody s_law_size) (defScope s_law_size) .none v11 d11 p11 n11 e11 y11), s11⟩) (c11 : PySem.W.codeIn K e11 "_law_size" = true) (k11 : PySem.W.keepIn K (.ref f11) = true)
    {f12 : Addr} {o12 n12 : Option Addr} {s12 : Array (Option Value)} {x12 v12 d12 p12 e12 y12 : Value} (a12 : PySem.W.nsIn K mainGlobals "_law_groups" = some (some (.ref f12)))
    (l12 : K.lookup f12 = some ⟨x12, o12, .func (PySem.W.fnOf "_law_groups" "_law_groups" (defArgs s_law_groups) (defBody s_law_groups) (defScope s_law_groups) .none v12 d12 p12 n12 e12 y12), s12⟩) (c12 : PySem.W.codeIn K e12 "_law_groups" = true) (k12 : PySem.W.keepIn K (.ref f12) = true)
    {f13 : Addr} {o13 n13 : Option Addr} {s13 : Array (Option Value)} {x13 v13 d13 p13 e13 y13 : Value} (a13 : PySem.W.nsIn K mainGlobals "_law_counts" = some (some (.ref f13)))
    (l13 : K.lookup f13 = some ⟨x13, o13, .func (PySem.W.fnOf "_law_counts" "_law_counts" (defArgs s_law_counts) (defBody s_law_counts) (defScope s_law_counts) .none v13 d13 p13 n13 e13 y13), s13⟩) (c13 : PySem.W.codeIn K e13 "_law_counts" = true) (k13 : PySem.W.keepIn K (.ref f13) = true)
    {f14 : Addr} {o14 n14 : Option Addr} {s14 : Array (Option Value)} {x14 v14 d14 p14 e14 y14 : Value} (a14 : PySem.W.nsIn K mainGlobals "_law_sets" = some (some (.ref f14)))
    (l14 : K.lookup f14 = some ⟨x14, o14, .func (PySem.W.fnOf "_law_sets" "_law_sets" (defArgs s_law_sets) (defBody s_law_sets) (defScope s_law_sets) .none v14 d14 p14 n14 e14 y14), s14⟩) (c14 : PySem.W.codeIn K e14 "_law_sets" = true) (k14 : PySem.W.keepIn K (.ref f14) = true)
    {f15 : Addr} {o15 n15 : Option Addr} {s15 : Array (Option Value)} {x15 v15 d15 p15 e15 y15 : Value} (a15 : PySem.W.nsIn K mainGlobals "_law_sent_right" = some (some (.ref f15)))
    (l15 : K.lookup f15 = some ⟨x15, o15, .func (PySem.W.fnOf "_law_sent_right" "_law_sent_right" (defArgs s_law_sent_right) (defBody s_law_sent_right) (defScope s_law_sent_right) .none v15 d15 p15 n15 e15 y15), s15⟩) (c15 : PySem.W.codeIn K e15 "_law_sent_right" = true) (k15 : PySem.W.keepIn K (.ref f15) = true)
    {f16 : Addr} {o16 n16 : Option Addr} {s16 : Array (Option Value)} {x16 v16 d16 p16 e16 y16 : Value} (a16 : PySem.W.nsIn K mainGlobals "_law_told_right" = some (some (.ref f16)))
    (l16 : K.lookup f16 = some ⟨x16, o16, .func (PySem.W.fnOf "_law_told_right" "_law_told_right" (defArgs s_law_told_right) (defBody s_law_told_right) (defScope s_law_told_right) .none v16 d16 p16 n16 e16 y16), s16⟩) (c16 : PySem.W.codeIn K e16 "_law_told_right" = true) (k16 : PySem.W.keepIn K (.ref f16) = true)
    {f17 : Addr} {o17 n17 : Option Addr} {s17 : Array (Option Value)} {x17 v17 d17 p17 e17 y17 : Value} (a17 : PySem.W.nsIn K mainGlobals "_law_more_right" = some (some (.ref f17)))
    (l17 : K.lookup f17 = some ⟨x17, o17, .func (PySem.W.fnOf "_law_more_right" "_law_more_right" (defArgs s_law_more_right) (defBody s_law_more_right) (defScope s_law_more_right) .none v17 d17 p17 n17 e17 y17), s17⟩) (c17 : PySem.W.codeIn K e17 "_law_more_right" = true) (k17 : PySem.W.keepIn K (.ref f17) = true)
    {f18 : Addr} {o18 n18 : Option Addr} {s18 : Array (Option Value)} {x18 v18 d18 p18 e18 y18 : Value} (a18 : PySem.W.nsIn K mainGlobals "law" = some (some (.ref f18)))
    (l18 : K.lookup f18 = some ⟨x18, o18, .func (PySem.W.fnOf "law" "law" (defArgs s_law) (defBody s_law) (defScope s_law) .none v18 d18 p18 n18 e18 y18), s18⟩) (c18 : PySem.W.codeIn K e18 "law" = true) (k18 : PySem.W.keepIn K (.ref f18) = true)
    (z0 : PySem.W.nsIn K mainGlobals "abs" = some none)
    (z1 : PySem.W.nsIn K mainGlobals "all" = some none)
    (z2 : PySem.W.nsIn K mainGlobals "bool" = some none)
    (z3 : PySem.W.nsIn K mainGlobals "dict" = some none)
    (z4 : PySem.W.nsIn K mainGlobals "int" = some none)
    (z5 : PySem.W.nsIn K mainGlobals "isinstance" = some none)
    (z6 : PySem.W.nsIn K mainGlobals "len" = some none)
    (z7 : PySem.W.nsIn K mainGlobals "list" = some none)
    (z8 : PySem.W.nsIn K mainGlobals "range" = some none)
    (z9 : PySem.W.nsIn K mainGlobals "set" = some none)
    (z10 : PySem.W.nsIn K mainGlobals "sorted" = some none)
    (z11 : PySem.W.nsIn K mainGlobals "str" = some none)
    (z12 : PySem.W.nsIn K mainGlobals "sum" = some none)
    (z13 : PySem.W.nsIn K mainGlobals "tuple" = some none)
    : ∃ fd : FuncData, (∀ (s : Shared) (v : Value), BindsTo s fd ⟨[v], []⟩ [("script", v)]) ∧ ∀ base : Heap, K.In base → base.Ns mainGlobals mg → FnOk l.prog w K mg base CX0 42 fa fd ["script"] (spP K (rOne (tScr tInt)) tBool m_law) := by
  have e := hfa.symm.trans (PySem.W.mg_of X G a18)
  cases e
  have T : Σ' T : Txt K mg, T.a_law = fa ∧ T.d_law = PySem.W.fnOf "law" "law" (defArgs s_law) (defBody s_law) (defScope s_law) .none v18 d18 p18 n18 e18 y18 := ⟨{
      a_often := f0, d_often := _, F_often := fun_mk (st := s_often) l0 c0 k0, m_often := PySem.W.mg_of X G a0, b_often := (fun_mk (st := s_often) l0 c0 k0).binds (ps := ["groups", "sent"]) (fun _ _ _ _ _ _ us hl => match us, hl with | [_, _], _ => rfl),
      a_heard_by := f1, d_heard_by := _, F_heard_by := fun_mk (st := s_heard_by) l1 c1 k1, m_heard_by := PySem.W.mg_of X G a1, b_heard_by := (fun_mk (st := s_heard_by) l1 c1 k1).binds (ps := ["groups", "sent"]) (fun _ _ _ _ _ _ us hl => match us, hl with | [_, _], _ => rfl),
      a_sets_by_size := f2, d_sets_by_size := _, F_sets_by_size := fun_mk (st := s_sets_by_size) l2 c2 k2, m_sets_by_size := PySem.W.mg_of X G a2, b_sets_by_size := (fun_mk (st := s_sets_by_size) l2 c2 k2).binds (ps := ["many"]) (fun _ _ _ _ _ _ us hl => match us, hl with | [_], _ => rfl),
      a_fewest_groups := f3, d_fewest_groups := _, F_fewest_groups := fun_mk (st := s_fewest_groups) l3 c3 k3, m_fewest_groups := PySem.W.mg_of X G a3, b_fewest_groups := (fun_mk (st := s_fewest_groups) l3 c3 k3).binds (ps := ["groups", "wanted"]) (fun _ _ _ _ _ _ us hl => match us, hl with | [_, _], _ => rfl),
      a_just_these := f4, d_just_these := _, F_just_these := fun_mk (st := s_just_these) l4 c4 k4, m_just_these := PySem.W.mg_of X G a4, b_just_these := (fun_mk (st := s_just_these) l4 c4 k4).binds (ps := ["groups", "wanted"]) (fun _ _ _ _ _ _ us hl => match us, hl with | [_, _], _ => rfl),
      a_each_once := f5, d_each_once := _, F_each_once := fun_mk (st := s_each_once) l5 c5 k5, m_each_once := PySem.W.mg_of X G a5, b_each_once := (fun_mk (st := s_each_once) l5 c5 k5).binds (ps := ["groups", "wanted"]) (fun _ _ _ _ _ _ us hl => match us, hl with | [_, _], _ => rfl),
      a_twice_by := f6, d_twice_by := _, F_twice_by := fun_mk (st := s_twice_by) l6 c6 k6, m_twice_by := PySem.W.mg_of X G a6, b_twice_by := (fun_mk (st := s_twice_by) l6 c6 k6).binds (ps := ["groups", "sent"]) (fun _ _ _ _ _ _ us hl => match us, hl with | [_, _], _ => rfl),
      a_needless_sent := f7, d_needless_sent := _, F_needless_sent := fun_mk (st := s_needless_sent) l7 c7 k7, m_needless_sent := PySem.W.mg_of X G a7, b_needless_sent := (fun_mk (st := s_needless_sent) l7 c7 k7).binds (ps := ["groups", "sent"]) (fun _ _ _ _ _ _ us hl => match us, hl with | [_, _], _ => rfl),
      a_law_draws := f8, d_law_draws := _, F_law_draws := fun_mk (st := s_law_draws) l8 c8 k8, m_law_draws := PySem.W.mg_of X G a8, b_law_draws := (fun_mk (st := s_law_draws) l8 c8 k8).binds (ps := ["script", "many"]) (fun _ _ _ _ _ _ us hl => match us, hl with | [_, _], _ => rfl),
      a_law_take := f9, d_law_take := _, F_law_take := fun_mk (st := s_law_take) l9 c9 k9, m_law_take := PySem.W.mg_of X G a9, b_law_take := (fun_mk (st := s_law_take) l9 c9 k9).binds (ps := ["draws", "many"]) (fun _ _ _ _ _ _ us hl => match us, hl with | [_, _], _ => rfl),
      a_law_same := f10, d_law_same := _, F_law_same := fun_mk (st := s_law_same) l10 c10 k10, m_law_same := PySem.W.mg_of X G a10, b_law_same := (fun_mk (st := s_law_same) l10 c10 k10).binds (ps := ["actual", "due"]) (fun _ _ _ _ _ _ us hl => match us, hl with | [_, _], _ => rfl),
      a_law_size := f11, d_law_size := _, F_law_size := fun_mk (st := s_law_size) l11 c11 k11, m_law_size := PySem.W.mg_of X G a11, b_law_size := (fun_mk (st := s_law_size) l11 c11 k11).binds (ps := ["draws", "script"]) (fun _ _ _ _ _ _ us hl => match us, hl with | [_, _], _ => rfl),
      a_law_groups := f12, d_law_groups := _, F_law_groups := fun_mk (st := s_law_groups) l12 c12 k12, m_law_groups := PySem.W.mg_of X G a12, b_law_groups := (fun_mk (st := s_law_groups) l12 c12 k12).binds (ps := ["draws", "many"]) (fun _ _ _ _ _ _ us hl => match us, hl with | [_, _], _ => rfl),
      a_law_counts := f13, d_law_counts := _, F_law_counts := fun_mk (st := s_law_counts) l13 c13 k13, m_law_counts := PySem.W.mg_of X G a13, b_law_counts := (fun_mk (st := s_law_counts) l13 c13 k13).binds (ps := ["groups", "sent"]) (fun _ _ _ _ _ _ us hl => match us, hl with | [_, _], _ => rfl),
      a_law_sets := f14, d_law_sets := _, F_law_sets := fun_mk (st := s_law_sets) l14 c14 k14, m_law_sets := PySem.W.mg_of X G a14, b_law_sets := (fun_mk (st := s_law_sets) l14 c14 k14).binds (ps := ["many"]) (fun _ _ _ _ _ _ us hl => match us, hl with | [_], _ => rfl),
      a_law_sent_right := f15, d_law_sent_right := _, F_law_sent_right := fun_mk (st := s_law_sent_right) l15 c15 k15, m_law_sent_right := PySem.W.mg_of X G a15, b_law_sent_right := (fun_mk (st := s_law_sent_right) l15 c15 k15).binds (ps := ["draws", "groups"]) (fun _ _ _ _ _ _ us hl => match us, hl with | [_, _], _ => rfl),
      a_law_told_right := f16, d_law_told_right := _, F_law_told_right := fun_mk (st := s_law_told_right) l16 c16 k16, m_law_told_right := PySem.W.mg_of X G a16, b_law_told_right := (fun_mk (st := s_law_told_right) l16 c16 k16).binds (ps := ["groups", "wanted"]) (fun _ _ _ _ _ _ us hl => match us, hl with | [_, _], _ => rfl),
      a_law_more_right := f17, d_law_more_right := _, F_law_more_right := fun_mk (st := s_law_more_right) l17 c17 k17, m_law_more_right := PySem.W.mg_of X G a17, b_law_more_right := (fun_mk (st := s_law_more_right) l17 c17 k17).binds (ps := ["draws", "script", "groups", "wanted"]) (fun _ _ _ _ _ _ us hl => match us, hl with | [_, _, _, _], _ => rfl),
      a_law := fa, d_law := _, F_law := fun_mk (st := s_law) l18 c18 k18, m_law := PySem.W.mg_of X G a18, b_law := (fun_mk (st := s_law) l18 c18 k18).binds (ps := ["script"]) (fun _ _ _ _ _ _ us hl => match us, hl with | [_], _ => rfl),
      n_abs := PySem.W.mg_none_of X G z0,
      n_all := PySem.W.mg_none_of X G z1,
      n_bool := PySem.W.mg_none_of X G z2,
      n_dict := PySem.W.mg_none_of X G z3,
      n_int := PySem.W.mg_none_of X G z4,
      n_isinstance := PySem.W.mg_none_of X G z5,
      n_len := PySem.W.mg_none_of X G z6,
      n_list := PySem.W.mg_none_of X G z7,
      n_range := PySem.W.mg_none_of X G z8,
      n_set := PySem.W.mg_none_of X G z9,
      n_sorted := PySem.W.mg_none_of X G z10,
      n_str := PySem.W.mg_none_of X G z11,
      n_sum := PySem.W.mg_none_of X G z12,
      n_tuple := PySem.W.mg_none_of X G z13 }, rfl, rfl⟩
  obtain ⟨T, h1, h2⟩ := T
  refine ⟨PySem.W.fnOf "law" "law" (defArgs s_law) (defBody s_law) (defScope s_law) .none v18 d18 p18 n18 e18 y18, fun s v => .of_eq rfl, fun base _ _ => ?_⟩
  rw [← h1, ← h2]
  exact ok_law T
theorem sp_true {K : PySem.W.Frag} {H : Hp} {a : Addr} {ns : List Int} (hl : ns.length ≤ 63) (hS : SqL K H a (ns.map V.int)) : spP K (rOne (tScr tInt)) tBool m_law [.ref a] H (fun v _ => v = .bl true) fun _ _ _ => False :=
  ⟨H, ns, true, Sub.refl H, ⟨.ref a, rfl, a, ns.map V.int, rfl, hS, P_ofInts ns, Nat.le_trans hl (by decide)⟩, law_true ns hl, fun _ _ _ _ r => r⟩
end Wk78
open PySem PySem.W PyProof.Rows
set_option maxHeartbeats 0 in
theorem PySem.Challenge.cw_sentintime_k78_whole_words_heard_once_holds : PySem.Challenge.rw_sentintime_k78_whole_words_heard_once.Holds := by
  w_on; o_law; k_head; (case hw => w_witness2)
  k_fill
  refine L2.walk_of (l := PySem.Challenge.rw_sentintime_k78_whole_words_heard_once) (n := 63) (k := 42) (x := "script") (CX := fun _ => L2.CX0) (sp := fun w => L3.spP _ (L3.rOne (L3.tScr L3.tInt)) L3.tBool Wk78.m_law) rfl (by decide) rfl ⟨rfl, by decide, by decide⟩ (fun w h Y => PySem.W.kIn_of Y) ?F (fun _ _ a ns hl _ hS => Wk78.sp_true hl hS) (fun _ _ _ _ _ h => h)
  case F =>
    intro w mg fa h KX G hmg
    refine' Wk78.all_mk KX G hmg ?a0 ?l0 ?c0 ?k0 ?a1 ?l1 ?c1 ?k1 ?a2 ?l2 ?c2 ?k2 ?a3 ?l3 ?c3 ?k3 ?a4 ?l4 ?c4 ?k4 ?a5 ?l5 ?c5 ?k5 ?a6 ?l6 ?c6 ?k6 ?a7 ?l7 ?c7 ?k7 ?a8 ?l8 ?c8 ?k8 ?a9 ?l9 ?c9 ?k9 ?a10 ?l10 ?c10 ?k10 ?a11 ?l11 ?c11 ?k11 ?a12 ?l12 ?c12 ?k12 ?a13 ?l13 ?c13 ?k13 ?a14 ?l14 ?c14 ?k14 ?a15 ?l15 ?c15 ?k15 ?a16 ?l16 ?c16 ?k16 ?a17 ?l17 ?c17 ?k17 ?a18 ?l18 ?c18 ?k18 ?z0 ?z1 ?z2 ?z3 ?z4 ?z5 ?z6 ?z7 ?z8 ?z9 ?z10 ?z11 ?z12 ?z13
    (case a0 => k_is)
    (case l0 => k_is)
    (case c0 => k_is)
    (case k0 => k_is)
    (case a1 => k_is)
    (case l1 => k_is)
    (case c1 => k_is)
    (case k1 => k_is)
    (case a2 => k_is)
    (case l2 => k_is)
    (case c2 => k_is)
    (case k2 => k_is)
    (case a3 => k_is)
    (case l3 => k_is)
    (case c3 => k_is)
    (case k3 => k_is)
    (case a4 => k_is)
    (case l4 => k_is)
    (case c4 => k_is)
    (case k4 => k_is)
    (case a5 => k_is)
    (case l5 => k_is)
    (case c5 => k_is)
    (case k5 => k_is)
    (case a6 => k_is)
    (case l6 => k_is)
    (case c6 => k_is)
    (case k6 => k_is)
    (case a7 => k_is)
    (case l7 => k_is)
    (case c7 => k_is)
    (case k7 => k_is)
    (case a8 => k_is)
    (case l8 => k_is)
    (case c8 => k_is)
    (case k8 => k_is)
    (case a9 => k_is)
    (case l9 => k_is)
    (case c9 => k_is)
    (case k9 => k_is)
    (case a10 => k_is)
    (case l10 => k_is)
    (case c10 => k_is)
    (case k10 => k_is)
    (case a11 => k_is)
    (case l11 => k_is)
    (case c11 => k_is)
    (case k11 => k_is)
    (case a12 => k_is)
    (case l12 => k_is)
    (case c12 => k_is)
    (case k12 => k_is)
    (case a13 => k_is)
    (case l13 => k_is)
    (case c13 => k_is)
    (case k13 => k_is)
    (case a14 => k_is)
    (case l14 => k_is)
    (case c14 => k_is)
    (case k14 => k_is)
    (case a15 => k_is)
    (case l15 => k_is)
    (case c15 => k_is)
    (case k15 => k_is)
    (case a16 => k_is)
    (case l16 => k_is)
    (case c16 => k_is)
    (case k16 => k_is)
    (case a17 => k_is)
    (case l17 => k_is)
    (case c17 => k_is)
    (case k17 => k_is)
    (case a18 => k_is)
    (case l18 => k_is)
    (case c18 => k_is)
    (case k18 => k_is)
    (case z0 => k_is)
    (case z1 => k_is)
    (case z2 => k_is)
    (case z3 => k_is)
    (case z4 => k_is)
    (case z5 => k_is)
    (case z6 => k_is)
    (case z7 => k_is)
    (case z8 => k_is)
    (case z9 => k_is)
    (case z10 => k_is)
    (case z11 => k_is)
    (case z12 => k_is)
    (case z13 => k_is)
