import PyProof.Rows.All
import Wide.All
import OpenK.AllK
import Wide.FinOn
import HandS.List
import HandS.Comp
import HandS.Exc
import HandS.Text
import HandS.Dict
import PyProof.Rows.StrPadFill
import HandS.ForMost
import HandS.ForExc
import HandS.Flow
import HandS.TupAny
import HandS.NoneIn
import HandS.IsInst
import HandS.RaiseMore
import HandS.Deep
import HandS.More
import HandS.Style
import HandS.Ends
import HandS.EndBits
import HandS.Defaults
import HandS.Head0
import HandS.Head1
import HandS.Head2
import HandS.HeadEnd
import HandS.HeadHook1
import HandS.HeadHook2
import HandS.Codes
import KE.KStateDown
import PySem.Challenge.RW_watchednodes_k02_parents_and_parts
set_option Elab.async false
set_option linter.all false
set_option maxRecDepth 100000
set_option maxHeartbeats 4000000
/-! A pure machine: values D, objects Ob, the pure heap Hs; how it lies in the hand layer's abstract heap. -/
namespace PM
open PySem L2

/-! ### values, objects, results -/
inductive D where
  | non | bl (b : Bool) | int (i : Int) | str (x : Str) | tup (xs : List D)
  /-- the n-th object of the pure heap -/
  | ref (n : Nat)
  /-- a list that nobody changes -/
  | kl (xs : List D)
  /-- what the top's name x holds, by reference -/
  | kn (x : Str)
  /-- a built-in class -/
  | ty (n : String)
  deriving Inhabited
mutual
def D.beq : D → D → Bool
  | .non, .non => true
  | .bl a, .bl b => a == b
  | .int a, .int b => a == b
  | .str a, .str b => decide (a = b)
  | .tup a, .tup b => D.beqs a b
  | .ref a, .ref b => a == b
  | .kl a, .kl b => D.beqs a b
  | .kn a, .kn b => decide (a = b)
  | .ty a, .ty b => decide (a = b)
  | _, _ => false
def D.beqs : List D → List D → Bool
  | [], [] => true
  | a :: as, b :: bs => D.beq a b && D.beqs as bs
  | _, _ => false
end
mutual
theorem D.beq_eq : ∀ (a b : D), D.beq a b = true → a = b
  | .non, b, h => by cases b <;> simp [D.beq] at h ⊢
  | .bl x, b, h => by cases b <;> simp [D.beq] at h ⊢; exact h
  | .int x, b, h => by cases b <;> simp [D.beq] at h ⊢; exact h
  | .str x, b, h => by cases b <;> simp [D.beq] at h ⊢; exact h
  | .tup x, b, h => by
    cases b with
    | tup y => simp only [D.beq] at h; rw [D.beqs_eq x y h]
    | _ => simp [D.beq] at h
  | .ref x, b, h => by cases b <;> simp [D.beq] at h ⊢; exact h
  | .kl x, b, h => by
    cases b with
    | kl y => simp only [D.beq] at h; rw [D.beqs_eq x y h]
    | _ => simp [D.beq] at h
  | .kn x, b, h => by cases b <;> simp [D.beq] at h ⊢; exact h
  | .ty x, b, h => by cases b <;> simp [D.beq] at h ⊢; exact h
theorem D.beqs_eq : ∀ (a b : List D), D.beqs a b = true → a = b
  | [], b, h => by cases b <;> simp [D.beqs] at h ⊢
  | x :: xs, b, h => by
    cases b with
    | nil => simp [D.beqs] at h
    | cons y ys =>
      simp only [D.beqs, Bool.and_eq_true] at h
      rw [D.beq_eq x y h.1, D.beqs_eq xs ys h.2]
end
mutual
theorem D.beq_refl : ∀ (a : D), D.beq a a = true
  | .non => rfl
  | .bl x => by simp [D.beq]
  | .int x => by simp [D.beq]
  | .str x => by simp [D.beq]
  | .tup x => by simp only [D.beq]; exact D.beqs_refl x
  | .ref x => by simp [D.beq]
  | .kl x => by simp only [D.beq]; exact D.beqs_refl x
  | .kn x => by simp [D.beq]
  | .ty x => by simp [D.beq]
theorem D.beqs_refl : ∀ (a : List D), D.beqs a a = true
  | [] => rfl
  | x :: xs => by simp only [D.beqs, D.beq_refl x, D.beqs_refl xs, Bool.and_self]
end
theorem D.beqs_iff {a b : List D} : D.beqs a b = true ↔ a = b := ⟨D.beqs_eq a b, fun e => e ▸ D.beqs_refl a⟩

inductive Ob where
  | lst (xs : List D)
  /-- a dict by ints and texts; lk: a loop walks it -/
  | dic (lk : Bool) (kvs : List (Key × D))
  /-- a dict by tuples of ints and texts -/
  | dit (lk : Bool) (kvs : List (List Key × D))
  | ins (c : Str) (fs : List (Str × D))
abbrev Hs := List Ob
/-- an exception in the air: its class's name at the top, its own attributes -/
structure Ex where
  cls : Str
  fs : List (Str × D)
inductive R (α : Type) where
  | ok (a : α) (h : Hs) | exc (e : Ex) (h : Hs) | stk
abbrev M (α : Type) := Hs → R α
def M.ret {α : Type} (a : α) : M α := fun h => .ok a h
def M.bind {α β : Type} (m : M α) (f : α → M β) : M β := fun h => match m h with
  | .ok a h' => f a h'
  | .exc e h' => .exc e h'
  | .stk => .stk
def M.stk {α : Type} : M α := fun _ => .stk
instance : Monad M where
  pure := M.ret
  bind := M.bind
/-- a value, or stuck -/
def M.opt {α : Type} (o : Option α) : M α := fun h => match o with
  | some a => .ok a h
  | none => .stk
theorem pure_def {α : Type} (a : α) (h : Hs) : (pure a : M α) h = .ok a h := rfl
theorem bind_def {α β : Type} (m : M α) (f : α → M β) (h : Hs) : (m >>= f) h = match m h with
  | .ok a h' => f a h'
  | .exc e h' => .exc e h'
  | .stk => .stk := rfl
abbrev Loc := List (Option D)

/-! ### how values and objects lie -/
def Imm : HO → Prop
  | .lst _ => True
  | .tup _ => True
  | _ => False
/-- a list that stands still -/
def FzL (K : PySem.W.Frag) (H : Hp) (a : Addr) (xs : List V) : Prop :=
  (∃ o, H a = some (.frz o (.lst xs))) ∨
    ∃ (o : Obj) (its : Array Value) (n : Nat), K.lookup a = some o ∧ o.cls = .type "list" ∧ o.dict = none ∧ o.data = .seq its n ∧ its.size ≤ sizeLine ∧ Vals xs its.toList
theorem FzL.seq {K : PySem.W.Frag} {H : Hp} {a : Addr} {xs : List V} (h : FzL K H a xs) : SqL K H a xs := by
  rcases h with ⟨o, h⟩ | h
  · exact .inl (.inr ⟨o, h⟩)
  · exact .inr h
section
variable (K : PySem.W.Frag) (mg : Str → Option Value)
mutual
def DV (φ : List Addr) (H : Hp) : D → V → Prop
  | .non, v => v = .non
  | .bl b, v => v = .bl b
  | .int i, v => v = .int i
  | .str x, v => v = .str x
  | .tup ds, v => ∃ a vs, v = .ref a ∧ SqT K H a vs ∧ DVs φ H ds vs
  | .ref n, v => ∃ a, φ[n]? = some a ∧ v = .ref a
  | .kl ds, v => ∃ a vs, v = .ref a ∧ FzL K H a vs ∧ DVs φ H ds vs
  | .kn x, v => ∃ a, mg x = some (.ref a) ∧ v = .ref a
  | .ty n, v => v = .ty n
def DVs (φ : List Addr) (H : Hp) : List D → List V → Prop
  | [], vs => vs = []
  | d :: ds, vs => ∃ v r, vs = v :: r ∧ DV φ H d v ∧ DVs φ H ds r
end
/-- pairs with like keys -/
def DKs {κ : Type} (φ : List Addr) (H : Hp) : List (κ × D) → List (κ × V) → Prop
  | [], vs => vs = []
  | (k, d) :: ds, vs => ∃ v r, vs = (k, v) :: r ∧ DV K mg φ H d v ∧ DKs φ H ds r
def OV (φ : List Addr) (H : Hp) (a : Addr) : Ob → Prop
  | .lst ds => ∃ vs, H a = some (.lst vs) ∧ DVs K mg φ H ds vs
  | .dic false kvs => ∃ vs, H a = some (.dK vs) ∧ DKs K mg φ H kvs vs
  | .dic true kvs => ∃ o vs, H a = some (.frz o (.dK vs)) ∧ DKs K mg φ H kvs vs
  | .dit false kvs => ∃ vs, H a = some (.dT vs) ∧ DKs K mg φ H kvs vs
  | .dit true kvs => ∃ o vs, H a = some (.frz o (.dT vs)) ∧ DKs K mg φ H kvs vs
  | .ins c fs => ∃ C dx vs, mg c = some (.ref C) ∧ H a = some (.ins C dx vs) ∧ DKs K mg φ H fs vs
structure HR (φ : List Addr) (h : Hs) (H : Hp) : Prop where
  len : φ.length = h.length
  nd : φ.Nodup
  ob : ∀ (n : Nat) a o, φ[n]? = some a → h[n]? = some o → OV K mg φ H a o
/-- the frame's slots -/
def SR (φ : List Addr) (H : Hp) : Loc → St → Prop
  | [], σ => σ = []
  | o :: l, σ => ∃ x r, σ = x :: r ∧ (match o with
    | none => True
    | some d => ∃ v, x = some v ∧ DV K mg φ H d v) ∧ SR φ H l r
/-- an exception object's own dict -/
def XV (φ : List Addr) (H : Hp) (e : Ex) (c : Value) (dd : Option Addr) : Prop :=
  mg e.cls = some c ∧ (e.fs = [] ∨ ∃ d vs, dd = some d ∧ H d = some (.xd vs) ∧ DKs K mg φ H e.fs vs)
end
/-- what values lean on -/
structure LeT (φ φ' : List Addr) (H H' : Hp) : Prop where
  pre : φ <+: φ'
  tup : ∀ a xs, H a = some (.tup xs) → H' a = some (.tup xs)
  frz : ∀ a o u, H a = some (.frz o u) → Imm u → H' a = some (.frz o u)
structure Le (φ φ' : List Addr) (H H' : Hp) : Prop extends LeT φ φ' H H' where
  fr : ∀ a o, H a = some o → a ∉ φ → H' a = some o
  nw : ∀ a, a ∈ φ' → a ∉ φ → H a = none
theorem Le.refl (φ : List Addr) (H : Hp) : Le φ φ H H := ⟨⟨List.prefix_refl _, fun _ _ h => h, fun _ _ _ h _ => h⟩, fun _ _ h _ => h, fun _ h n => absurd h n⟩
theorem Le.trans {φ φ1 φ2 : List Addr} {H H1 H2 : Hp} (a : Le φ φ1 H H1) (b : Le φ1 φ2 H1 H2) : Le φ φ2 H H2 where
  pre := List.IsPrefix.trans a.pre b.pre
  tup := fun c xs h => b.tup c xs (a.tup c xs h)
  frz := fun c o u h i => b.frz c o u (a.frz c o u h i) i
  fr := fun c o h n => b.fr c o (a.fr c o h n) fun z => by
    have := a.nw c z n
    rw [h] at this; cases this
  nw := fun c h n => by
    by_cases hc : c ∈ φ1
    · exact a.nw c hc n
    · have q := b.nw c h hc
      cases e : H c with
      | none => rfl
      | some o => rw [a.fr c o e n] at q; cases q
section
variable {K : PySem.W.Frag} {mg : Str → Option Value} {φ φ' : List Addr} {H H' : Hp} {h : Hs}
theorem LeT.get (le : LeT φ φ' H H') {n : Nat} {a : Addr} (e : φ[n]? = some a) : φ'[n]? = some a := by
  obtain ⟨r, rfl⟩ := le.pre
  obtain ⟨hl, _⟩ := List.getElem?_eq_some_iff.mp e
  rw [List.getElem?_append_left hl]; exact e
theorem LeT.sqT (le : LeT φ φ' H H') {a : Addr} {xs : List V} (s : SqT K H a xs) : SqT K H' a xs := by
  rcases s with (s | ⟨o, s⟩) | s
  · exact .inl (.inl (le.tup _ _ s))
  · exact .inl (.inr ⟨o, le.frz _ _ _ s trivial⟩)
  · exact .inr s
theorem LeT.fzL (le : LeT φ φ' H H') {a : Addr} {xs : List V} (s : FzL K H a xs) : FzL K H' a xs := by
  rcases s with ⟨o, s⟩ | s
  · exact .inl ⟨o, le.frz _ _ _ s trivial⟩
  · exact .inr s
mutual
theorem DV.monoT (le : LeT φ φ' H H') : ∀ (d : D) (v : V), DV K mg φ H d v → DV K mg φ' H' d v
  | .non, v, h => by simpa only [DV] using h
  | .bl b, v, h => by simpa only [DV] using h
  | .int i, v, h => by simpa only [DV] using h
  | .str x, v, h => by simpa only [DV] using h
  | .tup ds, v, h => by
    simp only [DV] at h ⊢
    obtain ⟨a, vs, e, s, r⟩ := h
    exact ⟨a, vs, e, le.sqT s, DVs.monoT le ds vs r⟩
  | .ref n, v, h => by
    simp only [DV] at h ⊢
    obtain ⟨a, e, r⟩ := h
    exact ⟨a, le.get e, r⟩
  | .kl ds, v, h => by
    simp only [DV] at h ⊢
    obtain ⟨a, vs, e, s, r⟩ := h
    exact ⟨a, vs, e, le.fzL s, DVs.monoT le ds vs r⟩
  | .kn x, v, h => by simpa only [DV] using h
  | .ty n, v, h => by simpa only [DV] using h
theorem DVs.monoT (le : LeT φ φ' H H') : ∀ (ds : List D) (vs : List V), DVs K mg φ H ds vs → DVs K mg φ' H' ds vs
  | [], vs, h => by simpa only [DVs] using h
  | d :: ds, vs, h => by
    simp only [DVs] at h ⊢
    obtain ⟨v, r, e, h1, h2⟩ := h
    exact ⟨v, r, e, DV.monoT le d v h1, DVs.monoT le ds r h2⟩
end
theorem DKs.monoT {κ : Type} (le : LeT φ φ' H H') : ∀ (ds : List (κ × D)) (vs : List (κ × V)), DKs K mg φ H ds vs → DKs K mg φ' H' ds vs
  | [], vs, h => by simpa only [DKs] using h
  | (k, d) :: ds, vs, h => by
    simp only [DKs] at h ⊢
    obtain ⟨v, r, e, h1, h2⟩ := h
    exact ⟨v, r, e, DV.monoT le d v h1, DKs.monoT le ds r h2⟩
theorem SR.monoT (le : LeT φ φ' H H') : ∀ (l : Loc) (σ : St), SR K mg φ H l σ → SR K mg φ' H' l σ
  | [], σ, h => by simpa only [SR] using h
  | o :: l, σ, h => by
    simp only [SR] at h ⊢
    obtain ⟨x, r, e, h1, h2⟩ := h
    refine ⟨x, r, e, ?_, SR.monoT le l r h2⟩
    cases o with
    | none => trivial
    | some d =>
      obtain ⟨v, ev, hv⟩ := h1
      exact ⟨v, ev, DV.monoT le d v hv⟩
theorem DV.mono (le : Le φ φ' H H') : ∀ (d : D) (v : V), DV K mg φ H d v → DV K mg φ' H' d v := DV.monoT le.toLeT
theorem DVs.mono (le : Le φ φ' H H') : ∀ (ds : List D) (vs : List V), DVs K mg φ H ds vs → DVs K mg φ' H' ds vs := DVs.monoT le.toLeT
theorem DKs.mono {κ : Type} (le : Le φ φ' H H') : ∀ (ds : List (κ × D)) (vs : List (κ × V)), DKs K mg φ H ds vs → DKs K mg φ' H' ds vs := DKs.monoT le.toLeT
theorem SR.mono (le : Le φ φ' H H') : ∀ (l : Loc) (σ : St), SR K mg φ H l σ → SR K mg φ' H' l σ := SR.monoT le.toLeT
theorem SR.get : ∀ {l : Loc} {σ : St} {i : Nat} {d : D}, SR K mg φ H l σ → l[i]? = some (some d) → ∃ v, σ[i]? = some (some v) ∧ DV K mg φ H d v
  | [], _, _, _, _, e => by simp at e
  | o :: l, σ, 0, d, h, e => by
    simp only [SR] at h
    obtain ⟨x, r, rfl, h1, h2⟩ := h
    simp at e; subst e
    obtain ⟨v, rfl, hv⟩ := h1
    exact ⟨v, rfl, hv⟩
  | o :: l, σ, i + 1, d, h, e => by
    simp only [SR] at h
    obtain ⟨x, r, rfl, h1, h2⟩ := h
    obtain ⟨v, e1, e2⟩ := SR.get (i := i) h2 (by simpa using e)
    exact ⟨v, by simpa using e1, e2⟩
theorem SR.set : ∀ {l : Loc} {σ : St} (i : Nat) {d : D} {v : V}, SR K mg φ H l σ → DV K mg φ H d v → SR K mg φ H (l.set i (some d)) (σ.set i (some v))
  | [], _, _, _, _, h, _ => by simp only [SR] at h; subst h; simp [SR]
  | o :: l, σ, 0, d, v, h, hv => by
    simp only [SR] at h
    obtain ⟨x, r, rfl, h1, h2⟩ := h
    simp only [List.set_cons_zero, SR]
    exact ⟨_, _, rfl, ⟨v, rfl, hv⟩, h2⟩
  | o :: l, σ, i + 1, d, v, h, hv => by
    simp only [SR] at h
    obtain ⟨x, r, rfl, h1, h2⟩ := h
    simp only [List.set_cons_succ, SR]
    exact ⟨_, _, rfl, h1, SR.set i h2 hv⟩
theorem SR.unset : ∀ {l : Loc} {σ : St} (i : Nat) (x : Option V), SR K mg φ H l σ → SR K mg φ H (l.set i none) (σ.set i x)
  | [], _, _, _, h => by simp only [SR] at h; subst h; simp [SR]
  | o :: l, σ, 0, x, h => by
    simp only [SR] at h
    obtain ⟨y, r, rfl, h1, h2⟩ := h
    simp only [List.set_cons_zero, SR]
    exact ⟨_, _, rfl, trivial, h2⟩
  | o :: l, σ, i + 1, x, h => by
    simp only [SR] at h
    obtain ⟨y, r, rfl, h1, h2⟩ := h
    simp only [List.set_cons_succ, SR]
    exact ⟨_, _, rfl, h1, SR.unset i x h2⟩
theorem DVs.length : ∀ {ds : List D} {vs : List V}, DVs K mg φ H ds vs → ds.length = vs.length
  | [], _, h => by simp only [DVs] at h; subst h; rfl
  | d :: ds, _, h => by
    simp only [DVs] at h
    obtain ⟨v, r, rfl, h1, h2⟩ := h
    simp [DVs.length h2]
theorem DVs.get : ∀ {ds : List D} {vs : List V} {i : Nat} {v : V}, DVs K mg φ H ds vs → vs[i]? = some v → ∃ d, ds[i]? = some d ∧ DV K mg φ H d v
  | [], _, _, _, h, e => by simp only [DVs] at h; subst h; simp at e
  | d :: ds, _, 0, v, h, e => by
    simp only [DVs] at h
    obtain ⟨w, r, rfl, h1, h2⟩ := h
    simp at e; subst e
    exact ⟨d, rfl, h1⟩
  | d :: ds, _, i + 1, v, h, e => by
    simp only [DVs] at h
    obtain ⟨w, r, rfl, h1, h2⟩ := h
    obtain ⟨d', e1, e2⟩ := DVs.get (i := i) h2 (by simpa using e)
    exact ⟨d', by simpa using e1, e2⟩
theorem DVs.get' : ∀ {ds : List D} {vs : List V} {i : Nat} {d : D}, DVs K mg φ H ds vs → ds[i]? = some d → ∃ v, vs[i]? = some v ∧ DV K mg φ H d v
  | [], _, _, _, h, e => by simp at e
  | d :: ds, _, 0, v, h, e => by
    simp only [DVs] at h
    obtain ⟨w, r, rfl, h1, h2⟩ := h
    simp at e; subst e
    exact ⟨w, rfl, h1⟩
  | d :: ds, _, i + 1, v, h, e => by
    simp only [DVs] at h
    obtain ⟨w, r, rfl, h1, h2⟩ := h
    obtain ⟨d', e1, e2⟩ := DVs.get' (i := i) h2 (by simpa using e)
    exact ⟨d', by simpa using e1, e2⟩
theorem DVs.append : ∀ {ds es : List D} {vs ws : List V}, DVs K mg φ H ds vs → DVs K mg φ H es ws → DVs K mg φ H (ds ++ es) (vs ++ ws)
  | [], _, _, _, h, h' => by simp only [DVs] at h; subst h; exact h'
  | d :: ds, es, _, ws, h, h' => by
    simp only [DVs] at h
    obtain ⟨w, r, rfl, h1, h2⟩ := h
    simp only [List.cons_append, DVs]
    exact ⟨w, r ++ ws, rfl, h1, DVs.append h2 h'⟩
theorem DVs.take : ∀ {ds : List D} {vs : List V} (n : Nat), DVs K mg φ H ds vs → DVs K mg φ H (ds.take n) (vs.take n)
  | _, _, 0, _ => by simp [DVs]
  | [], _, n + 1, h => by simp only [DVs] at h; subst h; simp [DVs]
  | d :: ds, _, n + 1, h => by
    simp only [DVs] at h
    obtain ⟨w, r, rfl, h1, h2⟩ := h
    simp only [List.take_succ_cons, DVs]
    exact ⟨w, _, rfl, h1, DVs.take n h2⟩
theorem DVs.drop : ∀ {ds : List D} {vs : List V} (n : Nat), DVs K mg φ H ds vs → DVs K mg φ H (ds.drop n) (vs.drop n)
  | _, _, 0, h => h
  | [], _, n + 1, h => by simp only [DVs] at h; subst h; simp [DVs]
  | d :: ds, _, n + 1, h => by
    simp only [DVs] at h
    obtain ⟨w, r, rfl, h1, h2⟩ := h
    simp only [List.drop_succ_cons]
    exact DVs.drop n h2
theorem DVs.set : ∀ {ds : List D} {vs : List V} (n : Nat) {d : D} {v : V}, DVs K mg φ H ds vs → DV K mg φ H d v → DVs K mg φ H (ds.set n d) (vs.set n v)
  | [], _, n, _, _, h, _ => by simp only [DVs] at h; subst h; simp [DVs]
  | d :: ds, _, 0, e, w, h, hv => by
    simp only [DVs] at h
    obtain ⟨v, r, rfl, h1, h2⟩ := h
    simp only [List.set_cons_zero, DVs]
    exact ⟨_, _, rfl, hv, h2⟩
  | d :: ds, _, n + 1, e, w, h, hv => by
    simp only [DVs] at h
    obtain ⟨v, r, rfl, h1, h2⟩ := h
    simp only [List.set_cons_succ, DVs]
    exact ⟨_, _, rfl, h1, DVs.set n h2 hv⟩
theorem DVs.eraseIdx : ∀ {ds : List D} {vs : List V} (n : Nat), DVs K mg φ H ds vs → DVs K mg φ H (ds.eraseIdx n) (vs.eraseIdx n)
  | [], _, n, h => by simp only [DVs] at h; subst h; simp [DVs]
  | d :: ds, _, 0, h => by
    simp only [DVs] at h
    obtain ⟨v, r, rfl, h1, h2⟩ := h
    simpa using h2
  | d :: ds, _, n + 1, h => by
    simp only [DVs] at h
    obtain ⟨v, r, rfl, h1, h2⟩ := h
    simp only [List.eraseIdx_cons_succ, DVs]
    exact ⟨_, _, rfl, h1, DVs.eraseIdx n h2⟩
theorem DVs.reverse {ds : List D} {vs : List V} (h : DVs K mg φ H ds vs) : DVs K mg φ H ds.reverse vs.reverse := by
  induction ds generalizing vs with
  | nil => simp only [DVs] at h; subst h; simp [DVs]
  | cons d ds ih =>
    simp only [DVs] at h
    obtain ⟨v, r, rfl, h1, h2⟩ := h
    rw [List.reverse_cons, List.reverse_cons]
    exact (ih h2).append (by simp only [DVs]; exact ⟨v, [], rfl, h1, rfl⟩)
theorem DVs.one {d : D} {v : V} (h : DV K mg φ H d v) : DVs K mg φ H [d] [v] := by
  simp only [DVs]; exact ⟨v, [], rfl, h, rfl⟩
theorem DVs.nil : DVs K mg φ H [] [] := by simp only [DVs]
theorem DVs.cons {d : D} {v : V} {ds : List D} {vs : List V} (h : DV K mg φ H d v) (h2 : DVs K mg φ H ds vs) : DVs K mg φ H (d :: ds) (v :: vs) := by
  simp only [DVs]; exact ⟨v, vs, rfl, h, h2⟩

/-! ### the heap -/
theorem HR.get (r : HR K mg φ h H) {n : Nat} {o : Ob} (e : h[n]? = some o) : ∃ a, φ[n]? = some a ∧ OV K mg φ H a o := by
  have hl : n < φ.length := by rw [r.len]; exact (List.getElem?_eq_some_iff.mp e).1
  exact ⟨φ[n], List.getElem?_eq_getElem hl, r.ob n _ o (List.getElem?_eq_getElem hl) e⟩
theorem OV.monoT (le : LeT φ φ' H H') {a : Addr} (e : H' a = H a) : ∀ {o : Ob}, OV K mg φ H a o → OV K mg φ' H' a o := by
  intro o x
  cases o with
  | lst ds =>
    obtain ⟨vs, h1, h2⟩ := x
    exact ⟨vs, e.trans h1, h2.monoT le⟩
  | dic lk kvs =>
    cases lk with
    | false =>
      obtain ⟨vs, h1, h2⟩ := x
      exact ⟨vs, e.trans h1, h2.monoT le⟩
    | true =>
      obtain ⟨o, vs, h1, h2⟩ := x
      exact ⟨o, vs, e.trans h1, h2.monoT le⟩
  | dit lk kvs =>
    cases lk with
    | false =>
      obtain ⟨vs, h1, h2⟩ := x
      exact ⟨vs, e.trans h1, h2.monoT le⟩
    | true =>
      obtain ⟨o, vs, h1, h2⟩ := x
      exact ⟨o, vs, e.trans h1, h2.monoT le⟩
  | ins c fs =>
    obtain ⟨C, dx, vs, h0, h1, h2⟩ := x
    exact ⟨C, dx, vs, h0, e.trans h1, h2.monoT le⟩
theorem OV.mono (le : Le φ φ' H H') {a : Addr} (e : H' a = H a) : ∀ {o : Ob}, OV K mg φ H a o → OV K mg φ' H' a o := OV.monoT le.toLeT e
/-- a tracked object that is of the pure heap -/
def Obj? : HO → Prop
  | .lst _ => True
  | .dK _ => True
  | .dT _ => True
  | .frz _ (.dK _) => True
  | .frz _ (.dT _) => True
  | .ins _ _ _ => True
  | _ => False
theorem OV.obj {a : Addr} : ∀ {o : Ob}, OV K mg φ H a o → ∃ u, H a = some u ∧ Obj? u := by
  intro o x
  cases o with
  | lst ds => obtain ⟨vs, h1, _⟩ := x; exact ⟨_, h1, trivial⟩
  | dic lk kvs =>
    cases lk with
    | false => obtain ⟨vs, h1, _⟩ := x; exact ⟨_, h1, trivial⟩
    | true => obtain ⟨o, vs, h1, _⟩ := x; exact ⟨_, h1, trivial⟩
  | dit lk kvs =>
    cases lk with
    | false => obtain ⟨vs, h1, _⟩ := x; exact ⟨_, h1, trivial⟩
    | true => obtain ⟨o, vs, h1, _⟩ := x; exact ⟨_, h1, trivial⟩
  | ins c fs => obtain ⟨C, dx, vs, _, h1, _⟩ := x; exact ⟨_, h1, trivial⟩
theorem HR.mem (r : HR K mg φ h H) {a : Addr} (m : a ∈ φ) : ∃ u, H a = some u ∧ Obj? u := by
  obtain ⟨n, hn, e⟩ := List.mem_iff_getElem.mp m
  have hl : n < h.length := by rw [← r.len]; exact hn
  exact (r.ob n a _ (by rw [List.getElem?_eq_getElem hn, e]) (List.getElem?_eq_getElem hl)).obj
theorem HR.notin (r : HR K mg φ h H) {a : Addr} (e : H a = none) : a ∉ φ := fun m => by
  obtain ⟨u, h1, _⟩ := r.mem m
  rw [e] at h1; cases h1
/-- a new object that is not of the pure heap -/
theorem Le.new {p : Addr} {o : HO} (hp : H p = none) : Le φ φ H (upd H p o) where
  toLeT := {
    pre := List.prefix_refl _
    tup := fun a xs e => by rw [upd_ne (ne_of_none e hp)]; exact e
    frz := fun a _ _ e _ => by rw [upd_ne (ne_of_none e hp)]; exact e }
  fr := fun a _ e _ => by rw [upd_ne (ne_of_none e hp)]; exact e
  nw := fun a h n => absurd h n
theorem HR.new {p : Addr} {o : HO} (r : HR K mg φ h H) (hp : H p = none) : HR K mg φ h (upd H p o) where
  len := r.len
  nd := r.nd
  ob := fun n a x e1 e2 => by
    have hv := r.ob n a x e1 e2
    obtain ⟨u, hu, _⟩ := hv.obj
    exact hv.mono (Le.new hp) (upd_ne (ne_of_none hu hp))
/-- a new object of the pure heap -/
theorem Le.push {p : Addr} {o : HO} (hp : H p = none) : Le φ (φ ++ [p]) H (upd H p o) where
  toLeT := {
    pre := List.prefix_append _ _
    tup := fun a xs e => by rw [upd_ne (ne_of_none e hp)]; exact e
    frz := fun a _ _ e _ => by rw [upd_ne (ne_of_none e hp)]; exact e }
  fr := fun a _ e _ => by rw [upd_ne (ne_of_none e hp)]; exact e
  nw := fun a h n => by
    rcases List.mem_append.mp h with z | z
    · exact absurd z n
    · have : a = p := by simpa using z
      rw [this]; exact hp
theorem HR.push {p : Addr} {o : HO} {ob : Ob} (r : HR K mg φ h H) (hp : H p = none) (hv : OV K mg (φ ++ [p]) (upd H p o) p ob) : HR K mg (φ ++ [p]) (h ++ [ob]) (upd H p o) where
  len := by simp [r.len]
  nd := by
    refine List.nodup_append.mpr ⟨r.nd, by simp, ?_⟩
    intro a ha b hb e
    have : b = p := by simpa using hb
    rw [e, this] at ha
    exact r.notin hp ha
  ob := fun n a x e1 e2 => by
    by_cases hn : n < φ.length
    · rw [List.getElem?_append_left hn] at e1
      rw [List.getElem?_append_left (by rw [← r.len]; exact hn)] at e2
      have hx := r.ob n a x e1 e2
      obtain ⟨u, hu, _⟩ := hx.obj
      exact hx.mono (Le.push hp) (upd_ne (ne_of_none hu hp))
    · have hn' : φ.length ≤ n := by omega
      rw [List.getElem?_append_right hn'] at e1
      rw [List.getElem?_append_right (by rw [← r.len]; exact hn')] at e2
      rw [r.len] at e1
      by_cases h0 : n - h.length = 0
      · rw [h0] at e1 e2
        simp at e1 e2
        subst e1; subst e2
        exact hv
      · rw [List.getElem?_eq_none (by simp; omega)] at e1; cases e1
/-- an object of the pure heap is changed -/
theorem Le.set {n : Nat} {a : Addr} {o u : HO} (ha : φ[n]? = some a) (hu : H a = some u) (hm : Mut (some u)) : Le φ φ H (upd H a o) where
  toLeT := {
    pre := List.prefix_refl _
    tup := fun b xs e => by
      rw [upd_ne]; exact e
      rintro rfl
      rw [hu] at e; cases e; exact hm
    frz := fun b _ _ e _ => by
      rw [upd_ne]; exact e
      rintro rfl
      rw [hu] at e; cases e; exact hm }
  fr := fun b _ e m => by
    rw [upd_ne]; exact e
    rintro rfl
    exact m (List.mem_of_getElem? ha)
  nw := fun a h n => absurd h n
theorem HR.set {n : Nat} {a : Addr} {o u : HO} {ob : Ob} (r : HR K mg φ h H) (ha : φ[n]? = some a) (hu : H a = some u) (hm : Mut (some u)) (hv : OV K mg φ (upd H a o) a ob) : HR K mg φ (h.set n ob) (upd H a o) where
  len := by simp [r.len]
  nd := r.nd
  ob := fun m b x e1 e2 => by
    by_cases hmn : m = n
    · subst hmn
      rw [ha] at e1; cases e1
      have hl : m < h.length := by rw [← r.len]; exact (List.getElem?_eq_some_iff.mp ha).1
      rw [List.getElem?_set_self hl] at e2; cases e2
      exact hv
    · rw [List.getElem?_set_ne (Ne.symm hmn)] at e2
      have hx := r.ob m b x e1 e2
      refine hx.mono (Le.set ha hu hm) (upd_ne ?_)
      rintro rfl
      exact hmn (by
        have h1 := List.getElem?_eq_some_iff.mp e1
        have h2 := List.getElem?_eq_some_iff.mp ha
        exact (List.getElem_inj r.nd).mp (h1.2.trans h2.2.symm))

/-- an object of another hand is changed -/
theorem LeT.off {p : Addr} {o u : HO} (hp : H p = some u) (hm : Mut (some u)) : LeT φ φ H (upd H p o) where
  pre := List.prefix_refl _
  tup := fun b xs e => by
    rw [upd_ne]; exact e
    rintro rfl
    rw [hp] at e; cases e; exact hm
  frz := fun b _ _ e _ => by
    rw [upd_ne]; exact e
    rintro rfl
    rw [hp] at e; cases e; exact hm
theorem HR.off {p : Addr} {o u : HO} (r : HR K mg φ h H) (hp : H p = some u) (hm : Mut (some u)) (n : p ∉ φ) : HR K mg φ h (upd H p o) where
  len := r.len
  nd := r.nd
  ob := fun m b x e1 e2 => (r.ob m b x e1 e2).monoT (LeT.off hp hm) (upd_ne fun z => n (z ▸ List.mem_of_getElem? e1))
/-- .. and taken up -/
theorem HR.adopt {p : Addr} {ob : Ob} (r : HR K mg φ h H) (n : p ∉ φ) (hv : OV K mg (φ ++ [p]) H p ob) : HR K mg (φ ++ [p]) (h ++ [ob]) H where
  len := by simp [r.len]
  nd := by
    refine List.nodup_append.mpr ⟨r.nd, by simp, ?_⟩
    intro a ha b hb e
    have : b = p := by simpa using hb
    rw [e, this] at ha
    exact n ha
  ob := fun m a x e1 e2 => by
    have le : LeT φ (φ ++ [p]) H H := ⟨List.prefix_append _ _, fun _ _ h => h, fun _ _ _ h _ => h⟩
    by_cases hn : m < φ.length
    · rw [List.getElem?_append_left hn] at e1
      rw [List.getElem?_append_left (by rw [← r.len]; exact hn)] at e2
      exact (r.ob m a x e1 e2).monoT le rfl
    · have hn' : φ.length ≤ m := by omega
      rw [List.getElem?_append_right hn'] at e1
      rw [List.getElem?_append_right (by rw [← r.len]; exact hn')] at e2
      rw [r.len] at e1
      by_cases h0 : m - h.length = 0
      · rw [h0] at e1 e2
        simp at e1 e2
        subst e1; subst e2
        exact hv
      · rw [List.getElem?_eq_none (by simp; omega)] at e1; cases e1
end
end PM
/-! The small language T and its meaning. -/
namespace PM
open PySem L2 PyProof.Rows

/-! ### operations by values -/
abbrev line : Nat := sizeLine
def fits (n : Nat) : Bool := decide (n ≤ 16777216)
def truD (d : D) (h : Hs) : Option Bool := match d with
  | .non => some false
  | .bl b => some b
  | .int i => some (i != 0)
  | .str x => if fits x.length then some (x.length != 0) else none
  | .tup ds => some (!ds.isEmpty)
  | .kl ds => some (!ds.isEmpty)
  | .ref n => match h[n]? with
    | some (.lst xs) => some (!xs.isEmpty)
    | some (.dic false kvs) => some (!kvs.isEmpty)
    | _ => none
  | _ => none
/-- data: what is seen of a value, its lists and tuples within -/
def resAll (f : D → Option PyData) : List D → Option (List PyData)
  | [] => some []
  | d :: ds => match f d with
    | some x => match resAll f ds with
      | some xs => some (x :: xs)
      | none => none
    | none => none
def res : Nat → Hs → D → Option PyData
  | _, _, .non => some .none
  | _, _, .bl b => some (.bool b)
  | _, _, .int i => some (.int i)
  | _, _, .str x => some (.str x)
  | n + 1, h, .tup ds => (resAll (res n h) ds).map .tuple
  | n + 1, h, .kl ds => (resAll (res n h) ds).map .list
  | n + 1, h, .ref k => match h[k]? with
    | some (.lst ds) => (resAll (res n h) ds).map .list
    | _ => none
  | _, _, _ => none
abbrev deep : Nat := 20
def eqD (a b : D) (h : Hs) : Option Bool := match res deep h a, res deep h b with
  | some x, some y => if SeqAt.shaped x && SeqAt.shaped y then some (PyData.eqv x y) else none
  | _, _ => none
def flatD : D → Bool
  | .non | .bl _ | .int _ | .str _ => true
  | _ => false
/-- == of flat values -/
def feq : D → D → Bool
  | .non, .non => true
  | .bl a, .bl b => a == b
  | .bl a, .int j => (if a then 1 else 0) == j
  | .int i, .bl b => i == (if b then 1 else 0)
  | .int i, .int j => i == j
  | .str x, .str y => x == y
  | _, _ => false
/-- the items of a list or tuple -/
def itemsOf (d : D) (h : Hs) : Option (List D) := match d with
  | .tup ds => some ds
  | .kl ds => some ds
  | .ref n => match h[n]? with
    | some (.lst xs) => some xs
    | _ => none
  | _ => none
/-- .. of a list -/
def lstOf (d : D) (h : Hs) : Option (List D) := match d with
  | .kl ds => some ds
  | .ref n => match h[n]? with
    | some (.lst xs) => some xs
    | _ => none
  | _ => none
def keyOf : D → Option Key
  | .int i => some (.inl i)
  | .str x => some (.inr x)
  | _ => none
def keysOf : List D → Option (List Key)
  | [] => some []
  | d :: ds => match keyOf d, keysOf ds with
    | some k, some ks => some (k :: ks)
    | _, _ => none
def tkeyOf : D → Option (List Key)
  | .tup ds => keysOf ds
  | _ => none
def assoc {κ : Type} [DecidableEq κ] : List (κ × D) → κ → Option D
  | [], _ => none
  | (k, v) :: r, x => if k = x then some v else assoc r x
/-- a dict's entry, as it stands -/
def dgetD (d k : D) (h : Hs) : Option (Option D) := match d with
  | .ref n => match h[n]? with
    | some (.dic _ kvs) => match keyOf k with
      | some k => some (assoc kvs k)
      | none => none
    | some (.dit _ kvs) => match tkeyOf k with
      | some k => some (assoc kvs k)
      | none => none
    | _ => none
  | _ => none
def inD (a b : D) (h : Hs) : Option Bool := match a, b with
  | .str x, .str y => some (!(Builtin.Str.occurrences y x 0 y.length 1).isEmpty)
  | a, b => match itemsOf b h with
    | some xs => if flatD a && xs.all flatD then some (xs.any fun y => feq y a) else none
    | none => match dgetD b a h with
      | some o => some o.isSome
      | none => none
def lexB : List Int → List Int → Bool := HT.lexLt
def intsOf : List D → Option (List Int)
  | [] => some []
  | .int i :: r => match intsOf r with
    | some l => some (i :: l)
    | none => none
  | _ => none
def opt2 {α : Type} (o : Option α) (f : α → D) : M D := fun h => match o with
  | some x => .ok (f x) h
  | none => .stk
def binD (op : Operator) (a b : D) : M D := fun h => match op, a, b with
  | .Add, .int i, .int j => .ok (.int (i + j)) h
  | .Add, .str x, .str y => if fits (x.length + y.length) then .ok (.str (x ++ y)) h else .stk
  | .Add, .tup xs, .tup ys => if fits (xs.length + ys.length) then .ok (.tup (xs ++ ys)) h else .stk
  | .Add, .ref n, .ref m => match h[n]?, h[m]? with
    | some (.lst xs), some (.lst ys) => if fits (xs.length + ys.length) then .ok (.ref h.length) (h ++ [.lst (xs ++ ys)]) else .stk
    | _, _ => .stk
  | .Sub, .int i, .int j => .ok (.int (i - j)) h
  | .Mult, .int i, .int j => if decide (-18446744073709551616 < i) && decide (i < 18446744073709551616) || decide (-18446744073709551616 < j) && decide (j < 18446744073709551616) then .ok (.int (i * j)) h else .stk
  | .Mult, .ref n, .int k => match h[n]? with
    | some (.lst xs) => if decide (-9223372036854775808 ≤ k) && decide (k < 9223372036854775808) && fits (xs.length * k.toNat) then .ok (.ref h.length) (h ++ [.lst (List.replicate k.toNat xs).flatten]) else .stk
    | _ => .stk
  | .FloorDiv, .int i, .int j => if decide (0 < j) && decide (j < 1073741824) then .ok (.int (i / j)) h else .stk
  | .Mod, .int i, .int j => if 0 < j then .ok (.int (i % j)) h else .stk
  | .Pow, .int i, .int j => if decide (0 ≤ j) && decide (j ≤ 1000000) && decide (i.natAbs < 18446744073709551616) then .ok (.int (i ^ j.toNat)) h else .stk
  | _, _, _ => .stk
def augD (op : Operator) (a b : D) : M D := fun h => match op, a, b with
  | .Add, .int i, .int j => .ok (.int (i + j)) h
  | .Sub, .int i, .int j => .ok (.int (i - j)) h
  | _, _, _ => .stk
def cmpD (op : CmpOp) (a b : D) : M D := fun h => match op with
  | .Eq => opt2 (eqD a b h) .bl h
  | .NotEq => opt2 (eqD a b h) (fun c => .bl (!c)) h
  | .In => opt2 (inD a b h) .bl h
  | .NotIn => opt2 (inD a b h) (fun c => .bl (!c)) h
  | .Is => match b with
    | .non => match a with
      | .non => .ok (.bl true) h
      | _ => .ok (.bl false) h
    | _ => .stk
  | .IsNot => match b with
    | .non => match a with
      | .non => .ok (.bl false) h
      | _ => .ok (.bl true) h
    | _ => .stk
  | .Lt => match a, b with
    | .int i, .int j => .ok (.bl (decide (i < j))) h
    | .str x, .str y => .ok (.bl (decide (x.cps.toList < y.cps.toList))) h
    | .tup x, .tup y => match intsOf x, intsOf y with
      | some u, some v => .ok (.bl (lexB u v)) h
      | _, _ => .stk
    | _, _ => .stk
  | .LtE => match a, b with
    | .int i, .int j => .ok (.bl (decide (i ≤ j))) h
    | .str x, .str y => .ok (.bl (decide (x.cps.toList ≤ y.cps.toList))) h
    | _, _ => .stk
  | .Gt => match a, b with
    | .int i, .int j => .ok (.bl (decide (j < i))) h
    | .str x, .str y => .ok (.bl (decide (y.cps.toList < x.cps.toList))) h
    | _, _ => .stk
  | .GtE => match a, b with
    | .int i, .int j => .ok (.bl (decide (j ≤ i))) h
    | .str x, .str y => .ok (.bl (decide (y.cps.toList ≤ x.cps.toList))) h
    | _, _ => .stk
def negD (a : D) : M D := fun h => match a with
  | .int i => .ok (.int (-i)) h
  | _ => .stk
def signs (x : Str) : List D := x.cps.toList.map fun c => .str ⟨#[c]⟩
/-- a[i] -/
def subD (a i : D) : M D := fun h => match i with
  | .int k => match a with
    | .str x => if fits x.length then opt2 (atI x.cps.toList k) (fun c => .str ⟨#[c]⟩) h else .stk
    | a => match itemsOf a h with
      | some xs => opt2 (atI xs k) id h
      | none => match dgetD a i h with
        | some (some v) => .ok v h
        | _ => .stk
  | i => match dgetD a i h with
    | some (some v) => .ok v h
    | _ => .stk
def cutD (xs : List D) (lo hi : Option Int) : List D := (xs.drop (HT.sIx xs.length 0 lo)).take (HT.sIx xs.length xs.length hi - HT.sIx xs.length 0 lo)
def cutStr (x : Str) (lo hi : Option Int) : Str := cutS x lo hi
def slcD (a : D) (lo hi : Option Int) : M D := fun h => match a with
  | .str x => if fits x.length then .ok (.str (cutStr x lo hi)) h else .stk
  | .tup xs => .ok (.tup (cutD xs lo hi)) h
  | a => match itemsOf a h with
    | some xs => .ok (.ref h.length) (h ++ [.lst (cutD xs lo hi)])
    | none => .stk
def lenD (d : D) (h : Hs) : Option Nat := match d with
  | .str x => if fits x.length then some x.length else none
  | .ref n => match h[n]? with
    | some (.dic false kvs) => some kvs.length
    | some (.lst xs) => some xs.length
    | _ => none
  | d => (itemsOf d h).map (·.length)

/-- built-ins -/
inductive Bl where
  | len | abs | min | max | int | str | repr | sum | all | any | list | tuple | sorted | bool
  deriving DecidableEq
def Bl.nm : Bl → Str
  | .len => "len" | .abs => "abs" | .min => "min" | .max => "max" | .int => "int" | .str => "str" | .repr => "repr" | .sum => "sum" | .all => "all" | .any => "any"
  | .list => "list" | .tuple => "tuple" | .sorted => "sorted" | .bool => "bool"
def blsOf : List D → Option (List Bool)
  | [] => some []
  | .bl b :: r => match blsOf r with
    | some l => some (b :: l)
    | none => none
  | _ => none
def strsOf : List D → Option (List Str)
  | [] => some []
  | .str x :: r => match strsOf r with
    | some l => some (x :: l)
    | none => none
  | _ => none
def insS (x : Str) : List Str → List Str
  | [] => [x]
  | y :: r => if decide (x.cps.toList ≤ y.cps.toList) then x :: y :: r else y :: insS x r
def sortS : List Str → List Str
  | [] => []
  | x :: r => insS x (sortS r)
def insI (x : Int) : List Int → List Int
  | [] => [x]
  | y :: r => if x ≤ y then x :: y :: r else y :: insI x r
def sortI : List Int → List Int
  | [] => []
  | x :: r => insI x (sortI r)
def blD (b : Bl) (as : List D) : M D := fun h => match b, as with
  | .len, [d] => opt2 (lenD d h) (fun n => .int n) h
  | .abs, [.int i] => .ok (.int (if i < 0 then -i else i)) h
  | .max, [.int i, .int j] => .ok (.int (if j > i then j else i)) h
  | .min, [.int i, .int j] => .ok (.int (if j < i then j else i)) h
  | .int, [.int i] => .ok (.int i) h
  | .int, [.bl k] => .ok (.int (if k then 1 else 0)) h
  | .int, [.str x] => if decide (x.length ≤ 640) then opt2 (intText? x) .int h else .stk
  | .bool, [.int i] => .ok (.bl (i != 0)) h
  | .bool, [.bl k] => .ok (.bl k) h
  | .str, [.int i] => if decide (i.natAbs.log2 < 1920) then .ok (.str (toString i)) h else .stk
  | .repr, [d] => match res deep h d with
    | some x => if x.showable && !x.hasDict && decide (x.depth ≤ 40) && fits x.shown.length then .ok (.str x.shown) h else .stk
    | none => .stk
  | .sum, [d] => match lstOf d h with
    | some xs => opt2 (intsOf xs) (fun l => .int l.sum) h
    | none => .stk
  | .all, [d] => match lstOf d h with
    | some xs => opt2 (blsOf xs) (fun l => .bl (l.all id)) h
    | none => .stk
  | .any, [d] => match lstOf d h with
    | some xs => opt2 (blsOf xs) (fun l => .bl (l.any id)) h
    | none => .stk
  | .list, [d] => match itemsOf d h with
    | some xs => .ok (.ref h.length) (h ++ [.lst xs])
    | none => .stk
  | .tuple, [.tup xs] => .ok (.tup xs) h
  | .tuple, [d] => match itemsOf d h with
    | some xs => .ok (.tup xs) h
    | none => .stk
  | .sorted, [d] => match lstOf d h with
    | some xs => if decide (xs.length < 64) then (match strsOf xs with
      | some l => .ok (.ref h.length) (h ++ [.lst ((sortS l).map .str)])
      | none => match intsOf xs with
        | some l => .ok (.ref h.length) (h ++ [.lst ((sortI l).map .int)])
        | none => .stk) else .stk
    | none => .stk
  | _, _ => .stk
/-- built-in classes that isinstance asks of -/
inductive ITy where
  | int | bool | str | tuple | list | dict
  deriving DecidableEq
def ITy.nm : ITy → Str
  | .int => "int" | .bool => "bool" | .str => "str" | .tuple => "tuple" | .list => "list" | .dict => "dict"
def ITy.ty : ITy → String
  | .int => "int" | .bool => "bool" | .str => "str" | .tuple => "tuple" | .list => "list" | .dict => "dict"
def isiD (ty : ITy) (d : D) (h : Hs) : Option Bool := match d with
  | .non => some false
  | .bl _ => some (match ty with | .bool => true | .int => true | _ => false)
  | .int _ => some (match ty with | .int => true | _ => false)
  | .str _ => some (match ty with | .str => true | _ => false)
  | .tup _ => some (match ty with | .tuple => true | _ => false)
  | .kl _ => some (match ty with | .list => true | _ => false)
  | .ref n => match h[n]? with
    | some (.lst _) => some (match ty with | .list => true | _ => false)
    | some (.dic _ _) => some (match ty with | .dict => true | _ => false)
    | some (.dit false _) => some (match ty with | .dict => true | _ => false)
    | _ => none
  | _ => none

/-! ### methods of built-in types -/
inductive Mt where
  | partition | split | join | startswith | endswith | scount | rjust
  | append | extend | pop | popAt | insert | index | clear
  deriving DecidableEq
def Mt.nm : Mt → Str
  | .partition => "partition" | .split => "split" | .join => "join" | .startswith => "startswith" | .endswith => "endswith" | .scount => "count" | .rjust => "rjust"
  | .append => "append" | .extend => "extend" | .pop => "pop" | .popAt => "pop" | .insert => "insert" | .index => "index" | .clear => "clear"
def Mt.onStr : Mt → Bool
  | .partition | .split | .join | .startswith | .endswith | .scount | .rjust => true
  | _ => false
/-- how many arguments -/
def Mt.ar : Mt → Nat
  | .pop | .clear => 0
  | .rjust | .insert => 2
  | _ => 1
/-- the receiver is of the method's type -/
def Mt.okTy (m : Mt) (d : D) (h : Hs) : Bool := match d with
  | .str _ => m.onStr
  | d => !m.onStr && (lstOf d h).isSome
def firstEq (x : PyData) : List PyData → Option Nat
  | [] => none
  | z :: zs => if PyData.eqv z x then some 0 else (firstEq x zs).map (· + 1)
def mtD (m : Mt) (d : D) (as : List D) : M D := fun h => match m with
  | .partition => match d, as with
    | .str a, [.str b] => if !(b.length == 0) && fits a.length then .ok (.tup [.str (Txt.partition a b).1, .str (Txt.partition a b).2.1, .str (Txt.partition a b).2.2]) h else .stk
    | _, _ => .stk
  | .split => match d, as with
    | .str a, [.str b] => if !(b.length == 0) && fits (a.length + 2) then .ok (.ref h.length) (h ++ [.lst ((Txt.split a b).map .str)]) else .stk
    | _, _ => .stk
  | .join => match d, as with
    | .str a, [d] => match itemsOf d h with
      | some xs => match strsOf xs with
        | some ys => if fits ((ys.map (·.length)).sum + ys.length * a.length) then .ok (.str (Txt.join a ys)) h else .stk
        | none => .stk
      | none => .stk
    | _, _ => .stk
  | .startswith => match d, as with
    | .str a, [.str b] => .ok (.bl (Txt.startswith a b)) h
    | _, _ => .stk
  | .endswith => match d, as with
    | .str a, [.str b] => .ok (.bl (Txt.endswith a b)) h
    | _, _ => .stk
  | .scount => match d, as with
    | .str a, [.str b] => .ok (.int (Txt.count a b)) h
    | _, _ => .stk
  | .rjust => match d, as with
    | .str a, [.int i, .str f] => if PadOk i && f.length == 1 then .ok (.str (Txt.rjustF a i (f.cps.getD 0 0))) h else .stk
    | _, _ => .stk
  | .append => match d, as with
    | .ref n, [x] => match h[n]? with
      | some (.lst xs) => if fits (xs.length + 1) then .ok .non (h.set n (.lst (xs ++ [x]))) else .stk
      | _ => .stk
    | _, _ => .stk
  | .extend => match d, as with
    | .ref n, [.ref m] => match h[n]?, h[m]? with
      | some (.lst xs), some (.lst ys) => if fits (xs.length + ys.length) then .ok .non (h.set n (.lst (xs ++ ys))) else .stk
      | _, _ => .stk
    | _, _ => .stk
  | .pop => match d, as with
    | .ref n, [] => match h[n]? with
      | some (.lst xs) => match xs[xs.length - 1]? with
        | some y => .ok y (h.set n (.lst xs.dropLast))
        | none => .stk
      | _ => .stk
    | _, _ => .stk
  | .popAt => match d, as with
    | .ref n, [.int i] => match h[n]? with
      | some (.lst xs) => if decide (-(2 ^ 63) ≤ i) && decide (i < 2 ^ 63) then match seqIndex? i xs.length with
        | some k => match xs[k]? with
          | some y => .ok y (h.set n (.lst (xs.eraseIdx k)))
          | none => .stk
        | none => .stk
        else .stk
      | _ => .stk
    | _, _ => .stk
  | .insert => match d, as with
    | .ref n, [.int i, y] => match h[n]? with
      | some (.lst xs) => if decide (0 ≤ i) && decide (i < 2 ^ 63) && fits (xs.length + 1) then .ok .non (h.set n (.lst (xs.take i.toNat ++ [y] ++ xs.drop i.toNat))) else .stk
      | _ => .stk
    | _, _ => .stk
  | .index => match d, as with
    | d, [y] => match res deep h d, res deep h y with
      | some (.list ds), some x => if SeqAt.shaped (.list ds) && SeqAt.shaped x then match firstEq x ds with
        | some j => .ok (.int j) h
        | none => .stk
        else .stk
      | _, _ => .stk
    | _, _ => .stk
  | .clear => match d, as with
    | .ref n, [] => match h[n]? with
      | some (.lst xs) => .ok .non (h.set n (.lst []))
      | _ => .stk
    | _, _ => .stk

def asBl (d : D) : M Bool := match d with
  | .bl k => M.ret k
  | _ => M.stk

/-! ### the language -/
mutual
inductive YE where
  | var (i : Nat)
  | cst (d : D)
  | glo (x : Str) (d : D)
  | tup (es : YEs)
  | lst (es : YEs)
  | bin (op : Operator) (a b : YE)
  | neg (a : YE)
  | cmp (op : CmpOp) (a b : YE)
  | chn (o1 o2 : CmpOp) (a b c : YE)
  | not (a : YE)
  | and (es : YEs)
  | or (es : YEs)
  | ife (t : YT) (a b : YE)
  | sub (a i : YE)
  | slc (a : YE) (lo hi : YO)
  | cal (f sh : Nat) (es ks : YEs)
  | bcl (b : Bl) (es : YEs)
  | mth (m : Mt) (o : YE) (es : YEs)
  | isi (ty : ITy) (a : YE)
  | lcm (elt : YE) (g : YG) (it : YI) (ifs : YTs) (own : List (Str × Nat))
inductive YEs where
  | nil | cons (e : YE) (es : YEs)
inductive YO where
  | none | some (e : YE)
inductive YT where
  | val (e : YE)
  | cmp (op : CmpOp) (a b : YE)
  | chn (o1 o2 : CmpOp) (a b c : YE)
  | not (t : YT)
  | and (ts : YTs)
  | or (ts : YTs)
inductive YTs where
  | nil | cons (t : YT) (ts : YTs)
inductive YG where
  | name (i : Nat)
  | tup (gs : YGs)
  /-- (a, b, *c): n names ahead -/
  | star (gs : YGs) (n i : Nat)
inductive YGs where
  | nil | cons (g : YG) (gs : YGs)
inductive YI where
  /-- a list, a tuple, a text -/
  | val (e : YE)
  | rng1 (e : YE)
  | rng2 (a b : YE)
end
mutual
inductive YS where
  | exp (e : YE)
  | set (g : YG) (e : YE)
  | par (i j : Nat) (a b : YE)
  | par3 (i j k : Nat) (a b c : YE)
  | sst (o i e : YE)
  | aug (i : Nat) (op : Operator) (e : YE)
  | ret (e : YE)
  | retn
  | ife (t : YT) (a b : YSs)
  | for_ (g : YG) (it : YI) (b : YSs)
  | brk | cnt | pass
  | never
inductive YSs where
  | nil | cons (s : YS) (ss : YSs)
end

/-- how a call binds: n by place, ks by name; the parameters' values are found among these and the defaults -/
inductive Src where
  | pos (i : Nat) | kw (i : Nat) | dfl (d : D)
structure Shape where
  n : Nat
  ks : List Str
  src : List Src
def Src.get (as ks : List D) : Src → Option D
  | .pos i => as[i]?
  | .kw i => ks[i]?
  | .dfl d => some d
def getAll {α β : Type} (f : α → Option β) : List α → Option (List β)
  | [] => some []
  | a :: r => match f a with
    | some b => match getAll f r with
      | some bs => some (b :: bs)
      | none => none
    | none => none
/-- a def of the top -/
structure FI where
  nm : Str
  lev : Nat
  shapes : List Shape
  m : List D → M D

inductive Fl where
  | nx | bk | ct | rt (d : D) | ex (e : Ex)
abbrev RS := Option (Fl × Loc × Hs)

def forL (step : D → Loc → Hs → RS) (chk : Hs → Bool) : List D → Loc → Hs → RS
  | [], l, h => if chk h then some (.nx, l, h) else none
  | x :: xs, l, h => if chk h then match step x l h with
    | some (.nx, l', h') => forL step chk xs l' h'
    | some (.ct, l', h') => forL step chk xs l' h'
    | some (.bk, l', h') => some (.nx, l', h')
    | some (.rt d, l', h') => some (.rt d, l', h')
    | some (.ex e, l', h') => some (.ex e, l', h')
    | none => none
    else none
def compL (step : D → Hs → R (Option D)) (chk : Hs → Bool) : List D → Hs → R (List D)
  | [], h => if chk h then .ok [] h else .stk
  | x :: xs, h => if chk h then match step x h with
    | .ok (some y) h1 => match compL step chk xs h1 with
      | .ok ys h2 => .ok (y :: ys) h2
      | _ => .stk
    | .ok none h1 => compL step chk xs h1
    | _ => .stk
    else .stk
def rangeD (lo : Int) : Nat → List D
  | 0 => []
  | n + 1 => .int lo :: rangeD (lo + 1) n
/-- what stands as long as a loop walks it -/
def chkOf (d : D) (xs : List D) (h : Hs) : Bool := match d with
  | .ref n => match h[n]? with
    | some (.lst ys) => D.beqs ys xs
    | _ => false
  | _ => true
def iterD (d : D) (h : Hs) : Option (List D) := match d with
  | .str x => some (signs x)
  | d => itemsOf d h
def wipeL (l : Loc) : List Nat → Loc
  | [] => l
  | v :: vs => (wipeL l vs).set v none
mutual
def asgG : YG → D → Loc → Hs → Option (Loc × Hs)
  | .name i, d, l, h => some (l.set i (some d), h)
  | .tup gs, d, l, h => match itemsOf d h with
    | some xs => asgGs gs xs l h
    | none => none
  | .star gs n i, d, l, h => match itemsOf d h with
    | some xs => if n ≤ xs.length then match asgGs gs (xs.take n) l (h ++ [.lst (xs.drop n)]) with
      | some (l', h') => some (l'.set i (some (.ref h.length)), h')
      | none => none
      else none
    | none => none
def asgGs : YGs → List D → Loc → Hs → Option (Loc × Hs)
  | .nil, [], l, h => some (l, h)
  | .cons g gs, x :: xs, l, h => match asgG g x l h with
    | some (l', h') => asgGs gs xs l' h'
    | none => none
  | _, _, _, _ => none
end
def okBound (i : Int) : Bool := decide (-4611686018427387904 ≤ i) && decide (i < 4611686018427387904)
def rng1D (d : D) : Option (List D) := match d with
  | .int j => if okBound j then some (rangeD 0 j.toNat) else none
  | _ => none
def rng2D (d e : D) : Option (List D) := match d, e with
  | .int i, .int j => if okBound i && okBound j then some (rangeD i (j - i).toNat) else none
  | _, _ => none

section
variable (F : List FI)
mutual
def denE : YE → Loc → M D
  | .var i, l => match l[i]? with
    | some (some d) => M.ret d
    | _ => M.stk
  | .cst d, _ => M.ret d
  | .glo _ d, _ => M.ret d
  | .tup es, l => M.bind (denEs es l) fun xs h => if fits xs.length then .ok (.tup xs) h else .stk
  | .lst es, l => M.bind (denEs es l) fun xs h => if fits xs.length then .ok (.ref h.length) (h ++ [.lst xs]) else .stk
  | .bin op a b, l => M.bind (denE a l) fun x => M.bind (denE b l) fun y => binD op x y
  | .neg a, l => M.bind (denE a l) negD
  | .cmp op a b, l => M.bind (denE a l) fun x => M.bind (denE b l) fun y => cmpD op x y
  | .chn o1 o2 a b c, l => M.bind (denE a l) fun x => M.bind (denE b l) fun y => M.bind (cmpD o1 x y) fun r => match r with
    | .bl true => M.bind (denE c l) fun z => cmpD o2 y z
    | .bl false => M.ret (.bl false)
    | _ => M.stk
  | .not a, l => M.bind (denE a l) fun x h => opt2 (truD x h) (fun c => .bl (!c)) h
  | .and es, l => denAnd es l
  | .or es, l => denOr es l
  | .ife t a b, l => M.bind (denT t l) fun c => if c then denE a l else denE b l
  | .sub a i, l => M.bind (denE a l) fun x => M.bind (denE i l) fun y => subD x y
  | .slc a lo hi, l => M.bind (denE a l) fun x => M.bind (denO lo l) fun u => M.bind (denO hi l) fun v => slcD x u v
  | .cal f sh es ks, l => M.bind (denEs es l) fun as => M.bind (denEs ks l) fun bs => match F[f]? with
    | some fi => match fi.shapes[sh]? with
      | some s => match getAll (Src.get as bs) s.src with
        | some vs => fi.m vs
        | none => M.stk
      | none => M.stk
    | none => M.stk
  | .bcl b es, l => M.bind (denEs es l) fun as => blD b as
  | .mth m o es, l => M.bind (denE o l) fun x h => if m.okTy x h then M.bind (denEs es l) (fun as => mtD m x as) h else .stk
  | .isi ty a, l => M.bind (denE a l) fun x h => opt2 (isiD ty x h) .bl h
  | .lcm elt g it ifs own, l => M.bind (denI it l) fun p h =>
      match compL (fun x h => match asgG g x (wipeL l (own.map (·.2))) h with
        | some (l', h) => match denTs true ifs l' h with
          | .ok true h1 => match denE elt l' h1 with
            | .ok y h2 => .ok (some y) h2
            | _ => .stk
          | .ok false h1 => .ok none h1
          | _ => .stk
        | none => .stk) p.2 p.1 h with
      | .ok ys h' => if fits ys.length then .ok (.ref h'.length) (h' ++ [.lst ys]) else .stk
      | _ => .stk
def denEs : YEs → Loc → M (List D)
  | .nil, _ => M.ret []
  | .cons e es, l => M.bind (denE e l) fun x => M.bind (denEs es l) fun xs => M.ret (x :: xs)
def denO : YO → Loc → M (Option Int)
  | .none, _ => M.ret none
  | .some e, l => M.bind (denE e l) fun x => match x with
    | .int i => M.ret (some i)
    | _ => M.stk
/-- x and y: values by truth -/
def denAnd : YEs → Loc → M D
  | .nil, _ => M.stk
  | .cons e .nil, l => denE e l
  | .cons e es, l => M.bind (denE e l) fun x h => match truD x h with
    | some true => denAnd es l h
    | some false => .ok x h
    | none => .stk
def denOr : YEs → Loc → M D
  | .nil, _ => M.stk
  | .cons e .nil, l => denE e l
  | .cons e es, l => M.bind (denE e l) fun x h => match truD x h with
    | some false => denOr es l h
    | some true => .ok x h
    | none => .stk
def denT : YT → Loc → M Bool
  | .val e, l => M.bind (denE e l) fun x h => match truD x h with
    | some c => .ok c h
    | none => .stk
  | .cmp op a b, l => M.bind (denE a l) fun x => M.bind (denE b l) fun y => M.bind (cmpD op x y) asBl
  | .chn o1 o2 a b c, l => M.bind (denE a l) fun x => M.bind (denE b l) fun y => M.bind (cmpD o1 x y) fun r => match r with
    | .bl true => M.bind (denE c l) fun z => M.bind (cmpD o2 y z) asBl
    | .bl false => M.ret false
    | _ => M.stk
  | .not t, l => M.bind (denT t l) fun c => M.ret (!c)
  | .and ts, l => denTs true ts l
  | .or ts, l => denTs false ts l
/-- all (u = true), or any -/
def denTs (u : Bool) : YTs → Loc → M Bool
  | .nil, _ => M.ret u
  | .cons t ts, l => M.bind (denT t l) fun c => if c == u then denTs u ts l else M.ret c
def denI : YI → Loc → M (List D × (Hs → Bool))
  | .val e, l => M.bind (denE e l) fun d h => match iterD d h with
    | some xs => .ok (xs, chkOf d xs) h
    | none => .stk
  | .rng1 e, l => M.bind (denE e l) fun x h => match rng1D x with
    | some xs => .ok (xs, fun _ => true) h
    | none => .stk
  | .rng2 a b, l => M.bind (denE a l) fun x => M.bind (denE b l) fun y h => match rng2D x y with
    | some xs => .ok (xs, fun _ => true) h
    | none => .stk
end
/-- an expression within a statement -/
def ofE {α : Type} (r : R α) (l : Loc) (k : α → Hs → RS) : RS := match r with
  | .ok a h => k a h
  | .exc e h => some (.ex e, l, h)
  | .stk => none
def setItemD (o i v : D) (h : Hs) : Option Hs := match o with
  | .ref n => match h[n]? with
    | some (.lst xs) => match i with
      | .int k => match ixN xs.length k with
        | some j => some (h.set n (.lst (xs.set j v)))
        | none => none
      | _ => none
    | _ => none
  | _ => none
mutual
def denS : YS → Loc → Hs → RS
  | .exp e, l, h => ofE (denE F e l h) l fun _ h' => some (.nx, l, h')
  | .set g e, l, h => ofE (denE F e l h) l fun d h' => match asgG g d l h' with
    | some (l', h2) => some (.nx, l', h2)
    | none => none
  | .par i j a b, l, h => ofE (denE F a l h) l fun x h1 => ofE (denE F b l h1) l fun y h2 => some (.nx, (l.set i (some x)).set j (some y), h2)
  | .par3 i j k a b c, l, h => ofE (denE F a l h) l fun x h1 => ofE (denE F b l h1) l fun y h2 => ofE (denE F c l h2) l fun z h3 => some (.nx, ((l.set i (some x)).set j (some y)).set k (some z), h3)
  | .sst o i e, l, h => ofE (denE F e l h) l fun v h1 => ofE (denE F o l h1) l fun x h2 => ofE (denE F i l h2) l fun y h3 => match setItemD x y v h3 with
    | some h' => some (.nx, l, h')
    | none => none
  | .aug i op e, l, h => match l[i]? with
    | some (some x) => ofE (denE F e l h) l fun y h1 => ofE (augD op x y h1) l fun z h2 => some (.nx, l.set i (some z), h2)
    | _ => none
  | .ret e, l, h => ofE (denE F e l h) l fun d h' => some (.rt d, l, h')
  | .retn, l, h => some (.rt .non, l, h)
  | .ife t a b, l, h => ofE (denT F t l h) l fun c h' => if c then denSs a l h' else denSs b l h'
  | .for_ g it b, l, h => ofE (denI F it l h) l fun p h' => forL (fun x l h => match asgG g x l h with
      | some (l', h2) => denSs b l' h2
      | none => none) p.2 p.1 l h'
  | .brk, l, h => some (.bk, l, h)
  | .cnt, l, h => some (.ct, l, h)
  | .pass, l, h => some (.nx, l, h)
  | .never, _, _ => none
def denSs : YSs → Loc → Hs → RS
  | .nil, l, h => some (.nx, l, h)
  | .cons s .nil, l, h => denS s l h
  | .cons s ss, l, h => match denS s l h with
    | some (.nx, l', h') => denSs ss l' h'
    | r => r
end
def startL (n : Nat) (as : List D) : Loc := as.map some ++ List.replicate (n - as.length) none
/-- a def: n slots, np parameters -/
def run (n np : Nat) (b : YSs) (as : List D) : M D := fun h => if as.length = np then match denSs F b (startL n as) h with
  | some (.nx, _, h') => .ok .non h'
  | some (.rt d, _, h') => .ok d h'
  | some (.ex e, _, h') => .exc e h'
  | _ => .stk
  else .stk
end
end PM
/-! What the meaning says of the hand layer's judgements. -/
namespace PM
open PySem PySem.Spec PyProof.Rows L2

/-! ### a def, called where no repr is under way -/
structure FnG (P : Program) (w : World) (K : PySem.W.Frag) (mg : Str → Option Value) (base : Heap) (k : Nat) (f : Addr) (fd : FuncData) (ps : List Str) (sp : Sp) : Prop where
  len : ∀ vs H Q E, sp vs H Q E → vs.length = ps.length
  run : ∀ (A : Around) (outer : List Env) (s : Shared) (H : Hp) (args : Args) (us : List Value) (vs : List V) (Q : VK) (E : XK), Room k A → A.guards = some [] → Env0 P w K mg base A outer s H → BindsTo s fd args (ps.zip us) → Vals vs us → sp vs H Q E →
    codeAny (model P w) A (.call (.ref f) args) (CR (CX P w) outer P w H s Q E) s
theorem fng_of {P : Program} {w : World} {K : PySem.W.Frag} {mg : Str → Option Value} {base : Heap} {k : Nat} {f : Addr} {name qual : Str} {params : Arguments} {body : List Stmt} {scope : Scope} {dV kV doc pm cdv ct oc : Value} {an od : Option Addr}
    {osl : Array (Option Value)} {N ps : List Str} {sp : Sp} (lk : K.lookup f = some ⟨oc, od, .func (PySem.W.fnOf name qual params body scope dV kV doc pm an cdv ct), osl⟩) (hcd : PySem.W.codeIn K cdv qual = true) (S : FnScope N ps scope)
    (len : ∀ vs H Q E, sp vs H Q E → vs.length = ps.length)
    (hbody : ∀ (A : Around) (outer : List Env) (s : Shared) (H : Hp) (vs : List V) (Q : VK) (E : XK), Room k (A.deeper (envOfC qual scope s.heap.objs.size f cdv)) → (A.deeper (envOfC qual scope s.heap.objs.size f cdv)).guards = some [] → sp vs H Q E →
      ∃ t, PSs (cxOf (CX P w) P w K mg base N qual scope f cdv A outer s H E) body t ∧ t { nx := fun _ H' => Q .non H', rt := Q } (start N vs) H) :
    FnG P w K mg base (k + 1) f (PySem.W.fnOf name qual params body scope dV kV doc pm an cdv ct) ps sp := by
  refine ⟨len, fun A outer s H args us vs Q E hr hg e0 hb r hsp => ?_⟩
  have hl := len _ _ _ _ hsp
  have KX : K.In s.heap := e0.mod.kin.keeps fun b o e => (e0.bs b o e).1
  have lim : s.heap.NoLimit := e0.mod.nolimit.keeps fun b o e => (e0.bs b o e).1
  have hkind : ∀ y ∈ ps.zip us, scope.names.lookup y.1 = some .local ∨ (scope.names.lookup y.1 = some .cell ∧ ((cellsFrom (s.heap.objs.size + 1) scope.names []).lookup y.1).isSome = true) := fun ⟨n, v⟩ hy => by
    rcases S.par n (List.of_mem_zip hy).1 with q | q
    · exact .inl q
    · exact .inr ⟨q, PySem.W.cellsFrom_some _ _ _ (.inl q)⟩
  refine codeAny_call_function hr.depth (KX _ _ lk) rfl S.co S.gen rfl (PySem.W.codeRec_of KX hcd) (hb _ _ _ _ ?_)
  refine wpAny_newFunctionEnv_cells S.kind hkind fun env he s1 x => ?_
  subst he
  refine ⟨lim.keeps x.toInCall.keep, codeAny_func ?_⟩
  have hg' : (A.deeper (envOfC qual scope s.heap.objs.size f cdv)).guards = some [] := hg
  obtain ⟨t, ht, hq⟩ := hbody A outer s H vs Q E (hr.deeper _) hg' hsp
  have I : Inv (cxOf (CX P w) P w K mg base N qual scope f cdv A outer s H E) [] (start N vs) H s1 := inv_start S hr.hd e0 hl r x
  refine wpAny_mono (ht.run [] s1 (start N vs) H _ I hq) (fun fl s' hs => ?_) fun e s' hs => hs
  have fin : ∀ {σ' : L2.St} {H' : Hp} {v : V} {u : Value}, Inv (cxOf (CX P w) P w K mg base N qual scope f cdv A outer s H E) [] σ' H' s' → RelV v u → Q v H' → CE outer P w H s Q u s' :=
    fun {σ' H' v u} J rv q => ⟨v, H', J.os, J.bare, J.base, J.hok, rv, q⟩
  cases fl with
  | ret u =>
    obtain ⟨v, σ', H', J, rv, q⟩ := hs
    exact fin J rv q
  | next =>
    obtain ⟨σ', H', J, q⟩ := hs
    exact fin (v := V.non) (u := Value.none) J rfl q
  | brk =>
    obtain ⟨_, _, _, q⟩ := hs
    exact False.elim q
  | cont =>
    obtain ⟨_, _, _, q⟩ := hs
    exact False.elim q

/-! ### what a result says -/
section
variable (X : Cx)
def Post {α β : Type} (W : Value → Option Addr → Hp → Prop) (φ : List Addr) (H : Hp) (RV : List Addr → Hp → α → β → Prop) (r : R α) (Q : β → Hp → Prop) : Prop := match r with
  | .ok a h' => ∀ φ' H' b, Le φ φ' H H' → HR X.K X.mg φ' h' H' → RV φ' H' a b → Q b H'
  | .exc e h' => ∀ φ' H' c dd, Le φ φ' H H' → HR X.K X.mg φ' h' H' → XV X.K X.mg φ' H' e c dd → W c dd H'
  | .stk => False
abbrev RD (φ : List Addr) (H : Hp) : D → V → Prop := DV X.K X.mg φ H
abbrev RDs (φ : List Addr) (H : Hp) : List D → List V → Prop := DVs X.K X.mg φ H
def RE {α : Type} (_ : List Addr) (_ : Hp) (a b : α) : Prop := a = b
/-- the reading of a meaning -/
def tM {α β : Type} (W : WX) (RV : List Addr → Hp → α → β → Prop) (m : Loc → M α) : L2.St → Hp → (β → Hp → Prop) → Prop := fun σ H Q =>
  ∃ φ l h, SR X.K X.mg φ H l σ ∧ HR X.K X.mg φ h H ∧ Post X (fun c d H' => W c d σ H') φ H RV (m l h) Q
end
section
variable {X : Cx} {α β γ δ : Type} {W : Value → Option Addr → Hp → Prop} {φ φ' : List Addr} {H H' : Hp}
theorem Post.le {RV : List Addr → Hp → α → β → Prop} {r : R α} {Q : β → Hp → Prop} (le : Le φ φ' H H') (p : Post X W φ H RV r Q) : Post X W φ' H' RV r Q := by
  cases r with
  | ok a h => exact fun φ2 H2 b l2 hr rv => p φ2 H2 b (le.trans l2) hr rv
  | exc e h => exact fun φ2 H2 c d l2 hr x => p φ2 H2 c d (le.trans l2) hr x
  | stk => exact p
theorem Post.bind {RV : List Addr → Hp → α → β → Prop} {RU : List Addr → Hp → γ → δ → Prop} {m : M α} {f : α → M γ} {h : Hs} {Q : δ → Hp → Prop} {T : β → Hp → Prop}
    (p : Post X W φ H RU (M.bind m f h) Q)
    (k : ∀ a h1 φ1 H1 b, m h = .ok a h1 → Le φ φ1 H H1 → HR X.K X.mg φ1 h1 H1 → RV φ1 H1 a b → Post X W φ1 H1 RU (f a h1) Q → T b H1) : Post X W φ H RV (m h) T := by
  unfold M.bind at p
  cases e : m h with
  | ok a h1 =>
    rw [e] at p
    exact fun φ1 H1 b le hr rv => k a h1 φ1 H1 b e le hr rv (p.le le)
  | exc x h1 =>
    rw [e] at p
    exact p
  | stk =>
    rw [e] at p
    exact p
theorem Post.ok {RV : List Addr → Hp → α → β → Prop} {a : α} {h : Hs} {Q : β → Hp → Prop} {b : β} (p : Post X W φ H RV (.ok a h) Q) (hr : HR X.K X.mg φ h H) (r : RV φ H a b) : Q b H := p φ H b (Le.refl _ _) hr r
/-- a new tuple -/
theorem Post.tup {ds : List D} {h : Hs} {Q : VK} {vs : List V} (p : Post X W φ H (RD X) (.ok (.tup ds) h) Q) (hr : HR X.K X.mg φ h H) (r : DVs X.K X.mg φ H ds vs) {a : Addr} (ha : H a = none) : Q (.ref a) (upd H a (.tup vs)) :=
  p φ _ _ (Le.new ha) (hr.new ha) (by
    show DV _ _ _ _ _ _
    simp only [DV]
    exact ⟨a, vs, rfl, SqT.of upd_same, r.mono (Le.new ha)⟩)
/-- a new list -/
theorem Post.lst {ds : List D} {h : Hs} {Q : VK} {vs : List V} (p : Post X W φ H (RD X) (.ok (.ref h.length) (h ++ [.lst ds])) Q) (hr : HR X.K X.mg φ h H) (r : DVs X.K X.mg φ H ds vs) {a : Addr} (ha : H a = none) : Q (.ref a) (upd H a (.lst vs)) :=
  p (φ ++ [a]) _ _ (Le.push ha) (hr.push ha ⟨vs, upd_same, r.mono (Le.push ha)⟩) (by
    show DV _ _ _ _ _ _
    simp only [DV]
    exact ⟨a, by rw [← hr.len]; simp, rfl⟩)
end

/-! ### items -/
section
variable {K : PySem.W.Frag} {mg : Str → Option Value} {φ : List Addr} {H : Hp} {h : Hs}
theorem fits_le {n : Nat} (e : fits n = true) : n ≤ sizeLine := by
  rw [sizeLine_eq]; exact of_decide_eq_true e
theorem lstOf_at (hr : HR K mg φ h H) {d : D} {v : V} {xs : List D} (r : DV K mg φ H d v) (e : lstOf d h = some xs) : ∃ a vs, v = .ref a ∧ SqL K H a vs ∧ DVs K mg φ H xs vs := by
  cases d with
  | kl ds =>
    simp only [lstOf, Option.some.injEq] at e
    subst e
    simp only [DV] at r
    obtain ⟨a, vs, rfl, s, q⟩ := r
    exact ⟨a, vs, rfl, s.seq, q⟩
  | ref n =>
    simp only [DV] at r
    obtain ⟨a, ha, rfl⟩ := r
    cases q : h[n]? with
    | none => simp only [lstOf, q] at e; cases e
    | some o =>
      cases o with
      | lst ys =>
        simp only [lstOf, q, Option.some.injEq] at e
        subst e
        obtain ⟨vs, h1, h2⟩ := hr.ob n a _ ha q
        exact ⟨a, vs, rfl, SqL.of h1, h2⟩
      | dic _ _ => simp only [lstOf, q] at e; cases e
      | dit _ _ => simp only [lstOf, q] at e; cases e
      | ins _ _ => simp only [lstOf, q] at e; cases e
  | _ => simp [lstOf] at e
theorem itemsOf_cases {d : D} {xs : List D} (e : itemsOf d h = some xs) : d = .tup xs ∨ lstOf d h = some xs := by
  cases d with
  | tup ds => simp only [itemsOf, Option.some.injEq] at e; exact .inl (by rw [e])
  | kl ds => exact .inr e
  | ref n => exact .inr e
  | _ => simp [itemsOf] at e
theorem tup_at {d : List D} {v : V} (r : DV K mg φ H (.tup d) v) : ∃ a vs, v = .ref a ∧ SqT K H a vs ∧ DVs K mg φ H d vs := by
  simpa only [DV] using r
theorem itemsOf_at (hr : HR K mg φ h H) {d : D} {v : V} {xs : List D} (r : DV K mg φ H d v) (e : itemsOf d h = some xs) : ∃ a vs, v = .ref a ∧ (SqL K H a vs ∨ SqT K H a vs) ∧ DVs K mg φ H xs vs := by
  rcases itemsOf_cases e with rfl | e
  · obtain ⟨a, vs, e1, e2, e3⟩ := tup_at r
    exact ⟨a, vs, e1, .inr e2, e3⟩
  · obtain ⟨a, vs, e1, e2, e3⟩ := lstOf_at hr r e
    exact ⟨a, vs, e1, .inl e2, e3⟩
theorem mut_at (hr : HR K mg φ h H) {n : Nat} {v : V} {xs : List D} (r : DV K mg φ H (.ref n) v) (e : h[n]? = some (.lst xs)) : ∃ a vs, φ[n]? = some a ∧ v = .ref a ∧ H a = some (.lst vs) ∧ DVs K mg φ H xs vs := by
  simp only [DV] at r
  obtain ⟨a, ha, rfl⟩ := r
  obtain ⟨vs, h1, h2⟩ := hr.ob n a _ ha e
  exact ⟨a, vs, ha, rfl, h1, h2⟩
theorem ints_at : ∀ {ds : List D} {ns : List Int} {vs : List V}, intsOf ds = some ns → DVs K mg φ H ds vs → vs = ns.map V.int
  | [], ns, vs, e, r => by
    simp only [intsOf, Option.some.injEq] at e; subst e
    simp only [DVs] at r; rw [r]; rfl
  | .int i :: ds, ns, vs, e, r => by
    simp only [intsOf] at e
    cases q : intsOf ds with
    | none => rw [q] at e; cases e
    | some l =>
      rw [q] at e; cases e
      simp only [DVs] at r
      obtain ⟨v, w, rfl, h1, h2⟩ := r
      simp only [DV] at h1
      rw [h1, ints_at q h2]
      rfl
  | .non :: _, _, _, e, _ => by simp [intsOf] at e
  | .bl _ :: _, _, _, e, _ => by simp [intsOf] at e
  | .str _ :: _, _, _, e, _ => by simp [intsOf] at e
  | .tup _ :: _, _, _, e, _ => by simp [intsOf] at e
  | .ref _ :: _, _, _, e, _ => by simp [intsOf] at e
  | .kl _ :: _, _, _, e, _ => by simp [intsOf] at e
  | .kn _ :: _, _, _, e, _ => by simp [intsOf] at e
  | .ty _ :: _, _, _, e, _ => by simp [intsOf] at e
theorem strs_at' : ∀ {ds : List D} {ns : List Str} {vs : List V}, strsOf ds = some ns → DVs K mg φ H ds vs → vs = ns.map V.str
  | [], ns, vs, e, r => by
    simp only [strsOf, Option.some.injEq] at e; subst e
    simp only [DVs] at r; rw [r]; rfl
  | .str i :: ds, ns, vs, e, r => by
    simp only [strsOf] at e
    cases q : strsOf ds with
    | none => rw [q] at e; cases e
    | some l =>
      rw [q] at e; cases e
      simp only [DVs] at r
      obtain ⟨v, w, rfl, h1, h2⟩ := r
      simp only [DV] at h1
      rw [h1, strs_at' q h2]
      rfl
  | .non :: _, _, _, e, _ => by simp [strsOf] at e
  | .bl _ :: _, _, _, e, _ => by simp [strsOf] at e
  | .int _ :: _, _, _, e, _ => by simp [strsOf] at e
  | .tup _ :: _, _, _, e, _ => by simp [strsOf] at e
  | .ref _ :: _, _, _, e, _ => by simp [strsOf] at e
  | .kl _ :: _, _, _, e, _ => by simp [strsOf] at e
  | .kn _ :: _, _, _, e, _ => by simp [strsOf] at e
  | .ty _ :: _, _, _, e, _ => by simp [strsOf] at e
theorem bls_at : ∀ {ds : List D} {ns : List Bool} {vs : List V}, blsOf ds = some ns → DVs K mg φ H ds vs → vs = ns.map V.bl
  | [], ns, vs, e, r => by
    simp only [blsOf, Option.some.injEq] at e; subst e
    simp only [DVs] at r; rw [r]; rfl
  | .bl i :: ds, ns, vs, e, r => by
    simp only [blsOf] at e
    cases q : blsOf ds with
    | none => rw [q] at e; cases e
    | some l =>
      rw [q] at e; cases e
      simp only [DVs] at r
      obtain ⟨v, w, rfl, h1, h2⟩ := r
      simp only [DV] at h1
      rw [h1, bls_at q h2]
      rfl
  | .non :: _, _, _, e, _ => by simp [blsOf] at e
  | .str _ :: _, _, _, e, _ => by simp [blsOf] at e
  | .int _ :: _, _, _, e, _ => by simp [blsOf] at e
  | .tup _ :: _, _, _, e, _ => by simp [blsOf] at e
  | .ref _ :: _, _, _, e, _ => by simp [blsOf] at e
  | .kl _ :: _, _, _, e, _ => by simp [blsOf] at e
  | .kn _ :: _, _, _, e, _ => by simp [blsOf] at e
  | .ty _ :: _, _, _, e, _ => by simp [blsOf] at e
theorem dvs_ints (ns : List Int) : DVs K mg φ H (ns.map D.int) (ns.map V.int) := by
  induction ns with
  | nil => simp [DVs]
  | cons n ns ih => simp only [List.map_cons, DVs]; exact ⟨_, _, rfl, by simp only [DV], ih⟩
theorem dvs_strs (ns : List Str) : DVs K mg φ H (ns.map D.str) (ns.map V.str) := by
  induction ns with
  | nil => simp [DVs]
  | cons n ns ih => simp only [List.map_cons, DVs]; exact ⟨_, _, rfl, by simp only [DV], ih⟩
/-- data -/
theorem resAll_at {f : D → Option PyData} (hf : ∀ d v x, f d = some x → DV K mg φ H d v → Dp K H v x) : ∀ {ds : List D} {xs : List PyData} {vs : List V}, resAll f ds = some xs → DVs K mg φ H ds vs → DpAll K H vs xs
  | [], xs, vs, e, r => by
    simp only [resAll, Option.some.injEq] at e; subst e
    simp only [DVs] at r; subst r
    exact .nil
  | d :: ds, xs, vs, e, r => by
    simp only [resAll] at e
    cases q : f d with
    | none => rw [q] at e; cases e
    | some x =>
      cases q2 : resAll f ds with
      | none => rw [q, q2] at e; cases e
      | some l =>
        rw [q, q2] at e; cases e
        simp only [DVs] at r
        obtain ⟨v, w, rfl, h1, h2⟩ := r
        exact .cons (hf d v x q h1) (resAll_at hf q2 h2)
theorem res_at (hr : HR K mg φ h H) : ∀ (n : Nat) (d : D) (v : V) (x : PyData), res n h d = some x → DV K mg φ H d v → Dp K H v x
  | n, .non, v, x, e, r => by cases n <;> (simp only [res, Option.some.injEq] at e; subst e; simp only [DV] at r; subst r; exact .non)
  | n, .bl b, v, x, e, r => by cases n <;> (simp only [res, Option.some.injEq] at e; subst e; simp only [DV] at r; subst r; exact .bl b)
  | n, .int b, v, x, e, r => by cases n <;> (simp only [res, Option.some.injEq] at e; subst e; simp only [DV] at r; subst r; exact .int b)
  | n, .str b, v, x, e, r => by cases n <;> (simp only [res, Option.some.injEq] at e; subst e; simp only [DV] at r; subst r; exact .str b)
  | 0, .tup ds, v, x, e, r => by simp [res] at e
  | 0, .kl ds, v, x, e, r => by simp [res] at e
  | 0, .ref k, v, x, e, r => by simp [res] at e
  | n, .kn k, v, x, e, r => by cases n <;> simp [res] at e
  | n, .ty k, v, x, e, r => by cases n <;> simp [res] at e
  | n + 1, .tup ds, v, x, e, r => by
    simp only [res, Option.map_eq_some_iff] at e
    obtain ⟨xs, e1, rfl⟩ := e
    obtain ⟨a, vs, rfl, s, q⟩ := tup_at r
    exact .tup s (resAll_at (fun d v x e r => res_at hr n d v x e r) e1 q)
  | n + 1, .kl ds, v, x, e, r => by
    simp only [res, Option.map_eq_some_iff] at e
    obtain ⟨xs, e1, rfl⟩ := e
    obtain ⟨a, vs, rfl, s, q⟩ := lstOf_at (d := .kl ds) hr r rfl
    exact .lst s (resAll_at (fun d v x e r => res_at hr n d v x e r) e1 q)
  | n + 1, .ref k, v, x, e, r => by
    cases q : h[k]? with
    | none => simp only [res, q] at e; cases e
    | some o =>
      cases o with
      | lst ds =>
        simp only [res, q, Option.map_eq_some_iff] at e
        obtain ⟨xs, e1, rfl⟩ := e
        obtain ⟨a, vs, _, rfl, s, q⟩ := mut_at hr r q
        exact .lst (SqL.of s) (resAll_at (fun d v x e r => res_at hr n d v x e r) e1 q)
      | dic _ _ => simp only [res, q] at e; cases e
      | dit _ _ => simp only [res, q] at e; cases e
      | ins _ _ => simp only [res, q] at e; cases e
theorem flat_at' {d : D} {v : V} (f : flatD d = true) (r : DV K mg φ H d v) : flatV v = true := by
  cases d <;> simp [flatD] at f <;> (simp only [DV] at r; subst r; rfl)
theorem feq_at {d e : D} {v w : V} (f : flatD d = true) (g : flatD e = true) (r : DV K mg φ H d v) (q : DV K mg φ H e w) : eqV v w = feq d e := by
  cases d <;> simp [flatD] at f <;> cases e <;> simp [flatD] at g <;> (simp only [DV] at r q; subst r; subst q; simp [eqV, feq])
theorem any_at {a : D} {va : V} (fa : flatD a = true) (ra : DV K mg φ H a va) : ∀ {xs : List D} {vs : List V}, xs.all flatD = true → DVs K mg φ H xs vs → (vs.all flatV = true ∧ inV va vs = xs.any fun y => feq y a)
  | [], vs, _, r => by simp only [DVs] at r; subst r; exact ⟨rfl, rfl⟩
  | x :: xs, vs, f, r => by
    simp only [List.all_cons, Bool.and_eq_true] at f
    simp only [DVs] at r
    obtain ⟨v, w, rfl, h1, h2⟩ := r
    obtain ⟨i1, i2⟩ := any_at fa ra f.2 h2
    refine ⟨by simp only [List.all_cons, i1, flat_at' f.1 h1, Bool.and_self], ?_⟩
    have e1 : eqV v va = feq x a := feq_at f.1 fa h1 ra
    unfold inV at i2 ⊢
    rw [List.any_cons, List.any_cons, i2, e1]
end
end PM
/-! Operators, built-ins by values. -/
namespace PM
open PySem PySem.Spec PyProof.Rows L2

/-- an operation by values means m -/
def rOf (X : Cx) (m : D → D → M D) : R2 := fun x y H Q => ∃ W φ h a b, HR X.K X.mg φ h H ∧ DV X.K X.mg φ H a x ∧ DV X.K X.mg φ H b y ∧ Post X W φ H (RD X) (m a b h) Q
def r1Of (X : Cx) (m : D → M D) : V → Hp → VK → Prop := fun x H Q => ∃ W φ h a, HR X.K X.mg φ h H ∧ DV X.K X.mg φ H a x ∧ Post X W φ H (RD X) (m a h) Q
def rsOf (X : Cx) (m : List D → M D) : List V → Hp → VK → Prop := fun xs H Q => ∃ W φ h as, HR X.K X.mg φ h H ∧ DVs X.K X.mg φ H as xs ∧ Post X W φ H (RD X) (m as h) Q
section
variable {X : Cx} {K : PySem.W.Frag} {mg : Str → Option Value} {φ : List Addr} {H : Hp} {h : Hs} {W : Value → Option Addr → Hp → Prop}
theorem dv_int {i : Int} {v : V} (r : DV K mg φ H (.int i) v) : v = .int i := by simpa only [DV] using r
theorem dv_str {i : Str} {v : V} (r : DV K mg φ H (.str i) v) : v = .str i := by simpa only [DV] using r
theorem dv_bl {i : Bool} {v : V} (r : DV K mg φ H (.bl i) v) : v = .bl i := by simpa only [DV] using r
theorem dv_non {v : V} (r : DV K mg φ H .non v) : v = .non := by simpa only [DV] using r
theorem vd_int {i : Int} : DV K mg φ H (.int i) (.int i) := by simp only [DV]
theorem vd_str {i : Str} : DV K mg φ H (.str i) (.str i) := by simp only [DV]
theorem vd_bl {i : Bool} : DV K mg φ H (.bl i) (.bl i) := by simp only [DV]
theorem vd_non : DV K mg φ H .non .non := by simp only [DV]
theorem if_then {α : Type} {c : Bool} {a b : α} {P : α → Prop} (hb : ¬ P b) (p : P (if c = true then a else b)) : c = true ∧ P a := by
  cases c with
  | true => exact ⟨rfl, p⟩
  | false => exact absurd p hb
theorem post_if {α β : Type} {RV : List Addr → Hp → α → β → Prop} {c : Bool} {a : R α} {Q : β → Hp → Prop} (p : Post X W φ H RV (if c = true then a else .stk) Q) : c = true ∧ Post X W φ H RV a Q := by
  cases c with
  | true => exact ⟨rfl, p⟩
  | false => exact False.elim p
theorem post_opt {α : Type} {o : Option α} {f : α → D} {Q : VK} (p : Post X W φ H (RD X) (opt2 o f h) Q) : ∃ a, o = some a ∧ Post X W φ H (RD X) (.ok (f a) h) Q := by
  cases o with
  | none => exact False.elim p
  | some a => exact ⟨a, rfl, p⟩
theorem nil_of {ds : List D} {vs : List V} (r : DVs K mg φ H ds vs) : ds = [] ↔ vs = [] := by
  cases ds with
  | nil => simp only [DVs] at r; simp [r]
  | cons d ds => simp only [DVs] at r; obtain ⟨v, w, rfl, _⟩ := r; simp

theorem ok_add : OpR X (binaryOp .Add) (rOf X (binD .Add)) := by
  intro pins s σ H x y v u Q I rx ry ⟨W, φ, h, a, b, hr, ra, rb, p⟩
  cases a <;> cases b <;> first | exact False.elim (show False from p) | skip
  · obtain rfl := dv_int ra
    obtain rfl := dv_int rb
    exact op_add pins s σ H _ _ v u Q I rx ry ⟨_, _, rfl, rfl, p.ok hr vd_int⟩
  · obtain rfl := dv_str ra
    obtain rfl := dv_str rb
    obtain ⟨e, p⟩ := post_if (show Post X W φ H (RD X) (if fits _ = true then _ else .stk) Q from p)
    exact op_add_str pins s σ H _ _ v u Q I rx ry ⟨_, _, rfl, rfl, fits_le e, p.ok hr vd_str⟩
  · obtain ⟨e, p⟩ := post_if (show Post X W φ H (RD X) (if fits _ = true then _ else .stk) Q from p)
    obtain ⟨a1, xs, rfl, s1, q1⟩ := tup_at ra
    obtain ⟨a2, ys, rfl, s2, q2⟩ := tup_at rb
    refine op_catA pins s σ H _ _ v u Q I rx ry ⟨a1, a2, xs, ys, rfl, rfl, s1, s2, ?_, fun e1 => ?_, fun e1 e2 => ?_, fun _ _ c hc => p.tup hr (q1.append q2) hc⟩
    · rw [← q1.length, ← q2.length]; exact fits_le e
    · have z := (nil_of q1).mpr e1
      subst z
      exact p.ok hr (by show DV _ _ _ _ _ _; simp only [DV, List.nil_append]; exact ⟨a2, ys, rfl, s2, q2⟩)
    · have z := (nil_of q2).mpr e2
      subst z
      exact p.ok hr (by show DV _ _ _ _ _ _; simp only [DV, List.append_nil]; exact ⟨a1, xs, rfl, s1, q1⟩)
  · rename_i n m
    cases e1 : h[n]? with
    | none => simp only [binD, e1] at p; exact p.elim
    | some o =>
      cases e2 : h[m]? with
      | none => cases o <;> (simp only [binD, e1, e2] at p; exact p.elim)
      | some o2 =>
        cases o <;> cases o2 <;> first | (simp only [binD, e1, e2] at p; exact p.elim) | skip
        simp only [binD, e1, e2] at p
        obtain ⟨e, p⟩ := post_if p
        obtain ⟨a1, xs, _, rfl, s1, q1⟩ := mut_at hr ra e1
        obtain ⟨a2, ys, _, rfl, s2, q2⟩ := mut_at hr rb e2
        exact op_cat pins s σ H _ _ v u Q I rx ry ⟨a1, a2, xs, ys, rfl, rfl, s1, s2, by rw [← q1.length, ← q2.length]; exact fits_le e, fun c hc => p.lst hr (q1.append q2) hc⟩
theorem ok_sub : OpR X (binaryOp .Sub) (rOf X (binD .Sub)) := by
  intro pins s σ H x y v u Q I rx ry ⟨W, φ, h, a, b, hr, ra, rb, p⟩
  cases a <;> cases b <;> first | exact False.elim (show False from p) | skip
  · obtain rfl := dv_int ra
    obtain rfl := dv_int rb
    exact op_sub pins s σ H _ _ v u Q I rx ry ⟨_, _, rfl, rfl, p.ok hr vd_int⟩
theorem ok_mul : OpR X (binaryOp .Mult) (rOf X (binD .Mult)) := by
  intro pins s σ H x y v u Q I rx ry ⟨W, φ, h, a, b, hr, ra, rb, p⟩
  cases a <;> cases b <;> first | exact False.elim (show False from p) | skip
  · obtain rfl := dv_int ra
    obtain rfl := dv_int rb
    obtain ⟨e, p⟩ := post_if (show Post X W φ H (RD X) (if _ = true then _ else .stk) Q from p)
    refine op_mul pins s σ H _ _ v u Q I rx ry ⟨_, _, rfl, rfl, ?_, p.ok hr vd_int⟩
    rcases Bool.or_eq_true_iff.mp e with e | e <;> (have e' := Bool.and_eq_true_iff.mp e; have e1 := of_decide_eq_true e'.1; have e2 := of_decide_eq_true e'.2)
    · exact .inl ⟨by simpa using e1, by simpa using e2⟩
    · exact .inr ⟨by simpa using e1, by simpa using e2⟩
  · rename_i n k
    cases e1 : h[n]? with
    | none => simp only [binD, e1] at p; exact p.elim
    | some o =>
      cases o <;> first | (simp only [binD, e1] at p; exact p.elim) | skip
      simp only [binD, e1] at p
      obtain ⟨e, p⟩ := post_if p
      simp only [Bool.and_eq_true, decide_eq_true_eq] at e
      obtain ⟨a1, xs, _, rfl, s1, q1⟩ := mut_at hr ra e1
      obtain rfl := dv_int rb
      have rep : ∀ n : Nat, DVs X.K X.mg φ H (List.replicate n _).flatten (List.replicate n xs).flatten := fun n => by
        induction n with
        | zero => simp [DVs]
        | succ n ih => rw [List.replicate_succ, List.replicate_succ, List.flatten_cons, List.flatten_cons]; exact q1.append ih
      exact op_rep pins s σ H _ _ v u Q I rx ry ⟨a1, k, xs, rfl, rfl, s1, by omega, by omega, by rw [← q1.length]; exact fits_le e.2, fun c hc => p.lst hr (rep _) hc⟩
theorem ok_fdiv : OpR X (binaryOp .FloorDiv) (rOf X (binD .FloorDiv)) := by
  intro pins s σ H x y v u Q I rx ry ⟨W, φ, h, a, b, hr, ra, rb, p⟩
  cases a <;> cases b <;> first | exact False.elim (show False from p) | skip
  obtain rfl := dv_int ra
  obtain rfl := dv_int rb
  obtain ⟨e, p⟩ := post_if (show Post X W φ H (RD X) (if _ = true then _ else .stk) Q from p)
  simp only [Bool.and_eq_true, decide_eq_true_eq] at e
  exact op_fdiv pins s σ H _ _ v u Q I rx ry ⟨_, _, rfl, rfl, ⟨e.1, e.2⟩, p.ok hr vd_int⟩
theorem ok_mod : OpR X (binaryOp .Mod) (rOf X (binD .Mod)) := by
  intro pins s σ H x y v u Q I rx ry ⟨W, φ, h, a, b, hr, ra, rb, p⟩
  cases a <;> cases b <;> first | exact False.elim (show False from p) | skip
  rename_i i j
  obtain rfl := dv_int ra
  obtain rfl := dv_int rb
  have p : Post X W φ H (RD X) (if 0 < j then .ok (.int (i % j)) h else .stk) Q := p
  by_cases e : 0 < j
  · rw [if_pos e] at p
    exact op_mod pins s σ H _ _ v u Q I rx ry ⟨_, _, rfl, rfl, e, p.ok hr vd_int⟩
  · rw [if_neg e] at p; exact p.elim
theorem ok_pow : OpR X (binaryOp .Pow) (rOf X (binD .Pow)) := by
  intro pins s σ H x y v u Q I rx ry ⟨W, φ, h, a, b, hr, ra, rb, p⟩
  cases a <;> cases b <;> first | exact False.elim (show False from p) | skip
  obtain rfl := dv_int ra
  obtain rfl := dv_int rb
  obtain ⟨e, p⟩ := post_if (show Post X W φ H (RD X) (if _ = true then _ else .stk) Q from p)
  simp only [Bool.and_eq_true, decide_eq_true_eq] at e
  exact op_pow pins s σ H _ _ v u Q I rx ry ⟨_, _, rfl, rfl, ⟨e.1.1, e.1.2, e.2⟩, p.ok hr vd_int⟩
theorem ok_none (op : Operator) (hn : ∀ a b h, binD op a b h = .stk) : OpR X (binaryOp op) (rOf X (binD op)) := by
  intro pins s σ H x y v u Q I rx ry ⟨W, φ, h, a, b, hr, ra, rb, p⟩
  rw [hn] at p
  exact p.elim
theorem ok_bin : ∀ (op : Operator), OpR X (binaryOp op) (rOf X (binD op))
  | .Add => ok_add
  | .Sub => ok_sub
  | .Mult => ok_mul
  | .FloorDiv => ok_fdiv
  | .Mod => ok_mod
  | .Pow => ok_pow
  | .MatMult => ok_none _ fun a b h => by cases a <;> cases b <;> rfl
  | .Div => ok_none _ fun a b h => by cases a <;> cases b <;> rfl
  | .LShift => ok_none _ fun a b h => by cases a <;> cases b <;> rfl
  | .RShift => ok_none _ fun a b h => by cases a <;> cases b <;> rfl
  | .BitOr => ok_none _ fun a b h => by cases a <;> cases b <;> rfl
  | .BitXor => ok_none _ fun a b h => by cases a <;> cases b <;> rfl
  | .BitAnd => ok_none _ fun a b h => by cases a <;> cases b <;> rfl

/-! ### comparisons -/
/-- room for the machine's own calls -/
structure Sp0 (X : Cx) : Prop where
  calm : X.calm = true
  guards : X.A.guards = some []
  units : X.A.units + 100 < cLine
theorem eqD_at (hr : HR K mg φ h H) {a b : D} {x y : V} {c : Bool} (e : eqD a b h = some c) (ra : DV K mg φ H a x) (rb : DV K mg φ H b y) : ∃ d e, Dp K H x d ∧ Dp K H y e ∧ SeqAt.shaped d = true ∧ SeqAt.shaped e = true ∧ PyData.eqv d e = c := by
  unfold eqD at e
  cases q1 : res deep h a with
  | none => rw [q1] at e; cases e
  | some d =>
    cases q2 : res deep h b with
    | none => rw [q1, q2] at e; cases e
    | some d2 =>
      rw [q1, q2] at e
      by_cases hs : (SeqAt.shaped d && SeqAt.shaped d2) = true
      · simp only [hs, if_true, Option.some.injEq] at e
        rw [Bool.and_eq_true] at hs
        exact ⟨d, d2, res_at hr _ _ _ _ q1 ra, res_at hr _ _ _ _ q2 rb, hs.1, hs.2, e⟩
      · simp only [hs] at e; cases e
theorem key_at {k : Key} {d : D} {v : V} (e : keyOf d = some k) (r : DV K mg φ H d v) : v = kV k := by
  cases d <;> simp [keyOf] at e <;> (subst e; simp only [DV] at r; subst r; rfl)
theorem assoc_at {κ : Type} [DecidableEq κ] : ∀ {kvs : List (κ × D)} {vs : List (κ × V)} (k : κ), DKs K mg φ H kvs vs → (assoc kvs k = none ∧ valV vs k = none) ∨ ∃ d v, assoc kvs k = some d ∧ valV vs k = some v ∧ DV K mg φ H d v
  | [], vs, k, r => by simp only [DKs] at r; subst r; exact .inl ⟨rfl, rfl⟩
  | (j, d) :: kvs, vs, k, r => by
    simp only [DKs] at r
    obtain ⟨v, w, rfl, h1, h2⟩ := r
    by_cases e : j = k
    · subst e
      exact .inr ⟨d, v, by simp [assoc], by simp [valV], h1⟩
    · rcases assoc_at k h2 with ⟨q1, q2⟩ | ⟨d', v', q1, q2, q3⟩
      · exact .inl ⟨by simp [assoc, e, q1], by simp [valV, e]; simpa [valV] using q2⟩
      · exact .inr ⟨d', v', by simp [assoc, e, q1], by simp [valV, e]; simpa [valV] using q2, q3⟩

/-- what the dict at a holds at y -/
def DGetA (K : PySem.W.Frag) (H : Hp) (a : Addr) (y : V) (r : Option V) : Prop :=
  (∃ kvs k, Rd H a (.dK kvs) ∧ y = kV k ∧ r = valV kvs k) ∨ ∃ kvs k b, Rd H a (.dT kvs) ∧ y = .ref b ∧ SqT K H b (k.map kV) ∧ r = valV kvs k
theorem keys_at : ∀ {ds : List D} {ks : List Key} {vs : List V}, keysOf ds = some ks → DVs K mg φ H ds vs → vs = ks.map kV
  | [], ks, vs, e, r => by
    simp only [keysOf, Option.some.injEq] at e; subst e
    simp only [DVs] at r; rw [r]; rfl
  | d :: ds, ks, vs, e, r => by
    simp only [keysOf] at e
    cases q : keyOf d with
    | none => rw [q] at e; cases e
    | some k =>
      cases q2 : keysOf ds with
      | none => rw [q, q2] at e; cases e
      | some l =>
        rw [q, q2] at e; cases e
        simp only [DVs] at r
        obtain ⟨v, w, rfl, h1, h2⟩ := r
        rw [key_at q h1, keys_at q2 h2]
        rfl
theorem dic_at (hr : HR K mg φ h H) {n : Nat} {v : V} {lk : Bool} {kvs : List (Key × D)} (r : DV K mg φ H (.ref n) v) (e : h[n]? = some (.dic lk kvs)) : ∃ a vs, φ[n]? = some a ∧ v = .ref a ∧ Rd H a (.dK vs) ∧ DKs K mg φ H kvs vs := by
  simp only [DV] at r
  obtain ⟨a, ha, rfl⟩ := r
  have q := hr.ob n a _ ha e
  cases lk with
  | false => obtain ⟨vs, h1, h2⟩ := q; exact ⟨a, vs, ha, rfl, .inl h1, h2⟩
  | true => obtain ⟨o, vs, h1, h2⟩ := q; exact ⟨a, vs, ha, rfl, .inr ⟨o, h1⟩, h2⟩
theorem dit_at (hr : HR K mg φ h H) {n : Nat} {v : V} {lk : Bool} {kvs : List (List Key × D)} (r : DV K mg φ H (.ref n) v) (e : h[n]? = some (.dit lk kvs)) : ∃ a vs, φ[n]? = some a ∧ v = .ref a ∧ Rd H a (.dT vs) ∧ DKs K mg φ H kvs vs := by
  simp only [DV] at r
  obtain ⟨a, ha, rfl⟩ := r
  have q := hr.ob n a _ ha e
  cases lk with
  | false => obtain ⟨vs, h1, h2⟩ := q; exact ⟨a, vs, ha, rfl, .inl h1, h2⟩
  | true => obtain ⟨o, vs, h1, h2⟩ := q; exact ⟨a, vs, ha, rfl, .inr ⟨o, h1⟩, h2⟩
theorem dget_at (hr : HR K mg φ h H) {d k : D} {x y : V} {o : Option D} (e : dgetD d k h = some o) (rd : DV K mg φ H d x) (rk : DV K mg φ H k y) :
    ∃ a r, x = .ref a ∧ DGetA K H a y r ∧ ((o = none ∧ r = none) ∨ ∃ d v, o = some d ∧ r = some v ∧ DV K mg φ H d v) := by
  cases d with
  | ref n =>
    simp only [dgetD] at e
    cases q : h[n]? with
    | none => rw [q] at e; cases e
    | some ob =>
      cases ob with
      | dic lk kvs =>
        rw [q] at e
        cases q2 : keyOf k with
        | none => simp only [q2] at e; cases e
        | some kk =>
          simp only [q2, Option.some.injEq] at e
          obtain ⟨a, vs, _, rfl, h1, h2⟩ := dic_at hr rd q
          refine ⟨a, valV vs kk, rfl, .inl ⟨vs, kk, h1, key_at q2 rk, rfl⟩, ?_⟩
          rcases assoc_at kk h2 with ⟨e1, e2⟩ | ⟨d', v', e1, e2, e3⟩
          · exact .inl ⟨by rw [← e, e1], e2⟩
          · exact .inr ⟨d', v', by rw [← e, e1], e2, e3⟩
      | dit lk kvs =>
        rw [q] at e
        cases q2 : tkeyOf k with
        | none => simp only [q2] at e; cases e
        | some kk =>
          simp only [q2, Option.some.injEq] at e
          obtain ⟨a, vs, _, rfl, h1, h2⟩ := dit_at hr rd q
          cases k with
          | tup ds =>
            obtain ⟨b, ws, rfl, s1, s2⟩ := tup_at rk
            have ek := keys_at (show keysOf ds = some kk from q2) s2
            refine ⟨a, valV vs kk, rfl, .inr ⟨vs, kk, b, h1, rfl, by rw [← ek]; exact s1, rfl⟩, ?_⟩
            rcases assoc_at kk h2 with ⟨e1, e2⟩ | ⟨d', v', e1, e2, e3⟩
            · exact .inl ⟨by rw [← e, e1], e2⟩
            · exact .inr ⟨d', v', by rw [← e, e1], e2, e3⟩
          | _ => simp [tkeyOf] at q2
      | lst _ => rw [q] at e; cases e
      | ins _ _ => rw [q] at e; cases e
  | _ => simp [dgetD] at e
section
variable {pins : List (Addr × Obj)} {σ : L2.St} {s : Shared} {a : Addr} {y : V} {u : Value} {o : Option V} {A : Around} {E : Value → Shared → Prop}
theorem tkey_is (I : Inv X pins σ H s) {b : Addr} {k : List Key} (sq : SqT X.K H b (k.map kV)) : (tupleKind (mixKind X.prog X.w)).is s.heap k b := by
  obtain ⟨its, r, ⟨o, h1, h2, n, h3⟩, _⟩ := I.tuple sq
  exact ⟨o, its.toArray, n, h1, h2, h3, by simpa using items_are r⟩
theorem dA_getItem {Q : Value → Shared → Prop} {v : V} (hu : A.units + 1 < cLine) (I : Inv X pins σ H s) (g : DGetA X.K H a y (some v)) (ry : RelV y u) (h : ∀ w' s', Inv X pins σ H s' → RelV v w' → Q w' s') :
    wpAny (model X.prog X.w) A (getItem (.ref a) u) Q E s := by
  rcases g with ⟨kvs, k, e, ey, l⟩ | ⟨kvs, k, b, e, ey, eb, l⟩
  · exact d_getItem hu I (.inl ⟨kvs, k, e, ey, l⟩) ry h
  · subst ey
    cases (show u = Value.ref b from ry)
    obtain ⟨z, hd, xs, rel, dd⟩ := dt_rd I.hok e
    obtain ⟨w', hw, rw'⟩ := RelO.some_of (v := v) (o := (atKey xs k).map (·.2)) (by rw [l]; exact rel.val k)
    obtain ⟨p, hp, hp2⟩ := Option.map_eq_some_iff.mp hw
    refine wpAny_getItem_heap (tupleKind_room_in1 hu) (tkey_is I eb) dd hp ?_
    rw [hp2]
    exact h w' _ (I.tok _) rw'
theorem dA_in {Q : Value → Shared → Prop} (hu : A.units + 1 < cLine) (I : Inv X pins σ H s) (g : DGetA X.K H a y o) (ry : RelV y u) (h : ∀ s', Inv X pins σ H s' → Q (.bool o.isSome) s') :
    wpAny (model X.prog X.w) A (compareOp .In u (.ref a)) Q E s := by
  rcases g with ⟨kvs, k, e, ey, l⟩ | ⟨kvs, k, b, e, ey, eb, l⟩
  · exact d_in hu I (.inl ⟨kvs, k, e, ey, l⟩) ry h
  · subst ey
    cases (show u = Value.ref b from ry)
    obtain ⟨z, hd, xs, rel, dd⟩ := dt_rd I.hok e
    refine wpAny_in_heap (tupleKind_room_in1 hu) (tkey_is I eb) hd dd ?_
    have q := (rel.val k).isSome_eq
    rw [Option.isSome_map] at q
    rw [← q, ← l]
    exact h _ (I.tok _)
theorem dA_notIn {Q : Value → Shared → Prop} (hu : A.units + 1 < cLine) (I : Inv X pins σ H s) (g : DGetA X.K H a y o) (ry : RelV y u) (h : ∀ s', Inv X pins σ H s' → Q (.bool (!o.isSome)) s') :
    wpAny (model X.prog X.w) A (compareOp .NotIn u (.ref a)) Q E s := by
  rcases g with ⟨kvs, k, e, ey, l⟩ | ⟨kvs, k, b, e, ey, eb, l⟩
  · exact d_notIn hu I (.inl ⟨kvs, k, e, ey, l⟩) ry h
  · subst ey
    cases (show u = Value.ref b from ry)
    obtain ⟨z, hd, xs, rel, dd⟩ := dt_rd I.hok e
    refine wpAny_notIn_heap (tupleKind_room_in1 hu) (tkey_is I eb) hd dd ?_
    have q := (rel.val k).isSome_eq
    rw [Option.isSome_map] at q
    rw [← q, ← l]
    exact h _ (I.tok _)
theorem dA_typeIs (I : Inv X pins σ H s) (g : DGetA X.K H a y o) : s.TypeIs (.ref a) "dict" := by
  rcases g with ⟨kvs, k, e, _, _⟩ | ⟨kvs, k, b, e, _, _, _⟩
  · obtain ⟨_, _, vs, _, dd⟩ := dk_rd I.hok e
    exact dd.typeIs
  · obtain ⟨_, _, xs, _, dd⟩ := dt_rd I.hok e
    exact dd.typeIs
end
theorem ix_dict (hu : X.A.units + 1 < cLine) : IxR X (fun x y H Q => ∃ a v, x = .ref a ∧ DGetA X.K H a y (some v) ∧ Q v H) := by
  intro value slice pins s σ H x y v u Q I rx ry h hs
  obtain ⟨a, w, rfl, g, q⟩ := h
  cases rx
  exact tail_any (dA_typeIs I g) PySem.F.slot_dict_getitem.lookup (dA_getItem hu I g ry fun w' s' I' rw' => ⟨w, H, I', rw', q⟩) hs

/-! ### the comparisons -/
theorem ok_eq (S : Sp0 X) : OpR X (compareOp .Eq) (rOf X (cmpD .Eq)) := by
  intro pins s σ H x y v u Q I rx ry ⟨W, φ, h, a, b, hr, ra, rb, p⟩
  obtain ⟨c, e, p⟩ := post_opt (show Post X W φ H (RD X) (opt2 (eqD a b h) .bl h) Q from p)
  obtain ⟨d1, d2, h1, h2, h3, h4, h5⟩ := eqD_at hr e ra rb
  exact op_eqD (by have := S.units; omega) pins s σ H x y v u Q I rx ry ⟨d1, d2, h1, h2, h3, h4, by rw [h5]; exact p.ok hr vd_bl⟩
theorem ok_ne (S : Sp0 X) : OpR X (compareOp .NotEq) (rOf X (cmpD .NotEq)) := by
  intro pins s σ H x y v u Q I rx ry ⟨W, φ, h, a, b, hr, ra, rb, p⟩
  obtain ⟨c, e, p⟩ := post_opt (show Post X W φ H (RD X) (opt2 (eqD a b h) (fun c => .bl (!c)) h) Q from p)
  obtain ⟨d1, d2, h1, h2, h3, h4, h5⟩ := eqD_at hr e ra rb
  exact op_neD (by have := S.units; omega) pins s σ H x y v u Q I rx ry ⟨d1, d2, h1, h2, h3, h4, by rw [h5]; exact p.ok hr vd_bl⟩
theorem in_cases {a b : D} {c : Bool} (e : inD a b h = some c) : (∃ x y, a = .str x ∧ b = .str y ∧ c = !(Builtin.Str.occurrences y x 0 y.length 1).isEmpty) ∨
    (∃ xs, itemsOf b h = some xs ∧ flatD a = true ∧ xs.all flatD = true ∧ c = xs.any fun y => feq y a) ∨ (∃ o, dgetD b a h = some o ∧ c = o.isSome) := by
  have gen : ∀ (_ : (match itemsOf b h with
      | some xs => if (flatD a && xs.all flatD) = true then some (xs.any fun y => feq y a) else none
      | none => match dgetD b a h with
        | some o => some o.isSome
        | none => none) = some c), (∃ xs, itemsOf b h = some xs ∧ flatD a = true ∧ xs.all flatD = true ∧ c = xs.any fun y => feq y a) ∨ (∃ o, dgetD b a h = some o ∧ c = o.isSome) := by
    intro e
    cases q : itemsOf b h with
    | some xs =>
      rw [q] at e
      by_cases hf : (flatD a && xs.all flatD) = true
      · simp only [hf, if_true, Option.some.injEq] at e
        rw [Bool.and_eq_true] at hf
        exact .inl ⟨xs, rfl, hf.1, hf.2, e.symm⟩
      · simp only [hf] at e; cases e
    | none =>
      rw [q] at e
      cases q2 : dgetD b a h with
      | none => rw [q2] at e; cases e
      | some o => rw [q2] at e; simp only [Option.some.injEq] at e; exact .inr ⟨o, rfl, e.symm⟩
  cases a <;> cases b <;> first
    | (left; simp only [inD, Option.some.injEq] at e; exact ⟨_, _, rfl, rfl, e.symm⟩)
    | exact .inr (gen e)
theorem ok_in (S : Sp0 X) : OpR X (compareOp .In) (rOf X (cmpD .In)) := by
  intro pins s σ H x y v u Q I rx ry ⟨W, φ, h, a, b, hr, ra, rb, p⟩
  obtain ⟨c, e, p⟩ := post_opt (show Post X W φ H (RD X) (opt2 (inD a b h) .bl h) Q from p)
  rcases in_cases e with ⟨x1, y1, rfl, rfl, rfl⟩ | ⟨xs, e1, fa, fx, rfl⟩ | ⟨o, e1, rfl⟩
  · obtain rfl := dv_str ra
    obtain rfl := dv_str rb
    exact op_in_str pins s σ H _ _ v u Q I rx ry ⟨_, _, rfl, rfl, p.ok hr vd_bl⟩
  · obtain ⟨a1, vs, rfl, sq, q⟩ := itemsOf_at hr rb e1
    obtain ⟨i1, i2⟩ := any_at fa ra fx q
    exact op_in_seq pins s σ H _ _ v u Q I rx ry ⟨a1, vs, rfl, sq, flat_at' fa ra, i1, by show Q (.bl (inV x vs)) H; rw [i2]; exact p.ok hr vd_bl⟩
  · obtain ⟨a1, r, rfl, g, z⟩ := dget_at hr e1 rb ra
    cases ry
    refine dA_in (by have := S.units; omega) I g rx fun s' I' => ⟨.bl r.isSome, H, I', rfl, ?_⟩
    rcases z with ⟨rfl, rfl⟩ | ⟨d, w, rfl, rfl, _⟩ <;> exact p.ok hr vd_bl
theorem ok_notin (S : Sp0 X) : OpR X (compareOp .NotIn) (rOf X (cmpD .NotIn)) := by
  intro pins s σ H x y v u Q I rx ry ⟨W, φ, h, a, b, hr, ra, rb, p⟩
  obtain ⟨c, e, p⟩ := post_opt (show Post X W φ H (RD X) (opt2 (inD a b h) (fun c => .bl (!c)) h) Q from p)
  rcases in_cases e with ⟨x1, y1, rfl, rfl, rfl⟩ | ⟨xs, e1, fa, fx, rfl⟩ | ⟨o, e1, rfl⟩
  · obtain rfl := dv_str ra
    obtain rfl := dv_str rb
    exact op_notIn_str pins s σ H _ _ v u Q I rx ry ⟨_, _, rfl, rfl, p.ok hr vd_bl⟩
  · obtain ⟨a1, vs, rfl, sq, q⟩ := itemsOf_at hr rb e1
    obtain ⟨i1, i2⟩ := any_at fa ra fx q
    exact op_notIn_seq pins s σ H _ _ v u Q I rx ry ⟨a1, vs, rfl, sq, flat_at' fa ra, i1, by show Q (.bl (!inV x vs)) H; rw [i2]; exact p.ok hr vd_bl⟩
  · obtain ⟨a1, r, rfl, g, z⟩ := dget_at hr e1 rb ra
    cases ry
    refine dA_notIn (by have := S.units; omega) I g rx fun s' I' => ⟨.bl (!r.isSome), H, I', rfl, ?_⟩
    rcases z with ⟨rfl, rfl⟩ | ⟨d, w, rfl, rfl, _⟩ <;> exact p.ok hr vd_bl
theorem non_iff {a : D} {x : V} (r : DV K mg φ H a x) : decide (x = V.non) = (match a with | .non => true | _ => false) := by
  cases a <;> simp only [DV] at r
  · subst r; rfl
  · subst r; rfl
  · subst r; rfl
  · subst r; rfl
  · obtain ⟨_, _, rfl, _⟩ := r; rfl
  · obtain ⟨_, _, rfl⟩ := r; rfl
  · obtain ⟨_, _, rfl, _⟩ := r; rfl
  · obtain ⟨_, _, rfl⟩ := r; rfl
  · subst r; rfl
theorem ok_is : OpR X (compareOp .Is) (rOf X (cmpD .Is)) := by
  intro pins s σ H x y v u Q I rx ry ⟨W, φ, h, a, b, hr, ra, rb, p⟩
  cases b <;> first | exact False.elim (show False from p) | skip
  obtain rfl := dv_non rb
  refine op_isN pins s σ H _ _ v u Q I rx ry ⟨rfl, ?_⟩
  rw [non_iff ra]
  cases a <;> exact p.ok hr vd_bl
theorem ok_isnot : OpR X (compareOp .IsNot) (rOf X (cmpD .IsNot)) := by
  intro pins s σ H x y v u Q I rx ry ⟨W, φ, h, a, b, hr, ra, rb, p⟩
  cases b <;> first | exact False.elim (show False from p) | skip
  obtain rfl := dv_non rb
  refine op_notN pins s σ H _ _ v u Q I rx ry ⟨rfl, ?_⟩
  rw [non_iff ra]
  cases a <;> exact p.ok hr vd_bl
theorem ok_lt (S : Sp0 X) : OpR X (compareOp .Lt) (rOf X (cmpD .Lt)) := by
  intro pins s σ H x y v u Q I rx ry ⟨W, φ, h, a, b, hr, ra, rb, p⟩
  cases a <;> cases b <;> first | exact False.elim (show False from p) | skip
  · obtain rfl := dv_int ra
    obtain rfl := dv_int rb
    exact op_lt pins s σ H _ _ v u Q I rx ry ⟨_, _, rfl, rfl, p.ok hr vd_bl⟩
  · obtain rfl := dv_str ra
    obtain rfl := dv_str rb
    exact op_lt_str pins s σ H _ _ v u Q I rx ry ⟨_, _, rfl, rfl, p.ok hr vd_bl⟩
  · rename_i xs ys
    cases e1 : intsOf xs with
    | none => simp only [cmpD, e1] at p; exact p.elim
    | some u1 =>
      cases e2 : intsOf ys with
      | none => simp only [cmpD, e1, e2] at p; exact p.elim
      | some u2 =>
        simp only [cmpD, e1, e2] at p
        obtain ⟨a1, vs, rfl, s1, q1⟩ := tup_at ra
        obtain ⟨a2, ws, rfl, s2, q2⟩ := tup_at rb
        have z1 := ints_at e1 q1
        have z2 := ints_at e2 q2
        subst z1 z2
        exact op_ltT (by have := S.units; omega) pins s σ H _ _ v u Q I rx ry ⟨a1, a2, u1, u2, rfl, rfl, s1, s2, p.ok hr vd_bl⟩
theorem not_lt_le (a b : List Nat) : (!decide (b < a)) = decide (a ≤ b) := by
  by_cases e : b < a
  · have : ¬ a ≤ b := fun z => absurd e (List.not_lt.mpr z)
    simp [e, this]
  · have : a ≤ b := List.not_lt.mp e
    simp [e, this]
theorem ok_le : OpR X (compareOp .LtE) (rOf X (cmpD .LtE)) := by
  intro pins s σ H x y v u Q I rx ry ⟨W, φ, h, a, b, hr, ra, rb, p⟩
  cases a <;> cases b <;> first | exact False.elim (show False from p) | skip
  · obtain rfl := dv_int ra
    obtain rfl := dv_int rb
    exact op_le pins s σ H _ _ v u Q I rx ry ⟨_, _, rfl, rfl, p.ok hr vd_bl⟩
  · obtain rfl := dv_str ra
    obtain rfl := dv_str rb
    exact op_le_str pins s σ H _ _ v u Q I rx ry ⟨_, _, rfl, rfl, by rw [not_lt_le]; exact p.ok hr vd_bl⟩
theorem ok_gt : OpR X (compareOp .Gt) (rOf X (cmpD .Gt)) := by
  intro pins s σ H x y v u Q I rx ry ⟨W, φ, h, a, b, hr, ra, rb, p⟩
  cases a <;> cases b <;> first | exact False.elim (show False from p) | skip
  · obtain rfl := dv_int ra
    obtain rfl := dv_int rb
    exact op_gt pins s σ H _ _ v u Q I rx ry ⟨_, _, rfl, rfl, p.ok hr vd_bl⟩
  · obtain rfl := dv_str ra
    obtain rfl := dv_str rb
    exact op_gt_str pins s σ H _ _ v u Q I rx ry ⟨_, _, rfl, rfl, p.ok hr vd_bl⟩
theorem ok_ge : OpR X (compareOp .GtE) (rOf X (cmpD .GtE)) := by
  intro pins s σ H x y v u Q I rx ry ⟨W, φ, h, a, b, hr, ra, rb, p⟩
  cases a <;> cases b <;> first | exact False.elim (show False from p) | skip
  · obtain rfl := dv_int ra
    obtain rfl := dv_int rb
    exact op_ge pins s σ H _ _ v u Q I rx ry ⟨_, _, rfl, rfl, p.ok hr vd_bl⟩
  · obtain rfl := dv_str ra
    obtain rfl := dv_str rb
    exact op_ge_str pins s σ H _ _ v u Q I rx ry ⟨_, _, rfl, rfl, by rw [not_lt_le]; exact p.ok hr vd_bl⟩
theorem ok_cmp (S : Sp0 X) : ∀ (op : CmpOp), OpR X (compareOp op) (rOf X (cmpD op))
  | .Eq => ok_eq S
  | .NotEq => ok_ne S
  | .In => ok_in S
  | .NotIn => ok_notin S
  | .Is => ok_is
  | .IsNot => ok_isnot
  | .Lt => ok_lt S
  | .LtE => ok_le
  | .Gt => ok_gt
  | .GtE => ok_ge
theorem ok_neg : UnR X (unaryOp .USub) (r1Of X negD) := by
  intro pins s σ H x v Q I rx ⟨W, φ, h, a, hr, ra, p⟩
  cases a <;> first | exact False.elim (show False from p) | skip
  obtain rfl := dv_int ra
  exact un_neg pins s σ H _ v Q I rx ⟨_, rfl, p.ok hr vd_int⟩

/-! ### subscripts -/
theorem ixN_lt {n : Nat} {i : Int} {j : Nat} (e : ixN n i = some j) : j < n := (ixN_seq e).2.1
theorem atI_map {xs : List D} {vs : List V} {k : Int} {d : D} (r : DVs K mg φ H xs vs) (e : atI xs k = some d) : ∃ v, atI vs k = some v ∧ DV K mg φ H d v := by
  unfold atI at e ⊢
  rw [← r.length]
  cases q : ixN xs.length k with
  | none => rw [q] at e; cases e
  | some j =>
    rw [q] at e
    exact r.get' e
theorem ok_sub' (S : Sp0 X) : IxR X (rOf X subD) := by
  intro value slice pins s σ H x y v u Q I rx ry ⟨W, φ, h, a, b, hr, ra, rb, p⟩ hs
  have viaD : ∀ (_ : Post X W φ H (RD X) (match dgetD a b h with
      | some (some v) => .ok v h
      | _ => .stk) Q), wpAny (model X.prog X.w) X.A (subscriptTail value slice v u) (EP X pins σ Q) X.xe s := fun p => by
    cases q : dgetD a b h with
    | none => rw [q] at p; exact p.elim
    | some o =>
      cases o with
      | none => rw [q] at p; exact p.elim
      | some w =>
        rw [q] at p
        obtain ⟨a1, r, rfl, g, z⟩ := dget_at hr q ra rb
        rcases z with ⟨e, _⟩ | ⟨d, w', e, rfl, rd⟩
        · cases e
        · cases e
          exact ix_dict (by have := S.units; omega) value slice pins s σ H _ y v u Q I rx ry ⟨a1, w', rfl, g, p.ok hr rd⟩ hs
  cases b with
  | int k =>
    have ey := dv_int rb
    have rest : ∀ (_ : Post X W φ H (RD X) (match itemsOf a h with
      | some xs => opt2 (atI xs k) id h
      | none => match dgetD a (.int k) h with
        | some (some v) => .ok v h
        | _ => .stk) Q), wpAny (model X.prog X.w) X.A (subscriptTail value slice v u) (EP X pins σ Q) X.xe s := fun p => by
      cases q : itemsOf a h with
      | none => rw [q] at p; exact viaD p
      | some xs =>
        rw [q] at p
        obtain ⟨d, e1, p2⟩ := post_opt p
        clear p
        subst ey
        rcases itemsOf_cases q with rfl | e
        · obtain ⟨a1, vs, rfl, s1, q1⟩ := tup_at ra
          obtain ⟨w, e2, rw'⟩ := atI_map q1 e1
          exact ix_tup value slice pins s σ H _ _ v u Q I rx ry ⟨a1, vs, k, w, rfl, rfl, s1, e2, p2.ok hr rw'⟩ hs
        · obtain ⟨a1, vs, rfl, s1, q1⟩ := lstOf_at hr ra e
          obtain ⟨w, e2, rw'⟩ := atI_map q1 e1
          exact ix_list value slice pins s σ H _ _ v u Q I rx ry ⟨a1, vs, k, w, rfl, rfl, s1, e2, p2.ok hr rw'⟩ hs
    cases a with
    | str z =>
      obtain ⟨e, p⟩ := post_if (show Post X W φ H (RD X) (if fits _ = true then _ else .stk) Q from p)
      obtain ⟨c, e1, p⟩ := post_opt p
      obtain rfl := dv_str ra
      subst ey
      exact ix_str value slice pins s σ H _ _ v u Q I rx ry ⟨z, k, c, rfl, rfl, fits_le e, e1, p.ok hr vd_str⟩ hs
    | _ => exact rest p
  | _ => exact viaD p
theorem cut_at {xs : List D} {vs : List V} (r : DVs K mg φ H xs vs) (lo hi : Option Int) : DVs K mg φ H (cutD xs lo hi) (cutV vs lo hi) := by
  unfold cutD cutV
  rw [← r.length]
  exact (r.drop _).take _
theorem ok_slc : SlR X (fun x lo hi H Q => ∃ W φ h a, HR X.K X.mg φ h H ∧ DV X.K X.mg φ H a x ∧ Post X W φ H (RD X) (slcD a lo hi h) Q) := by
  intro pins s σ H x v vl vu lo hi sl Q I rx hs pl pu ⟨W, φ, h, a, hr, ra, p⟩
  have rest : ∀ (_ : lstOf a h = itemsOf a h) (_ : Post X W φ H (RD X) (match itemsOf a h with
    | some xs => .ok (.ref h.length) (h ++ [.lst (cutD xs lo hi)])
    | none => .stk) Q), ∃ T id, typeLookup (.type T) "__getitem__" = pure (some (.builtin id)) ∧ s.TypeIs v T ∧ wpAny (model X.prog X.w) X.A (getItem v (.ref sl)) (EP X pins σ Q) X.xe s := fun e p => by
    cases q : itemsOf a h with
    | none => rw [q] at p; exact p.elim
    | some xs =>
      rw [q] at p
      obtain ⟨a1, vs, rfl, s1, q1⟩ := lstOf_at hr ra (e.trans q)
      exact sl_list pins s σ H _ v vl vu lo hi sl Q I rx hs pl pu ⟨a1, vs, rfl, s1, fun c hc => p.lst hr (cut_at q1 lo hi) hc⟩
  cases a with
  | str z =>
    obtain ⟨e, p⟩ := post_if (show Post X W φ H (RD X) (if fits _ = true then _ else .stk) Q from p)
    obtain rfl := dv_str ra
    exact sl_str pins s σ H _ v vl vu lo hi sl Q I rx hs pl pu ⟨z, rfl, fits_le e, p.ok hr vd_str⟩
  | tup xs =>
    obtain ⟨a1, vs, rfl, s1, q1⟩ := tup_at ra
    refine sl_tupA pins s σ H _ v vl vu lo hi sl Q I rx hs pl pu ⟨a1, vs, rfl, s1, fun e => ?_, fun _ c hc => p.tup hr (cut_at q1 lo hi) hc⟩
    refine p.ok hr ?_
    have e2 : cutD xs lo hi = xs := by
      unfold cutD
      rw [q1.length, e.1, e.2, List.drop_zero, Nat.sub_zero, ← q1.length, List.take_length]
    show DV _ _ _ _ _ _
    rw [e2]; exact ra
  | _ => exact rest rfl p
end
end PM
/-! Built-in functions by values. -/
namespace PM
open PySem PySem.Spec PyProof.Rows L2

/-! ### sorted lists are one -/
theorem insI_perm (x : Int) : ∀ l : List Int, (insI x l).Perm (x :: l)
  | [] => .refl _
  | y :: r => by
    unfold insI
    split
    · exact .refl _
    · exact ((insI_perm x r).cons y).trans (.swap x y r)
theorem sortI_perm : ∀ l : List Int, (sortI l).Perm l
  | [] => .refl _
  | x :: r => (insI_perm x _).trans ((sortI_perm r).cons x)
theorem insI_sorted (x : Int) : ∀ {l : List Int}, l.Pairwise (· ≤ ·) → (insI x l).Pairwise (· ≤ ·)
  | [], _ => by simp [insI]
  | y :: r, h => by
    unfold insI
    have h' := List.pairwise_cons.mp h
    split
    · rename_i hxy
      refine List.pairwise_cons.mpr ⟨fun z hz => ?_, h⟩
      rcases List.mem_cons.mp hz with rfl | hz
      · exact hxy
      · exact Int.le_trans hxy (h'.1 z hz)
    · rename_i hxy
      refine List.pairwise_cons.mpr ⟨fun z hz => ?_, insI_sorted x h'.2⟩
      rcases List.mem_cons.mp ((insI_perm x r).mem_iff.mp hz) with rfl | hz
      · omega
      · exact h'.1 z hz
theorem sortI_sorted : ∀ l : List Int, (sortI l).Pairwise (· ≤ ·)
  | [] => .nil
  | x :: r => insI_sorted x (sortI_sorted r)
theorem sortI_of {l l' : List Int} (p : l'.Perm l) (s : l'.Pairwise (· ≤ ·)) : l' = sortI l :=
  List.Perm.eq_of_pairwise (le := (· ≤ ·)) (fun a b _ _ h1 h2 => Int.le_antisymm h1 h2) s (sortI_sorted l) (p.trans (sortI_perm l).symm)
abbrev leS (a b : Str) : Prop := a.cps.toList ≤ b.cps.toList
theorem leS_anti {a b : Str} (h1 : leS a b) (h2 : leS b a) : a = b := by
  have e : a.cps.toList = b.cps.toList := List.le_antisymm h1 h2
  obtain ⟨x⟩ := a
  obtain ⟨y⟩ := b
  congr
  exact Array.toList_inj.mp e
theorem leS_total (a b : Str) : leS a b ∨ leS b a := List.le_total _ _
theorem insS_perm (x : Str) : ∀ l : List Str, (insS x l).Perm (x :: l)
  | [] => .refl _
  | y :: r => by
    unfold insS
    split
    · exact .refl _
    · exact ((insS_perm x r).cons y).trans (.swap x y r)
theorem sortS_perm : ∀ l : List Str, (sortS l).Perm l
  | [] => .refl _
  | x :: r => (insS_perm x _).trans ((sortS_perm r).cons x)
theorem insS_sorted (x : Str) : ∀ {l : List Str}, l.Pairwise leS → (insS x l).Pairwise leS
  | [], _ => by simp [insS]
  | y :: r, h => by
    unfold insS
    have h' := List.pairwise_cons.mp h
    split
    · rename_i hxy
      have hxy := of_decide_eq_true hxy
      refine List.pairwise_cons.mpr ⟨fun z hz => ?_, h⟩
      rcases List.mem_cons.mp hz with rfl | hz
      · exact hxy
      · exact List.le_trans hxy (h'.1 z hz)
    · rename_i hxy
      have hyx : leS y x := (leS_total y x).resolve_right fun z => hxy (decide_eq_true z)
      refine List.pairwise_cons.mpr ⟨fun z hz => ?_, insS_sorted x h'.2⟩
      rcases List.mem_cons.mp ((insS_perm x r).mem_iff.mp hz) with rfl | hz
      · exact hyx
      · exact h'.1 z hz
theorem sortS_sorted : ∀ l : List Str, (sortS l).Pairwise leS
  | [] => .nil
  | x :: r => insS_sorted x (sortS_sorted r)
theorem sortedS_pair : ∀ (l : List Str), PyProof.Rows.sortedS l = true → l.Pairwise leS := by
  have step : ∀ (x : Str) (l : List Str), PyProof.Rows.risingS x l = true → (x :: l).Pairwise leS := by
    intro x l
    induction l generalizing x with
    | nil => intro _; simp
    | cons y r ih =>
      intro h
      unfold PyProof.Rows.risingS at h
      simp only [Bool.and_eq_true, Bool.not_eq_true', ltCps_eq, decide_eq_false_iff_not] at h
      have hxy : leS x y := List.not_lt.mp h.1
      have q := ih y h.2
      refine List.pairwise_cons.mpr ⟨fun z hz => ?_, q⟩
      rcases List.mem_cons.mp hz with rfl | hz
      · exact hxy
      · exact List.le_trans hxy ((List.pairwise_cons.mp q).1 z hz)
  intro l
  cases l with
  | nil => intro _; exact .nil
  | cons x r => exact step x r
theorem sortS_of {l l' : List Str} (p : l'.Perm l) (s : PyProof.Rows.sortedS l' = true) : l' = sortS l :=
  List.Perm.eq_of_pairwise (le := leS) (fun a b _ _ h1 h2 => leS_anti h1 h2) (sortedS_pair _ s) (sortS_sorted l) (p.trans (sortS_perm l).symm)

/-! ### the built-ins -/
def Bl.val : Bl → Value
  | .len => .builtin "len" | .abs => .builtin "abs" | .min => .builtin "min" | .max => .builtin "max" | .int => .type "int" | .str => .type "str" | .repr => .builtin "repr" | .sum => .builtin "sum" | .all => .builtin "all"
  | .any => .builtin "any" | .list => .type "list" | .tuple => .type "tuple" | .sorted => .builtin "sorted" | .bool => .type "bool"
theorem Bl.boot : ∀ b : Bl, bootBuiltins b.nm = some b.val := by intro b; cases b <;> decide +kernel
theorem Bl.nn : ∀ b : Bl, b.nm ≠ "__name__" := by intro b; cases b <;> decide +kernel
theorem Bl.nd : ∀ b : Bl, (b.nm == ("__debug__" : Str)) = false := by intro b; cases b <;> decide +kernel
section
variable {X : Cx} {K : PySem.W.Frag} {mg : Str → Option Value} {φ : List Addr} {H : Hp} {h : Hs} {W : Value → Option Addr → Hp → Prop}
theorem dvs_one {d : D} {vs : List V} (r : DVs K mg φ H [d] vs) : ∃ v, vs = [v] ∧ DV K mg φ H d v := by
  simp only [DVs] at r
  obtain ⟨v, w, rfl, h1, rfl⟩ := r
  exact ⟨v, rfl, h1⟩
theorem dvs_two {d e : D} {vs : List V} (r : DVs K mg φ H [d, e] vs) : ∃ v w, vs = [v, w] ∧ DV K mg φ H d v ∧ DV K mg φ H e w := by
  simp only [DVs] at r
  obtain ⟨v, w, rfl, h1, v2, w2, rfl, h2, rfl⟩ := r
  exact ⟨v, v2, rfl, h1, h2⟩
theorem call_repr (S : Sp0 X) : CallR X (.builtin "repr") (rsOf X (blD .repr)) := by
  intro pins s σ H xs us Q I r ⟨W, φ, h, as, hr, ra, p⟩
  match as, ra, p with
  | [], _, p => exact p.elim
  | _ :: _ :: _, _, p => exact p.elim
  | [d], ra, p =>
    obtain ⟨v, rfl, rv⟩ := dvs_one ra
    obtain ⟨u, rfl, ru⟩ := vals1 r
    simp only [blD] at p
    cases q : res deep h d with
    | none => rw [q] at p; exact p.elim
    | some x =>
      rw [q] at p
      obtain ⟨e, p⟩ := post_if p
      simp only [Bool.and_eq_true, Bool.not_eq_true', decide_eq_true_eq] at e
      obtain ⟨⟨⟨e1, e2⟩, e3⟩, e4⟩ := e
      have dp := res_at hr _ _ _ _ q rv
      obtain ⟨as, rd⟩ := Dp.reads I x v u dp ru
      have fin : ∀ h' w tk, (∀ b o, s.heap.get? b = some o → h'.get? b = some o) → EP X pins σ Q (.str x.shown w) { s with heap := h', toks := tk } := fun h' w tk k => ⟨.str x.shown, H, I.kept k, ⟨w, rfl⟩, p.ok hr vd_str⟩
      have su := S.units
      cases u with
      | ref a => exact repr_of_reads' rd e1 (PyData.noDict_hsm e2) S.guards (by omega) (fun _ _ z => z) fin (fits_le e4)
      | int i t =>
        cases rd
        exact PySem.P.repr_of_int (of_decide_eq_true e1) (fin s.heap _ _ fun _ _ z => z)
      | str y t =>
        cases rd
        exact PySem.P.repr_of_str (fin s.heap _ _ fun _ _ z => z) (fits_le e4)
      | bool b =>
        cases rd
        exact PySem.P.repr_of_bool (fin s.heap _ _ fun _ _ z => z)
      | none =>
        cases rd
        exact PySem.P.repr_of_none (fin s.heap _ _ fun _ _ z => z)
      | _ => cases rd

theorem list_call {f : Value} {m : List D → M D} (hm : ∀ as h, (∀ d, as ≠ [d]) → m as h = .stk)
    (one : ∀ (pins : List (Addr × Obj)) (s : Shared) (σ : L2.St) (H : Hp) (v : V) (u : Value) (Q : VK) (W : Value → Option Addr → Hp → Prop) (φ : List Addr) (h : Hs) (d : D), Inv X pins σ H s → RelV v u → HR X.K X.mg φ h H → DV X.K X.mg φ H d v →
      Post X W φ H (RD X) (m [d] h) Q → wpAny (model X.prog X.w) X.A (call f [u]) (EP X pins σ Q) X.xe s) : CallR X f (rsOf X m) := by
  intro pins s σ H xs us Q I r ⟨W, φ, h, as, hr, ra, p⟩
  by_cases e : ∃ d, as = [d]
  · obtain ⟨d, rfl⟩ := e
    obtain ⟨v, rfl, rv⟩ := dvs_one ra
    obtain ⟨u, rfl, ru⟩ := vals1 r
    exact one pins s σ H v u Q W φ h d I ru hr rv p
  · rw [hm as h fun d z => e ⟨d, z⟩] at p
    exact p.elim
theorem two_call {f : Value} {m : List D → M D} (hm : ∀ as h, (∀ i j, as ≠ [.int i, .int j]) → m as h = .stk)
    (two : ∀ (pins : List (Addr × Obj)) (s : Shared) (σ : L2.St) (H : Hp) (us : List Value) (Q : VK) (W : Value → Option Addr → Hp → Prop) (φ : List Addr) (h : Hs) (i j : Int), Inv X pins σ H s → Vals [.int i, .int j] us → HR X.K X.mg φ h H →
      Post X W φ H (RD X) (m [.int i, .int j] h) Q → wpAny (model X.prog X.w) X.A (call f us) (EP X pins σ Q) X.xe s) : CallR X f (rsOf X m) := by
  intro pins s σ H xs us Q I r ⟨W, φ, h, as, hr, ra, p⟩
  by_cases e : ∃ i j, as = [.int i, .int j]
  · obtain ⟨i, j, rfl⟩ := e
    obtain ⟨v, w, rfl, rv, rw'⟩ := dvs_two ra
    obtain rfl := dv_int rv
    obtain rfl := dv_int rw'
    exact two pins s σ H us Q W φ h i j I r hr p
  · rw [hm as h fun i j z => e ⟨i, j, z⟩] at p
    exact p.elim
theorem one_ne {m : List D → M D} (h0 : ∀ h, m [] h = .stk) (h2 : ∀ a b r h, m (a :: b :: r) h = .stk) : ∀ as h, (∀ d, as ≠ [d]) → m as h = .stk
  | [], h, _ => h0 h
  | [d], h, e => absurd rfl (e d)
  | a :: b :: r, h, _ => h2 a b r h
theorem one1 {x : V} {u : Value} (r : RelV x u) : Vals [x] [u] := .cons r .nil
theorem lenD_at (hr : HR K mg φ h H) {d : D} {v : V} {n : Nat} (e : lenD d h = some n) (r : DV K mg φ H d v) :
    LenV K v H n ∨ ∃ a kvs, v = .ref a ∧ H a = some (.dK kvs) ∧ n = kvs.length := by
  cases d with
  | str x =>
    obtain rfl := dv_str r
    simp only [lenD] at e
    split at e
    · cases e
      rename_i hf
      exact .inl ⟨fits_le hf, rfl⟩
    · cases e
  | tup xs =>
    simp only [lenD, itemsOf, Option.map_some, Option.some.injEq] at e
    obtain ⟨a, vs, rfl, s1, q1⟩ := tup_at r
    exact .inl (.inr ⟨vs, s1, by rw [← e, q1.length]⟩)
  | kl xs =>
    simp only [lenD, itemsOf, Option.map_some, Option.some.injEq] at e
    obtain ⟨a, vs, rfl, s1, q1⟩ := lstOf_at (d := .kl xs) hr r rfl
    exact .inl (.inl ⟨vs, s1, by rw [← e, q1.length]⟩)
  | ref n =>
    simp only [lenD] at e
    cases q : h[n]? with
    | none => rw [q] at e; cases e
    | some o =>
      rw [q] at e
      cases o with
      | lst xs =>
        simp only [Option.some.injEq] at e
        obtain ⟨a, vs, _, rfl, s1, q1⟩ := mut_at hr r q
        exact .inl (.inl ⟨vs, SqL.of s1, by rw [← e, q1.length]⟩)
      | dic lk kvs =>
        cases lk with
        | true => simp at e
        | false =>
          simp only [Option.some.injEq] at e
          simp only [DV] at r
          obtain ⟨a, ha, rfl⟩ := r
          obtain ⟨vs, h1, h2⟩ := hr.ob _ a _ ha q
          have dl : ∀ {ds : List (Key × D)} {vs : List (Key × V)}, DKs K mg φ H ds vs → ds.length = vs.length := by
            intro ds
            induction ds with
            | nil => intro vs h; simp only [DKs] at h; rw [h]; rfl
            | cons p ds ih => intro vs h; obtain ⟨k, d⟩ := p; simp only [DKs] at h; obtain ⟨v, r, rfl, _, h2⟩ := h; simp [ih h2]
          exact .inr ⟨a, vs, rfl, h1, by rw [← e, dl h2]⟩
      | dit lk kvs => cases lk <;> simp at e
      | ins c fs => simp at e
  | _ => simp [lenD, itemsOf] at e
theorem call_len' (S : Sp0 X) : CallR X (.builtin "len") (rsOf X (blD .len)) := by
  refine list_call (one_ne (fun _ => rfl) fun a _ _ _ => by cases a <;> rfl) fun pins s σ H v u Q W φ h d I ru hr rv p => ?_
  obtain ⟨n, e, p⟩ := post_opt p
  rcases lenD_at hr e rv with l | ⟨a, kvs, rfl, h1, rfl⟩
  · exact call_len pins s σ H [v] [u] Q I (one1 ru) ⟨v, n, rfl, l, p.ok hr vd_int⟩
  · exact call_lenD pins s σ H _ [u] Q I (one1 ru) ⟨a, kvs, rfl, h1, p.ok hr vd_int⟩
theorem call_abs' : CallR X (.builtin "abs") (rsOf X (blD .abs)) := by
  refine list_call (one_ne (fun _ => rfl) fun a _ _ _ => by cases a <;> rfl) fun pins s σ H v u Q W φ h d I ru hr rv p => ?_
  cases d <;> first | exact False.elim (show False from p) | skip
  obtain rfl := dv_int rv
  exact call_abs pins s σ H _ [u] Q I (one1 ru) ⟨_, rfl, p.ok hr vd_int⟩
theorem two_ne {b : Bl} (hb : b = .max ∨ b = .min) : ∀ as h, (∀ i j, as ≠ [.int i, .int j]) → blD b as h = .stk := by
  intro as h e
  rcases hb with rfl | rfl <;> (unfold blD; split <;> first | rfl | (rename_i q; first | cases q | skip))
  all_goals first | exact absurd rfl (e _ _) | simp_all
theorem call_max' (S : Sp0 X) : CallR X (.builtin "max") (rsOf X (blD .max)) :=
  two_call (two_ne (.inl rfl)) fun pins s σ H us Q W φ h i j I r hr p => call_max2 S.calm pins s σ H _ us Q I r ⟨i, j, rfl, p.ok hr vd_int⟩
theorem call_min' (S : Sp0 X) : CallR X (.builtin "min") (rsOf X (blD .min)) :=
  two_call (two_ne (.inr rfl)) fun pins s σ H us Q W φ h i j I r hr p => call_min2 S.calm pins s σ H _ us Q I r ⟨i, j, rfl, p.ok hr vd_int⟩
theorem call_int' : CallR X (.type "int") (rsOf X (blD .int)) := by
  refine list_call (one_ne (fun _ => rfl) fun a _ _ _ => by cases a <;> rfl) fun pins s σ H v u Q W φ h d I ru hr rv p => ?_
  cases d <;> first | exact False.elim (show False from p) | skip
  · obtain rfl := dv_bl rv
    exact call_int1 pins s σ H _ [u] Q I (one1 ru) (.inr ⟨_, rfl, p.ok hr vd_int⟩)
  · obtain rfl := dv_int rv
    exact call_int1 pins s σ H _ [u] Q I (one1 ru) (.inl ⟨_, rfl, p.ok hr vd_int⟩)
  · rename_i x
    obtain rfl := dv_str rv
    obtain ⟨e, p⟩ := post_if (show Post X W φ H (RD X) (if decide (x.length ≤ 640) = true then _ else .stk) Q from p)
    obtain ⟨n, e2, p⟩ := post_opt p
    exact call_int_str pins s σ H _ [u] Q I (one1 ru) ⟨x, n, rfl, e2, of_decide_eq_true e, p.ok hr vd_int⟩
theorem call_bool' : CallR X (.type "bool") (rsOf X (blD .bool)) := by
  refine list_call (one_ne (fun _ => rfl) fun a _ _ _ => by cases a <;> rfl) fun pins s σ H v u Q W φ h d I ru hr rv p => ?_
  cases d <;> first | exact False.elim (show False from p) | skip
  · obtain rfl := dv_bl rv
    exact call_bool1 pins s σ H _ [u] Q I (one1 ru) (.inr ⟨_, rfl, p.ok hr vd_bl⟩)
  · obtain rfl := dv_int rv
    exact call_bool1 pins s σ H _ [u] Q I (one1 ru) (.inl ⟨_, rfl, p.ok hr vd_bl⟩)
theorem call_str' : CallR X (.type "str") (rsOf X (blD .str)) := by
  refine list_call (one_ne (fun _ => rfl) fun a _ _ _ => by cases a <;> rfl) fun pins s σ H v u Q W φ h d I ru hr rv p => ?_
  cases d <;> first | exact False.elim (show False from p) | skip
  rename_i i
  obtain rfl := dv_int rv
  obtain ⟨e, p⟩ := post_if (show Post X W φ H (RD X) (if decide (i.natAbs.log2 < 1920) = true then _ else .stk) Q from p)
  exact call_str_int pins s σ H _ [u] Q I (one1 ru) ⟨i, rfl, of_decide_eq_true e, p.ok hr vd_str⟩
theorem call_sum' (S : Sp0 X) : CallR X (.builtin "sum") (rsOf X (blD .sum)) := by
  refine list_call (one_ne (fun _ => rfl) fun a _ _ _ => by cases a <;> rfl) fun pins s σ H v u Q W φ h d I ru hr rv p => ?_
  simp only [blD] at p
  cases q : lstOf d h with
  | none => rw [q] at p; exact p.elim
  | some xs =>
    rw [q] at p
    obtain ⟨ns, e, p⟩ := post_opt p
    obtain ⟨a, vs, rfl, s1, q1⟩ := lstOf_at hr rv q
    have z := ints_at e q1
    subst z
    exact cr_sum S.calm pins s σ H _ [u] Q I (one1 ru) ⟨a, ns, rfl, s1, p.ok hr vd_int⟩
theorem call_all' (S : Sp0 X) : CallR X (.builtin "all") (rsOf X (blD .all)) := by
  refine list_call (one_ne (fun _ => rfl) fun a _ _ _ => by cases a <;> rfl) fun pins s σ H v u Q W φ h d I ru hr rv p => ?_
  simp only [blD] at p
  cases q : lstOf d h with
  | none => rw [q] at p; exact p.elim
  | some xs =>
    rw [q] at p
    obtain ⟨ns, e, p⟩ := post_opt p
    obtain ⟨a, vs, rfl, s1, q1⟩ := lstOf_at hr rv q
    have z := bls_at e q1
    subst z
    exact cr_all S.calm pins s σ H _ [u] Q I (one1 ru) ⟨a, ns, rfl, s1, p.ok hr vd_bl⟩
theorem call_any' (S : Sp0 X) : CallR X (.builtin "any") (rsOf X (blD .any)) := by
  refine list_call (one_ne (fun _ => rfl) fun a _ _ _ => by cases a <;> rfl) fun pins s σ H v u Q W φ h d I ru hr rv p => ?_
  simp only [blD] at p
  cases q : lstOf d h with
  | none => rw [q] at p; exact p.elim
  | some xs =>
    rw [q] at p
    obtain ⟨ns, e, p⟩ := post_opt p
    obtain ⟨a, vs, rfl, s1, q1⟩ := lstOf_at hr rv q
    have z := bls_at e q1
    subst z
    exact cr_any S.calm pins s σ H _ [u] Q I (one1 ru) ⟨a, ns, rfl, s1, p.ok hr vd_bl⟩
theorem call_list' : CallR X (.type "list") (rsOf X (blD .list)) := by
  refine list_call (one_ne (fun _ => rfl) fun a _ _ _ => by cases a <;> rfl) fun pins s σ H v u Q W φ h d I ru hr rv p => ?_
  simp only [blD] at p
  cases q : itemsOf d h with
  | none => rw [q] at p; exact p.elim
  | some xs =>
    rw [q] at p
    obtain ⟨a, vs, rfl, s1, q1⟩ := itemsOf_at hr rv q
    exact call_list_of pins s σ H _ [u] Q I (one1 ru) ⟨a, vs, rfl, s1, fun l hl => p.lst hr q1 hl⟩
theorem call_tuple' : CallR X (.type "tuple") (rsOf X (blD .tuple)) := by
  refine list_call (one_ne (fun _ => rfl) fun a _ _ _ => by cases a <;> rfl) fun pins s σ H v u Q W φ h d I ru hr rv p => ?_
  have p' : Post X W φ H (RD X) (match itemsOf d h with
    | some xs => .ok (.tup xs) h
    | none => .stk) Q := by cases d <;> exact p
  cases q : itemsOf d h with
  | none => rw [q] at p'; exact p'.elim
  | some xs =>
    rw [q] at p'
    rcases itemsOf_cases q with rfl | e
    · obtain ⟨a, vs, rfl, s1, q1⟩ := tup_at rv
      exact call_tuple_of pins s σ H _ [u] Q I (one1 ru) ⟨a, vs, rfl, .inr ⟨s1, p'.ok hr rv⟩⟩
    · obtain ⟨a, vs, rfl, s1, q1⟩ := lstOf_at hr rv e
      exact call_tuple_of pins s σ H _ [u] Q I (one1 ru) ⟨a, vs, rfl, .inl ⟨s1, fun l hl => p'.tup hr q1 hl⟩⟩
theorem call_sorted' : CallR X (.builtin "sorted") (rsOf X (blD .sorted)) := by
  refine list_call (one_ne (fun _ => rfl) fun a _ _ _ => by cases a <;> rfl) fun pins s σ H v u Q W φ h d I ru hr rv p => ?_
  simp only [blD] at p
  cases q : lstOf d h with
  | none => rw [q] at p; exact p.elim
  | some xs =>
    rw [q] at p
    obtain ⟨e64, p⟩ := post_if p
    have e64 := of_decide_eq_true e64
    obtain ⟨a, vs, rfl, s1, q1⟩ := lstOf_at hr rv q
    cases e1 : strsOf xs with
    | some l =>
      rw [e1] at p
      have z := strs_at' e1 q1
      subst z
      refine cr_sortedS pins s σ H _ [u] Q I (one1 ru) ⟨a, l, rfl, s1, by have := q1.length; simp at this; omega, fun ys p' hp hs hn => ?_⟩
      rw [sortS_of hp hs]
      exact p.lst hr (dvs_strs _) hn
    | none =>
      rw [e1] at p
      cases e2 : intsOf xs with
      | none => rw [e2] at p; exact p.elim
      | some l =>
        rw [e2] at p
        have z := ints_at e2 q1
        subst z
        refine cr_sorted pins s σ H _ [u] Q I (one1 ru) ⟨a, l, rfl, s1, by have := q1.length; simp at this; omega, fun ys p' hp hs hn => ?_⟩
        rw [sortI_of hp hs]
        exact p.lst hr (dvs_ints _) hn
theorem ok_bl (S : Sp0 X) : ∀ b : Bl, CallR X b.val (rsOf X (blD b))
  | .len => call_len' S
  | .abs => call_abs'
  | .min => call_min' S
  | .max => call_max' S
  | .int => call_int'
  | .str => call_str'
  | .repr => call_repr S
  | .sum => call_sum' S
  | .all => call_all' S
  | .any => call_any' S
  | .list => call_list'
  | .tuple => call_tuple'
  | .sorted => call_sorted'
  | .bool => call_bool'

/-! ### isinstance -/
theorem ITy.boot : ∀ t : ITy, bootBuiltins t.nm = some (.type t.ty) := by intro t; cases t <;> decide +kernel
theorem ITy.nn : ∀ b : ITy, b.nm ≠ "__name__" := by intro b; cases b <;> decide +kernel
theorem ITy.nd : ∀ b : ITy, (b.nm == ("__debug__" : Str)) = false := by intro b; cases b <;> decide +kernel
theorem kb_non : ∀ t : ITy, kitB "NoneType" t.ty = some false := by intro t; cases t <;> decide +kernel
theorem kb_bl : ∀ t : ITy, kitB "bool" t.ty = some (match t with | .bool => true | .int => true | _ => false) := by intro t; cases t <;> decide +kernel
theorem kb_int : ∀ t : ITy, kitB "int" t.ty = some (match t with | .int => true | _ => false) := by intro t; cases t <;> decide +kernel
theorem kb_str : ∀ t : ITy, kitB "str" t.ty = some (match t with | .str => true | _ => false) := by intro t; cases t <;> decide +kernel
theorem kb_tuple : ∀ t : ITy, kitB "tuple" t.ty = some (match t with | .tuple => true | _ => false) := by intro t; cases t <;> decide +kernel
theorem kb_list : ∀ t : ITy, kitB "list" t.ty = some (match t with | .list => true | _ => false) := by intro t; cases t <;> decide +kernel
theorem kb_dict : ∀ t : ITy, kitB "dict" t.ty = some (match t with | .dict => true | _ => false) := by intro t; cases t <;> decide +kernel
theorem tyx_tup {a : Addr} {vs : List V} (s : SqT K H a vs) : TyX K H (.ref a) (.type "tuple") := by
  rcases s with (s | ⟨o, s⟩) | ⟨o, its, n, s, c, _⟩
  · exact .base (.tup s)
  · exact .fTuple s
  · exact .kTuple s c
theorem tyx_fzl {a : Addr} {vs : List V} (s : FzL K H a vs) : TyX K H (.ref a) (.type "list") := by
  rcases s with ⟨o, s⟩ | ⟨o, its, n, s, c, _⟩
  · exact .base (.frz s)
  · exact .kList s c
theorem isi_at (hr : HR K mg φ h H) {t : ITy} {d : D} {v : V} {b : Bool} (e : isiD t d h = some b) (r : DV K mg φ H d v) : ∃ T, TyX K H v (.type T) ∧ kitB T t.ty = some b := by
  cases d with
  | non => simp only [isiD, Option.some.injEq] at e; subst e; obtain rfl := dv_non r; exact ⟨_, .base .non, kb_non t⟩
  | bl c => simp only [isiD, Option.some.injEq] at e; subst e; obtain rfl := dv_bl r; exact ⟨_, .base (.bl c), kb_bl t⟩
  | int c => simp only [isiD, Option.some.injEq] at e; subst e; obtain rfl := dv_int r; exact ⟨_, .base (.int c), kb_int t⟩
  | str c => simp only [isiD, Option.some.injEq] at e; subst e; obtain rfl := dv_str r; exact ⟨_, .base (.str c), kb_str t⟩
  | tup ds =>
    simp only [isiD, Option.some.injEq] at e; subst e
    obtain ⟨a, vs, rfl, s1, _⟩ := tup_at r
    exact ⟨_, tyx_tup s1, kb_tuple t⟩
  | kl ds =>
    simp only [isiD, Option.some.injEq] at e; subst e
    simp only [DV] at r
    obtain ⟨a, vs, rfl, s1, _⟩ := r
    exact ⟨_, tyx_fzl s1, kb_list t⟩
  | ref n =>
    simp only [isiD] at e
    cases q : h[n]? with
    | none => rw [q] at e; cases e
    | some o =>
      rw [q] at e
      simp only [DV] at r
      obtain ⟨a, ha, rfl⟩ := r
      have ov := hr.ob n a _ ha q
      cases o with
      | lst xs =>
        simp only [Option.some.injEq] at e; subst e
        obtain ⟨vs, h1, _⟩ := ov
        exact ⟨_, .base (.lst h1), kb_list t⟩
      | dic lk kvs =>
        simp only [Option.some.injEq] at e; subst e
        cases lk with
        | false => obtain ⟨vs, h1, _⟩ := ov; exact ⟨_, .base (.dK h1), kb_dict t⟩
        | true => obtain ⟨o, vs, h1, _⟩ := ov; exact ⟨_, .fDict h1, kb_dict t⟩
      | dit lk kvs =>
        cases lk with
        | false =>
          simp only [Option.some.injEq] at e; subst e
          obtain ⟨vs, h1, _⟩ := ov; exact ⟨_, .base (.dT h1), kb_dict t⟩
        | true => simp at e
      | ins c fs => simp at e
  | _ => simp [isiD] at e
end
end PM
/-! Methods of built-in types. -/
namespace PM
open PySem PySem.Spec PyProof.Rows L2

def rmOf (X : Cx) (m : D → List D → M D) : V → List V → Hp → VK → Prop := fun x xs H Q => ∃ W φ h a as, HR X.K X.mg φ h H ∧ DV X.K X.mg φ H a x ∧ DVs X.K X.mg φ H as xs ∧ Post X W φ H (RD X) (m a as h) Q
def Mt.T (m : Mt) : String := if m.onStr then "str" else "list"
def Mt.id : Mt → String
  | .partition => "str.partition" | .split => "str.split" | .join => "str.join" | .startswith => "str.startswith" | .endswith => "str.endswith" | .scount => "str.count" | .rjust => "str.rjust"
  | .append => "list.append" | .extend => "list.extend" | .pop => "list.pop" | .popAt => "list.pop" | .insert => "list.insert" | .index => "list.index" | .clear => "list.clear"
theorem Mt.pa : ∀ m : Mt, PlainAttrs m.T := by intro m; cases m <;> first | exact F.plainAttrs_str | exact F.plainAttrs_list
theorem Mt.slot : ∀ m : Mt, Slot m.T m.nm m.id := by
  intro m; cases m
  · exact F.slot_str_partition
  · exact F.slot_str_split
  · exact F.slot_str_join
  · exact F.slot_str_startswith
  · exact F.slot_str_endswith
  · exact F.slot_str_count
  · exact F.slot_str_rjust
  · exact F.slot_list_append
  · exact F.slot_list_extend
  · exact F.slot_list_pop
  · exact F.slot_list_pop
  · exact F.slot_list_insert
  · exact F.slot_list_index
  · exact F.slot_list_clear
theorem Mt.ty : ∀ m : Mt, typeOf (.builtin m.id) = pure (.type "method_descriptor") := by
  intro m; cases m
  · exact F.type_str_partition
  · exact F.type_str_split
  · exact F.type_str_join
  · exact F.type_str_startswith
  · exact F.type_str_endswith
  · exact F.type_str_count
  · exact F.type_str_rjust
  · exact F.type_list_append
  · exact F.type_list_extend
  · exact F.type_list_pop
  · exact F.type_list_pop
  · exact F.type_list_insert
  · exact F.type_list_index
  · exact F.type_list_clear
section
variable {X : Cx} {W : Value → Option Addr → Hp → Prop} {φ : List Addr} {H : Hp} {h : Hs}
theorem firstEq_at {x : PyData} : ∀ {ds : List PyData} {j : Nat}, firstEq x ds = some j → (∃ z, ds[j]? = some z ∧ PyData.eqv z x = true) ∧ ∀ (m : Nat) (z : PyData), m < j → ds[m]? = some z → PyData.eqv z x = false
  | [], j, e => by cases e
  | z :: zs, j, e => by
    unfold firstEq at e
    cases q : PyData.eqv z x with
    | true =>
      rw [q] at e
      cases e
      exact ⟨⟨z, rfl, q⟩, fun m z h => absurd h (Nat.not_lt_zero _)⟩
    | false =>
      rw [q] at e
      cases q2 : firstEq x zs with
      | none => rw [q2] at e; cases e
      | some i =>
        rw [q2] at e
        cases e
        obtain ⟨⟨y, h1, h2⟩, h3⟩ := firstEq_at q2
        refine ⟨⟨y, by simpa using h1, h2⟩, fun m z' hm hz => ?_⟩
        cases m with
        | zero =>
          simp at hz; subst hz; exact q
        | succ m => exact h3 m z' (by have : m + 1 < i + 1 := hm; omega) (by simpa using hz)
theorem Post.set {ds : List D} {n : Nat} {Q : VK} {d : D} {x : V} {a : Addr} {o : HO} {vs : List V} (p : Post X W φ H (RD X) (.ok d (h.set n (.lst ds))) Q) (hr : HR X.K X.mg φ h H) (ha : φ[n]? = some a) (e : H a = some (.lst vs)) {ws : List V} (r : DVs X.K X.mg φ H ds ws) (rx : DV X.K X.mg φ H d x) : Q x (upd H a (.lst ws)) := by
  have le : Le φ φ H (upd H a (.lst ws)) := Le.set ha e trivial
  exact p φ _ x le (hr.set ha e trivial ⟨_, upd_same, r.mono le⟩) (DV.mono le _ _ rx)
theorem dvs_dropLast {K : PySem.W.Frag} {mg : Str → Option Value} {ds : List D} {vs : List V} (r : DVs K mg φ H ds vs) : DVs K mg φ H ds.dropLast vs.dropLast := by
  rw [List.dropLast_eq_take, List.dropLast_eq_take, r.length]; exact r.take _
theorem dvs_erase {K : PySem.W.Frag} {mg : Str → Option Value} {ds : List D} {vs : List V} (k : Nat) (r : DVs K mg φ H ds vs) : DVs K mg φ H (ds.eraseIdx k) (vs.eraseIdx k) := by
  rw [List.eraseIdx_eq_take_drop_succ, List.eraseIdx_eq_take_drop_succ]; exact (r.take _).append (r.drop _)
theorem fits_lt {n : Nat} (e : fits (n + 1) = true) : n < sizeLine := by have := fits_le e; omega
end
section
variable {X : Cx}
theorem mt_rjust' : MtR X "str.rjust" (fun x xs H Q => ∃ a i f, x = .str a ∧ xs = [.int i, .str f] ∧ PadOk i = true ∧ f.length = 1 ∧ Q (.str (Txt.rjustF a i (f.cps.getD 0 0))) H) := by
  intro pins s σ H x xs v us Q I rx rxs h
  obtain ⟨a, i, f, rfl, rfl, hp, hf, q⟩ := h
  obtain ⟨t, rfl⟩ := rx
  obtain ⟨u1, u2, rfl, ⟨t1, rfl⟩, ⟨t2, rfl⟩⟩ := rxs.two
  exact rjust_fill hp hf fun t' k => ⟨.str _, H, I.tok k, ⟨t', rfl⟩, q⟩
theorem ok_mt (S : Sp0 X) : ∀ m : Mt, MtR X m.id (rmOf X (mtD m)) := by
  intro m pins s σ H x0 xs v us Q I rx rxs ⟨W, φ, h, a, as, hr, ra, ras, p⟩
  have stk : ∀ {P : Prop}, (mtD m a as h = .stk) → P := fun e => by rw [e] at p; exact p.elim
  have hu : X.A.units + 65 < cLine := by have := S.units; omega
  cases m with
  | partition =>
    dsimp only [mtD] at p
    split at p
    · obtain rfl := dv_str ra
      obtain ⟨v1, rfl, r1⟩ := dvs_one ras
      obtain rfl := dv_str r1
      obtain ⟨e, p⟩ := post_if p
      simp only [Bool.and_eq_true, Bool.not_eq_true'] at e
      exact mt_partition pins s σ H _ _ v us Q I rx rxs ⟨_, _, rfl, rfl, e.1, fits_le e.2, fun c hc => p.tup hr (DVs.cons vd_str (DVs.cons vd_str (DVs.cons vd_str DVs.nil))) hc⟩
    · exact p.elim
  | split =>
    dsimp only [mtD] at p
    split at p
    · obtain rfl := dv_str ra
      obtain ⟨v1, rfl, r1⟩ := dvs_one ras
      obtain rfl := dv_str r1
      obtain ⟨e, p⟩ := post_if p
      simp only [Bool.and_eq_true, Bool.not_eq_true'] at e
      exact mt_split pins s σ H _ _ v us Q I rx rxs ⟨_, _, rfl, rfl, e.1, fits_le e.2, fun c hc => p.lst hr (dvs_strs _) hc⟩
    · exact p.elim
  | join =>
    dsimp only [mtD] at p
    split at p
    · obtain rfl := dv_str ra
      obtain ⟨v1, rfl, r1⟩ := dvs_one ras
      rename_i d
      cases q : itemsOf d h with
      | none => rw [q] at p; exact p.elim
      | some ds =>
        simp only [q] at p
        cases q2 : strsOf ds with
        | none => rw [q2] at p; exact p.elim
        | some ys =>
          simp only [q2] at p
          obtain ⟨e, p⟩ := post_if p
          obtain ⟨c, vs, rfl, sq, dv⟩ := itemsOf_at hr r1 q
          obtain rfl := strs_at' q2 dv
          exact mt_join pins s σ H _ _ v us Q I rx rxs ⟨_, _, ys, rfl, rfl, sq, of_decide_eq_true e, p.ok hr vd_str⟩
    · exact p.elim
  | startswith =>
    dsimp only [mtD] at p
    split at p
    · obtain rfl := dv_str ra
      obtain ⟨v1, rfl, r1⟩ := dvs_one ras
      obtain rfl := dv_str r1
      exact mt_startswith pins s σ H _ _ v us Q I rx rxs ⟨_, _, rfl, rfl, p.ok hr vd_bl⟩
    · exact p.elim
  | endswith =>
    dsimp only [mtD] at p
    split at p
    · obtain rfl := dv_str ra
      obtain ⟨v1, rfl, r1⟩ := dvs_one ras
      obtain rfl := dv_str r1
      exact mt_endswith pins s σ H _ _ v us Q I rx rxs ⟨_, _, rfl, rfl, p.ok hr vd_bl⟩
    · exact p.elim
  | scount =>
    dsimp only [mtD] at p
    split at p
    · obtain rfl := dv_str ra
      obtain ⟨v1, rfl, r1⟩ := dvs_one ras
      obtain rfl := dv_str r1
      exact mt_count pins s σ H _ _ v us Q I rx rxs ⟨_, _, rfl, rfl, p.ok hr vd_int⟩
    · exact p.elim
  | rjust =>
    dsimp only [mtD] at p
    split at p
    · obtain rfl := dv_str ra
      obtain ⟨v1, v2, rfl, r1, r2⟩ := dvs_two ras
      obtain rfl := dv_int r1
      obtain rfl := dv_str r2
      obtain ⟨e, p⟩ := post_if p
      simp only [Bool.and_eq_true, beq_iff_eq] at e
      exact mt_rjust' pins s σ H _ _ v us Q I rx rxs ⟨_, _, _, rfl, rfl, e.1, e.2, p.ok hr vd_str⟩
    · exact p.elim
  | append =>
    dsimp only [mtD] at p
    split at p
    · rename_i n y
      obtain ⟨v1, rfl, r1⟩ := dvs_one ras
      split at p
      · rename_i xs q
        obtain ⟨e, p⟩ := post_if p
        obtain ⟨c, vs, hc, rfl, hv, dv⟩ := mut_at hr ra q
        exact mt_append pins s σ H _ _ v us Q I rx rxs ⟨c, vs, v1, rfl, rfl, hv, by rw [← dv.length]; exact fits_lt e, p.set (o := .lst vs) hr hc hv (dv.append (DVs.cons r1 DVs.nil)) vd_non⟩
      · exact p.elim
    · exact p.elim
  | extend =>
    dsimp only [mtD] at p
    split at p
    · rename_i n m
      obtain ⟨v1, rfl, r1⟩ := dvs_one ras
      split at p
      · rename_i xs ys q q2
        obtain ⟨e, p⟩ := post_if p
        obtain ⟨c, vs, hc, rfl, hv, dv⟩ := mut_at hr ra q
        obtain ⟨c2, vs2, hc2, rfl, hv2, dv2⟩ := mut_at hr r1 q2
        exact mt_extend pins s σ H _ _ v us Q I rx rxs ⟨c, c2, vs, vs2, rfl, rfl, hv, hv2, by rw [← dv.length, ← dv2.length]; exact fits_le e, p.set (o := .lst vs) hr hc hv (dv.append dv2) vd_non⟩
      · exact p.elim
    · exact p.elim
  | pop =>
    dsimp only [mtD] at p
    split at p
    · rename_i n
      obtain rfl : xs = [] := by simpa only [DVs] using ras
      split at p
      · rename_i ys q
        obtain ⟨c, vs, hc, rfl, hv, dv⟩ := mut_at hr ra q
        split at p
        · rename_i y e
          obtain ⟨v1, e1, r1⟩ := dv.get' e
          exact mt_pop pins s σ H _ _ v us Q I rx rxs ⟨c, vs, v1, rfl, rfl, hv, by rw [← dv.length]; exact e1, p.set (o := .lst vs) hr hc hv (dvs_dropLast dv) r1⟩
        · exact p.elim
      · exact p.elim
    · exact p.elim
  | popAt =>
    dsimp only [mtD] at p
    split at p
    · rename_i n i
      obtain ⟨v1, rfl, r1⟩ := dvs_one ras
      obtain rfl := dv_int r1
      split at p
      · rename_i ys q
        obtain ⟨c, vs, hc, rfl, hv, dv⟩ := mut_at hr ra q
        obtain ⟨e, p⟩ := post_if p
        simp only [Bool.and_eq_true, decide_eq_true_eq] at e
        split at p
        · rename_i k ek
          split at p
          · rename_i y ey
            obtain ⟨v2, e1, r2⟩ := dv.get' ey
            exact mt_popAt pins s σ H _ _ v us Q I rx rxs ⟨c, vs, i, k, v2, rfl, rfl, hv, e.1, e.2, by rw [← dv.length]; exact ek, e1, p.set (o := .lst vs) hr hc hv (dvs_erase k dv) r2⟩
          · exact p.elim
        · exact p.elim
      · exact p.elim
    · exact p.elim
  | insert =>
    dsimp only [mtD] at p
    split at p
    · rename_i n i y
      obtain ⟨v1, v2, rfl, r1, r2⟩ := dvs_two ras
      obtain rfl := dv_int r1
      split at p
      · rename_i ys q
        obtain ⟨c, vs, hc, rfl, hv, dv⟩ := mut_at hr ra q
        obtain ⟨e, p⟩ := post_if p
        simp only [Bool.and_eq_true, decide_eq_true_eq] at e
        exact mt_insert pins s σ H _ _ v us Q I rx rxs ⟨c, vs, i, v2, rfl, rfl, hv, by rw [← dv.length]; exact fits_lt e.2, e.1.1, e.1.2, p.set (o := .lst vs) hr hc hv (((dv.take _).append (DVs.cons r2 DVs.nil)).append (dv.drop _)) vd_non⟩
      · exact p.elim
    · exact p.elim
  | index =>
    dsimp only [mtD] at p
    split at p
    · rename_i y
      obtain ⟨v1, rfl, r1⟩ := dvs_one ras
      split at p
      · rename_i ds x q1 q2
        obtain ⟨e, p⟩ := post_if p
        simp only [Bool.and_eq_true] at e
        split at p
        · rename_i j ej
          obtain ⟨⟨z, z1, z2⟩, z3⟩ := firstEq_at ej
          have d1 := res_at hr _ _ _ _ q1 ra
          have d2 := res_at hr _ _ _ _ q2 r1
          have rx' : ∃ c, x0 = V.ref c := by cases d1; exact ⟨_, rfl⟩
          obtain ⟨c, rfl⟩ := rx'
          exact mt_indexD hu pins s σ H _ _ v us Q I rx rxs ⟨c, v1, x, ds, j, z, rfl, rfl, d1, d2, e.1, e.2, z1, z2, z3, p.ok hr vd_int⟩
        · exact p.elim
      · exact p.elim
    · exact p.elim
  | clear =>
    dsimp only [mtD] at p
    split at p
    · rename_i n
      obtain rfl : xs = [] := by simpa only [DVs] using ras
      split at p
      · rename_i ys q
        obtain ⟨c, vs, hc, rfl, hv, dv⟩ := mut_at hr ra q
        exact mt_clear pins s σ H _ _ v us Q I rx rxs ⟨c, vs, rfl, rfl, hv, p.set (o := .lst vs) hr hc hv DVs.nil vd_non⟩
      · exact p.elim
    · exact p.elim
end
end PM
/-! One rule a construct. -/
namespace PM
open PySem PySem.Spec PyProof.Rows L2

/-! ### syntax -/
def notStar : Expr → Bool
  | .Starred _ _ => false
  | _ => true
theorem star_cons {e : Expr} (h : notStar e = true) (es : List Expr) (env : Env) : starEach (e :: es) env = (false, eval e env) :: starEach es env := by
  cases e <;> first | rfl | cases h
theorem star_plain : ∀ {es : List Expr} (h : es.all notStar = true) (env : Env) (pos : Pos), (backTo pos (starEach es env)).any (·.1) = false
  | [], _, _, _ => rfl
  | e :: es, h, env, pos => by
    simp only [List.all_cons, Bool.and_eq_true] at h
    rw [star_cons h.1]
    show (false || (backTo pos (starEach es env)).any (·.1)) = false
    rw [star_plain h.2]; rfl
theorem star_all : ∀ {es : List Expr} (h : es.all notStar = true) (env : Env) (pos : Pos), (backTo pos (starEach es env)).all (fun x => !x.1) = true
  | [], _, _, _ => rfl
  | e :: es, h, env, pos => by
    simp only [List.all_cons, Bool.and_eq_true] at h
    rw [star_cons h.1]
    show (true && (backTo pos (starEach es env)).all (fun x => !x.1)) = true
    rw [star_all h.2]; rfl
def notComp : Expr → Bool
  | .ListComp .. => false
  | .SetComp .. => false
  | .DictComp .. => false
  | _ => true
theorem swaps_no {e : Expr} (h : notComp e = true) (t : Option Expr) (l : Nat) (env : Env) : swapsWith e t l env = pure false := by
  cases e <;> first | rfl | cases h
def notSet : Expr → Bool
  | .Set .. => false
  | _ => true
theorem folded_no {e : Expr} (h : notSet e = true) (env : Env) (x : Value) : foldedSetIterable e env x = pure x := by
  cases e <;> first | rfl | cases h
def notSl : Expr → Bool
  | .Slice .. => false
  | _ => true
theorem plainIx {e : Expr} (h : notSl e = true) : PlainIx e := by
  intro o i
  cases e <;> first | rfl | cases h
theorem nobeh {e : Expr} (h : notSet e = true) (op : CmpOp) : behindInMarks op e = false := by
  cases e <;> first | rfl | cases h
/-- an expression whose test is its value's truth -/
def plainT : Expr → Bool
  | .UnaryOp .Not _ _ => false
  | .BoolOp .. => false
  | .IfExp .. => false
  | .Compare .. => false
  | _ => true
theorem isTrue_pl {e : Expr} (h : plainT e = true) (env : Env) (whole : Sem Value) : isTrue e env whole = (do let v ← whole; standAt e.pos; holding [v] (truthy v)) := by
  cases e with
  | UnaryOp op x p => cases op <;> first | rfl | cases h
  | BoolOp => cases h
  | IfExp => cases h
  | Compare => cases h
  | _ => rfl
def notSuper : Expr → Bool
  | .Call (.Name _ _) [] [] _ => false
  | _ => true
theorem attr_pl {e : Expr} (h : notSuper e = true) (m : Str) (env : Env) (whole : Sem Value) : attributeBase e m env whole = whole := by
  unfold attributeBase
  split
  · cases h
  · rfl

/-! ### the def's own surroundings -/
structure Scx where
  N : List Str
  sc : Scope
  own : Scope
  bl : List Str
  cs : List (Str × D)
  lev : Nat
/-- a constant of the top -/
def GlobV (X : Cx) (x : Str) (d : D) : Prop := ∃ v u, X.mg x = some u ∧ RelV v u ∧ ∀ φ H, DV X.K X.mg φ H d v
/-- what a def promises: its meaning -/
def spM (K : PySem.W.Frag) (mg : Str → Option Value) (m : List D → M D) : Sp := fun vs H Q E => ∃ φ ds h, HR K mg φ h H ∧ DVs K mg φ H ds vs ∧
  (match m ds h with
  | .ok d h' => ∀ φ' H' v, Le φ φ' H H' → HR K mg φ' h' H' → DV K mg φ' H' d v → Q v H'
  | .exc e h' => ∀ φ' H' c dd, Le φ φ' H H' → HR K mg φ' h' H' → XV K mg φ' H' e c dd → E c dd H'
  | .stk => False)
/-- how a call of that shape binds -/
def ShapeOk (K : PySem.W.Frag) (mg : Str → Option Value) (fd : FuncData) (ps : List Str) (sh : Shape) : Prop :=
  ∀ (s : Shared) (us ws : List Value), K.In s.heap → us.length = sh.n → ws.length = sh.ks.length → ∃ zs : List Value, BindsTo s fd ⟨us, sh.ks.zip ws⟩ (ps.zip zs) ∧
    ∀ (φ : List Addr) (H : Hp) (as bs rs : List D) (vs ys : List V), DVs K mg φ H as vs → Vals vs us → DVs K mg φ H bs ys → Vals ys ws → getAll (Src.get as bs) sh.src = some rs → ∃ xs, DVs K mg φ H rs xs ∧ Vals xs zs
structure CallOk (P : Program) (w : World) (K : PySem.W.Frag) (mg : Str → Option Value) (base : Heap) (fi : FI) : Prop where
  ex : ∃ f fd ps, mg fi.nm = some (.ref f) ∧ PySem.W.keepIn K (.ref f) = true ∧ FnG P w K mg base fi.lev f fd ps (spM K mg fi.m) ∧ ∀ sh ∈ fi.shapes, ShapeOk K mg fd ps sh
structure CtxOk (F : List FI) (X : Cx) (S : Scx) (W : WX) : Prop where
  nd : X.N.Nodup
  hN : X.N = S.N
  sc : X.env.scope = S.sc
  s0 : Sp0 X
  room : Room S.lev X.A
  tk : Takes X W
  bl : ∀ x ∈ S.bl, X.mg x = none
  cs : ∀ p ∈ S.cs, GlobV X p.1 p.2
  fn : ∀ fi ∈ F, CallOk X.prog X.w X.K X.mg X.base fi
  hloc : ∀ x, S.own.names.lookup x = some .local → X.env.scope.names.lookup x = some .local
  hcell : ∀ x, S.own.names.lookup x = some .cell → X.env.scope.names.lookup x = some .cell ∧ X.fn x = true
  po : PassesOwn (model X.prog X.w) X.A X.env X.xe
abbrev W0 : WX := fun _ _ _ _ => False
theorem takes0' {X : Cx} : Takes X W0 := fun u s' x => by
  obtain ⟨_, _, _, _, _, _, _, _, _, _, _, _, _, _, _, _, w⟩ := x
  exact w.elim

section
variable {X : Cx} {W : WX} {e e1 e2 e3 : Expr} {pos p p2 : Pos}
theorem _root_.L2.PE.imp {t t' : TE} (h : PE X e t) (i : ∀ σ H Q, t' σ H Q → t σ H Q) : PE X e t' := ⟨fun pins s σ H Q I hw => h.run pins s σ H Q I (i σ H Q hw)⟩
theorem _root_.L2.PT.imp {t t' : TT} (h : PT X e t) (i : ∀ σ H Q, t' σ H Q → t σ H Q) : PT X e t' := ⟨fun pins s σ H Q I hw => h.run pins s σ H Q I (i σ H Q hw)⟩
theorem _root_.L2.PW.imp {t t' : TT} (h : PW X e t) (i : ∀ σ H Q, t' σ H Q → t σ H Q) : PW X e t' := ⟨fun wh pins s σ H Q I hw => h.run wh pins s σ H Q I (i σ H Q hw)⟩
theorem _root_.L2.PA.imp {es : List Expr} {t t' : TA} (h : PA X es t) (i : ∀ σ H Q, t' σ H Q → t σ H Q) : PA X es t' := ⟨fun po pins s σ H Q I hw => h.run po pins s σ H Q I (i σ H Q hw)⟩
theorem _root_.L2.PK.imp {ks : List Keyword} {t t' : TA} (h : PK X ks t) (i : ∀ σ H Q, t' σ H Q → t σ H Q) : PK X ks t' := ⟨fun po pins s σ H Q I hw => h.run po pins s σ H Q I (i σ H Q hw)⟩
theorem _root_.L2.PO.imp {o : Option Expr} {t t' : L2.TO} (h : PO X o t) (i : ∀ σ H Q, t' σ H Q → t σ H Q) : PO X o t' := ⟨fun pins s σ H Q I hw => h.run pins s σ H Q I (i σ H Q hw)⟩
theorem _root_.L2.PS.imp {st : Stmt} {t t' : L2.TS} (h : PS X st t) (i : ∀ D σ H, t' D σ H → t D σ H) : PS X st t' := ⟨fun pins s σ H D I hw => h.run pins s σ H D I (i D σ H hw)⟩
theorem _root_.L2.PSs.imp {st : List Stmt} {t t' : L2.TS} (h : PSs X st t) (i : ∀ D σ H, t' D σ H → t D σ H) : PSs X st t' := ⟨fun pins s σ H D I hw => h.run pins s σ H D I (i D σ H hw)⟩
theorem _root_.L2.PG.imp {t t' : L2.TG} (h : PG X e t) (i : ∀ v σ H Q, t' v σ H Q → t v σ H Q) : PG X e t' := ⟨fun pins s σ H v u Q I r hw => h.run pins s σ H v u Q I r (i v σ H Q hw)⟩

abbrev TMe (X : Cx) (W : WX) (m : Loc → M D) : TE := tM X W (RD X) m
abbrev TMs (X : Cx) (W : WX) (m : Loc → M (List D)) : TA := tM X W (RDs X) m
abbrev TMt (X : Cx) (W : WX) (m : Loc → M Bool) : TT := tM X W RE m
abbrev TMo (X : Cx) (W : WX) (m : Loc → M (Option Int)) : L2.TO := tM X W RE m
/-- the shape of every step: the first part, then what follows -/
theorem tM_bind {α β γ δ : Type} {RV : List Addr → Hp → α → β → Prop} {RU : List Addr → Hp → γ → δ → Prop} {m : Loc → M α} {f : Loc → α → M γ} {σ : L2.St} {H : Hp} {Q : δ → Hp → Prop} {T : β → Hp → Prop}
    (p : tM X W RU (fun l => M.bind (m l) (f l)) σ H Q)
    (k : ∀ φ l h b H a, SR X.K X.mg φ H l σ → HR X.K X.mg φ h H → RV φ H a b → Post X (fun c d H' => W c d σ H') φ H RU (f l a h) Q → T b H) : tM X W RV m σ H T := by
  obtain ⟨φ, l, h, sr, hr, p⟩ := p
  exact ⟨φ, l, h, sr, hr, p.bind fun a h1 φ1 H1 b _ le hr1 rv p1 => k φ1 l h1 b H1 a (sr.mono le) hr1 rv p1⟩

theorem s_var {i : Nat} {x : Str} (h : PE X (.Name x pos) (tVar i)) (F : List FI) : PE X (.Name x pos) (TMe X W (denE F (.var i))) := by
  refine h.imp fun σ H Q ⟨φ, l, h, sr, hr, p⟩ => ?_
  simp only [denE] at p
  cases q : l[i]? with
  | none => rw [q] at p; exact p.elim
  | some o =>
    cases o with
    | none => rw [q] at p; exact p.elim
    | some d =>
      rw [q] at p
      obtain ⟨v, e, r⟩ := sr.get q
      exact ⟨v, e, Post.ok p hr r⟩
theorem s_cst {v : V} {d : D} (h : PE X e (tC v)) (hd : ∀ φ H, DV X.K X.mg φ H d v) (m : Loc → M D) (hm : ∀ l h, m l h = .ok d h) : PE X e (TMe X W m) := by
  refine h.imp fun σ H Q ⟨φ, l, h, sr, hr, p⟩ => ?_
  rw [hm] at p
  exact p.ok hr (hd _ _)
theorem s_bin {a b : Loc → M D} {op : Operator} (ha : PE X e1 (TMe X W a)) (hb : PE X e2 (TMe X W b)) : PE X (.BinOp e1 op e2 pos) (TMe X W fun l => M.bind (a l) fun x => M.bind (b l) fun y => binD op x y) := by
  refine (pe_op (ok_bin op) ha hb).imp fun σ H Q p => ?_
  refine tM_bind p fun φ l h x H1 da sr hr rx p1 => ?_
  exact ⟨φ, l, h, sr, hr, p1.bind fun db h2 φ2 H2 y _ le2 hr2 ry p2 => ⟨_, φ2, h2, da, db, hr2, rx.mono le2, ry, p2⟩⟩
theorem s_cmp {a b : Loc → M D} {op : CmpOp} (S : Sp0 X) (ha : PE X e1 (TMe X W a)) (hb : PE X e2 (TMe X W b)) (hm : behindInMarks op e2 = false) : PE X (.Compare e1 [op] [e2] pos) (TMe X W fun l => M.bind (a l) fun x => M.bind (b l) fun y => cmpD op x y) := by
  refine (pe_cmpR (ok_cmp S op) ha hb hm).imp fun σ H Q p => ?_
  refine tM_bind p fun φ l h x H1 da sr hr rx p1 => ?_
  exact ⟨φ, l, h, sr, hr, p1.bind fun db h2 φ2 H2 y _ le2 hr2 ry p2 => ⟨_, φ2, h2, da, db, hr2, rx.mono le2, ry, p2⟩⟩
theorem asBl_at {φ : List Addr} {H : Hp} {h : Hs} {W' : Value → Option Addr → Hp → Prop} {d : D} {x : V} {Q : Bool → Hp → Prop} (hr : HR X.K X.mg φ h H) (r : DV X.K X.mg φ H d x) (p : Post X W' φ H RE (asBl d h) Q) : ∃ k, x = .bl k ∧ Q k H := by
  cases d <;> first | exact False.elim (show False from p) | skip
  exact ⟨_, dv_bl r, Post.ok (RV := RE) p hr rfl⟩
theorem t_cmp {a b : Loc → M D} {op : CmpOp} (S : Sp0 X) (ha : PE X e1 (TMe X W a)) (hb : PE X e2 (TMe X W b)) (hm : behindInMarks op e2 = false) : PT X (.Compare e1 [op] [e2] pos) (TMt X W fun l => M.bind (a l) fun x => M.bind (b l) fun y => M.bind (cmpD op x y) asBl) := by
  refine (pt_cmpR (ok_cmp S op) ha hb hm).imp fun σ H Q p => ?_
  refine tM_bind p fun φ l h x H1 da sr hr rx p1 => ?_
  refine ⟨φ, l, h, sr, hr, p1.bind fun db h2 φ2 H2 y _ le2 hr2 ry p2 => ⟨_, φ2, h2, da, db, hr2, rx.mono le2, ry, p2.bind fun dc h3 φ3 H3 z _ le3 hr3 rz p3 => ?_⟩⟩
  exact asBl_at hr3 rz p3
theorem marks_no {o1 o2 : CmpOp} (h3 : notSet e3 = true) : lastMarks [o1, o2] [e2, e3] = false := by
  show behindInMarks o2 e3 = false
  exact nobeh h3 o2
theorem s_chn {a b c : Loc → M D} {o1 o2 : CmpOp} (S : Sp0 X) (ha : PE X e1 (TMe X W a)) (hb : PE X e2 (TMe X W b)) (hc : PE X e3 (TMe X W c)) (h3 : notSet e3 = true) :
    PE X (.Compare e1 [o1, o2] [e2, e3] pos) (TMe X W fun l => M.bind (a l) fun x => M.bind (b l) fun y => M.bind (cmpD o1 x y) fun r => match r with
    | .bl true => M.bind (c l) fun z => cmpD o2 y z
    | .bl false => M.ret (.bl false)
    | _ => M.stk) := by
  refine (pe_chain (ok_cmp S o1) (ok_cmp S o2) ha hb hc (marks_no h3)).imp fun σ H Q p => ?_
  refine tM_bind p fun φ l h x H1 da sr hr rx p1 => ?_
  refine ⟨φ, l, h, sr, hr, p1.bind fun db h2 φ2 H2 y _ le2 hr2 ry p2 => ⟨_, φ2, h2, da, db, hr2, rx.mono le2, ry, p2.bind fun dc h3 φ3 H3 z ez le3 hr3 rz p3 => ?_⟩⟩
  clear ez
  cases dc <;> first | exact False.elim (show False from p3) | skip
  rename_i k
  refine ⟨k, dv_bl rz, ?_⟩
  cases k with
  | false => exact iteF (Post.ok p3 hr3 vd_bl)
  | true => exact iteT ⟨φ3, l, h3, (sr.mono le2).mono le3, hr3, Post.bind p3 fun de h4 φ4 H4 w _ le4 hr4 rw' p4 => ⟨_, φ4, h4, db, de, hr4, (ry.mono le3).mono le4, rw', p4⟩⟩
theorem t_chn {a b c : Loc → M D} {o1 o2 : CmpOp} (S : Sp0 X) (ha : PE X e1 (TMe X W a)) (hb : PE X e2 (TMe X W b)) (hc : PE X e3 (TMe X W c)) (h3 : notSet e3 = true) :
    PT X (.Compare e1 [o1, o2] [e2, e3] pos) (TMt X W fun l => M.bind (a l) fun x => M.bind (b l) fun y => M.bind (cmpD o1 x y) fun r => match r with
    | .bl true => M.bind (c l) fun z => M.bind (cmpD o2 y z) asBl
    | .bl false => M.ret false
    | _ => M.stk) := by
  refine (pt_chain (ok_cmp S o1) (ok_cmp S o2) ha hb hc (marks_no h3)).imp fun σ H Q p => ?_
  refine tM_bind p fun φ l h x H1 da sr hr rx p1 => ?_
  refine ⟨φ, l, h, sr, hr, p1.bind fun db h2 φ2 H2 y _ le2 hr2 ry p2 => ⟨_, φ2, h2, da, db, hr2, rx.mono le2, ry, p2.bind fun dc h3 φ3 H3 z ez le3 hr3 rz p3 => ?_⟩⟩
  clear ez
  cases dc <;> first | exact False.elim (show False from p3) | skip
  rename_i k
  refine ⟨k, dv_bl rz, ?_⟩
  cases k with
  | false => exact iteF ⟨false, rfl, Post.ok (RV := RE) p3 hr3 rfl⟩
  | true =>
    refine iteT ⟨φ3, l, h3, (sr.mono le2).mono le3, hr3, Post.bind p3 fun de h4 φ4 H4 w _ le4 hr4 rw' p4 => ⟨_, φ4, h4, db, de, hr4, (ry.mono le3).mono le4, rw', p4.bind fun df h5 φ5 H5 w5 _ le5 hr5 rw5 p5 => ?_⟩⟩
    exact asBl_at hr5 rw5 p5
theorem s_neg {a : Loc → M D} (ha : PE X e1 (TMe X W a)) : PE X (.UnaryOp .USub e1 pos) (TMe X W fun l => M.bind (a l) negD) := by
  refine (pe_un ok_neg ha).imp fun σ H Q p => ?_
  exact tM_bind p fun φ l h x H1 da sr hr rx p1 => ⟨_, φ, h, da, hr, rx, p1⟩
theorem tru_at {φ : List Addr} {H : Hp} {h : Hs} {d : D} {x : V} {k : Bool} (hr : HR X.K X.mg φ h H) (r : DV X.K X.mg φ H d x) (e : truD d h = some k) : TruV X.K x H k := by
  cases d with
  | non => simp only [truD, Option.some.injEq] at e; obtain rfl := dv_non r; exact e.symm
  | bl b => simp only [truD, Option.some.injEq] at e; obtain rfl := dv_bl r; exact e.symm
  | int i => simp only [truD, Option.some.injEq] at e; obtain rfl := dv_int r; exact e.symm
  | str y =>
    simp only [truD] at e
    obtain rfl := dv_str r
    split at e
    · rename_i hf
      cases e
      refine ⟨fits_le hf, ?_⟩
      cases y.length <;> rfl
    · cases e
  | tup ds =>
    simp only [truD, Option.some.injEq] at e
    obtain ⟨a, vs, rfl, s1, q1⟩ := tup_at r
    refine .inr (.inl ⟨vs, s1, ?_⟩)
    rw [← e]; cases ds <;> (simp only [DVs] at q1) <;> first | (subst q1; rfl) | (obtain ⟨_, _, rfl, _⟩ := q1; rfl)
  | kl ds =>
    simp only [truD, Option.some.injEq] at e
    obtain ⟨a, vs, rfl, s1, q1⟩ := lstOf_at (d := .kl ds) hr r rfl
    refine .inl ⟨vs, s1, ?_⟩
    rw [← e]; cases ds <;> (simp only [DVs] at q1) <;> first | (subst q1; rfl) | (obtain ⟨_, _, rfl, _⟩ := q1; rfl)
  | ref n =>
    simp only [truD] at e
    cases q : h[n]? with
    | none => rw [q] at e; cases e
    | some o =>
      rw [q] at e
      cases o with
      | lst xs =>
        simp only [Option.some.injEq] at e
        obtain ⟨a, vs, _, rfl, s1, q1⟩ := mut_at hr r q
        refine .inl ⟨vs, SqL.of s1, ?_⟩
        rw [← e]; cases xs <;> (simp only [DVs] at q1) <;> first | (subst q1; rfl) | (obtain ⟨_, _, rfl, _⟩ := q1; rfl)
      | dic lk kvs =>
        cases lk with
        | true => simp at e
        | false =>
          simp only [Option.some.injEq] at e
          simp only [DV] at r
          obtain ⟨a, ha, rfl⟩ := r
          obtain ⟨vs, h1, q1⟩ := hr.ob _ a _ ha q
          refine .inr (.inr ⟨vs, h1, ?_⟩)
          rw [← e]
          cases kvs with
          | nil => simp only [DKs] at q1; subst q1; rfl
          | cons p r => obtain ⟨k, d⟩ := p; simp only [DKs] at q1; obtain ⟨_, _, rfl, _⟩ := q1; rfl
      | dit lk kvs => simp at e
      | ins c fs => simp at e
  | _ => simp [truD] at e
theorem s_not {a : Loc → M D} (ha : PE X e1 (TMe X W a)) : PE X (.UnaryOp .Not e1 pos) (TMe X W fun l => M.bind (a l) fun x h => opt2 (truD x h) (fun c => .bl (!c)) h) := by
  refine (pe_notT ha).imp fun σ H Q p => ?_
  refine tM_bind p fun φ l h x H1 da sr hr rx p1 => ?_
  obtain ⟨k, e, p2⟩ := post_opt p1
  exact ⟨k, tru_at hr rx e, p2.ok hr vd_bl⟩
theorem t_val {a : Loc → M D} (ha : PE X e (TMe X W a)) (h : plainT e = true) : PT X e (TMt X W fun l => M.bind (a l) fun x h => match truD x h with
    | some c => .ok c h
    | none => .stk) := by
  refine (pt_truth ha fun wh => isTrue_pl h X.env wh).imp fun σ H Q p => ?_
  refine tM_bind p fun φ l h x H1 da sr hr rx p1 => ?_
  cases q : truD da h with
  | none => rw [q] at p1; exact p1.elim
  | some k =>
    rw [q] at p1
    exact ⟨k, tru_at hr rx q, Post.ok (RV := RE) p1 hr rfl⟩
theorem t_not {a : Loc → M Bool} (ha : PT X e1 (TMt X W a)) : PT X (.UnaryOp .Not e1 pos) (TMt X W fun l => M.bind (a l) fun c => M.ret (!c)) := by
  refine (pt_not ha).imp fun σ H Q p => ?_
  refine tM_bind p fun φ l h x H1 da sr hr rx p1 => ?_
  cases rx
  exact Post.ok (RV := RE) p1 hr rfl
theorem s_ife {t : Loc → M Bool} {a b : Loc → M D} (ht : PT X e1 (TMt X W t)) (ha : PE X e2 (TMe X W a)) (hb : PE X e3 (TMe X W b)) : PE X (.IfExp e1 e2 e3 pos) (TMe X W fun l => M.bind (t l) fun c => if c then a l else b l) := by
  refine (pe_ifExp ht ha hb).imp fun σ H Q p => ?_
  refine tM_bind (RV := RE) p fun φ l h x H1 da sr hr rx p1 => ?_
  cases rx
  cases x with
  | true => exact iteT ⟨φ, l, h, sr, hr, p1⟩
  | false => exact iteF ⟨φ, l, h, sr, hr, p1⟩
theorem s_sub {a b : Loc → M D} (S : Sp0 X) (ha : PE X e1 (TMe X W a)) (hb : PE X e2 (TMe X W b)) (hs : notSl e2 = true) : PE X (.Subscript e1 e2 pos) (TMe X W fun l => M.bind (a l) fun x => M.bind (b l) fun y => subD x y) := by
  refine (pe_ix (ok_sub' S) ha hb (plainIx hs)).imp fun σ H Q p => ?_
  refine tM_bind p fun φ l h x H1 da sr hr rx p1 => ?_
  exact ⟨φ, l, h, sr, hr, p1.bind fun db h2 φ2 H2 y _ le2 hr2 ry p2 => ⟨_, φ2, h2, da, db, hr2, rx.mono le2, ry, p2⟩⟩
theorem o_none (F : List FI) : PO X none (TMo X W (denO F .none)) := po_none.imp fun σ H Q ⟨φ, l, h, sr, hr, p⟩ => Post.ok (RV := RE) p hr rfl
theorem o_some {a : Loc → M D} (ha : PE X e (TMe X W a)) : PO X (some e) (TMo X W fun l => M.bind (a l) fun x => match x with
    | .int i => M.ret (some i)
    | _ => M.stk) := by
  refine (po_some ha).imp fun σ H Q p => ?_
  refine tM_bind p fun φ l h x H1 da sr hr rx p1 => ?_
  cases da <;> first | exact False.elim (show False from p1) | skip
  exact ⟨_, dv_int rx, Post.ok (RV := RE) p1 hr rfl⟩
theorem s_slc {a : Loc → M D} {u v : Loc → M (Option Int)} {lo hi : Option Expr} (ha : PE X e1 (TMe X W a)) (hl : PO X lo (TMo X W u)) (hh : PO X hi (TMo X W v)) :
    PE X (.Subscript e1 (.Slice lo hi none p2) pos) (TMe X W fun l => M.bind (a l) fun x => M.bind (u l) fun i => M.bind (v l) fun j => slcD x i j) := by
  refine (pe_slice ok_slc ha hl hh).imp fun σ H Q p => ?_
  refine tM_bind p fun φ l h x H1 da sr hr rx p1 => ?_
  refine ⟨φ, l, h, sr, hr, p1.bind fun i h2 φ2 H2 i' _ le2 hr2 ri p2 => ⟨φ2, l, h2, sr.mono le2, hr2, p2.bind fun j h3 φ3 H3 j' _ le3 hr3 rj p3 => ?_⟩⟩
  cases ri
  cases rj
  exact ⟨_, φ3, h3, da, hr3, (rx.mono le2).mono le3, p3⟩
theorem a_nil (F : List FI) : PA X [] (TMs X W (denEs F .nil)) := pa_nil.imp fun σ H Q ⟨φ, l, h, sr, hr, p⟩ => Post.ok (RV := RDs X) p hr DVs.nil
theorem a_cons {a : Loc → M D} {b : Loc → M (List D)} {es : List Expr} (ha : PE X e (TMe X W a)) (hb : PA X es (TMs X W b)) (hs : notStar e = true) : PA X (e :: es) (TMs X W fun l => M.bind (a l) fun x => M.bind (b l) fun xs => M.ret (x :: xs)) := by
  refine (pa_cons ha hb (star_cons hs _ _)).imp fun σ H Q p => ?_
  refine tM_bind p fun φ l h x H1 da sr hr rx p1 => ?_
  exact ⟨φ, l, h, sr, hr, p1.bind fun ds h2 φ2 H2 xs _ le2 hr2 rxs p2 => Post.ok (RV := RDs X) p2 hr2 (DVs.cons (DV.mono le2 _ _ rx) rxs)⟩
theorem k_nil (F : List FI) : PK X [] (TMs X W (denEs F .nil)) := pk_nil.imp fun σ H Q ⟨φ, l, h, sr, hr, p⟩ => Post.ok (RV := RDs X) p hr DVs.nil
theorem k_cons {a : Loc → M D} {b : Loc → M (List D)} {ks : List Keyword} {nm : Option Str} (ha : PE X e (TMe X W a)) (hb : PK X ks (TMs X W b)) : PK X (⟨nm, e, pos⟩ :: ks) (TMs X W fun l => M.bind (a l) fun x => M.bind (b l) fun xs => M.ret (x :: xs)) := by
  refine (pk_cons ha hb).imp fun σ H Q p => ?_
  refine tM_bind p fun φ l h x H1 da sr hr rx p1 => ?_
  exact ⟨φ, l, h, sr, hr, p1.bind fun ds h2 φ2 H2 xs _ le2 hr2 rxs p2 => Post.ok (RV := RDs X) p2 hr2 (DVs.cons (DV.mono le2 _ _ rx) rxs)⟩
theorem s_tup {a : Loc → M (List D)} {es : List Expr} {k : Nat} (ha : PA X es (TMs X W a)) : PE X (.Tuple es k pos) (TMe X W fun l => M.bind (a l) fun xs h => if fits xs.length then .ok (.tup xs) h else .stk) := by
  refine (pe_tup ha).imp fun σ H Q p => ?_
  refine tM_bind p fun φ l h x H1 da sr hr rx p1 => ?_
  obtain ⟨e, p2⟩ := post_if p1
  exact ⟨by rw [← DVs.length rx]; exact fits_le e, fun c hc => p2.tup hr rx hc⟩
theorem s_lst {a : Loc → M (List D)} {es : List Expr} (ha : PA X es (TMs X W a)) : PE X (.List es pos) (TMe X W fun l => M.bind (a l) fun xs h => if fits xs.length then .ok (.ref h.length) (h ++ [.lst xs]) else .stk) := by
  refine (pe_lst ha).imp fun σ H Q p => ?_
  refine tM_bind p fun φ l h x H1 da sr hr rx p1 => ?_
  obtain ⟨e, p2⟩ := post_if p1
  exact ⟨by rw [← DVs.length rx]; exact fits_le e, fun c hc => p2.lst hr rx hc⟩
theorem s_bcl {a : Loc → M (List D)} {es : List Expr} {b : Bl} (S : Sp0 X) (ha : PA X (e1 :: es) (TMs X W a)) (hg : Gl X b.nm) (hm : X.mg b.nm = none) (hs : (e1 :: es).all notStar = true) :
    PE X (.Call (.Name b.nm p) (e1 :: es) [] pos) (TMe X W fun l => M.bind (a l) fun as => blD b as) := by
  have hs' : notStar e1 = true ∧ es.all notStar = true := by simpa [List.all_cons] using hs
  have imp : ∀ σ H Q, TMe X W (fun l => M.bind (a l) fun as => blD b as) σ H Q → tCB (rsOf X (blD b)) (TMs X W a) σ H Q := fun σ H Q p =>
    tM_bind p fun φ l h x H1 da sr hr rx p1 => ⟨_, φ, h, da, hr, rx, p1⟩
  have ok := ok_bl (X := X) S b
  have bt := Bl.boot b
  cases hv : b.val with
  | builtin id =>
    rw [hv] at ok bt
    exact (pe_callB ok hg hm bt ha b.nn b.nd (star_cons hs'.1 _ _) (star_plain hs'.2 _ _)).imp imp
  | type T =>
    rw [hv] at ok bt
    exact (pe_callTy ok hg hm bt ha b.nn b.nd (star_cons hs'.1 _ _) (star_plain hs'.2 _ _)).imp imp
  | _ => cases b <;> cases hv
theorem okTy_at {φ : List Addr} {H : Hp} {h : Hs} {m : Mt} {d : D} {x : V} (hr : HR X.K X.mg φ h H) (e : m.okTy d h = true) (r : DV X.K X.mg φ H d x) : tyV X.K m.T x H := by
  unfold Mt.okTy at e
  unfold Mt.T
  split at e
  · obtain rfl := dv_str r
    rw [e]; rfl
  · rename_i d' _
    simp only [Bool.and_eq_true, Bool.not_eq_true'] at e
    rw [e.1]
    cases q : lstOf d h with
    | none => rw [q] at e; cases e.2
    | some xs =>
      obtain ⟨a, vs, rfl, sq, dv⟩ := lstOf_at hr r q
      exact .inl ⟨rfl, vs, sq⟩
/-- o.m(..) of a built-in type -/
abbrev mthM (m : Mt) (o : Loc → M D) (a : Loc → M (List D)) : Loc → M D := fun l => M.bind (o l) fun x h => if m.okTy x h then M.bind (a l) (fun as => mtD m x as) h else .stk
theorem s_mth0 {o : Loc → M D} {m : Mt} {nm : Str} {apos : Pos} (F : List FI) (S : Sp0 X) (hn : m.nm = nm) (ho : PE X e1 (TMe X W o)) (hb : notSuper e1 = true) (hl : (apos.endLine == pos.line) = true) : PE X (.Call (.Attribute e1 nm apos) [] [] pos) (TMe X W (mthM m o (denEs F .nil))) := by
  subst hn
  refine (pe_bm0 m.pa m.slot m.ty (ok_mt S m) ho (attr_pl hb _ _ _) hl).imp fun σ H Q p => ?_
  refine tM_bind p fun φ l h x H1 da sr hr rx p1 => ?_
  obtain ⟨e, p2⟩ := post_if p1
  exact ⟨okTy_at hr e rx, _, φ, h, da, [], hr, rx, DVs.nil, p2⟩
theorem few_ok (env : Env) (pos : Pos) {es : List Expr} (hs : es.all notStar = true) (hl : decide (es.length < 30) = true) : ((backTo pos (starEach es env)).all (fun x => !x.1) && (backToKw pos (keywordEach [] env)).all (fun x => x.1.isSome) && decide (es.length + ([] : List Keyword).length + (if ([] : List Keyword).isEmpty then 0 else 1) < 30)) = true := by
  rw [star_all hs]
  show (true && true && decide (es.length + 0 + 0 < 30)) = true
  simpa using hl
theorem s_mth {o : Loc → M D} {a : Loc → M (List D)} {m : Mt} {nm : Str} {apos : Pos} {es : List Expr} (S : Sp0 X) (hn : m.nm = nm) (ho : PE X e1 (TMe X W o)) (ha : PA X (e2 :: es) (TMs X W a)) (hb : notSuper e1 = true) (hl : (apos.endLine == pos.line) = true) (hs : (e2 :: es).all notStar = true) (h30 : decide ((e2 :: es).length < 30) = true) :
    PE X (.Call (.Attribute e1 nm apos) (e2 :: es) [] pos) (TMe X W (mthM m o a)) := by
  subst hn
  have hs' : notStar e2 = true ∧ es.all notStar = true := by simpa [List.all_cons] using hs
  refine (pe_bm m.pa m.slot m.ty (ok_mt S m) ho ha (attr_pl hb _ _ _) (few_ok X.env pos hs h30) hl (star_cons hs'.1 _ _) (star_plain hs'.2 _ _)).imp fun σ H Q p => ?_
  refine tM_bind p fun φ l h x H1 da sr hr rx p1 => ?_
  obtain ⟨e, p2⟩ := post_if p1
  refine ⟨okTy_at hr e rx, φ, l, h, sr, hr, p2.bind fun as h2 φ2 H2 xs _ le2 hr2 rxs p3 => ⟨_, φ2, h2, da, as, hr2, rx.mono le2, rxs, p3⟩⟩
theorem s_isi {a : Loc → M D} {t : ITy} (ha : PE X e1 (TMe X W a)) (hg : Gl X "isinstance") (hm : X.mg "isinstance" = none) (hg2 : Gl X t.nm) (hm2 : X.mg t.nm = none) (hs : notStar e1 = true) :
    PE X (.Call (.Name "isinstance" p) [e1, .Name t.nm p2] [] pos) (TMe X W fun l => M.bind (a l) fun x h => opt2 (isiD t x h) .bl h) := by
  refine (pe_callB call_isi hg hm (by decide +kernel) (pa_cons ha (pa_cons (pe_bltn (v := .ty t.ty) hg2 hm2 t.boot rfl t.nn t.nd) pa_nil) (star_cons hs _ _)) (he := star_cons hs _ _)).imp fun σ H Q p => ?_
  refine tM_bind p fun φ l h x H1 da sr hr rx p1 => ?_
  obtain ⟨k, e, p2⟩ := post_opt p1
  obtain ⟨T, ty, kb⟩ := isi_at hr e rx
  exact ⟨x, .ty t.ty, .type T, .type t.ty, k, rfl, .ty _, ty, kit_ty kb, p2.ok hr vd_bl⟩
/-- several values by truth -/
theorem s_and1 {a : Loc → M D} (ha : PE X e (TMe X W a)) : PE X (.BoolOp .And [e] pos) (TMe X W a) := pe_one ha
theorem s_and {a b : Loc → M D} {es : List Expr} (ha : PE X e1 (TMe X W a)) (hb : PE X (.BoolOp .And (e2 :: es) pos) (TMe X W b)) : PE X (.BoolOp .And (e1 :: e2 :: es) pos) (TMe X W fun l => M.bind (a l) fun x h => match truD x h with
    | some true => b l h
    | some false => .ok x h
    | none => .stk) := by
  refine (pe_andT ha hb).imp fun σ H Q p => ?_
  refine tM_bind p fun φ l h x H1 da sr hr rx p1 => ?_
  cases q : truD da h with
  | none => rw [q] at p1; exact p1.elim
  | some k =>
    rw [q] at p1
    refine ⟨k, tru_at hr rx q, ?_⟩
    cases k with
    | true => exact iteT ⟨φ, l, h, sr, hr, p1⟩
    | false => exact iteF (Post.ok p1 hr rx)
theorem s_or1 {a : Loc → M D} (ha : PE X e (TMe X W a)) : PE X (.BoolOp .Or [e] pos) (TMe X W a) := pe_one ha
theorem s_or {a b : Loc → M D} {es : List Expr} (ha : PE X e1 (TMe X W a)) (hb : PE X (.BoolOp .Or (e2 :: es) pos) (TMe X W b)) : PE X (.BoolOp .Or (e1 :: e2 :: es) pos) (TMe X W fun l => M.bind (a l) fun x h => match truD x h with
    | some false => b l h
    | some true => .ok x h
    | none => .stk) := by
  refine (pe_orT ha hb).imp fun σ H Q p => ?_
  refine tM_bind p fun φ l h x H1 da sr hr rx p1 => ?_
  cases q : truD da h with
  | none => rw [q] at p1; exact p1.elim
  | some k =>
    rw [q] at p1
    refine ⟨k, tru_at hr rx q, ?_⟩
    cases k with
    | false => exact iteF ⟨φ, l, h, sr, hr, p1⟩
    | true => exact iteT (Post.ok p1 hr rx)
/-- several tests: all (u = true), or any -/
theorem tw_one {a : Loc → M Bool} (u : Bool) (ha : PT X e (TMt X W a)) : PW X (.BoolOp (if u then .And else .Or) [e] pos) (TMt X W fun l => M.bind (a l) fun c => if c == u then M.ret u else M.ret c) := by
  have imp : ∀ σ H Q, TMt X W (fun l => M.bind (a l) fun c => if c == u then M.ret u else M.ret c) σ H Q → TMt X W a σ H Q := fun σ H Q p =>
    tM_bind (RV := RE) p fun φ l h x H1 da sr hr rx p1 => by
      cases rx
      by_cases e : (x == u) = true
      · rw [if_pos e] at p1
        have e' := eq_of_beq e
        subst e'
        exact Post.ok (RV := RE) p1 hr rfl
      · rw [if_neg e] at p1
        exact Post.ok (RV := RE) p1 hr rfl
  cases u with
  | true => exact (pw_and1 ha).imp imp
  | false => exact (pw_or1 ha).imp imp
theorem tw_cons {a b : Loc → M Bool} {es : List Expr} (u : Bool) (ha : PT X e1 (TMt X W a)) (hb : PW X (.BoolOp (if u then .And else .Or) (e2 :: es) pos) (TMt X W b)) :
    PW X (.BoolOp (if u then .And else .Or) (e1 :: e2 :: es) pos) (TMt X W fun l => M.bind (a l) fun c => if c == u then b l else M.ret c) := by
  have imp : ∀ σ H Q, TMt X W (fun l => M.bind (a l) fun c => if c == u then b l else M.ret c) σ H Q → TMt X W a σ H (fun c H1 => if c = u then TMt X W b σ H1 Q else Q c H1) := fun σ H Q p =>
    tM_bind (RV := RE) p fun φ l h x H1 da sr hr rx p1 => by
      cases rx
      by_cases e : (x == u) = true
      · rw [if_pos e] at p1
        rw [if_pos (eq_of_beq e)]
        exact ⟨φ, l, h, sr, hr, p1⟩
      · rw [if_neg e] at p1
        rw [if_neg (fun z => e (by simp [z]))]
        exact Post.ok (RV := RE) p1 hr rfl
  cases u with
  | true =>
    refine (pw_and ha hb).imp fun σ H Q p => ?_
    obtain ⟨φ, l, h, sr, hr, q⟩ := imp σ H Q p
    refine ⟨φ, l, h, sr, hr, ?_⟩
    refine (show ∀ {r : R Bool} {Q1 Q2 : Bool → Hp → Prop}, Post X (fun c d H' => W c d σ H') φ H RE r Q1 → (∀ b H, Q1 b H → Q2 b H) → Post X (fun c d H' => W c d σ H') φ H RE r Q2 from fun {r Q1 Q2} p i => by cases r <;> first | exact fun φ' H' b l1 l2 l3 => i _ _ (p φ' H' b l1 l2 l3) | exact p) q fun b H hb => ?_
    cases b with
    | true => exact hb
    | false => exact hb
  | false =>
    refine (pw_or ha hb).imp fun σ H Q p => ?_
    obtain ⟨φ, l, h, sr, hr, q⟩ := imp σ H Q p
    refine ⟨φ, l, h, sr, hr, ?_⟩
    refine (show ∀ {r : R Bool} {Q1 Q2 : Bool → Hp → Prop}, Post X (fun c d H' => W c d σ H') φ H RE r Q1 → (∀ b H, Q1 b H → Q2 b H) → Post X (fun c d H' => W c d σ H') φ H RE r Q2 from fun {r Q1 Q2} p i => by cases r <;> first | exact fun φ' H' b l1 l2 l3 => i _ _ (p φ' H' b l1 l2 l3) | exact p) q fun b H hb => ?_
    cases b with
    | true => exact hb
    | false => exact hb

/-! ### calls -/
theorem run_g {ps : List Str} {f : Addr} {fd : FuncData} {k : Nat} {sp : Sp} {E : XK} {pins : List (Addr × Obj)} {σ : L2.St} {H : Hp} {s : Shared} {Q : VK} {args : Args} {zs : List Value} {xs : List V} (G : FnG X.prog X.w X.K X.mg X.base k f fd ps sp) (hr : Room k X.A) (hg : X.A.guards = some [])
    (hb : BindsTo s fd args (ps.zip zs)) (tk : Takes X W) (hW : ∀ c d H', E c d H' → W c d σ H') (I : Inv X pins σ H s) (r : Vals xs zs) (h : sp xs H Q E) : wpAny (model X.prog X.w) X.A (call (.ref f) args.pos args.kw) (EP X pins σ Q) X.xe s := by
  refine wpAny_call (codeAny_mono (G.run X.A X.stack s H args zs xs Q E hr hg I.env0 hb r h) fun r s' hq => ?_)
  cases r with
  | error e => exact tk e s' (XE.of_call I hW hq)
  | ok fl =>
    cases fl with
    | ret u => exact I.after hq
    | next => exact False.elim hq
    | brk => exact False.elim hq
    | cont => exact False.elim hq
theorem kw_all : ∀ {kws : List Keyword} (h : kws.all (fun k => k.arg.isSome) = true) (env : Env) (pos : Pos), (backToKw pos (keywordEach kws env)).all (·.1.isSome) = true
  | [], _, _, _ => rfl
  | ⟨n, e, p⟩ :: kws, h, env, pos => by
    simp only [List.all_cons, Bool.and_eq_true] at h
    show (n.isSome && (backToKw pos (keywordEach kws env)).all (·.1.isSome)) = true
    rw [kw_all h.2, Bool.and_true]
    exact h.1
theorem kw_any : ∀ {kws : List Keyword} (h : kws.all (fun k => k.arg.isSome) = true) (env : Env) (pos : Pos), (backToKw pos (keywordEach kws env)).any (·.1.isNone) = false
  | [], _, _, _ => rfl
  | ⟨n, e, p⟩ :: kws, h, env, pos => by
    simp only [List.all_cons, Bool.and_eq_true] at h
    show (n.isNone || (backToKw pos (keywordEach kws env)).any (·.1.isNone)) = false
    rw [kw_any h.2, Bool.or_false]
    have := h.1
    cases n with
    | none => cases this
    | some x => rfl
theorem kw_names : ∀ (kws : List Keyword) (env : Env) (pos : Pos), (backToKw pos (keywordEach kws env)).filterMap (·.1) = kws.filterMap (·.arg)
  | [], _, _ => rfl
  | ⟨n, e, p⟩ :: kws, env, pos => by
    have ih := kw_names kws env pos
    show ((n, _) :: backToKw pos (keywordEach kws env)).filterMap (·.1) = _
    cases n with
    | none => simpa [List.filterMap_cons] using ih
    | some x => simpa [List.filterMap_cons] using ih
section
variable {fi : FI} {sh : Shape} {f : Addr} {fd : FuncData} {ps : List Str}
/-- the call itself, behind the arguments -/
theorem cal_core (S : Sp0 X) (hr : Room fi.lev X.A) (tk : Takes X W) (G : FnG X.prog X.w X.K X.mg X.base fi.lev f fd ps (spM X.K X.mg fi.m)) (hb : ShapeOk X.K X.mg fd ps sh)
    {pins : List (Addr × Obj)} {s2 : Shared} {σ : L2.St} {H2 : Hp} {us ws : List Value} {vs ys : List V} {φ2 : List Addr} {h2 : Hs} {as bs : List D} {Q : VK} (I2 : Inv X pins σ H2 s2) (rv : Vals vs us) (ry : Vals ys ws) (hr2 : HR X.K X.mg φ2 h2 H2) (da : DVs X.K X.mg φ2 H2 as vs) (db : DVs X.K X.mg φ2 H2 bs ys)
    (l1 : us.length = sh.n) (l2 : ws.length = sh.ks.length)
    (p2 : Post X (fun c d H' => W c d σ H') φ2 H2 (RD X) ((match getAll (Src.get as bs) sh.src with | some vs => fi.m vs | none => M.stk : M D) h2) Q) : wpAny (model X.prog X.w) X.A (call (.ref f) us (sh.ks.zip ws)) (EP X pins σ Q) X.xe s2 := by
  obtain ⟨zs, hz, hrel⟩ := hb s2 us ws I2.kIn l1 l2
  cases q : getAll (Src.get as bs) sh.src with
  | none => rw [q] at p2; exact p2.elim
  | some rs =>
    rw [q] at p2
    obtain ⟨xs, dx, rx⟩ := hrel φ2 H2 as bs rs vs ys da rv db ry q
    refine run_g (E := fun c d H' => W c d σ H') (args := ⟨us, sh.ks.zip ws⟩) G hr S.guards hz tk (fun _ _ _ z => z) I2 rx ⟨φ2, rs, h2, hr2, dx, ?_⟩
    have p3 : Post X (fun c d H' => W c d σ H') φ2 H2 (RD X) (fi.m rs h2) Q := p2
    cases e : fi.m rs h2 with
    | ok d h3 => rw [e] at p3; exact p3
    | exc x h3 => rw [e] at p3; exact p3
    | stk => rw [e] at p3; exact p3.elim
theorem kw_len : ∀ {kws : List Keyword}, kws.all (fun k => k.arg.isSome) = true → (kws.filterMap (·.arg)).length = kws.length
  | [], _ => rfl
  | ⟨n, e, p⟩ :: kws, h => by
    simp only [List.all_cons, Bool.and_eq_true] at h
    cases n with
    | none => cases h.1
    | some x =>
      have ih := kw_len h.2
      simp [List.filterMap_cons, ih]
abbrev callM (fi : FI) (sh : Shape) (a b : Loc → M (List D)) : Loc → M D := fun l => M.bind (a l) fun as => M.bind (b l) fun bs => match getAll (Src.get as bs) sh.src with
  | some vs => fi.m vs
  | none => M.stk
variable {a b : Loc → M (List D)} {es : List Expr} {kws : List Keyword} {k : Keyword}
/-- f(e, .., k = v, ..) -/
theorem s_calP (G : CallOk X.prog X.w X.K X.mg X.base fi) (S : Sp0 X) (hr : Room fi.lev X.A) (tk : Takes X W) (hsh : sh ∈ fi.shapes) (hg : Gl X fi.nm) (hdb : (fi.nm == ("__debug__" : Str)) = false)
    (ha : PA X (e :: es) (TMs X W a)) (hk : PK X kws (TMs X W b)) (hs : (e :: es).all notStar = true) (hkw : kws.all (fun k => k.arg.isSome) = true) (hks : kws.filterMap (·.arg) = sh.ks)
    (la : ∀ l h xs h', a l h = .ok xs h' → xs.length = sh.n) (lb : ∀ l h xs h', b l h = .ok xs h' → xs.length = kws.length) :
    PE X (.Call (.Name fi.nm p) (e :: es) kws pos) (TMe X W (callM fi sh a b)) := by
  obtain ⟨f, fd, ps, hm, kp, G, hb⟩ := G.ex
  have hs' : notStar e = true ∧ es.all notStar = true := by simpa [List.all_cons] using hs
  have klen : sh.ks.length = kws.length := by rw [← hks, kw_len hkw]
  refine ⟨fun pins s σ H Q I h => ?_⟩
  refine wpAny_Call_Name_kw (ld_glob I hg hm ?_ hdb)
  refine PySem.W.callWith_KW (h₀ := X.base) I.ok.mod.kin kp (kw_all hkw _ _) (thn (ha.run pos pins s σ H (fun vs H1 => ∃ φ1 l h1 as, SR X.K X.mg φ1 H1 l σ ∧ HR X.K X.mg φ1 h1 H1 ∧ DVs X.K X.mg φ1 H1 as vs ∧ as.length = sh.n ∧
      Post X (fun c d H' => W c d σ H') φ1 H1 (RD X) (M.bind (b l) (fun bs => match getAll (Src.get as bs) sh.src with | some vs => fi.m vs | none => M.stk) h1) Q) I ?_)
    fun us s1 ⟨vs, H1, I1, rv, φ1, l, h1, as, sr1, hr1, da, ln, p1⟩ => ?_) (by rw [star_plain hs, kw_any hkw]; rfl) (star_cons hs'.1 _ _)
  · obtain ⟨φ, l, h0, sr, hr0, p0⟩ := h
    exact ⟨φ, l, h0, sr, hr0, p0.bind fun as h1 φ1 H1 vs ea le1 hr1 rv p1 => ⟨φ1, l, h1, as, sr.mono le1, hr1, rv, la l h0 as h1 ea, p1⟩⟩
  · refine thn (hk.run pos pins s1 σ H1 (fun ys H2 => ∃ φ2 h2 bs, HR X.K X.mg φ2 h2 H2 ∧ DVs X.K X.mg φ2 H2 as vs ∧ DVs X.K X.mg φ2 H2 bs ys ∧ bs.length = kws.length ∧
      Post X (fun c d H' => W c d σ H') φ2 H2 (RD X) ((match getAll (Src.get as bs) sh.src with | some vs => fi.m vs | none => M.stk : M D) h2) Q) I1 ⟨φ1, l, h1, sr1, hr1, p1.bind fun bs h2 φ2 H2 ys eb le2 hr2 ry p2 => ⟨φ2, h2, bs, hr2, da.mono le2, ry, lb l h1 bs h2 eb, p2⟩⟩)
      fun ws s2 ⟨ys, H2, I2, ry, φ2, h2, bs, hr2, da2, db, lnb, p2⟩ => ⟨I2.kIn, ?_⟩
    rw [kw_names, hks]
    exact cal_core (us := us) S hr tk G (hb sh hsh) I2 rv ry hr2 da2 db (by rw [← rv.length, ← da2.length]; exact ln) (by rw [← ry.length, ← db.length, lnb, klen]) p2
/-- f(k = v, ..) -/
theorem s_calK (F : List FI) (G : CallOk X.prog X.w X.K X.mg X.base fi) (S : Sp0 X) (hr : Room fi.lev X.A) (tk : Takes X W) (hsh : sh ∈ fi.shapes) (hg : Gl X fi.nm) (hdb : (fi.nm == ("__debug__" : Str)) = false)
    (hk : PK X kws (TMs X W b)) (hkw : kws.all (fun k => k.arg.isSome) = true) (hks : kws.filterMap (·.arg) = sh.ks) (hn : sh.n = 0)
    (lb : ∀ l h xs h', b l h = .ok xs h' → xs.length = kws.length) :
    PE X (.Call (.Name fi.nm p) [] kws pos) (TMe X W (callM fi sh (denEs F .nil) b)) := by
  obtain ⟨f, fd, ps, hm, kp, G, hb⟩ := G.ex
  have klen : sh.ks.length = kws.length := by rw [← hks, kw_len hkw]
  refine ⟨fun pins s σ H Q I h => ?_⟩
  obtain ⟨φ, l, h0, sr, hr0, p0⟩ := h
  have p1 : Post X (fun c d H' => W c d σ H') φ H (RD X) (M.bind (b l) (fun bs => match getAll (Src.get [] bs) sh.src with | some vs => fi.m vs | none => M.stk) h0) Q := p0
  refine wpAny_Call_Name_kw (ld_glob I hg hm ?_ hdb)
  refine PySem.W.callWith_KW0 (h₀ := X.base) I.ok.mod.kin kp (kw_all hkw _ _) ?_ (by rw [kw_any hkw]; rfl)
  refine thn (hk.run pos pins s σ H (fun ys H2 => ∃ φ2 h2 bs, HR X.K X.mg φ2 h2 H2 ∧ DVs X.K X.mg φ2 H2 bs ys ∧ bs.length = kws.length ∧
      Post X (fun c d H' => W c d σ H') φ2 H2 (RD X) ((match getAll (Src.get [] bs) sh.src with | some vs => fi.m vs | none => M.stk : M D) h2) Q) I ⟨φ, l, h0, sr, hr0, p1.bind fun bs h2 φ2 H2 ys eb le2 hr2 ry p2 => ⟨φ2, h2, bs, hr2, ry, lb l h0 bs h2 eb, p2⟩⟩)
      fun ws s2 ⟨ys, H2, I2, ry, φ2, h2, bs, hr2, db, lnb, p2⟩ => ⟨I2.kIn, ?_⟩
  rw [kw_names, hks]
  exact cal_core (us := []) (vs := []) (as := []) S hr tk G (hb sh hsh) I2 .nil ry hr2 DVs.nil db hn.symm (by rw [← ry.length, ← db.length, lnb, klen]) p2
/-- f() -/
theorem s_cal0 (F : List FI) (G : CallOk X.prog X.w X.K X.mg X.base fi) (S : Sp0 X) (hr : Room fi.lev X.A) (tk : Takes X W) (hsh : sh ∈ fi.shapes) (hg : Gl X fi.nm) (hdb : (fi.nm == ("__debug__" : Str)) = false) (hn : sh.n = 0) (hks : sh.ks = []) :
    PE X (.Call (.Name fi.nm p) [] [] pos) (TMe X W (callM fi sh (denEs F .nil) (denEs F .nil))) := by
  obtain ⟨f, fd, ps, hm, kp, G, hb⟩ := G.ex
  refine ⟨fun pins s σ H Q I h => ?_⟩
  obtain ⟨φ, l, h0, sr, hr0, p0⟩ := h
  have p1 : Post X (fun c d H' => W c d σ H') φ H (RD X) ((match getAll (Src.get [] []) sh.src with | some vs => fi.m vs | none => M.stk : M D) h0) Q := p0
  refine wpAny_Call_Name_kw (ld_glob I hg hm ?_ hdb)
  refine PySem.W.callWith_K0 I.kIn kp ?_
  have q := cal_core (us := []) (vs := []) (as := []) (ws := []) (ys := []) (bs := []) S hr tk G (hb sh hsh) I .nil .nil hr0 DVs.nil DVs.nil hn.symm (by rw [hks]; rfl) p1
  rw [hks] at q
  exact q
end
end
end PM
/-! Loops, comprehensions, statements. -/
namespace PM
open PySem PySem.Spec PyProof.Rows L2

section
variable {X : Cx} {W : WX} {e e1 e2 e3 tg iter : Expr} {pos p p2 : Pos}
theorem _root_.L2.PI.or {t t' : L2.TI} (a : PI X tg iter t) (b : PI X tg iter t') : PI X tg iter (fun σ H R => t σ H R ∨ t' σ H R) := ⟨fun pins s σ H R I h => h.elim (a.run pins s σ H R I) (b.run pins s σ H R I)⟩
theorem _root_.L2.PI.imp {t t' : L2.TI} (a : PI X tg iter t) (i : ∀ σ H R, t' σ H R → t σ H R) : PI X tg iter t' := ⟨fun pins s σ H R I h => a.run pins s σ H R I (i σ H R h)⟩
theorem _root_.L2.PG.or {t t' : L2.TG} (a : PG X tg t) (b : PG X tg t') : PG X tg (fun v σ H Q => t v σ H Q ∨ t' v σ H Q) := ⟨fun pins s σ H v u Q I r h => h.elim (a.run pins s σ H v u Q I r) (b.run pins s σ H v u Q I r)⟩
theorem _root_.L2.PE.or {t t' : L2.TE} (a : PE X e t) (b : PE X e t') : PE X e (fun σ H Q => t σ H Q ∨ t' σ H Q) := ⟨fun pins s σ H Q I h => h.elim (a.run pins s σ H Q I) (b.run pins s σ H Q I)⟩
theorem _root_.L2.PS.or {st : Stmt} {t t' : L2.TS} (a : PS X st t) (b : PS X st t') : PS X st (fun D σ H => t D σ H ∨ t' D σ H) := ⟨fun pins s σ H D I h => h.elim (a.run pins s σ H D I) (b.run pins s σ H D I)⟩

/-! ### what a loop walks -/
structure Wk (X : Cx) (φ0 : List Addr) (H0 : Hp) (J : It) (items : List D) (chk : Hs → Bool) : Prop where
  go : ∀ φ h H i d, Le φ0 φ H0 H → HR X.K X.mg φ h H → chk h = true → items[i]? = some d → J.go i H ∧ ∀ x H', J.yld i H x H' → Le φ φ H H' ∧ HR X.K X.mg φ h H' ∧ DV X.K X.mg φ H' d x
  stop : ∀ φ h H i, Le φ0 φ H0 H → HR X.K X.mg φ h H → chk h = true → items.length ≤ i → J.stop i H
theorem Wk.le {φ0 φ1 : List Addr} {H0 H1 : Hp} {J : It} {items : List D} {chk : Hs → Bool} (S : Wk X φ0 H0 J items chk) (le : Le φ0 φ1 H0 H1) : Wk X φ1 H1 J items chk :=
  ⟨fun φ h H i d l => S.go φ h H i d (le.trans l), fun φ h H i l => S.stop φ h H i (le.trans l)⟩
def RWk (X : Cx) (φ : List Addr) (H : Hp) (p : List D × (Hs → Bool)) (J : It) : Prop := Wk X φ H J p.1 p.2
abbrev TMi (X : Cx) (W : WX) (m : Loc → M (List D × (Hs → Bool))) : L2.TI := tM X W (RWk X) m
theorem src_fz {φ0 : List Addr} {H0 : Hp} {a : Addr} {vs : List V} {ds : List D} {chk : Hs → Bool} (s : FzL X.K H0 a vs) (r : DVs X.K X.mg φ0 H0 ds vs) : Wk X φ0 H0 (Itl X.K a) ds chk where
  go := fun φ h H i d le hr _ e => by
    obtain ⟨v, ev, rv⟩ := (r.mono le).get' e
    exact ⟨⟨vs, v, (le.fzL s).seq, ev⟩, fun x H' ⟨e1, e2⟩ => by
      subst e1
      have := e2 vs (le.fzL s).seq
      rw [ev] at this; cases this
      exact ⟨Le.refl _ _, hr, rv⟩⟩
  stop := fun φ h H i le hr _ hl => ⟨vs, (le.fzL s).seq, by rw [← r.length]; exact hl⟩
theorem src_tup {φ0 : List Addr} {H0 : Hp} {a : Addr} {vs : List V} {ds : List D} {chk : Hs → Bool} (s : SqT X.K H0 a vs) (r : DVs X.K X.mg φ0 H0 ds vs) : Wk X φ0 H0 (Itt X.K a) ds chk where
  go := fun φ h H i d le hr _ e => by
    obtain ⟨v, ev, rv⟩ := (r.mono le).get' e
    exact ⟨⟨vs, v, le.sqT s, ev⟩, fun x H' ⟨e1, e2⟩ => by
      subst e1
      have := e2 vs (le.sqT s)
      rw [ev] at this; cases this
      exact ⟨Le.refl _ _, hr, rv⟩⟩
  stop := fun φ h H i le hr _ hl => ⟨vs, le.sqT s, by rw [← r.length]; exact hl⟩
theorem chk_at {n : Nat} {h : Hs} {xs : List D} (e : chkOf (.ref n) xs h = true) : h[n]? = some (.lst xs) := by
  simp only [chkOf] at e
  cases q : h[n]? with
  | none => rw [q] at e; cases e
  | some o =>
    rw [q] at e
    cases o with
    | lst ys => rw [D.beqs_eq ys xs e]
    | _ => cases e
theorem src_lst {φ0 : List Addr} {H0 : Hp} {n : Nat} {a : Addr} {ds : List D} (ha : φ0[n]? = some a) : Wk X φ0 H0 (Itl X.K a) ds (chkOf (.ref n) ds) where
  go := fun φ h H i d le hr c e => by
    obtain ⟨vs, h1, r⟩ := hr.ob n a _ (le.get ha) (chk_at c)
    obtain ⟨v, ev, rv⟩ := r.get' e
    exact ⟨⟨vs, v, SqL.of h1, ev⟩, fun x H' ⟨e1, e2⟩ => by
      subst e1
      have := e2 vs (SqL.of h1)
      rw [ev] at this; cases this
      exact ⟨Le.refl _ _, hr, rv⟩⟩
  stop := fun φ h H i le hr c hl => by
    obtain ⟨vs, h1, r⟩ := hr.ob n a _ (le.get ha) (chk_at c)
    exact ⟨vs, SqL.of h1, by rw [← r.length]; exact hl⟩
theorem src_str {φ0 : List Addr} {H0 : Hp} {x : Str} {chk : Hs → Bool} : Wk X φ0 H0 (Its x) (signs x) chk where
  go := fun φ h H i d le hr _ e => by
    unfold signs at e
    rw [List.getElem?_map] at e
    cases q : x.cps.toList[i]? with
    | none => rw [q] at e; cases e
    | some c =>
      rw [q] at e; cases e
      have q' : x.cps[i]? = some c := by simpa using q
      refine ⟨(Array.getElem?_eq_some_iff.mp q').1, fun v H' ⟨e1, c', e2, e3⟩ => ?_⟩
      rw [q'] at e2; cases e2
      subst e1 e3
      exact ⟨Le.refl _ _, hr, vd_str⟩
  stop := fun φ h H i le hr _ hl => by
    unfold signs at hl
    have : x.cps.size ≤ i := by simpa using hl
    exact this
theorem rangeD_get : ∀ (lo : Int) (n i : Nat), (rangeD lo n)[i]? = if i < n then some (.int (lo + i)) else none
  | lo, 0, i => by simp [rangeD]
  | lo, n + 1, 0 => by simp [rangeD]
  | lo, n + 1, i + 1 => by
    simp only [rangeD, List.getElem?_cons_succ, rangeD_get (lo + 1) n i]
    by_cases h : i < n
    · rw [if_pos h, if_pos (by omega)]; congr 2; omega
    · rw [if_neg h, if_neg (by omega)]
theorem rangeD_len : ∀ (lo : Int) (n : Nat), (rangeD lo n).length = n
  | _, 0 => rfl
  | lo, n + 1 => by simp [rangeD, rangeD_len (lo + 1) n]
theorem src_rng {φ0 : List Addr} {H0 : Hp} {lo : Int} {n : Nat} {chk : Hs → Bool} : Wk X φ0 H0 (Itr lo n) (rangeD lo n) chk where
  go := fun φ h H i d le hr _ e => by
    rw [rangeD_get] at e
    by_cases hi : i < n
    · rw [if_pos hi] at e; cases e
      exact ⟨hi, fun x H' ⟨e1, e2⟩ => by subst e1 e2; exact ⟨Le.refl _ _, hr, vd_int⟩⟩
    · rw [if_neg hi] at e; cases e
  stop := fun φ h H i le hr _ hl => by rw [rangeD_len] at hl; exact hl
theorem i_val {a : Loc → M D} (ha : PE X iter (TMe X W a)) : PI X tg iter (TMi X W fun l => M.bind (a l) fun d h => match iterD d h with
    | some xs => .ok (xs, chkOf d xs) h
    | none => .stk) := by
  refine ((pi_list ha).or ((pi_tup ha).or (pi_str ha))).imp fun σ H R p => ?_
  obtain ⟨φ, l, h, sr, hr, p⟩ := p
  -- by what comes
  cases e : a l h with
  | stk => simp only [M.bind, e] at p; exact p.elim
  | exc x h1 =>
    simp only [M.bind, e] at p
    exact .inl ⟨φ, l, h, sr, hr, by rw [e]; exact p⟩
  | ok d h1 =>
    have key : ∀ (T : V → Hp → Prop), (∀ φ1 H1 v, HR X.K X.mg φ1 h1 H1 → DV X.K X.mg φ1 H1 d v → (∀ xs, iterD d h1 = some xs → ∀ J, Wk X φ1 H1 J xs (chkOf d xs) → R J H1) → (∃ xs, iterD d h1 = some xs) → T v H1) → TMe X W a σ H T := fun T k =>
      ⟨φ, l, h, sr, hr, p.bind fun d' h1' φ1 H1 v e' le hr1 rv p1 => by
        rw [e] at e'; cases e'
        refine k φ1 H1 v hr1 rv (fun xs ex J s => ?_) ?_
        · rw [ex] at p1
          exact Post.ok (RV := RWk X) p1 hr1 s
        · cases q : iterD d h1 with
          | none => rw [q] at p1; exact p1.elim
          | some xs => exact ⟨xs, rfl⟩⟩
    cases d with
    | str x =>
      refine .inr (.inr (key _ fun φ1 H1 v hr1 rv k _ => ⟨x, dv_str rv, k _ rfl _ src_str⟩))
    | tup ds =>
      refine .inr (.inl (key _ fun φ1 H1 v hr1 rv k _ => ?_))
      obtain ⟨a1, vs, rfl, s1, q1⟩ := tup_at rv
      exact ⟨a1, rfl, ⟨vs, s1⟩, k ds rfl _ (src_tup s1 q1)⟩
    | kl ds =>
      refine .inl (key _ fun φ1 H1 v hr1 rv k _ => ?_)
      simp only [DV] at rv
      obtain ⟨a1, vs, rfl, s1, q1⟩ := rv
      exact ⟨a1, rfl, ⟨vs, s1.seq⟩, k ds rfl _ (src_fz s1 q1)⟩
    | ref n =>
      refine .inl (key _ fun φ1 H1 v hr1 rv k hx => ?_)
      obtain ⟨xs, hx⟩ := hx
      have hx' : h1[n]? = some (.lst xs) := by
        simp only [iterD, itemsOf] at hx
        cases q : h1[n]? with
        | none => rw [q] at hx; cases hx
        | some o =>
          rw [q] at hx
          cases o with
          | lst ys => simp only [Option.some.injEq] at hx; rw [hx]
          | _ => cases hx
      obtain ⟨a1, vs, ha1, rfl, s1, q1⟩ := mut_at hr1 rv hx'
      exact ⟨a1, rfl, ⟨vs, SqL.of s1⟩, k xs hx _ (src_lst ha1)⟩
    | _ => exact .inl (key _ fun φ1 H1 v hr1 rv k hx => by obtain ⟨xs, hx⟩ := hx; simp [iterD, itemsOf] at hx)
theorem bound_at {i : Int} (e : okBound i = true) : -(2 ^ 62) ≤ i ∧ i < 2 ^ 62 := by
  unfold okBound at e
  simp only [Bool.and_eq_true, decide_eq_true_eq] at e
  exact ⟨by have := e.1; omega, by have := e.2; omega⟩
theorem i_rng1 {a : Loc → M D} (hg : Gl X "range") (hm : X.mg "range" = none) (ha : PE X e (TMe X W a)) (hs : notStar e = true) : PI X tg (.Call (.Name "range" p) [e] [] pos) (TMi X W fun l => M.bind (a l) fun x h => match rng1D x with
    | some xs => .ok (xs, fun _ => true) h
    | none => .stk) := by
  refine (pi_range1 hg hm (pa_cons ha pa_nil (star_cons hs _ _)) (star_cons hs _ _)).imp fun σ H R p => ?_
  refine tM_bind (RV := RD X) p fun φ l h v H1 d sr hr rv p1 => ?_
  cases q : rng1D d with
  | none => rw [q] at p1; exact p1.elim
  | some xs =>
    rw [q] at p1
    cases d <;> simp [rng1D] at q
    rename_i j
    obtain ⟨hb, rfl⟩ := q
    obtain rfl := dv_int rv
    exact ⟨j, rfl, (bound_at hb).1, (bound_at hb).2, Post.ok (RV := RWk X) p1 hr (show Wk _ _ _ _ _ _ from src_rng)⟩
theorem i_rng2 {a b : Loc → M D} (hg : Gl X "range") (hm : X.mg "range" = none) (ha : PE X e (TMe X W a)) (hb : PE X e2 (TMe X W b)) (hs : notStar e = true) (hs2 : notStar e2 = true) : PI X tg (.Call (.Name "range" p) [e, e2] [] pos) (TMi X W fun l => M.bind (a l) fun x => M.bind (b l) fun y h => match rng2D x y with
    | some xs => .ok (xs, fun _ => true) h
    | none => .stk) := by
  have h2 := star_cons hs2 [] X.env
  have h1 := star_cons hs [e2] X.env
  refine (pi_range2 hg hm (pa_cons ha (pa_cons hb pa_nil h2) h1) (by rw [h1, h2]; rfl) h2).imp fun σ H R p => ?_
  refine tM_bind (RV := RD X) p fun φ l h v H1 d sr hr rv p1 => ?_
  refine ⟨φ, l, h, sr, hr, Post.bind p1 fun d2 h2 φ2 H2 v2 ez le2 hr2 rv2 p2 => ?_⟩
  clear ez
  cases q : rng2D d d2 with
  | none => rw [q] at p2; exact p2.elim
  | some xs =>
    rw [q] at p2
    cases d <;> cases d2 <;> simp [rng2D] at q
    rename_i i j
    obtain ⟨⟨hb1, hb2⟩, rfl⟩ := q
    obtain rfl := dv_int rv
    obtain rfl := dv_int rv2
    exact ⟨i, j, rfl, ⟨(bound_at hb1).1, (bound_at hb1).2, (bound_at hb2).1, (bound_at hb2).2⟩, Post.ok (RV := RWk X) p2 hr2 (show Wk _ _ _ _ _ _ from src_rng)⟩

/-! ### what a target leaves of the slots -/
mutual
def inOwn (own : List Nat) : YG → Bool
  | .name i => own.contains i
  | .tup gs => inOwns own gs
  | .star gs _ i => own.contains i && inOwns own gs
def inOwns (own : List Nat) : YGs → Bool
  | .nil => true
  | .cons g gs => inOwn own g && inOwns own gs
end
theorem wipe_set_in (σ : L2.St) (i : Nat) (x : Option V) : ∀ {vs : List Nat}, i ∈ vs → wipe (σ.set i x) vs = wipe σ vs
  | v :: vs, h => by
    unfold wipe
    by_cases e : v = i
    · subst e
      by_cases h2 : v ∈ vs
      · rw [wipe_set_in σ v x h2]
      · have comm : ∀ ws : List Nat, v ∉ ws → wipe (σ.set v x) ws = (wipe σ ws).set v x := by
          intro ws
          induction ws with
          | nil => intro _; rfl
          | cons w ws ih =>
            intro hw
            simp only [List.mem_cons, not_or] at hw
            unfold wipe
            rw [ih hw.2, List.set_comm _ _ (fun z => hw.1 z)]
        rw [comm vs h2, List.set_set]
    · have h2 : i ∈ vs := by
        rcases List.mem_cons.mp h with q | q
        · exact absurd q.symm e
        · exact q
      rw [wipe_set_in σ i x h2]
/-- σ' is σ but at the target's slots -/
def Zg (g : YG) (σ σ' : L2.St) : Prop := ∀ vs, inOwn vs g = true → wipe σ' vs = wipe σ vs
def Zgs (g : YGs) (σ σ' : L2.St) : Prop := ∀ vs, inOwns vs g = true → wipe σ' vs = wipe σ vs

/-! ### targets -/
/-- the reading of a target's meaning -/
def tG (X : Cx) (g : YG) : L2.TG := fun v σ H Q => ∃ φ l h d, SR X.K X.mg φ H l σ ∧ HR X.K X.mg φ h H ∧ DV X.K X.mg φ H d v ∧ (match asgG g d l h with
  | some (l', h') => ∀ φ' σ' H', Le φ φ' H H' → HR X.K X.mg φ' h' H' → SR X.K X.mg φ' H' l' σ' → Zg g σ σ' → Q σ' H'
  | none => False)
def tGs (X : Cx) (gs : YGs) : L2.TGs := fun vs σ H Q => ∃ φ l h ds, SR X.K X.mg φ H l σ ∧ HR X.K X.mg φ h H ∧ DVs X.K X.mg φ H ds vs ∧ (match asgGs gs ds l h with
  | some (l', h') => ∀ φ' σ' H', Le φ φ' H H' → HR X.K X.mg φ' h' H' → SR X.K X.mg φ' H' l' σ' → Zgs gs σ σ' → Q σ' H'
  | none => False)
theorem _root_.L2.PGs.imp {es : List Expr} {t t' : L2.TGs} (h : PGs X es t) (i : ∀ v σ H Q, t' v σ H Q → t v σ H Q) : PGs X es t' := ⟨fun pins s σ H v u Q I r hw => h.run pins s σ H v u Q I r (i v σ H Q hw)⟩
theorem g_name {i : Nat} {x : Str} (h : PG X (.Name x pos) (gName i)) : PG X (.Name x pos) (tG X (.name i)) := h.imp fun v σ H Q ⟨φ, l, h, d, sr, hr, rv, p⟩ =>
  p φ _ H (Le.refl _ _) hr (sr.set i rv) fun vs hv => wipe_set_in σ i _ (by simpa [inOwn] using hv)
theorem g_nil : PGs X [] (tGs X .nil) := pgs_nil.imp fun vs σ H Q ⟨φ, l, h, ds, sr, hr, rv, p⟩ => by
  cases ds with
  | nil =>
    simp only [DVs] at rv
    exact ⟨rv, p φ σ H (Le.refl _ _) hr sr fun _ _ => rfl⟩
  | cons d ds => exact p.elim
theorem g_cons {g : YG} {gs : YGs} {es : List Expr} (h1 : PG X e (tG X g)) (h2 : PGs X es (tGs X gs)) (hs : (assignEach (e :: es) X.env).map (·.2) = assign e X.env :: (assignEach es X.env).map (·.2)) :
    PGs X (e :: es) (tGs X (.cons g gs)) := by
  refine (pgs_cons h1 h2 hs).imp fun vs σ H Q ⟨φ, l, h, ds, sr, hr, rv, p⟩ => ?_
  cases ds with
  | nil => exact p.elim
  | cons d ds =>
    simp only [DVs] at rv
    obtain ⟨v, r, rfl, rd, rr⟩ := rv
    refine ⟨v, r, rfl, φ, l, h, d, sr, hr, rd, ?_⟩
    simp only [asgGs] at p
    cases q : asgG g d l h with
    | none => rw [q] at p; exact p.elim
    | some z =>
      obtain ⟨l1, h1⟩ := z
      rw [q] at p
      refine fun φ1 σ1 H1 le1 hr1 sr1 z1 => ⟨φ1, l1, h1, ds, sr1, hr1, rr.mono le1, ?_⟩
      cases q2 : asgGs gs ds l1 h1 with
      | none => simp only [q2] at p
      | some z2 =>
        obtain ⟨l2, h2'⟩ := z2
        simp only [q2] at p
        refine fun φ2 σ2 H2 le2 hr2 sr2 z2 => p φ2 σ2 H2 (le1.trans le2) hr2 sr2 fun vs hv => ?_
        simp only [inOwns, Bool.and_eq_true] at hv
        exact (z2 vs hv.2).trans (z1 vs hv.1)
def lenGs : YGs → Nat
  | .nil => 0
  | .cons _ gs => lenGs gs + 1
theorem asgGs_some : ∀ {gs : YGs} {ds : List D} {l : Loc} {h : Hs} {z : Loc × Hs}, asgGs gs ds l h = some z → ds.length = lenGs gs
  | .nil, [], _, _, _, _ => rfl
  | .nil, _ :: _, _, _, _, e => by simp [asgGs] at e
  | .cons g gs, [], _, _, _, e => by simp [asgGs] at e
  | .cons g gs, d :: ds, l, h, z, e => by
    simp only [asgGs] at e
    cases q : asgG g d l h with
    | none => rw [q] at e; cases e
    | some y =>
      obtain ⟨l1, h1⟩ := y
      rw [q] at e
      simp only [List.length_cons, lenGs, asgGs_some e]
theorem g_tup {gs : YGs} {es : List Expr} {k : Nat} (hc : X.calm = true) (h : PGs X es (tGs X gs)) (hn : (assignEach es X.env).length = lenGs gs) (hst : (assignEach es X.env).findIdx? (·.1) = none) : PG X (.Tuple es k pos) (tG X (.tup gs)) := by
  refine ((pg_tup hc h hn hst).or (pg_unl hc h hn hst)).imp fun v σ H Q ⟨φ, l, h, d, sr, hr, rv, p⟩ => ?_
  simp only [asgG] at p
  cases q : itemsOf d h with
  | none => rw [q] at p; exact p.elim
  | some xs =>
    rw [q] at p
    have ln : xs.length = lenGs gs := by
      cases q2 : asgGs gs xs l h with
      | none => simp only [q2] at p
      | some z => exact asgGs_some q2
    rcases itemsOf_cases q with rfl | e
    · obtain ⟨a1, vs, rfl, s1, q1⟩ := tup_at rv
      exact .inl ⟨a1, vs, rfl, s1, by rw [← q1.length]; exact ln, φ, l, h, xs, sr, hr, q1, p⟩
    · obtain ⟨a1, vs, rfl, s1, q1⟩ := lstOf_at hr rv e
      exact .inr ⟨a1, vs, rfl, s1, by rw [← q1.length]; exact ln, φ, l, h, xs, sr, hr, q1, p⟩

/-! ### list comprehensions -/
theorem wipeL_sr {K : PySem.W.Frag} {mg : Str → Option Value} {φ : List Addr} {H : Hp} {l : Loc} {σ : L2.St} (sr : SR K mg φ H l σ) : ∀ vs : List Nat, SR K mg φ H (wipeL l vs) (wipe σ vs)
  | [] => sr
  | v :: vs => (wipeL_sr sr vs).unset v none
/-- one turn's meaning -/
def turnM (g : YG) (own : List Nat) (l : Loc) (ts : Loc → M Bool) (el : Loc → M D) (x : D) (h : Hs) : R (Option D) := match asgG g x (wipeL l own) h with
  | some (l', h) => match ts l' h with
    | .ok true h1 => match el l' h1 with
      | .ok y h2 => .ok (some y) h2
      | _ => .stk
    | .ok false h1 => .ok none h1
    | _ => .stk
  | none => .stk
def lcmM (it : Loc → M (List D × (Hs → Bool))) (g : YG) (own : List Nat) (ts : Loc → M Bool) (el : Loc → M D) : Loc → M D := fun l => M.bind (it l) fun p h => match compL (turnM g own l ts el) p.2 p.1 h with
  | .ok ys h' => if fits ys.length then .ok (.ref h'.length) (h' ++ [.lst ys]) else .stk
  | _ => .stk
theorem Le.new_at {φ1 φ : List Addr} {H1 H : Hp} {D : Addr} {o : HO} (le : Le φ1 φ H1 H) (n : H1 D = none) : Le φ1 φ H1 (upd H D o) where
  toLeT := {
    pre := le.pre
    tup := fun a xs e => by rw [upd_ne (ne_of_none e n)]; exact le.tup a xs e
    frz := fun a x u e i => by rw [upd_ne (ne_of_none e n)]; exact le.frz a x u e i }
  fr := fun a x e m => by rw [upd_ne (ne_of_none e n)]; exact le.fr a x e m
  nw := le.nw
theorem s_lcm {it : Loc → M (List D × (Hs → Bool))} {g : YG} {own : List (Str × Nat)} {ts : Loc → M Bool} {el : Loc → M D} {wi : L2.TI} {gt : L2.TG} {tt : L2.TT} {te : L2.TE}
    (hw : ∀ σ H R, TMi X W it σ H R → wi σ H R) (hg : ∀ v σ H Q, tG X g v σ H Q → gt v σ H Q) (ht : ∀ σ H Q, TMt X W0 ts σ H Q → tt σ H Q) (he : ∀ σ H Q, TMe X W0 el σ H Q → te σ H Q) (ho : inOwn (own.map (·.2)) g = true)
    (σ : L2.St) (H : Hp) (Q : VK) (p : TMe X W (lcmM it g (own.map (·.2)) ts el) σ H Q) : tLc wi gt tt te (own.map (·.2)) σ H Q := by
  refine hw σ H _ (tM_bind p fun φ1 l1 h1 J H1 pr sr1 hr1 wk p1 => ?_)
  obtain ⟨items, chk⟩ := pr
  have wk : Wk X φ1 H1 J items chk := wk
  dsimp only at p1
  intro D hD
  cases ec : compL (turnM g (own.map (·.2)) l1 ts el) chk items h1 with
  | exc x hx => rw [ec] at p1; exact p1.elim
  | stk => rw [ec] at p1; exact p1.elim
  | ok zs hz =>
    rw [ec] at p1
    obtain ⟨hf, p1⟩ := post_if p1
    have hfl := fits_le hf
    refine ⟨fun i m H => m = items.length - i ∧ i ≤ items.length ∧ ∃ φ h acc ys av, Le φ1 φ H1 H ∧ D ∉ φ ∧ HR X.K X.mg φ h H ∧ H D = some (.lst av) ∧ DVs X.K X.mg φ H acc av ∧ compL (turnM g (own.map (·.2)) l1 ts el) chk (items.drop i) h = .ok ys hz ∧ acc ++ ys = zs ∧ SR X.K X.mg φ H l1 σ,
      ⟨items.length, by simp, Nat.zero_le _, φ1, h1, [], zs, [], Le.new hD, hr1.notin hD, hr1.new hD, upd_same, DVs.nil, ec, rfl, sr1.mono (Le.new hD)⟩, ?_⟩
    rintro i m H ⟨rfl, hi, φ, h, acc, ys, av, le, nD, hr, hDv, dv, ec', ez, sr⟩
    by_cases hlt : i < items.length
    · -- a turn
      have hd : items.drop i = items[i] :: items.drop (i + 1) := List.drop_eq_getElem_cons hlt
      rw [hd] at ec'
      simp only [compL] at ec'
      cases hc : chk h with
      | false => rw [hc] at ec'; cases ec'
      | true =>
        simp only [hc, if_true] at ec'
        have nx := wk.go φ h H i items[i] le hr hc (List.getElem?_eq_getElem hlt)
        refine .inr ⟨nx.1, fun H' => ∃ φ h acc ys av, Le φ1 φ H1 H' ∧ D ∉ φ ∧ HR X.K X.mg φ h H' ∧ H' D = some (.lst av) ∧ DVs X.K X.mg φ H' acc av ∧ compL (turnM g (own.map (·.2)) l1 ts el) chk (items.drop (i + 1)) h = .ok ys hz ∧ acc ++ ys = zs ∧ SR X.K X.mg φ H' l1 σ,
          fun H' q => ⟨items.length - (i + 1), by omega, rfl, by omega, q⟩, fun x H' hy => ?_⟩
        obtain ⟨le1, hr1', rx⟩ := nx.2 x H' hy
        unfold turnM at ec'
        cases q : asgG g items[i] (wipeL l1 (own.map (·.2))) h with
        | none => simp only [q] at ec'; cases ec'
        | some z =>
          obtain ⟨l2, h2⟩ := z
          refine hg _ _ _ _ ⟨φ, wipeL l1 (own.map (·.2)), h, items[i], wipeL_sr (sr.mono le1) _, hr1', rx, ?_⟩
          rw [q]
          refine fun φ2 σ2 H2 le2 hr2 sr2 z2 => ⟨?_, ht _ _ _ ⟨φ2, l2, h2, sr2, hr2, ?_⟩⟩
          · have e1 := z2 (own.map (·.2)) ho
            rw [e1]
            -- wiping twice
            have ww : ∀ vs ws : List Nat, (∀ v ∈ vs, v ∈ ws) → wipe (wipe σ ws) vs = wipe σ ws := by
              intro vs
              induction vs with
              | nil => intro ws _; rfl
              | cons v vs ih =>
                intro ws hv
                show (wipe (wipe σ ws) vs).set v none = wipe σ ws
                rw [ih ws fun u hu => hv u (List.mem_cons_of_mem _ hu)]
                have hm := hv v List.mem_cons_self
                clear ih hv
                induction ws with
                | nil => cases hm
                | cons w ws ih2 =>
                  show ((wipe σ ws).set w none).set v none = (wipe σ ws).set w none
                  by_cases e : w = v
                  · subst e; rw [List.set_set]
                  · have : v ∈ ws := by
                      rcases List.mem_cons.mp hm with q | q
                      · exact absurd q.symm e
                      · exact q
                    rw [List.set_comm _ _ e, ih2 this]
            exact ww _ _ fun v hv => hv
          · have ec1 : (match (match ts l2 h2 with
                | .ok true h1 => match el l2 h1 with
                  | .ok y h2 => .ok (some y) h2
                  | _ => .stk
                | .ok false h1 => .ok none h1
                | _ => .stk : R (Option PM.D)) with
              | .ok (some y) h1 => match compL (turnM g (own.map (·.2)) l1 ts el) chk (items.drop (i + 1)) h1 with
                | .ok ys h2 => .ok (y :: ys) h2
                | _ => .stk
              | .ok none h1 => compL (turnM g (own.map (·.2)) l1 ts el) chk (items.drop (i + 1)) h1
              | _ => .stk) = R.ok ys hz := by
              simp only [q] at ec'
              exact ec'
            clear ec'
            have h2D : H2 D = some (.lst av) := le2.fr D _ (le1.fr D _ hDv nD) nD
            have n2 : D ∉ φ2 := fun z => by
              have := le2.nw D z nD
              rw [le1.fr D _ hDv nD] at this; cases this
            cases et : ts l2 h2 with
            | exc x hx => rw [et] at ec1; cases ec1
            | stk => rw [et] at ec1; cases ec1
            | ok b h3 =>
              rw [et] at ec1
              refine fun φ3 H3 b' le3 hr3 eb => ?_
              cases (show b = b' from eb)
              have h3D : H3 D = some (.lst av) := le3.fr D _ h2D n2
              have n3 : D ∉ φ3 := fun z => by
                have := le3.nw D z n2
                rw [h2D] at this; cases this
              have leT := (le.trans (le1.trans (le2.trans le3)))
              cases b with
              | false =>
                refine iteF ⟨φ3, h3, acc, ys, av, leT, n3, hr3, h3D, ((dv.mono le1).mono le2).mono le3, ec1, ez, ((sr.mono le1).mono le2).mono le3⟩
              | true =>
                refine iteT (he _ _ _ ⟨φ3, l2, h3, sr2.mono le3, hr3, ?_⟩)
                cases ee : el l2 h3 with
                | exc x hx => simp only [ee] at ec1; cases ec1
                | stk => simp only [ee] at ec1; cases ec1
                | ok y h4 =>
                  simp only [ee] at ec1
                  refine fun φ4 H4 v le4 hr4 rv => ?_
                  have h4D : H4 D = some (.lst av) := le4.fr D _ h3D n3
                  have n4 : D ∉ φ4 := fun z => by
                    have := le4.nw D z n3
                    rw [h3D] at this; cases this
                  cases er : compL (turnM g (own.map (·.2)) l1 ts el) chk (items.drop (i + 1)) h4 with
                  | exc x hx => rw [er] at ec1; cases ec1
                  | stk => rw [er] at ec1; cases ec1
                  | ok ys' h5 =>
                    rw [er] at ec1
                    cases ec1
                    have dv4 := (((dv.mono le1).mono le2).mono le3).mono le4
                    have off : LeT φ4 φ4 H4 (upd H4 D (.lst (av ++ [v]))) := LeT.off h4D trivial
                    refine ⟨av, h4D, ?_, φ4, h4, acc ++ [y], ys', av ++ [v], (leT.trans le4).new_at hD, n4, hr4.off h4D trivial n4, upd_same, ((dv4.append (DVs.one rv)).monoT off), er, by rw [List.append_assoc]; exact ez, ((((sr.mono le1).mono le2).mono le3).mono le4).monoT off⟩
                    have l1' := dv.length
                    have l2' := congrArg List.length ez
                    rw [List.length_append] at l2'
                    simp only [List.length_cons] at l2'
                    omega
    · -- the end
      have e : items.drop i = [] := List.drop_eq_nil_of_le (by omega)
      rw [e] at ec'
      simp only [compL] at ec'
      cases hc : chk h with
      | false => rw [hc] at ec'; cases ec'
      | true =>
        simp only [hc, if_true] at ec'
        cases ec'
        rw [List.append_nil] at ez
        subst ez
        refine .inl ⟨wk.stop φ _ H i le hr hc (by omega), ?_⟩
        have lp : LeT φ (φ ++ [D]) H H := ⟨List.prefix_append _ _, fun _ _ h => h, fun _ _ _ h _ => h⟩
        have nw : ∀ a, a ∈ φ ++ [D] → a ∉ φ1 → H1 a = none := fun a ha n => by
          rcases List.mem_append.mp ha with z | z
          · exact le.nw a z n
          · have : a = D := by simpa using z
            rw [this]; exact hD
        have hln := hr.len
        refine p1 (φ ++ [D]) H (.ref D) ⟨⟨List.IsPrefix.trans le.pre lp.pre, le.tup, le.frz⟩, le.fr, nw⟩ (hr.adopt nD ⟨av, hDv, dv.monoT lp⟩) ?_
        show DV _ _ _ _ _ _
        simp only [DV]
        exact ⟨D, by rw [← hln]; simp, rfl⟩
end
end PM
/-! Statements. -/
namespace PM
open PySem PySem.Spec PyProof.Rows L2

section
variable (X : Cx) (W : WX)
def PostF (D : Ends) (φ : List Addr) (H : Hp) (fl : Fl) (σ : L2.St) : Prop := match fl with
  | .nx => D.nx σ H
  | .bk => D.bk σ H
  | .ct => D.ct σ H
  | .rt d => ∀ v, DV X.K X.mg φ H d v → D.rt v H
  | .ex e => ∀ c dd, XV X.K X.mg φ H e c dd → W c dd σ H
def PostS (D : Ends) (φ : List Addr) (H : Hp) (r : RS) : Prop := match r with
  | some (fl, l', h') => ∀ φ' H' σ', Le φ φ' H H' → HR X.K X.mg φ' h' H' → SR X.K X.mg φ' H' l' σ' → PostF X W D φ' H' fl σ'
  | none => False
/-- the reading of a statement's meaning -/
def tS (m : Loc → Hs → RS) : L2.TS := fun D σ H => ∃ φ l h, SR X.K X.mg φ H l σ ∧ HR X.K X.mg φ h H ∧ PostS X W D φ H (m l h)
end
section
variable {X : Cx} {W : WX} {e e1 e2 e3 tg iter : Expr} {pos p p2 : Pos} {En : Ends} {φ φ' : List Addr} {H H' : Hp} {α β : Type}
theorem PostS.le {r : RS} (le : Le φ φ' H H') (p : PostS X W En φ H r) : PostS X W En φ' H' r := by
  cases r with
  | none => exact p
  | some z => exact fun φ2 H2 σ2 l2 hr sr => p φ2 H2 σ2 (le.trans l2) hr sr
theorem PostS.now {fl : Fl} {l : Loc} {h : Hs} {σ : L2.St} (p : PostS X W En φ H (some (fl, l, h))) (hr : HR X.K X.mg φ h H) (sr : SR X.K X.mg φ H l σ) : PostF X W En φ H fl σ := p φ H σ (Le.refl _ _) hr sr
/-- an expression, then what follows -/
theorem ofE_post {RV : List Addr → Hp → α → β → Prop} {m : M α} {h : Hs} {l : Loc} {k : α → Hs → RS} {T : β → Hp → Prop} {σ : L2.St} (p : PostS X W En φ H (ofE (m h) l k)) (sr : SR X.K X.mg φ H l σ)
    (f : ∀ a h1 φ1 H1 b, m h = .ok a h1 → Le φ φ1 H H1 → HR X.K X.mg φ1 h1 H1 → RV φ1 H1 a b → SR X.K X.mg φ1 H1 l σ → PostS X W En φ1 H1 (k a h1) → T b H1) : Post X (fun c d H' => W c d σ H') φ H RV (m h) T := by
  cases e : m h with
  | ok a h1 =>
    rw [e] at p
    exact fun φ1 H1 b le hr rv => f a h1 φ1 H1 b e le hr rv (sr.mono le) (PostS.le le p)
  | exc x h1 =>
    rw [e] at p
    exact fun φ1 H1 c dd le hr xv => p φ1 H1 σ le hr (sr.mono le) c dd xv
  | stk =>
    rw [e] at p
    exact p
theorem z_nil (F : List FI) : PSs X [] (tS X W (denSs F .nil)) := pss_nil.imp fun D σ H ⟨φ, l, h, sr, hr, p⟩ => p.now hr sr
theorem z_one {st : Stmt} {m : Loc → Hs → RS} (h : PS X st (tS X W m)) : PSs X [st] (tS X W m) := pss_one h
theorem z_cons {st : Stmt} {sts : List Stmt} {m1 m2 : Loc → Hs → RS} (h1 : PS X st (tS X W m1)) (h2 : PSs X sts (tS X W m2)) : PSs X (st :: sts) (tS X W fun l h => match m1 l h with
    | some (.nx, l', h') => m2 l' h'
    | r => r) := by
  refine (pss_cons h1 h2).imp fun D σ H ⟨φ, l, h, sr, hr, p⟩ => ⟨φ, l, h, sr, hr, ?_⟩
  cases e : m1 l h with
  | none => simp only [e] at p; exact p
  | some z =>
    obtain ⟨fl, l1, h1⟩ := z
    simp only [e] at p
    cases fl with
    | nx => exact fun φ1 H1 σ1 le hr1 sr1 => ⟨φ1, l1, h1, sr1, hr1, PostS.le le p⟩
    | bk => exact p
    | ct => exact p
    | rt d => exact p
    | ex x => exact p
theorem z_exp {a : Loc → M D} (ha : PE X e (TMe X W a)) (hn : notComp e = true) : PS X (.Expr e pos) (tS X W fun l h => ofE (a l h) l fun _ h' => some (.nx, l, h')) := by
  refine (ps_expr ha (swaps_no hn _ _ _)).imp fun D σ H ⟨φ, l, h, sr, hr, p⟩ => ⟨φ, l, h, sr, hr, ofE_post p sr fun d h1 φ1 H1 v _ le hr1 rv sr1 p1 => p1.now hr1 sr1⟩
theorem z_ret {a : Loc → M D} (ha : PE X e (TMe X W a)) : PS X (.Return (some e) pos) (tS X W fun l h => ofE (a l h) l fun d h' => some (.rt d, l, h')) := by
  refine (ps_ret ha).imp fun D σ H ⟨φ, l, h, sr, hr, p⟩ => ⟨φ, l, h, sr, hr, ofE_post p sr fun d h1 φ1 H1 v _ le hr1 rv sr1 p1 => p1.now hr1 sr1 v rv⟩
theorem z_retn (F : List FI) : PS X (.Return none pos) (tS X W (denS F .retn)) := ps_retN.imp fun D σ H ⟨φ, l, h, sr, hr, p⟩ => p.now hr sr _ vd_non
theorem z_brk (F : List FI) : PS X (.Break pos) (tS X W (denS F .brk)) := ps_break.imp fun D σ H ⟨φ, l, h, sr, hr, p⟩ => p.now hr sr
theorem z_cnt (F : List FI) : PS X (.Continue pos) (tS X W (denS F .cnt)) := ps_continue.imp fun D σ H ⟨φ, l, h, sr, hr, p⟩ => p.now hr sr
theorem z_pass (F : List FI) : PS X (.Pass pos) (tS X W (denS F .pass)) := ps_pass.imp fun D σ H ⟨φ, l, h, sr, hr, p⟩ => p.now hr sr
theorem z_doc (F : List FI) {x : Str} {j : Nat} : PS X (.Expr (.Constant (.str x) j p) pos) (tS X W (denS F .pass)) := ps_doc.imp fun D σ H ⟨φ, l, h, sr, hr, p⟩ => p.now hr sr
theorem z_never (F : List FI) (st : Stmt) : PS X st (tS X W (denS F .never)) := ps_never.imp fun D σ H ⟨φ, l, h, sr, hr, p⟩ => p
theorem z_ife {t : Loc → M Bool} {a b : Loc → Hs → RS} {xs ys : List Stmt} (ht : PT X e (TMt X W t)) (ha : PSs X xs (tS X W a)) (hb : PSs X ys (tS X W b)) : PS X (.If e xs ys pos) (tS X W fun l h => ofE (t l h) l fun c h' => if c then a l h' else b l h') := by
  refine (ps_if ht ha hb).imp fun D σ H ⟨φ, l, h, sr, hr, p⟩ => ⟨φ, l, h, sr, hr, ofE_post (RV := RE) p sr fun c h1 φ1 H1 b' _ le hr1 rv sr1 p1 => ?_⟩
  cases (show c = b' from rv)
  cases c with
  | true => exact iteT ⟨φ1, l, h1, sr1, hr1, p1⟩
  | false => exact iteF ⟨φ1, l, h1, sr1, hr1, p1⟩
/-- target = value -/
def setM (g : YG) (a : Loc → M D) : Loc → Hs → RS := fun l h => ofE (a l h) l fun d h' => match asgG g d l h' with
  | some (l', h2) => some (.nx, l', h2)
  | none => none
theorem set_post {g : YG} {a : Loc → M D} {l : Loc} {h : Hs} {σ : L2.St} (sr : SR X.K X.mg φ H l σ) (p : PostS X W En φ H (setM g a l h)) : Post X (fun c d H' => W c d σ H') φ H (RD X) (a l h) (fun v H1 => tG X g v σ H1 En.nx) := by
  refine ofE_post p sr fun d h1 φ1 H1 v _ le hr1 rv sr1 p1 => ⟨φ1, l, h1, d, sr1, hr1, rv, ?_⟩
  cases q : asgG g d l h1 with
  | none => rw [q] at p1; exact p1
  | some z =>
    obtain ⟨l2, h2⟩ := z
    rw [q] at p1
    exact fun φ2 σ2 H2 le2 hr2 sr2 _ => p1 φ2 H2 σ2 le2 hr2 sr2
def notTup : Expr → Bool
  | .Tuple .. => false
  | _ => true
theorem stores_no (h : notTup e = true) (env : Env) : swappedStores [tg] e env = pure none := by
  unfold swappedStores
  cases tg <;> cases e <;> first | rfl | cases h
def notSeqT : Expr → Bool
  | .Tuple .. => false
  | .List .. => false
  | _ => true
theorem stores_no' (h : notSeqT tg = true) (env : Env) : swappedStores [tg] e env = pure none := by
  unfold swappedStores
  cases tg <;> first | rfl | cases h
theorem z_set {g : YG} {a : Loc → M D} (ha : PE X e (TMe X W a)) (hg : PG X tg (tG X g)) (hs : swapsWith e (some tg) pos.line X.env = pure false) (hw : swappedStores [tg] e X.env = pure none)
    (h1 : (assignEach [tg] X.env).map (·.2) = [assign tg X.env]) : PS X (.Assign [tg] e pos) (tS X W (setM g a)) := by
  refine (ps_asg ha hg hs hw h1).imp fun D σ H ⟨φ, l, h, sr, hr, p⟩ => ⟨φ, l, h, sr, hr, set_post sr p⟩
theorem z_par {a b : Loc → M D} {i j : Nat} {x y : Str} {px py pt : Pos} {kt k2 : Nat} {pt2 : Pos} (hc : X.calm = true) (hN : X.N.Nodup) (hi : X.N[i]? = some x) (hj : X.N[j]? = some y) (hij : i ≠ j) (hx : X.env.scope.names.lookup x = some .local) (hy : X.env.scope.names.lookup y = some .local)
    (ha : PE X e1 (TMe X W a)) (hb : PE X e2 (TMe X W b)) (h1 : notStar e1 = true) (h2 : notStar e2 = true) (hw : swappedStores [.Tuple [.Name x px, .Name y py] kt pt] (.Tuple [e1, e2] k2 pt2) X.env = pure (some [x, y])) :
    PS X (.Assign [.Tuple [.Name x px, .Name y py] kt pt] (.Tuple [e1, e2] k2 pt2) pos) (tS X W fun l h => ofE (a l h) l fun x h1 => ofE (b l h1) l fun y h2 => some (.nx, (l.set i (some x)).set j (some y), h2)) := by
  refine (ps_par hc hN hi hj hij hx hy (pa_cons ha (pa_cons hb pa_nil (star_cons h2 _ _)) (star_cons h1 _ _)) hw).imp fun D σ H ⟨φ, l, h, sr, hr, p⟩ => ?_
  refine ⟨φ, l, h, sr, hr, ofE_post (RV := RD X) p sr fun d h1 φ1 H1 v _ le hr1 rv sr1 p1 => ⟨φ1, l, h1, sr1, hr1, ofE_post (RV := RD X) p1 sr1 fun d2 h2 φ2 H2 v2 _ le2 hr2 rv2 sr2 p2 => ?_⟩⟩
  exact ⟨v, v2, rfl, p2 φ2 H2 _ (Le.refl _ _) hr2 ((sr2.set i (DV.mono le2 _ _ rv)).set j rv2)⟩
theorem z_aug {a : Loc → M D} {i : Nat} {x : Str} {op : Operator} (hN : X.N.Nodup) (hi : X.N[i]? = some x) (hx : L2.Loc X.env.scope x) (hf : X.fn x = true ∨ X.env.scope.names.lookup x = some .local) (ha : PE X e (TMe X W a)) :
    PS X (.AugAssign (.Name x p) op e pos) (tS X W fun l h => match l[i]? with
    | some (some x) => ofE (a l h) l fun y h1 => ofE (augD op x y h1) l fun z h2 => some (.nx, l.set i (some z), h2)
    | _ => none) := by
  have ip : PIp X op (rOf X (augD op)) := by
    intro pins s σ H x y v u Q I rx ry ⟨W', φ, h, d1, d2, hr, r1, r2, p⟩
    cases op <;> (cases d1 <;> cases d2 <;> first | exact False.elim (show False from p) | skip)
    · obtain rfl := dv_int r1
      obtain rfl := dv_int r2
      exact ip_add pins s σ H _ _ v u Q I rx ry ⟨_, _, rfl, rfl, p.ok hr vd_int⟩
    · obtain rfl := dv_int r1
      obtain rfl := dv_int r2
      exact ip_sub pins s σ H _ _ v u Q I rx ry ⟨_, _, rfl, rfl, p.ok hr vd_int⟩
  refine (ps_aug hN hi hx ha ip hf).imp fun D σ H ⟨φ, l, h, sr, hr, p⟩ => ?_
  cases q : l[i]? with
  | none => simp only [q] at p; exact p.elim
  | some o =>
    cases o with
    | none => simp only [q] at p; exact p.elim
    | some d =>
      simp only [q] at p
      obtain ⟨v, ev, rv⟩ := sr.get q
      refine ⟨v, ev, φ, l, h, sr, hr, ofE_post p sr fun d2 h2 φ2 H2 v2 _ le2 hr2 rv2 sr2 p2 => ⟨fun c dd H' => W c dd σ H', φ2, h2, d, d2, hr2, DV.mono le2 _ _ rv, rv2, ?_⟩⟩
      exact ofE_post p2 sr2 fun d3 h3 φ3 H3 v3 _ le3 hr3 rv3 sr3 p3 => p3 φ3 H3 _ (Le.refl _ _) hr3 (sr3.set i rv3)
/-- o[i] = e -/
def sstM (o i e : Loc → M D) : Loc → Hs → RS := fun l h => ofE (e l h) l fun v h1 => ofE (o l h1) l fun x h2 => ofE (i l h2) l fun y h3 => match setItemD x y v h3 with
  | some h' => some (.nx, l, h')
  | none => none
theorem z_sst {o i a : Loc → M D} (ha : PE X e (TMe X W a)) (ho : PE X e1 (TMe X W o)) (hi : PE X e2 (TMe X W i)) (hn : notComp e = true) (hs : notSl e2 = true) : PS X (.Assign [.Subscript e1 e2 p] e pos) (tS X W (sstM o i a)) := by
  have sub : ∀ v, assign (.Subscript e1 e2 p) X.env v = (do
      let ov ← holding [v] (eval e1 X.env)
      let iv ← holding [v, ov] (eval e2 X.env)
      standAt p
      holding [v, ov, iv] (setItem ov iv v)
      release [v, ov, iv] []) := by
    intro v
    cases e2 <;> first | rfl | cases hs
  refine (ps_asg (pos := pos) ha (pg_sub ho hi set_list sub) (swaps_no hn (some (.Subscript e1 e2 p)) pos.line X.env) (stores_no' rfl _) rfl).imp fun D σ H ⟨φ, l, h, sr, hr, p⟩ => ?_
  refine ⟨φ, l, h, sr, hr, ofE_post p sr fun d h1 φ1 H1 v _ le hr1 rv sr1 p1 => ⟨φ1, l, h1, sr1, hr1, ofE_post p1 sr1 fun d2 h2 φ2 H2 v2 _ le2 hr2 rv2 sr2 p2 => ⟨φ2, l, h2, sr2, hr2, ofE_post p2 sr2 fun d3 h3 φ3 H3 v3 _ le3 hr3 rv3 sr3 p3 => ?_⟩⟩⟩
  cases d2 with
  | ref n =>
    simp only [setItemD] at p3
    cases q : h3[n]? with
    | none => simp only [q] at p3; exact p3.elim
    | some ob =>
      cases ob with
      | lst xs =>
        cases d3 with
        | int k =>
          cases q2 : ixN xs.length k with
          | none => simp only [q, q2] at p3; exact p3.elim
          | some j =>
            simp only [q, q2] at p3
            obtain rfl := dv_int rv3
            obtain ⟨a1, vs, ha1, rfl, s1, q1⟩ := mut_at hr3 (DV.mono le3 _ _ rv2) q
            refine ⟨a1, vs, k, j, rfl, rfl, s1, by rw [← q1.length]; exact q2, ?_⟩
            have le4 : Le φ3 φ3 H3 (upd H3 a1 (.lst (vs.set j v))) := Le.set ha1 s1 trivial
            exact p3 φ3 _ σ le4 (hr3.set ha1 s1 trivial ⟨_, upd_same, (q1.set j (DV.mono le3 _ _ (DV.mono le2 _ _ rv))).mono le4⟩) (sr3.mono le4)
        | _ => simp only [q] at p3; exact p3.elim
      | _ => simp only [q] at p3; exact p3.elim
  | _ => exact False.elim (show False from p3)
/-- for target in iter: body -/
def forM (it : Loc → M (List D × (Hs → Bool))) (g : YG) (b : Loc → Hs → RS) : Loc → Hs → RS := fun l h => ofE (it l h) l fun p h' => forL (fun x l h => match asgG g x l h with
  | some (l', h2) => b l' h2
  | none => none) p.2 p.1 l h'
theorem z_for {it : Loc → M (List PM.D × (Hs → Bool))} {g : YG} {b : Loc → Hs → RS} {body : List Stmt} (hp : PassesOwn (model X.prog X.w) X.A X.env X.xe) (hc : X.calm = true) (hi : PI X tg iter (TMi X W it)) (hg : PG X tg (tG X g)) (hb : PSs X body (tS X W b)) (hn : notSet iter = true) :
    PS X (.For tg iter body [] pos) (tS X W (forM it g b)) := by
  refine (ps_for hp hc hi hg hb fun x => folded_no hn _ x).imp fun D σ H ⟨φ, l, h, sr, hr, p⟩ => ?_
  refine ⟨φ, l, h, sr, hr, ofE_post (RV := RWk X) p sr fun pr h1 φ1 H1 J _ le hr1 wk sr1 p1 => ?_⟩
  obtain ⟨items, chk⟩ := pr
  have wk : Wk X φ1 H1 J items chk := wk
  dsimp only at p1
  refine ⟨fun i m σ H => m = items.length - i ∧ i ≤ items.length ∧ ∃ φ l h, Le φ1 φ H1 H ∧ SR X.K X.mg φ H l σ ∧ HR X.K X.mg φ h H ∧ PostS X W D φ H (forL (fun x l h => match asgG g x l h with
      | some (l', h2) => b l' h2
      | none => none) chk (items.drop i) l h), ⟨items.length, by simp, Nat.zero_le _, φ1, l, h1, Le.refl _ _, sr1, hr1, p1⟩, ?_⟩
  rintro i m σ H ⟨rfl, hi, φ, l, h, le, sr, hr, p⟩
  by_cases hlt : i < items.length
  · have hd : items.drop i = items[i] :: items.drop (i + 1) := List.drop_eq_getElem_cons hlt
    rw [hd] at p
    simp only [forL] at p
    cases hc : chk h with
    | false => rw [hc] at p; exact p.elim
    | true =>
      simp only [hc, if_true] at p
      have nx := wk.go φ h H i items[i] le hr hc (List.getElem?_eq_getElem hlt)
      refine .inr ⟨nx.1, fun σ H => ∃ φ l h, Le φ1 φ H1 H ∧ SR X.K X.mg φ H l σ ∧ HR X.K X.mg φ h H ∧ PostS X W D φ H (forL (fun x l h => match asgG g x l h with
          | some (l', h2) => b l' h2
          | none => none) chk (items.drop (i + 1)) l h), fun σ' H' q => ⟨items.length - (i + 1), by omega, rfl, by omega, q⟩, fun x H' hy => ?_⟩
      obtain ⟨le1, hr1', rx⟩ := nx.2 x H' hy
      refine ⟨φ, l, h, items[i], sr.mono le1, hr1', rx, ?_⟩
      cases q : asgG g items[i] l h with
      | none => simp only [q] at p; exact p
      | some z =>
        obtain ⟨l2, h2⟩ := z
        simp only [q] at p
        refine fun φ2 σ2 H2 le2 hr2 sr2 _ => ⟨φ2, l2, h2, sr2, hr2, ?_⟩
        have p' := PostS.le (le1.trans le2) p
        cases q2 : b l2 h2 with
        | none => rw [q2] at p'; exact p'
        | some y =>
          obtain ⟨fl, l3, h3⟩ := y
          rw [q2] at p'
          refine fun φ3 H3 σ3 le3 hr3 sr3 => ?_
          have tot : Le φ1 φ3 H1 H3 := le.trans (le1.trans (le2.trans le3))
          cases fl with
          | nx => exact ⟨φ3, l3, h3, tot, sr3, hr3, PostS.le le3 p'⟩
          | ct => exact ⟨φ3, l3, h3, tot, sr3, hr3, PostS.le le3 p'⟩
          | bk => exact p' φ3 H3 σ3 le3 hr3 sr3
          | rt d => exact p' φ3 H3 σ3 le3 hr3 sr3
          | ex x => exact p' φ3 H3 σ3 le3 hr3 sr3
  · have e : items.drop i = [] := List.drop_eq_nil_of_le (by omega)
    rw [e] at p
    simp only [forL] at p
    cases hc : chk h with
    | false => rw [hc] at p; exact p.elim
    | true =>
      simp only [hc, if_true] at p
      exact .inl ⟨wk.stop φ h H i le hr hc (by omega), p.now hr sr⟩
end
end PM
/-! The matcher, and what it says. -/
namespace PM
open PySem PySem.Spec PyProof.Rows L2

def visB (sc : Scope) (x : Str) : Bool := match sc.names.lookup x with
  | some .local => true
  | some .cell => true
  | some .free => true
  | _ => false
def locB (sc : Scope) (x : Str) : Bool := match sc.names.lookup x with
  | some .local => true
  | some .cell => true
  | _ => false
def isLocal (sc : Scope) (x : Str) : Bool := match sc.names.lookup x with
  | some .local => true
  | _ => false
def glB (sc : Scope) (x : Str) : Bool := (match sc.names.lookup x with
  | some .globalImplicit => true
  | _ => false) && !(x == ("__debug__" : Str))
def okVar (S : Scx) (i : Nat) (x : Str) : Bool := decide (S.N[i]? = some x) && visB S.sc x && !(x == ("__debug__" : Str)) && !(x == ("__classdict__" : Str))
def okLoc (S : Scx) (i : Nat) (x : Str) : Bool := decide (S.N[i]? = some x) && locB S.own x
def okC : D → Const → Bool
  | .non, .none => true
  | .bl b, .bool c => b == c
  | .int i, .int j => i == j
  | .str x, .str y => decide (x = y)
  | _, _ => false
def csB (x : Str) (d : D) : List (Str × D) → Bool
  | [] => false
  | (y, e) :: r => decide (x = y) && D.beq d e || csB x d r
def okNo (S : Scx) (x : Str) : Bool := glB S.sc x && decide (x ∈ S.bl)
def fnB (F : List FI) (S : Scx) (f sh : Nat) (x : Str) (na : Nat) (ks : List (Option Str)) : Bool := match F[f]? with
  | some fi => match fi.shapes[sh]? with
    | some s => decide (fi.nm = x) && decide (na = s.n) && decide (ks = s.ks.map some) && decide (fi.lev ≤ S.lev)
    | none => false
  | none => false
def _root_.PM.Scx.blk (S : Scx) (scope : Scope) : Scx := { S with sc := relS scope S.sc, own := scope }
mutual
def okE (F : List FI) (S : Scx) : YE → Expr → Bool
  | .var i, e => match e with
    | .Name x _ => okVar S i x
    | _ => false
  | .cst d, e => match e with
    | .Constant c _ _ => okC d c
    | _ => false
  | .glo x d, e => match e with
    | .Name y _ => decide (x = y) && glB S.sc y && csB y d S.cs
    | _ => false
  | .tup es, e => match e with
    | .Tuple xs _ _ => okEs F S es xs
    | _ => false
  | .lst es, e => match e with
    | .List xs _ => okEs F S es xs
    | _ => false
  | .bin op a b, e => match e with
    | .BinOp x o y _ => decide (op = o) && okE F S a x && okE F S b y
    | _ => false
  | .neg a, e => match e with
    | .UnaryOp .USub x _ => okE F S a x
    | _ => false
  | .cmp op a b, e => match e with
    | .Compare x [o] [y] _ => decide (op = o) && okE F S a x && okE F S b y && notSet y
    | _ => false
  | .chn o1 o2 a b c, e => match e with
    | .Compare x [p1, p2] [y, z] _ => decide (o1 = p1) && decide (o2 = p2) && okE F S a x && okE F S b y && okE F S c z && notSet z
    | _ => false
  | .not a, e => match e with
    | .UnaryOp .Not x _ => okE F S a x
    | _ => false
  | .and es, e => match e with
    | .BoolOp .And xs _ => okEs F S es xs
    | _ => false
  | .or es, e => match e with
    | .BoolOp .Or xs _ => okEs F S es xs
    | _ => false
  | .ife t a b, e => match e with
    | .IfExp c x y _ => okT F S t c && okE F S a x && okE F S b y
    | _ => false
  | .sub a i, e => match e with
    | .Subscript x y _ => okE F S a x && okE F S i y && notSl y
    | _ => false
  | .slc a lo hi, e => match e with
    | .Subscript x (.Slice l h none _) _ => okE F S a x && okO F S lo l && okO F S hi h
    | _ => false
  | .cal f sh es ks, e => match e with
    | .Call (.Name x _) xs kws _ => glB S.sc x && fnB F S f sh x xs.length (kws.map (·.arg)) && okEs F S es xs && okKs F S ks kws
    | _ => false
  | .bcl b es, e => match e with
    | .Call (.Name x _) (y :: ys) [] _ => decide (b.nm = x) && okNo S x && okEs F S es (y :: ys)
    | _ => false
  | .mth m o es, e => match e with
    | .Call (.Attribute x nm ap) ys [] pos => decide (m.nm = nm) && okE F S o x && okEs F S es ys && notSuper x && ap.endLine == pos.line && decide (ys.length < 30)
    | _ => false
  | .isi ty a, e => match e with
    | .Call (.Name x _) [y, .Name t _] [] _ => decide (x = "isinstance") && decide (ty.nm = t) && okNo S x && okNo S t && okE F S a y && notStar y
    | _ => false
  | .lcm elt g it ifs own, e => match e with
    | .ListComp el [⟨tg, iter, cs, k⟩] scope _ => k == 0 && okE F (S.blk scope) elt el && okG (S.blk scope) g tg && okI F S it iter && okCs F (S.blk scope) ifs cs && blkC S.N S.sc scope own && notSet iter && inOwn (own.map (·.2)) g
    | _ => false
def okEs (F : List FI) (S : Scx) : YEs → List Expr → Bool
  | .nil, xs => match xs with
    | [] => true
    | _ => false
  | .cons e es, xs => match xs with
    | x :: xs => okE F S e x && notStar x && okEs F S es xs
    | [] => false
def okKs (F : List FI) (S : Scx) : YEs → List Keyword → Bool
  | .nil, xs => match xs with
    | [] => true
    | _ => false
  | .cons e es, xs => match xs with
    | ⟨_, x, _⟩ :: xs => okE F S e x && okKs F S es xs
    | [] => false
def okO (F : List FI) (S : Scx) : YO → Option Expr → Bool
  | .none, x => match x with
    | none => true
    | _ => false
  | .some e, x => match x with
    | some x => okE F S e x
    | none => false
def okT (F : List FI) (S : Scx) : YT → Expr → Bool
  | .val t, e => okE F S t e && plainT e
  | .cmp op a b, e => match e with
    | .Compare x [o] [y] _ => decide (op = o) && okE F S a x && okE F S b y && notSet y
    | _ => false
  | .chn o1 o2 a b c, e => match e with
    | .Compare x [p1, p2] [y, z] _ => decide (o1 = p1) && decide (o2 = p2) && okE F S a x && okE F S b y && okE F S c z && notSet z
    | _ => false
  | .not t, e => match e with
    | .UnaryOp .Not x _ => okT F S t x
    | _ => false
  | .and ts, e => match e with
    | .BoolOp .And (x :: xs) _ => okTs F S ts (x :: xs)
    | _ => false
  | .or ts, e => match e with
    | .BoolOp .Or (x :: xs) _ => okTs F S ts (x :: xs)
    | _ => false
def okTs (F : List FI) (S : Scx) : YTs → List Expr → Bool
  | .nil, xs => match xs with
    | [] => true
    | _ => false
  | .cons t ts, xs => match xs with
    | x :: xs => okT F S t x && okTs F S ts xs
    | [] => false
/-- a comprehension's tests: none, or one -/
def okCs (F : List FI) (S : Scx) : YTs → List Expr → Bool
  | .nil, xs => match xs with
    | [] => true
    | _ => false
  | .cons t ts, xs => match xs, ts with
    | [x], .nil => okT F S t x
    | _, _ => false
def okG (S : Scx) : YG → Expr → Bool
  | .name i, e => match e with
    | .Name x _ => okLoc S i x
    | _ => false
  | .tup gs, e => match e with
    | .Tuple xs _ _ => okGs S gs xs
    | _ => false
  | .star .., _ => false
def okGs (S : Scx) : YGs → List Expr → Bool
  | .nil, xs => match xs with
    | [] => true
    | _ => false
  | .cons g gs, xs => match xs with
    | x :: xs => okG S g x && notStar x && okGs S gs xs
    | [] => false
def okI (F : List FI) (S : Scx) : YI → Expr → Bool
  | .val t, e => okE F S t e
  | .rng1 a, e => match e with
    | .Call (.Name x _) [y] [] _ => decide (x = "range") && okNo S x && okE F S a y && notStar y
    | _ => false
  | .rng2 a b, e => match e with
    | .Call (.Name x _) [y, z] [] _ => decide (x = "range") && okNo S x && okE F S a y && notStar y && okE F S b z && notStar z
    | _ => false
end

section
variable {F : List FI} {S : Scx} {X : Cx} {W : WX}
theorem okVar_at (C : CtxOk F X S W) {i : Nat} {x : Str} {p : Pos} (h : okVar S i x = true) : PE X (.Name x p) (tVar i) := by
  unfold okVar at h
  simp only [Bool.and_eq_true, decide_eq_true_eq, Bool.not_eq_true'] at h
  refine pe_var (by rw [C.hN]; exact h.1.1.1) ?_ h.1.2 h.2
  have v := h.1.1.2
  unfold visB at v
  unfold Vis
  rw [C.sc]
  split at v
  · rename_i q; exact .inl q
  · rename_i q; exact .inr (.inl q)
  · rename_i q; exact .inr (.inr q)
  · cases v
theorem okLoc_at (C : CtxOk F X S W) {i : Nat} {x : Str} (h : okLoc S i x = true) : X.N[i]? = some x ∧ L2.Loc X.env.scope x ∧ (X.fn x = true ∨ X.env.scope.names.lookup x = some .local) := by
  unfold okLoc at h
  simp only [Bool.and_eq_true, decide_eq_true_eq] at h
  have v := h.2
  unfold locB at v
  refine ⟨by rw [C.hN]; exact h.1, ?_⟩
  unfold L2.Loc
  split at v
  · rename_i q; exact ⟨.inl (C.hloc x q), .inr (C.hloc x q)⟩
  · rename_i q; exact ⟨.inr (C.hcell x q).1, .inl (C.hcell x q).2⟩
  · cases v
theorem glB_at (C : CtxOk F X S W) {x : Str} (h : glB S.sc x = true) : Gl X x ∧ (x == ("__debug__" : Str)) = false := by
  unfold glB at h
  simp only [Bool.and_eq_true, Bool.not_eq_true'] at h
  refine ⟨?_, h.2⟩
  have v := h.1
  show X.env.scope.names.lookup x = _
  rw [C.sc]
  split at v
  · rename_i q; exact q
  · cases v
theorem okNo_at (C : CtxOk F X S W) {x : Str} (h : okNo S x = true) : Gl X x ∧ X.mg x = none := by
  unfold okNo at h
  simp only [Bool.and_eq_true, decide_eq_true_eq] at h
  exact ⟨(glB_at C h.1).1, C.bl x h.2⟩
theorem csB_mem {x : Str} {d : D} : ∀ {l : List (Str × D)}, csB x d l = true → (x, d) ∈ l
  | (y, e) :: r, h => by
    unfold csB at h
    rcases Bool.or_eq_true_iff.mp h with h | h
    · simp only [Bool.and_eq_true, decide_eq_true_eq] at h
      rw [h.1, D.beq_eq d e h.2]
      exact List.mem_cons_self
    · exact List.mem_cons_of_mem _ (csB_mem h)
theorem okC_at {d : D} {c : Const} {j : Nat} {p : Pos} (h : okC d c = true) (F : List FI) : PE X (.Constant c j p) (TMe X W (denE F (.cst d))) := by
  cases d <;> cases c <;> simp only [okC] at h <;> first | cases h | skip
  · exact s_cst pe_non (fun _ _ => vd_non) _ fun _ _ => rfl
  · cases (eq_of_beq h); exact s_cst pe_bl (fun _ _ => vd_bl) _ fun _ _ => rfl
  · cases (eq_of_beq h); exact s_cst pe_int (fun _ _ => vd_int) _ fun _ _ => rfl
  · cases (of_decide_eq_true h); exact s_cst pe_str (fun _ _ => vd_str) _ fun _ _ => rfl
theorem CtxOk.blk (C : CtxOk F X S W) (s : Shared) (H : Hp) (scope : Scope) (Cl : Addr) (cl : List (Str × Addr)) (fp : List Addr) :
    CtxOk F (X.blk s H scope (compEnvC scope cl Cl X.env) fp) (S.blk scope) W0 where
  nd := C.nd
  hN := C.hN
  sc := by
    show relS scope X.env.scope = relS scope S.sc
    rw [C.sc]
  s0 := ⟨C.s0.calm, C.s0.guards, C.s0.units⟩
  room := C.room
  tk := takes0'
  bl := C.bl
  cs := C.cs
  fn := C.fn
  hloc := fun x hx => lookup_relS_keep (by decide) hx
  hcell := fun x hx => ⟨lookup_relS_keep (by decide) hx, by
    show (scope.names.lookup x == some .cell) = true
    rw [show scope.names.lookup x = some .cell from hx]; rfl⟩
  po := PassesOwn.never
def lenEs : YEs → Nat
  | .nil => 0
  | .cons _ es => lenEs es + 1
theorem denEs_len : ∀ {es : YEs} {l : Loc} {h : Hs} {xs : List D} {h' : Hs}, denEs F es l h = .ok xs h' → xs.length = lenEs es
  | .nil, l, h, xs, h', e => by
    simp only [denEs, M.ret, R.ok.injEq] at e
    rw [← e.1]; rfl
  | .cons e es, l, h, xs, h', q => by
    simp only [denEs, M.bind] at q
    cases q1 : denE F e l h with
    | ok d h1 =>
      rw [q1] at q
      dsimp only at q
      cases q2 : denEs F es l h1 with
      | ok ds h2 =>
        rw [q2] at q
        simp only [M.ret, R.ok.injEq] at q
        rw [← q.1]
        simp only [List.length_cons, lenEs, denEs_len q2]
      | exc _ _ => rw [q2] at q; cases q
      | stk => rw [q2] at q; cases q
    | exc _ _ => rw [q1] at q; cases q
    | stk => rw [q1] at q; cases q
theorem okEs_len : ∀ {es : YEs} {xs : List Expr}, okEs F S es xs = true → lenEs es = xs.length ∧ xs.all notStar = true
  | .nil, xs, h => by cases xs <;> simp [okEs] at h ⊢; rfl
  | .cons e es, xs, h => by
    cases xs with
    | nil => simp [okEs] at h
    | cons x xs =>
      simp only [okEs, Bool.and_eq_true] at h
      obtain ⟨i1, i2⟩ := okEs_len h.2
      exact ⟨by simp [lenEs, i1], by simp [h.1.2, i2]⟩
theorem okKs_len : ∀ {es : YEs} {xs : List Keyword}, okKs F S es xs = true → lenEs es = xs.length
  | .nil, xs, h => by cases xs <;> simp [okKs] at h ⊢; rfl
  | .cons e es, xs, h => by
    cases xs with
    | nil => simp [okKs] at h
    | cons x xs =>
      obtain ⟨n, x, p⟩ := x
      simp only [okKs, Bool.and_eq_true] at h
      simp [lenEs, okKs_len h.2]
theorem args_some : ∀ {kws : List Keyword} {ks : List Str}, kws.map (·.arg) = ks.map some → kws.all (fun k => k.arg.isSome) = true ∧ kws.filterMap (·.arg) = ks
  | [], ks, h => by cases ks <;> simp at h ⊢
  | ⟨n, e, p⟩ :: kws, ks, h => by
    cases ks with
    | nil => simp at h
    | cons k ks =>
      simp only [List.map_cons, List.cons.injEq] at h
      obtain ⟨i1, i2⟩ := args_some h.2
      have h1 : n = some k := h.1
      subst h1
      simp [i1, i2]
theorem assign_pl {e : Expr} (h : notStar e = true) (es : List Expr) (env : Env) : assignEach (e :: es) env = (false, assign e env) :: assignEach es env := by
  cases e <;> first | rfl | cases h
theorem okGs_len : ∀ {gs : YGs} {xs : List Expr} (env : Env), okGs S gs xs = true → (assignEach xs env).length = lenGs gs ∧ (assignEach xs env).findIdx? (·.1) = none
  | .nil, xs, env, h => by
    cases xs with
    | nil => exact ⟨rfl, rfl⟩
    | cons x xs => simp [okGs] at h
  | .cons g gs, xs, env, h => by
    cases xs with
    | nil => simp [okGs] at h
    | cons x xs =>
      simp only [okGs, Bool.and_eq_true] at h
      obtain ⟨i1, i2⟩ := okGs_len env h.2
      rw [assign_pl h.1.2]
      refine ⟨by simp [lenGs, i1], ?_⟩
      rw [List.findIdx?_cons]
      simp [i2]

/-! ### targets -/
mutual
theorem sndG (C : CtxOk F X S W) : ∀ (g : YG) (e : Expr), okG S g e = true → PG X e (tG X g)
  | .name i, e, h => by
    cases e <;> simp only [okG] at h <;> first | cases h | skip
    obtain ⟨h1, h2, h3⟩ := okLoc_at C h
    exact g_name (pg_name C.nd h1 h2 h3)
  | .tup gs, e, h => by
    cases e <;> simp only [okG] at h <;> first | cases h | skip
    obtain ⟨h1, h2⟩ := okGs_len X.env h
    exact g_tup C.s0.calm (sndGs C gs _ h) h1 h2
  | .star .., e, h => by simp [okG] at h
theorem sndGs (C : CtxOk F X S W) : ∀ (gs : YGs) (es : List Expr), okGs S gs es = true → PGs X es (tGs X gs)
  | .nil, es, h => by
    cases es with
    | nil => exact g_nil
    | cons x xs => simp [okGs] at h
  | .cons g gs, es, h => by
    cases es with
    | nil => simp [okGs] at h
    | cons x xs =>
      simp only [okGs, Bool.and_eq_true] at h
      exact g_cons (sndG C g x h.1.1) (sndGs C gs xs h.2) (by rw [assign_pl h.1.2]; rfl)
end
end

/-! ### expressions -/
mutual
theorem sndE {F : List FI} : ∀ (t : YE) {S : Scx} {X : Cx} {W : WX} (e : Expr), CtxOk F X S W → okE F S t e = true → PE X e (TMe X W (denE F t))
  | .var i, S, X, W, e, C, h => by
    cases e <;> simp only [okE] at h <;> first | cases h | skip
    exact s_var (okVar_at C h) F
  | .cst d, S, X, W, e, C, h => by
    cases e <;> simp only [okE] at h <;> first | cases h | skip
    exact okC_at h F
  | .glo x d, S, X, W, e, C, h => by
    cases e <;> simp only [okE] at h <;> first | cases h | skip
    simp only [Bool.and_eq_true, decide_eq_true_eq] at h
    obtain ⟨v, u, hm, r, hd⟩ := C.cs _ (csB_mem h.2)
    obtain ⟨hg, hdb⟩ := glB_at C h.1.2
    exact s_cst (pe_glob hg hm r hdb) hd _ fun _ _ => rfl
  | .tup es, S, X, W, e, C, h => by
    cases e <;> simp only [okE] at h <;> first | cases h | skip
    exact s_tup (sndEs es _ C h)
  | .lst es, S, X, W, e, C, h => by
    cases e <;> simp only [okE] at h <;> first | cases h | skip
    exact s_lst (sndEs es _ C h)
  | .bin op a b, S, X, W, e, C, h => by
    cases e <;> simp only [okE] at h <;> first | cases h | skip
    simp only [Bool.and_eq_true, decide_eq_true_eq] at h
    obtain ⟨⟨rfl, h1⟩, h2⟩ := h
    exact s_bin (sndE a _ C h1) (sndE b _ C h2)
  | .neg a, S, X, W, e, C, h => by
    unfold okE at h
    split at h
    · exact s_neg (sndE a _ C h)
    · cases h
  | .cmp op a b, S, X, W, e, C, h => by
    unfold okE at h
    split at h
    · simp only [Bool.and_eq_true, decide_eq_true_eq] at h
      obtain ⟨⟨⟨rfl, h1⟩, h2⟩, h3⟩ := h
      exact s_cmp C.s0 (sndE a _ C h1) (sndE b _ C h2) (nobeh h3 _)
    · cases h
  | .chn o1 o2 a b c, S, X, W, e, C, h => by
    unfold okE at h
    split at h
    · simp only [Bool.and_eq_true, decide_eq_true_eq] at h
      obtain ⟨⟨⟨⟨⟨rfl, rfl⟩, h1⟩, h2⟩, h3⟩, h4⟩ := h
      exact s_chn C.s0 (sndE a _ C h1) (sndE b _ C h2) (sndE c _ C h3) h4
    · cases h
  | .not a, S, X, W, e, C, h => by
    unfold okE at h
    split at h
    · exact s_not (sndE a _ C h)
    · cases h
  | .and es, S, X, W, e, C, h => by
    unfold okE at h
    split at h
    · exact sndAnd es _ C h
    · cases h
  | .or es, S, X, W, e, C, h => by
    unfold okE at h
    split at h
    · exact sndOr es _ C h
    · cases h
  | .ife t a b, S, X, W, e, C, h => by
    cases e <;> simp only [okE] at h <;> first | cases h | skip
    simp only [Bool.and_eq_true] at h
    exact s_ife (sndT t _ C h.1.1) (sndE a _ C h.1.2) (sndE b _ C h.2)
  | .sub a i, S, X, W, e, C, h => by
    cases e <;> simp only [okE] at h <;> first | cases h | skip
    simp only [Bool.and_eq_true] at h
    exact s_sub C.s0 (sndE a _ C h.1.1) (sndE i _ C h.1.2) h.2
  | .slc a lo hi, S, X, W, e, C, h => by
    unfold okE at h
    split at h
    · simp only [Bool.and_eq_true] at h
      exact s_slc (sndE a _ C h.1.1) (sndO lo _ C h.1.2) (sndO hi _ C h.2)
    · cases h
  | .cal f sh es ks, S, X, W, e, C, h => by
    unfold okE at h
    split at h
    · rename_i x p xs kws pos
      simp only [Bool.and_eq_true] at h
      obtain ⟨⟨⟨hg, hf⟩, h1⟩, h2⟩ := h
      unfold fnB at hf
      cases qf : F[f]? with
      | none => rw [qf] at hf; cases hf
      | some fi =>
        rw [qf] at hf
        dsimp only at hf
        cases qs : fi.shapes[sh]? with
        | none => rw [qs] at hf; cases hf
        | some s =>
          rw [qs] at hf
          simp only [Bool.and_eq_true, decide_eq_true_eq] at hf
          obtain ⟨⟨⟨rfl, hn⟩, hks⟩, hl⟩ := hf
          obtain ⟨gl, hdb⟩ := glB_at C hg
          obtain ⟨k1, k2⟩ := args_some hks
          obtain ⟨e1, e2⟩ := okEs_len h1
          have e3 := okKs_len h2
          have hsh : s ∈ fi.shapes := List.mem_of_getElem? qs
          have G := C.fn fi (List.mem_of_getElem? qf)
          have hr := C.room.mono hl
          have dm : denE F (.cal f sh es ks) = callM fi s (denEs F es) (denEs F ks) := by
            funext l
            simp only [denE, qf, qs]
            all_goals rfl
          rw [dm]
          cases xs with
          | cons y ys =>
            exact s_calP G C.s0 hr C.tk hsh gl hdb (sndEs es _ C h1) (sndKs ks _ C h2) e2 k1 k2 (fun l h xs h' q => by rw [denEs_len q, e1, hn]) fun l h xs h' q => by rw [denEs_len q, e3]
          | nil =>
            have es0 : es = .nil := by
              cases es with
              | nil => rfl
              | cons _ _ => simp [okEs] at h1
            subst es0
            cases kws with
            | nil =>
              have ks0 : ks = .nil := by
                cases ks with
                | nil => rfl
                | cons _ _ => simp [okKs] at h2
              subst ks0
              exact s_cal0 F G C.s0 hr C.tk hsh gl hdb hn.symm (by rw [← k2]; rfl)
            | cons k kws => exact s_calK F G C.s0 hr C.tk hsh gl hdb (sndKs ks _ C h2) k1 k2 hn.symm fun l h xs h' q => by rw [denEs_len q, e3]
    · cases h
  | .bcl b es, S, X, W, e, C, h => by
    unfold okE at h
    split at h
    · simp only [Bool.and_eq_true, decide_eq_true_eq] at h
      obtain ⟨⟨rfl, h1⟩, h2⟩ := h
      obtain ⟨g1, g2⟩ := okNo_at C h1
      exact s_bcl C.s0 (sndEs es _ C h2) g1 g2 (okEs_len h2).2
    · cases h
  | .mth m o es, S, X, W, e, C, h => by
    unfold okE at h
    split at h
    · rename_i x nm ap ys pos
      simp only [Bool.and_eq_true, decide_eq_true_eq] at h
      obtain ⟨⟨⟨⟨⟨h1, h2⟩, h3⟩, h4⟩, h5⟩, h6⟩ := h
      have dm : denE F (.mth m o es) = mthM m (denE F o) (denEs F es) := by
        funext l
        simp only [denE]
      rw [dm]
      cases ys with
      | nil =>
        have es0 : es = .nil := by
          cases es with
          | nil => rfl
          | cons _ _ => simp [okEs] at h3
        subst es0
        exact s_mth0 F C.s0 h1 (sndE o _ C h2) h4 h5
      | cons y ys => exact s_mth C.s0 h1 (sndE o _ C h2) (sndEs es _ C h3) h4 h5 (okEs_len h3).2 (decide_eq_true h6)
    · cases h
  | .isi ty a, S, X, W, e, C, h => by
    unfold okE at h
    split at h
    · simp only [Bool.and_eq_true, decide_eq_true_eq] at h
      obtain ⟨⟨⟨⟨⟨rfl, rfl⟩, h1⟩, h2⟩, h3⟩, h4⟩ := h
      obtain ⟨g1, g2⟩ := okNo_at C h1
      obtain ⟨g3, g4⟩ := okNo_at C h2
      exact s_isi (sndE a _ C h3) g1 g2 g3 g4 h4
    · cases h
  | .lcm elt g it ifs own, S, X, W, e, C, h => by
    unfold okE at h
    split at h
    · rename_i el tg iter cs k scope pos
      simp only [Bool.and_eq_true, beq_iff_eq] at h
      obtain ⟨⟨⟨⟨⟨⟨⟨rfl, h1⟩, h2⟩, h3⟩, h4⟩, h5⟩, h6⟩, h7⟩ := h
      have B := fun s H Cl cl fp => C.blk s H scope Cl cl fp
      exact (pe_lc (wi := TMi X W (denI F it)) (g := tG X g) (tt := TMt X W0 (denTs F true ifs)) (te := TMe X W0 (denE F elt)) (own := own) C.s0.calm C.nd (sndI it tg iter C h3) (blkOk_by (by rw [C.hN, C.sc]; exact h5)) (fun s H Cl cl fp => sndG (B s H Cl cl fp) g tg h2) (fun s H Cl cl fp => sndCs ifs cs (B s H Cl cl fp) h4) (fun s H Cl cl fp => sndE elt el (B s H Cl cl fp) h1) fun x => folded_no h6 _ x).imp
        (s_lcm (it := denI F it) (ts := denTs F true ifs) (el := denE F elt) (fun _ _ _ z => z) (fun _ _ _ _ z => z) (fun _ _ _ z => z) (fun _ _ _ z => z) h7)
    · cases h
theorem sndEs {F : List FI} : ∀ (t : YEs) {S : Scx} {X : Cx} {W : WX} (e : List Expr), CtxOk F X S W → okEs F S t e = true → PA X e (TMs X W (denEs F t))
  | .nil, S, X, W, e, C, h => by
    cases e with
    | nil => exact a_nil F
    | cons x xs => simp [okEs] at h
  | .cons t ts, S, X, W, e, C, h => by
    cases e with
    | nil => simp [okEs] at h
    | cons x xs =>
      simp only [okEs, Bool.and_eq_true] at h
      exact a_cons (sndE t x C h.1.1) (sndEs ts xs C h.2) h.1.2
theorem sndKs {F : List FI} : ∀ (t : YEs) {S : Scx} {X : Cx} {W : WX} (e : List Keyword), CtxOk F X S W → okKs F S t e = true → PK X e (TMs X W (denEs F t))
  | .nil, S, X, W, e, C, h => by
    cases e with
    | nil => exact k_nil F
    | cons x xs => simp [okKs] at h
  | .cons t ts, S, X, W, e, C, h => by
    cases e with
    | nil => simp [okKs] at h
    | cons x xs =>
      obtain ⟨n, x, p⟩ := x
      simp only [okKs, Bool.and_eq_true] at h
      exact k_cons (sndE t x C h.1) (sndKs ts xs C h.2)
theorem sndAnd {F : List FI} : ∀ (t : YEs) {S : Scx} {X : Cx} {W : WX} (e : List Expr) {pos : Pos}, CtxOk F X S W → okEs F S t e = true → PE X (.BoolOp .And e pos) (TMe X W (denAnd F t))
  | .nil, S, X, W, e, pos, C, h => ⟨fun _ _ _ _ _ _ z => by obtain ⟨_, _, _, _, _, p⟩ := z; exact p.elim⟩
  | .cons t .nil, S, X, W, e, pos, C, h => by
    cases e with
    | nil => simp [okEs] at h
    | cons x xs =>
      cases xs with
      | cons y ys => simp [okEs] at h
      | nil =>
        simp only [okEs, Bool.and_eq_true] at h
        exact s_and1 (sndE t x C h.1.1)
  | .cons t (.cons t2 ts), S, X, W, e, pos, C, h => by
    cases e with
    | nil => simp [okEs] at h
    | cons x xs =>
      cases xs with
      | nil => simp [okEs] at h
      | cons y ys =>
        have h' : okE F S t x = true ∧ notStar x = true ∧ okEs F S (.cons t2 ts) (y :: ys) = true := by
          simp only [okEs, Bool.and_eq_true] at h ⊢
          exact ⟨h.1.1, h.1.2, h.2⟩
        exact s_and (sndE t x C h'.1) (sndAnd (.cons t2 ts) (y :: ys) C h'.2.2)
theorem sndOr {F : List FI} : ∀ (t : YEs) {S : Scx} {X : Cx} {W : WX} (e : List Expr) {pos : Pos}, CtxOk F X S W → okEs F S t e = true → PE X (.BoolOp .Or e pos) (TMe X W (denOr F t))
  | .nil, S, X, W, e, pos, C, h => ⟨fun _ _ _ _ _ _ z => by obtain ⟨_, _, _, _, _, p⟩ := z; exact p.elim⟩
  | .cons t .nil, S, X, W, e, pos, C, h => by
    cases e with
    | nil => simp [okEs] at h
    | cons x xs =>
      cases xs with
      | cons y ys => simp [okEs] at h
      | nil =>
        simp only [okEs, Bool.and_eq_true] at h
        exact s_or1 (sndE t x C h.1.1)
  | .cons t (.cons t2 ts), S, X, W, e, pos, C, h => by
    cases e with
    | nil => simp [okEs] at h
    | cons x xs =>
      cases xs with
      | nil => simp [okEs] at h
      | cons y ys =>
        have h' : okE F S t x = true ∧ notStar x = true ∧ okEs F S (.cons t2 ts) (y :: ys) = true := by
          simp only [okEs, Bool.and_eq_true] at h ⊢
          exact ⟨h.1.1, h.1.2, h.2⟩
        exact s_or (sndE t x C h'.1) (sndOr (.cons t2 ts) (y :: ys) C h'.2.2)
theorem sndO {F : List FI} : ∀ (t : YO) {S : Scx} {X : Cx} {W : WX} (e : Option Expr), CtxOk F X S W → okO F S t e = true → PO X e (TMo X W (denO F t))
  | .none, S, X, W, e, C, h => by
    cases e with
    | none => exact o_none F
    | some x => simp [okO] at h
  | .some t, S, X, W, e, C, h => by
    cases e with
    | none => simp [okO] at h
    | some x =>
      simp only [okO] at h
      exact o_some (sndE t x C h)
theorem sndT {F : List FI} : ∀ (t : YT) {S : Scx} {X : Cx} {W : WX} (e : Expr), CtxOk F X S W → okT F S t e = true → PT X e (TMt X W (denT F t))
  | .val t, S, X, W, e, C, h => by
    simp only [okT, Bool.and_eq_true] at h
    exact t_val (sndE t e C h.1) h.2
  | .cmp op a b, S, X, W, e, C, h => by
    unfold okT at h
    split at h
    · simp only [Bool.and_eq_true, decide_eq_true_eq] at h
      obtain ⟨⟨⟨rfl, h1⟩, h2⟩, h3⟩ := h
      exact t_cmp C.s0 (sndE a _ C h1) (sndE b _ C h2) (nobeh h3 _)
    · cases h
  | .chn o1 o2 a b c, S, X, W, e, C, h => by
    unfold okT at h
    split at h
    · simp only [Bool.and_eq_true, decide_eq_true_eq] at h
      obtain ⟨⟨⟨⟨⟨rfl, rfl⟩, h1⟩, h2⟩, h3⟩, h4⟩ := h
      exact t_chn C.s0 (sndE a _ C h1) (sndE b _ C h2) (sndE c _ C h3) h4
    · cases h
  | .not t, S, X, W, e, C, h => by
    unfold okT at h
    split at h
    · exact t_not (sndT t _ C h)
    · cases h
  | .and ts, S, X, W, e, C, h => by
    unfold okT at h
    split at h
    · exact (sndTs true ts _ C h).pt
    · cases h
  | .or ts, S, X, W, e, C, h => by
    unfold okT at h
    split at h
    · exact (sndTs false ts _ C h).pt
    · cases h
theorem sndTs {F : List FI} (u : Bool) : ∀ (t : YTs) {S : Scx} {X : Cx} {W : WX} (e : List Expr) {x : Expr} {pos : Pos}, CtxOk F X S W → okTs F S t (x :: e) = true → PW X (.BoolOp (if u then .And else .Or) (x :: e) pos) (TMt X W (denTs F u t))
  | .nil, S, X, W, e, x, pos, C, h => by simp [okTs] at h
  | .cons t .nil, S, X, W, e, x, pos, C, h => by
    cases e with
    | cons y ys => simp [okTs] at h
    | nil =>
      simp only [okTs, Bool.and_eq_true] at h
      exact tw_one u (sndT t x C h.1)
  | .cons t (.cons t2 ts), S, X, W, e, x, pos, C, h => by
    cases e with
    | nil => simp [okTs] at h
    | cons y ys =>
      have h' : okT F S t x = true ∧ okTs F S (.cons t2 ts) (y :: ys) = true := by
        simp only [okTs, Bool.and_eq_true] at h ⊢
        exact h
      exact tw_cons u (sndT t x C h'.1) (sndTs u (.cons t2 ts) ys C h'.2)
theorem sndCs {F : List FI} : ∀ (t : YTs) {S : Scx} {X : Cx} {W : WX} (e : List Expr), CtxOk F X S W → okCs F S t e = true → PTs X e (TMt X W (denTs F true t))
  | .nil, S, X, W, e, C, h => by
    cases e with
    | cons x xs => simp [okCs] at h
    | nil => exact ⟨fun pins s σ H Q I hw => pts_nil.run pins s σ H Q I (by obtain ⟨φ, l, h, sr, hr, p⟩ := hw; exact Post.ok (RV := RE) p hr rfl)⟩
  | .cons t .nil, S, X, W, e, C, h => by
    cases e with
    | nil => simp [okCs] at h
    | cons x xs =>
      cases xs with
      | cons y ys => simp [okCs] at h
      | nil =>
        simp only [okCs] at h
        refine ⟨fun pins s σ H Q I hw => (pts_one (sndT t x C h)).run pins s σ H Q I ?_⟩
        exact tM_bind (RV := RE) hw fun φ l h x H1 da sr hr rx p1 => by
          cases rx
          cases x with
          | true => exact Post.ok (RV := RE) p1 hr rfl
          | false => exact Post.ok (RV := RE) p1 hr rfl
  | .cons t (.cons t2 ts), S, X, W, e, C, h => by
    cases e with
    | nil => simp [okCs] at h
    | cons x xs => cases xs <;> simp [okCs] at h
theorem sndI {F : List FI} : ∀ (t : YI) {S : Scx} {X : Cx} {W : WX} (tg e : Expr), CtxOk F X S W → okI F S t e = true → PI X tg e (TMi X W (denI F t))
  | .val t, S, X, W, tg, e, C, h => by
    simp only [okI] at h
    exact i_val (sndE t e C h)
  | .rng1 a, S, X, W, tg, e, C, h => by
    unfold okI at h
    split at h
    · simp only [Bool.and_eq_true, decide_eq_true_eq] at h
      obtain ⟨⟨⟨rfl, h1⟩, h2⟩, h3⟩ := h
      obtain ⟨g1, g2⟩ := okNo_at C h1
      exact i_rng1 g1 g2 (sndE a _ C h2) h3
    · cases h
  | .rng2 a b, S, X, W, tg, e, C, h => by
    unfold okI at h
    split at h
    · simp only [Bool.and_eq_true, decide_eq_true_eq] at h
      obtain ⟨⟨⟨⟨⟨rfl, h1⟩, h2⟩, h3⟩, h4⟩, h5⟩ := h
      obtain ⟨g1, g2⟩ := okNo_at C h1
      exact i_rng2 g1 g2 (sndE a _ C h2) (sndE b _ C h4) h3 h5
    · cases h
end
end PM
/-! The matcher for statements, and what it says. -/
namespace PM
open PySem PySem.Spec PyProof.Rows L2

def scopeOf : Expr → Option Scope
  | .ListComp _ _ s _ => some s
  | .SetComp _ _ s _ => some s
  | .DictComp _ _ _ s _ => some s
  | _ => none
def swB (sc : Scope) (e tg : Expr) : Bool := match scopeOf e with
  | none => false
  | some s => match tg with
    | .Name t p => decide ((if sc.kind.isAnnotationScope then ScopeKind.function else sc.kind) = .function) && sc.names.lookup t == some .local && p.line == e.pos.line && !(s.names.any fun (n, k) => n == t && (k == .local || k == .cell))
    | _ => false
theorem swB_at (e tg : Expr) (l : Nat) (env : Env) : swapsWith e (some tg) l env = pure (swB env.scope e tg) := by
  cases e <;> first | rfl | (cases tg <;> rfl)
/-- no stores are swapped -/
def noSt (e tg : Expr) : Bool := notTup e || notSeqT tg
theorem noSt_at {e tg : Expr} (h : noSt e tg = true) (env : Env) : swappedStores [tg] e env = pure none := by
  unfold noSt at h
  rcases Bool.or_eq_true_iff.mp h with h | h
  · exact stores_no h env
  · exact stores_no' h env
def allFold (es : List Expr) : Bool := es.all (foldedForSure 8)
theorem any_st (f : Expr → Bool) (hf : ∀ e, notStar e = true → f e = false) : ∀ (es : List Expr), es.all notStar = true → es.any f = false
  | [], _ => rfl
  | e :: es, h => by
    simp only [List.all_cons, Bool.and_eq_true] at h
    rw [List.any_cons, hf e h.1, any_st f hf es h.2]; rfl
theorem fm_two (f : Expr → Option Str) {a b : Expr} {x y : Str} (h1 : f a = some x) (h2 : f b = some y) : [a, b].filterMap f = [x, y] := by
  rw [List.filterMap_cons, h1]; show x :: [b].filterMap f = _; rw [List.filterMap_cons, h2]; rfl
theorem fm_three (f : Expr → Option Str) {a b c : Expr} {x y z : Str} (h1 : f a = some x) (h2 : f b = some y) (h3 : f c = some z) : [a, b, c].filterMap f = [x, y, z] := by
  rw [List.filterMap_cons, h1]; show x :: [b, c].filterMap f = _; rw [fm_two f h2 h3]
theorem stores_par {x y : Str} {px py pt pt2 : Pos} {kt k2 : Nat} {e1 e2 : Expr} {env : Env} (hk : env.blockKind = .function) (hx : env.scope.names.lookup x = some .local) (hy : env.scope.names.lookup y = some .local) (hl : (px.line == py.line) = true) (hxy : (x == y) = false) (hyx : (y == x) = false)
    (h1 : notStar e1 = true) (h2 : notStar e2 = true) (hf : [e1, e2].all (foldedForSure 8) = false) (hc : [e1, e2].all (constantsAlone 8) = false) :
    swappedStores [.Tuple [.Name x px, .Name y py] kt pt] (.Tuple [e1, e2] k2 pt2) env = pure (some [x, y]) := by
  have kx : env.kindOf x = some .local := hx
  have ky : env.kindOf y = some .local := hy
  have hl' : (py.line == px.line) = true := by rw [beq_iff_eq] at hl ⊢; exact hl.symm
  have ha : [e1, e2].all notStar = true := by simp [h1, h2]
  have dd : [x, y].eraseDups = [x, y] := by simp [List.eraseDups_cons, hyx]
  unfold swappedStores
  dsimp only
  rw [any_st _ ?q [e1, e2] ha]
  case q => intro e h; cases e <;> first | rfl | cases h
  rw [fm_two _ (x := x) (y := y) (a := .Name x px) (b := .Name y py) ?q1 ?q2]
  case q1 => show (if env.kindOf x == some .local && px.line == px.line then some x else none) = some x; rw [kx]; simp
  case q2 => show (if env.kindOf y == some .local && py.line == px.line then some y else none) = some y; rw [ky, hl']; rfl
  rw [hk]
  rw [hf, hc]
  rw [dd]
  rfl
theorem stores_par3 {x y z : Str} {px py pz pt pt2 : Pos} {kt k2 : Nat} {e1 e2 e3 : Expr} {env : Env} (hk : env.blockKind = .function) (hx : env.scope.names.lookup x = some .local) (hy : env.scope.names.lookup y = some .local) (hz : env.scope.names.lookup z = some .local) (hl : (px.line == py.line) = true) (hl2 : (px.line == pz.line) = true) (hyx : (y == x) = false) (hzx : (z == x) = false) (hzy : (z == y) = false)
    (h1 : notStar e1 = true) (h2 : notStar e2 = true) (h3 : notStar e3 = true) (hf : [e1, e2, e3].all (foldedForSure 8) = false) (hc : [e1, e2, e3].all (constantsAlone 8) = false) :
    swappedStores [.Tuple [.Name x px, .Name y py, .Name z pz] kt pt] (.Tuple [e1, e2, e3] k2 pt2) env = pure (some [x, y, z]) := by
  have kx : env.kindOf x = some .local := hx
  have ky : env.kindOf y = some .local := hy
  have kz : env.kindOf z = some .local := hz
  have hl' : (py.line == px.line) = true := by rw [beq_iff_eq] at hl ⊢; exact hl.symm
  have hl2' : (pz.line == px.line) = true := by rw [beq_iff_eq] at hl2 ⊢; exact hl2.symm
  have ha : [e1, e2, e3].all notStar = true := by simp [h1, h2, h3]
  have dd : [x, y, z].eraseDups = [x, y, z] := by simp [List.eraseDups_cons, hyx, hzx, hzy]
  unfold swappedStores
  dsimp only
  rw [any_st _ ?q [e1, e2, e3] ha]
  case q => intro e h; cases e <;> first | rfl | cases h
  rw [fm_three _ (x := x) (y := y) (z := z) (a := .Name x px) (b := .Name y py) (c := .Name z pz) ?q1 ?q2 ?q3]
  case q1 => show (if env.kindOf x == some .local && px.line == px.line then some x else none) = some x; rw [kx]; simp
  case q2 => show (if env.kindOf y == some .local && py.line == px.line then some y else none) = some y; rw [ky, hl']; rfl
  case q3 => show (if env.kindOf z == some .local && pz.line == px.line then some z else none) = some z; rw [kz, hl2']; rfl
  rw [hk]
  rw [hf, hc]
  rw [dd]
  rfl
section
variable {X : Cx} {W : WX} {e e1 e2 e3 tg iter : Expr} {pos p p2 : Pos} {En : Ends} {φ φ' : List Addr} {H H' : Hp}
theorem asg_one (h : notStar tg = true) (env : Env) : (assignEach [tg] env).map (·.2) = [assign tg env] := by
  rw [assign_pl h]; rfl
theorem z_setLc {i : Nat} {y : Str} {py spos : Pos} {own : List (Str × Nat)} {it : Loc → M (List D × (Hs → Bool))} {g : YG} {ts : Loc → M Bool} {el : Loc → M D} {wi : L2.TI} {gt : L2.TG} {tt : L2.TT} {te : L2.TE}
    (hw : ∀ σ H R, TMi X W it σ H R → wi σ H R) (hg : ∀ v σ H Q, tG X g v σ H Q → gt v σ H Q) (ht : ∀ σ H Q, TMt X W0 ts σ H Q → tt σ H Q) (he : ∀ σ H Q, TMe X W0 el σ H Q → te σ H Q) (ho : inOwn (own.map (·.2)) g = true)
    (h : PS X (.Assign [.Name y py] e spos) (tAsg (tLc wi gt tt te (own.map (·.2))) (gName i))) :
    PS X (.Assign [.Name y py] e spos) (tS X W (setM (.name i) (lcmM it g (own.map (·.2)) ts el))) := by
  refine h.imp fun D σ H ⟨φ, l, h, sr, hr, p⟩ => ?_
  refine s_lcm hw hg ht he ho σ H _ ⟨φ, l, h, sr, hr, ?_⟩
  have q := set_post sr p
  refine (show ∀ {r : R PM.D} {Q1 Q2 : V → Hp → Prop}, Post X (fun c d H' => W c d σ H') φ H (RD X) r Q1 → (∀ b H, Q1 b H → Q2 b H) → Post X (fun c d H' => W c d σ H') φ H (RD X) r Q2 from fun {r Q1 Q2} p i => by cases r <;> first | exact fun φ' H' b l1 l2 l3 => i _ _ (p φ' H' b l1 l2 l3) | exact p) q fun v H1 hv => ?_
  obtain ⟨φ, l, h, d, sr, hr, rv, p⟩ := hv
  exact p φ _ H1 (Le.refl _ _) hr (sr.set i rv) fun vs hv => wipe_set_in σ i _ (by simpa [inOwn] using hv)
theorem z_par3 {a b c : Loc → M D} {i j k : Nat} {x y z : Str} {px py pz pt : Pos} {kt k2 : Nat} {pt2 : Pos} (hc : X.calm = true) (hN : X.N.Nodup) (hi : X.N[i]? = some x) (hj : X.N[j]? = some y) (hk : X.N[k]? = some z) (hij : i ≠ j) (hik : i ≠ k) (hjk : j ≠ k) (hx : X.env.scope.names.lookup x = some .local) (hy : X.env.scope.names.lookup y = some .local) (hz : X.env.scope.names.lookup z = some .local)
    (ha : PE X e1 (TMe X W a)) (hb : PE X e2 (TMe X W b)) (hcc : PE X e3 (TMe X W c)) (h1 : notStar e1 = true) (h2 : notStar e2 = true) (h3 : notStar e3 = true) (hw : swappedStores [.Tuple [.Name x px, .Name y py, .Name z pz] kt pt] (.Tuple [e1, e2, e3] k2 pt2) X.env = pure (some [x, y, z])) :
    PS X (.Assign [.Tuple [.Name x px, .Name y py, .Name z pz] kt pt] (.Tuple [e1, e2, e3] k2 pt2) pos) (tS X W fun l h => ofE (a l h) l fun x h1 => ofE (b l h1) l fun y h2 => ofE (c l h2) l fun z h3 => some (.nx, ((l.set i (some x)).set j (some y)).set k (some z), h3)) := by
  refine (ps_par3 hc hN hi hj hk hij hik hjk hx hy hz (pa_cons ha (pa_cons hb (pa_cons hcc pa_nil (star_cons h3 _ _)) (star_cons h2 _ _)) (star_cons h1 _ _)) hw).imp fun D σ H ⟨φ, l, h, sr, hr, p⟩ => ?_
  refine ⟨φ, l, h, sr, hr, ofE_post (RV := RD X) p sr fun d h1 φ1 H1 v _ le hr1 rv sr1 p1 => ⟨φ1, l, h1, sr1, hr1, ofE_post (RV := RD X) p1 sr1 fun d2 h2 φ2 H2 v2 _ le2 hr2 rv2 sr2 p2 => ⟨φ2, l, h2, sr2, hr2, ofE_post (RV := RD X) p2 sr2 fun d3 h3 φ3 H3 v3 _ le3 hr3 rv3 sr3 p3 => ?_⟩⟩⟩
  exact ⟨v, v2, v3, rfl, p3 φ3 H3 _ (Le.refl _ _) hr3 (((sr3.set i (DV.mono le3 _ _ (DV.mono le2 _ _ rv))).set j (DV.mono le3 _ _ rv2)).set k rv3)⟩
end
def funK (sc : Scope) : Bool := decide ((if sc.kind.isAnnotationScope then ScopeKind.function else sc.kind) = .function)
def okLcT (sc : Scope) (g : YG) (t : YE) (tg e : Expr) : Bool := match g, t, tg, e with
  | .name _, .lcm .., .Name x _, .ListComp .. => isLocal sc x
  | _, _, _, _ => false
/-- target = value -/
def okSet (F : List FI) (S : Scx) (g : YG) (t : YE) (tg e : Expr) : Bool :=
  okE F S t e && okG S g tg && noSt e tg && notStar tg && (!(swB S.sc e tg) || okLcT S.sc g t tg e)
mutual
def okS (F : List FI) (S : Scx) : YS → Stmt → Bool
  | .exp e, st => match st with
    | .Expr x _ => okE F S e x && notComp x
    | _ => false
  | .set g t, st => match st with
    | .Assign [tg] e _ => okSet F S g t tg e
    | _ => false
  | .par i j a b, st => match st with
    | .Assign [.Tuple [.Name x px, .Name y py] _ _] (.Tuple [e1, e2] _ _) _ => decide (S.N[i]? = some x) && decide (S.N[j]? = some y) && !(i == j) && isLocal S.sc x && isLocal S.sc y && okE F S a e1 && okE F S b e2 && notStar e1 && notStar e2 &&
      funK S.sc && px.line == py.line && !(x == y) && !(y == x) && !([e1, e2].all (foldedForSure 8)) && !([e1, e2].all (constantsAlone 8))
    | _ => false
  | .par3 i j k a b c, st => match st with
    | .Assign [.Tuple [.Name x px, .Name y py, .Name z pz] _ _] (.Tuple [e1, e2, e3] _ _) _ => decide (S.N[i]? = some x) && decide (S.N[j]? = some y) && decide (S.N[k]? = some z) && !(i == j) && !(i == k) && !(j == k) && isLocal S.sc x && isLocal S.sc y && isLocal S.sc z && okE F S a e1 && okE F S b e2 && okE F S c e3 && notStar e1 && notStar e2 && notStar e3 &&
      funK S.sc && px.line == py.line && px.line == pz.line && !(y == x) && !(z == x) && !(z == y) && !([e1, e2, e3].all (foldedForSure 8)) && !([e1, e2, e3].all (constantsAlone 8))
    | _ => false
  | .sst o i t, st => match st with
    | .Assign [.Subscript e1 e2 _] e _ => okE F S t e && okE F S o e1 && okE F S i e2 && notComp e && notSl e2
    | _ => false
  | .aug i op t, st => match st with
    | .AugAssign (.Name x _) o e _ => okLoc S i x && decide (op = o) && okE F S t e
    | _ => false
  | .ret t, st => match st with
    | .Return (some e) _ => okE F S t e
    | _ => false
  | .retn, st => match st with
    | .Return none _ => true
    | _ => false
  | .ife t a b, st => match st with
    | .If e xs ys _ => okT F S t e && okSs F S a xs && okSs F S b ys
    | _ => false
  | .for_ g it b, st => match st with
    | .For tg iter body [] _ => okI F S it iter && okG S g tg && okSs F S b body && notSet iter
    | _ => false
  | .brk, st => match st with
    | .Break _ => true
    | _ => false
  | .cnt, st => match st with
    | .Continue _ => true
    | _ => false
  | .pass, st => match st with
    | .Pass _ => true
    | .Expr (.Constant (.str _) _ _) _ => true
    | _ => false
  | .never, _ => true
def okSs (F : List FI) (S : Scx) : YSs → List Stmt → Bool
  | .nil, xs => match xs with
    | [] => true
    | _ => false
  | .cons s ss, xs => match xs with
    | x :: xs => okS F S s x && okSs F S ss xs
    | [] => false
end
section
variable {F : List FI} {S : Scx} {X : Cx} {W : WX}
theorem isLocal_at (C : CtxOk F X S W) {x : Str} (h : isLocal S.sc x = true) : X.env.scope.names.lookup x = some .local := by
  rw [C.sc]
  unfold isLocal at h
  split at h
  · assumption
  · cases h
theorem funK_at (C : CtxOk F X S W) (h : funK S.sc = true) : X.env.blockKind = .function := by
  unfold funK at h
  rw [← C.sc] at h
  exact of_decide_eq_true h
theorem sndSet (C : CtxOk F X S W) {g : YG} {t : YE} {tg e : Expr} {pos : Pos} (h : okSet F S g t tg e = true) : PS X (.Assign [tg] e pos) (tS X W (setM g (denE F t))) := by
  unfold okSet at h
  simp only [Bool.and_eq_true] at h
  obtain ⟨⟨⟨⟨he, hg⟩, hn⟩, hs⟩, hw⟩ := h
  cases q : swB S.sc e tg with
  | false => exact z_set (sndE t e C he) (sndG C g tg hg) (by rw [swB_at, C.sc, q]) (noSt_at hn _) (asg_one hs _)
  | true =>
    rw [q] at hw
    have hw2 : okLcT S.sc g t tg e = true := by simpa using hw
    unfold okLcT at hw2
    split at hw2
    · rename_i i elt g it ifs own x px _ _ _ _
      unfold okE at he
      split at he
      · rename_i el tg iter cs k scope pos2 heq
        rw [heq] at q ⊢
        clear hn hw heq
        simp only [Bool.and_eq_true, beq_iff_eq] at he
        obtain ⟨⟨⟨⟨⟨⟨⟨rfl, h1⟩, h2⟩, h3⟩, h4⟩, h5⟩, h6⟩, h7⟩ := he
        have B := fun s H Cl cl fp => C.blk s H scope Cl cl fp
        obtain ⟨hi, _, _⟩ := okLoc_at C (show okLoc S i x = true from hg)
        exact z_setLc (it := denI F it) (ts := denTs F true ifs) (el := denE F elt) (fun _ _ _ z => z) (fun _ _ _ _ z => z) (fun _ _ _ z => z) (fun _ _ _ z => z) h7
          (ps_setLc (wi := TMi X W (denI F it)) (g := tG X g) (tt := TMt X W0 (denTs F true ifs)) (te := TMe X W0 (denE F elt)) (own := own) C.s0.calm C.nd hi (isLocal_at C hw2) (by rw [swB_at, C.sc, q]) (sndI it tg iter C h3) (blkOk_by (by rw [C.hN, C.sc]; exact h5))
            (fun s H Cl cl fp => sndG (B s H Cl cl fp) g tg h2) (fun s H Cl cl fp => sndCs ifs cs (B s H Cl cl fp) h4) (fun s H Cl cl fp => sndE elt el (B s H Cl cl fp) h1) fun x => folded_no h6 _ x)
      · cases he
    · cases hw2
end
section
variable {F : List FI} {S : Scx} {X : Cx} {W : WX}
mutual
theorem sndS (C : CtxOk F X S W) : ∀ (t : YS) (st : Stmt), okS F S t st = true → PS X st (tS X W (denS F t))
  | .exp t, st, h => by
    unfold okS at h
    split at h
    · simp only [Bool.and_eq_true] at h
      exact z_exp (sndE t _ C h.1) h.2
    · cases h
  | .set g t, st, h => by
    unfold okS at h
    split at h
    · exact sndSet C h
    · cases h
  | .par i j a b, st, h => by
    unfold okS at h
    split at h
    · simp only [Bool.and_eq_true, decide_eq_true_eq, Bool.not_eq_true', beq_eq_false_iff_ne] at h
      obtain ⟨⟨⟨⟨⟨⟨⟨⟨⟨⟨⟨⟨⟨⟨a1, a2⟩, a3⟩, a4⟩, a5⟩, a6⟩, a7⟩, a8⟩, a9⟩, b1⟩, b2⟩, b3⟩, b4⟩, b5⟩, b6⟩ := h
      exact z_par C.s0.calm C.nd (by rw [C.hN]; exact a1) (by rw [C.hN]; exact a2) a3 (isLocal_at C a4) (isLocal_at C a5) (sndE a _ C a6) (sndE b _ C a7) a8 a9 (stores_par (funK_at C b1) (isLocal_at C a4) (isLocal_at C a5) b2 (beq_eq_false_iff_ne.mpr b3) (beq_eq_false_iff_ne.mpr b4) a8 a9 b5 b6)
    · cases h
  | .par3 i j k a b c, st, h => by
    unfold okS at h
    split at h
    · simp only [Bool.and_eq_true, decide_eq_true_eq, Bool.not_eq_true', beq_eq_false_iff_ne] at h
      obtain ⟨⟨⟨⟨⟨⟨⟨⟨⟨⟨⟨⟨⟨⟨⟨⟨⟨⟨⟨⟨⟨⟨a1, a2⟩, a3⟩, a4⟩, a5⟩, a6⟩, a7⟩, a8⟩, a9⟩, c1⟩, c2⟩, c3⟩, c4⟩, c5⟩, c6⟩, b1⟩, b2⟩, b22⟩, b3⟩, b4⟩, b45⟩, b5⟩, b6⟩ := h
      exact z_par3 C.s0.calm C.nd (by rw [C.hN]; exact a1) (by rw [C.hN]; exact a2) (by rw [C.hN]; exact a3) a4 a5 a6 (isLocal_at C a7) (isLocal_at C a8) (isLocal_at C a9) (sndE a _ C c1) (sndE b _ C c2) (sndE c _ C c3) c4 c5 c6 (stores_par3 (funK_at C b1) (isLocal_at C a7) (isLocal_at C a8) (isLocal_at C a9) b2 b22 (beq_eq_false_iff_ne.mpr b3) (beq_eq_false_iff_ne.mpr b4) (beq_eq_false_iff_ne.mpr b45) c4 c5 c6 b5 b6)
    · cases h
  | .sst o i t, st, h => by
    unfold okS at h
    split at h
    · simp only [Bool.and_eq_true] at h
      obtain ⟨⟨⟨⟨h1, h2⟩, h3⟩, h4⟩, h5⟩ := h
      exact z_sst (sndE t _ C h1) (sndE o _ C h2) (sndE i _ C h3) h4 h5
    · cases h
  | .aug i op t, st, h => by
    unfold okS at h
    split at h
    · simp only [Bool.and_eq_true, decide_eq_true_eq] at h
      obtain ⟨⟨h1, rfl⟩, h2⟩ := h
      obtain ⟨e1, e2, e3⟩ := okLoc_at C h1
      exact z_aug C.nd e1 e2 e3 (sndE t _ C h2)
    · cases h
  | .ret t, st, h => by
    unfold okS at h
    split at h
    · exact z_ret (sndE t _ C h)
    · cases h
  | .retn, st, h => by
    unfold okS at h
    split at h
    · exact z_retn F
    · cases h
  | .ife t a b, st, h => by
    unfold okS at h
    split at h
    · simp only [Bool.and_eq_true] at h
      exact z_ife (sndT t _ C h.1.1) (sndSs C a _ h.1.2) (sndSs C b _ h.2)
    · cases h
  | .for_ g it b, st, h => by
    unfold okS at h
    split at h
    · simp only [Bool.and_eq_true] at h
      obtain ⟨⟨⟨h1, h2⟩, h3⟩, h4⟩ := h
      exact z_for C.po C.s0.calm (sndI it _ _ C h1) (sndG C g _ h2) (sndSs C b _ h3) h4
    · cases h
  | .brk, st, h => by
    unfold okS at h
    split at h
    · exact z_brk F
    · cases h
  | .cnt, st, h => by
    unfold okS at h
    split at h
    · exact z_cnt F
    · cases h
  | .pass, st, h => by
    unfold okS at h
    split at h
    · exact z_pass F
    · exact z_doc F
    · cases h
  | .never, st, h => z_never F st
theorem sndSs (C : CtxOk F X S W) : ∀ (t : YSs) (st : List Stmt), okSs F S t st = true → PSs X st (tS X W (denSs F t))
  | .nil, st, h => by
    cases st with
    | nil => exact z_nil F
    | cons x xs => simp [okSs] at h
  | .cons t .nil, st, h => by
    cases st with
    | nil => simp [okSs] at h
    | cons x xs =>
      cases xs with
      | cons y ys => simp [okSs] at h
      | nil =>
        simp only [okSs, Bool.and_eq_true] at h
        exact z_one (sndS C t x h.1)
  | .cons t (.cons t2 ts), st, h => by
    cases st with
    | nil => simp [okSs] at h
    | cons x xs =>
      have h' : okS F S t x = true ∧ okSs F S (.cons t2 ts) xs = true := by
        simp only [okSs, Bool.and_eq_true] at h ⊢
        exact h
      exact z_cons (sndS C t x h'.1) (sndSs C (.cons t2 ts) xs h'.2)
end
end
end PM
/-! A def keeps its meaning; a law's end. -/
namespace PM
open PySem PySem.Spec PyProof.Rows L2

section
variable {P : Program} {w : World} {K : PySem.W.Frag} {mg : Str → Option Value} {base : Heap} {F : List FI}
theorem RS_end {X : Cx} {W : WX} {φ : List Addr} {H : Hp} {r : RS} {Q : VK} {E : XK} (hW : ∀ c d σ H, W c d σ H = E c d H)
    (p : match (match r with
      | some (.nx, _, h') => R.ok D.non h'
      | some (.rt d, _, h') => .ok d h'
      | some (.ex e, _, h') => .exc e h'
      | _ => .stk) with
    | .ok d h' => ∀ φ' H' v, Le φ φ' H H' → HR X.K X.mg φ' h' H' → DV X.K X.mg φ' H' d v → Q v H'
    | .exc e h' => ∀ φ' H' c dd, Le φ φ' H H' → HR X.K X.mg φ' h' H' → XV X.K X.mg φ' H' e c dd → E c dd H'
    | .stk => False) : PostS X W { nx := fun _ H' => Q .non H', rt := Q } φ H r := by
  cases r with
  | none => exact p
  | some z =>
    obtain ⟨fl, l', h'⟩ := z
    intro φ' H' σ' le hr sr
    cases fl with
    | nx => exact p φ' H' _ le hr vd_non
    | bk => exact p
    | ct => exact p
    | rt d => exact fun v rv => p φ' H' v le hr rv
    | ex e => exact fun c dd xv => (hW c dd σ' H').symm ▸ p φ' H' c dd le hr xv
theorem start_sr {φ : List Addr} {H : Hp} : ∀ {as : List D} {vs : List V}, DVs K mg φ H as vs → ∀ n, SR K mg φ H (as.map some ++ List.replicate n none) (vs.map some ++ List.replicate n none)
  | [], _, h, n => by
    simp only [DVs] at h; subst h
    induction n with
    | zero => rfl
    | succ n ih =>
      show SR K mg φ H (none :: List.replicate n none) (none :: List.replicate n none)
      simp only [SR]
      exact ⟨_, _, rfl, trivial, ih⟩
  | d :: ds, _, h, n => by
    simp only [DVs] at h
    obtain ⟨v, r, rfl, h1, h2⟩ := h
    simp only [List.map_cons, List.cons_append, SR]
    exact ⟨_, _, rfl, ⟨v, rfl, h1⟩, start_sr h2 n⟩
/-- a def keeps what its term says -/
theorem def_ok {x qual : Str} {params : Arguments} {body : List Stmt} {scope : Scope} {dvs : List V} {kws : List (Str × V)} {f : Addr} {fd : FuncData} {ps : List Str} {n : Nat} {b : YSs} {bl : List Str} {cs : List (Str × D)} {N : List Str} {k np : Nat}
    (Fd : FunD K x qual params body scope dvs kws f fd) (S : FnScope N ps scope) (ok : okSs F ⟨N, scope, scope, bl, cs, k⟩ b body = true) (hn : N.length = n) (hp : ps.length = np)
    (hbl : ∀ x ∈ bl, mg x = none) (hcs : ∀ p ∈ cs, ∃ v u, mg p.1 = some u ∧ RelV v u ∧ ∀ φ H, DV K mg φ H p.2 v) (hF : ∀ fi ∈ F, CallOk P w K mg base fi) : FnG P w K mg base (k + 1) f fd ps (spM K mg (run F n np b)) := by
  obtain ⟨oc, od, dV, kV, doc, pm, an, cdv, ct, osl, rfl, lk, hcd, _, _⟩ := Fd.ex
  subst hn hp
  refine fng_of lk hcd S (fun vs H Q E ⟨φ, ds, h, hr, dv, p⟩ => ?_) fun A outer s H vs Q E hr hg hsp => ?_
  · unfold run at p
    rw [← dv.length]
    by_cases q : ds.length = ps.length
    · exact q
    · rw [if_neg q] at p; exact p.elim
  · obtain ⟨φ, ds, h, hr2, dv, p⟩ := hsp
    unfold run at p
    by_cases q : ds.length = ps.length
    · rw [if_pos q] at p
      have C : CtxOk F (cxOf (L2.CX P w) P w K mg base N qual scope f cdv A outer s H E) ⟨N, scope, scope, bl, cs, k⟩ (fun c d _ H => E c d H) := {
        nd := S.nd
        hN := rfl
        sc := rfl
        s0 := ⟨rfl, hg, by have := hr.un; show (A.deeper (envOfC qual scope s.heap.objs.size f cdv)).units + 100 < cLine; omega⟩
        room := hr
        tk := L2.takes_of rfl rfl rfl rfl
        bl := hbl
        cs := fun p hp => hcs p hp
        fn := hF
        hloc := fun _ h => h
        hcell := fun _ h => ⟨h, rfl⟩
        po := L2.passes_of rfl }
      refine ⟨_, sndSs C b body ok, φ, startL N.length ds, h, ?_, hr2, RS_end (fun _ _ _ _ => rfl) p⟩
      show SR K mg φ H (startL N.length ds) (start N vs)
      have e : start N vs = vs.map some ++ List.replicate (N.length - vs.length) none := rfl
      rw [e]
      unfold startL
      rw [dv.length]
      exact start_sr dv _
    · rw [if_neg q] at p; exact p.elim
/-- .. and may be called -/
theorem def_call {x qual : Str} {params : Arguments} {body : List Stmt} {scope : Scope} {dvs : List V} {kws : List (Str × V)} {f : Addr} {fd : FuncData} {ps : List Str} {n : Nat} {b : YSs} {bl : List Str} {cs : List (Str × D)} {N : List Str} {k np : Nat} {nm : Str} {shs : List Shape}
    (Fd : FunD K x qual params body scope dvs kws f fd) (S : FnScope N ps scope) (ok : okSs F ⟨N, scope, scope, bl, cs, k⟩ b body = true) (hn : N.length = n) (hp : ps.length = np)
    (hbl : ∀ x ∈ bl, mg x = none) (hcs : ∀ p ∈ cs, ∃ v u, mg p.1 = some u ∧ RelV v u ∧ ∀ φ H, DV K mg φ H p.2 v) (hF : ∀ fi ∈ F, CallOk P w K mg base fi) (hm : mg nm = some (.ref f)) (hs : ∀ sh ∈ shs, ShapeOk K mg fd ps sh) :
    CallOk P w K mg base ⟨nm, k + 1, shs, run F n np b⟩ := ⟨f, fd, ps, hm, Fd.kp, def_ok Fd S ok hn hp hbl hcs hF, hs⟩
theorem calls_nil : ∀ fi ∈ ([] : List FI), CallOk P w K mg base fi := fun _ h => nomatch h
theorem calls_cons {fi : FI} (h : CallOk P w K mg base fi) (hs : ∀ fi ∈ F, CallOk P w K mg base fi) : ∀ g ∈ F ++ [fi], CallOk P w K mg base g := fun g hg => by
  rcases List.mem_append.mp hg with e | e
  · exact hs g e
  · rw [List.mem_singleton.mp e]; exact h
theorem bl_nil : ∀ x ∈ ([] : List Str), mg x = none := fun _ h => nomatch h
theorem bl_cons {x : Str} {bl : List Str} (h : mg x = none) (hs : ∀ x ∈ bl, mg x = none) : ∀ y ∈ x :: bl, mg y = none := fun y hy => by
  rcases List.mem_cons.mp hy with e | e
  · rw [e]; exact h
  · exact hs y e
abbrev CsOk (K : PySem.W.Frag) (mg : Str → Option Value) (cs : List (Str × D)) : Prop := ∀ p ∈ cs, ∃ v u, mg p.1 = some u ∧ RelV v u ∧ ∀ φ H, DV K mg φ H p.2 v
theorem cs_nil : CsOk K mg [] := fun _ h => nomatch h
theorem cs_int {x : Str} {i : Int} {cs : List (Str × D)} (h : ∃ t, mg x = some (.int i t)) (hs : CsOk K mg cs) : CsOk K mg ((x, .int i) :: cs) := fun p hp => by
  rcases List.mem_cons.mp hp with e | e
  · obtain ⟨t, ht⟩ := h
    rw [e]; exact ⟨.int i, _, ht, ⟨t, rfl⟩, fun _ _ => vd_int⟩
  · exact hs p e
theorem cs_str {x z : Str} {cs : List (Str × D)} (h : ∃ t, mg x = some (.str z t)) (hs : CsOk K mg cs) : CsOk K mg ((x, .str z) :: cs) := fun p hp => by
  rcases List.mem_cons.mp hp with e | e
  · obtain ⟨t, ht⟩ := h
    rw [e]; exact ⟨.str z, _, ht, ⟨t, rfl⟩, fun _ _ => vd_str⟩
  · exact hs p e
/-- n values by place, no defaults -/
theorem shape_pos {fd : FuncData} {ps : List Str} {sh : Shape} {g : {α : Type} → List α → List α → List α} (hb : ∀ (s : Shared) (us ws : List Value), K.In s.heap → us.length = sh.n → ws.length = sh.ks.length → BindsTo s fd ⟨us, sh.ks.zip ws⟩ (ps.zip (g us ws)))
    (hv : ∀ (vs ys : List V) (us ws : List Value), Vals vs us → Vals ys ws → us.length = sh.n → ws.length = sh.ks.length → Vals (g vs ys) (g us ws))
    (hd : ∀ (φ : List Addr) (H : Hp) (as bs rs : List D) (vs ys : List V), DVs K mg φ H as vs → DVs K mg φ H bs ys → getAll (Src.get as bs) sh.src = some rs → vs.length = sh.n → ys.length = sh.ks.length → DVs K mg φ H rs (g vs ys)) : ShapeOk K mg fd ps sh := by
  intro s us ws hk l1 l2
  refine ⟨g us ws, hb s us ws hk l1 l2, fun φ H as bs rs vs ys d1 v1 d2 v2 e => ⟨g vs ys, hd φ H as bs rs vs ys d1 d2 e ?_ ?_, hv vs ys us ws v1 v2 l1 l2⟩⟩
  · rw [v1.length]; exact l1
  · rw [v2.length]; exact l2
end

/-! ### the law's end -/
theorem ints_dv {K : PySem.W.Frag} {mg : Str → Option Value} {φ : List Addr} {H : Hp} : ∀ ns : List Int, DVs K mg φ H (ns.map D.int) (ns.map V.int)
  | [] => DVs.nil
  | n :: ns => DVs.cons vd_int (ints_dv ns)
theorem fz_of {K : PySem.W.Frag} {H : Hp} {a : Addr} {xs : List V} (o : L2.Only H) (s : SqL K H a xs) : FzL K H a xs := by
  rcases s with (s | ⟨b, s⟩) | s
  · rcases o a with e | ⟨b, ys, e⟩ <;> (rw [s] at e; cases e)
  · exact .inl ⟨b, s⟩
  · exact .inr s
theorem sp_law {K : PySem.W.Frag} {mg : Str → Option Value} {m : List D → M D} {H : Hp} {a : Addr} {ns : List Int} (o : L2.Only H) (s : SqL K H a (ns.map V.int)) (h : ∃ h', m [.kl (ns.map .int)] [] = .ok (.bl true) h') : spM K mg m [.ref a] H (fun v _ => v = .bl true) fun _ _ _ => False := by
  obtain ⟨h', e⟩ := h
  refine ⟨[], [.kl (ns.map .int)], [], ⟨rfl, List.nodup_nil, fun n a o e => by simp at e⟩, DVs.cons ?_ DVs.nil, ?_⟩
  · show DV _ _ _ _ _ _
    simp only [DV]
    exact ⟨a, _, rfl, fz_of o s, ints_dv ns⟩
  · rw [e]
    exact fun φ' H' v _ _ r => dv_bl r
section
variable {P : Program} {w : World} {K : PySem.W.Frag} {mg mb : Str → Option Value}
/-- one abstract heap H0, in which the script alone may be tracked -/
theorem lawG0 {k : Nat} {fa a : Addr} {fd : FuncData} {x : Str} {sp : Sp} {t : Shared} {us : List Value} {H0 : Hp} (inK : K.In t.heap) (g1 : t.heap.Ns mainGlobals mg) (g2 : t.heap.Ns builtinsNs mb) (g3 : ∀ x : Str, x ≠ "__name__" → mb x = bootBuiltins x) (lim : t.heap.NoLimit) (hg : t.gens = #[])
    (ob : t.heap.get? a = some { cls := .type "list", data := .seq us.toArray }) (room : Room k callerA) (fn : ∀ b : Heap, K.In b → b.Ns mainGlobals mg → FnG P w K mg b k fa fd [x] sp) (bind : ∀ (s : Shared) (u : Value), BindsTo s fd ⟨[u], []⟩ [(x, u)])
    (sat : sp [.ref a] H0 (fun v _ => v = .bl true) fun _ _ _ => False) (only : L2.Only H0) (hok : HOk P w H0 t.heap) (one : ∀ b, H0 b ≠ none → b = a) (out : H0 a ≠ none → K.lookup a = none) :
    codeAny (model P w) callerA (.call (.ref fa) ⟨[.ref a], []⟩) (fun r s' => r = .ok (.ret (.bool true)) ∧ OldK t.heap s'.heap ∧ s'.os = t.os ∧ AllBare s'.gens) t := by
  have low : ∀ {b : Addr} {o : Obj} {es : Array DictEntry} {ep : Nat}, t.heap.get? b = some o → o.data = .dict es ep → H0 b = none := by
    intro b o es ep e d
    rcases Option.eq_none_or_eq_some (H0 b) with q | ⟨u, q⟩
    · exact q
    · have eb := one b (by rw [q]; simp)
      rw [eb, ob] at e
      rw [← Option.some.inj e] at d
      cases d
  have keep : ∀ {b : Addr} {m : Str → Option Value}, t.heap.Ns b m → (hidT t.heap H0).Ns b m := fun ⟨o, es, ep, e, d, r⟩ => ⟨o, es, ep, hidT_get e (low e d), d, r⟩
  have kin : K.In (hidT t.heap H0) := by
    intro b o e
    refine hidT_get (inK b o e) ?_
    rcases Option.eq_none_or_eq_some (H0 b) with q | ⟨u, q⟩
    · exact q
    · have eb := one b (by rw [q]; simp)
      have := out (by rw [← eb, q]; simp)
      rw [← eb, e] at this; cases this
  have noLim : (hidT t.heap H0).NoLimit := by
    obtain ⟨m, q1, q2⟩ := lim
    exact ⟨m, keep q1, q2⟩
  have env : Env0 P w K mg (hidT t.heap H0) callerA [] t H0 := {
    frames := rfl, mod := ⟨kin, keep g1, ⟨mb, keep g2, g3⟩, noLim⟩, bs := fun b o e => of_hidT e, bsz := Nat.le_of_eq (hidT_size _ _), funs := trivial,
    frf := fun b hb => absurd (show b ∈ ([] : List Addr) from hb) (by simp), hok := hok, bare := .of_eq hg }
  have res := (fn _ kin (keep g1)).run callerA [] t H0 ⟨[.ref a], []⟩ [.ref a] [.ref a] _ _ room rfl env (bind t (.ref a)) (.cons rfl .nil) sat
  refine codeAny_mono res ?_
  rintro (e | fl) s' q
  · obtain ⟨_, _, _, _, _, _, _, _, _, _, _, _, z⟩ : L2.CX P w [] H0 t (fun _ _ _ => False) e s' := q
    exact z.elim
  · cases fl with
    | ret u =>
      obtain ⟨v, H1, e1, e2, un, ok1, rv, rfl⟩ := q
      have eu : u = Value.bool true := rv
      rw [eu]
      refine ⟨rfl, OldK.of_keep ?_, e1, e2⟩
      intro b o e
      rcases only b with z | ⟨c, xs, z⟩
      · exact un.keep b o e z (by intro z; exact absurd (show b ∈ ([] : List Addr) from z) (by simp)) (by simp)
      · have y1 := (hok b _ z).1
        have y2 := (ok1 b _ (un.frzs b c _ z)).1
        rw [e] at y1
        rw [Option.some.inj y1]; exact y2
    | next => exact False.elim q
    | brk => exact False.elim q
    | cont => exact False.elim q
theorem lawG {k : Nat} {fa a : Addr} {fd : FuncData} {x : Str} {sp : Sp} {t : Shared} {us : List Value} {ns : List Int} (inK : K.In t.heap) (g1 : t.heap.Ns mainGlobals mg) (g2 : t.heap.Ns builtinsNs mb) (g3 : ∀ x : Str, x ≠ "__name__" → mb x = bootBuiltins x) (lim : t.heap.NoLimit) (hg : t.gens = #[])
    (ob : t.heap.get? a = some { cls := .type "list", data := .seq us.toArray }) (isI : IntsAre us ns) (few : ns.length ≤ sizeLine) (room : Room k callerA) (fn : ∀ b : Heap, K.In b → b.Ns mainGlobals mg → FnG P w K mg b k fa fd [x] sp) (bind : ∀ (s : Shared) (u : Value), BindsTo s fd ⟨[u], []⟩ [(x, u)])
    (sat : ∀ H : Hp, L2.Only H → SqL K H a (ns.map V.int) → sp [.ref a] H (fun v _ => v = .bl true) fun _ _ _ => False) :
    codeAny (model P w) callerA (.call (.ref fa) ⟨[.ref a], []⟩) (fun r s' => r = .ok (.ret (.bool true)) ∧ OldK t.heap s'.heap ∧ s'.os = t.os ∧ AllBare s'.gens) t := by
  have vl := vals_ints isI
  rcases Option.eq_none_or_eq_some (K.lookup a) with q | ⟨o, q⟩
  · let ro : Obj := { cls := .type "list", data := .seq us.toArray }
    let H0 : Hp := fun b => if b = a then some (.frz ro (.lst (ns.map V.int))) else none
    have at_ : H0 a = some (.frz ro (.lst (ns.map V.int))) := if_pos rfl
    have off : ∀ b, b ≠ a → H0 b = none := fun b n => if_neg n
    have on : L2.Only H0 := fun b => (Classical.em (b = a)).elim (fun e => .inr ⟨ro, _, e ▸ at_⟩) fun n => .inl (off b n)
    refine lawG0 inK g1 g2 g3 lim hg ob room fn bind (sat H0 on (.inl (.inr ⟨ro, at_⟩))) on ?_ ?_ fun _ => q
    · intro b u z
      rcases Classical.em (b = a) with e | n
      · rw [e, at_] at z
        rw [e, ← Option.some.inj z]
        exact ⟨ob, by rw [List.length_map]; exact few, us, _, vl, ob⟩
      · rw [off b n] at z; cases z
    · intro b z
      rcases Classical.em (b = a) with e | n
      · exact e
      · exact absurd (off b n) z
  · have e := inK a o q
    rw [ob] at e
    have e' := Option.some.inj e
    subst e'
    refine lawG0 (H0 := fun _ => none) inK g1 g2 g3 lim hg ob room fn bind (sat _ (fun _ => .inl rfl) (.inr ⟨_, us.toArray, _, q, rfl, rfl, rfl, by rw [List.size_toArray, isI.length]; exact few, by simpa using vl⟩)) (fun _ => .inl rfl) ?_ (fun b z => absurd rfl z) fun z => absurd rfl z
    intro b u z
    exact absurd (show (none : Option HO) = some u from z) (by simp)
/-- a law whose def means m -/
theorem walkG {l : PySem.W.OpenLaw} {n k : Nat} {q : Program} {loose : List Str} {XP : (Str → Option Value) → Heap → Prop} {YP : World → Heap → Prop} {d : DefRec} {x : Str} {m : List D → M D} (hn : l.most = some n) (hn2 : n ≤ sizeLine) (hdf : d.params.defaults = []) (room : Room k callerA)
    (F : ∀ (w : World) (mg : Str → Option Value) (fa : Addr) (h : Heap), YP w h → h.Ns mainGlobals mg → mg d.name = some (.ref fa) → ∃ (K : PySem.W.Frag) (fd : FuncData), K.In h ∧ (∀ (s : Shared) (u : Value), BindsTo s fd ⟨[u], []⟩ [(x, u)]) ∧ ∀ b : Heap, K.In b → b.Ns mainGlobals mg → FnG l.prog w K mg b k fa fd [x] (spM K mg m))
    (pure : ∀ ns : List Int, ns.length ≤ n → (∀ k ∈ ns, Builtin.Int.intBits k ≤ 1048576) → ∃ h', m [.kl (ns.map .int)] [] = .ok (.bl true) h') : PySem.W.WalkO q loose XP YP l.row.toRowW d [] (fun f vs => PySem.call f vs) := by
  refine Att.attach_callB hn hdf fun w s₀ t mg mb fa o pm cd doc a us ns G Y _ _ _ hm ob isI few bits hg => ?_
  obtain ⟨K, fd, inK, hb, hF⟩ := F w mg fa _ Y G.T.g hm
  exact lawG inK G.T.g G.T.b G.T.builtins G.T.nolimit hg ob isI (Nat.le_trans few hn2) room hF hb fun H hO hS => sp_law hO hS (pure ns few bits)
end
end PM
/-! Facts of the head, shapes of calls. -/
namespace PM
open PySem PySem.Spec PyProof.Rows L2

/-! ### shapes -/
def Src.look {α : Type} (us ws : List α) : Src → Option α
  | .pos i => us[i]?
  | .kw i => ws[i]?
  | .dfl _ => none
def Src.own : Src → Bool
  | .dfl _ => false
  | _ => true
def pick {α : Type} (us ws : List α) : List Src → List α
  | [] => []
  | s :: r => match s.look us ws with
    | some x => x :: pick us ws r
    | none => pick us ws r
theorem vals_get? : ∀ {vs : List V} {us : List Value} (i : Nat), Vals vs us → (vs[i]? = none ∧ us[i]? = none) ∨ ∃ v u, vs[i]? = some v ∧ us[i]? = some u ∧ RelV v u
  | _, _, _, .nil => .inl ⟨by simp, by simp⟩
  | _, _, 0, .cons r _ => .inr ⟨_, _, rfl, rfl, r⟩
  | _, _, i + 1, .cons _ t => by
    rcases vals_get? i t with ⟨e1, e2⟩ | ⟨v, u, e1, e2, r⟩
    · exact .inl ⟨by simpa using e1, by simpa using e2⟩
    · exact .inr ⟨v, u, by simpa using e1, by simpa using e2, r⟩
theorem pick_vals {vs ys : List V} {us ws : List Value} (h1 : Vals vs us) (h2 : Vals ys ws) : ∀ src : List Src, Vals (pick vs ys src) (pick us ws src)
  | [] => .nil
  | s :: r => by
    have ih := pick_vals h1 h2 r
    unfold pick
    cases s with
    | pos i => rcases vals_get? i h1 with ⟨e1, e2⟩ | ⟨v, u, e1, e2, q⟩ <;> simp only [Src.look, e1, e2] <;> first | exact ih | exact .cons q ih
    | kw i => rcases vals_get? i h2 with ⟨e1, e2⟩ | ⟨v, u, e1, e2, q⟩ <;> simp only [Src.look, e1, e2] <;> first | exact ih | exact .cons q ih
    | dfl d => exact ih
section
variable {K : PySem.W.Frag} {mg : Str → Option Value} {φ : List Addr} {H : Hp}
theorem pick_dvs {as bs : List D} {vs ys : List V} (h1 : DVs K mg φ H as vs) (h2 : DVs K mg φ H bs ys) : ∀ {src : List Src} {rs : List D}, src.all Src.own = true → getAll (Src.get as bs) src = some rs → DVs K mg φ H rs (pick vs ys src)
  | [], rs, _, e => by cases e; exact DVs.nil
  | s :: r, rs, ho, e => by
    simp only [List.all_cons, Bool.and_eq_true] at ho
    unfold getAll at e
    cases q : s.get as bs with
    | none => rw [q] at e; cases e
    | some d =>
      rw [q] at e
      cases q2 : getAll (Src.get as bs) r with
      | none => rw [q2] at e; cases e
      | some l =>
        rw [q2] at e
        cases e
        have ih := pick_dvs h1 h2 ho.2 q2
        unfold pick
        cases s with
        | pos i =>
          obtain ⟨v, e1, rv⟩ := h1.get' q
          simp only [Src.look, e1]
          exact DVs.cons rv ih
        | kw i =>
          obtain ⟨v, e1, rv⟩ := h2.get' q
          simp only [Src.look, e1]
          exact DVs.cons rv ih
        | dfl d => cases ho.1
theorem shape_of {x qual : Str} {params : Arguments} {body : List Stmt} {scope : Scope} {kws : List (Str × V)} {f : Addr} {fd : FuncData} {ps : List Str} {sh : Shape} (Fd : FunD K x qual params body scope [] kws f fd) (ho : sh.src.all Src.own = true)
    (h : ∀ (kV doc pm : Value) (an : Option Addr) (cdv ct : Value) (us ws : List Value), us.length = sh.n → ws.length = sh.ks.length → bindArgs (PySem.W.fnOf x qual params body scope .none kV doc pm an cdv ct) ⟨us, sh.ks.zip ws⟩ = pure (ps.zip (pick us ws sh.src))) : ShapeOk K mg fd ps sh := by
  obtain ⟨oc, od, dV, kV, doc, pm, an, cdv, ct, osl, rfl, lk, hcd, hD, _⟩ := Fd.ex
  rcases hD with ⟨_, rfl⟩ | ⟨z, _⟩
  · intro s us ws _ l1 l2
    exact ⟨pick us ws sh.src, .of_eq (h kV doc pm an cdv ct us ws l1 l2), fun φ H as bs rs vs ys d1 v1 d2 v2 e => ⟨pick vs ys sh.src, pick_dvs d1 d2 ho e, pick_vals v1 v2 _⟩⟩
  · exact absurd rfl z
theorem shapes_nil {fd : FuncData} {ps : List Str} : ∀ sh ∈ ([] : List Shape), ShapeOk K mg fd ps sh := fun _ h => nomatch h
theorem shapes_cons {fd : FuncData} {ps : List Str} {sh : Shape} {l : List Shape} (h : ShapeOk K mg fd ps sh) (hs : ∀ sh ∈ l, ShapeOk K mg fd ps sh) : ∀ s ∈ sh :: l, ShapeOk K mg fd ps s := fun s hs' => by
  rcases List.mem_cons.mp hs' with e | e
  · rw [e]; exact h
  · exact hs s e
end

/-! ### facts by lists -/
def cFa : List (Str × D) → List He.Fa
  | [] => []
  | (x, .int i) :: r => .int x i :: cFa r
  | (x, .str z) :: r => .str x z :: cFa r
  | _ :: r => cFa r
def csPlain : List (Str × D) → Bool
  | [] => true
  | (_, .int _) :: r => csPlain r
  | (_, .str _) :: r => csPlain r
  | _ => false
def faOf (bl : List Str) (cs : List (Str × D)) (gl : List Str) (more : List He.Fa) : List He.Fa := bl.map He.Fa.free ++ (cFa cs ++ (gl.map He.Fa.glo ++ more))
section
variable {K : PySem.W.Frag} {h : Heap} {mg : Str → Option Value} {fn : List He.DefD} {bl gl : List Str} {cs : List (Str × D)} {more : List He.Fa}
theorem says_mem {fa : List He.Fa} (c : He.SaysD fa fn K) {f : He.Fa} (m : f ∈ fa) : f.ok K = true := by
  obtain ⟨i, hi⟩ := List.getElem?_of_mem m
  exact c.fact i hi
theorem bl_says (X : K.In h) (G : h.Ns mainGlobals mg) (c : He.SaysD (faOf bl cs gl more) fn K) : ∀ x ∈ bl, mg x = none := fun x hx =>
  He.free_ok X G (says_mem c (List.mem_append_left _ (List.mem_map_of_mem hx)))
theorem gl_says (X : K.In h) (G : h.Ns mainGlobals mg) (c : He.SaysD (faOf bl cs gl more) fn K) {x : Str} (hx : gl.contains x = true) : mg x = some (.ref (He.ga K x)) :=
  He.glo_ok X G (says_mem c (List.mem_append_right _ (List.mem_append_right _ (List.mem_append_left _ (List.mem_map_of_mem (List.contains_iff_mem.mp hx))))))
theorem cs_from (X : K.In h) (G : h.Ns mainGlobals mg) : ∀ cs : List (Str × D), csPlain cs = true → (∀ f ∈ cFa cs, f.ok K = true) → CsOk K mg cs
  | [], _, _ => cs_nil
  | (x, .int i) :: r, hp, hf => cs_int (He.int_ok X G (hf (.int x i) List.mem_cons_self)) (cs_from X G r hp fun f m => hf f (List.mem_cons_of_mem _ m))
  | (x, .str i) :: r, hp, hf => cs_str (He.str_ok X G (hf (.str x i) List.mem_cons_self)) (cs_from X G r hp fun f m => hf f (List.mem_cons_of_mem _ m))
  | (_, .non) :: r, hp, _ => by cases hp
  | (_, .bl _) :: r, hp, _ => by cases hp
  | (_, .tup _) :: r, hp, _ => by cases hp
  | (_, .ref _) :: r, hp, _ => by cases hp
  | (_, .kl _) :: r, hp, _ => by cases hp
  | (_, .kn _) :: r, hp, _ => by cases hp
  | (_, .ty _) :: r, hp, _ => by cases hp
theorem cs_says (X : K.In h) (G : h.Ns mainGlobals mg) (c : He.SaysD (faOf bl cs gl more) fn K) (hp : csPlain cs = true) : CsOk K mg cs :=
  cs_from X G cs hp fun f m => says_mem c (List.mem_append_right _ (List.mem_append_left _ m))
end
end PM
/-! Pure lemmas: loops, the draw. -/
namespace PM
open PySem PySem.Spec PyProof.Rows L2

/-- all objects but those at ws stand -/
def Ext (ws : List Nat) (h h' : Hs) : Prop := h.length ≤ h'.length ∧ ∀ n, n < h.length → n ∉ ws → h'[n]? = h[n]?
theorem Ext.refl (ws : List Nat) (h : Hs) : Ext ws h h := ⟨Nat.le_refl _, fun _ _ _ => rfl⟩
theorem Ext.trans {ws : List Nat} {h h1 h2 : Hs} (a : Ext ws h h1) (b : Ext ws h1 h2) : Ext ws h h2 :=
  ⟨Nat.le_trans a.1 b.1, fun n hn hw => (b.2 n (Nat.lt_of_lt_of_le hn a.1) hw).trans (a.2 n hn hw)⟩
theorem Ext.mono {ws ws' : List Nat} {h h1 : Hs} (a : Ext ws h h1) (s : ∀ x ∈ ws, x ∈ ws') : Ext ws' h h1 := ⟨a.1, fun n hn hw => a.2 n hn fun z => hw (s n z)⟩
theorem Ext.app (ws : List Nat) (h : Hs) (l : List Ob) : Ext ws h (h ++ l) := ⟨by simp, fun n hn _ => List.getElem?_append_left hn⟩
theorem Ext.set (h : Hs) (p : Nat) (o : Ob) : Ext [p] h (h.set p o) := ⟨by simp, fun n hn hw => List.getElem?_set_ne fun e => hw (by simp [e])⟩
theorem Ext.get {ws : List Nat} {h h' : Hs} (a : Ext ws h h') {n : Nat} {o : Ob} (e : h[n]? = some o) (hw : n ∉ ws) : h'[n]? = some o := by
  rw [a.2 n (List.getElem?_eq_some_iff.mp e).1 hw]; exact e

/-! ### what a result is -/
def Does {α : Type} (r : R α) (P : α → Hs → Prop) : Prop := ∃ a h, r = .ok a h ∧ P a h
theorem Does.mono {α : Type} {r : R α} {P Q : α → Hs → Prop} (d : Does r P) (i : ∀ a h, P a h → Q a h) : Does r Q := by
  obtain ⟨a, h, e, p⟩ := d
  exact ⟨a, h, e, i a h p⟩
theorem Does.bind {α β : Type} {m : M α} {f : α → M β} {h : Hs} {P : α → Hs → Prop} {Q : β → Hs → Prop} (d : Does (m h) P) (i : ∀ a h', P a h' → Does (f a h') Q) : Does (M.bind m f h) Q := by
  obtain ⟨a, h', e, p⟩ := d
  obtain ⟨b, h2, e2, q⟩ := i a h' p
  exact ⟨b, h2, by unfold M.bind; rw [e]; exact e2, q⟩
theorem Does.ret {α : Type} {a : α} {h : Hs} {P : α → Hs → Prop} (p : P a h) : Does (.ok a h) P := ⟨a, h, rfl, p⟩
def DoesS (r : RS) (P : Fl → Loc → Hs → Prop) : Prop := ∃ f l h, r = some (f, l, h) ∧ P f l h
theorem DoesS.mono {r : RS} {P Q : Fl → Loc → Hs → Prop} (d : DoesS r P) (i : ∀ f l h, P f l h → Q f l h) : DoesS r Q := by
  obtain ⟨f, l, h, e, p⟩ := d
  exact ⟨f, l, h, e, i f l h p⟩
theorem DoesS.ret {f : Fl} {l : Loc} {h : Hs} {P : Fl → Loc → Hs → Prop} (p : P f l h) : DoesS (some (f, l, h)) P := ⟨f, l, h, rfl, p⟩
/-- a loop that ends or returns -/
theorem for_does {step : D → Loc → Hs → RS} {chk : Hs → Bool} {P : Fl → Loc → Hs → Prop} : ∀ (xs : List D) (I : Nat → Loc → Hs → Prop) (l : Loc) (h : Hs), I 0 l h → (∀ i l h, I i l h → chk h = true) →
    (∀ i x l h, xs[i]? = some x → I i l h → DoesS (step x l h) fun f l' h' => match f with
      | .nx => I (i + 1) l' h'
      | .ct => I (i + 1) l' h'
      | .bk => P .nx l' h'
      | f => P f l' h') → (∀ l h, I xs.length l h → P .nx l h) → DoesS (forL step chk xs l h) P
  | [], I, l, h, h0, hc, hs, he => by
    unfold forL
    rw [if_pos (hc 0 l h h0)]
    exact .ret (he l h h0)
  | x :: xs, I, l, h, h0, hc, hs, he => by
    unfold forL
    rw [if_pos (hc 0 l h h0)]
    obtain ⟨f, l1, h1, e, p⟩ := hs 0 x l h rfl h0
    rw [e]
    cases f with
    | nx => exact for_does xs (fun i => I (i + 1)) l1 h1 p (fun i => hc (i + 1)) (fun i y l h hy => hs (i + 1) y l h (by simpa using hy)) he
    | ct => exact for_does xs (fun i => I (i + 1)) l1 h1 p (fun i => hc (i + 1)) (fun i y l h hy => hs (i + 1) y l h (by simpa using hy)) he
    | bk => exact .ret p
    | rt d => exact .ret p
    | ex e => exact .ret p
/-- a comprehension -/
theorem comp_gen {step : D → Hs → R (Option D)} {chk : Hs → Bool} : ∀ (xs : List D) (I : Nat → List D → Hs → Prop) (acc : List D) (h : Hs), I 0 acc h → (∀ i a h, I i a h → chk h = true) →
    (∀ i x a h, xs[i]? = some x → I i a h → Does (step x h) fun o h' => I (i + 1) (a ++ o.toList) h') → Does (compL step chk xs h) fun ys h' => I xs.length (acc ++ ys) h'
  | [], I, acc, h, h0, hc, hs => by
    unfold compL
    rw [if_pos (hc 0 acc h h0)]
    exact .ret (by simpa using h0)
  | x :: xs, I, acc, h, h0, hc, hs => by
    unfold compL
    rw [if_pos (hc 0 acc h h0)]
    obtain ⟨o, h1, e, p⟩ := hs 0 x acc h rfl h0
    rw [e]
    obtain ⟨ys, h2, e2, p2⟩ := comp_gen xs (fun i => I (i + 1)) (acc ++ o.toList) h1 p (fun i => hc (i + 1)) (fun i y a h hy => hs (i + 1) y a h (by simpa using hy))
    cases o with
    | none => exact ⟨ys, h2, e2, by simpa using p2⟩
    | some y =>
      simp only [e2]
      exact .ret (by simpa using p2)
theorem comp_does {step : D → Hs → R (Option D)} {chk : Hs → Bool} {P : List D → Hs → Prop} {xs : List D} {h : Hs} (I : Nat → List D → Hs → Prop) (h0 : I 0 [] h) (hc : ∀ i a h, I i a h → chk h = true)
    (hs : ∀ i x a h, xs[i]? = some x → I i a h → Does (step x h) fun o h' => I (i + 1) (a ++ o.toList) h') (he : ∀ a h, I xs.length a h → P a h) : Does (compL step chk xs h) P :=
  (comp_gen xs I [] h h0 hc hs).mono fun ys h' q => he ys h' (by simpa using q)

/-! ### the draw -/
def bTake (c1 c2 c3 c4 c5 : Int) : YSs := (.cons (.ife (.cmp .Gt (.sub (.var 0) (.cst (.int 0))) (.cst (.int 0))) (.cons (.set (.name 2) (.bin .Mod (.sub (.var 0) (.cst (.int 0))) (.var 1))) (.cons (.sst (.var 0) (.cst (.int 0)) (.bin .FloorDiv (.sub (.var 0) (.cst (.int 0))) (.var 1))) (.cons (.ret (.var 2)) .nil))) .nil) (.cons (.sst (.var 0) (.cst (.int 1)) (.bin .Mod (.bin .Add (.bin .Mult (.sub (.var 0) (.cst (.int 1))) (.cst (.int c1))) (.cst (.int c2))) (.cst (.int c3)))) (.cons (.ret (.bin .Mod (.bin .FloorDiv (.bin .Mod (.bin .Mult (.sub (.var 0) (.cst (.int 1))) (.sub (.var 0) (.cst (.int 1)))) (.cst (.int c4))) (.cst (.int c5))) (.var 1))) .nil)))
/-- the pool at p -/
def Pool (p : Nat) (h : Hs) : Prop := ∃ a b, h[p]? = some (.lst [.int a, .int b]) ∧ 0 ≤ a ∧ 0 ≤ b ∧ b < 2147483648
theorem take_ok (F : List FI) {c1 c2 c3 c4 c5 : Int} (k3 : 0 < c3) (k3' : c3 < 2147483648) (k4 : 0 < c4) (k5 : 0 < c5) (k5' : c5 < 1000) {h : Hs} {p : Nat} {n : Int} (hp : Pool p h) (h1 : 1 ≤ n) (h2 : n < 1073741824) :
    Does (run F 3 2 (bTake c1 c2 c3 c4 c5) [.ref p, .int n] h) fun d h' => (∃ r, d = .int r ∧ 0 ≤ r ∧ r < n) ∧ Pool p h' ∧ Ext [p] h h' ∧ h'.length = h.length := by
  obtain ⟨a, b, e, ha, hb, hb'⟩ := hp
  have el : p < h.length := (List.getElem?_eq_some_iff.mp e).1
  have mul0 : ∀ i j : Int, 0 ≤ i → i < 18446744073709551616 → (decide (-18446744073709551616 < i) && decide (i < 18446744073709551616) || decide (-18446744073709551616 < j) && decide (j < 18446744073709551616)) = true := fun i j q1 q2 => by
    rw [decide_eq_true (by omega), decide_eq_true q2]; rfl
  have ix0 : ∀ {α : Type} (x y : α), atI [x, y] 0 = some x := fun x y => rfl
  have ix1 : ∀ {α : Type} (x y : α), atI [x, y] 1 = some y := fun x y => rfl
  have jx0 : ixN 2 0 = some 0 := rfl
  have jx1 : ixN 2 1 = some 1 := rfl
  unfold run bTake
  by_cases hpos : 0 < a
  · have en : 0 < n := by omega
    simp only [denSs, denS, denE, denEs, denT, denTs, denAnd, denOr, denO, denI, ofE, M.bind, M.ret, asBl, opt2, startL, List.map_cons, List.map_nil, List.cons_append, List.nil_append, List.length_cons, List.length_nil, List.replicate, List.getElem?_cons_zero, List.getElem?_cons_succ, List.set_cons_zero, List.set_cons_succ, asgG, asgGs, getAll, Src.get, wipeL, binD, augD, cmpD, negD, subD, slcD, itemsOf, lstOf, blD, mtD, setItemD, iterD, rng1D, rng2D, okBound, Mt.okTy, Mt.onStr, isiD, truD, e, ix0, ix1, jx0, hpos, decide_true, if_true, id, en, h2, Bool.and_self, Int.add_zero, if_pos, Nat.reduceAdd, Nat.reduceSub, BEq.refl]
    refine .ret ⟨⟨_, rfl, Int.emod_nonneg _ (by omega), Int.emod_lt_of_pos _ en⟩, ⟨a / n, b, by rw [List.getElem?_set_self el], Int.ediv_nonneg ha (by omega), hb, hb'⟩, Ext.set _ _ _, by simp⟩
  · have en : 0 < n := by omega
    have m1 := mul0 b c1 hb (by omega)
    have b0 : 0 ≤ (b * c1 + c2) % c3 := Int.emod_nonneg _ (by omega)
    have b1 : (b * c1 + c2) % c3 < c3 := Int.emod_lt_of_pos _ k3
    have m2 := mul0 ((b * c1 + c2) % c3) ((b * c1 + c2) % c3) b0 (by omega)
    have e5 : c5 < 1073741824 := by omega
    have es : (List.set h p (Ob.lst [D.int a, D.int ((b * c1 + c2) % c3)]))[p]? = some (Ob.lst [D.int a, D.int ((b * c1 + c2) % c3)]) := List.getElem?_set_self el
    simp only [denSs, denS, denE, denEs, denT, denTs, denAnd, denOr, denO, denI, ofE, M.bind, M.ret, asBl, opt2, startL, List.map_cons, List.map_nil, List.cons_append, List.nil_append, List.length_cons, List.length_nil, List.replicate, List.getElem?_cons_zero, List.getElem?_cons_succ, List.set_cons_zero, List.set_cons_succ, asgG, asgGs, getAll, Src.get, wipeL, binD, augD, cmpD, negD, subD, slcD, itemsOf, lstOf, blD, mtD, setItemD, iterD, rng1D, rng2D, okBound, Mt.okTy, Mt.onStr, isiD, truD, e, es, ix0, ix1, jx1, hpos, decide_true, decide_false, if_true, id, en, h2, k3, k4, k5, e5, m1, m2, Bool.and_self, Int.add_zero, if_pos, Nat.reduceAdd, Nat.reduceSub, BEq.refl, Bool.false_eq_true, if_false]
    refine .ret ⟨⟨_, rfl, Int.emod_nonneg _ (by omega), Int.emod_lt_of_pos _ en⟩, ⟨a, _, es, ha, b0, by omega⟩, Ext.set _ _ _, by simp⟩
def bPool (c1 c2 c3 c4 c5 : Int) : YSs := (.cons (.set (.name 2) (.sub (.bin .Add (.slc (.var 0) (.some (.var 1)) (.some (.bin .Add (.var 1) (.cst (.int 1))))) (.lst (.cons (.cst (.int 0)) .nil))) (.cst (.int 0)))) (.cons (.set (.name 3) (.bcl .abs (.cons (.var 2) .nil))) (.cons (.set (.name 4) (.bin .Mod (.bin .Mult (.bin .Add (.bin .Add (.bin .Mod (.var 3) (.cst (.int c1))) (.bin .Mult (.cst (.int c2)) (.var 1))) (.cst (.int c3))) (.cst (.int c4))) (.cst (.int c5)))) (.cons (.ret (.lst (.cons (.bin .Mult (.var 3) (.bcl .int (.cons (.cmp .GtE (.var 3) (.bin .Pow (.cst (.int 10)) (.cst (.int 18)))) .nil))) (.cons (.var 4) .nil)))) .nil))))
theorem get_end (h : Hs) (o : Ob) : (h ++ [o])[List.length h]? = some o := by simp
theorem get_end2 (h : Hs) (o o' : Ob) : (h ++ [o] ++ [o'])[List.length h]? = some o := by simp
theorem fits_of {n : Nat} (h : n ≤ 16777216) : fits n = true := decide_eq_true h
theorem mul_small {i j : Int} (q1 : -18446744073709551616 < i) (q2 : i < 18446744073709551616) : (decide (-18446744073709551616 < i) && decide (i < 18446744073709551616) || decide (-18446744073709551616 < j) && decide (j < 18446744073709551616)) = true := by
  rw [decide_eq_true q1, decide_eq_true q2]; rfl
theorem mul_small' {i j : Int} (q1 : -18446744073709551616 < j) (q2 : j < 18446744073709551616) : (decide (-18446744073709551616 < i) && decide (i < 18446744073709551616) || decide (-18446744073709551616 < j) && decide (j < 18446744073709551616)) = true := by
  rw [decide_eq_true q1, decide_eq_true q2]; simp
theorem cell_ok (ns : List Int) (k : Nat) : ∃ i, atI (cutD (ns.map D.int) (some (k : Int)) (some ((k : Int) + 1)) ++ [D.int 0]) 0 = some (.int i) := by
  have : ∀ l : List Int, ∃ i, atI (l.map D.int ++ [D.int 0]) 0 = some (.int i) := by
    intro l
    cases l with
    | nil => exact ⟨0, rfl⟩
    | cons x l =>
      refine ⟨x, ?_⟩
      show atI (D.int x :: (l.map D.int ++ [D.int 0])) 0 = _
      unfold atI ixN
      simp only [List.length_cons, List.length_append, List.length_map, List.length_nil]
      rw [if_pos (by decide), if_pos (by omega)]
      rfl
  unfold cutD
  rw [← List.map_drop, ← List.map_take]
  exact this _
theorem cut_len (xs : List D) (lo hi : Option Int) : (cutD xs lo hi).length ≤ xs.length := by
  unfold cutD
  rw [List.length_take, List.length_drop]; omega
theorem pool_ok (F : List FI) {c1 c2 c3 c4 c5 : Int} (k1 : 0 < c1) (k1' : c1 < 2147483648) (k2 : 0 ≤ c2) (k2' : c2 < 10000) (k3 : 0 ≤ c3) (k3' : c3 < 1000) (k4 : 0 < c4) (k4' : c4 < 1000000) (k5 : 0 < c5) (k5' : c5 < 2147483648) (ns : List Int) {h : Hs} {k : Nat} (hk : k < 64) (hl : ns.length ≤ 63) :
    Does (run F 5 2 (bPool c1 c2 c3 c4 c5) [.kl (ns.map .int), .int k] h) fun d h' => ∃ p, d = .ref p ∧ Pool p h' ∧ Ext [] h h' ∧ h.length ≤ p := by
  obtain ⟨i, hi⟩ := cell_ok ns k
  have hl2 : (cutD (ns.map D.int) (some (k : Int)) (some ((k : Int) + 1))).length + 1 ≤ 64 := by
    have := cut_len (ns.map D.int) (some (k : Int)) (some ((k : Int) + 1))
    rw [List.length_map] at this; omega
  have f1 : fits ((cutD (ns.map D.int) (some (k : Int)) (some ((k : Int) + 1))).length + 1) = true := fits_of (by omega)
  have f2 : fits 1 = true := rfl
  have f3 : fits 2 = true := rfl
  unfold run bPool
  generalize hs : (if i < 0 then -i else i) = z
  have hz : 0 ≤ z := by rw [← hs]; split <;> omega
  have m1 : ∀ j : Int, (decide (-18446744073709551616 < c2) && decide (c2 < 18446744073709551616) || decide (-18446744073709551616 < j) && decide (j < 18446744073709551616)) = true := fun j => mul_small (by omega) (by omega)
  have m2 : ∀ j : Int, (decide (-18446744073709551616 < j) && decide (j < 18446744073709551616) || decide (-18446744073709551616 < c4) && decide (c4 < 18446744073709551616)) = true := fun j => mul_small' (by omega) (by omega)
  have m3 : ∀ (j : Int) (b : Bool), (decide (-18446744073709551616 < j) && decide (j < 18446744073709551616) || decide (-18446744073709551616 < (if b = true then (1 : Int) else 0)) && decide ((if b = true then (1 : Int) else 0) < 18446744073709551616)) = true := fun j b => mul_small' (by cases b <;> decide) (by cases b <;> decide)
  have pw : (decide ((0 : Int) ≤ 18) && decide ((18 : Int) ≤ 1000000) && decide (Int.natAbs 10 < 18446744073709551616)) = true := by decide
  simp only [denSs, denS, denE, denEs, denT, denTs, denAnd, denOr, denO, denI, ofE, M.bind, M.ret, asBl, opt2, startL, List.map_cons, List.map_nil, List.cons_append, List.nil_append, List.length_cons, List.length_nil, List.replicate, List.getElem?_cons_zero, List.getElem?_cons_succ, List.set_cons_zero, List.set_cons_succ, asgG, asgGs, getAll, Src.get, wipeL, binD, augD, cmpD, negD, subD, slcD, itemsOf, lstOf, blD, mtD, setItemD, iterD, rng1D, rng2D, okBound, Mt.okTy, Mt.onStr, isiD, truD, id, Bool.and_self, Int.add_zero, if_pos, if_true, Nat.reduceAdd, Nat.reduceSub, BEq.refl, f1, f2, f3, get_end, get_end2, hi, hs, k1, k5, m1, m2, m3, pw]
  refine .ret ⟨_, rfl, ⟨z * (if decide (10 ^ Int.toNat 18 ≤ z) = true then 1 else 0), _, get_end _ _, ?_, Int.emod_nonneg _ (by omega), ?_⟩, ?_, ?_⟩
  · split <;> omega
  · exact Int.lt_trans (Int.emod_lt_of_pos _ k5) k5'
  · exact (((Ext.app _ _ _).trans (Ext.app _ _ _)).trans (Ext.app _ _ _)).trans (Ext.app _ _ _)
  · simp
end PM
/-! One equation a construct (loops left out), rules for loops. -/
namespace PM
open PySem PySem.Spec PyProof.Rows L2

section
variable {F : List FI} {l : Loc} {h : Hs}
theorem q_var (i : Nat) : denE F (.var i) l = match l[i]? with
    | some (some d) => M.ret d
    | _ => M.stk := rfl
theorem q_cst (d : D) : denE F (.cst d) l = M.ret d := rfl
theorem q_glo (x : Str) (d : D) : denE F (.glo x d) l = M.ret d := rfl
theorem q_tup (es : YEs) : denE F (.tup es) l = M.bind (denEs F es l) fun xs h => if fits xs.length then .ok (.tup xs) h else .stk := rfl
theorem q_lst (es : YEs) : denE F (.lst es) l = M.bind (denEs F es l) fun xs h => if fits xs.length then .ok (.ref h.length) (h ++ [.lst xs]) else .stk := rfl
theorem q_bin (op : Operator) (a b : YE) : denE F (.bin op a b) l = M.bind (denE F a l) fun x => M.bind (denE F b l) fun y => binD op x y := rfl
theorem q_neg (a : YE) : denE F (.neg a) l = M.bind (denE F a l) negD := rfl
theorem q_cmp (op : CmpOp) (a b : YE) : denE F (.cmp op a b) l = M.bind (denE F a l) fun x => M.bind (denE F b l) fun y => cmpD op x y := rfl
theorem q_chn (o1 o2 : CmpOp) (a b c : YE) : denE F (.chn o1 o2 a b c) l = M.bind (denE F a l) fun x => M.bind (denE F b l) fun y => M.bind (cmpD o1 x y) fun r => match r with
    | .bl true => M.bind (denE F c l) fun z => cmpD o2 y z
    | .bl false => M.ret (.bl false)
    | _ => M.stk := rfl
theorem q_not (a : YE) : denE F (.not a) l = M.bind (denE F a l) fun x h => opt2 (truD x h) (fun c => .bl (!c)) h := rfl
theorem q_and (es : YEs) : denE F (.and es) l = denAnd F es l := rfl
theorem q_or (es : YEs) : denE F (.or es) l = denOr F es l := rfl
theorem q_ife (t : YT) (a b : YE) : denE F (.ife t a b) l = M.bind (denT F t l) fun c => if c then denE F a l else denE F b l := rfl
theorem q_sub (a i : YE) : denE F (.sub a i) l = M.bind (denE F a l) fun x => M.bind (denE F i l) fun y => subD x y := rfl
theorem q_slc (a : YE) (lo hi : YO) : denE F (.slc a lo hi) l = M.bind (denE F a l) fun x => M.bind (denO F lo l) fun u => M.bind (denO F hi l) fun v => slcD x u v := rfl
theorem q_bcl (b : Bl) (es : YEs) : denE F (.bcl b es) l = M.bind (denEs F es l) fun as => blD b as := rfl
theorem q_mth (m : Mt) (o : YE) (es : YEs) : denE F (.mth m o es) l = M.bind (denE F o l) fun x h => if m.okTy x h then M.bind (denEs F es l) (fun as => mtD m x as) h else .stk := rfl
theorem q_isi (ty : ITy) (a : YE) : denE F (.isi ty a) l = M.bind (denE F a l) fun x h => opt2 (isiD ty x h) .bl h := rfl
theorem q_exp (e : YE) : denS F (.exp e) l h = ofE (denE F e l h) l fun _ h' => some (.nx, l, h') := rfl
theorem q_set (g : YG) (e : YE) : denS F (.set g e) l h = ofE (denE F e l h) l fun d h' => match asgG g d l h' with
    | some (l', h2) => some (.nx, l', h2)
    | none => none := rfl
theorem q_par (i j : Nat) (a b : YE) : denS F (.par i j a b) l h = ofE (denE F a l h) l fun x h1 => ofE (denE F b l h1) l fun y h2 => some (.nx, (l.set i (some x)).set j (some y), h2) := rfl
theorem q_par3 (i j k : Nat) (a b c : YE) : denS F (.par3 i j k a b c) l h = ofE (denE F a l h) l fun x h1 => ofE (denE F b l h1) l fun y h2 => ofE (denE F c l h2) l fun z h3 => some (.nx, ((l.set i (some x)).set j (some y)).set k (some z), h3) := rfl
theorem q_sst (o i e : YE) : denS F (.sst o i e) l h = ofE (denE F e l h) l fun v h1 => ofE (denE F o l h1) l fun x h2 => ofE (denE F i l h2) l fun y h3 => match setItemD x y v h3 with
    | some h' => some (.nx, l, h')
    | none => none := rfl
theorem q_aug (i : Nat) (op : Operator) (e : YE) : denS F (.aug i op e) l h = match l[i]? with
    | some (some x) => ofE (denE F e l h) l fun y h1 => ofE (augD op x y h1) l fun z h2 => some (.nx, l.set i (some z), h2)
    | _ => none := rfl
theorem q_ret (e : YE) : denS F (.ret e) l h = ofE (denE F e l h) l fun d h' => some (.rt d, l, h') := rfl
theorem q_retn : denS F .retn l h = some (.rt .non, l, h) := rfl
theorem q_sife (t : YT) (a b : YSs) : denS F (.ife t a b) l h = ofE (denT F t l h) l fun c h' => if c then denSs F a l h' else denSs F b l h' := rfl
theorem q_brk : denS F .brk l h = some (.bk, l, h) := rfl
theorem q_cnt : denS F .cnt l h = some (.ct, l, h) := rfl
theorem q_pass : denS F .pass l h = some (.nx, l, h) := rfl
/-- a list comprehension -/
theorem lcm_ok {elt : YE} {g : YG} {it : YI} {ifs : YTs} {own : List (Str × Nat)} {items : List D} {chk : Hs → Bool} {h0 : Hs} {P : D → Hs → Prop} (I : Nat → List D → Hs → Prop) (hi : denI F it l h = .ok (items, chk) h0) (i0 : I 0 [] h0) (hc : ∀ i a h, I i a h → chk h = true)
    (hs : ∀ i x a h, items[i]? = some x → I i a h → ∃ l' h2, asgG g x (wipeL l (own.map (·.2))) h = some (l', h2) ∧ Does (denTs F true ifs l' h2) fun c h3 => (c = true → Does (denE F elt l' h3) fun y h4 => I (i + 1) (a ++ [y]) h4) ∧ (c = false → I (i + 1) a h3))
    (he : ∀ a h, I items.length a h → fits a.length = true ∧ P (.ref h.length) (h ++ [.lst a])) : Does (denE F (.lcm elt g it ifs own) l h) P := by
  have key := comp_does (P := fun a h => fits a.length = true ∧ P (.ref h.length) (h ++ [.lst a])) (step := turnM g (own.map (·.2)) l (denTs F true ifs) (denE F elt)) (chk := chk) (xs := items) (h := h0) I i0 hc (fun i x a h hx q => by
    obtain ⟨l', h2, e, d⟩ := hs i x a h hx q
    obtain ⟨c, h3, e2, d1, d2⟩ := d
    unfold turnM
    rw [e]
    cases c with
    | false =>
      simp only [e2]
      exact .ret (by simpa using d2 rfl)
    | true =>
      obtain ⟨y, h4, e3, d3⟩ := d1 rfl
      simp only [e2, e3]
      exact .ret (by simpa using d3)) he
  obtain ⟨ys, h2, e, f, p⟩ := key
  refine ⟨.ref h2.length, h2 ++ [.lst ys], ?_, p⟩
  have : denE F (.lcm elt g it ifs own) l = lcmM (denI F it) g (own.map (·.2)) (denTs F true ifs) (denE F elt) l := rfl
  rw [this]
  unfold lcmM M.bind
  rw [hi]
  simp only [e, f, if_true]
/-- a loop -/
theorem for_ok {g : YG} {it : YI} {b : YSs} {items : List D} {chk : Hs → Bool} {h0 : Hs} {P : Fl → Loc → Hs → Prop} (I : Nat → Loc → Hs → Prop) (hi : denI F it l h = .ok (items, chk) h0) (i0 : I 0 l h0) (hc : ∀ i l h, I i l h → chk h = true)
    (hs : ∀ i x l h, items[i]? = some x → I i l h → ∃ l' h2, asgG g x l h = some (l', h2) ∧ DoesS (denSs F b l' h2) fun f l' h' => match f with
      | .nx => I (i + 1) l' h'
      | .ct => I (i + 1) l' h'
      | .bk => P .nx l' h'
      | f => P f l' h') (he : ∀ l h, I items.length l h → P .nx l h) : DoesS (denS F (.for_ g it b) l h) P := by
  have key := for_does (P := P) (step := fun x l h => match asgG g x l h with
      | some (l', h2) => denSs F b l' h2
      | none => none) (chk := chk) items I l h0 i0 hc (fun i x l h hx q => by
    obtain ⟨l', h2, e, d⟩ := hs i x l h hx q
    simp only [e]
    exact d) he
  show DoesS (ofE (denI F it l h) l _) P
  rw [hi]
  exact key
/-- a def's end -/
theorem run_ok {n np : Nat} {b : YSs} {as : List D} {P : D → Hs → Prop} (hl : as.length = np) (d : DoesS (denSs F b (startL n as) h) fun f _ h' => match f with
    | .nx => P .non h'
    | .rt d => P d h'
    | _ => False) : Does (run F n np b as h) P := by
  obtain ⟨f, l, h', e, p⟩ := d
  unfold run
  rw [if_pos hl, e]
  cases f with
  | nx => exact .ret p
  | rt d => exact .ret p
  | bk => exact p.elim
  | ct => exact p.elim
  | ex x => exact p.elim
theorem seq_ok {s t : YS} {ss : YSs} {P : Fl → Loc → Hs → Prop} (d : DoesS (denS F s l h) fun f l' h' => match f with
    | .nx => DoesS (denSs F (.cons t ss) l' h') P
    | f => P f l' h') : DoesS (denSs F (.cons s (.cons t ss)) l h) P := by
  obtain ⟨f, l', h', e, p⟩ := d
  show DoesS (match denS F s l h with
    | some (.nx, l', h') => denSs F (.cons t ss) l' h'
    | r => r) P
  rw [e]
  cases f with
  | nx => exact p
  | bk => exact .ret p
  | ct => exact .ret p
  | rt d => exact .ret p
  | ex x => exact .ret p
theorem one_ok {s : YS} {P : Fl → Loc → Hs → Prop} (d : DoesS (denS F s l h) P) : DoesS (denSs F (.cons s .nil) l h) P := d
theorem set_ok {g : YG} {e : YE} {P : Fl → Loc → Hs → Prop} (d : Does (denE F e l h) fun d h' => ∃ l' h2, asgG g d l h' = some (l', h2) ∧ P .nx l' h2) : DoesS (denS F (.set g e) l h) P := by
  obtain ⟨d, h', e, l', h2, e2, p⟩ := d
  rw [q_set, e]
  show DoesS (match asgG g d l h' with
    | some (l', h2) => some (.nx, l', h2)
    | none => none) P
  rw [e2]
  exact .ret p
theorem ret_ok {e : YE} {P : Fl → Loc → Hs → Prop} (d : Does (denE F e l h) fun d h' => P (.rt d) l h') : DoesS (denS F (.ret e) l h) P := by
  obtain ⟨d, h', e, p⟩ := d
  rw [q_ret, e]
  exact .ret p
theorem exp_ok {e : YE} {P : Fl → Loc → Hs → Prop} (d : Does (denE F e l h) fun _ h' => P .nx l h') : DoesS (denS F (.exp e) l h) P := by
  obtain ⟨d, h', e, p⟩ := d
  rw [q_exp, e]
  exact .ret p
theorem ife_ok {t : YT} {a b : YSs} {P : Fl → Loc → Hs → Prop} (d : Does (denT F t l h) fun c h' => (c = true → DoesS (denSs F a l h') P) ∧ (c = false → DoesS (denSs F b l h') P)) : DoesS (denS F (.ife t a b) l h) P := by
  obtain ⟨c, h', e, p1, p2⟩ := d
  rw [q_sife, e]
  cases c with
  | true => exact p1 rfl
  | false => exact p2 rfl
end
end PM
/-! Texts, equality, slices. -/
namespace PM
open PySem PySem.Spec PyProof.Rows L2 SX

/-! ### equality -/
theorem eqv_strs : ∀ (a b : List Str), PyData.eqvAll (a.map .str) (b.map .str) = decide (a = b)
  | [], [] => rfl
  | [], _ :: _ => rfl
  | _ :: _, [] => rfl
  | x :: a, y :: b => by
    simp only [List.map_cons, PyData.eqvAll, PyData.eqv, eqv_strs a b]
    by_cases h : x = y
    · subst h; by_cases h2 : a = b <;> simp [h2]
    · simp [h]
/-- a text that the model can hold -/
def Tx (x : Str) : Prop := PyData.canLay0 (.str x) = true
theorem tx_S {l : List Nat} (h : ∀ c ∈ l, c < 1114112) : Tx (S l) := by
  unfold Tx
  simp only [PyData.canLay0, PyData.strOk]
  rw [← Array.all_toList]
  show l.all _ = true
  exact List.all_eq_true.mpr fun c hc => decide_eq_true (h c hc)
theorem shaped_str {x : Str} (h : Tx x) : SeqAt.shaped (.str x) = true := by
  unfold SeqAt.shaped
  rw [h]
  simp [PyData.depth]
theorem depth_strs : ∀ l : List Str, PyData.depthAll (l.map .str) = 0
  | [] => by simp [PyData.depthAll]
  | x :: l => by simp [PyData.depthAll, PyData.depth, depth_strs l]
theorem lay_strs : ∀ {l : List Str}, (∀ x ∈ l, Tx x) → PyData.canLayAll0 (l.map .str) = true
  | [], _ => by simp [PyData.canLayAll0]
  | x :: l, h => by
    simp only [List.map_cons, PyData.canLayAll0, Bool.and_eq_true]
    exact ⟨h x List.mem_cons_self, lay_strs fun y hy => h y (List.mem_cons_of_mem _ hy)⟩
theorem shaped_strs {l : List Str} (h : ∀ x ∈ l, Tx x) : SeqAt.shaped (.list (l.map .str)) = true := by
  unfold SeqAt.shaped
  rw [Bool.and_eq_true]
  refine ⟨?_, decide_eq_true ?_⟩
  · simp only [PyData.canLay0]; exact lay_strs h
  · simp only [PyData.depth, depth_strs]; omega
theorem resAll_strs (f : D → Option PyData) (hf : ∀ x, f (.str x) = some (.str x)) : ∀ l : List Str, resAll f (l.map .str) = some (l.map .str)
  | [] => rfl
  | x :: l => by
    show (match f (.str x) with
      | some y => match resAll f (l.map .str) with
        | some ys => some (y :: ys)
        | none => none
      | none => none) = _
    rw [hf, resAll_strs f hf l]; rfl
theorem eqD_str {a b : Str} {h : Hs} (ha : Tx a) (hb : Tx b) : eqD (.str a) (.str b) h = some (decide (a = b)) := by
  have e : ∀ x, res deep h (.str x) = some (.str x) := fun x => rfl
  unfold eqD
  rw [e, e]
  simp only [shaped_str ha, shaped_str hb, Bool.and_self, if_true, PyData.eqv]
  by_cases h : a = b <;> simp [h]
theorem eqD_int {a b : Int} {h : Hs} : eqD (.int a) (.int b) h = some (decide (a = b)) := by
  have e : ∀ x, res deep h (.int x) = some (.int x) := fun x => rfl
  have sh : ∀ x, SeqAt.shaped (.int x) = true := fun x => by simp [SeqAt.shaped, PyData.canLay0, PyData.depth]
  unfold eqD
  rw [e, e]
  simp only [sh, Bool.and_self, if_true, PyData.eqv]
  by_cases h : a = b <;> simp [h]
theorem res_strs {n : Nat} {h : Hs} {l : List Str} (e : h[n]? = some (.lst (l.map .str))) : res deep h (.ref n) = some (.list (l.map .str)) := by
  show (match h[n]? with
    | some (.lst ds) => (resAll (res 19 h) ds).map PyData.list
    | _ => none) = _
  rw [e]
  show (resAll (res 19 h) (l.map D.str)).map PyData.list = _
  rw [resAll_strs _ (fun _ => rfl)]; rfl
theorem eqD_strs {n m : Nat} {h : Hs} {a b : List Str} (ea : h[n]? = some (.lst (a.map .str))) (eb : h[m]? = some (.lst (b.map .str))) (ha : ∀ x ∈ a, Tx x) (hb : ∀ x ∈ b, Tx x) : eqD (.ref n) (.ref m) h = some (decide (a = b)) := by
  unfold eqD
  rw [res_strs ea, res_strs eb]
  simp only [shaped_strs ha, shaped_strs hb, Bool.and_self, if_true, PyData.eqv, eqv_strs]

/-! ### slices -/
theorem cut_tail (xs : List D) : cutD xs (some 1) none = xs.drop 1 := by
  unfold cutD
  have e1 : HT.sIx xs.length 0 (some 1) = min 1 xs.length := HT.sIx_nat _ _ 1
  have e2 : HT.sIx xs.length xs.length none = xs.length := rfl
  rw [e1, e2]
  cases xs with
  | nil => rfl
  | cons x xs =>
    simp only [List.length_cons]
    rw [Nat.min_eq_left (by omega)]
    simp
theorem cut_init (xs : List D) : cutD xs none (some (-1)) = xs.dropLast := by
  unfold cutD
  have e1 : HT.sIx xs.length 0 none = 0 := rfl
  have e2 : HT.sIx xs.length xs.length (some (-1)) = xs.length - 1 := by
    show (if (-1 : Int) < 0 then ((-1 : Int) + (xs.length : Int)).toNat else min (-1 : Int).toNat xs.length) = _
    rw [if_pos (by decide)]; omega
  rw [e1, e2, List.drop_zero, Nat.sub_zero, ← List.dropLast_eq_take]
theorem at_last {α : Type} (xs : List α) : atI xs (-1) = xs.getLast? := by
  unfold atI ixN
  rw [if_neg (by decide)]
  cases xs with
  | nil => rfl
  | cons x xs =>
    rw [if_pos (by simp only [List.length_cons]; omega)]
    have : ((-1 : Int) + ((x :: xs).length : Int)).toNat = xs.length := by simp only [List.length_cons]; omega
    rw [this]
    simp [List.getLast?_eq_getElem?]
theorem at_nat {α : Type} (xs : List α) (k : Nat) : atI xs (k : Int) = xs[k]? := by
  unfold atI ixN
  rw [if_pos (by omega)]
  by_cases h : k < xs.length
  · rw [if_pos (by omega)]; simp
  · rw [if_neg (by omega)]
    simp only [Option.bind_none]
    exact (List.getElem?_eq_none (by omega)).symm

/-! ### texts -/
theorem strsOf_map : ∀ l : List Str, strsOf (l.map .str) = some l
  | [] => rfl
  | x :: l => by
    show (match strsOf (l.map .str) with
      | some r => some (x :: r)
      | none => none) = _
    rw [strsOf_map l]
theorem join_S (s : List Nat) (l : List (List Nat)) : Txt.join (S s) (l.map S) = S (TL.joinL s l) := by
  refine TL.ext_tl ?_
  rw [TL.join_eq, TL.tl_join, map_S_tl]
theorem joinL_nil : ∀ l : List (List Nat), TL.joinL [] l = l.flatten
  | [] => rfl
  | [x] => by simp [TL.joinL]
  | x :: y :: r => by
    show x ++ ([] ++ TL.joinL [] (y :: r)) = _
    rw [joinL_nil (y :: r)]; simp
theorem join_empty (l : List (List Nat)) : Txt.join (S []) (l.map S) = S l.flatten := by rw [join_S, joinL_nil]
theorem slash_eq : (Str.ofString "/") = S [47] := by decide +kernel
theorem dash_eq : (Str.ofString "-") = S [45] := by decide +kernel
theorem empty_eq : (Str.ofString "") = S [] := by decide +kernel
theorem zero_eq : (Str.ofString "0") = S [48] := by decide +kernel
/-- a path's text -/
def pathL (ps : List (List Nat)) : List Nat := 47 :: TL.joinL [47] ps
theorem join_cons {s : List Nat} {ps : List (List Nat)} (h : ps ≠ []) : TL.joinL s ([] :: ps) = s ++ TL.joinL s ps := by
  cases ps with
  | nil => exact absurd rfl h
  | cons p r => rfl
theorem split_path {ps : List (List Nat)} (h : ps ≠ []) (hp : ∀ p ∈ ps, 47 ∉ p) : Txt.split (S (pathL ps)) (S [47]) = S [] :: ps.map S := by
  rw [split_S (by simp) (by decide)]
  have e : pathL ps = TL.joinL [47] ([] :: ps) := (join_cons (s := [47]) h).symm
  rw [e, TL.spl_join (by simp)]
  · rfl
  · intro p hp'
    rcases List.mem_cons.mp hp' with e | e
    · rw [e]; simp
    · exact hp p e
theorem dashes (a b : List Nat) (h : 45 ∉ a) : Txt.partition (S (a ++ 45 :: b)) (S [45]) = (S a, S [45], S b) := by
  refine SX.partition_some (by simp) ?_
  exact TL.par_part1 (S := []) (acc := []) h
theorem no_dash (a : List Nat) (h : 45 ∉ a) : Txt.partition (S a) (S [45]) = (S a, S [], S []) := SX.partition_none (by simp) (TL.par_none1 h)
end PM
/-! Law k02: its defs as terms of PM, their meanings. Written by gen.py. -/
namespace PM.K02
open PySem PySem.Spec PyProof.Rows L2 PM
/-- _law_pool(0 _law_script, 1 _law_k, 2 _law_cell, 3 _law_size, 4 _law_mixed) -/
def b_law_pool : YSs := (.cons (.set (.name 2) (.sub (.bin .Add (.slc (.var 0) (.some (.var 1)) (.some (.bin .Add (.var 1) (.cst (.int 1))))) (.lst (.cons (.cst (.int 0)) .nil))) (.cst (.int 0)))) (.cons (.set (.name 3) (.bcl .abs (.cons (.var 2) .nil))) (.cons (.set (.name 4) (.bin .Mod (.bin .Mult (.bin .Add (.bin .Add (.bin .Mod (.var 3) (.cst (.int 2147483587))) (.bin .Mult (.cst (.int 6211)) (.var 1))) (.cst (.int 97))) (.cst (.int 48271))) (.cst (.int 2147483647)))) (.cons (.ret (.lst (.cons (.bin .Mult (.var 3) (.bcl .int (.cons (.cmp .GtE (.var 3) (.bin .Pow (.cst (.int 10)) (.cst (.int 18)))) .nil))) (.cons (.var 4) .nil)))) .nil))))
abbrev F_law_pool : List FI := []
def m_law_pool : List D → M D := run F_law_pool 5 2 b_law_pool
def i_law_pool : FI := ⟨"_law_pool", 1, [⟨2, [], [.pos 0, .pos 1]⟩], m_law_pool⟩
/-- parts_of(0 path) -/
def b_parts_of : YSs := (.cons (.ret (.ife (.cmp .Eq (.var 0) (.glo "ROOT" (.str "/"))) (.lst .nil) (.slc (.mth .split (.var 0) (.cons (.cst (.str "/")) .nil)) (.some (.cst (.int 1))) .none))) .nil)
abbrev F_parts_of : List FI := F_law_pool ++ [i_law_pool]
def m_parts_of : List D → M D := run F_parts_of 1 1 b_parts_of
def i_parts_of : FI := ⟨"parts_of", 1, [⟨1, [], [.pos 0]⟩, ⟨0, ["path"], [.kw 0]⟩], m_parts_of⟩
/-- path_of(0 parts) -/
def b_path_of : YSs := (.cons (.ret (.bin .Add (.glo "ROOT" (.str "/")) (.mth .join (.cst (.str "/")) (.cons (.var 0) .nil)))) .nil)
abbrev F_path_of : List FI := F_parts_of ++ [i_parts_of]
def m_path_of : List D → M D := run F_path_of 1 1 b_path_of
def i_path_of : FI := ⟨"path_of", 1, [⟨1, [], [.pos 0]⟩], m_path_of⟩
/-- parent_of(0 path) -/
def b_parent_of : YSs := (.cons (.ret (.cal 2 0 (.cons (.slc (.cal 1 0 (.cons (.var 0) .nil) .nil) .none (.some (.neg (.cst (.int 1))))) .nil) .nil)) .nil)
abbrev F_parent_of : List FI := F_path_of ++ [i_path_of]
def m_parent_of : List D → M D := run F_parent_of 1 1 b_parent_of
def i_parent_of : FI := ⟨"parent_of", 2, [⟨0, ["path"], [.kw 0]⟩, ⟨1, [], [.pos 0]⟩], m_parent_of⟩
theorem e_parent_of_path_of_1 (es ks : YEs) (l : Loc) : denE F_parent_of (.cal 2 0 es ks) l = M.bind (denEs F_parent_of es l) fun as => M.bind (denEs F_parent_of ks l) fun bs => match getAll (Src.get as bs) [.pos 0] with
  | some vs => m_path_of vs
  | none => M.stk := rfl
theorem e_parent_of_parts_of_1 (es ks : YEs) (l : Loc) : denE F_parent_of (.cal 1 0 es ks) l = M.bind (denEs F_parent_of es l) fun as => M.bind (denEs F_parent_of ks l) fun bs => match getAll (Src.get as bs) [.pos 0] with
  | some vs => m_parts_of vs
  | none => M.stk := rfl
/-- last_part(0 path) -/
def b_last_part : YSs := (.cons (.ret (.sub (.cal 1 0 (.cons (.var 0) .nil) .nil) (.neg (.cst (.int 1))))) .nil)
abbrev F_last_part : List FI := F_parent_of ++ [i_parent_of]
def m_last_part : List D → M D := run F_last_part 1 1 b_last_part
def i_last_part : FI := ⟨"last_part", 2, [⟨0, ["path"], [.kw 0]⟩, ⟨1, [], [.pos 0]⟩], m_last_part⟩
theorem e_last_part_parts_of_1 (es ks : YEs) (l : Loc) : denE F_last_part (.cal 1 0 es ks) l = M.bind (denEs F_last_part es l) fun as => M.bind (denEs F_last_part ks l) fun bs => match getAll (Src.get as bs) [.pos 0] with
  | some vs => m_parts_of vs
  | none => M.stk := rfl
/-- _law_take(0 _law_pool_here, 1 _law_many, 2 _law_found) -/
def b_law_take : YSs := (.cons (.ife (.cmp .Gt (.sub (.var 0) (.cst (.int 0))) (.cst (.int 0))) (.cons (.set (.name 2) (.bin .Mod (.sub (.var 0) (.cst (.int 0))) (.var 1))) (.cons (.sst (.var 0) (.cst (.int 0)) (.bin .FloorDiv (.sub (.var 0) (.cst (.int 0))) (.var 1))) (.cons (.ret (.var 2)) .nil))) .nil) (.cons (.sst (.var 0) (.cst (.int 1)) (.bin .Mod (.bin .Add (.bin .Mult (.sub (.var 0) (.cst (.int 1))) (.cst (.int 39373))) (.cst (.int 12011))) (.cst (.int 2147483647)))) (.cons (.ret (.bin .Mod (.bin .FloorDiv (.bin .Mod (.bin .Mult (.sub (.var 0) (.cst (.int 1))) (.sub (.var 0) (.cst (.int 1)))) (.cst (.int 2147483629))) (.cst (.int 32))) (.var 1))) .nil)))
abbrev F_law_take : List FI := F_last_part ++ [i_last_part]
def m_law_take : List D → M D := run F_law_take 3 2 b_law_take
def i_law_take : FI := ⟨"_law_take", 1, [⟨2, [], [.pos 0, .pos 1]⟩], m_law_take⟩
/-- _law_word(0 _law_pool_here, 1 _law_turn) -/
def b_law_word_c1 : YE := (.lcm (.sub (.cst (.str "abcz")) (.cal 5 0 (.cons (.var 0) (.cons (.cst (.int 4)) .nil)) .nil)) (.name 1) (.rng1 (.bin .Add (.cst (.int 1)) (.cal 5 0 (.cons (.var 0) (.cons (.cst (.int 3)) .nil)) .nil))) .nil [("_law_turn", 1)])
def b_law_word : YSs := (.cons (.ife (.cmp .Eq (.cal 5 0 (.cons (.var 0) (.cons (.cst (.int 12)) .nil)) .nil) (.cst (.int 0))) (.cons (.ret (.cst (.str "abcdefgh"))) .nil) .nil) (.cons (.ret (.mth .join (.cst (.str "")) (.cons b_law_word_c1 .nil))) .nil))
abbrev F_law_word : List FI := F_law_take ++ [i_law_take]
def m_law_word : List D → M D := run F_law_word 2 1 b_law_word
def i_law_word : FI := ⟨"_law_word", 2, [⟨1, [], [.pos 0]⟩], m_law_word⟩
theorem e_law_word_law_take_2 (es ks : YEs) (l : Loc) : denE F_law_word (.cal 5 0 es ks) l = M.bind (denEs F_law_word es l) fun as => M.bind (denEs F_law_word ks l) fun bs => match getAll (Src.get as bs) [.pos 0, .pos 1] with
  | some vs => m_law_take vs
  | none => M.stk := rfl
/-- _law_part(0 _law_pool_here, 1 _law_word_here) -/
def b_law_part : YSs := (.cons (.set (.name 1) (.cal 6 0 (.cons (.var 0) .nil) .nil)) (.cons (.ife (.cmp .Eq (.cal 5 0 (.cons (.var 0) (.cons (.cst (.int 4)) .nil)) .nil) (.cst (.int 0))) (.cons (.ret (.bin .Add (.bin .Add (.var 1) (.cst (.str "-"))) (.mth .rjust (.bcl .str (.cons (.cal 5 0 (.cons (.var 0) (.cons (.cst (.int 12)) .nil)) .nil) .nil)) (.cons (.cst (.int 6)) (.cons (.cst (.str "0")) .nil))))) .nil) .nil) (.cons (.ret (.var 1)) .nil)))
abbrev F_law_part : List FI := F_law_word ++ [i_law_word]
def m_law_part : List D → M D := run F_law_part 2 1 b_law_part
def i_law_part : FI := ⟨"_law_part", 3, [⟨1, [], [.pos 0]⟩], m_law_part⟩
theorem e_law_part_law_word_1 (es ks : YEs) (l : Loc) : denE F_law_part (.cal 6 0 es ks) l = M.bind (denEs F_law_part es l) fun as => M.bind (denEs F_law_part ks l) fun bs => match getAll (Src.get as bs) [.pos 0] with
  | some vs => m_law_word vs
  | none => M.stk := rfl
theorem e_law_part_law_take_2 (es ks : YEs) (l : Loc) : denE F_law_part (.cal 5 0 es ks) l = M.bind (denEs F_law_part es l) fun as => M.bind (denEs F_law_part ks l) fun bs => match getAll (Src.get as bs) [.pos 0, .pos 1] with
  | some vs => m_law_take vs
  | none => M.stk := rfl
/-- is_word(0 thing, 1 sign) -/
def b_is_word_c1 : YE := (.lcm (.cmp .In (.var 1) (.glo "LETTERS" (.str "abcdefghijklmnopqrstuvwxyz"))) (.name 1) (.val (.var 0)) .nil [("sign", 1)])
def b_is_word : YSs := (.cons (.ret (.and (.cons (.isi .str (.var 0)) (.cons (.chn .LtE .LtE (.cst (.int 1)) (.bcl .len (.cons (.var 0) .nil)) (.glo "LONGEST" (.int 8))) (.cons (.bcl .all (.cons b_is_word_c1 .nil)) .nil))))) .nil)
abbrev F_is_word : List FI := F_law_part ++ [i_law_part]
def m_is_word : List D → M D := run F_is_word 2 1 b_is_word
def i_is_word : FI := ⟨"is_word", 1, [⟨1, [], [.pos 0]⟩], m_is_word⟩
/-- is_part(0 thing, 1 word, 2 sign, 3 figures, 4 one) -/
def b_is_part_c1 : YE := (.lcm (.cmp .In (.var 4) (.glo "FIGURES" (.str "0123456789"))) (.name 4) (.val (.var 3)) .nil [("one", 4)])
def b_is_part : YSs := (.cons (.ife (.not (.val (.isi .str (.var 0)))) (.cons (.ret (.cst (.bl false))) .nil) .nil) (.cons (.set (.tup (.cons (.name 1) (.cons (.name 2) (.cons (.name 3) .nil)))) (.mth .partition (.var 0) (.cons (.cst (.str "-")) .nil))) (.cons (.ife (.cmp .Eq (.var 2) (.cst (.str ""))) (.cons (.ret (.cal 8 0 (.cons (.var 1) .nil) .nil)) .nil) .nil) (.cons (.ret (.and (.cons (.cal 8 0 (.cons (.var 1) .nil) .nil) (.cons (.cmp .Eq (.bcl .len (.cons (.var 3) .nil)) (.glo "MANY_FIGURES" (.int 6))) (.cons (.bcl .all (.cons b_is_part_c1 .nil)) .nil))))) .nil))))
abbrev F_is_part : List FI := F_is_word ++ [i_is_word]
def m_is_part : List D → M D := run F_is_part 5 1 b_is_part
def i_is_part : FI := ⟨"is_part", 2, [⟨1, [], [.pos 0]⟩], m_is_part⟩
theorem e_is_part_is_word_1 (es ks : YEs) (l : Loc) : denE F_is_part (.cal 8 0 es ks) l = M.bind (denEs F_is_part es l) fun as => M.bind (denEs F_is_part ks l) fun bs => match getAll (Src.get as bs) [.pos 0] with
  | some vs => m_is_word vs
  | none => M.stk := rfl
/-- is_path(0 thing, 1 one) -/
def b_is_path_c1 : YE := (.lcm (.cal 9 0 (.cons (.var 1) .nil) .nil) (.name 1) (.val (.cal 1 0 (.cons (.var 0) .nil) .nil)) .nil [("one", 1)])
def b_is_path : YSs := (.cons (.ife (.or (.cons (.not (.val (.isi .str (.var 0)))) (.cons (.not (.val (.mth .startswith (.var 0) (.cons (.cst (.str "/")) .nil)))) .nil))) (.cons (.ret (.cst (.bl false))) .nil) .nil) (.cons (.ret (.and (.cons (.cmp .LtE (.bcl .len (.cons (.cal 1 0 (.cons (.var 0) .nil) .nil) .nil)) (.glo "MOST_PARTS" (.int 5))) (.cons (.bcl .all (.cons b_is_path_c1 .nil)) .nil)))) .nil))
abbrev F_is_path : List FI := F_is_part ++ [i_is_part]
def m_is_path : List D → M D := run F_is_path 2 1 b_is_path
def i_is_path : FI := ⟨"is_path", 3, [⟨1, [], [.pos 0]⟩], m_is_path⟩
theorem e_is_path_parts_of_1 (es ks : YEs) (l : Loc) : denE F_is_path (.cal 1 0 es ks) l = M.bind (denEs F_is_path es l) fun as => M.bind (denEs F_is_path ks l) fun bs => match getAll (Src.get as bs) [.pos 0] with
  | some vs => m_parts_of vs
  | none => M.stk := rfl
theorem e_is_path_is_part_1 (es ks : YEs) (l : Loc) : denE F_is_path (.cal 9 0 es ks) l = M.bind (denEs F_is_path es l) fun as => M.bind (denEs F_is_path ks l) fun bs => match getAll (Src.get as bs) [.pos 0] with
  | some vs => m_is_part vs
  | none => M.stk := rfl
/-- law(0 _law_script, 1 _law_k, 2 _law_pool_here, 3 _law_parts, 4 _law_whole, 5 _law_turn, 6 _law_above, 7 _law_held, 8 _law_found) -/
def b_law_f2 : YSs := (.cons (.set (.name 8) (.cal 1 0 (.cons (.var 4) .nil) .nil)) (.cons (.ife (.or (.cons (.not (.val (.isi .list (.var 8)))) (.cons (.cmp .NotEq (.var 8) (.var 3)) .nil))) (.cons (.ret (.cst (.bl false))) .nil) .nil) (.cons (.exp (.mth .append (.var 8) (.cons (.cst .non) .nil))) .nil)))
def b_law_c1 : YE := (.lcm (.cal 7 0 (.cons (.var 2) .nil) .nil) (.name 5) (.rng1 (.bin .Add (.cst (.int 1)) (.cal 5 0 (.cons (.var 2) (.cons (.cst (.int 5)) .nil)) .nil))) .nil [("_law_turn", 5)])
def b_law_f1 : YSs := (.cons (.set (.name 2) (.cal 0 0 (.cons (.var 0) (.cons (.var 1) .nil)) .nil)) (.cons (.set (.name 3) b_law_c1) (.cons (.set (.name 4) (.bin .Add (.cst (.str "/")) (.mth .join (.cst (.str "/")) (.cons (.var 3) .nil)))) (.cons (.for_ (.name 5) (.rng1 (.cst (.int 2))) b_law_f2) (.cons (.set (.name 6) (.bin .Add (.cst (.str "/")) (.mth .join (.cst (.str "/")) (.cons (.slc (.var 3) .none (.some (.neg (.cst (.int 1))))) .nil)))) (.cons (.set (.name 7) (.cal 1 0 (.cons (.var 4) .nil) .nil)) (.cons (.ife (.or (.cons (.cmp .NotEq (.cal 1 0 (.cons (.var 6) .nil) .nil) (.slc (.var 3) .none (.some (.neg (.cst (.int 1)))))) (.cons (.cmp .NotEq (.var 7) (.var 3)) .nil))) (.cons (.ret (.cst (.bl false))) .nil) .nil) (.cons (.ife (.or (.cons (.cmp .NotEq (.cal 3 1 (.cons (.var 4) .nil) .nil) (.var 6)) (.cons (.cmp .NotEq (.cal 4 1 (.cons (.var 4) .nil) .nil) (.sub (.var 3) (.neg (.cst (.int 1))))) (.cons (.not (.val (.cal 10 0 (.cons (.var 4) .nil) .nil))) (.cons (.not (.val (.cal 10 0 (.cons (.var 6) .nil) .nil))) .nil))))) (.cons (.ret (.cst (.bl false))) .nil) .nil) .nil))))))))
def b_law : YSs := (.cons (.ife (.or (.cons (.cmp .NotEq (.cal 1 0 (.cons (.cst (.str "/")) .nil) .nil) (.lst .nil)) (.cons (.cmp .NotEq (.cal 1 1 .nil (.cons (.cst (.str "/a")) .nil)) (.lst (.cons (.cst (.str "a")) .nil))) .nil))) (.cons (.ret (.cst (.bl false))) .nil) .nil) (.cons (.ife (.or (.cons (.cmp .NotEq (.cal 3 0 .nil (.cons (.cst (.str "/a")) .nil)) (.cst (.str "/"))) (.cons (.cmp .NotEq (.cal 4 0 .nil (.cons (.cst (.str "/a")) .nil)) (.cst (.str "a"))) .nil))) (.cons (.ret (.cst (.bl false))) .nil) .nil) (.cons (.for_ (.name 1) (.rng1 (.bcl .max (.cons (.cst (.int 1)) (.cons (.bcl .min (.cons (.bcl .len (.cons (.var 0) .nil)) (.cons (.cst (.int 30)) .nil))) .nil)))) b_law_f1) (.cons (.ret (.cst (.bl true))) .nil))))
abbrev F_law : List FI := F_is_path ++ [i_is_path]
def m_law : List D → M D := run F_law 9 1 b_law
def i_law : FI := ⟨"law", 4, [], m_law⟩
theorem e_law_law_pool_2 (es ks : YEs) (l : Loc) : denE F_law (.cal 0 0 es ks) l = M.bind (denEs F_law es l) fun as => M.bind (denEs F_law ks l) fun bs => match getAll (Src.get as bs) [.pos 0, .pos 1] with
  | some vs => m_law_pool vs
  | none => M.stk := rfl
theorem e_law_parts_of_1 (es ks : YEs) (l : Loc) : denE F_law (.cal 1 0 es ks) l = M.bind (denEs F_law es l) fun as => M.bind (denEs F_law ks l) fun bs => match getAll (Src.get as bs) [.pos 0] with
  | some vs => m_parts_of vs
  | none => M.stk := rfl
theorem e_law_parts_of_0_path (es ks : YEs) (l : Loc) : denE F_law (.cal 1 1 es ks) l = M.bind (denEs F_law es l) fun as => M.bind (denEs F_law ks l) fun bs => match getAll (Src.get as bs) [.kw 0] with
  | some vs => m_parts_of vs
  | none => M.stk := rfl
theorem e_law_parent_of_0_path (es ks : YEs) (l : Loc) : denE F_law (.cal 3 0 es ks) l = M.bind (denEs F_law es l) fun as => M.bind (denEs F_law ks l) fun bs => match getAll (Src.get as bs) [.kw 0] with
  | some vs => m_parent_of vs
  | none => M.stk := rfl
theorem e_law_last_part_0_path (es ks : YEs) (l : Loc) : denE F_law (.cal 4 0 es ks) l = M.bind (denEs F_law es l) fun as => M.bind (denEs F_law ks l) fun bs => match getAll (Src.get as bs) [.kw 0] with
  | some vs => m_last_part vs
  | none => M.stk := rfl
theorem e_law_law_part_1 (es ks : YEs) (l : Loc) : denE F_law (.cal 7 0 es ks) l = M.bind (denEs F_law es l) fun as => M.bind (denEs F_law ks l) fun bs => match getAll (Src.get as bs) [.pos 0] with
  | some vs => m_law_part vs
  | none => M.stk := rfl
theorem e_law_parent_of_1 (es ks : YEs) (l : Loc) : denE F_law (.cal 3 1 es ks) l = M.bind (denEs F_law es l) fun as => M.bind (denEs F_law ks l) fun bs => match getAll (Src.get as bs) [.pos 0] with
  | some vs => m_parent_of vs
  | none => M.stk := rfl
theorem e_law_last_part_1 (es ks : YEs) (l : Loc) : denE F_law (.cal 4 1 es ks) l = M.bind (denEs F_law es l) fun as => M.bind (denEs F_law ks l) fun bs => match getAll (Src.get as bs) [.pos 0] with
  | some vs => m_last_part vs
  | none => M.stk := rfl
theorem e_law_is_path_1 (es ks : YEs) (l : Loc) : denE F_law (.cal 10 0 es ks) l = M.bind (denEs F_law es l) fun as => M.bind (denEs F_law ks l) fun bs => match getAll (Src.get as bs) [.pos 0] with
  | some vs => m_is_path vs
  | none => M.stk := rfl
theorem e_law_law_take_2 (es ks : YEs) (l : Loc) : denE F_law (.cal 5 0 es ks) l = M.bind (denEs F_law es l) fun as => M.bind (denEs F_law ks l) fun bs => match getAll (Src.get as bs) [.pos 0, .pos 1] with
  | some vs => m_law_take vs
  | none => M.stk := rfl
end PM.K02
namespace PM.K02
open PySem PySem.Spec PyProof.Rows L2 PM SX

/-! ### words, parts -/
def WordL (l : List Nat) : Prop := 1 ≤ l.length ∧ l.length ≤ 8 ∧ ∀ c ∈ l, 97 ≤ c ∧ c ≤ 122
def PartL (l : List Nat) : Prop := WordL l ∨ ∃ w d, l = w ++ 45 :: d ∧ WordL w ∧ d.length = 6 ∧ ∀ c ∈ d, 48 ≤ c ∧ c ≤ 57
theorem PartL.ne {l : List Nat} (h : PartL l) : l ≠ [] := by
  rcases h with ⟨h, _⟩ | ⟨w, d, rfl, _⟩
  · intro e; rw [e] at h; simp at h
  · simp
theorem PartL.le {l : List Nat} (h : PartL l) : l.length ≤ 15 := by
  rcases h with ⟨_, h, _⟩ | ⟨w, d, rfl, ⟨_, h, _⟩, h2, _⟩
  · omega
  · simp only [List.length_append, List.length_cons]; omega
theorem PartL.sign {l : List Nat} (h : PartL l) : ∀ c ∈ l, c ≠ 47 ∧ c < 1114112 := by
  rcases h with ⟨_, _, h⟩ | ⟨w, d, rfl, ⟨_, _, h⟩, _, h2⟩
  · intro c hc; have := h c hc; omega
  · intro c hc
    rcases List.mem_append.mp hc with q | q
    · have := h c q; omega
    · rcases List.mem_cons.mp q with q | q
      · omega
      · have := h2 c q; omega
def Parts (ps : List (List Nat)) : Prop := ps.length ≤ 5 ∧ ∀ p ∈ ps, PartL p
theorem Parts.noslash {ps : List (List Nat)} (h : Parts ps) : ∀ p ∈ ps, 47 ∉ p := fun p hp hc => ((h.2 p hp).sign 47 hc).1 rfl
theorem joinL_mem {s : List Nat} {P : Nat → Prop} (hs : ∀ c ∈ s, P c) : ∀ {ps : List (List Nat)}, (∀ p ∈ ps, ∀ c ∈ p, P c) → ∀ c ∈ TL.joinL s ps, P c
  | [], _, c, hc => by cases hc
  | [p], h, c, hc => h p (by simp) c hc
  | p :: q :: r, h, c, hc => by
    rcases List.mem_append.mp (show c ∈ p ++ (s ++ TL.joinL s (q :: r)) from hc) with e | e
    · exact h p (by simp) c e
    · rcases List.mem_append.mp e with e | e
      · exact hs c e
      · exact joinL_mem hs (ps := q :: r) (fun p hp => h p (List.mem_cons_of_mem _ hp)) c e
theorem Parts.tx {ps : List (List Nat)} (h : Parts ps) : Tx (S (pathL ps)) := tx_S fun c hc => by
  rcases List.mem_cons.mp hc with e | e
  · omega
  · exact joinL_mem (P := fun c => c < 1114112) (by simp) (fun p hp c hc => ((h.2 p hp).sign c hc).2) c e
theorem Parts.txs {ps : List (List Nat)} (h : Parts ps) : ∀ x ∈ ps.map S, Tx x := fun x hx => by
  obtain ⟨p, hp, rfl⟩ := List.mem_map.mp hx
  exact tx_S fun c hc => ((h.2 p hp).sign c hc).2
theorem joinL_len (s : List Nat) : ∀ ps : List (List Nat), (TL.joinL s ps).length ≤ (ps.map (·.length)).sum + ps.length * s.length
  | [] => by simp [TL.joinL]
  | [p] => by simp [TL.joinL]
  | p :: q :: r => by
    have ih := joinL_len s (q :: r)
    show (p ++ (s ++ TL.joinL s (q :: r))).length ≤ _
    simp only [List.length_append, List.map_cons, List.sum_cons, List.length_cons, Nat.add_mul, Nat.one_mul] at ih ⊢
    omega
theorem sum_le {ps : List (List Nat)} {n : Nat} (h : ∀ p ∈ ps, p.length ≤ n) : (ps.map (·.length)).sum ≤ ps.length * n := by
  induction ps with
  | nil => simp
  | cons p ps ih =>
    have h1 := h p (by simp)
    have h2 := ih fun q hq => h q (List.mem_cons_of_mem _ hq)
    simp only [List.map_cons, List.sum_cons, List.length_cons, Nat.add_mul, Nat.one_mul]; omega
theorem Parts.len {ps : List (List Nat)} (h : Parts ps) : (pathL ps).length ≤ 81 ∧ (ps.map (·.length)).sum + ps.length * 1 ≤ 80 := by
  have h1 := sum_le fun p hp => (h.2 p hp).le
  have h2 := joinL_len [47] ps
  have h3 := h.1
  simp only [pathL, List.length_cons, List.length_nil] at h2 ⊢
  omega
theorem Parts.init {ps : List (List Nat)} (h : Parts ps) : Parts ps.dropLast := ⟨by have := h.1; simp; omega, fun p hp => h.2 p (List.dropLast_subset _ hp)⟩
theorem path_ne {ps : List (List Nat)} (h : Parts ps) (hne : ps ≠ []) : S (pathL ps) ≠ S [47] := fun e => by
  have e := S_inj e
  cases ps with
  | nil => exact hne rfl
  | cons p r =>
    have hp := (h.2 p (by simp)).ne
    cases p with
    | nil => exact hp rfl
    | cons c p =>
      cases r with
      | nil => simp [pathL, TL.joinL] at e
      | cons q r => simp [pathL, TL.joinL] at e
/-- the list of these texts stands at n -/
def LstAt (h : Hs) (n : Nat) (ps : List (List Nat)) : Prop := h[n]? = some (.lst ((ps.map S).map .str))
theorem tx_slash : Tx (S [47]) := tx_S (by simp)

theorem parts_of_ok {ps : List (List Nat)} (hp : Parts ps) (h : Hs) : Does (m_parts_of [.str (S (pathL ps))] h) fun d h' => ∃ n, d = .ref n ∧ LstAt h' n ps ∧ Ext [] h h' ∧ h.length ≤ n := by
  have e1 : eqD (.str (S (pathL ps))) (.str (S [47])) h = some (decide (S (pathL ps) = S [47])) := eqD_str hp.tx tx_slash
  have f0 : fits 0 = true := rfl
  unfold m_parts_of run b_parts_of
  by_cases hne : ps = []
  · subst hne
    have e2 : decide (S (pathL []) = S [47]) = true := rfl
    simp only [q_var, q_cst, q_glo, q_tup, q_lst, q_bin, q_neg, q_cmp, q_chn, q_not, q_and, q_or, q_ife, q_sub, q_slc, q_bcl, q_mth, q_isi, q_exp, q_set, q_par, q_par3, q_sst, q_aug, q_ret, q_retn, q_sife, q_brk, q_cnt, q_pass, denSs, denEs, denT, denTs, denAnd, denOr, denO, denI, ofE, M.bind, M.ret, asBl, opt2, startL, List.map_cons, List.map_nil, List.cons_append, List.nil_append, List.length_cons, List.length_nil, List.replicate, List.getElem?_cons_zero, List.getElem?_cons_succ, List.set_cons_zero, List.set_cons_succ, asgG, asgGs, getAll, Src.get, wipeL, id, Bool.and_self, Int.add_zero, if_pos, if_true, Nat.reduceAdd, Nat.reduceSub, BEq.refl, binD, augD, cmpD, negD, subD, slcD, itemsOf, lstOf, blD, mtD, setItemD, iterD, rng1D, rng2D, okBound, Mt.okTy, Mt.onStr, isiD, truD, slash_eq, e1, e2, f0]
    exact .ret ⟨_, rfl, get_end _ _, Ext.app _ _ _, Nat.le_refl _⟩
  · have e2 : decide (S (pathL ps) = S [47]) = false := decide_eq_false (path_ne hp hne)
    have e3 := split_path hne hp.noslash
    have l1 : ((S [47]).length == 0) = false := rfl
    have f1 : fits ((S (pathL ps)).length + 2) = true := fits_of (by rw [S_len]; have := hp.len.1; omega)
    simp only [q_var, q_cst, q_glo, q_tup, q_lst, q_bin, q_neg, q_cmp, q_chn, q_not, q_and, q_or, q_ife, q_sub, q_slc, q_bcl, q_mth, q_isi, q_exp, q_set, q_par, q_par3, q_sst, q_aug, q_ret, q_retn, q_sife, q_brk, q_cnt, q_pass, denSs, denEs, denT, denTs, denAnd, denOr, denO, denI, ofE, M.bind, M.ret, asBl, opt2, startL, List.map_cons, List.map_nil, List.cons_append, List.nil_append, List.length_cons, List.length_nil, List.replicate, List.getElem?_cons_zero, List.getElem?_cons_succ, List.set_cons_zero, List.set_cons_succ, asgG, asgGs, getAll, Src.get, wipeL, id, Bool.and_self, Int.add_zero, if_pos, if_true, Nat.reduceAdd, Nat.reduceSub, BEq.refl, binD, augD, cmpD, negD, subD, slcD, itemsOf, lstOf, blD, mtD, setItemD, iterD, rng1D, rng2D, okBound, Mt.okTy, Mt.onStr, isiD, truD, slash_eq, e1, e2, e3, l1, f1, Bool.not_false, Bool.false_eq_true, if_false, Bool.true_and, get_end, cut_tail, List.drop_succ_cons, List.drop_zero]
    refine .ret ⟨_, rfl, ?_, (Ext.app _ _ _).trans (Ext.app _ _ _), by simp⟩
    exact get_end _ _
theorem path_of_ok {ps : List (List Nat)} (hp : Parts ps) {h : Hs} {n : Nat} (e : LstAt h n ps) : m_path_of [.ref n] h = .ok (.str (S (pathL ps))) h := by
  have f1 : fits (((ps.map S).map (·.length)).sum + (ps.map S).length * (S [47]).length) = true := fits_of (by
    rw [lens, List.length_map]; have := hp.len.2; show _ + _ * 1 ≤ _; omega)
  have f2 : fits ((S [47]).length + (S (TL.joinL [47] ps)).length) = true := fits_of (by
    rw [S_len, S_len]; have := hp.len.1; simp only [pathL, List.length_cons] at this; simp; omega)
  unfold LstAt at e
  unfold m_path_of run b_path_of
  simp only [q_var, q_cst, q_glo, q_tup, q_lst, q_bin, q_neg, q_cmp, q_chn, q_not, q_and, q_or, q_ife, q_sub, q_slc, q_bcl, q_mth, q_isi, q_exp, q_set, q_par, q_par3, q_sst, q_aug, q_ret, q_retn, q_sife, q_brk, q_cnt, q_pass, denSs, denEs, denT, denTs, denAnd, denOr, denO, denI, ofE, M.bind, M.ret, asBl, opt2, startL, List.map_cons, List.map_nil, List.cons_append, List.nil_append, List.length_cons, List.length_nil, List.replicate, List.getElem?_cons_zero, List.getElem?_cons_succ, List.set_cons_zero, List.set_cons_succ, asgG, asgGs, getAll, Src.get, wipeL, id, Bool.and_self, Int.add_zero, if_pos, if_true, Nat.reduceAdd, Nat.reduceSub, BEq.refl, binD, augD, cmpD, negD, subD, slcD, itemsOf, lstOf, blD, mtD, setItemD, iterD, rng1D, rng2D, okBound, Mt.okTy, Mt.onStr, isiD, truD, slash_eq, e, strsOf_map, f1, join_S, f2, S_cat]
  rfl
theorem parent_ok {ps : List (List Nat)} (hp : Parts ps) (h : Hs) : Does (m_parent_of [.str (S (pathL ps))] h) fun d h' => d = .str (S (pathL ps.dropLast)) ∧ Ext [] h h' := by
  obtain ⟨_, h1, e1, n, rfl, l1, x1, _⟩ := parts_of_ok hp h
  have l2 : LstAt (h1 ++ [.lst ((ps.dropLast.map S).map .str)]) h1.length ps.dropLast := get_end _ _
  have e2 := path_of_ok hp.init l2
  unfold LstAt at l1
  unfold m_parent_of run b_parent_of
  simp only [q_var, q_cst, q_glo, q_tup, q_lst, q_bin, q_neg, q_cmp, q_chn, q_not, q_and, q_or, q_ife, q_sub, q_slc, q_bcl, q_mth, q_isi, q_exp, q_set, q_par, q_par3, q_sst, q_aug, q_ret, q_retn, q_sife, q_brk, q_cnt, q_pass, denSs, denEs, denT, denTs, denAnd, denOr, denO, denI, ofE, M.bind, M.ret, asBl, opt2, startL, List.map_cons, List.map_nil, List.cons_append, List.nil_append, List.length_cons, List.length_nil, List.replicate, List.getElem?_cons_zero, List.getElem?_cons_succ, List.set_cons_zero, List.set_cons_succ, asgG, asgGs, getAll, Src.get, wipeL, id, Bool.and_self, Int.add_zero, if_pos, if_true, Nat.reduceAdd, Nat.reduceSub, BEq.refl, binD, augD, cmpD, negD, subD, slcD, itemsOf, lstOf, blD, mtD, setItemD, iterD, rng1D, rng2D, okBound, Mt.okTy, Mt.onStr, isiD, truD, e_parent_of_path_of_1, e_parent_of_parts_of_1, e1, l1, cut_init, ← List.map_dropLast, e2]
  exact .ret ⟨rfl, x1.trans (Ext.app _ _ _)⟩
theorem last_ok {ps : List (List Nat)} (hp : Parts ps) {p : List Nat} (hl : ps.getLast? = some p) (h : Hs) : Does (m_last_part [.str (S (pathL ps))] h) fun d h' => d = .str (S p) ∧ Ext [] h h' := by
  obtain ⟨_, h1, e1, n, rfl, l1, x1, _⟩ := parts_of_ok hp h
  unfold LstAt at l1
  have e2 : atI ((ps.map S).map D.str) (-1) = some (.str (S p)) := by rw [at_last, List.getLast?_map, List.getLast?_map, hl]; rfl
  unfold m_last_part run b_last_part
  simp only [q_var, q_cst, q_glo, q_tup, q_lst, q_bin, q_neg, q_cmp, q_chn, q_not, q_and, q_or, q_ife, q_sub, q_slc, q_bcl, q_mth, q_isi, q_exp, q_set, q_par, q_par3, q_sst, q_aug, q_ret, q_retn, q_sife, q_brk, q_cnt, q_pass, denSs, denEs, denT, denTs, denAnd, denOr, denO, denI, ofE, M.bind, M.ret, asBl, opt2, startL, List.map_cons, List.map_nil, List.cons_append, List.nil_append, List.length_cons, List.length_nil, List.replicate, List.getElem?_cons_zero, List.getElem?_cons_succ, List.set_cons_zero, List.set_cons_succ, asgG, asgGs, getAll, Src.get, wipeL, id, Bool.and_self, Int.add_zero, if_pos, if_true, Nat.reduceAdd, Nat.reduceSub, BEq.refl, binD, augD, cmpD, negD, subD, slcD, itemsOf, lstOf, blD, mtD, setItemD, iterD, rng1D, rng2D, okBound, Mt.okTy, Mt.onStr, isiD, truD, e_last_part_parts_of_1, e1, l1, e2]
  exact .ret ⟨rfl, x1⟩

/-! ### looks -/
theorem blsOf_all : ∀ {l : List D}, (∀ x ∈ l, x = .bl true) → ∃ bs, blsOf l = some bs ∧ bs.all id = true
  | [], _ => ⟨[], rfl, rfl⟩
  | x :: l, h => by
    obtain ⟨bs, e1, e2⟩ := blsOf_all (l := l) fun y hy => h y (List.mem_cons_of_mem _ hy)
    rw [h x (by simp)]
    exact ⟨true :: bs, by show (match blsOf l with | some l => some (true :: l) | none => none) = _; rw [e1], by simp [e2]⟩
theorem signs_at {l : List Nat} {i : Nat} {x : D} (h : (signs (S l))[i]? = some x) : ∃ c, c ∈ l ∧ x = .str (S [c]) := by
  unfold signs at h
  rw [List.getElem?_map] at h
  cases q : (S l).cps.toList[i]? with
  | none => rw [q] at h; cases h
  | some c =>
    rw [q] at h
    cases h
    exact ⟨c, List.mem_of_getElem? (show l[i]? = some c from q), rfl⟩
theorem in_letters : ∀ c, 97 ≤ c → c ≤ 122 → (!(Builtin.Str.occurrences (Str.ofString "abcdefghijklmnopqrstuvwxyz") (S [c]) 0 (Str.ofString "abcdefghijklmnopqrstuvwxyz").length 1).isEmpty) = true := by
  have : ∀ k : Fin 26, (!(Builtin.Str.occurrences (Str.ofString "abcdefghijklmnopqrstuvwxyz") (S [97 + k.val]) 0 (Str.ofString "abcdefghijklmnopqrstuvwxyz").length 1).isEmpty) = true := by decide +kernel
  intro c h1 h2
  have := this ⟨c - 97, by omega⟩
  rwa [show 97 + (c - 97) = c by omega] at this
theorem in_figures : ∀ c, 48 ≤ c → c ≤ 57 → (!(Builtin.Str.occurrences (Str.ofString "0123456789") (S [c]) 0 (Str.ofString "0123456789").length 1).isEmpty) = true := by
  have : ∀ k : Fin 10, (!(Builtin.Str.occurrences (Str.ofString "0123456789") (S [48 + k.val]) 0 (Str.ofString "0123456789").length 1).isEmpty) = true := by decide +kernel
  intro c h1 h2
  have := this ⟨c - 48, by omega⟩
  rwa [show 48 + (c - 48) = c by omega] at this
/-- [sign in SIGNS for sign in thing], all of them true -/
theorem all_in {F : List FI} {l : Loc} {h : Hs} {z : Str} {x : Str} {i j : Nat} {t : List Nat} (hv : l[i]? = some (some (.str (S t)))) (hj : j < l.length) (hij : i ≠ j) (ht : t.length ≤ 100) (hin : ∀ c ∈ t, (!(Builtin.Str.occurrences z (S [c]) 0 z.length 1).isEmpty) = true) (y : Str) :
    Does (denE F (.lcm (.cmp .In (.var j) (.glo x (.str z))) (.name j) (.val (.var i)) .nil [(y, j)]) l h) fun d h' => ∃ n ds bs, d = .ref n ∧ h'[n]? = some (.lst ds) ∧ blsOf ds = some bs ∧ bs.all id = true ∧ Ext [] h h' := by
  refine lcm_ok (items := signs (S t)) (chk := chkOf (.str (S t)) (signs (S t))) (h0 := h) (fun i a h' => h' = h ∧ a.length = i ∧ ∀ x ∈ a, x = .bl true) ?_ ⟨rfl, rfl, by simp⟩ (fun _ _ _ _ => rfl) ?_ ?_
  · simp only [q_var, q_cst, q_glo, q_tup, q_lst, q_bin, q_neg, q_cmp, q_chn, q_not, q_and, q_or, q_ife, q_sub, q_slc, q_bcl, q_mth, q_isi, q_exp, q_set, q_par, q_par3, q_sst, q_aug, q_ret, q_retn, q_sife, q_brk, q_cnt, q_pass, denSs, denEs, denT, denTs, denAnd, denOr, denO, denI, ofE, M.bind, M.ret, asBl, opt2, startL, List.map_cons, List.map_nil, List.cons_append, List.nil_append, List.length_cons, List.length_nil, List.replicate, List.getElem?_cons_zero, List.getElem?_cons_succ, List.set_cons_zero, List.set_cons_succ, asgG, asgGs, getAll, Src.get, wipeL, id, Bool.and_self, Int.add_zero, if_pos, if_true, Nat.reduceAdd, Nat.reduceSub, BEq.refl, hv, iterD]
  · rintro k x a h' hx ⟨rfl, hl, ha⟩
    obtain ⟨c, hc, rfl⟩ := signs_at hx
    refine ⟨_, _, rfl, true, h', rfl, fun _ => ?_, fun z => nomatch z⟩
    have e1 : ((wipeL l [j]).set j (some (.str (S [c]))))[j]? = some (some (.str (S [c]))) := List.getElem?_set_self (by simpa [wipeL] using hj)
    have e2 := hin c hc
    have e3 : wipeL l (List.map (fun x => x.snd) [(y, j)]) = wipeL l [j] := rfl
    rw [e3]
    generalize wipeL l [j] = l2 at e1 ⊢
    simp only [q_var, q_cst, q_glo, q_tup, q_lst, q_bin, q_neg, q_cmp, q_chn, q_not, q_and, q_or, q_ife, q_sub, q_slc, q_bcl, q_mth, q_isi, q_exp, q_set, q_par, q_par3, q_sst, q_aug, q_ret, q_retn, q_sife, q_brk, q_cnt, q_pass, denSs, denEs, denT, denTs, denAnd, denOr, denO, denI, ofE, M.bind, M.ret, asBl, opt2, startL, List.map_cons, List.map_nil, List.cons_append, List.nil_append, List.length_cons, List.length_nil, List.replicate, List.getElem?_cons_zero, List.getElem?_cons_succ, List.set_cons_zero, List.set_cons_succ, asgG, asgGs, getAll, Src.get, wipeL, id, Bool.and_self, Int.add_zero, if_pos, if_true, Nat.reduceAdd, Nat.reduceSub, BEq.refl, e1, binD, augD, cmpD, negD, subD, slcD, itemsOf, lstOf, blD, mtD, setItemD, iterD, rng1D, rng2D, okBound, Mt.okTy, Mt.onStr, isiD, truD, inD, e2]
    refine .ret ⟨rfl, by simp [hl], fun x hx => ?_⟩
    rcases List.mem_append.mp hx with q | q
    · exact ha x q
    · simpa using q
  · rintro a h' ⟨rfl, hl, ha⟩
    obtain ⟨bs, e3, e4⟩ := blsOf_all ha
    refine ⟨fits_of ?_, _, a, bs, rfl, get_end _ _, e3, e4, Ext.app _ _ _⟩
    have : (signs (S t)).length = t.length := by simp [signs]
    omega
theorem is_word_ok {t : List Nat} (ht : WordL t) (h : Hs) : Does (m_is_word [.str (S t)] h) fun d h' => d = .bl true ∧ Ext [] h h' := by
  obtain ⟨h1, h2, h3⟩ := ht
  obtain ⟨_, h', e, n, ds, bs, rfl, e2, e3, e4, x1⟩ := all_in (F := F_is_word) (l := [some (.str (S t)), none]) (h := h) (z := Str.ofString "abcdefghijklmnopqrstuvwxyz") (x := Str.ofString "LETTERS") (i := 0) (j := 1) (t := t) rfl (by simp) (by decide) (by omega) (fun c hc => in_letters c (h3 c hc).1 (h3 c hc).2) (Str.ofString "sign")
  have f1 : fits (S t).length = true := fits_of (by rw [S_len]; omega)
  have c1 : decide ((1 : Int) ≤ ((S t).length : Int)) = true := decide_eq_true (by rw [S_len]; omega)
  have c2 : decide (((S t).length : Int) ≤ 8) = true := decide_eq_true (by rw [S_len]; omega)
  have e : denE F_is_word b_is_word_c1 [some (.str (S t)), none] h = .ok (.ref n) h' := e
  unfold m_is_word run b_is_word
  simp only [q_var, q_cst, q_glo, q_tup, q_lst, q_bin, q_neg, q_cmp, q_chn, q_not, q_and, q_or, q_ife, q_sub, q_slc, q_bcl, q_mth, q_isi, q_exp, q_set, q_par, q_par3, q_sst, q_aug, q_ret, q_retn, q_sife, q_brk, q_cnt, q_pass, denSs, denEs, denT, denTs, denAnd, denOr, denO, denI, ofE, M.bind, M.ret, asBl, opt2, startL, List.map_cons, List.map_nil, List.cons_append, List.nil_append, List.length_cons, List.length_nil, List.replicate, List.getElem?_cons_zero, List.getElem?_cons_succ, List.set_cons_zero, List.set_cons_succ, asgG, asgGs, getAll, Src.get, wipeL, id, Bool.and_self, Int.add_zero, if_pos, if_true, Nat.reduceAdd, Nat.reduceSub, BEq.refl, binD, augD, cmpD, negD, subD, slcD, itemsOf, lstOf, blD, mtD, setItemD, iterD, rng1D, rng2D, okBound, Mt.okTy, Mt.onStr, isiD, truD, e, e2, e3, e4, lenD, f1, c1, c2]
  exact .ret ⟨rfl, x1⟩
theorem is_part_ok {t : List Nat} (ht : PartL t) (h : Hs) : Does (m_is_part [.str (S t)] h) fun d h' => d = .bl true ∧ Ext [] h h' := by
  have f1 : fits (S t).length = true := fits_of (by rw [S_len]; have := ht.le; omega)
  have l1 : ((S [45]).length == 0) = false := rfl
  rcases ht with hw | ⟨w, d, rfl, hw, hd, hd2⟩
  · have nd : 45 ∉ t := fun q => by have := hw.2.2 45 q; omega
    obtain ⟨_, h1, e1, rfl, x1⟩ := is_word_ok hw h
    have q1 : eqD (.str (S [])) (.str (S [])) h = some (decide (S [] = S [])) := eqD_str (tx_S (by simp)) (tx_S (by simp))
    unfold m_is_part run b_is_part
    simp only [q_var, q_cst, q_glo, q_tup, q_lst, q_bin, q_neg, q_cmp, q_chn, q_not, q_and, q_or, q_ife, q_sub, q_slc, q_bcl, q_mth, q_isi, q_exp, q_set, q_par, q_par3, q_sst, q_aug, q_ret, q_retn, q_sife, q_brk, q_cnt, q_pass, denSs, denEs, denT, denTs, denAnd, denOr, denO, denI, ofE, M.bind, M.ret, asBl, opt2, startL, List.map_cons, List.map_nil, List.cons_append, List.nil_append, List.length_cons, List.length_nil, List.replicate, List.getElem?_cons_zero, List.getElem?_cons_succ, List.set_cons_zero, List.set_cons_succ, asgG, asgGs, getAll, Src.get, wipeL, id, Bool.and_self, Int.add_zero, if_pos, if_true, Nat.reduceAdd, Nat.reduceSub, BEq.refl, binD, augD, cmpD, negD, subD, slcD, itemsOf, lstOf, blD, mtD, setItemD, iterD, rng1D, rng2D, okBound, Mt.okTy, Mt.onStr, isiD, truD, dash_eq, empty_eq, no_dash _ nd, l1, f1, q1, e_is_part_is_word_1, e1, Bool.not_true, Bool.not_false, Bool.false_eq_true, if_false, Bool.true_and, decide_true]
    exact .ret ⟨rfl, x1⟩
  · have nd : 45 ∉ w := fun q => by have := hw.2.2 45 q; omega
    obtain ⟨_, h1, e1, rfl, x1⟩ := is_word_ok hw h
    have q1 : eqD (.str (S [45])) (.str (S [])) h = some (decide (S [45] = S [])) := eqD_str (tx_S (by simp)) (tx_S (by simp))
    have q2 : decide (S [45] = S []) = false := rfl
    have f2 : fits (S d).length = true := fits_of (by rw [S_len]; omega)
    have q3 : eqD (.int ((S d).length : Nat)) (.int 6) h1 = some (decide (((S d).length : Int) = 6)) := eqD_int
    have q4 : decide (((S d).length : Int) = 6) = true := decide_eq_true (by rw [S_len]; omega)
    obtain ⟨_, h2, e, n, ds, bs, rfl, e2, e3, e4, x2⟩ := all_in (F := F_is_part) (l := [some (.str (S (w ++ 45 :: d))), some (.str (S w)), some (.str (S [45])), some (.str (S d)), none]) (h := h1) (z := Str.ofString "0123456789") (x := Str.ofString "FIGURES") (i := 3) (j := 4) (t := d) rfl (by simp) (by decide) (by omega) (fun c hc => in_figures c (hd2 c hc).1 (hd2 c hc).2) (Str.ofString "one")
    have e : denE F_is_part b_is_part_c1 [some (.str (S (w ++ 45 :: d))), some (.str (S w)), some (.str (S [45])), some (.str (S d)), none] h1 = .ok (.ref n) h2 := e
    unfold m_is_part run b_is_part
    simp only [q_var, q_cst, q_glo, q_tup, q_lst, q_bin, q_neg, q_cmp, q_chn, q_not, q_and, q_or, q_ife, q_sub, q_slc, q_bcl, q_mth, q_isi, q_exp, q_set, q_par, q_par3, q_sst, q_aug, q_ret, q_retn, q_sife, q_brk, q_cnt, q_pass, denSs, denEs, denT, denTs, denAnd, denOr, denO, denI, ofE, M.bind, M.ret, asBl, opt2, startL, List.map_cons, List.map_nil, List.cons_append, List.nil_append, List.length_cons, List.length_nil, List.replicate, List.getElem?_cons_zero, List.getElem?_cons_succ, List.set_cons_zero, List.set_cons_succ, asgG, asgGs, getAll, Src.get, wipeL, id, Bool.and_self, Int.add_zero, if_pos, if_true, Nat.reduceAdd, Nat.reduceSub, BEq.refl, binD, augD, cmpD, negD, subD, slcD, itemsOf, lstOf, blD, mtD, setItemD, iterD, rng1D, rng2D, okBound, Mt.okTy, Mt.onStr, isiD, truD, dash_eq, empty_eq, dashes _ _ nd, l1, f1, f2, q1, q2, q3, q4, lenD, e_is_part_is_word_1, e1, e, e2, e3, e4, Bool.not_true, Bool.not_false, Bool.false_eq_true, if_false, Bool.true_and, decide_true]
    exact .ret ⟨rfl, x1.trans x2⟩
theorem is_path_ok {ps : List (List Nat)} (hp : Parts ps) (h : Hs) : Does (m_is_path [.str (S (pathL ps))] h) fun d h' => d = .bl true ∧ Ext [] h h' := by
  obtain ⟨_, h1, e1, n, rfl, l1, x1, _⟩ := parts_of_ok hp h
  obtain ⟨_, h2, e2, m, rfl, l2, x2, g2⟩ := parts_of_ok hp h1
  have s1 : Txt.startswith (S (pathL ps)) (S [47]) = true := by
    unfold Txt.startswith
    rw [Bool.and_eq_true]
    refine ⟨decide_eq_true (by rw [S_len, S_len]; simp [pathL]), ?_⟩
    unfold Builtin.Str.subAt
    simp [S_len, pathL]
  have key : Does (denE F_is_path b_is_path_c1 [some (.str (S (pathL ps))), none] h1) fun d h' => ∃ n ds bs, d = .ref n ∧ h'[n]? = some (.lst ds) ∧ blsOf ds = some bs ∧ bs.all id = true ∧ Ext [] h h' := by
    refine lcm_ok (items := (ps.map S).map D.str) (chk := chkOf (.ref m) ((ps.map S).map D.str)) (h0 := h2) (fun i a h' => Ext [] h2 h' ∧ a.length = i ∧ ∀ x ∈ a, x = .bl true) ?_ ⟨Ext.refl _ _, rfl, by simp⟩ ?_ ?_ ?_
    · unfold LstAt at l2
      simp only [q_var, q_cst, q_glo, q_tup, q_lst, q_bin, q_neg, q_cmp, q_chn, q_not, q_and, q_or, q_ife, q_sub, q_slc, q_bcl, q_mth, q_isi, q_exp, q_set, q_par, q_par3, q_sst, q_aug, q_ret, q_retn, q_sife, q_brk, q_cnt, q_pass, denSs, denEs, denT, denTs, denAnd, denOr, denO, denI, ofE, M.bind, M.ret, asBl, opt2, startL, List.map_cons, List.map_nil, List.cons_append, List.nil_append, List.length_cons, List.length_nil, List.replicate, List.getElem?_cons_zero, List.getElem?_cons_succ, List.set_cons_zero, List.set_cons_succ, asgG, asgGs, getAll, Src.get, wipeL, id, Bool.and_self, Int.add_zero, if_pos, if_true, Nat.reduceAdd, Nat.reduceSub, BEq.refl, binD, augD, cmpD, negD, subD, slcD, itemsOf, lstOf, blD, mtD, setItemD, iterD, rng1D, rng2D, okBound, Mt.okTy, Mt.onStr, isiD, truD, e_is_path_parts_of_1, e2, l2]
    · rintro i a h' ⟨x3, _⟩
      have := x3.get l2 (by simp)
      unfold chkOf
      simp only [this]
      exact D.beqs_refl _
    · rintro k x a h' hx ⟨x3, hl, ha⟩
      obtain ⟨p, hpm, rfl⟩ : ∃ p ∈ ps, x = .str (S p) := by
        have hm := List.mem_of_getElem? hx
        obtain ⟨y, hy, rfl⟩ := List.mem_map.mp hm
        obtain ⟨p, hp2, rfl⟩ := List.mem_map.mp hy
        exact ⟨p, hp2, rfl⟩
      obtain ⟨_, h4, e4, rfl, x4⟩ := is_part_ok (hp.2 p hpm) h'
      refine ⟨_, _, rfl, true, h', rfl, fun _ => ?_, fun z => nomatch z⟩
      simp only [q_var, q_cst, q_glo, q_tup, q_lst, q_bin, q_neg, q_cmp, q_chn, q_not, q_and, q_or, q_ife, q_sub, q_slc, q_bcl, q_mth, q_isi, q_exp, q_set, q_par, q_par3, q_sst, q_aug, q_ret, q_retn, q_sife, q_brk, q_cnt, q_pass, denSs, denEs, denT, denTs, denAnd, denOr, denO, denI, ofE, M.bind, M.ret, asBl, opt2, startL, List.map_cons, List.map_nil, List.cons_append, List.nil_append, List.length_cons, List.length_nil, List.replicate, List.getElem?_cons_zero, List.getElem?_cons_succ, List.set_cons_zero, List.set_cons_succ, asgG, asgGs, getAll, Src.get, wipeL, id, Bool.and_self, Int.add_zero, if_pos, if_true, Nat.reduceAdd, Nat.reduceSub, BEq.refl, e_is_path_is_part_1, e4]
      refine .ret ⟨x3.trans x4, by simp [hl], fun x hx => ?_⟩
      rcases List.mem_append.mp hx with q | q
      · exact ha x q
      · simpa using q
    · rintro a h' ⟨x3, hl, ha⟩
      obtain ⟨bs, e3, e4⟩ := blsOf_all ha
      refine ⟨fits_of ?_, _, a, bs, rfl, get_end _ _, e3, e4, ((x1.trans x2).trans x3).trans (Ext.app _ _ _)⟩
      have := hp.1
      simp at hl
      omega
  obtain ⟨_, h3, e3, k, ds, bs, rfl, e4, e5, e6, x3⟩ := key
  unfold LstAt at l1
  have c1 : decide ((((ps.map S).map D.str).length : Int) ≤ 5) = true := decide_eq_true (by have := hp.1; simp; omega)
  unfold m_is_path run b_is_path
  simp only [q_var, q_cst, q_glo, q_tup, q_lst, q_bin, q_neg, q_cmp, q_chn, q_not, q_and, q_or, q_ife, q_sub, q_slc, q_bcl, q_mth, q_isi, q_exp, q_set, q_par, q_par3, q_sst, q_aug, q_ret, q_retn, q_sife, q_brk, q_cnt, q_pass, denSs, denEs, denT, denTs, denAnd, denOr, denO, denI, ofE, M.bind, M.ret, asBl, opt2, startL, List.map_cons, List.map_nil, List.cons_append, List.nil_append, List.length_cons, List.length_nil, List.replicate, List.getElem?_cons_zero, List.getElem?_cons_succ, List.set_cons_zero, List.set_cons_succ, asgG, asgGs, getAll, Src.get, wipeL, id, Bool.and_self, Int.add_zero, if_pos, if_true, Nat.reduceAdd, Nat.reduceSub, BEq.refl, binD, augD, cmpD, negD, subD, slcD, itemsOf, lstOf, blD, mtD, setItemD, iterD, rng1D, rng2D, okBound, Mt.okTy, Mt.onStr, isiD, truD, slash_eq, s1, e_is_path_parts_of_1, e1, l1, c1, lenD, e3, e4, e5, e6, Bool.not_true, Bool.not_false, Bool.false_eq_true, if_false, Bool.true_and, decide_true, Bool.true_eq_false, BEq.rfl]
  exact .ret ⟨rfl, x3⟩

/-! ### draws -/
theorem take_ok' {h : Hs} {p : Nat} {n : Int} (hp : Pool p h) (h1 : 1 ≤ n) (h2 : n < 1073741824) :
    Does (m_law_take [.ref p, .int n] h) fun d h' => (∃ r, d = .int r ∧ 0 ≤ r ∧ r < n) ∧ Pool p h' ∧ Ext [p] h h' ∧ h'.length = h.length :=
  take_ok F_law_take (c1 := 39373) (c2 := 12011) (c3 := 2147483647) (c4 := 2147483629) (c5 := 32) (by decide) (by decide) (by decide) (by decide) (by decide) hp h1 h2
theorem pool_ok' (ns : List Int) (h : Hs) {k : Nat} (hk : k < 64) (hl : ns.length ≤ 63) : Does (m_law_pool [.kl (ns.map .int), .int k] h) fun d h' => ∃ p, d = .ref p ∧ Pool p h' ∧ Ext [] h h' ∧ h.length ≤ p :=
  pool_ok F_law_pool (c1 := 2147483587) (c2 := 6211) (c3 := 97) (c4 := 48271) (c5 := 2147483647) (by decide) (by decide) (by decide) (by decide) (by decide) (by decide) (by decide) (by decide) (by decide) (by decide) ns hk hl
theorem abcz_at : ∀ r : Int, 0 ≤ r → r < 4 → ∃ c, atI (Str.ofString "abcz").cps.toList r = some c ∧ 97 ≤ c ∧ c ≤ 122 := by
  intro r h1 h2
  have : r = 0 ∨ r = 1 ∨ r = 2 ∨ r = 3 := by omega
  rcases this with rfl | rfl | rfl | rfl
  · exact ⟨97, by decide +kernel, by decide, by decide⟩
  · exact ⟨98, by decide +kernel, by decide, by decide⟩
  · exact ⟨99, by decide +kernel, by decide, by decide⟩
  · exact ⟨122, by decide +kernel, by decide, by decide⟩
theorem range_len (lo : Int) : ∀ n : Nat, (rangeD lo n).length = n
  | 0 => rfl
  | n + 1 => by simp [rangeD, range_len (lo + 1) n]
theorem range_at {lo : Int} : ∀ {n : Nat} {i : Nat} {x : D}, (rangeD lo n)[i]? = some x → x = .int (lo + i) ∧ i < n
  | 0, i, x, h => by simp [rangeD] at h
  | n + 1, 0, x, h => by simp [rangeD] at h; exact ⟨by simp [h.symm], by omega⟩
  | n + 1, i + 1, x, h => by
    obtain ⟨e, hi⟩ := range_at (lo := lo + 1) (n := n) (i := i) (x := x) (by simpa [rangeD] using h)
    exact ⟨by rw [e]; congr 1; omega, by omega⟩
theorem _root_.PM.Ext.pool {ws : List Nat} {h h' : Hs} {p : Nat} (x : Ext ws h h') (hp : Pool p h) (hw : p ∉ ws) : Pool p h' := by
  obtain ⟨a, b, e, r⟩ := hp
  exact ⟨a, b, x.get e hw, r⟩
theorem _root_.PM.Pool.lt {p : Nat} {h : Hs} (hp : Pool p h) : p < h.length := by
  obtain ⟨a, b, e, _⟩ := hp
  exact (List.getElem?_eq_some_iff.mp e).1
theorem word_ok {h : Hs} {p : Nat} (hp : Pool p h) : Does (m_law_word [.ref p] h) fun d h' => (∃ w, d = .str (S w) ∧ WordL w) ∧ Pool p h' ∧ Ext [p] h h' := by
  obtain ⟨_, h1, e1, ⟨r1, rfl, _, _⟩, p1, x1, _⟩ := take_ok' (n := 12) hp (by decide) (by decide)
  have q1 : eqD (.int r1) (.int 0) h1 = some (decide (r1 = 0)) := eqD_int
  unfold m_law_word run b_law_word
  by_cases hr : r1 = 0
  · have q2 : decide (r1 = 0) = true := decide_eq_true hr
    simp only [q_var, q_cst, q_glo, q_tup, q_lst, q_bin, q_neg, q_cmp, q_chn, q_not, q_and, q_or, q_ife, q_sub, q_slc, q_bcl, q_mth, q_isi, q_exp, q_set, q_par, q_par3, q_sst, q_aug, q_ret, q_retn, q_sife, q_brk, q_cnt, q_pass, denSs, denEs, denT, denTs, denAnd, denOr, denO, denI, ofE, M.bind, M.ret, asBl, opt2, startL, List.map_cons, List.map_nil, List.cons_append, List.nil_append, List.length_cons, List.length_nil, List.replicate, List.getElem?_cons_zero, List.getElem?_cons_succ, List.set_cons_zero, List.set_cons_succ, asgG, asgGs, getAll, Src.get, wipeL, id, Bool.and_self, Int.add_zero, if_pos, if_true, Nat.reduceAdd, Nat.reduceSub, BEq.refl, binD, augD, cmpD, negD, subD, slcD, itemsOf, lstOf, blD, mtD, setItemD, iterD, rng1D, rng2D, okBound, Mt.okTy, Mt.onStr, isiD, truD, e_law_word_law_take_2, e1, q1, q2]
    exact .ret ⟨⟨[97, 98, 99, 100, 101, 102, 103, 104], by congr 1, by decide, by decide, by decide⟩, p1, x1⟩
  · have q2 : decide (r1 = 0) = false := decide_eq_false hr
    obtain ⟨_, h2, e2, ⟨r2, rfl, ra, rb⟩, p2, x2, _⟩ := take_ok' (n := 3) p1 (by decide) (by decide)
    have ob : (decide (-4611686018427387904 ≤ 1 + r2) && decide (1 + r2 < 4611686018427387904)) = true := by rw [decide_eq_true (by omega), decide_eq_true (by omega)]; rfl
    have key : Does (denE F_law_word b_law_word_c1 [some (.ref p), none] h1) fun d h' => ∃ n, ∃ cs : List Nat, d = .ref n ∧ h'[n]? = some (.lst ((cs.map (fun c => S [c])).map .str)) ∧ 1 ≤ cs.length ∧ cs.length ≤ 3 ∧ (∀ c ∈ cs, 97 ≤ c ∧ c ≤ 122) ∧ Pool p h' ∧ Ext [p] h1 h' := by
      refine lcm_ok (items := rangeD 0 (1 + r2).toNat) (chk := fun _ => true) (h0 := h2) (fun i a h' => ∃ cs : List Nat, a = (cs.map (fun c => S [c])).map .str ∧ cs.length = i ∧ (∀ c ∈ cs, 97 ≤ c ∧ c ≤ 122) ∧ Pool p h' ∧ Ext [p] h1 h') ?_ ⟨[], rfl, rfl, by simp, p2, x2⟩ (fun _ _ _ _ => rfl) ?_ ?_
      · simp only [q_var, q_cst, q_glo, q_tup, q_lst, q_bin, q_neg, q_cmp, q_chn, q_not, q_and, q_or, q_ife, q_sub, q_slc, q_bcl, q_mth, q_isi, q_exp, q_set, q_par, q_par3, q_sst, q_aug, q_ret, q_retn, q_sife, q_brk, q_cnt, q_pass, denSs, denEs, denT, denTs, denAnd, denOr, denO, denI, ofE, M.bind, M.ret, asBl, opt2, startL, List.map_cons, List.map_nil, List.cons_append, List.nil_append, List.length_cons, List.length_nil, List.replicate, List.getElem?_cons_zero, List.getElem?_cons_succ, List.set_cons_zero, List.set_cons_succ, asgG, asgGs, getAll, Src.get, wipeL, id, Bool.and_self, Int.add_zero, if_pos, if_true, Nat.reduceAdd, Nat.reduceSub, BEq.refl, binD, augD, cmpD, negD, subD, slcD, itemsOf, lstOf, blD, mtD, setItemD, iterD, rng1D, rng2D, okBound, Mt.okTy, Mt.onStr, isiD, truD, e_law_word_law_take_2, e2, ob]
      · rintro k x a h' hx ⟨cs, rfl, hl, hc, pk, xk⟩
        obtain ⟨_, h4, e4, ⟨r, rfl, r0, r4⟩, p4, x4, _⟩ := take_ok' (n := 4) pk (by decide) (by decide)
        obtain ⟨c, ec, c1, c2⟩ := abcz_at r r0 r4
        have f1 : fits (Str.ofString "abcz").length = true := by decide +kernel
        refine ⟨_, _, rfl, true, h', rfl, fun _ => ?_, fun z => nomatch z⟩
        simp only [q_var, q_cst, q_glo, q_tup, q_lst, q_bin, q_neg, q_cmp, q_chn, q_not, q_and, q_or, q_ife, q_sub, q_slc, q_bcl, q_mth, q_isi, q_exp, q_set, q_par, q_par3, q_sst, q_aug, q_ret, q_retn, q_sife, q_brk, q_cnt, q_pass, denSs, denEs, denT, denTs, denAnd, denOr, denO, denI, ofE, M.bind, M.ret, asBl, opt2, startL, List.map_cons, List.map_nil, List.cons_append, List.nil_append, List.length_cons, List.length_nil, List.replicate, List.getElem?_cons_zero, List.getElem?_cons_succ, List.set_cons_zero, List.set_cons_succ, asgG, asgGs, getAll, Src.get, wipeL, id, Bool.and_self, Int.add_zero, if_pos, if_true, Nat.reduceAdd, Nat.reduceSub, BEq.refl, binD, augD, cmpD, negD, subD, slcD, itemsOf, lstOf, blD, mtD, setItemD, iterD, rng1D, rng2D, okBound, Mt.okTy, Mt.onStr, isiD, truD, e_law_word_law_take_2, e4, ec, f1]
        refine .ret ⟨cs ++ [c], by simp, by simp [hl], fun y hy => ?_, p4, xk.trans x4⟩
        rcases List.mem_append.mp hy with q | q
        · exact hc y q
        · have := List.mem_singleton.mp q; omega
      · rintro a h' ⟨cs, rfl, hl, hc, pk, xk⟩
        rw [range_len] at hl
        have := pk.lt
        exact ⟨fits_of (by simp; omega), _, cs, rfl, get_end _ _, by omega, by omega, hc, (Ext.app [] h' _).pool pk (by simp), xk.trans (Ext.app _ _ _)⟩
    obtain ⟨_, h3, e3, n, cs, rfl, e4, l1, l3, hc, p3, x3⟩ := key
    have jn : Txt.join (S []) (cs.map fun c => S [c]) = S cs := by
      have : cs.map (fun c => S [c]) = (cs.map fun c => [c]).map S := by rw [List.map_map]; rfl
      rw [this, join_empty]
      congr 1
      clear e4 hc l1 l3 this
      induction cs with
      | nil => rfl
      | cons c cs ih => simp [ih]
    have f1 : fits (((cs.map fun c => S [c]).map (·.length)).sum + (cs.map fun c => S [c]).length * (S []).length) = true := fits_of (by
      have : (cs.map fun c => S [c]).map (·.length) = cs.map fun _ => 1 := by rw [List.map_map]; rfl
      rw [this]
      have : (cs.map fun _ => 1).sum = cs.length := by
        clear e4 hc l1 l3 this jn
        induction cs with
        | nil => rfl
        | cons c cs ih => simp only [List.map_cons, List.sum_cons, List.length_cons, ih]; omega
      rw [this]; show cs.length + _ * 0 ≤ _; omega)
    simp only [q_var, q_cst, q_glo, q_tup, q_lst, q_bin, q_neg, q_cmp, q_chn, q_not, q_and, q_or, q_ife, q_sub, q_slc, q_bcl, q_mth, q_isi, q_exp, q_set, q_par, q_par3, q_sst, q_aug, q_ret, q_retn, q_sife, q_brk, q_cnt, q_pass, denSs, denEs, denT, denTs, denAnd, denOr, denO, denI, ofE, M.bind, M.ret, asBl, opt2, startL, List.map_cons, List.map_nil, List.cons_append, List.nil_append, List.length_cons, List.length_nil, List.replicate, List.getElem?_cons_zero, List.getElem?_cons_succ, List.set_cons_zero, List.set_cons_succ, asgG, asgGs, getAll, Src.get, wipeL, id, Bool.and_self, Int.add_zero, if_pos, if_true, Nat.reduceAdd, Nat.reduceSub, BEq.refl, binD, augD, cmpD, negD, subD, slcD, itemsOf, lstOf, blD, mtD, setItemD, iterD, rng1D, rng2D, okBound, Mt.okTy, Mt.onStr, isiD, truD, e_law_word_law_take_2, e1, q1, q2, Bool.false_eq_true, if_false, e3, e4, empty_eq, Bool.not_true, Bool.not_false, strsOf_map, f1, jn]
    exact .ret ⟨⟨cs, rfl, l1, by omega, hc⟩, p3, x1.trans x3⟩
theorem digits6 : ∀ r : Int, 0 ≤ r → r < 12 → ∃ d : List Nat, Txt.rjustF (Str.ofString (toString r)) 6 ((S [48]).cps.getD 0 0) = S d ∧ d.length = 6 ∧ (∀ c ∈ d, 48 ≤ c ∧ c ≤ 57) ∧ r.natAbs.log2 < 1920 := by
  have : ∀ k : Fin 12, (Txt.rjustF (Str.ofString (toString (k.val : Int))) 6 48).cps.toList.length = 6 ∧ (∀ c ∈ (Txt.rjustF (Str.ofString (toString (k.val : Int))) 6 48).cps.toList, 48 ≤ c ∧ c ≤ 57) ∧ (k.val : Int).natAbs.log2 < 1920 := by decide +kernel
  intro r h1 h2
  have q := this ⟨r.toNat, by omega⟩
  have e : ((r.toNat : Nat) : Int) = r := by omega
  simp only [e] at q
  exact ⟨(Txt.rjustF (Str.ofString (toString r)) 6 48).cps.toList, (S_tl _).symm, q⟩
theorem part_ok {h : Hs} {p : Nat} (hp : Pool p h) : Does (m_law_part [.ref p] h) fun d h' => (∃ w, d = .str (S w) ∧ PartL w) ∧ Pool p h' ∧ Ext [p] h h' := by
  obtain ⟨_, h1, e1, ⟨w, rfl, hw⟩, p1, x1⟩ := word_ok hp
  obtain ⟨_, h2, e2, ⟨r, rfl, _, _⟩, p2, x2, _⟩ := take_ok' (n := 4) p1 (by decide) (by decide)
  have q1 : eqD (.int r) (.int 0) h2 = some (decide (r = 0)) := eqD_int
  unfold m_law_part run b_law_part
  by_cases hr : r = 0
  · have q2 : decide (r = 0) = true := decide_eq_true hr
    obtain ⟨_, h3, e3, ⟨r3, rfl, ra, rb⟩, p3, x3, _⟩ := take_ok' (n := 12) p2 (by decide) (by decide)
    obtain ⟨d, ed, hd, hd2, lg⟩ := digits6 r3 ra rb
    have pd : PadOk 6 = true := by decide
    have f1 : fits ((S w).length + (S [45]).length) = true := fits_of (by rw [S_len, S_len]; have := hw.2.1; simp; omega)
    have f2 : fits ((S w ++ S [45]).length + (S d).length) = true := fits_of (by rw [S_cat, S_len, S_len]; have := hw.2.1; simp; omega)
    have f3 : ((S [48]).length == 1) = true := rfl
    have f4 : decide (r3.natAbs.log2 < 1920) = true := decide_eq_true lg
    simp only [q_var, q_cst, q_glo, q_tup, q_lst, q_bin, q_neg, q_cmp, q_chn, q_not, q_and, q_or, q_ife, q_sub, q_slc, q_bcl, q_mth, q_isi, q_exp, q_set, q_par, q_par3, q_sst, q_aug, q_ret, q_retn, q_sife, q_brk, q_cnt, q_pass, denSs, denEs, denT, denTs, denAnd, denOr, denO, denI, ofE, M.bind, M.ret, asBl, opt2, startL, List.map_cons, List.map_nil, List.cons_append, List.nil_append, List.length_cons, List.length_nil, List.replicate, List.getElem?_cons_zero, List.getElem?_cons_succ, List.set_cons_zero, List.set_cons_succ, asgG, asgGs, getAll, Src.get, wipeL, id, Bool.and_self, Int.add_zero, if_pos, if_true, Nat.reduceAdd, Nat.reduceSub, BEq.refl, binD, augD, cmpD, negD, subD, slcD, itemsOf, lstOf, blD, mtD, setItemD, iterD, rng1D, rng2D, okBound, Mt.okTy, Mt.onStr, isiD, truD, e_law_part_law_word_1, e_law_part_law_take_2, e1, e2, e3, q1, q2, dash_eq, zero_eq, f4, pd, f3, f1, ed, f2]
    refine .ret ⟨⟨w ++ 45 :: d, ?_, .inr ⟨w, d, rfl, hw, hd, hd2⟩⟩, p3, (x1.trans x2).trans x3⟩
    rw [S_cat, S_cat]; simp
  · have q2 : decide (r = 0) = false := decide_eq_false hr
    simp only [q_var, q_cst, q_glo, q_tup, q_lst, q_bin, q_neg, q_cmp, q_chn, q_not, q_and, q_or, q_ife, q_sub, q_slc, q_bcl, q_mth, q_isi, q_exp, q_set, q_par, q_par3, q_sst, q_aug, q_ret, q_retn, q_sife, q_brk, q_cnt, q_pass, denSs, denEs, denT, denTs, denAnd, denOr, denO, denI, ofE, M.bind, M.ret, asBl, opt2, startL, List.map_cons, List.map_nil, List.cons_append, List.nil_append, List.length_cons, List.length_nil, List.replicate, List.getElem?_cons_zero, List.getElem?_cons_succ, List.set_cons_zero, List.set_cons_succ, asgG, asgGs, getAll, Src.get, wipeL, id, Bool.and_self, Int.add_zero, if_pos, if_true, Nat.reduceAdd, Nat.reduceSub, BEq.refl, binD, augD, cmpD, negD, subD, slcD, itemsOf, lstOf, blD, mtD, setItemD, iterD, rng1D, rng2D, okBound, Mt.okTy, Mt.onStr, isiD, truD, e_law_part_law_word_1, e_law_part_law_take_2, e1, e2, q1, q2, Bool.false_eq_true, if_false]
    exact .ret ⟨⟨w, rfl, .inl hw⟩, p2, x1.trans x2⟩

/-! ### the law -/
theorem parts_drawn {l : Loc} {h : Hs} {p : Nat} (hp : Pool p h) (hv : l[2]? = some (some (.ref p))) (hl : l.length = 9) : Does (denE F_law b_law_c1 l h) fun d h' => ∃ n ps, d = .ref n ∧ LstAt h' n ps ∧ Parts ps ∧ ps ≠ [] := by
  obtain ⟨_, h2, e2, ⟨r2, rfl, ra, rb⟩, p2, x2, _⟩ := take_ok' (n := 5) hp (by decide) (by decide)
  have ob : (decide (-4611686018427387904 ≤ 1 + r2) && decide (1 + r2 < 4611686018427387904)) = true := by rw [decide_eq_true (by omega), decide_eq_true (by omega)]; rfl
  refine lcm_ok (items := rangeD 0 (1 + r2).toNat) (chk := fun _ => true) (h0 := h2) (fun i a h' => ∃ ps : List (List Nat), a = (ps.map S).map .str ∧ ps.length = i ∧ (∀ q ∈ ps, PartL q) ∧ Pool p h') ?_ ⟨[], rfl, rfl, by simp, p2⟩ (fun _ _ _ _ => rfl) ?_ ?_
  · simp only [q_var, q_cst, q_glo, q_tup, q_lst, q_bin, q_neg, q_cmp, q_chn, q_not, q_and, q_or, q_ife, q_sub, q_slc, q_bcl, q_mth, q_isi, q_exp, q_set, q_par, q_par3, q_sst, q_aug, q_ret, q_retn, q_sife, q_brk, q_cnt, q_pass, denSs, denEs, denT, denTs, denAnd, denOr, denO, denI, ofE, M.bind, M.ret, asBl, opt2, startL, List.map_cons, List.map_nil, List.cons_append, List.nil_append, List.length_cons, List.length_nil, List.replicate, List.getElem?_cons_zero, List.getElem?_cons_succ, List.set_cons_zero, List.set_cons_succ, asgG, asgGs, getAll, Src.get, wipeL, id, Bool.and_self, Int.add_zero, if_pos, if_true, Nat.reduceAdd, Nat.reduceSub, BEq.refl, binD, augD, cmpD, negD, subD, slcD, itemsOf, lstOf, blD, mtD, setItemD, iterD, rng1D, rng2D, okBound, Mt.okTy, Mt.onStr, isiD, truD, hv, e_law_law_take_2, e2, ob]
  · rintro k x a h' hx ⟨ps, rfl, hl2, hc, pk⟩
    obtain ⟨_, h4, e4, ⟨w, rfl, hw⟩, p4, x4⟩ := part_ok pk
    have e1 : ((wipeL l (List.map (fun x => x.snd) [(Str.ofString "_law_turn", 5)])).set 5 (some x))[2]? = some (some (.ref p)) := by
      show ((l.set 5 none).set 5 (some x))[2]? = _
      rw [List.getElem?_set_ne (by decide), List.getElem?_set_ne (by decide)]; exact hv
    refine ⟨_, _, rfl, true, h', rfl, fun _ => ?_, fun z => nomatch z⟩
    generalize (wipeL l (List.map (fun x => x.snd) [(Str.ofString "_law_turn", 5)])).set 5 (some x) = l2 at e1 ⊢
    simp only [q_var, q_cst, q_glo, q_tup, q_lst, q_bin, q_neg, q_cmp, q_chn, q_not, q_and, q_or, q_ife, q_sub, q_slc, q_bcl, q_mth, q_isi, q_exp, q_set, q_par, q_par3, q_sst, q_aug, q_ret, q_retn, q_sife, q_brk, q_cnt, q_pass, denSs, denEs, denT, denTs, denAnd, denOr, denO, denI, ofE, M.bind, M.ret, asBl, opt2, startL, List.map_cons, List.map_nil, List.cons_append, List.nil_append, List.length_cons, List.length_nil, List.replicate, List.getElem?_cons_zero, List.getElem?_cons_succ, List.set_cons_zero, List.set_cons_succ, asgG, asgGs, getAll, Src.get, wipeL, id, Bool.and_self, Int.add_zero, if_pos, if_true, Nat.reduceAdd, Nat.reduceSub, BEq.refl, binD, augD, cmpD, negD, subD, slcD, itemsOf, lstOf, blD, mtD, setItemD, iterD, rng1D, rng2D, okBound, Mt.okTy, Mt.onStr, isiD, truD, e_law_law_part_1, e1, e4]
    refine .ret ⟨ps ++ [w], by simp, by simp [hl2], fun y hy => ?_, p4⟩
    rcases List.mem_append.mp hy with q | q
    · exact hc y q
    · rw [List.mem_singleton.mp q]; exact hw
  · rintro a h' ⟨ps, rfl, hl2, hc, pk⟩
    rw [range_len] at hl2
    refine ⟨fits_of (by simp; omega), _, ps, rfl, get_end _ _, ⟨by omega, hc⟩, ?_⟩
    intro e
    rw [e] at hl2
    simp at hl2
    omega

theorem txt_of {ps : List (List Nat)} (hp : Parts ps) : fits (((ps.map S).map (·.length)).sum + (ps.map S).length * (S [47]).length) = true ∧ fits ((S [47]).length + (S (TL.joinL [47] ps)).length) = true ∧ S [47] ++ S (TL.joinL [47] ps) = S (pathL ps) := by
  refine ⟨fits_of (by rw [lens, List.length_map]; have := hp.len.2; show _ + _ * 1 ≤ _; omega), fits_of (by rw [S_len, S_len]; have := hp.len.1; simp only [pathL, List.length_cons] at this; simp; omega), ?_⟩
  rw [S_cat]; rfl
/-- the two looks at parts_of -/
theorem two_ok {v0 v1 v2 : Option D} {n : Nat} {ps : List (List Nat)} (hp : Parts ps) (v5 v6 v7 v8 : Option D) {h : Hs} (hl : LstAt h n ps) :
    DoesS (denS F_law (.for_ (.name 5) (.rng1 (.cst (.int 2))) b_law_f2) [v0, v1, v2, some (.ref n), some (.str (S (pathL ps))), v5, v6, v7, v8] h) fun f l' h' => f = .nx ∧ ∃ w5 w6 w7 w8, l' = [v0, v1, v2, some (.ref n), some (.str (S (pathL ps))), w5, w6, w7, w8] ∧ LstAt h' n ps := by
  refine for_ok (items := rangeD 0 2) (chk := fun _ => true) (h0 := h) (fun i l h' => ∃ w5 w6 w7 w8, l = [v0, v1, v2, some (.ref n), some (.str (S (pathL ps))), w5, w6, w7, w8] ∧ LstAt h' n ps) rfl ⟨_, _, _, _, rfl, hl⟩ (fun _ _ _ _ => rfl) ?_ ?_
  · rintro i x l h' hx ⟨w5, w6, w7, w8, rfl, hl'⟩
    refine ⟨_, _, rfl, ?_⟩
    obtain ⟨_, h1, e1, m, rfl, l1, x1, g1⟩ := parts_of_ok hp h'
    have l2 : LstAt h1 n ps := x1.get hl' (by simp)
    have q1 := eqD_strs l1 l2 hp.txs hp.txs
    have hne : m ≠ n := fun e => by
      have := (List.getElem?_eq_some_iff.mp hl').1
      omega
    unfold LstAt at l1 l2
    have f1 : fits (((ps.map S).map D.str).length + 1) = true := fits_of (by have := hp.1; simp; omega)
    unfold b_law_f2
    simp only [q_var, q_cst, q_glo, q_tup, q_lst, q_bin, q_neg, q_cmp, q_chn, q_not, q_and, q_or, q_ife, q_sub, q_slc, q_bcl, q_mth, q_isi, q_exp, q_set, q_par, q_par3, q_sst, q_aug, q_ret, q_retn, q_sife, q_brk, q_cnt, q_pass, denSs, denEs, denT, denTs, denAnd, denOr, denO, denI, ofE, M.bind, M.ret, asBl, opt2, startL, List.map_cons, List.map_nil, List.cons_append, List.nil_append, List.length_cons, List.length_nil, List.replicate, List.getElem?_cons_zero, List.getElem?_cons_succ, List.set_cons_zero, List.set_cons_succ, asgG, asgGs, getAll, Src.get, wipeL, id, Bool.and_self, Int.add_zero, if_pos, if_true, Nat.reduceAdd, Nat.reduceSub, BEq.refl, binD, augD, cmpD, negD, subD, slcD, itemsOf, lstOf, blD, mtD, setItemD, iterD, rng1D, rng2D, okBound, Mt.okTy, Mt.onStr, isiD, truD, e_law_parts_of_1, e1, l1, q1, f1, Bool.not_true, Bool.not_false, Bool.false_eq_true, if_false, Bool.true_and, decide_true, Option.isSome_some, Bool.true_eq_false, BEq.rfl, Bool.false_eq_true]
    refine .ret ⟨_, _, _, _, rfl, ?_⟩
    unfold LstAt
    rw [List.getElem?_set_ne hne]; exact l2
  · rintro l h' q
    exact ⟨rfl, q⟩
/-- one turn of the law -/
theorem turn_ok {ns : List Int} (hn : ns.length ≤ 63) {k : Nat} (hk : k < 30) (v2 v3 v4 v5 v6 v7 v8 : Option D) (h : Hs) :
    DoesS (denSs F_law b_law_f1 [some (.kl (ns.map .int)), some (.int k), v2, v3, v4, v5, v6, v7, v8] h) fun f l' _ => f = .nx ∧ ∃ w1 w2 w3 w4 w5 w6 w7 w8, l' = [some (.kl (ns.map .int)), w1, w2, w3, w4, w5, w6, w7, w8] := by
  obtain ⟨_, h1, e1, p, rfl, p1, x1, _⟩ := pool_ok' ns h (k := k) (by omega) hn
  obtain ⟨_, h2, e2, n, ps, rfl, l2, hp, hne⟩ := parts_drawn (l := [some (.kl (ns.map .int)), some (.int k), some (.ref p), v3, v4, v5, v6, v7, v8]) p1 rfl rfl
  obtain ⟨f1, f2, t1⟩ := txt_of hp
  obtain ⟨_, _, h3, e3, rfl, w5, w6, w7, w8, rfl, l3⟩ := two_ok (v0 := some (.kl (ns.map .int))) (v1 := some (.int k)) (v2 := some (.ref p)) hp v5 v6 v7 v8 l2
  have hp' := hp.init
  obtain ⟨f1', f2', t1'⟩ := txt_of hp'
  -- '/'.join(parts[:-1]): a new list
  have l4n : LstAt (h3 ++ [.lst ((ps.dropLast.map S).map .str)]) n ps := (Ext.app [] h3 _).get l3 (by simp)
  have l4 : LstAt (h3 ++ [.lst ((ps.dropLast.map S).map .str)]) h3.length ps.dropLast := get_end _ _
  obtain ⟨_, h5, e5, m7, rfl, l5, x5, _⟩ := parts_of_ok hp (h3 ++ [.lst ((ps.dropLast.map S).map .str)])
  have l5n : LstAt h5 n ps := x5.get l4n (by simp)
  obtain ⟨_, h6, e6, m, rfl, l6, x6, _⟩ := parts_of_ok hp' h5
  have l6n : LstAt h6 n ps := x6.get l5n (by simp)
  have l67 : LstAt h6 m7 ps := x6.get l5 (by simp)
  have x7 := Ext.app [] h6 [.lst ((ps.dropLast.map S).map .str)]
  have l7m : LstAt (h6 ++ [.lst ((ps.dropLast.map S).map .str)]) m ps.dropLast := x7.get l6 (by simp)
  have l77 : LstAt (h6 ++ [.lst ((ps.dropLast.map S).map .str)]) m7 ps := x7.get l67 (by simp)
  have l7n : LstAt (h6 ++ [.lst ((ps.dropLast.map S).map .str)]) n ps := x7.get l6n (by simp)
  have q1 := eqD_strs l7m (get_end h6 (.lst ((ps.dropLast.map S).map .str))) hp'.txs hp'.txs
  have q2 := eqD_strs l77 l7n hp.txs hp.txs
  obtain ⟨_, h8, e8, rfl, x8⟩ := parent_ok hp (h6 ++ [.lst ((ps.dropLast.map S).map .str)])
  have q3 : eqD (.str (S (pathL ps.dropLast))) (.str (S (pathL ps.dropLast))) h8 = some (decide (S (pathL ps.dropLast) = S (pathL ps.dropLast))) := eqD_str hp'.tx hp'.tx
  obtain ⟨z, hz⟩ : ∃ z, ps.getLast? = some z := ⟨_, List.getLast?_eq_some_getLast hne⟩
  obtain ⟨_, h9, e9, rfl, x9⟩ := last_ok hp hz h8
  have l9n : LstAt h9 n ps := (x8.trans x9).get l7n (by simp)
  have a1 : atI ((ps.map S).map D.str) (-1) = some (.str (S z)) := by rw [at_last, List.getLast?_map, List.getLast?_map, hz]; rfl
  have tz : Tx (S z) := hp.txs _ (List.mem_map_of_mem (List.mem_of_getLast? hz))
  have q4 : eqD (.str (S z)) (.str (S z)) h9 = some (decide (S z = S z)) := eqD_str tz tz
  obtain ⟨_, h10, e10, rfl, x10⟩ := is_path_ok hp h9
  obtain ⟨_, h11, e11, rfl, x11⟩ := is_path_ok hp' h10
  unfold LstAt at l2 l3 l4 l4n l5 l5n l6 l6n l7m l77 l7n l9n
  unfold b_law_f1
  simp only [q_var, q_cst, q_glo, q_tup, q_lst, q_bin, q_neg, q_cmp, q_chn, q_not, q_and, q_or, q_ife, q_sub, q_slc, q_bcl, q_mth, q_isi, q_exp, q_set, q_par, q_par3, q_sst, q_aug, q_ret, q_retn, q_sife, q_brk, q_cnt, q_pass, denSs, denEs, denT, denTs, denAnd, denOr, denO, denI, ofE, M.bind, M.ret, asBl, opt2, startL, List.map_cons, List.map_nil, List.cons_append, List.nil_append, List.length_cons, List.length_nil, List.replicate, List.getElem?_cons_zero, List.getElem?_cons_succ, List.set_cons_zero, List.set_cons_succ, asgG, asgGs, getAll, Src.get, wipeL, id, Bool.and_self, Int.add_zero, if_pos, if_true, Nat.reduceAdd, Nat.reduceSub, BEq.refl, binD, augD, cmpD, negD, subD, slcD, itemsOf, lstOf, blD, mtD, setItemD, iterD, rng1D, rng2D, okBound, Mt.okTy, Mt.onStr, isiD, truD, slash_eq, e_law_law_pool_2, e_law_parts_of_1, e_law_parent_of_1, e_law_last_part_1, e_law_is_path_1, e1, e2, l2, strsOf_map, f1, f2, join_S, t1, e3, l3, cut_init, ← List.map_dropLast, l4, f1', f2', t1', e5, e6, l6n, l5n, q1, q2, e8, q3, e9, l9n, a1, q4, e10, e11, Bool.not_true, Bool.not_false, Bool.false_eq_true, if_false, Bool.true_and, decide_true, Bool.true_eq_false, BEq.rfl, Bool.and_true, get_end]
  exact .ret ⟨rfl, _, _, _, _, _, _, _, _, rfl⟩
theorem pure : ∀ ns : List Int, ns.length ≤ 63 → (∀ k ∈ ns, PySem.Builtin.Int.intBits k ≤ 1048576) → ∃ h', m_law [.kl (ns.map .int)] [] = .ok (.bl true) h' := by
  intro ns hn _
  have loop : ∀ (v1 v2 v3 v4 v5 v6 v7 v8 : Option D) (h : Hs), DoesS (denS F_law (.for_ (.name 1) (.rng1 (.bcl .max (.cons (.cst (.int 1)) (.cons (.bcl .min (.cons (.bcl .len (.cons (.var 0) .nil)) (.cons (.cst (.int 30)) .nil))) .nil)))) b_law_f1) [some (.kl (ns.map .int)), v1, v2, v3, v4, v5, v6, v7, v8] h) fun f _ _ => f = .nx := by
    intro v1 v2 v3 v4 v5 v6 v7 v8 h
    have sub : ∃ j : Int, j ≤ 30 ∧ denI F_law (.rng1 (.bcl .max (.cons (.cst (.int 1)) (.cons (.bcl .min (.cons (.bcl .len (.cons (.var 0) .nil)) (.cons (.cst (.int 30)) .nil))) .nil)))) [some (.kl (ns.map .int)), v1, v2, v3, v4, v5, v6, v7, v8] h = .ok (rangeD 0 j.toNat, fun _ => true) h := by
      generalize hj : (if (if (30 : Int) < ((ns.map D.int).length : Nat) then (30 : Int) else ((ns.map D.int).length : Nat)) > 1 then (if (30 : Int) < ((ns.map D.int).length : Nat) then (30 : Int) else ((ns.map D.int).length : Nat)) else 1) = j
      have hj2 : 1 ≤ j ∧ j ≤ 30 := by
        rw [List.length_map] at hj
        rw [← hj]; split <;> split <;> omega
      have ob : (decide (-4611686018427387904 ≤ j) && decide (j < 4611686018427387904)) = true := by rw [decide_eq_true (by omega), decide_eq_true (by omega)]; rfl
      refine ⟨j, hj2.2, ?_⟩
      simp only [q_var, q_cst, q_glo, q_tup, q_lst, q_bin, q_neg, q_cmp, q_chn, q_not, q_and, q_or, q_ife, q_sub, q_slc, q_bcl, q_mth, q_isi, q_exp, q_set, q_par, q_par3, q_sst, q_aug, q_ret, q_retn, q_sife, q_brk, q_cnt, q_pass, denSs, denEs, denT, denTs, denAnd, denOr, denO, denI, ofE, M.bind, M.ret, asBl, opt2, startL, List.map_cons, List.map_nil, List.cons_append, List.nil_append, List.length_cons, List.length_nil, List.replicate, List.getElem?_cons_zero, List.getElem?_cons_succ, List.set_cons_zero, List.set_cons_succ, asgG, asgGs, getAll, Src.get, wipeL, id, Bool.and_self, Int.add_zero, if_pos, if_true, Nat.reduceAdd, Nat.reduceSub, BEq.refl, binD, augD, cmpD, negD, subD, slcD, itemsOf, lstOf, blD, mtD, setItemD, iterD, rng1D, rng2D, okBound, Mt.okTy, Mt.onStr, isiD, truD, lenD, Option.map_some, hj, ob]
    obtain ⟨j, hj, hi⟩ := sub
    refine for_ok (fun i l h => ∃ w1 w2 w3 w4 w5 w6 w7 w8, l = [some (.kl (ns.map .int)), w1, w2, w3, w4, w5, w6, w7, w8]) hi ⟨_, _, _, _, _, _, _, _, rfl⟩ (fun _ _ _ _ => rfl) ?_ (fun _ _ _ => rfl)
    rintro i x l h hx ⟨w1, w2, w3, w4, w5, w6, w7, w8, rfl⟩
    obtain ⟨rfl, hlt⟩ := range_at hx
    have e0 : (0 : Int) + (i : Int) = (i : Int) := by omega
    rw [e0]
    refine ⟨_, _, rfl, (turn_ok hn (k := i) (by omega) w2 w3 w4 w5 w6 w7 w8 h).mono ?_⟩
    rintro f l' h' ⟨rfl, q⟩
    exact q
  have P0 : Parts [] := ⟨by simp, by simp⟩
  have P1 : Parts [[97]] := ⟨by simp, fun p hp => by rw [List.mem_singleton.mp hp]; exact .inl ⟨by simp, by simp, by simp⟩⟩
  have z0 : (Str.ofString "/") = S (pathL []) := by decide +kernel
  have z1 : (Str.ofString "/a") = S (pathL [[97]]) := by decide +kernel
  have z2 : (Str.ofString "a") = S [97] := by decide +kernel
  have f0 : fits 0 = true := rfl
  have f1 : fits 1 = true := rfl
  obtain ⟨_, h1, e1, n1, rfl, l1, x1, _⟩ := parts_of_ok P0 []
  have l1' : LstAt (h1 ++ [.lst []]) n1 [] := (Ext.app [] h1 _).get l1 (by simp)
  have q1 := eqD_strs (a := []) (b := []) l1' (get_end h1 (.lst [])) (by simp) (by simp)
  obtain ⟨_, h2, e2, n2, rfl, l2, x2, _⟩ := parts_of_ok P1 (h1 ++ [.lst []])
  have l2' : LstAt (h2 ++ [.lst [.str (S [97])]]) n2 [[97]] := (Ext.app [] h2 _).get l2 (by simp)
  have q2 := eqD_strs (a := [[97]].map S) (b := [S [97]]) l2' (get_end h2 (.lst [.str (S [97])])) P1.txs P1.txs
  obtain ⟨_, h3, e3, rfl, x3⟩ := parent_ok P1 (h2 ++ [.lst [.str (S [97])]])
  have q3 : eqD (.str (S (pathL ([[97]] : List (List Nat)).dropLast))) (.str (S (pathL []))) h3 = some (decide (S (pathL ([[97]] : List (List Nat)).dropLast) = S (pathL []))) := eqD_str P0.tx P0.tx
  obtain ⟨_, h4, e4, rfl, x4⟩ := last_ok P1 (p := [97]) rfl h3
  have q4 : eqD (.str (S [97])) (.str (S [97])) h4 = some (decide (S [97] = S [97])) := eqD_str (P1.txs _ (by simp)) (P1.txs _ (by simp))
  obtain ⟨_, _, h5, e5, rfl⟩ := loop none none none none none none none none h4
  have d1 : decide (([] : List Str) = []) = true := rfl
  have d2 : decide ([[97]].map S = [S [97]]) = true := rfl
  have d3 : decide (S (pathL ([[97]] : List (List Nat)).dropLast) = S (pathL [])) = true := rfl
  unfold m_law run b_law
  simp only [q_var, q_cst, q_glo, q_tup, q_lst, q_bin, q_neg, q_cmp, q_chn, q_not, q_and, q_or, q_ife, q_sub, q_slc, q_bcl, q_mth, q_isi, q_exp, q_set, q_par, q_par3, q_sst, q_aug, q_ret, q_retn, q_sife, q_brk, q_cnt, q_pass, denSs, denEs, denT, denTs, denAnd, denOr, denO, denI, ofE, M.bind, M.ret, asBl, opt2, startL, List.map_cons, List.map_nil, List.cons_append, List.nil_append, List.length_cons, List.length_nil, List.replicate, List.getElem?_cons_zero, List.getElem?_cons_succ, List.set_cons_zero, List.set_cons_succ, asgG, asgGs, getAll, Src.get, wipeL, id, Bool.and_self, Int.add_zero, if_pos, if_true, Nat.reduceAdd, Nat.reduceSub, BEq.refl, binD, augD, cmpD, negD, subD, slcD, itemsOf, lstOf, blD, mtD, setItemD, iterD, rng1D, rng2D, okBound, Mt.okTy, Mt.onStr, isiD, truD, z0, z1, z2, f0, f1, e_law_parts_of_1, e_law_parts_of_0_path, e_law_parent_of_0_path, e_law_last_part_0_path, e1, q1, d1, e2, q2, d2, e3, q3, d3, e4, q4, e5, Bool.not_true, Bool.not_false, Bool.false_eq_true, if_false, Bool.true_and, decide_true, Bool.true_eq_false, BEq.rfl]
  exact ⟨_, rfl⟩
end PM.K02
/-! Law k02: the walk. Written by gen.py. -/
namespace PM.K02
open PySem PySem.Spec PyProof.Rows L2 PM
def top (i : Nat) : Stmt := PySem.Challenge.pw_watchednodes_k02_parents_and_parts.main.body.getD i (.Pass ⟨0, 0, 0, 0⟩)
abbrev bl : List Str := ["abs", "all", "int", "isinstance", "len", "list", "max", "min", "range", "str"]
abbrev cs : List (Str × D) := [("LETTERS", (.str "abcdefghijklmnopqrstuvwxyz")), ("FIGURES", (.str "0123456789")), ("LONGEST", (.int 8)), ("MOST_PARTS", (.int 5)), ("MANY_FIGURES", (.int 6)), ("ROOT", (.str "/"))]
abbrev gl : List Str := ["_law_pool", "parts_of", "path_of", "parent_of", "last_part", "_law_take", "_law_word", "_law_part", "is_word", "is_part", "is_path", "law"]
def s_law_pool : Stmt := top 15
abbrev d_law_pool : He.DefD := ⟨("_law_pool", none), "_law_pool", "_law_pool", defArgs s_law_pool, defBody s_law_pool, defScope s_law_pool, [], []⟩
def s_parts_of : Stmt := top 9
abbrev d_parts_of : He.DefD := ⟨("parts_of", none), "parts_of", "parts_of", defArgs s_parts_of, defBody s_parts_of, defScope s_parts_of, [], []⟩
def s_path_of : Stmt := top 11
abbrev d_path_of : He.DefD := ⟨("path_of", none), "path_of", "path_of", defArgs s_path_of, defBody s_path_of, defScope s_path_of, [], []⟩
def s_parent_of : Stmt := top 12
abbrev d_parent_of : He.DefD := ⟨("parent_of", none), "parent_of", "parent_of", defArgs s_parent_of, defBody s_parent_of, defScope s_parent_of, [], []⟩
def s_last_part : Stmt := top 13
abbrev d_last_part : He.DefD := ⟨("last_part", none), "last_part", "last_part", defArgs s_last_part, defBody s_last_part, defScope s_last_part, [], []⟩
def s_law_take : Stmt := top 16
abbrev d_law_take : He.DefD := ⟨("_law_take", none), "_law_take", "_law_take", defArgs s_law_take, defBody s_law_take, defScope s_law_take, [], []⟩
def s_law_word : Stmt := top 17
abbrev d_law_word : He.DefD := ⟨("_law_word", none), "_law_word", "_law_word", defArgs s_law_word, defBody s_law_word, defScope s_law_word, [], []⟩
def s_law_part : Stmt := top 18
abbrev d_law_part : He.DefD := ⟨("_law_part", none), "_law_part", "_law_part", defArgs s_law_part, defBody s_law_part, defScope s_law_part, [], []⟩
def s_is_word : Stmt := top 7
abbrev d_is_word : He.DefD := ⟨("is_word", none), "is_word", "is_word", defArgs s_is_word, defBody s_is_word, defScope s_is_word, [], []⟩
def s_is_part : Stmt := top 8
abbrev d_is_part : He.DefD := ⟨("is_part", none), "is_part", "is_part", defArgs s_is_part, defBody s_is_part, defScope s_is_part, [], []⟩
def s_is_path : Stmt := top 10
abbrev d_is_path : He.DefD := ⟨("is_path", none), "is_path", "is_path", defArgs s_is_path, defBody s_is_path, defScope s_is_path, [], []⟩
def s_law : Stmt := top 19
abbrev d_law : He.DefD := ⟨("law", none), "law", "law", defArgs s_law, defBody s_law, defScope s_law, [], []⟩
abbrev fn : List He.DefD := [d_law_pool, d_parts_of, d_path_of, d_parent_of, d_last_part, d_law_take, d_law_word, d_law_part, d_is_word, d_is_part, d_is_path, d_law]
abbrev fa : List He.Fa := faOf bl cs gl []
section
variable {P : Program} {w : World} {K : PySem.W.Frag} {mg : Str → Option Value} {base h : Heap}
theorem ok_law_pool : okSs F_law_pool ⟨["_law_script", "_law_k", "_law_cell", "_law_size", "_law_mixed"], defScope s_law_pool, defScope s_law_pool, bl, cs, 0⟩ b_law_pool (defBody s_law_pool) = true := by decide +kernel
theorem sc_law_pool : FnScope ["_law_script", "_law_k", "_law_cell", "_law_size", "_law_mixed"] ["_law_script", "_law_k"] (defScope s_law_pool) := ⟨rfl, rfl, rfl, by decide +kernel, rfl, by decide +kernel, by decide +kernel⟩
theorem c_law_pool (X : K.In h) (G : h.Ns mainGlobals mg) (c : He.SaysD fa fn K) (prev : ∀ fi ∈ F_law_pool, CallOk P w K mg base fi) : CallOk P w K mg base i_law_pool := by
  obtain ⟨fd, Fd⟩ := c.def_ 0 (d := d_law_pool) rfl
  exact def_call (ps := ["_law_script", "_law_k"]) Fd sc_law_pool ok_law_pool rfl rfl (bl_says X G c) (cs_says X G c rfl) prev (gl_says X G c rfl) (shapes_cons (shape_of Fd rfl fun kV doc pm an cdv ct us ws h1 h2 => match us, ws, h1, h2 with | [u0, u1], [], _, _ => rfl) shapes_nil)
theorem ok_parts_of : okSs F_parts_of ⟨["path"], defScope s_parts_of, defScope s_parts_of, bl, cs, 0⟩ b_parts_of (defBody s_parts_of) = true := by decide +kernel
theorem sc_parts_of : FnScope ["path"] ["path"] (defScope s_parts_of) := ⟨rfl, rfl, rfl, by decide +kernel, rfl, by decide +kernel, by decide +kernel⟩
theorem c_parts_of (X : K.In h) (G : h.Ns mainGlobals mg) (c : He.SaysD fa fn K) (prev : ∀ fi ∈ F_parts_of, CallOk P w K mg base fi) : CallOk P w K mg base i_parts_of := by
  obtain ⟨fd, Fd⟩ := c.def_ 1 (d := d_parts_of) rfl
  exact def_call (ps := ["path"]) Fd sc_parts_of ok_parts_of rfl rfl (bl_says X G c) (cs_says X G c rfl) prev (gl_says X G c rfl) (shapes_cons (shape_of Fd rfl fun kV doc pm an cdv ct us ws h1 h2 => match us, ws, h1, h2 with | [u0], [], _, _ => rfl) (shapes_cons (shape_of Fd rfl fun kV doc pm an cdv ct us ws h1 h2 => match us, ws, h1, h2 with | [], [w0], _, _ => rfl) shapes_nil))
theorem ok_path_of : okSs F_path_of ⟨["parts"], defScope s_path_of, defScope s_path_of, bl, cs, 0⟩ b_path_of (defBody s_path_of) = true := by decide +kernel
theorem sc_path_of : FnScope ["parts"] ["parts"] (defScope s_path_of) := ⟨rfl, rfl, rfl, by decide +kernel, rfl, by decide +kernel, by decide +kernel⟩
theorem c_path_of (X : K.In h) (G : h.Ns mainGlobals mg) (c : He.SaysD fa fn K) (prev : ∀ fi ∈ F_path_of, CallOk P w K mg base fi) : CallOk P w K mg base i_path_of := by
  obtain ⟨fd, Fd⟩ := c.def_ 2 (d := d_path_of) rfl
  exact def_call (ps := ["parts"]) Fd sc_path_of ok_path_of rfl rfl (bl_says X G c) (cs_says X G c rfl) prev (gl_says X G c rfl) (shapes_cons (shape_of Fd rfl fun kV doc pm an cdv ct us ws h1 h2 => match us, ws, h1, h2 with | [u0], [], _, _ => rfl) shapes_nil)
theorem ok_parent_of : okSs F_parent_of ⟨["path"], defScope s_parent_of, defScope s_parent_of, bl, cs, 1⟩ b_parent_of (defBody s_parent_of) = true := by decide +kernel
theorem sc_parent_of : FnScope ["path"] ["path"] (defScope s_parent_of) := ⟨rfl, rfl, rfl, by decide +kernel, rfl, by decide +kernel, by decide +kernel⟩
theorem c_parent_of (X : K.In h) (G : h.Ns mainGlobals mg) (c : He.SaysD fa fn K) (prev : ∀ fi ∈ F_parent_of, CallOk P w K mg base fi) : CallOk P w K mg base i_parent_of := by
  obtain ⟨fd, Fd⟩ := c.def_ 3 (d := d_parent_of) rfl
  exact def_call (ps := ["path"]) Fd sc_parent_of ok_parent_of rfl rfl (bl_says X G c) (cs_says X G c rfl) prev (gl_says X G c rfl) (shapes_cons (shape_of Fd rfl fun kV doc pm an cdv ct us ws h1 h2 => match us, ws, h1, h2 with | [], [w0], _, _ => rfl) (shapes_cons (shape_of Fd rfl fun kV doc pm an cdv ct us ws h1 h2 => match us, ws, h1, h2 with | [u0], [], _, _ => rfl) shapes_nil))
theorem ok_last_part : okSs F_last_part ⟨["path"], defScope s_last_part, defScope s_last_part, bl, cs, 1⟩ b_last_part (defBody s_last_part) = true := by decide +kernel
theorem sc_last_part : FnScope ["path"] ["path"] (defScope s_last_part) := ⟨rfl, rfl, rfl, by decide +kernel, rfl, by decide +kernel, by decide +kernel⟩
theorem c_last_part (X : K.In h) (G : h.Ns mainGlobals mg) (c : He.SaysD fa fn K) (prev : ∀ fi ∈ F_last_part, CallOk P w K mg base fi) : CallOk P w K mg base i_last_part := by
  obtain ⟨fd, Fd⟩ := c.def_ 4 (d := d_last_part) rfl
  exact def_call (ps := ["path"]) Fd sc_last_part ok_last_part rfl rfl (bl_says X G c) (cs_says X G c rfl) prev (gl_says X G c rfl) (shapes_cons (shape_of Fd rfl fun kV doc pm an cdv ct us ws h1 h2 => match us, ws, h1, h2 with | [], [w0], _, _ => rfl) (shapes_cons (shape_of Fd rfl fun kV doc pm an cdv ct us ws h1 h2 => match us, ws, h1, h2 with | [u0], [], _, _ => rfl) shapes_nil))
theorem ok_law_take : okSs F_law_take ⟨["_law_pool_here", "_law_many", "_law_found"], defScope s_law_take, defScope s_law_take, bl, cs, 0⟩ b_law_take (defBody s_law_take) = true := by decide +kernel
theorem sc_law_take : FnScope ["_law_pool_here", "_law_many", "_law_found"] ["_law_pool_here", "_law_many"] (defScope s_law_take) := ⟨rfl, rfl, rfl, by decide +kernel, rfl, by decide +kernel, by decide +kernel⟩
theorem c_law_take (X : K.In h) (G : h.Ns mainGlobals mg) (c : He.SaysD fa fn K) (prev : ∀ fi ∈ F_law_take, CallOk P w K mg base fi) : CallOk P w K mg base i_law_take := by
  obtain ⟨fd, Fd⟩ := c.def_ 5 (d := d_law_take) rfl
  exact def_call (ps := ["_law_pool_here", "_law_many"]) Fd sc_law_take ok_law_take rfl rfl (bl_says X G c) (cs_says X G c rfl) prev (gl_says X G c rfl) (shapes_cons (shape_of Fd rfl fun kV doc pm an cdv ct us ws h1 h2 => match us, ws, h1, h2 with | [u0, u1], [], _, _ => rfl) shapes_nil)
theorem ok_law_word : okSs F_law_word ⟨["_law_pool_here", "_law_turn"], defScope s_law_word, defScope s_law_word, bl, cs, 1⟩ b_law_word (defBody s_law_word) = true := by decide +kernel
theorem sc_law_word : FnScope ["_law_pool_here", "_law_turn"] ["_law_pool_here"] (defScope s_law_word) := ⟨rfl, rfl, rfl, by decide +kernel, rfl, by decide +kernel, by decide +kernel⟩
theorem c_law_word (X : K.In h) (G : h.Ns mainGlobals mg) (c : He.SaysD fa fn K) (prev : ∀ fi ∈ F_law_word, CallOk P w K mg base fi) : CallOk P w K mg base i_law_word := by
  obtain ⟨fd, Fd⟩ := c.def_ 6 (d := d_law_word) rfl
  exact def_call (ps := ["_law_pool_here"]) Fd sc_law_word ok_law_word rfl rfl (bl_says X G c) (cs_says X G c rfl) prev (gl_says X G c rfl) (shapes_cons (shape_of Fd rfl fun kV doc pm an cdv ct us ws h1 h2 => match us, ws, h1, h2 with | [u0], [], _, _ => rfl) shapes_nil)
theorem ok_law_part : okSs F_law_part ⟨["_law_pool_here", "_law_word_here"], defScope s_law_part, defScope s_law_part, bl, cs, 2⟩ b_law_part (defBody s_law_part) = true := by decide +kernel
theorem sc_law_part : FnScope ["_law_pool_here", "_law_word_here"] ["_law_pool_here"] (defScope s_law_part) := ⟨rfl, rfl, rfl, by decide +kernel, rfl, by decide +kernel, by decide +kernel⟩
theorem c_law_part (X : K.In h) (G : h.Ns mainGlobals mg) (c : He.SaysD fa fn K) (prev : ∀ fi ∈ F_law_part, CallOk P w K mg base fi) : CallOk P w K mg base i_law_part := by
  obtain ⟨fd, Fd⟩ := c.def_ 7 (d := d_law_part) rfl
  exact def_call (ps := ["_law_pool_here"]) Fd sc_law_part ok_law_part rfl rfl (bl_says X G c) (cs_says X G c rfl) prev (gl_says X G c rfl) (shapes_cons (shape_of Fd rfl fun kV doc pm an cdv ct us ws h1 h2 => match us, ws, h1, h2 with | [u0], [], _, _ => rfl) shapes_nil)
theorem ok_is_word : okSs F_is_word ⟨["thing", "sign"], defScope s_is_word, defScope s_is_word, bl, cs, 0⟩ b_is_word (defBody s_is_word) = true := by decide +kernel
theorem sc_is_word : FnScope ["thing", "sign"] ["thing"] (defScope s_is_word) := ⟨rfl, rfl, rfl, by decide +kernel, rfl, by decide +kernel, by decide +kernel⟩
theorem c_is_word (X : K.In h) (G : h.Ns mainGlobals mg) (c : He.SaysD fa fn K) (prev : ∀ fi ∈ F_is_word, CallOk P w K mg base fi) : CallOk P w K mg base i_is_word := by
  obtain ⟨fd, Fd⟩ := c.def_ 8 (d := d_is_word) rfl
  exact def_call (ps := ["thing"]) Fd sc_is_word ok_is_word rfl rfl (bl_says X G c) (cs_says X G c rfl) prev (gl_says X G c rfl) (shapes_cons (shape_of Fd rfl fun kV doc pm an cdv ct us ws h1 h2 => match us, ws, h1, h2 with | [u0], [], _, _ => rfl) shapes_nil)
theorem ok_is_part : okSs F_is_part ⟨["thing", "word", "sign", "figures", "one"], defScope s_is_part, defScope s_is_part, bl, cs, 1⟩ b_is_part (defBody s_is_part) = true := by decide +kernel
theorem sc_is_part : FnScope ["thing", "word", "sign", "figures", "one"] ["thing"] (defScope s_is_part) := ⟨rfl, rfl, rfl, by decide +kernel, rfl, by decide +kernel, by decide +kernel⟩
theorem c_is_part (X : K.In h) (G : h.Ns mainGlobals mg) (c : He.SaysD fa fn K) (prev : ∀ fi ∈ F_is_part, CallOk P w K mg base fi) : CallOk P w K mg base i_is_part := by
  obtain ⟨fd, Fd⟩ := c.def_ 9 (d := d_is_part) rfl
  exact def_call (ps := ["thing"]) Fd sc_is_part ok_is_part rfl rfl (bl_says X G c) (cs_says X G c rfl) prev (gl_says X G c rfl) (shapes_cons (shape_of Fd rfl fun kV doc pm an cdv ct us ws h1 h2 => match us, ws, h1, h2 with | [u0], [], _, _ => rfl) shapes_nil)
theorem ok_is_path : okSs F_is_path ⟨["thing", "one"], defScope s_is_path, defScope s_is_path, bl, cs, 2⟩ b_is_path (defBody s_is_path) = true := by decide +kernel
theorem sc_is_path : FnScope ["thing", "one"] ["thing"] (defScope s_is_path) := ⟨rfl, rfl, rfl, by decide +kernel, rfl, by decide +kernel, by decide +kernel⟩
theorem c_is_path (X : K.In h) (G : h.Ns mainGlobals mg) (c : He.SaysD fa fn K) (prev : ∀ fi ∈ F_is_path, CallOk P w K mg base fi) : CallOk P w K mg base i_is_path := by
  obtain ⟨fd, Fd⟩ := c.def_ 10 (d := d_is_path) rfl
  exact def_call (ps := ["thing"]) Fd sc_is_path ok_is_path rfl rfl (bl_says X G c) (cs_says X G c rfl) prev (gl_says X G c rfl) (shapes_cons (shape_of Fd rfl fun kV doc pm an cdv ct us ws h1 h2 => match us, ws, h1, h2 with | [u0], [], _, _ => rfl) shapes_nil)
theorem ok_law : okSs F_law ⟨["_law_script", "_law_k", "_law_pool_here", "_law_parts", "_law_whole", "_law_turn", "_law_above", "_law_held", "_law_found"], defScope s_law, defScope s_law, bl, cs, 3⟩ b_law (defBody s_law) = true := by decide +kernel
theorem sc_law : FnScope ["_law_script", "_law_k", "_law_pool_here", "_law_parts", "_law_whole", "_law_turn", "_law_above", "_law_held", "_law_found"] ["_law_script"] (defScope s_law) := ⟨rfl, rfl, rfl, by decide +kernel, rfl, by decide +kernel, by decide +kernel⟩
theorem facts {f : Addr} (X : K.In h) (G : h.Ns mainGlobals mg) (hfa : mg ("law" : Str) = some (.ref f)) (c : He.SaysD fa fn K) :
    ∃ fd : FuncData, (∀ (s : Shared) (v : Value), BindsTo s fd ⟨[v], []⟩ [("_law_script", v)]) ∧ ∀ b : Heap, K.In b → b.Ns mainGlobals mg → FnG P w K mg b 4 f fd ["_law_script"] (spM K mg m_law) := by
  obtain ⟨fd, Fd⟩ := c.def_ 11 (d := d_law) rfl
  have e := hfa.symm.trans (gl_says X G c (x := "law") rfl)
  cases e
  have b := FunD.bindsA (ps := ["_law_script"]) Fd fun _ _ _ _ _ _ us hl => match us, hl with | [_], _ => rfl
  refine ⟨fd, fun s v => b s [v] rfl, fun base _ _ => ?_⟩
  have p_law_pool : ∀ fi ∈ F_law_pool ++ [i_law_pool], CallOk P w K mg base fi := calls_cons (c_law_pool X G c calls_nil) calls_nil
  have p_parts_of : ∀ fi ∈ F_parts_of ++ [i_parts_of], CallOk P w K mg base fi := calls_cons (c_parts_of X G c p_law_pool) p_law_pool
  have p_path_of : ∀ fi ∈ F_path_of ++ [i_path_of], CallOk P w K mg base fi := calls_cons (c_path_of X G c p_parts_of) p_parts_of
  have p_parent_of : ∀ fi ∈ F_parent_of ++ [i_parent_of], CallOk P w K mg base fi := calls_cons (c_parent_of X G c p_path_of) p_path_of
  have p_last_part : ∀ fi ∈ F_last_part ++ [i_last_part], CallOk P w K mg base fi := calls_cons (c_last_part X G c p_parent_of) p_parent_of
  have p_law_take : ∀ fi ∈ F_law_take ++ [i_law_take], CallOk P w K mg base fi := calls_cons (c_law_take X G c p_last_part) p_last_part
  have p_law_word : ∀ fi ∈ F_law_word ++ [i_law_word], CallOk P w K mg base fi := calls_cons (c_law_word X G c p_law_take) p_law_take
  have p_law_part : ∀ fi ∈ F_law_part ++ [i_law_part], CallOk P w K mg base fi := calls_cons (c_law_part X G c p_law_word) p_law_word
  have p_is_word : ∀ fi ∈ F_is_word ++ [i_is_word], CallOk P w K mg base fi := calls_cons (c_is_word X G c p_law_part) p_law_part
  have p_is_part : ∀ fi ∈ F_is_part ++ [i_is_part], CallOk P w K mg base fi := calls_cons (c_is_part X G c p_is_word) p_is_word
  have p_is_path : ∀ fi ∈ F_is_path ++ [i_is_path], CallOk P w K mg base fi := calls_cons (c_is_path X G c p_is_part) p_is_part
  exact def_ok Fd sc_law ok_law rfl rfl (bl_says X G c) (cs_says X G c rfl) p_is_path
end
abbrev R : PySem.W.OpenRow := PySem.W.OpenLaw.row PySem.Challenge.rw_watchednodes_k02_parents_and_parts
abbrev hk : PySem.W.Hook := He.hookD 4 fa fn
def ob (s : PySem.W.SharedT) : He.AlD := He.obsDG 4 fa fn (HandSHeadRun.getT s)
theorem ob_eq (s : PySem.W.SharedT) : ob s = hk.obs s.abs := He.obsDG_eq (HandSHeadRun.getT_eq s)
abbrev loose : List Str := (["LETTERS", "FIGURES", "LONGEST", "MOST_PARTS", "MANY_FIGURES", "ROOT", "is_word", "is_part", "parts_of", "is_path", "path_of", "parent_of", "last_part", "_law_pool", "_law_take", "_law_word", "_law_part"] : List Str)
theorem run_top (w : World) : HandSHeadRun.RunEq R (PySem.W.view R.prog [19]) hk ob 1400 loose w := by
  intro os
  kernel_rfl
end PM.K02
open PySem PySem.W PySem.Calls PyProof.Rows
theorem PySem.Challenge.cw_watchednodes_k02_parents_and_parts_holds : PySem.Challenge.rw_watchednodes_k02_parents_and_parts.Holds := by
  w_on; o_law
  refine HandSHeadRun.head_any (r := OpenLaw.row PySem.Challenge.rw_watchednodes_k02_parents_and_parts) (q := view (OpenLaw.row PySem.Challenge.rw_watchednodes_k02_parents_and_parts).prog [19]) (H := PM.K02.hk) (ob := PM.K02.ob) (M := 1400) (loose := PM.K02.loose) (d := HandSHeadRun.topDef (OpenLaw.row PySem.Challenge.rw_watchednodes_k02_parents_and_parts).prog 19) (kwd := []) PM.K02.ob_eq
    (by kernel_rfl) (fun s => by kernel_rfl) PM.K02.run_top (by kernel_rfl) (by kernel_rfl) (by kernel_rfl) (by rfl) (by first | assumption | decide +kernel) (by decide +kernel) ⟨rfl, rfl, rfl, rfl, rfl, by decide +kernel⟩ ?hw ?hc
  case hw => w_witness2
  case hc =>
    refine PM.walkG (l := PySem.Challenge.rw_watchednodes_k02_parents_and_parts) (n := 63) (k := 4) (x := "_law_script") (m := PM.K02.m_law) rfl (by decide) (by kernel_rfl) ⟨rfl, by decide, by decide⟩ ?F PM.K02.pure
    intro w mg fa h Y G hm0
    obtain ⟨K, KX, c⟩ := Y
    have hm : mg ("law" : PySem.Str) = some (.ref fa) := by
      have e : (HandSHeadRun.topDef (OpenLaw.row PySem.Challenge.rw_watchednodes_k02_parents_and_parts).prog 19).name = ("law" : PySem.Str) := by kernel_rfl
      rw [← e]
      exact hm0
    obtain ⟨fd, hb, hF⟩ := PM.K02.facts (P := (PySem.Challenge.rw_watchednodes_k02_parents_and_parts).prog) (w := w) KX G hm c
    exact ⟨K, fd, KX, hb, hF⟩
