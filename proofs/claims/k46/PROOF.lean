import PyProof.Rows.All
import Wide.All
import OpenK.AllK
import Wide.FinOn
import HandS.ForMost
import HandS.Exc
import HandS.ExcOwn
import HandS.WordsExc
import KE.GoesZip
import KE.GoesEnum
import KE.GoesMore
import HandS.IsInst
import HandS.Style
import KE.KRevSl
import HandS.ExcInit
import HandS.ExcIs
import HandS.ExcField
import HandS.Nested
import KE.KExcSuper
import KE.KSuper
import KE.KExcIs
import HandS.EndBits
import HandS.Strs
import HandS.SetBool
import HandS.Dict
import HandS.More
import HandS.Iter
import HandS.SortInts
import HandS.Text
import HandS.Deep
import KE.DataMinMax
import HandS.Conv
import HandS.Flow

import PySem.Challenge.RW_betweentwoclocks_k46_rings_in_another_dr
universe u v w
set_option Elab.async false
set_option linter.all false
set_option maxRecDepth 100000
set_option maxHeartbeats 4000000
namespace P3
open PySem PySem.Spec PyProof.Rows L2

abbrev Txt := List Nat
abbrev Fg := PySem.W.Frag

/-! heaps -/
def Ex (H H' : Hp) : Prop := ∀ a o, H a = some o → H' a = some o
theorem Ex.refl (H : Hp) : Ex H H := fun _ _ h => h
theorem Ex.trans {H H1 H2 : Hp} (a : Ex H H1) (b : Ex H1 H2) : Ex H H2 := fun x o h => b x o (a x o h)
theorem Ex.new {H : Hp} {p : Addr} {o : HO} (h : H p = none) : Ex H (upd H p o) := fun a u e => by
  rw [upd_ne (ne_of_none e h)]; exact e
theorem Ex.free {H H' : Hp} {p : Addr} (e : Ex H H') (h : H' p = none) : H p = none := by
  cases h1 : H p with
  | none => rfl
  | some o => rw [e p o h1] at h; cases h
def hide (O : List Addr) (H : Hp) : Hp := fun a => if a ∈ O then none else H a
theorem hide_in {O : List Addr} {H : Hp} {a : Addr} (h : a ∈ O) : hide O H a = none := by unfold hide; rw [if_pos h]
theorem hide_out {O : List Addr} {H : Hp} {a : Addr} (h : a ∉ O) : hide O H a = H a := by unfold hide; rw [if_neg h]
theorem hide_some {O : List Addr} {H : Hp} {a : Addr} {o : HO} (h : hide O H a = some o) : a ∉ O ∧ H a = some o := by
  unfold hide at h
  by_cases m : a ∈ O
  · rw [if_pos m] at h; cases h
  · rw [if_neg m] at h; exact ⟨m, h⟩
theorem hide_ex {O : List Addr} {H H' : Hp} (e : Ex H H') : Ex (hide O H) (hide O H') := fun a o h => by
  obtain ⟨m, q⟩ := hide_some h
  rw [hide_out m]; exact e a o q
theorem hide_le {O : List Addr} {H : Hp} : Ex (hide O H) H := fun a o h => (hide_some h).2
theorem hide_sub {O O' : List Addr} {H : Hp} (s : ∀ a ∈ O', a ∈ O) : Ex (hide O H) (hide O' H) := fun a o h => by
  obtain ⟨m, q⟩ := hide_some h
  rw [hide_out fun z => m (s a z)]; exact q
theorem hide_upd {O : List Addr} {H : Hp} {p : Addr} {o : HO} (h : p ∈ O) : hide O (upd H p o) = hide O H := by
  funext a
  by_cases m : a ∈ O
  · rw [hide_in m, hide_in m]
  · rw [hide_out m, hide_out m]
    exact upd_ne fun z => m (by rw [z]; exact h)
theorem hide_nil {H : Hp} : hide [] H = H := by
  funext a; exact hide_out (by simp)

/-! a dict that is locked, or let go again -/
def isD : HO → Prop
  | .dK _ => True
  | .dT _ => True
  | _ => False
def nfz : HO → Prop
  | .frz _ _ => False
  | _ => True
def ExD (H H' : Hp) : Prop := ∀ a o, H a = some o → H' a = some o ∨ ∃ b u, isD u ∧ ((o = u ∧ H' a = some (.frz b u)) ∨ (o = .frz b u ∧ H' a = some u))
theorem Ex.d {H H' : Hp} (e : Ex H H') : ExD H H' := fun a o h => .inl (e a o h)
theorem ed_rd {H H' : Hp} {a : Addr} {u : HO} (e : ExD H H') (n : nfz u) (h : Rd H a u) : Rd H' a u := by
  rcases h with h | ⟨o, h⟩
  · rcases e a _ h with k | ⟨b, v, d, (⟨q, k⟩ | ⟨q, k⟩)⟩
    · exact Or.inl k
    · exact Or.inr ⟨b, by rw [q]; exact k⟩
    · rw [q] at n
      exact n.elim
  · rcases e a _ h with k | ⟨b, v, d, (⟨q, k⟩ | ⟨q, k⟩)⟩
    · exact Or.inr ⟨o, k⟩
    · rw [← q] at d
      exact d.elim
    · cases q
      exact Or.inl k
theorem ed_l {K : Fg} {H H' : Hp} {a : Addr} {xs : List V} (e : ExD H H') (h : SqL K H a xs) : SqL K H' a xs := by
  rcases h with h | h
  · exact Or.inl (ed_rd e trivial h)
  · exact Or.inr h
theorem ed_t {K : Fg} {H H' : Hp} {a : Addr} {xs : List V} (e : ExD H H') (h : SqT K H a xs) : SqT K H' a xs := by
  rcases h with h | h
  · exact Or.inl (ed_rd e trivial h)
  · exact Or.inr h
/-! what a value stands for -/
class Den (α : Type) where
  den : Fg → Hp → V → α → Prop
  monoD : ∀ {K : Fg} {H H' : Hp} {v : V} {x : α}, ExD H H' → den K H v x → den K H' v x
open Den (den)
theorem Den.mono {α : Type} [Den α] {K : Fg} {H H' : Hp} {v : V} {x : α} (e : Ex H H') (h : den K H v x) : den K H' v x := Den.monoD e.d h
/-- a value without objects -/
class Flat (α : Type) [Den α] where
  val : α → V
  ok : α → Prop
  is : ∀ {K : Fg} {H : Hp} {v : V} {x : α}, den K H v x ↔ v = val x ∧ ok x
theorem flat_any {α : Type} [Den α] [Flat α] {K : Fg} {H H' : Hp} {v : V} {x : α} (h : den K H v x) : den K H' v x := Flat.is.mpr (Flat.is.mp h)

instance : Den Int where
  den := fun _ _ v x => v = .int x ∧ True
  monoD := fun _ h => h
instance : Flat Int where
  val := .int
  ok := fun _ => True
  is := Iff.rfl
instance : Den Bool where
  den := fun _ _ v x => v = .bl x ∧ True
  monoD := fun _ h => h
instance : Flat Bool where
  val := .bl
  ok := fun _ => True
  is := Iff.rfl
instance : Den Unit where
  den := fun _ _ v _ => v = .non ∧ True
  monoD := fun _ h => h
instance : Flat Unit where
  val := fun _ => .non
  ok := fun _ => True
  is := Iff.rfl
/-- a text by its signs -/
structure Tx where
  l : Txt
  deriving DecidableEq, Repr, Inhabited
def sT (x : Tx) : Str := ⟨x.l.toArray⟩
def tT (z : Str) : Tx := ⟨z.cps.toList⟩
theorem sT_tT (z : Str) : sT (tT z) = z := rfl
theorem tT_sT (x : Tx) : tT (sT x) = x := rfl
theorem sT_len (x : Tx) : (sT x).length = x.l.length := rfl
theorem sT_inj {x y : Tx} (h : sT x = sT y) : x = y := by
  have := congrArg tT h
  exact this
def okT (x : Tx) : Prop := x.l.length ≤ sizeLine ∧ x.l.all (fun c => decide (c < 0x110000)) = true
instance : Den Tx where
  den := fun _ _ v x => v = .str (sT x) ∧ okT x
  monoD := fun _ h => h
instance : Flat Tx where
  val := fun x => .str (sT x)
  ok := okT
  is := Iff.rfl
theorem okT_app {x y : Tx} (hx : okT x) (hy : okT y) (h : x.l.length + y.l.length ≤ sizeLine) : okT ⟨x.l ++ y.l⟩ :=
  ⟨by show (x.l ++ y.l).length ≤ _; rw [List.length_append]; exact h, by show (x.l ++ y.l).all _ = true; rw [List.all_append, hx.2, hy.2]; rfl⟩
theorem okT_sub {x : Tx} {l : Txt} (hx : okT x) (h : l.length ≤ x.l.length) (s : ∀ c ∈ l, c ∈ x.l) : okT ⟨l⟩ :=
  ⟨Nat.le_trans h hx.1, List.all_eq_true.mpr fun c hc => List.all_eq_true.mp hx.2 c (s c hc)⟩
theorem okT_one {x : Tx} {c : Nat} (hx : okT x) (h : c ∈ x.l) : okT ⟨[c]⟩ :=
  ⟨by show 1 ≤ sizeLine; decide, List.all_eq_true.mpr fun d hd => by rw [List.mem_singleton.mp hd]; exact List.all_eq_true.mp hx.2 c h⟩

/-- pairwise -/
inductive All2 {α : Type u} {β : Type v} (R : α → β → Prop) : List α → List β → Prop
  | nil : All2 R [] []
  | cons {a : α} {b : β} {as : List α} {bs : List β} : R a b → All2 R as bs → All2 R (a :: as) (b :: bs)
namespace All2
variable {α : Type u} {β : Type v} {R S : α → β → Prop}
theorem imp (f : ∀ a b, R a b → S a b) : ∀ {as : List α} {bs : List β}, All2 R as bs → All2 S as bs
  | _, _, .nil => .nil
  | _, _, .cons h t => .cons (f _ _ h) (imp f t)
theorem len : ∀ {as : List α} {bs : List β}, All2 R as bs → as.length = bs.length
  | _, _, .nil => rfl
  | _, _, .cons _ t => congrArg (· + 1) t.len
theorem app : ∀ {as : List α} {bs : List β} {cs : List α} {ds : List β}, All2 R as bs → All2 R cs ds → All2 R (as ++ cs) (bs ++ ds)
  | _, _, _, _, .nil, k => k
  | _, _, _, _, .cons h t, k => .cons h (app t k)
theorem at_ : ∀ {as : List α} {bs : List β} {i : Nat} {a : α}, All2 R as bs → as[i]? = some a → ∃ b, bs[i]? = some b ∧ R a b
  | _, _, _, _, .nil, e => by simp at e
  | _, _, 0, _, .cons h _, e => by simp at e; subst e; exact ⟨_, rfl, h⟩
  | _, _, i + 1, _, .cons _ t, e => by
    obtain ⟨b, h1, h2⟩ := at_ (i := i) t (by simpa using e)
    exact ⟨b, by simpa using h1, h2⟩
theorem ta_ : ∀ {as : List α} {bs : List β} {i : Nat} {b : β}, All2 R as bs → bs[i]? = some b → ∃ a, as[i]? = some a ∧ R a b
  | _, _, _, _, .nil, e => by simp at e
  | _, _, 0, _, .cons h _, e => by simp at e; subst e; exact ⟨_, rfl, h⟩
  | _, _, i + 1, _, .cons _ t, e => by
    obtain ⟨b, h1, h2⟩ := ta_ (i := i) t (by simpa using e)
    exact ⟨b, by simpa using h1, h2⟩
theorem take : ∀ {as : List α} {bs : List β} (n : Nat), All2 R as bs → All2 R (as.take n) (bs.take n)
  | _, _, 0, _ => .nil
  | _, _, _ + 1, .nil => .nil
  | _, _, n + 1, .cons h t => .cons h (take n t)
theorem drop : ∀ {as : List α} {bs : List β} (n : Nat), All2 R as bs → All2 R (as.drop n) (bs.drop n)
  | _, _, 0, r => r
  | _, _, _ + 1, .nil => .nil
  | _, _, n + 1, .cons _ t => drop n t
theorem rev : ∀ {as : List α} {bs : List β}, All2 R as bs → All2 R as.reverse bs.reverse
  | _, _, .nil => .nil
  | _, _, .cons h t => by rw [List.reverse_cons, List.reverse_cons]; exact app (rev t) (.cons h .nil)
theorem set : ∀ {as : List α} {bs : List β} (i : Nat) {a : α} {b : β}, All2 R as bs → R a b → All2 R (as.set i a) (bs.set i b)
  | _, _, _, _, _, .nil, _ => .nil
  | _, _, 0, _, _, .cons _ t, k => .cons k t
  | _, _, i + 1, _, _, .cons h t, k => .cons h (set i t k)
theorem map_ {γ : Type w} {f : γ → α} {g : γ → β} (h : ∀ c, R (f c) (g c)) : ∀ cs : List γ, All2 R (cs.map f) (cs.map g)
  | [] => .nil
  | c :: cs => .cons (h c) (map_ h cs)
end All2

section
variable {K : Fg} {H H' : Hp}
theorem ex_rd {a : Addr} {u : HO} (e : Ex H H') (h : Rd H a u) : Rd H' a u := by
  rcases h with h | ⟨o, h⟩
  · exact Or.inl (e a _ h)
  · exact Or.inr ⟨o, e a _ h⟩
theorem ex_l {a : Addr} {xs : List V} (e : Ex H H') (h : SqL K H a xs) : SqL K H' a xs := by
  rcases h with h | h
  · exact Or.inl (ex_rd e h)
  · exact Or.inr h
theorem ex_t {a : Addr} {xs : List V} (e : Ex H H') (h : SqT K H a xs) : SqT K H' a xs := by
  rcases h with h | h
  · exact Or.inl (ex_rd e h)
  · exact Or.inr h
end

/-! an object that may be owned -/
class Ob (β : Type) [Den β] where
  ob : Fg → Hp → HO → β → Prop
  omonoD : ∀ {K : Fg} {H H' : Hp} {o : HO} {x : β}, ExD H H' → ob K H o x → ob K H' o x
  thaw : ∀ {K : Fg} {H : Hp} {p : Addr} {o : HO} {x : β}, H p = some o → ob K H o x → den K H (.ref p) x
open Ob (ob)
theorem Ob.omono {β : Type} [Den β] [Ob β] {K : Fg} {H H' : Hp} {o : HO} {x : β} (e : Ex H H') (h : ob K H o x) : ob K H' o x := Ob.omonoD e.d h

instance instList {α : Type} [Den α] : Den (List α) where
  den := fun K H v xs => ∃ a vs, v = .ref a ∧ SqL K H a vs ∧ All2 (den K H) vs xs ∧ xs.length ≤ sizeLine
  monoD := fun e ⟨a, vs, h1, h2, h3, h4⟩ => ⟨a, vs, h1, ed_l e h2, h3.imp fun _ _ h => Den.monoD e h, h4⟩
instance obList {α : Type} [Den α] : Ob (List α) where
  ob := fun K H o xs => ∃ vs, o = .lst vs ∧ All2 (den K H) vs xs ∧ xs.length ≤ sizeLine
  omonoD := fun e ⟨vs, h1, h2, h3⟩ => ⟨vs, h1, h2.imp fun _ _ h => Den.monoD e h, h3⟩
  thaw := fun hp ⟨vs, h1, h2, h3⟩ => ⟨_, vs, rfl, Or.inl (Or.inl (by rw [hp, h1])), h2, h3⟩

/-- tuples -/
structure P2 (α β : Type) where
  a : α
  b : β
  deriving DecidableEq, Repr, Inhabited
structure P3' (α β γ : Type) where
  a : α
  b : β
  c : γ
  deriving DecidableEq, Repr, Inhabited
structure P4 (α β γ δ : Type) where
  a : α
  b : β
  c : γ
  d : δ
  deriving DecidableEq, Repr, Inhabited
instance instP2 {α β : Type} [Den α] [Den β] : Den (P2 α β) where
  den := fun K H v x => ∃ p v1 v2, v = .ref p ∧ SqT K H p [v1, v2] ∧ den K H v1 x.a ∧ den K H v2 x.b
  monoD := fun e ⟨p, v1, v2, h0, h, h1, h2⟩ => ⟨p, v1, v2, h0, ed_t e h, Den.monoD e h1, Den.monoD e h2⟩
instance instP3 {α β γ : Type} [Den α] [Den β] [Den γ] : Den (P3' α β γ) where
  den := fun K H v x => ∃ p v1 v2 v3, v = .ref p ∧ SqT K H p [v1, v2, v3] ∧ den K H v1 x.a ∧ den K H v2 x.b ∧ den K H v3 x.c
  monoD := fun e ⟨p, v1, v2, v3, h0, h, h1, h2, h3⟩ => ⟨p, v1, v2, v3, h0, ed_t e h, Den.monoD e h1, Den.monoD e h2, Den.monoD e h3⟩
instance instP4 {α β γ δ : Type} [Den α] [Den β] [Den γ] [Den δ] : Den (P4 α β γ δ) where
  den := fun K H v x => ∃ p v1 v2 v3 v4, v = .ref p ∧ SqT K H p [v1, v2, v3, v4] ∧ den K H v1 x.a ∧ den K H v2 x.b ∧ den K H v3 x.c ∧ den K H v4 x.d
  monoD := fun e ⟨p, v1, v2, v3, v4, h0, h, h1, h2, h3, h4⟩ => ⟨p, v1, v2, v3, v4, h0, ed_t e h, Den.monoD e h1, Den.monoD e h2, Den.monoD e h3, Den.monoD e h4⟩
/-- one of two kinds -/
instance instSum {α β : Type} [Den α] [Den β] : Den (α ⊕ β) where
  den := fun K H v x => match x with
    | .inl a => den K H v a
    | .inr b => den K H v b
  monoD := fun {K H H' v x} e h => match x, h with
    | .inl a, h => Den.monoD (α := α) e h
    | .inr b, h => Den.monoD (α := β) e h
/-- a value or None -/
instance instOpt {α : Type} [Den α] : Den (Option α) where
  den := fun K H v x => match x with
    | some a => v ≠ .non ∧ den K H v a
    | none => v = .non
  monoD := fun {K H H' v x} e h => match x, h with
    | some a, h => ⟨h.1, Den.monoD (α := α) e h.2⟩
    | none, h => h

/-! results -/
structure Exn where
  cls : Str
  fs : List (Str × V)
inductive Err where
  | stuck
  | exc (x : Exn)
abbrev M := Except Err
abbrev stk {α : Type} : M α := .error .stuck
/-- how a block ends: on (n), by return (r), by break or continue (l) -/
inductive Fl (S L R : Type) where
  | nx (s : S) | rt (r : R) | bk (l : L) | ct (l : L)
def sq {S S' L R : Type} (m : M (Fl S L R)) (k : S → M (Fl S' L R)) : M (Fl S' L R) := m >>= fun
  | .nx s => k s
  | .rt r => .ok (.rt r)
  | .bk l => .ok (.bk l)
  | .ct l => .ok (.ct l)
/-- a for loop over the items -/
def loopM {S L R α : Type} (f : S → α → M (Fl S S R)) : List α → S → M (Fl S L R)
  | [], s => .ok (.nx s)
  | x :: xs, s => f s x >>= fun
    | .nx s' => loopM f xs s'
    | .ct s' => loopM f xs s'
    | .bk s' => .ok (.nx s')
    | .rt r => .ok (.rt r)
/-- a list comprehension -/
def mapE {α β : Type} (f : α → M β) : List α → M (List β)
  | [] => .ok []
  | x :: xs => f x >>= fun y => mapE f xs >>= fun ys => .ok (y :: ys)
def mapF {α β : Type} (c : α → M Bool) (f : α → M β) : List α → M (List β)
  | [] => .ok []
  | x :: xs => c x >>= fun b => if b = true then (f x >>= fun y => mapF c f xs >>= fun ys => .ok (y :: ys)) else mapF c f xs
def chk (b : Bool) : M Unit := if b = true then .ok () else stk

theorem ok_bind {α β : Type} (x : α) (f : α → M β) : ((Except.ok x : M α) >>= f) = f x := rfl
theorem er_bind {α β : Type} (e : Err) (f : α → M β) : ((Except.error e : M α) >>= f) = Except.error e := rfl

/-! what stands in a slot -/
inductive Slot : Type 1
  | un
  | va {α : Type} [Den α] (x : α)
  | ow {β : Type} [Den β] [Ob β] (x : β)
abbrev Ctx := List Slot
abbrev St := L2.St
def owns : Ctx → St → List Addr
  | (@Slot.ow _ _ _ _) :: Γ, some (.ref p) :: σ => p :: owns Γ σ
  | _ :: Γ, _ :: σ => owns Γ σ
  | _, _ => []
def SlotOk (K : Fg) (H : Hp) (O : List Addr) : Slot → Option V → Prop
  | .un, _ => True
  | @Slot.va _ _ x, ov => ∃ v, ov = some v ∧ den K (hide O H) v x
  | @Slot.ow _ _ _ x, ov => ∃ p o, ov = some (.ref p) ∧ H p = some o ∧ ob K (hide O H) o x
/-- the slots hold what Γ says; Ox: what the callers own; H0: the heap at the def's entry -/
structure Env (K : Fg) (H0 : Hp) (Ox : List Addr) (Γ : Ctx) (σ : St) (H : Hp) : Prop where
  ok : All2 (SlotOk K H (Ox ++ owns Γ σ)) Γ σ
  nd : (owns Γ σ).Nodup
  nw : ∀ p ∈ owns Γ σ, H0 p = none
  ox : ∀ p ∈ Ox, H p ≠ none
  dj : ∀ p ∈ Ox, p ∉ owns Γ σ
  ex : Ex H0 H
end P3

set_option Elab.async false
set_option linter.all false
set_option maxRecDepth 100000
set_option maxHeartbeats 4000000
namespace P3
open PySem PySem.Spec PyProof.Rows L2
open Den (den)
open Ob (ob)

/-! slots -/
section
variable {K : Fg} {H H' H0 : Hp} {O O' Ox : List Addr} {Γ Γ' : Ctx} {σ : L2.St}
theorem SlotOk.go {s : Slot} {ov : Option V} (e : Ex (hide O H) (hide O' H')) (h : SlotOk K H O s ov) (ho : ∀ p o, ov = some (.ref p) → H p = some o → H' p = some o) : SlotOk K H' O' s ov := by
  cases s with
  | un => trivial
  | va x => obtain ⟨v, h1, h2⟩ := h; exact ⟨v, h1, Den.mono e h2⟩
  | ow x => obtain ⟨p, o, h1, h2, h3⟩ := h; exact ⟨p, o, h1, ho p o h1 h2, Ob.omono e h3⟩
theorem ex_ne {H H' : Hp} {p : Addr} (e : Ex H H') (h : H p ≠ none) : H' p ≠ none := fun z => by
  cases q : H p with
  | none => exact h q
  | some o => rw [e p o q] at z; cases z
theorem Env.len (h : Env K H0 Ox Γ σ H) : Γ.length = σ.length := h.ok.len
theorem Env.mono (h : Env K H0 Ox Γ σ H) (e : Ex H H') : Env K H0 Ox Γ σ H' :=
  ⟨h.ok.imp fun _ _ q => q.go (hide_ex e) fun p o _ z => e p o z, h.nd, h.nw, fun p hp => ex_ne e (h.ox p hp), h.dj, h.ex.trans e⟩
theorem owns_at : ∀ {Γ : Ctx} {σ : L2.St} {H : Hp} {O : List Addr}, All2 (SlotOk K H O) Γ σ → ∀ p ∈ owns Γ σ, H p ≠ none
  | [], _, _, _, .nil, p, hp => by simp [owns] at hp
  | s :: Γ, ov :: σ, H, O, .cons h t, p, hp => by
    cases s with
    | un => exact owns_at t p (by simpa [owns] using hp)
    | va x => exact owns_at t p (by simpa [owns] using hp)
    | ow x =>
      obtain ⟨q, o, h1, h2, h3⟩ := h
      subst h1
      have hp' : p ∈ q :: owns Γ σ := hp
      rcases List.mem_cons.mp hp' with rfl | hp'
      · rw [h2]; exact fun z => nomatch z
      · exact owns_at t p hp'
theorem Env.own (h : Env K H0 Ox Γ σ H) : ∀ p ∈ Ox ++ owns Γ σ, H p ≠ none := fun p hp => by
  rcases List.mem_append.mp hp with hp | hp
  · exact h.ox p hp
  · exact owns_at h.ok p hp
theorem Env.get (h : Env K H0 Ox Γ σ H) {i : Nat} {α : Type} [Den α] {x : α} (hi : Γ[i]? = some (.va x)) : ∃ v, σ[i]? = some (some v) ∧ den K (hide (Ox ++ owns Γ σ) H) v x := by
  obtain ⟨ov, h1, v, h2, h3⟩ := h.ok.at_ hi
  exact ⟨v, by rw [h1, h2], h3⟩
theorem getOw : ∀ {Γ : Ctx} {σ : L2.St} {H : Hp} {O : List Addr} {i : Nat} {β : Type} [Den β] [Ob β] {x : β}, All2 (SlotOk K H O) Γ σ → Γ[i]? = some (.ow x) → ∃ p o, σ[i]? = some (some (.ref p)) ∧ p ∈ owns Γ σ ∧ H p = some o ∧ ob K (hide O H) o x
  | [], _, _, _, _, _, _, _, _, .nil, hi => by simp at hi
  | s :: Γ, ov :: σ, H, O, 0, β, _, _, x, .cons h t, hi => by
    have hs : s = .ow x := by simpa using hi
    subst hs
    obtain ⟨p, o, h1, h2, h3⟩ := h
    subst h1
    exact ⟨p, o, rfl, List.mem_cons_self, h2, h3⟩
  | s :: Γ, ov :: σ, H, O, i + 1, β, _, _, x, .cons h t, hi => by
    obtain ⟨p, o, h1, h2, h3⟩ := getOw (i := i) t (by simpa using hi)
    refine ⟨p, o, by simpa using h1, ?_, h3⟩
    cases s with
    | un => simpa [owns] using h2
    | va x => simpa [owns] using h2
    | ow y =>
      obtain ⟨q, o', e1, _⟩ := h
      subst e1
      exact List.mem_cons_of_mem _ h2
theorem Env.getOw (h : Env K H0 Ox Γ σ H) {i : Nat} {β : Type} [Den β] [Ob β] {x : β} (hi : Γ[i]? = some (.ow x)) : ∃ p o, σ[i]? = some (some (.ref p)) ∧ p ∈ owns Γ σ ∧ H p = some o ∧ ob K (hide (Ox ++ owns Γ σ) H) o x := P3.getOw h.ok hi

theorem owns_tail {a : Slot} {b : Option V} {Γ : Ctx} {σ : L2.St} : (owns Γ σ).Sublist (owns (a :: Γ) (b :: σ)) := by
  cases a with
  | un => simp [owns]
  | va x => simp [owns]
  | ow x =>
    cases b with
    | none => simp [owns]
    | some v => cases v <;> simp [owns]
/-- one slot changed to hold no owned thing -/
theorem owns_setv {s : Slot} (hs : ∀ ov, owns [s] [ov] = []) : ∀ {Γ : Ctx} {σ : L2.St} {i : Nat} {ov : Option V}, Γ.length = σ.length → (owns (Γ.set i s) (σ.set i ov)).Sublist (owns Γ σ)
  | [], σ, i, ov, h => by cases σ with
    | nil => simp [owns]
    | cons _ _ => simp at h
  | a :: Γ, [], _, _, h => by simp at h
  | a :: Γ, b :: σ, 0, ov, h => by
    have e : owns (s :: Γ) (ov :: σ) = owns Γ σ := by
      cases s with
      | un => simp [owns]
      | va x => simp [owns]
      | ow x => have := hs (some (.ref 0)); simp [owns] at this
    show (owns (s :: Γ) (ov :: σ)).Sublist _
    rw [e]
    exact owns_tail
  | a :: Γ, b :: σ, i + 1, ov, h => by
    have ih := owns_setv hs (Γ := Γ) (σ := σ) (i := i) (ov := ov) (by simpa using h)
    show (owns (a :: Γ.set i s) (b :: σ.set i ov)).Sublist (owns (a :: Γ) (b :: σ))
    cases a with
    | un => simpa [owns] using ih
    | va x => simpa [owns] using ih
    | ow x =>
      cases b with
      | none => simpa [owns] using ih
      | some v => cases v <;> first | (simpa [owns] using ih) | (simp only [owns]; exact ih.cons_cons _)
theorem All2.set2 {K : Fg} {H : Hp} {O : List Addr} {s : Slot} {ov : Option V} (h : SlotOk K H O s ov) {Γ : Ctx} {σ : L2.St} (i : Nat) (a : All2 (SlotOk K H O) Γ σ) : All2 (SlotOk K H O) (Γ.set i s) (σ.set i ov) := All2.set i a h
theorem Env.set (h : Env K H0 Ox Γ σ H) {i : Nat} {α : Type} [Den α] {x : α} {v : V} (hv : den K (hide (Ox ++ owns Γ σ) H) v x) : Env K H0 Ox (Γ.set i (.va x)) (σ.set i (some v)) H := by
  have sub := owns_setv (s := .va x) (fun ov => by simp [owns]) (i := i) (ov := some v) h.len
  refine ⟨?_, h.nd.sublist sub, fun p hp => h.nw p (sub.subset hp), h.ox, fun p hp z => h.dj p hp (sub.subset z), h.ex⟩
  have e : Ex (hide (Ox ++ owns Γ σ) H) (hide (Ox ++ owns (Γ.set i (.va x)) (σ.set i (some v))) H) := hide_sub fun a ha => by
    rcases List.mem_append.mp ha with z | z
    · exact List.mem_append_left _ z
    · exact List.mem_append_right _ (sub.subset z)
  have k : SlotOk K H (Ox ++ owns Γ σ) (.va x) (some v) := ⟨v, rfl, hv⟩
  exact (All2.set i h.ok k).imp fun _ _ q => q.go e fun _ _ _ z => z
theorem Env.forget (h : Env K H0 Ox Γ σ H) {i : Nat} {ov : Option V} : Env K H0 Ox (Γ.set i .un) (σ.set i ov) H := by
  have sub := owns_setv (s := .un) (fun ov => by simp [owns]) (i := i) (ov := ov) h.len
  refine ⟨?_, h.nd.sublist sub, fun p hp => h.nw p (sub.subset hp), h.ox, fun p hp z => h.dj p hp (sub.subset z), h.ex⟩
  have e : Ex (hide (Ox ++ owns Γ σ) H) (hide (Ox ++ owns (Γ.set i .un) (σ.set i ov)) H) := hide_sub fun a ha => by
    rcases List.mem_append.mp ha with z | z
    · exact List.mem_append_left _ z
    · exact List.mem_append_right _ (sub.subset z)
  have k : SlotOk K H (Ox ++ owns Γ σ) .un ov := trivial
  exact (All2.set i h.ok k).imp fun _ _ q => q.go e fun _ _ _ z => z
theorem owns_seto {β : Type} [Den β] [Ob β] {y : β} {q : Addr} : ∀ {Γ : Ctx} {σ : L2.St} {i : Nat}, Γ.length = σ.length → q ∉ owns Γ σ → (owns Γ σ).Nodup → (∀ p ∈ owns (Γ.set i (.ow y)) (σ.set i (some (.ref q))), p = q ∨ p ∈ owns Γ σ) ∧ (owns (Γ.set i (.ow y)) (σ.set i (some (.ref q)))).Nodup
  | [], σ, i, h, _, _ => by cases σ with
    | nil => simp [owns]
    | cons _ _ => simp at h
  | a :: Γ, [], _, h, _, _ => by simp at h
  | a :: Γ, b :: σ, 0, h, hq, nd => by
    have st : (owns Γ σ).Sublist (owns (a :: Γ) (b :: σ)) := by
      cases a with
      | un => simp [owns]
      | va x => simp [owns]
      | ow x =>
        cases b with
        | none => simp [owns]
        | some v => cases v <;> simp [owns]
    refine ⟨fun p hp => ?_, ?_⟩
    · have hp' : p ∈ q :: owns Γ σ := hp
      rcases List.mem_cons.mp hp' with e | e
      · exact .inl e
      · exact .inr (st.subset e)
    · show (q :: owns Γ σ).Nodup
      exact List.nodup_cons.mpr ⟨fun z => hq (st.subset z), nd.sublist st⟩
  | a :: Γ, b :: σ, i + 1, h, hq, nd => by
    have st : (owns Γ σ).Sublist (owns (a :: Γ) (b :: σ)) := by
      cases a with
      | un => simp [owns]
      | va x => simp [owns]
      | ow x =>
        cases b with
        | none => simp [owns]
        | some v => cases v <;> simp [owns]
    obtain ⟨h1, h2⟩ := owns_seto (y := y) (q := q) (Γ := Γ) (σ := σ) (i := i) (by simpa using h) (fun z => hq (st.subset z)) (nd.sublist st)
    show (∀ p ∈ owns (a :: Γ.set i (.ow y)) (b :: σ.set i (some (.ref q))), _) ∧ (owns (a :: Γ.set i (.ow y)) (b :: σ.set i (some (.ref q)))).Nodup
    have other : (∀ p ∈ owns (Γ.set i (.ow y)) (σ.set i (some (.ref q))), p = q ∨ p ∈ owns (a :: Γ) (b :: σ)) := fun p hp => (h1 p hp).imp id fun z => st.subset z
    cases a with
    | un => exact ⟨by simpa only [owns] using h1, by simpa only [owns] using h2⟩
    | va x => exact ⟨by simpa only [owns] using h1, by simpa only [owns] using h2⟩
    | ow x =>
      cases b with
      | none => exact ⟨by simpa only [owns] using h1, by simpa only [owns] using h2⟩
      | some v =>
        cases v with
        | ref r =>
          have nd' : (r :: owns Γ σ).Nodup := nd
          have hq' : q ∉ r :: owns Γ σ := hq
          refine ⟨fun p hp => ?_, ?_⟩
          · have hp' : p ∈ r :: owns (Γ.set i (.ow y)) (σ.set i (some (.ref q))) := hp
            rcases List.mem_cons.mp hp' with e | e
            · subst e; exact .inr (List.mem_cons_self (a := p) (l := owns Γ σ))
            · exact other p e
          · show (r :: owns (Γ.set i (.ow y)) (σ.set i (some (.ref q)))).Nodup
            refine List.nodup_cons.mpr ⟨fun z => ?_, h2⟩
            rcases h1 r z with e | e
            · exact hq' (by rw [e]; exact List.mem_cons_self)
            · exact (List.nodup_cons.mp nd').1 e
        | _ => exact ⟨by simpa only [owns] using h1, by simpa only [owns] using h2⟩
/-- a new object is held by slot i -/
theorem Env.hold (h : Env K H0 Ox Γ σ H) (e : Ex H H') {i : Nat} {β : Type} [Den β] [Ob β] {y : β} {q : Addr} {o : HO} (hn : H q = none) (hq : H' q = some o) (hy : ob K (hide (q :: (Ox ++ owns Γ σ)) H') o y) : Env K H0 Ox (Γ.set i (.ow y)) (σ.set i (some (.ref q))) H' := by
  have nq : q ∉ owns Γ σ := fun z => owns_at h.ok q z hn
  have nx : q ∉ Ox := fun z => h.own q (List.mem_append_left _ z) hn
  obtain ⟨h1, h2⟩ := owns_seto (y := y) (q := q) (i := i) h.len nq h.nd
  have e1 : Ex (hide (Ox ++ owns Γ σ) H) (hide (Ox ++ owns (Γ.set i (.ow y)) (σ.set i (some (.ref q)))) H') := fun a u ha => by
    obtain ⟨m, z⟩ := hide_some ha
    refine (hide_out fun w => ?_).trans (e a u z)
    rcases List.mem_append.mp w with w | w
    · exact m (List.mem_append_left _ w)
    · rcases h1 a w with r | r
      · rw [r, hn] at z; cases z
      · exact m (List.mem_append_right _ r)
  refine ⟨?_, h2, fun p hp => ?_, fun p hp => ex_ne e (h.ox p hp), fun p hp z => ?_, h.ex.trans e⟩
  · have base : All2 (SlotOk K H' (Ox ++ owns (Γ.set i (.ow y)) (σ.set i (some (.ref q))))) Γ σ := h.ok.imp fun _ _ z => z.go e1 fun p o _ w => e p o w
    refine All2.set i base ⟨q, o, rfl, hq, Ob.omono (hide_sub fun a ha => ?_) hy⟩
    rcases List.mem_append.mp ha with w | w
    · exact List.mem_cons_of_mem _ (List.mem_append_left _ w)
    · rcases h1 a w with r | r
      · rw [r]; exact List.mem_cons_self
      · exact List.mem_cons_of_mem _ (List.mem_append_right _ r)
  · rcases h1 p hp with r | r
    · rw [r]; exact h.ex.free hn
    · exact h.nw p r
  · rcases h1 p z with r | r
    · exact nx (by rw [← r]; exact hp)
    · exact h.dj p hp r
theorem owns_same {β β' : Type} [Den β] [Ob β] [Den β'] [Ob β'] {y : β} {y' : β'} : ∀ {Γ : Ctx} {σ : L2.St} {i : Nat}, Γ[i]? = some (.ow y) → owns (Γ.set i (.ow y')) σ = owns Γ σ
  | [], σ, i, h => by simp at h
  | a :: Γ, [], i, h => by
    cases i <;> cases a <;> simp [owns]
  | a :: Γ, b :: σ, 0, h => by
    have e : a = .ow y := by simpa using h
    subst e
    show owns (.ow y' :: Γ) (b :: σ) = owns (.ow y :: Γ) (b :: σ)
    cases b with
    | none => simp [owns]
    | some v => cases v <;> simp [owns]
  | a :: Γ, b :: σ, i + 1, h => by
    have ih := owns_same (y := y) (y' := y') (Γ := Γ) (σ := σ) (i := i) (by simpa using h)
    show owns (a :: Γ.set i (.ow y')) (b :: σ) = owns (a :: Γ) (b :: σ)
    cases a with
    | un => simpa [owns] using ih
    | va x => simpa [owns] using ih
    | ow x =>
      cases b with
      | none => simpa [owns] using ih
      | some v => cases v <;> simp [owns, ih]
theorem write_all {β β' : Type} [Den β] [Ob β] [Den β'] [Ob β'] {y : β} {y' : β'} {p : Addr} {o' : HO} : ∀ {Γ : Ctx} {σ : L2.St} {H : Hp} {O : List Addr} {i : Nat}, All2 (SlotOk K H O) Γ σ → (owns Γ σ).Nodup → p ∈ O → Γ[i]? = some (.ow y) → σ[i]? = some (some (.ref p)) → ob K (hide O H) o' y' →
    All2 (SlotOk K (upd H p o') O) (Γ.set i (.ow y')) σ
  | [], _, _, _, _, .nil, _, _, h, _, _ => by simp at h
  | s :: Γ, ov :: σ, H, O, 0, .cons h t, nd, hp, hi, hs, ho => by
    have e1 : s = .ow y := by simpa using hi
    have e2 : ov = some (.ref p) := by simpa using hs
    subst e1 e2
    have nd' : (p :: owns Γ σ).Nodup := nd
    have eq : hide O (upd H p o') = hide O H := hide_upd hp
    refine .cons ⟨p, o', rfl, upd_same, by rw [eq]; exact ho⟩ ?_
    -- the others
    have rest : ∀ {Γ : Ctx} {σ : L2.St}, All2 (SlotOk K H O) Γ σ → p ∉ owns Γ σ → All2 (SlotOk K (upd H p o') O) Γ σ := by
      intro Γ σ a
      induction a with
      | nil => intro _; exact .nil
      | @cons s ov Γ σ h t ih =>
        intro hn
        cases s with
        | un => exact .cons trivial (ih (by simpa [owns] using hn))
        | va x => exact .cons (by obtain ⟨v, q1, q2⟩ := h; exact ⟨v, q1, by rw [eq]; exact q2⟩) (ih (by simpa [owns] using hn))
        | ow x =>
          obtain ⟨q, o, q1, q2, q3⟩ := h
          subst q1
          have hn' : p ∉ q :: owns Γ σ := hn
          refine .cons ⟨q, o, rfl, ?_, by rw [eq]; exact q3⟩ (ih fun z => hn' (List.mem_cons_of_mem _ z))
          rw [upd_ne fun z => hn' (by rw [z]; exact List.mem_cons_self)]
          exact q2
    exact rest t (List.nodup_cons.mp nd').1
  | s :: Γ, ov :: σ, H, O, i + 1, .cons h t, nd, hp, hi, hs, ho => by
    have hi' : Γ[i]? = some (.ow y) := by simpa using hi
    have hs' : σ[i]? = some (some (.ref p)) := by simpa using hs
    have eq : hide O (upd H p o') = hide O H := hide_upd hp
    have st : (owns Γ σ).Sublist (owns (s :: Γ) (ov :: σ)) := by
      cases s with
      | un => simp [owns]
      | va x => simp [owns]
      | ow x =>
        cases ov with
        | none => simp [owns]
        | some v => cases v <;> simp [owns]
    refine .cons ?_ (write_all t (nd.sublist st) hp hi' hs' ho)
    cases s with
    | un => trivial
    | va x => obtain ⟨v, q1, q2⟩ := h; exact ⟨v, q1, by rw [eq]; exact q2⟩
    | ow x =>
      obtain ⟨q, o, q1, q2, q3⟩ := h
      subst q1
      have nd' : (q :: owns Γ σ).Nodup := nd
      obtain ⟨p2, o2, w1, w2, _⟩ := P3.getOw t hi'
      rw [hs'] at w1
      have w3 : p = p2 := V.ref.inj (Option.some.inj (Option.some.inj w1))
      refine ⟨q, o, rfl, ?_, by rw [eq]; exact q3⟩
      rw [upd_ne fun z => (List.nodup_cons.mp nd').1 (by rw [z, w3]; exact w2)]
      exact q2
/-- what slot i owns is changed -/
theorem Env.write (h : Env K H0 Ox Γ σ H) {i : Nat} {β β' : Type} [Den β] [Ob β] [Den β'] [Ob β'] {y : β} {y' : β'} {p : Addr} {o' : HO} (hi : Γ[i]? = some (.ow y)) (hp : p ∈ owns Γ σ) (hs : σ[i]? = some (some (.ref p))) (ho : ob K (hide (Ox ++ owns Γ σ) H) o' y') : Env K H0 Ox (Γ.set i (.ow y')) σ (upd H p o') := by
  have e := owns_same (y' := y') (σ := σ) hi
  refine ⟨?_, by rw [e]; exact h.nd, by rw [e]; exact h.nw, fun q hq z => ?_, by rw [e]; exact h.dj, fun a o z => ?_⟩
  · rw [e]
    exact write_all h.ok h.nd (List.mem_append_right _ hp) hi hs ho
  · have := h.ox q hq
    rw [upd_ne fun w => h.dj q hq (by rw [w]; exact hp)] at z
    exact this z
  · have := h.nw p hp
    rw [upd_ne fun w => by rw [w, this] at z; cases z]
    exact h.ex a o z

/-! less known -/
inductive Wk1 : Slot → Slot → Prop
  | same {s : Slot} : Wk1 s s
  | un {s : Slot} : Wk1 s .un
  | fz {β : Type} [Den β] [Ob β] {y : β} : Wk1 (.ow y) (.va y)
abbrev Wk : Ctx → Ctx → Prop := All2 Wk1
theorem Wk.sub : ∀ {Γ Γ' : Ctx} {σ : L2.St}, Wk Γ Γ' → Γ.length = σ.length → (owns Γ' σ).Sublist (owns Γ σ)
  | _, _, σ, .nil, h => by cases σ <;> simp [owns]
  | _, _, [], .cons _ _, h => by simp at h
  | s :: Γ, s' :: Γ', ov :: σ, .cons a t, h => by
    have ih := Wk.sub t (σ := σ) (by simpa using h)
    cases a with
    | same =>
      cases s with
      | un => simpa [owns] using ih
      | va x => simpa [owns] using ih
      | ow x =>
        cases ov with
        | none => simpa [owns] using ih
        | some v => cases v <;> first | (simpa [owns] using ih) | (simp only [owns]; exact ih.cons_cons _)
    | un =>
      show (owns Γ' σ).Sublist _
      cases s with
      | un => simpa [owns] using ih
      | va x => simpa [owns] using ih
      | ow x =>
        cases ov with
        | none => simpa [owns] using ih
        | some v => cases v <;> first | (simpa [owns] using ih) | (simp only [owns]; exact ih.cons _)
    | fz =>
      show (owns Γ' σ).Sublist _
      cases ov with
      | none => simpa [owns] using ih
      | some v => cases v <;> first | (simpa [owns] using ih) | (simp only [owns]; exact ih.cons _)
theorem Wk.all : ∀ {Γ Γ' : Ctx} {σ : L2.St} {H : Hp} {O O' : List Addr}, Wk Γ Γ' → All2 (SlotOk K H O) Γ σ → (owns Γ σ).Nodup → (∀ a ∈ O', a ∈ O) → (∀ p ∈ owns Γ σ, p ∉ owns Γ' σ → p ∉ O') → All2 (SlotOk K H O') Γ' σ
  | _, _, _, _, _, _, .nil, .nil, _, _, _ => .nil
  | s :: Γ, s' :: Γ', ov :: σ, H, O, O', .cons a t, .cons h ts, nd, hs, hp => by
    have len := ts.len
    have sub := Wk.sub t len
    have st : (owns Γ σ).Sublist (owns (s :: Γ) (ov :: σ)) := by
      cases s with
      | un => simp [owns]
      | va x => simp [owns]
      | ow x =>
        cases ov with
        | none => simp [owns]
        | some v => cases v <;> simp [owns]
    have tail : ∀ p ∈ owns Γ σ, p ∉ owns Γ' σ → p ∉ O' := fun p h1 h2 => by
      refine hp p (st.subset h1) fun z => h2 ?_
      cases s' with
      | un => simpa [owns] using z
      | va x => simpa [owns] using z
      | ow x =>
        cases a with
        | same =>
          obtain ⟨q, o, e, _⟩ := h
          subst e
          have z' : p ∈ q :: owns Γ' σ := z
          have nd' : (q :: owns Γ σ).Nodup := nd
          rcases List.mem_cons.mp z' with e | e
          · exact absurd (by rw [← e]; exact h1) (List.nodup_cons.mp nd').1
          · exact e
    refine .cons ?_ (Wk.all t ts (nd.sublist st) hs tail)
    cases a with
    | same => exact h.go (hide_sub hs) fun _ _ _ z => z
    | un => trivial
    | @fz β _ _ y =>
      obtain ⟨q, o, e, h2, h3⟩ := h
      subst e
      have nd' : (q :: owns Γ σ).Nodup := nd
      have nq : q ∉ owns Γ' σ := fun z => (List.nodup_cons.mp nd').1 (sub.subset z)
      have nO : q ∉ O' := hp q List.mem_cons_self (by simpa [owns] using nq)
      exact ⟨.ref q, rfl, Ob.thaw (o := o) (by rw [hide_out nO]; exact h2) (Ob.omono (hide_sub hs) h3)⟩
theorem Env.wk (h : Env K H0 Ox Γ σ H) (wk : Wk Γ Γ') : Env K H0 Ox Γ' σ H := by
  have sub := Wk.sub wk h.len
  refine ⟨Wk.all wk h.ok h.nd (fun a ha => ?_) (fun p h1 h2 h3 => ?_), h.nd.sublist sub, fun p hp => h.nw p (sub.subset hp), h.ox, fun p hp z => h.dj p hp (sub.subset z), h.ex⟩
  · rcases List.mem_append.mp ha with z | z
    · exact List.mem_append_left _ z
    · exact List.mem_append_right _ (sub.subset z)
  · rcases List.mem_append.mp h3 with z | z
    · exact h.dj p z h1
    · exact h2 z
theorem Wk.refl : ∀ Γ : Ctx, Wk Γ Γ
  | [] => .nil
  | _ :: Γ => .cons .same (Wk.refl Γ)
end
end P3

set_option Elab.async false
set_option linter.all false
set_option maxRecDepth 100000
set_option maxHeartbeats 4000000
namespace P3
open PySem PySem.Spec PyProof.Rows L2
open Den (den)
open Ob (ob)

/-! the weakest readings -/
def we (X : Cx) (e : Expr) : TE := fun σ H Q => ∀ pins s, Inv X pins σ H s → wpAny (model X.prog X.w) X.A (eval e X.env) (EP X pins σ Q) X.xe s
def wt (X : Cx) (e : Expr) : TT := fun σ H Q => ∀ pins s, Inv X pins σ H s → wpAny (model X.prog X.w) X.A (isTrue e X.env (eval e X.env)) (TP X pins σ Q) X.xe s
def ww (X : Cx) (e : Expr) : TT := fun σ H Q => ∀ wh pins s, Inv X pins σ H s → wpAny (model X.prog X.w) X.A (isTrue e X.env wh) (TP X pins σ Q) X.xe s
def wa (X : Cx) (es : List Expr) : TA := fun σ H Q => ∀ pos pins s, Inv X pins σ H s → wpAny (model X.prog X.w) X.A (spliced (backTo pos (starEach es X.env))) (AP X pins σ Q) X.xe s
def wst (X : Cx) (st : Stmt) : TS := fun D σ H => ∀ pins s, Inv X pins σ H s → wpAny (model X.prog X.w) X.A (exec st X.env) (SP X pins D) X.xe s
def wss (X : Cx) (st : List Stmt) : TS := fun D σ H => ∀ pins s, Inv X pins σ H s → wpAny (model X.prog X.w) X.A (execs st X.env) (SP X pins D) X.xe s
section
variable {X : Cx} {e : Expr} {es : List Expr} {st : Stmt} {sts : List Stmt}
theorem pe_w : PE X e (we X e) := ⟨fun pins s _ _ _ I h => h pins s I⟩
theorem pt_w : PT X e (wt X e) := ⟨fun pins s _ _ _ I h => h pins s I⟩
theorem pw_w : PW X e (ww X e) := ⟨fun wh pins s _ _ _ I h => h wh pins s I⟩
theorem pa_w : PA X es (wa X es) := ⟨fun pos pins s _ _ _ I h => h pos pins s I⟩
theorem ps_w : PS X st (wst X st) := ⟨fun pins s _ _ _ I h => h pins s I⟩
theorem pss_w : PSs X sts (wss X sts) := ⟨fun pins s _ _ _ I h => h pins s I⟩
theorem PEw {t : TE} (h : PE X e t) {σ : L2.St} {H : Hp} {Q : VK} (q : t σ H Q) : we X e σ H Q := fun pins s I => h.run pins s σ H Q I q
theorem PTw' {t : TT} (h : PT X e t) {σ : L2.St} {H : Hp} {Q : Bool → Hp → Prop} (q : t σ H Q) : wt X e σ H Q := fun pins s I => h.run pins s σ H Q I q
theorem PWw {t : TT} (h : PW X e t) {σ : L2.St} {H : Hp} {Q : Bool → Hp → Prop} (q : t σ H Q) : ww X e σ H Q := fun wh pins s I => h.run wh pins s σ H Q I q
theorem PAw {t : TA} (h : PA X es t) {σ : L2.St} {H : Hp} {Q : List V → Hp → Prop} (q : t σ H Q) : wa X es σ H Q := fun pos pins s I => h.run pos pins s σ H Q I q
theorem PSw {t : TS} (h : PS X st t) {σ : L2.St} {H : Hp} {D : Ends} (q : t D σ H) : wst X st D σ H := fun pins s I => h.run pins s σ H D I q
theorem PSsw {t : TS} (h : PSs X sts t) {σ : L2.St} {H : Hp} {D : Ends} (q : t D σ H) : wss X sts D σ H := fun pins s I => h.run pins s σ H D I q
end

/-! the context's facts -/
structure Ct0 (X : Cx) (N : List Str) (sc : Scope) (fb : Str → Bool) (W : WX) : Prop where
  n : X.N = N
  s : X.env.scope = sc
  nd : N.Nodup
  tk : Takes X W
  fn : ∀ x, fb x = true → X.fn x = true
  un : X.A.units + 64 < cLine
structure Ct (X : Cx) (N : List Str) (sc : Scope) (fb : Str → Bool) (W : WX) : Prop extends Ct0 X N sc fb W where
  c : X.calm = true
instance {X : Cx} {N : List Str} {sc : Scope} {fb : Str → Bool} {W : WX} : CoeOut (Ct X N sc fb W) (Ct0 X N sc fb W) := ⟨fun C => C.toCt0⟩

/-- an exception as it stands -/
def XDen (mg : Str → Option Value) (H0 : Hp) (x : Exn) (c : Value) (d : Option Addr) (H : Hp) : Prop := (∃ C : Addr, c = .ref C ∧ mg x.cls = some (.ref C)) ∧ ∃ D, d = some D ∧ H0 D = none ∧ H D = some (.xd x.fs)
theorem XDen.anti {mg : Str → Option Value} {H0 H0' H : Hp} {x : Exn} {c : Value} {d : Option Addr} (e : Ex H0 H0') (h : XDen mg H0' x c d H) : XDen mg H0 x c d H :=
  ⟨h.1, h.2.elim fun D q => ⟨D, q.1, e.free q.2.1, q.2.2⟩⟩
def PoX {α : Type} (mg : Str → Option Value) (H : Hp) (W : Value → Option Addr → Hp → Prop) (good : α → Prop) : M α → Prop
  | .ok x => good x
  | .error (.exc x) => ∀ c d H2, Ex H H2 → XDen mg H x c d H2 → W c d H2
  | .error .stuck => False
theorem PoX.imp {α β : Type} {mg : Str → Option Value} {H H' : Hp} {W : Value → Option Addr → Hp → Prop} {g : α → Prop} {g' : α → Prop} {m : M α} (e : Ex H H') (k : ∀ x, m = .ok x → g x → g' x) (h : PoX mg H W g m) : PoX mg H' W g' m := by
  cases m with
  | ok x => exact k x rfl h
  | error er =>
    cases er with
    | stuck => exact h
    | exc x => exact fun c d H2 z hd => h c d H2 (e.trans z) (hd.anti e)
/-- a value is wanted | a new object -/
def PoE {α : Type} [Den α] (K : Fg) (mg : Str → Option Value) (O : List Addr) (H : Hp) (W : Value → Option Addr → Hp → Prop) (Q : VK) : M α → Prop :=
  PoX mg H W fun x => ∀ v H2, Ex H H2 → den K (hide O H2) v x → Q v H2
def PoN {β : Type} [Den β] [Ob β] (K : Fg) (mg : Str → Option Value) (O : List Addr) (H : Hp) (W : Value → Option Addr → Hp → Prop) (Q : VK) : M β → Prop :=
  PoX mg H W fun x => ∀ q o H2, Ex H H2 → H q = none → H2 q = some o → ob K (hide (q :: O) H2) o x → Q (.ref q) H2
section
variable {K : Fg} {mg : Str → Option Value} {O : List Addr} {H H' : Hp} {W : Value → Option Addr → Hp → Prop} {Q : VK}
theorem PoE.mono {α : Type} [Den α] {m : M α} (e : Ex H H') (h : PoE K mg O H W Q m) : PoE K mg O H' W Q m :=
  PoX.imp (β := α) e (fun _ _ g v H2 z => g v H2 (e.trans z)) h
theorem PoN.mono {β : Type} [Den β] [Ob β] {m : M β} (e : Ex H H') (h : PoN K mg O H W Q m) : PoN K mg O H' W Q m :=
  PoX.imp (β := β) e (fun _ _ g q o H2 z hn => g q o H2 (e.trans z) (e.free hn)) h
end

/-! expressions -/
structure EV {α : Type} [Den α] (X : Cx) (W : WX) (Γ : Ctx) (e : Expr) (m : M α) : Prop where
  run : ∀ H0 Ox σ H, Env X.K H0 Ox Γ σ H → ∀ Q : VK, PoE X.K X.mg (Ox ++ owns Γ σ) H (fun c d H2 => W c d σ H2) Q m → we X e σ H Q
instance {α : Type} [Den α] {X : Cx} {W : WX} {Γ : Ctx} {e : Expr} {m : M α} : CoeFun (EV X W Γ e m) (fun _ => ∀ H0 Ox σ H, Env X.K H0 Ox Γ σ H → ∀ Q : VK, PoE X.K X.mg (Ox ++ owns Γ σ) H (fun c d H2 => W c d σ H2) Q m → we X e σ H Q) := ⟨EV.run⟩
structure EN {β : Type} [Den β] [Ob β] (X : Cx) (W : WX) (Γ : Ctx) (e : Expr) (m : M β) : Prop where
  run : ∀ H0 Ox σ H, Env X.K H0 Ox Γ σ H → ∀ Q : VK, PoN X.K X.mg (Ox ++ owns Γ σ) H (fun c d H2 => W c d σ H2) Q m → we X e σ H Q
instance {β : Type} [Den β] [Ob β] {X : Cx} {W : WX} {Γ : Ctx} {e : Expr} {m : M β} : CoeFun (EN X W Γ e m) (fun _ => ∀ H0 Ox σ H, Env X.K H0 Ox Γ σ H → ∀ Q : VK, PoN X.K X.mg (Ox ++ owns Γ σ) H (fun c d H2 => W c d σ H2) Q m → we X e σ H Q) := ⟨EN.run⟩
/-- a test -/
def PoT (mg : Str → Option Value) (H : Hp) (W : Value → Option Addr → Hp → Prop) (Q : Bool → Hp → Prop) : M Bool → Prop := PoX mg H W fun b => ∀ H2, Ex H H2 → Q b H2
structure ET (X : Cx) (W : WX) (Γ : Ctx) (e : Expr) (m : M Bool) : Prop where
  run : ∀ H0 Ox σ H, Env X.K H0 Ox Γ σ H → ∀ Q : Bool → Hp → Prop, PoT X.mg H (fun c d H2 => W c d σ H2) Q m → wt X e σ H Q
instance {X : Cx} {W : WX} {Γ : Ctx} {e : Expr} {m : M Bool} : CoeFun (ET X W Γ e m) (fun _ => ∀ H0 Ox σ H, Env X.K H0 Ox Γ σ H → ∀ Q : Bool → Hp → Prop, PoT X.mg H (fun c d H2 => W c d σ H2) Q m → wt X e σ H Q) := ⟨ET.run⟩
structure EW (X : Cx) (W : WX) (Γ : Ctx) (e : Expr) (m : M Bool) : Prop where
  run : ∀ H0 Ox σ H, Env X.K H0 Ox Γ σ H → ∀ Q : Bool → Hp → Prop, PoT X.mg H (fun c d H2 => W c d σ H2) Q m → ww X e σ H Q
instance {X : Cx} {W : WX} {Γ : Ctx} {e : Expr} {m : M Bool} : CoeFun (EW X W Γ e m) (fun _ => ∀ H0 Ox σ H, Env X.K H0 Ox Γ σ H → ∀ Q : Bool → Hp → Prop, PoT X.mg H (fun c d H2 => W c d σ H2) Q m → ww X e σ H Q) := ⟨EW.run⟩
section
variable {X : Cx} {W : WX} {Γ Γ' : Ctx} {e : Expr}
theorem EV.conv {α : Type} [Den α] {m m' : M α} (h : EV X W Γ e m) (q : m = m') : EV X W Γ e m' := q ▸ h
theorem EN.conv {α : Type} [Den α] [Ob α] {m m' : M α} (h : EN X W Γ e m) (q : m = m') : EN X W Γ e m' := q ▸ h
theorem EN.ev {β : Type} [Den β] [Ob β] {m : M β} (h : EN X W Γ e m) : EV X W Γ e m := .mk fun H0 Ox σ H en Q q =>
  h H0 Ox σ H en Q (PoX.imp (β := β) (Ex.refl H) (fun x _ g p o H2 z hn hp ho => by
    have np : p ∉ Ox ++ owns Γ σ := fun w => en.own p w hn
    exact g (.ref p) H2 z (Ob.thaw (o := o) (by rw [hide_out np]; exact hp) (Ob.omono (hide_sub fun a ha => List.mem_cons_of_mem _ ha) ho))) q)
/-- with owned things read -/
theorem EV.borrow {α : Type} [Den α] [Flat α] {m : M α} (wk : Wk Γ Γ') (h : EV X W Γ' e m) : EV X W Γ e m := .mk fun H0 Ox σ H en Q q =>
  h H0 Ox σ H (en.wk wk) Q (PoX.imp (β := α) (Ex.refl H) (fun x _ g v H2 z hv => g v H2 z (flat_any hv)) q)
theorem ET.borrow {m : M Bool} (wk : Wk Γ Γ') (h : ET X W Γ' e m) : ET X W Γ e m := .mk fun H0 Ox σ H en Q q => h H0 Ox σ H (en.wk wk) Q q
theorem EW.borrow {m : M Bool} (wk : Wk Γ Γ') (h : EW X W Γ' e m) : EW X W Γ e m := .mk fun H0 Ox σ H en Q q => h H0 Ox σ H (en.wk wk) Q q
theorem EN.borrow {α : Type} [Den α] [Flat α] {m : M (List α)} (wk : Wk Γ Γ') (h : EN X W Γ' e m) : EN X W Γ e m := .mk fun H0 Ox σ H en Q q =>
  h H0 Ox σ H (en.wk wk) Q (PoX.imp (β := List α) (Ex.refl H) (fun x _ g p o H2 z hn hp ho => by
    obtain ⟨vs, e1, e2, e3⟩ := ho
    exact g p o H2 z hn hp ⟨vs, e1, e2.imp fun _ _ k => flat_any k, e3⟩) q)

/-- first a, then what follows -/
theorem EV.bind {α γ : Type} [Den α] {a : Expr} {ma : M α} {f : α → M γ} (h : EV X W Γ a ma) {H0 : Hp} {Ox : List Addr} {σ : L2.St} {H : Hp} (en : Env X.K H0 Ox Γ σ H) {G : γ → Prop} {Q : VK} (hq : PoX X.mg H (fun c d H2 => W c d σ H2) G (ma >>= f))
    (k : ∀ x v H2, ma = .ok x → Ex H H2 → Env X.K H0 Ox Γ σ H2 → den X.K (hide (Ox ++ owns Γ σ) H2) v x → PoX X.mg H2 (fun c d H2 => W c d σ H2) G (f x) → Q v H2) : we X a σ H Q := by
  refine h H0 Ox σ H en Q ?_
  cases ma with
  | ok x => exact fun v H2 z hv => k x v H2 rfl z (en.mono z) hv (PoX.imp (β := γ) z (fun _ _ g => g) hq)
  | error er =>
    cases er with
    | stuck => exact hq
    | exc x => exact hq
theorem ET.bind {γ : Type} {a : Expr} {ma : M Bool} {f : Bool → M γ} (h : ET X W Γ a ma) {H0 : Hp} {Ox : List Addr} {σ : L2.St} {H : Hp} (en : Env X.K H0 Ox Γ σ H) {G : γ → Prop} {Q : Bool → Hp → Prop} (hq : PoX X.mg H (fun c d H2 => W c d σ H2) G (ma >>= f))
    (k : ∀ b H2, ma = .ok b → Ex H H2 → Env X.K H0 Ox Γ σ H2 → PoX X.mg H2 (fun c d H2 => W c d σ H2) G (f b) → Q b H2) : wt X a σ H Q := by
  refine h H0 Ox σ H en Q ?_
  cases ma with
  | ok x => exact fun H2 z => k x H2 rfl z (en.mono z) (PoX.imp (β := γ) z (fun _ _ g => g) hq)
  | error er =>
    cases er with
    | stuck => exact hq
    | exc x => exact hq

/-! leaves -/
variable {N : List Str} {sc : Scope} {fb : Str → Bool} {pos p : Pos} {n : Str}
def visB (sc : Scope) (n : Str) : Bool := match sc.names.lookup n with
  | some .local => true
  | some .cell => true
  | some .free => true
  | _ => false
theorem vis_of {sc : Scope} {n : Str} (h : visB sc n = true) : Vis sc n := by
  unfold visB at h
  unfold Vis
  split at h <;> first | exact Or.inl (by assumption) | exact Or.inr (Or.inl (by assumption)) | exact Or.inr (Or.inr (by assumption)) | cases h
def locB (sc : Scope) (n : Str) : Bool := match sc.names.lookup n with
  | some .local => true
  | some .cell => true
  | _ => false
theorem loc_of {sc : Scope} {n : Str} (h : locB sc n = true) : L2.Loc sc n := by
  unfold locB at h
  unfold L2.Loc
  split at h <;> first | exact Or.inl (by assumption) | exact Or.inr (by assumption) | cases h
def gloB (sc : Scope) (n : Str) : Bool := match sc.names.lookup n with
  | some .globalImplicit => true
  | _ => false
theorem gl_of (C : Ct0 X N sc fb W) (h : gloB sc n = true) : Gl X n := by
  unfold gloB at h
  show X.env.scope.names.lookup n = some .globalImplicit
  rw [C.s]
  split at h
  · assumption
  · cases h
theorem ev_var (C : Ct0 X N sc fb W) (i : Nat) {α : Type} [Den α] {x : α} (hi : Γ[i]? = some (.va x)) (hn : N[i]? = some n) (hv : visB sc n = true) (hd : (n == ("__debug__" : Str)) = false := by decide) (hcd : (n == ("__classdict__" : Str)) = false := by decide) :
    EV X W Γ (.Name n pos) (.ok x : M α) := .mk fun H0 Ox σ H en Q q => by
  obtain ⟨v, h1, h2⟩ := en.get hi
  exact PEw (pe_var (by rw [C.n]; exact hn) (by rw [C.s]; exact vis_of hv) hd hcd) ⟨v, h1, q v H (Ex.refl H) h2⟩
theorem ev_int {i : Int} {j : Nat} : EV X W Γ (.Constant (.int i) j pos) (.ok i : M Int) := .mk fun H0 Ox σ H en Q q => PEw pe_int (q _ H (Ex.refl H) ⟨rfl, trivial⟩)
theorem ev_bool {b : Bool} {j : Nat} : EV X W Γ (.Constant (.bool b) j pos) (.ok b : M Bool) := .mk fun H0 Ox σ H en Q q => PEw pe_bl (q _ H (Ex.refl H) ⟨rfl, trivial⟩)
theorem ev_none {j : Nat} : EV X W Γ (.Constant .none j pos) (.ok () : M Unit) := .mk fun H0 Ox σ H en Q q => PEw pe_non (q _ H (Ex.refl H) ⟨rfl, trivial⟩)
theorem ev_str {z : Str} {j : Nat} (x : Txt) (hx : z.cps.toList = x) (hl : x.length ≤ 100000) (hc : x.all (fun c => decide (c < 0x110000)) = true) : EV X W Γ (.Constant (.str z) j pos) (.ok ⟨x⟩ : M Tx) := .mk fun H0 Ox σ H en Q q =>
  PEw pe_str (q _ H (Ex.refl H) ⟨by subst hx; rfl, Nat.le_trans hl (by decide), hc⟩)
theorem ev_glob (C : Ct0 X N sc fb W) {α : Type} [Den α] [Flat α] {x : α} {u : Value} (hm : X.mg n = some u) (hu : RelV (Flat.val x) u) (ho : Flat.ok x) (hg : gloB sc n = true) (hd : (n == ("__debug__" : Str)) = false := by decide) : EV X W Γ (.Name n pos) (.ok x : M α) := .mk fun H0 Ox σ H en Q q =>
  PEw (pe_glob (gl_of C hg) hm hu hd) (q _ H (Ex.refl H) (Flat.is.mpr ⟨rfl, ho⟩))
/-- a value of one kind as one of two -/
theorem ev_inl {α β : Type} [Den α] [Den β] {m : M α} (h : EV X W Γ e m) : EV X W Γ e (m >>= fun x => .ok (Sum.inl x) : M (α ⊕ β)) := .mk fun H0 Ox σ H en Q q => h.bind en q fun x v H2 _ z _ hv g => g v H2 z hv
theorem ev_inr {α β : Type} [Den α] [Den β] {m : M β} (h : EV X W Γ e m) : EV X W Γ e (m >>= fun x => .ok (Sum.inr x) : M (α ⊕ β)) := .mk fun H0 Ox σ H en Q q => h.bind en q fun x v H2 _ z _ hv g => g v H2 z hv
class NotNone (α : Type) [Den α] : Prop where
  nn : ∀ {K : Fg} {H : Hp} {v : V} {x : α}, den K H v x → v ≠ .non
instance : NotNone Int := ⟨fun h e => by have := h.1; rw [e] at this; cases this⟩
instance : NotNone Bool := ⟨fun h e => by have := h.1; rw [e] at this; cases this⟩
instance : NotNone Tx := ⟨fun h e => by have := h.1; rw [e] at this; cases this⟩
instance {α : Type} [Den α] : NotNone (List α) := ⟨fun h e => by obtain ⟨a, vs, h1, _⟩ := h; rw [e] at h1; cases h1⟩
instance {α β : Type} [Den α] [Den β] : NotNone (P2 α β) := ⟨fun h e => by obtain ⟨a, _, _, h1, _⟩ := h; rw [e] at h1; cases h1⟩
instance {α β γ : Type} [Den α] [Den β] [Den γ] : NotNone (P3' α β γ) := ⟨fun h e => by obtain ⟨a, _, _, _, h1, _⟩ := h; rw [e] at h1; cases h1⟩
instance {α β γ δ : Type} [Den α] [Den β] [Den γ] [Den δ] : NotNone (P4 α β γ δ) := ⟨fun h e => by obtain ⟨a, _, _, _, _, h1, _⟩ := h; rw [e] at h1; cases h1⟩
theorem ev_some {α : Type} [Den α] [NotNone α] {m : M α} (h : EV X W Γ e m) : EV X W Γ e (m >>= fun x => .ok (some x) : M (Option α)) := .mk fun H0 Ox σ H en Q q => h.bind en q fun x v H2 _ z _ hv g => g v H2 z ⟨NotNone.nn hv, hv⟩
theorem ev_no {α : Type} [Den α] {m : M Unit} (h : EV X W Γ e m) : EV X W Γ e (m >>= fun _ => .ok none : M (Option α)) := .mk fun H0 Ox σ H en Q q => h.bind en q fun x v H2 _ z _ hv g => g v H2 z hv.1

/-! two-place operators, by values -/
theorem ev_op {α β γ : Type} [Den α] [Den β] [Den γ] {op : Operator} {r : R2} {a b : Expr} {ma : M α} {mb : M β} (f : α → β → M γ) (ho : OpR X (binaryOp op) r)
    (hf : ∀ O H σ x y v u Q, den X.K (hide O H) v x → den X.K (hide O H) u y → PoE X.K X.mg O H (fun c d H2 => W c d σ H2) Q (f x y) → r v u H Q) (ha : EV X W Γ a ma) (hb : EV X W Γ b mb) :
    EV X W Γ (.BinOp a op b pos) (ma >>= fun x => mb >>= fun y => f x y) := .mk fun H0 Ox σ H en Q q =>
  PEw (pe_op ho pe_w pe_w) (ha.bind en q fun x v H2 _ z2 en2 hv q2 => hb.bind en2 q2 fun y u H3 _ z3 en3 hu q3 =>
    hf _ H3 σ x y v u Q (Den.mono (hide_ex z3) hv) hu (PoX.imp (β := γ) (Ex.refl H3) (fun _ _ g w H4 z4 => g w H4 ((z2.trans z3).trans z4)) q3))
end
end P3

set_option Elab.async false
set_option linter.all false
set_option maxRecDepth 100000
set_option maxHeartbeats 4000000
namespace P3
open PySem PySem.Spec PyProof.Rows L2
open Den (den)
open Ob (ob)

/-! the mirror's operations -/
def mulI (x y : Int) : M Int := if (-(2 ^ 64) < x ∧ x < 2 ^ 64) ∨ (-(2 ^ 64) < y ∧ y < 2 ^ 64) then .ok (x * y) else stk
def divI (x y : Int) : M Int := if 0 < y ∧ y < 1073741824 then .ok (x / y) else stk
def modI (x y : Int) : M Int := if 0 < y then .ok (x % y) else stk
def powI (x y : Int) : M Int := if 0 ≤ y ∧ y ≤ 1000000 ∧ x.natAbs < 2 ^ 64 then .ok (x ^ y.toNat) else stk
def catT (x y : Tx) : M Tx := if x.l.length + y.l.length ≤ sizeLine then .ok ⟨x.l ++ y.l⟩ else stk
def repT (x : Tx) (k : Int) : M Tx := if k < 2 ^ 40 ∧ -(2 ^ 40) < k ∧ x.l.length * k.toNat ≤ sizeLine then .ok ⟨(List.replicate k.toNat x.l).flatten⟩ else stk
def repL {α : Type} (xs : List α) (k : Int) : M (List α) := if k < 2 ^ 40 ∧ -(2 ^ 40) < k ∧ xs.length * k.toNat ≤ sizeLine then .ok (List.replicate k.toNat xs).flatten else stk
def catL {α : Type} (x y : List α) : M (List α) := if x.length + y.length ≤ sizeLine then .ok (x ++ y) else stk
def optM {α : Type} : Option α → M α
  | some x => .ok x
  | none => stk
def idxL {α : Type} (xs : List α) (i : Int) : M α := optM (atI xs i)
def idxT (x : Tx) (i : Int) : M Tx := optM ((atI x.l i).map fun c => ⟨[c]⟩)
def cutA {α : Type} (xs : List α) (lo hi : Option Int) : List α := (xs.drop (HT.sIx xs.length 0 lo)).take (HT.sIx xs.length xs.length hi - HT.sIx xs.length 0 lo)
def cutT (x : Tx) (lo hi : Option Int) : Tx := ⟨cutA x.l lo hi⟩
theorem cutA_len {α : Type} (xs : List α) (lo hi : Option Int) : (cutA xs lo hi).length ≤ xs.length := by
  unfold cutA
  rw [List.length_take, List.length_drop]
  omega
theorem sT_app (x y : Tx) : sT x ++ sT y = sT ⟨x.l ++ y.l⟩ := by
  show (⟨x.l.toArray ++ y.l.toArray⟩ : Str) = ⟨(x.l ++ y.l).toArray⟩
  rw [List.append_toArray]

section
variable {X : Cx} {W : WX} {Γ Γ' : Ctx} {e a b : Expr} {pos : Pos}
theorem ev_add {ma mb : M Int} (ha : EV X W Γ a ma) (hb : EV X W Γ b mb) : EV X W Γ (.BinOp a .Add b pos) (ma >>= fun x => mb >>= fun y => .ok (x + y)) :=
  ev_op (fun (x y : Int) => (.ok (x + y) : M Int)) op_add (fun O H σ x y v u Q hv hu q => ⟨x, y, hv.1, hu.1, q _ H (Ex.refl H) ⟨rfl, trivial⟩⟩) ha hb
theorem ev_sub {ma mb : M Int} (ha : EV X W Γ a ma) (hb : EV X W Γ b mb) : EV X W Γ (.BinOp a .Sub b pos) (ma >>= fun x => mb >>= fun y => .ok (x - y)) :=
  ev_op (fun (x y : Int) => (.ok (x - y) : M Int)) op_sub (fun O H σ x y v u Q hv hu q => ⟨x, y, hv.1, hu.1, q _ H (Ex.refl H) ⟨rfl, trivial⟩⟩) ha hb
theorem ev_mul {ma mb : M Int} (ha : EV X W Γ a ma) (hb : EV X W Γ b mb) : EV X W Γ (.BinOp a .Mult b pos) (ma >>= fun x => mb >>= fun y => mulI x y) :=
  ev_op mulI op_mul (fun O H σ x y v u Q hv hu q => by
    unfold mulI at q
    split at q
    · rename_i h
      exact ⟨x, y, hv.1, hu.1, h, q _ H (Ex.refl H) ⟨rfl, trivial⟩⟩
    · exact q.elim) ha hb
theorem ev_fdiv {ma mb : M Int} (ha : EV X W Γ a ma) (hb : EV X W Γ b mb) : EV X W Γ (.BinOp a .FloorDiv b pos) (ma >>= fun x => mb >>= fun y => divI x y) :=
  ev_op divI op_fdiv (fun O H σ x y v u Q hv hu q => by
    unfold divI at q
    split at q
    · rename_i h
      exact ⟨x, y, hv.1, hu.1, h, q _ H (Ex.refl H) ⟨rfl, trivial⟩⟩
    · exact q.elim) ha hb
theorem ev_mod {ma mb : M Int} (ha : EV X W Γ a ma) (hb : EV X W Γ b mb) : EV X W Γ (.BinOp a .Mod b pos) (ma >>= fun x => mb >>= fun y => modI x y) :=
  ev_op modI op_mod (fun O H σ x y v u Q hv hu q => by
    unfold modI at q
    split at q
    · rename_i h
      exact ⟨x, y, hv.1, hu.1, h, q _ H (Ex.refl H) ⟨rfl, trivial⟩⟩
    · exact q.elim) ha hb
theorem ev_pow {ma mb : M Int} (ha : EV X W Γ a ma) (hb : EV X W Γ b mb) : EV X W Γ (.BinOp a .Pow b pos) (ma >>= fun x => mb >>= fun y => powI x y) :=
  ev_op powI op_pow (fun O H σ x y v u Q hv hu q => by
    unfold powI at q
    split at q
    · rename_i h
      exact ⟨x, y, hv.1, hu.1, h, q _ H (Ex.refl H) ⟨rfl, trivial⟩⟩
    · exact q.elim) ha hb
theorem ev_catT {ma mb : M Tx} (ha : EV X W Γ a ma) (hb : EV X W Γ b mb) : EV X W Γ (.BinOp a .Add b pos) (ma >>= fun x => mb >>= fun y => catT x y) :=
  ev_op catT op_add_str (fun O H σ x y v u Q hv hu q => by
    unfold catT at q
    split at q
    · rename_i h
      exact ⟨sT x, sT y, hv.1, hu.1, h, by
        rw [sT_app]
        exact q _ H (Ex.refl H) ⟨rfl, okT_app hv.2 hu.2 h⟩⟩
    · exact q.elim) ha hb
def rMulS : R2 := fun x y H Q => ∃ z k, x = .str z ∧ y = .int k ∧ -(2 ^ 40) < k ∧ k < 2 ^ 40 ∧ z.length * k.toNat ≤ sizeLine ∧ Q (.str ⟨(List.replicate k.toNat z.cps.toList).flatten.toArray⟩) H
theorem fold_rep (z : Array Nat) : ∀ (m : Nat) (acc : Array Nat), (List.replicate m z).foldl (· ++ ·) acc = (acc.toList ++ (List.replicate m z.toList).flatten).toArray
  | 0, acc => by simp
  | m + 1, acc => by
    rw [List.replicate_succ, List.foldl_cons, fold_rep z m, List.replicate_succ, List.flatten_cons]
    simp
theorem op_mulS : OpR X (binaryOp .Mult) rMulS := by
  intro pins s σ H x y v u Q I rx ry h
  obtain ⟨z, k, rfl, rfl, h1, h2, hz, q⟩ := h
  obtain ⟨t, rfl⟩ := rx
  obtain ⟨t', rfl⟩ := ry
  have sz : sizeLine = 16777216 := sizeLine_eq
  by_cases hk : k < 1
  · refine PySem.P.mul_str_none hk (by omega) ?_
    have e : k.toNat = 0 := by omega
    rw [e] at q
    exact ⟨V.str Str.empty, H, I.tok _, ⟨_, rfl⟩, q⟩
  · have hk1 : ¬ k < -(2 ^ 63 : Int) := by omega
    have hk2 : ¬ k ≥ 2 ^ 63 := by omega
    refine PySem.P.mul_str (by rw [decide_eq_false hk1, decide_eq_false hk2]; rfl) (fun _ _ => ?_) (fun _ _ => ?_) ?_
    · intro hgt
      have hpos : (0 : Int) < k := by omega
      have hz' : (z.length : Int) * k ≤ ((16777216 : Nat) : Int) := by
        have : ((z.length * k.toNat : Nat) : Int) ≤ ((16777216 : Nat) : Int) := Int.ofNat_le.mpr (by rw [sz] at hz; exact hz)
        rw [Int.natCast_mul, Int.toNat_of_nonneg (by omega)] at this
        exact this
      have hge : (z.length : Int) ≥ (2 ^ 63 - 1) / k + 1 := by omega
      have hm : ((2 ^ 63 - 1) / k + 1) * k ≤ (z.length : Int) * k := Int.mul_le_mul_of_nonneg_right hge (by omega)
      have hd : (2 ^ 63 - 1 : Int) < ((2 ^ 63 - 1) / k + 1) * k := by
        have h1 := Int.emod_add_mul_ediv (2 ^ 63 - 1) k
        have h2 := Int.emod_lt_of_pos (2 ^ 63 - 1) hpos
        rw [Int.add_mul, Int.one_mul, Int.mul_comm ((2 ^ 63 - 1) / k) k]
        omega
      omega
    · unfold Builtin.Str.tooLong
      exact decide_eq_false (by omega)
    · rw [if_neg hk]
      split
      · rename_i hc
        show ∃ v H', _
        refine ⟨.str z, H, I, ⟨t, rfl⟩, ?_⟩
        have e : (⟨(List.replicate k.toNat z.cps.toList).flatten.toArray⟩ : Str) = z := by
          rcases Bool.or_eq_true_iff.mp hc with c | c
          · have : k = 1 := by simpa using c
            subst this
            have e1 : ((1 : Int).toNat) = 1 := rfl
            rw [e1]
            simp
          · have e0 : z.cps.toList = [] := by
              have : z.length = 0 := by simpa using c
              exact List.eq_nil_of_length_eq_zero (by rw [Array.length_toList]; exact this)
            rw [e0]
            have e2 : ∀ m : Nat, (List.replicate m ([] : List Nat)).flatten = [] := fun m => by
              induction m with
              | zero => rfl
              | succ m ih => rw [List.replicate_succ, List.flatten_cons, ih]; rfl
            rw [e2]
            have e3 : z.cps = #[] := by
              apply Array.ext'
              exact e0
            cases z
            simp at e3
            subst e3
            rfl
        rw [← e]
        exact q
      · refine ⟨?_, .str _, H, I.tok _, ⟨_, rfl⟩, ?_⟩
        · rw [fold_rep]
          show (([] : List Nat) ++ (List.replicate k.toNat z.cps.toList).flatten).toArray.size ≤ sizeLine
          have : ((List.replicate k.toNat z.cps.toList).flatten).length = k.toNat * z.length := by
            rw [List.length_flatten, List.map_replicate, List.sum_replicate_nat, Array.length_toList]; rfl
          rw [List.nil_append, List.size_toArray, this, Nat.mul_comm]
          exact hz
        · rw [fold_rep]
          simpa using q
theorem ev_repT {ma : M Tx} {mb : M Int} (ha : EV X W Γ a ma) (hb : EV X W Γ b mb) : EV X W Γ (.BinOp a .Mult b pos) (ma >>= fun x => mb >>= fun y => repT x y) :=
  ev_op repT op_mulS (fun O H σ x y v u Q hv hu q => by
    unfold repT at q
    split at q
    · rename_i h
      refine ⟨sT x, y, hv.1, hu.1, h.2.1, h.1, h.2.2, ?_⟩
      refine q _ H (Ex.refl H) ⟨rfl, ?_, List.all_eq_true.mpr fun c hc => ?_⟩
      · show ((List.replicate y.toNat x.l).flatten).length ≤ _
        rw [List.length_flatten, List.map_replicate, List.sum_replicate_nat, Nat.mul_comm]
        exact h.2.2
      · obtain ⟨l, hl, hc⟩ := List.mem_flatten.mp hc
        rw [(List.mem_replicate.mp hl).2] at hc
        exact List.all_eq_true.mp hv.2.2 c hc
    · exact q.elim) ha hb
theorem ev_neg {ma : M Int} (ha : EV X W Γ a ma) : EV X W Γ (.UnaryOp .USub a pos) (ma >>= fun x => .ok (-x)) := .mk fun H0 Ox σ H en Q q =>
  PEw (pe_un un_neg pe_w) (ha.bind en q fun x v H2 _ z2 en2 hv q2 => ⟨x, hv.1, q2 _ H2 z2 ⟨rfl, trivial⟩⟩)

/-! comparisons -/
theorem ev_cmp {α β γ : Type} [Den α] [Den β] [Den γ] {op : CmpOp} {r : R2} {ma : M α} {mb : M β} (f : α → β → M γ) (ho : OpR X (compareOp op) r)
    (hf : ∀ O H σ x y v u Q, den X.K (hide O H) v x → den X.K (hide O H) u y → PoE X.K X.mg O H (fun c d H2 => W c d σ H2) Q (f x y) → r v u H Q) (ha : EV X W Γ a ma) (hb : EV X W Γ b mb) (hm : behindInMarks op b = false) :
    EV X W Γ (.Compare a [op] [b] pos) (ma >>= fun x => mb >>= fun y => f x y) := .mk fun H0 Ox σ H en Q q =>
  PEw (pe_cmpR ho pe_w pe_w hm) (ha.bind en q fun x v H2 _ z2 en2 hv q2 => hb.bind en2 q2 fun y u H3 _ z3 en3 hu q3 =>
    hf _ H3 σ x y v u Q (Den.mono (hide_ex z3) hv) hu (PoX.imp (β := γ) (Ex.refl H3) (fun _ _ g w H4 z4 => g w H4 ((z2.trans z3).trans z4)) q3))
theorem ev_lt {ma mb : M Int} (ha : EV X W Γ a ma) (hb : EV X W Γ b mb) : EV X W Γ (.Compare a [.Lt] [b] pos) (ma >>= fun x => mb >>= fun y => .ok (decide (x < y))) :=
  ev_cmp (fun (x y : Int) => (.ok (decide (x < y)) : M Bool)) op_lt (fun O H σ x y v u Q hv hu q => ⟨x, y, hv.1, hu.1, q _ H (Ex.refl H) ⟨rfl, trivial⟩⟩) ha hb (nomark _)
theorem ev_le {ma mb : M Int} (ha : EV X W Γ a ma) (hb : EV X W Γ b mb) : EV X W Γ (.Compare a [.LtE] [b] pos) (ma >>= fun x => mb >>= fun y => .ok (decide (x ≤ y))) :=
  ev_cmp (fun (x y : Int) => (.ok (decide (x ≤ y)) : M Bool)) op_le (fun O H σ x y v u Q hv hu q => ⟨x, y, hv.1, hu.1, q _ H (Ex.refl H) ⟨rfl, trivial⟩⟩) ha hb (nomark _)
theorem ev_gt {ma mb : M Int} (ha : EV X W Γ a ma) (hb : EV X W Γ b mb) : EV X W Γ (.Compare a [.Gt] [b] pos) (ma >>= fun x => mb >>= fun y => .ok (decide (y < x))) :=
  ev_cmp (fun (x y : Int) => (.ok (decide (y < x)) : M Bool)) op_gt (fun O H σ x y v u Q hv hu q => ⟨x, y, hv.1, hu.1, q _ H (Ex.refl H) ⟨rfl, trivial⟩⟩) ha hb (nomark _)
theorem ev_ge {ma mb : M Int} (ha : EV X W Γ a ma) (hb : EV X W Γ b mb) : EV X W Γ (.Compare a [.GtE] [b] pos) (ma >>= fun x => mb >>= fun y => .ok (decide (y ≤ x))) :=
  ev_cmp (fun (x y : Int) => (.ok (decide (y ≤ x)) : M Bool)) op_ge (fun O H σ x y v u Q hv hu q => ⟨x, y, hv.1, hu.1, q _ H (Ex.refl H) ⟨rfl, trivial⟩⟩) ha hb (nomark _)
/-- scalars: ints, texts, bools -/
class Scal (α : Type) [Den α] [Den α] [Flat α] where
  [dec : DecidableEq α]
  sc : ∀ x y : α, scal (Flat.val x) (Flat.val y) = true
  inj : ∀ x y : α, Flat.val x = Flat.val y → x = y
  fl : ∀ x : α, flatV (Flat.val x) = true
  eq : ∀ x y : α, eqV (Flat.val x) (Flat.val y) = decide (x = y)
instance (priority := 50) scalDec {α : Type} [Den α] [Den α] [Flat α] [s : Scal α] : DecidableEq α := s.dec
instance : Scal Int where
  dec := inferInstance
  sc := fun _ _ => rfl
  inj := fun _ _ h => V.int.inj h
  fl := fun _ => rfl
  eq := fun x y => by show (x == y) = _; by_cases h : x = y <;> simp [h]
instance : Scal Bool where
  dec := inferInstance
  sc := fun _ _ => rfl
  inj := fun _ _ h => V.bl.inj h
  fl := fun _ => rfl
  eq := fun x y => by show (x == y) = _; by_cases h : x = y <;> simp [h]
instance : Scal Tx where
  dec := inferInstance
  sc := fun _ _ => rfl
  inj := fun _ _ h => sT_inj (V.str.inj h)
  fl := fun _ => rfl
  eq := fun x y => by
    show (sT x == sT y) = _
    by_cases h : x = y
    · subst h; simp
    · have : sT x ≠ sT y := fun e => h (sT_inj e)
      simp [h, this]
theorem ev_eq {α : Type} [Den α] [Flat α] [Scal α] {ma mb : M α} (ha : EV X W Γ a ma) (hb : EV X W Γ b mb) : EV X W Γ (.Compare a [.Eq] [b] pos) (ma >>= fun x => mb >>= fun y => .ok (decide (x = y))) :=
  ev_cmp (fun (x y : α) => (.ok (decide (x = y)) : M Bool)) op_eq (fun O H σ x y v u Q hv hu q => by
    have e1 := (Flat.is.mp hv).1
    have e2 := (Flat.is.mp hu).1
    subst e1 e2
    refine ⟨Scal.sc x y, ?_⟩
    have e : decide (Flat.val x = Flat.val y) = decide (x = y) := by
      by_cases h : x = y
      · subst h; simp
      · have : Flat.val x ≠ Flat.val y := fun z => h (Scal.inj x y z)
        simp [h, this]
    rw [e]
    exact q _ H (Ex.refl H) ⟨rfl, trivial⟩) ha hb (nomark _)
theorem ev_ne {α : Type} [Den α] [Flat α] [Scal α] {ma mb : M α} (ha : EV X W Γ a ma) (hb : EV X W Γ b mb) : EV X W Γ (.Compare a [.NotEq] [b] pos) (ma >>= fun x => mb >>= fun y => .ok (!decide (x = y))) :=
  ev_cmp (fun (x y : α) => (.ok (!decide (x = y)) : M Bool)) op_ne (fun O H σ x y v u Q hv hu q => by
    have e1 := (Flat.is.mp hv).1
    have e2 := (Flat.is.mp hu).1
    subst e1 e2
    refine ⟨Scal.sc x y, ?_⟩
    have e : decide (Flat.val x = Flat.val y) = decide (x = y) := by
      by_cases h : x = y
      · subst h; simp
      · have : Flat.val x ≠ Flat.val y := fun z => h (Scal.inj x y z)
        simp [h, this]
    rw [e]
    exact q _ H (Ex.refl H) ⟨rfl, trivial⟩) ha hb (nomark _)
theorem flats_of {α : Type} [Den α] [Flat α] [Scal α] {K : Fg} {H : Hp} : ∀ {vs : List V} {xs : List α}, All2 (den K H) vs xs → vs = xs.map Flat.val
  | _, _, .nil => rfl
  | _, _, .cons h t => by rw [List.map_cons, ← flats_of t, (Flat.is.mp h).1]
theorem inV_of {α : Type} [Den α] [Flat α] [Scal α] (x : α) (xs : List α) : inV (Flat.val x) (xs.map Flat.val) = decide (x ∈ xs) := by
  induction xs with
  | nil => simp [inV]
  | cons y ys ih =>
    have ih' : (ys.map Flat.val).any (fun y => eqV y (Flat.val x)) = decide (x ∈ ys) := ih
    show (eqV (Flat.val y) (Flat.val x) || (ys.map Flat.val).any fun y => eqV y (Flat.val x)) = _
    rw [ih', Scal.eq]
    by_cases h : x = y
    · subst h; simp
    · have h' : ¬ y = x := fun z => h z.symm
      simp [h, h']
theorem all_flat {α : Type} [Den α] [Flat α] [Scal α] (xs : List α) : (xs.map (Flat.val : α → V)).all flatV = true := by
  rw [List.all_map]
  exact List.all_eq_true.mpr fun x _ => Scal.fl x
/-- x in xs, x not in xs -/
theorem ev_in {α : Type} [Den α] [Flat α] [Scal α] {ma : M α} {mb : M (List α)} (ha : EV X W Γ a ma) (hb : EV X W Γ b mb) (hm : behindInMarks .In b = false) : EV X W Γ (.Compare a [.In] [b] pos) (ma >>= fun x => mb >>= fun y => .ok (decide (x ∈ y))) :=
  ev_cmp (fun (x : α) (y : List α) => (.ok (decide (x ∈ y)) : M Bool)) op_in_seq (fun O H σ x y v u Q hv hu q => by
    obtain ⟨p, vs, e, hs, h2, _⟩ := hu
    have e1 := (Flat.is.mp hv).1
    have e2 := flats_of h2
    subst e e1 e2
    refine ⟨p, _, rfl, .inl (ex_l hide_le hs), Scal.fl x, all_flat y, ?_⟩
    rw [if_neg Bool.false_ne_true, inV_of]
    exact q _ H (Ex.refl H) ⟨rfl, trivial⟩) ha hb hm
theorem ev_nin {α : Type} [Den α] [Flat α] [Scal α] {ma : M α} {mb : M (List α)} (ha : EV X W Γ a ma) (hb : EV X W Γ b mb) (hm : behindInMarks .NotIn b = false) : EV X W Γ (.Compare a [.NotIn] [b] pos) (ma >>= fun x => mb >>= fun y => .ok (!decide (x ∈ y))) :=
  ev_cmp (fun (x : α) (y : List α) => (.ok (!decide (x ∈ y)) : M Bool)) op_notIn_seq (fun O H σ x y v u Q hv hu q => by
    obtain ⟨p, vs, e, hs, h2, _⟩ := hu
    have e1 := (Flat.is.mp hv).1
    have e2 := flats_of h2
    subst e e1 e2
    refine ⟨p, _, rfl, .inl (ex_l hide_le hs), Scal.fl x, all_flat y, ?_⟩
    rw [if_pos rfl, inV_of]
    exact q _ H (Ex.refl H) ⟨rfl, trivial⟩) ha hb hm

/-! deep == -/
class Dat (α : Type) [Den α] where
  [dec : DecidableEq α]
  dat : α → PyData
  dd : Nat
  dp : ∀ {K : Fg} {H : Hp} {v : V} {x : α}, den K H v x → Dp K H v (dat x) ∧ (dat x).canLay0 = true
  dh : ∀ x : α, (dat x).depth ≤ dd
  eqv : ∀ x y : α, PyData.eqv (dat x) (dat y) = decide (x = y)
instance (priority := 40) datDec {α : Type} [Den α] [s : Dat α] : DecidableEq α := s.dec
theorem dp_all {α : Type} [Den α] [Dat α] {K : Fg} {H : Hp} : ∀ {vs : List V} {xs : List α}, All2 (den K H) vs xs → DpAll K H vs (xs.map Dat.dat) ∧ PyData.canLayAll0 (xs.map Dat.dat) = true
  | _, _, .nil => ⟨.nil, by simp [PyData.canLayAll0]⟩
  | _, _, .cons h t => ⟨.cons (Dat.dp h).1 (dp_all t).1, by
    rw [List.map_cons, PyData.canLayAll0, (Dat.dp h).2, (dp_all t).2]; rfl⟩
theorem eqv_all {α : Type} [Den α] [Dat α] : ∀ xs ys : List α, PyData.eqvAll (xs.map Dat.dat) (ys.map Dat.dat) = decide (xs = ys)
  | [], [] => by simp [PyData.eqvAll]
  | [], y :: ys => by simp [PyData.eqvAll]
  | x :: xs, [] => by simp [PyData.eqvAll]
  | x :: xs, y :: ys => by
    rw [List.map_cons, List.map_cons, PyData.eqvAll, Dat.eqv, eqv_all xs ys]
    by_cases h : x = y <;> by_cases h2 : xs = ys <;> simp [h, h2]
theorem dep_all {α : Type} [Den α] [Dat α] : ∀ xs : List α, PyData.depthAll (xs.map Dat.dat) ≤ Dat.dd α
  | [] => by simp [PyData.depthAll]
  | x :: xs => by
    rw [List.map_cons, PyData.depthAll]
    exact Nat.max_le.mpr ⟨Dat.dh x, dep_all xs⟩
instance : Dat Int where
  dat := .int
  dd := 0
  dp := fun {K H v x} h => ⟨by have := h.1; subst this; exact .int x, by simp [PyData.canLay0]⟩
  dh := fun _ => by simp [PyData.depth]
  eqv := fun x y => by by_cases h : x = y <;> simp [PyData.eqv, h]
instance : Dat Bool where
  dat := .bool
  dd := 0
  dp := fun {K H v x} h => ⟨by have := h.1; subst this; exact .bl x, by simp [PyData.canLay0]⟩
  dh := fun _ => by simp [PyData.depth]
  eqv := fun x y => by cases x <;> cases y <;> simp [PyData.eqv]
instance : Dat Tx where
  dat := fun x => .str (sT x)
  dd := 0
  dp := fun {K H v x} h => ⟨by have := h.1; subst this; exact .str _, by
    show PyData.canLay0 (.str (sT x)) = true
    simp only [PyData.canLay0, PyData.strOk]
    have := h.2.2
    show (x.l.toArray).all _ = true
    rw [List.all_toArray]
    exact this⟩
  dh := fun _ => by simp [PyData.depth]
  eqv := fun x y => by
    by_cases h : x = y
    · subst h; simp [PyData.eqv]
    · have : sT x ≠ sT y := fun e => h (sT_inj e)
      simp [PyData.eqv, h, this]
instance {α : Type} [Den α] [Dat α] : Dat (List α) where
  dat := fun xs => .list (xs.map Dat.dat)
  dd := Dat.dd α + 1
  dp := fun {K H v x} h => by
    obtain ⟨a, vs, e, h1, h2, _⟩ := h
    subst e
    exact ⟨.lst h1 (dp_all h2).1, by rw [PyData.canLay0]; exact (dp_all h2).2⟩
  dh := fun xs => by rw [PyData.depth]; exact Nat.succ_le_succ (dep_all xs)
  eqv := fun x y => by rw [PyData.eqv]; exact eqv_all x y
instance {α β : Type} [Den α] [Dat α] [Den β] [Dat β] : Dat (P2 α β) where
  dat := fun x => .tuple [Dat.dat x.a, Dat.dat x.b]
  dd := max (Dat.dd α) (Dat.dd β) + 1
  dp := fun {K H v x} h => by
    obtain ⟨p, v1, v2, e, h0, h1, h2⟩ := h
    subst e
    exact ⟨.tup h0 (.cons (Dat.dp h1).1 (.cons (Dat.dp h2).1 .nil)), by simp [PyData.canLay0, PyData.canLayAll0, (Dat.dp h1).2, (Dat.dp h2).2]⟩
  dh := fun x => by
    have h1 := Dat.dh x.a
    have h2 := Dat.dh x.b
    simp only [PyData.depth, PyData.depthAll]
    omega
  eqv := fun x y => by
    simp only [PyData.eqv, PyData.eqvAll, Dat.eqv]
    cases x with | mk a b => cases y with | mk c d => by_cases h : a = c <;> by_cases h2 : b = d <;> simp [h, h2]
instance {α β γ : Type} [Den α] [Dat α] [Den β] [Dat β] [Den γ] [Dat γ] : Dat (P3' α β γ) where
  dat := fun x => .tuple [Dat.dat x.a, Dat.dat x.b, Dat.dat x.c]
  dd := max (Dat.dd α) (max (Dat.dd β) (Dat.dd γ)) + 1
  dp := fun {K H v x} h => by
    obtain ⟨p, v1, v2, v3, e, h0, h1, h2, h3⟩ := h
    subst e
    exact ⟨.tup h0 (.cons (Dat.dp h1).1 (.cons (Dat.dp h2).1 (.cons (Dat.dp h3).1 .nil))), by simp [PyData.canLay0, PyData.canLayAll0, (Dat.dp h1).2, (Dat.dp h2).2, (Dat.dp h3).2]⟩
  dh := fun x => by
    have h1 := Dat.dh x.a
    have h2 := Dat.dh x.b
    have h3 := Dat.dh x.c
    simp only [PyData.depth, PyData.depthAll]
    omega
  eqv := fun x y => by
    simp only [PyData.eqv, PyData.eqvAll, Dat.eqv]
    cases x with | mk a b e => cases y with | mk c d f => by_cases h : a = c <;> by_cases h2 : b = d <;> by_cases h3 : e = f <;> simp [h, h2, h3]
variable {N : List Str} {sc : Scope} {fb : Str → Bool}
theorem shaped_of {α : Type} [Den α] [Dat α] {K : Fg} {H : Hp} {v : V} {x : α} (h : den K H v x) (hd : Dat.dd α ≤ 64) : SeqAt.shaped (Dat.dat x) = true := by
  unfold SeqAt.shaped
  rw [(Dat.dp h).2, decide_eq_true (Nat.le_trans (Dat.dh x) hd)]
  rfl
theorem ev_eqD (C : Ct0 X N sc fb W) {α : Type} [Den α] [Dat α] {ma mb : M α} (ha : EV X W Γ a ma) (hb : EV X W Γ b mb) (hd : Dat.dd α ≤ 64 := by decide) : EV X W Γ (.Compare a [.Eq] [b] pos) (ma >>= fun x => mb >>= fun y => .ok (decide (x = y))) :=
  ev_cmp (fun (x y : α) => (.ok (decide (x = y)) : M Bool)) (op_eqD C.un) (fun O H σ x y v u Q hv hu q =>
    ⟨Dat.dat x, Dat.dat y, (Dat.dp (Den.mono hide_le hv)).1, (Dat.dp (Den.mono hide_le hu)).1, shaped_of hv hd, shaped_of hu hd, by
      rw [Dat.eqv]
      exact q _ H (Ex.refl H) ⟨rfl, trivial⟩⟩) ha hb (nomark _)
theorem ev_neD (C : Ct0 X N sc fb W) {α : Type} [Den α] [Dat α] {ma mb : M α} (ha : EV X W Γ a ma) (hb : EV X W Γ b mb) (hd : Dat.dd α ≤ 64 := by decide) : EV X W Γ (.Compare a [.NotEq] [b] pos) (ma >>= fun x => mb >>= fun y => .ok (!decide (x = y))) :=
  ev_cmp (fun (x y : α) => (.ok (!decide (x = y)) : M Bool)) (op_neD C.un) (fun O H σ x y v u Q hv hu q =>
    ⟨Dat.dat x, Dat.dat y, (Dat.dp (Den.mono hide_le hv)).1, (Dat.dp (Den.mono hide_le hu)).1, shaped_of hv hd, shaped_of hu hd, by
      rw [Dat.eqv]
      exact q _ H (Ex.refl H) ⟨rfl, trivial⟩⟩) ha hb (nomark _)

/-! is None -/
theorem ev_isN {α : Type} [Den α] {ma : M (Option α)} {j : Nat} {p : Pos} (ha : EV X W Γ a ma) : EV X W Γ (.Compare a [.Is] [.Constant .none j p] pos) (ma >>= fun x => .ok x.isNone) := .mk fun H0 Ox σ H en Q q =>
  PEw (pe_cmp (pc_isN pe_w)) (ha.bind en q fun x v H2 _ z2 en2 hv q2 => by
    cases x with
    | none =>
      have e : v = .non := hv
      subst e
      exact q2 _ H2 z2 ⟨by simp, trivial⟩
    | some y =>
      have e : v ≠ .non := hv.1
      exact q2 _ H2 z2 ⟨by simp [e], trivial⟩)
theorem ev_notN {α : Type} [Den α] {ma : M (Option α)} {j : Nat} {p : Pos} (ha : EV X W Γ a ma) : EV X W Γ (.Compare a [.IsNot] [.Constant .none j p] pos) (ma >>= fun x => .ok x.isSome) := .mk fun H0 Ox σ H en Q q =>
  PEw (pe_cmp (pc_notN pe_w)) (ha.bind en q fun x v H2 _ z2 en2 hv q2 => by
    cases x with
    | none =>
      have e : v = .non := hv
      subst e
      exact q2 _ H2 z2 ⟨by simp, trivial⟩
    | some y =>
      have e : v ≠ .non := hv.1
      exact q2 _ H2 z2 ⟨by simp [e], trivial⟩)

/-! and, or, not, if-else -/
theorem ev_and1 {ma : M Bool} (ha : EV X W Γ a ma) : EV X W Γ (.BoolOp .And [a] pos) ma := .mk fun H0 Ox σ H en Q q => PEw (pe_one pe_w) (ha H0 Ox σ H en Q q)
theorem ev_or1 {ma : M Bool} (ha : EV X W Γ a ma) : EV X W Γ (.BoolOp .Or [a] pos) ma := .mk fun H0 Ox σ H en Q q => PEw (pe_one pe_w) (ha H0 Ox σ H en Q q)
theorem ev_and {rest : List Expr} {ma mb : M Bool} (ha : EV X W Γ a ma) (hb : EV X W Γ (.BoolOp .And (b :: rest) pos) mb) : EV X W Γ (.BoolOp .And (a :: b :: rest) pos) (ma >>= fun x => if x = true then mb else .ok false) := .mk fun H0 Ox σ H en Q q =>
  PEw (pe_and pe_w pe_w) (ha.bind en q fun x v H2 _ z2 en2 hv q2 => ⟨x, hv.1, by
    cases x with
    | true => exact hb H0 Ox σ H2 en2 Q (PoX.imp (β := Bool) (Ex.refl H2) (fun _ _ g w H4 z4 => g w H4 (z2.trans z4)) q2)
    | false => exact q2 _ H2 z2 ⟨rfl, trivial⟩⟩)
theorem ev_or {rest : List Expr} {ma mb : M Bool} (ha : EV X W Γ a ma) (hb : EV X W Γ (.BoolOp .Or (b :: rest) pos) mb) : EV X W Γ (.BoolOp .Or (a :: b :: rest) pos) (ma >>= fun x => if x = true then .ok true else mb) := .mk fun H0 Ox σ H en Q q =>
  PEw (pe_or pe_w pe_w) (ha.bind en q fun x v H2 _ z2 en2 hv q2 => ⟨x, hv.1, by
    cases x with
    | false => exact hb H0 Ox σ H2 en2 Q (PoX.imp (β := Bool) (Ex.refl H2) (fun _ _ g w H4 z4 => g w H4 (z2.trans z4)) q2)
    | true => exact q2 _ H2 z2 ⟨rfl, trivial⟩⟩)
/-- tests -/
theorem et_w {m : M Bool} (h : EW X W Γ e m) : ET X W Γ e m := .mk fun H0 Ox σ H en Q q pins s I => h H0 Ox σ H en Q q _ pins s I
theorem et_ev {m : M Bool} (h : EV X W Γ e m) (he : ∀ whole, isTrue e X.env whole = (do let v ← whole; standAt e.pos; holding [v] (truthy v)) := by intro _; rfl) : ET X W Γ e m := .mk fun H0 Ox σ H en Q q =>
  PTw' (pt_val pe_w he) (h H0 Ox σ H en _ (PoX.imp (β := Bool) (Ex.refl H) (fun x _ g v H2 z hv => ⟨x, hv.1, g H2 z⟩) q))
theorem isTrue_cmp {M : Model} {A : Around} {E : Value → Shared → Prop} {s : Shared} {env : PySem.Env} {l r : Expr} {op : CmpOp} {pos : Pos} {whole : Sem Value} {Q : Bool → Shared → Prop}
    (h : wpAny M A (eval (.Compare l [op] [r] pos) env) (fun v s1 => wpAny M A (truthy v) Q E s1) E s) : wpAny M A (isTrue (.Compare l [op] [r] pos) env whole) Q E s := fun Γ p hΓ => by
  have h1 := h Γ p hΓ
  simp only [eval_Compare1, Sem.wp_bind', Sem.wp_holding, Sem.wp_cmd_standAt, Sem.wp_operate] at h1
  simp only [isTrue_Compare1, Sem.wp_bind', Sem.wp_holding, Sem.wp_cmd_standAt, Sem.wp_operate]
  exact Sem.wp_mono M Γ _ (fun a _ _ z => Sem.wp_mono M Γ _ (fun b _ _ z => Sem.wp_mono M Γ _ (fun c p3 _ z => z Γ p3 hΓ) (fun _ _ _ z => z) _ _ z) (fun _ _ _ z => z) _ _ z) (fun _ _ _ z => z) _ _ h1
theorem et_cmp {op : CmpOp} {m : M Bool} (h : EV X W Γ (.Compare a [op] [b] pos) m) : ET X W Γ (.Compare a [op] [b] pos) m := .mk fun H0 Ox σ H en Q q pins s I =>
  isTrue_cmp (thn (h H0 Ox σ H en (fun v H2 => ∃ d, v = .bl d ∧ Q d H2) (PoX.imp (β := Bool) (Ex.refl H) (fun x _ g v H2 z hv => ⟨x, hv.1, g H2 z⟩) q) pins s I) fun v s1 ⟨x, H1, I1, r1, d, e, q1⟩ => by
    subst e
    cases r1
    exact wpAny_truthy_bool ⟨H1, I1, q1⟩)
theorem et_not {m : M Bool} (h : ET X W Γ a m) : ET X W Γ (.UnaryOp .Not a pos) (m >>= fun x => .ok (!x)) := .mk fun H0 Ox σ H en Q q =>
  PTw' (pt_not pt_w) (h.bind en q fun b H2 _ z2 en2 q2 => q2 H2 z2)
theorem ew_and1 {m : M Bool} (h : ET X W Γ a m) : EW X W Γ (.BoolOp .And [a] pos) m := .mk fun H0 Ox σ H en Q q => PWw (pw_and1 pt_w) (h H0 Ox σ H en Q q)
theorem ew_or1 {m : M Bool} (h : ET X W Γ a m) : EW X W Γ (.BoolOp .Or [a] pos) m := .mk fun H0 Ox σ H en Q q => PWw (pw_or1 pt_w) (h H0 Ox σ H en Q q)
theorem ew_and {rest : List Expr} {ma mb : M Bool} (ha : ET X W Γ a ma) (hb : EW X W Γ (.BoolOp .And (b :: rest) pos) mb) : EW X W Γ (.BoolOp .And (a :: b :: rest) pos) (ma >>= fun x => if x = true then mb else .ok false) := .mk fun H0 Ox σ H en Q q =>
  PWw (pw_and pt_w pw_w) (ha.bind en q fun x H2 _ z2 en2 q2 => by
    cases x with
    | true => exact hb H0 Ox σ H2 en2 Q (PoX.imp (β := Bool) (Ex.refl H2) (fun _ _ g H4 z4 => g H4 (z2.trans z4)) q2)
    | false => exact q2 H2 z2)
theorem ew_or {rest : List Expr} {ma mb : M Bool} (ha : ET X W Γ a ma) (hb : EW X W Γ (.BoolOp .Or (b :: rest) pos) mb) : EW X W Γ (.BoolOp .Or (a :: b :: rest) pos) (ma >>= fun x => if x = true then .ok true else mb) := .mk fun H0 Ox σ H en Q q =>
  PWw (pw_or pt_w pw_w) (ha.bind en q fun x H2 _ z2 en2 q2 => by
    cases x with
    | false => exact hb H0 Ox σ H2 en2 Q (PoX.imp (β := Bool) (Ex.refl H2) (fun _ _ g H4 z4 => g H4 (z2.trans z4)) q2)
    | true => exact q2 H2 z2)
theorem ev_not {m : M Bool} (h : EV X W Γ a m) : EV X W Γ (.UnaryOp .Not a pos) (m >>= fun x => .ok (!x)) := .mk fun H0 Ox σ H en Q q =>
  PEw (pe_not pe_w) (h.bind en q fun x v H2 _ z2 en2 hv q2 => ⟨x, hv.1, q2 _ H2 z2 ⟨rfl, trivial⟩⟩)
theorem ev_ite {α : Type} [Den α] {c : Expr} {mc : M Bool} {ma mb : M α} (hc : ET X W Γ c mc) (ha : EV X W Γ a ma) (hb : EV X W Γ b mb) : EV X W Γ (.IfExp c a b pos) (mc >>= fun x => if x = true then ma else mb) := .mk fun H0 Ox σ H en Q q =>
  PEw (pe_ifExp pt_w pe_w pe_w) (hc.bind en q fun x H2 _ z2 en2 q2 => by
    cases x with
    | true => exact ha H0 Ox σ H2 en2 Q (PoX.imp (β := α) (Ex.refl H2) (fun _ _ g w H4 z4 => g w H4 (z2.trans z4)) q2)
    | false => exact hb H0 Ox σ H2 en2 Q (PoX.imp (β := α) (Ex.refl H2) (fun _ _ g w H4 z4 => g w H4 (z2.trans z4)) q2))
/-- truth of values -/
class Tru (α : Type) [Den α] where
  tru : α → Bool
  is : ∀ {K : Fg} {H : Hp} {v : V} {x : α}, den K H v x → TruV K v H (tru x)
instance : Tru Int where
  tru := fun i => i != 0
  is := fun h => by have := h.1; subst this; exact rfl
instance : Tru Tx where
  tru := fun x => !x.l.isEmpty
  is := fun {K H v x} h => by
    have := h.1; subst this
    refine ⟨h.2.1, ?_⟩
    show (!x.l.isEmpty) = (((x.l.length : Nat) : Int) != 0)
    cases x with | mk l => cases l with
      | nil => rfl
      | cons a r =>
        show true = (((r.length + 1 : Nat) : Int) != 0)
        symm
        rw [bne_iff_ne]
        omega
instance {α : Type} [Den α] : Tru (List α) where
  tru := fun x => !x.isEmpty
  is := fun {K H v x} h => by
    obtain ⟨p, vs, e, h1, h2, _⟩ := h
    subst e
    refine .inl ⟨vs, h1, ?_⟩
    cases h2 <;> rfl
instance {α : Type} [Den α] [Tru α] : Tru (Option α) where
  tru := fun x => match x with
    | some y => Tru.tru y
    | none => false
  is := fun {K H v x} h => by
    cases x with
    | none => have e : v = .non := h; subst e; exact rfl
    | some y => exact Tru.is (α := α) h.2
theorem TruV.mono {K : Fg} {H H' : Hp} {v : V} {k : Bool} (e : Ex H H') (h : TruV K v H k) : TruV K v H' k := by
  cases v with
  | ref p =>
    rcases h with ⟨xs, h1, h2⟩ | ⟨xs, h1, h2⟩ | ⟨kvs, h1, h2⟩
    · exact .inl ⟨xs, ex_l e h1, h2⟩
    · exact .inr (.inl ⟨xs, ex_t e h1, h2⟩)
    · exact .inr (.inr ⟨kvs, e _ _ h1, h2⟩)
  | _ => exact h
theorem et_tru {α : Type} [Den α] [Tru α] {m : M α} (h : EV X W Γ e m) (he : ∀ whole, isTrue e X.env whole = (do let v ← whole; standAt e.pos; holding [v] (truthy v)) := by intro _; rfl) : ET X W Γ e (m >>= fun x => .ok (Tru.tru x)) := .mk fun H0 Ox σ H en Q q =>
  PTw' (pt_truth pe_w he) (h.bind en q fun x v H2 _ z2 en2 hv q2 => ⟨Tru.tru x, TruV.mono hide_le (Tru.is hv), q2 H2 z2⟩)
end
end P3

set_option Elab.async false
set_option linter.all false
set_option maxRecDepth 100000
set_option maxHeartbeats 4000000
namespace P3
open PySem PySem.Spec PyProof.Rows L2
open Den (den)
open Ob (ob)

/-- an argument without a star -/
def Pl (a : Expr) : Prop := ∀ es env, starEach (a :: es) env = (false, eval a env) :: starEach es env
def PlL (es : List Expr) : Prop := ∀ pos env, (backTo pos (starEach es env)).any (·.1) = false
theorem PlL.nil : PlL [] := fun _ _ => rfl
theorem PlL.cons {a : Expr} {es : List Expr} (h : Pl a) (t : PlL es) : PlL (a :: es) := fun pos env => by
  rw [h es env]
  exact (show (false || (backTo pos (starEach es env)).any (·.1)) = false by rw [t pos env]; rfl)
theorem pl_one {a : Expr} (h : Pl a) (env : PySem.Env) : starEach [a] env = [(false, eval a env)] := h [] env
/-! what a for walks -/
/-- the walk gives the items of xs while G (what is seen at its start) stands -/
def WalkOk {α : Type} [Den α] (K : Fg) (J : It) (G : Hp) (xs : List α) : Prop :=
  ∀ i H', Ex G H' → (∀ x, xs[i]? = some x → J.go i H' ∧ ∀ v H'', J.yld i H' v H'' → Ex H' H'' ∧ ∀ O, (∀ p ∈ O, H' p ≠ none) → Ex G (hide O H') → den K (hide O H'') v x) ∧ (i = xs.length → J.stop i H')
def IT {α : Type} [Den α] (X : Cx) (W : WX) (Γ : Ctx) (tg iter : Expr) (m : M (List α)) : Prop :=
  ∃ wi, PI X tg iter wi ∧ ∀ H0 Ox σ H, Env X.K H0 Ox Γ σ H → ∀ R : It → Hp → Prop,
    PoX X.mg H (fun c d H2 => W c d σ H2) (fun xs => ∀ J H2, Ex H H2 → xs.length ≤ sizeLine → WalkOk X.K J (hide (Ox ++ owns Γ σ) H2) xs → R J H2) m → wi σ H R
section
variable {X : Cx} {W : WX} {Γ Γ' : Ctx} {tg e : Expr} {N : List Str} {sc : Scope} {fb : Str → Bool} {p pos : Pos}
theorem walk_list {α : Type} [Den α] {K : Fg} {G : Hp} {a : Addr} {vs : List V} {xs : List α} (hl : SqL K G a vs) (hx : All2 (den K G) vs xs) : WalkOk K (Itl K a) G xs := fun i H' e =>
  ⟨fun x hi => by
    obtain ⟨v, hv, hd⟩ := hx.ta_ hi
    refine ⟨⟨vs, v, ex_l e hl, hv⟩, fun u H'' y => ?_⟩
    obtain ⟨e1, y2⟩ := y
    subst e1
    have := y2 vs (ex_l e hl)
    rw [hv] at this
    cases this
    exact ⟨Ex.refl _, fun O _ eg => Den.mono eg hd⟩, fun hi => ⟨vs, ex_l e hl, by rw [hi, ← hx.len]; exact Nat.le_refl _⟩⟩
theorem it_list {α : Type} [Den α] {m : M (List α)} (h : EV X W Γ e m) : IT X W Γ tg e m :=
  ⟨_, pi_list pe_w, fun H0 Ox σ H en R q => h H0 Ox σ H en _ (PoX.imp (β := List α) (Ex.refl H) (fun xs _ g v H2 z hv => by
    obtain ⟨a, vs, ev, h1, h2, h3⟩ := hv
    subst ev
    exact ⟨a, rfl, ⟨vs, ex_l hide_le h1⟩, g _ H2 z h3 (walk_list h1 h2)⟩) q)⟩
/-- the ints from lo on, n of them -/
def rng (lo : Int) (n : Nat) : List Int := (List.range n).map fun (k : Nat) => lo + (k : Int)
def rngM (lo hi : Int) : M (List Int) := if -(2 ^ 62) ≤ lo ∧ lo < 2 ^ 62 ∧ -(2 ^ 62) ≤ hi ∧ hi < 2 ^ 62 ∧ (hi - lo).toNat ≤ sizeLine then .ok (rng lo (hi - lo).toNat) else stk
theorem rng_len (lo : Int) (n : Nat) : (rng lo n).length = n := by simp [rng]
theorem walk_range {K : Fg} {G : Hp} {lo : Int} {n : Nat} : WalkOk K (Itr lo n) G (rng lo n) := fun i H' e =>
  ⟨fun x hi => by
    have hlt : i < n := by
      have := (List.getElem?_eq_some_iff.mp hi).1
      rw [rng_len] at this
      exact this
    have hx : x = lo + (i : Int) := by
      unfold rng at hi
      rw [List.getElem?_map, List.getElem?_range hlt] at hi
      exact (Option.some.inj hi).symm
    refine ⟨hlt, fun u H'' y => ?_⟩
    obtain ⟨e1, e2⟩ := y
    subst e1 e2 hx
    exact ⟨Ex.refl _, fun O _ eg => ⟨rfl, trivial⟩⟩, fun hi => by rw [rng_len] at hi; exact Nat.le_of_eq hi.symm⟩
theorem it_range1 (C : Ct0 X N sc fb W) {a : Expr} {m : M Int} (h : EV X W Γ a m) (hg : gloB sc "range" = true) (hm : X.mg "range" = none) (pl : Pl a := by intro _ _; rfl) : IT X W Γ tg (.Call (.Name "range" p) [a] [] pos) (m >>= fun n => rngM 0 n) :=
  ⟨_, pi_range1 (gl_of C hg) hm (pa_cons pe_w pa_nil (pl _ _)) (pl_one pl _), fun H0 Ox σ H en R q => h.bind en q fun n v H2 _ z _ hv g => by
    have ev := hv.1
    subst ev
    unfold rngM at g
    split at g
    · rename_i hb
      exact ⟨n, rfl, hb.2.2.1, hb.2.2.2.1, g _ H2 z (by rw [rng_len]; exact hb.2.2.2.2) (by rw [Int.sub_zero]; exact walk_range)⟩
    · exact g.elim⟩
theorem it_range2 (C : Ct0 X N sc fb W) {a b : Expr} {ma mb : M Int} (h : EV X W Γ a ma) (h2 : EV X W Γ b mb) (hg : gloB sc "range" = true) (hm : X.mg "range" = none) (pl : Pl a := by intro _ _; rfl) (pl2 : Pl b := by intro _ _; rfl) : IT X W Γ tg (.Call (.Name "range" p) [a, b] [] pos) (ma >>= fun lo => mb >>= fun hi => rngM lo hi) :=
  ⟨_, pi_range2 (gl_of C hg) hm (pa_cons pe_w (pa_cons pe_w pa_nil (pl2 _ _)) (pl _ _)) (by rw [pl [b] X.env, pl_one pl2]) (pl_one pl2 _), fun H0 Ox σ H en R q => h.bind en q fun n v H2 _ z en2 hv g => h2.bind en2 g fun n2 v2 H3 _ z2 _ hv2 g2 => by
    have ev := hv.1
    have ev2 := hv2.1
    subst ev ev2
    unfold rngM at g2
    split at g2
    · rename_i hb
      exact ⟨n, n2, rfl, ⟨hb.1, hb.2.1, hb.2.2.1, hb.2.2.2.1⟩, g2 _ H3 (z.trans z2) (by rw [rng_len]; exact hb.2.2.2.2) walk_range⟩
    · exact g2.elim⟩
/-- the signs of a text -/
def signs (x : Tx) : List Tx := x.l.map fun c => ⟨[c]⟩
theorem signs_at {x : Tx} {i : Nat} {y : Tx} (h : (signs x)[i]? = some y) : ∃ c, x.l[i]? = some c ∧ y = ⟨[c]⟩ := by
  unfold signs at h
  rw [List.getElem?_map] at h
  cases e : x.l[i]? with
  | none => rw [e] at h; cases h
  | some c => rw [e] at h; exact ⟨c, rfl, (Option.some.inj h).symm⟩
theorem okT_sign {x : Tx} {i c : Nat} (h : okT x) (hi : x.l[i]? = some c) : okT ⟨[c]⟩ := okT_one h (List.mem_of_getElem? hi)
theorem walk_str {K : Fg} {G : Hp} {x : Tx} (hx : okT x) : WalkOk K (Its (sT x)) G (signs x) := fun i H' e =>
  ⟨fun y hi => by
    obtain ⟨c, hc, ey⟩ := signs_at hi
    subst ey
    have hlt : i < x.l.length := (List.getElem?_eq_some_iff.mp hc).1
    refine ⟨by show i < x.l.toArray.size; rw [List.size_toArray]; exact hlt, fun u H'' yy => ?_⟩
    obtain ⟨e1, c2, h2, e2⟩ := yy
    have h2' : x.l[i]? = some c2 := by
      have : x.l.toArray[i]? = some c2 := h2
      simpa using this
    rw [hc] at h2'
    cases h2'
    subst e1 e2
    exact ⟨Ex.refl _, fun O _ eg => ⟨rfl, okT_sign hx hc⟩⟩, fun hi => by
    show x.l.toArray.size ≤ i
    rw [hi, List.size_toArray]
    show _ ≤ (x.l.map _).length
    rw [List.length_map]
    exact Nat.le_refl _⟩
theorem it_str {m : M Tx} (h : EV X W Γ e m) : IT X W Γ tg e (m >>= fun x => .ok (signs x)) :=
  ⟨_, pi_str pe_w, fun H0 Ox σ H en R q => h.bind en q fun x v H2 _ z _ hv g => by
    have ev := hv.1
    subst ev
    exact ⟨sT x, rfl, g _ H2 z (by show (x.l.map _).length ≤ _; rw [List.length_map]; exact hv.2.1) (walk_str hv.2)⟩⟩

/-! pairs that an iterator hands out: zip, enumerate -/
/-- a source: a list at an address, a text with its token -/
inductive Src where
  | lst (a : Addr)
  | txt (z : Str) (t : Tok)
def srcAt (K : Fg) (H : Hp) : Src → List V → Prop
  | .lst a, xs => SqL K H a xs
  | .txt z _, xs => xs = z.cps.toList.map fun c => V.str ⟨#[c]⟩
def fpx : Src → List Addr
  | .lst a => [a]
  | .txt _ _ => []
def ipart : Src → Addr → Nat → Heap → Prop
  | .lst a, it, i, h => h.IsListIter it a i
  | .txt z t, it, i, h => h.IsStrIter it (strIterType z) z t i
theorem ipart.at {src : Src} {it : Addr} {i : Nat} {h h' : Heap} (p : ipart src it i h) (k : ∀ o, h.get? it = some o → h'.get? it = some o) : ipart src it i h' := by
  cases src with
  | lst a =>
    obtain ⟨o, e1, e2, e3⟩ := p
    exact ⟨o, k o e1, e2, e3⟩
  | txt z t =>
    obtain ⟨o, e1, e2⟩ := p
    exact ⟨o, k o e1, e2⟩
theorem ipart.ob {src : Src} {it : Addr} {i : Nat} {h : Heap} (p : ipart src it i h) : ∃ o, h.get? it = some o ∧ ∀ v, o.data ≠ .cell v := by
  cases src with
  | lst a =>
    obtain ⟨o, e1, e2, e3⟩ := p
    exact ⟨o, e1, fun v q => by rw [e3] at q; cases q⟩
  | txt z t =>
    obtain ⟨o, e1, e2, e3⟩ := p
    exact ⟨o, e1, fun v q => by rw [e3] at q; cases q⟩
theorem srcAt.inj {pins : List (Addr × Obj)} {σ : L2.St} {H : Hp} {s : Shared} (I : Inv X pins σ H s) {src : Src} {xs ys : List V} (h1 : srcAt X.K H src xs) (h2 : srcAt X.K H src ys) : xs = ys := by
  cases src with
  | lst a => exact I.list_inj h1 h2
  | txt z t => exact h1.trans h2.symm
theorem Draws.imp {prog : Program} {w : World} {A : Around} {it : Addr} {fp : List Addr} {n m : Nat} {P P' : Nat → Value → Prop} {St : Nat → Heap → Prop} (D : Draws prog w A it fp n P St) (hn : n = m) (h : ∀ i v, P i v → P' i v) : Draws prog w A it fp m P' St := by
  subst hn
  exact ⟨D.live, D.frame, fun i s Q E hi st hQ => D.item i s Q E hi st fun x h' tk p => hQ x h' tk (h i x p), D.done⟩
theorem src_draws {pins : List (Addr × Obj)} {σ : L2.St} {H : Hp} {s : Shared} (I : Inv X pins σ H s) {src : Src} {xs : List V} (hs : srcAt X.K H src xs) {A : Around} (hh : A.handled = none) (it : Addr) (hne : ∀ a ∈ fpx src, a ≠ it) :
    ∃ L : Heap → Prop, L s.heap ∧ Draws X.prog X.w A it (it :: fpx src) xs.length (fun i v => ∃ x, xs[i]? = some x ∧ RelV x v) (fun i h => ipart src it i h ∧ L h) := by
  cases src with
  | lst a =>
    obtain ⟨its, r, pl, hz⟩ := I.list hs
    refine ⟨fun h => h.IsList a its.toArray, pl.isList, Draws.imp (Draws.list hh it a (hne a List.mem_cons_self) its.toArray) (by rw [List.size_toArray, r.length]) fun i v h => ?_⟩
    have h' : its[i]? = some v := by simpa using h
    have hi : i < xs.length := by rw [r.length]; exact (List.getElem?_eq_some_iff.mp h').1
    obtain ⟨u, hu, ru⟩ := r.get (List.getElem?_eq_getElem hi)
    rw [h'] at hu
    cases hu
    exact ⟨_, List.getElem?_eq_getElem hi, ru⟩
  | txt z t =>
    have e : xs = z.cps.toList.map fun c => V.str ⟨#[c]⟩ := hs
    subst e
    have D := Draws.imp (P' := fun i v => ∃ x, (z.cps.toList.map fun c => V.str ⟨#[c]⟩)[i]? = some x ∧ RelV x v) (Draws.text (prog := X.prog) (w := X.w) hh it z t) (m := (z.cps.toList.map fun c => V.str ⟨#[c]⟩).length) (by simp) fun i v h => by
      obtain ⟨c, u, h1, h2⟩ := h
      subst h2
      refine ⟨.str ⟨#[c]⟩, ?_, u, rfl⟩
      rw [List.getElem?_map, Array.getElem?_toList, h1]
      rfl
    exact ⟨fun _ => True, trivial, ⟨fun i h st => D.live i h st.1, fun i h h' st k => ⟨D.frame i h h' st.1 k, trivial⟩, fun i s Q E hi st hQ => D.item i s Q E hi st.1 fun x h' tk p st' => hQ x h' tk p ⟨st', trivial⟩, fun s Q E st => D.done s Q E st.1⟩⟩

/-- a Turn from the library's walk of tuples -/
theorem turn_walksT {P : Program} {w : World} {K : Fg} {elts : List Expr} {kk : Nat} {tpos : Pos} {J : It} {fp wr : List Addr} {it : Addr} {tn : Nat → Heap → Prop} (hmem : it ∈ fp) (hsub : ∀ b ∈ wr, b ∈ fp)
    (obj : ∀ i h, tn i h → ∀ b ∈ fp, ∃ o, h.get? b = some o ∧ ∀ v, o.data ≠ .cell v)
    (keep : ∀ i h h', tn i h → (∀ b ∈ fp, ∀ o, h.get? b = some o → h'.get? b = some o) → tn i h')
    (step : ∀ (X : Cx), X.prog = P → X.w = w → X.K = K → X.calm = true → ∀ (i : Nat) (pins : List (Addr × Obj)) (s : Shared) (σ : L2.St) (H : Hp), Inv X pins σ H s → tn i s.heap → J.go i H →
      ∃ (fpW : List Addr) (n : Nat) (Pt : Nat → Array Value → Prop) (St : Nat → Heap → Prop) (Mid : Nat → Addr → Heap → Prop), WalksT P w X.A it fpW wr n Pt St Mid ∧ i < n ∧ St i s.heap ∧ (∀ h', St (i + 1) h' → tn (i + 1) h') ∧
        ∀ vals, Pt i vals → ∃ xs : List V, Vals xs vals.toList ∧ xs.length ≤ 10 ∧ ∀ T, H T = none → J.yld i H (.ref T) (upd H T (.tup xs)))
    (halt : ∀ (X : Cx), X.prog = P → X.w = w → X.K = K → X.calm = true → ∀ (i : Nat) (pins : List (Addr × Obj)) (s : Shared) (σ : L2.St) (H : Hp), Inv X pins σ H s → tn i s.heap → J.stop i H →
      ∃ (fpW : List Addr) (n : Nat) (Pt : Nat → Array Value → Prop) (St : Nat → Heap → Prop) (Mid : Nat → Addr → Heap → Prop), WalksT P w X.A it fpW wr n Pt St Mid ∧ St n s.heap)
    (self : ∀ (A : Around) (i : Nat) (s : Shared) (Q : Value → Shared → Prop) (E : Value → Shared → Prop), tn i s.heap → Q (.ref it) s → wpAny (model P w) A (pyIter (.ref it)) Q E s) :
    Turn P w K (.Tuple elts kk tpos) J fp it tn where
  mem := hmem
  obj := obj
  keep := keep
  item := fun X hP hw hK hc i pins s σ H E I hf st hg => by
    obtain ⟨fpW, n, Pt, St, Mid, Wk, hi, hS, hT, hV⟩ := step X hP hw hK hc i pins s σ H I st hg
    refine Wk.item i s _ _ hi hS fun T vals h' tk hPt hsz hTup hMid hk => ⟨.ref T, rfl, ?_⟩
    refine Wk.go elts kk tpos i T { s with heap := h', toks := tk } _ _ hMid fun h'' hS2 hk2 => ?_
    obtain ⟨xs, rv, hl, hy⟩ := hV vals hPt
    have hTn : H T = none := I.hok.fresh hsz
    have nT : T ∉ wr := Wk.apart i T h' hMid
    subst hP hw
    have hT2 : h''.IsTuple T vals := by
      obtain ⟨o, e1, e2⟩ := hTup
      exact ⟨o, hk2 T o nT e1, e2⟩
    have new : ObjOk X.prog X.w (upd H T (.tup xs)) h'' T (.tup xs) := ⟨Nat.le_trans hl (by decide), vals.toList, rv, hT2⟩
    have I1 : Inv X pins σ (upd H T (.tup xs)) { s with heap := h'', toks := tk } :=
      I.turnedNew (t' := tk) (ch := wr) (fun b o hb q => hk2 b o hb (hk b o hb q)) (fun b hb => hf b (hsub b hb)) hsz new
    refine ⟨.ref T, _, I1, rfl, hy T hTn, hT h'' hS2, fun b hb => ?_⟩
    obtain ⟨o, ho, _⟩ := obj i s.heap st b hb
    rw [upd_ne (Nat.ne_of_lt (Nat.lt_of_lt_of_le (Heap.lt_size ho) hsz))]
    exact (hf b hb).1
  done := fun X hP hw hK hc i pins s σ H E I hf st hg => by
    obtain ⟨fpW, n, Pt, St, Mid, Wk, hS⟩ := halt X hP hw hK hc i pins s σ H I st hg
    refine Wk.done s _ _ hS fun h' tk hk => ⟨rfl, ?_⟩
    exact I.turnedL (t' := tk) (ch := wr) (fun b o hb q => hk b o hb q) fun b hb => hf b (hsub b hb)
  self := self

def srcVal : Src → Value
  | .lst a => .ref a
  | .txt z t => .str z t
/-- what can be walked: a list, a text -/
class Sq (S : Type) [Den S] (α : outParam Type) [Den α] where
  items : S → List α
  src : ∀ {K : Fg} {H : Hp} {v : V} {x : S} {u : Value}, den K H v x → RelV v u → ∃ (r : Src) (vs : List V), u = srcVal r ∧ srcAt K H r vs ∧ All2 (den K H) vs (items x) ∧ (items x).length ≤ sizeLine
instance {α : Type} [Den α] : Sq (List α) α where
  items := id
  src := fun {K H v x u} h r => by
    obtain ⟨a, vs, e, h1, h2, h3⟩ := h
    subst e
    cases r
    exact ⟨.lst a, vs, rfl, h1, h2, h3⟩
theorem signs_den {K : Fg} {H : Hp} : ∀ {l : Txt}, l.all (fun c => decide (c < 0x110000)) = true → All2 (den K H) (l.map fun c => V.str ⟨#[c]⟩) (l.map fun c => (⟨[c]⟩ : Tx))
  | [], _ => .nil
  | c :: l, h => by
    rw [List.all_cons, Bool.and_eq_true] at h
    exact .cons ⟨rfl, by show 1 ≤ sizeLine; decide, by simpa using h.1⟩ (signs_den h.2)
instance : Sq Tx Tx where
  items := signs
  src := fun {K H v x u} h r => by
    have e := h.1
    subst e
    obtain ⟨t, rfl⟩ := r
    exact ⟨.txt (sT x) t, _, rfl, rfl, signs_den h.2.2, by unfold signs; rw [List.length_map]; exact h.2.1⟩
theorem srcAt.mono {K : Fg} {H H' : Hp} {r : Src} {vs : List V} (e : Ex H H') (h : srcAt K H r vs) : srcAt K H' r vs := by
  cases r with
  | lst a => exact ex_l e h
  | txt z t => exact h
theorem src_begins {pins : List (Addr × Obj)} {σ : L2.St} {H : Hp} {s : Shared} (I : Inv X pins σ H s) {r : Src} {vs : List V} (hs : srcAt X.K H r vs) :
    ∃ (o : Obj) (Hs : Heap → Prop), Begins (srcVal r) o Hs ∧ Hs s.heap ∧ (∀ it h', h'.get? it = some o → ipart r it 0 h') ∧ ∀ b ∈ fpx r, b < s.heap.objs.size := by
  cases r with
  | lst a =>
    obtain ⟨its, r, pl, hz⟩ := I.list hs
    exact ⟨_, _, begins_list a its.toArray, pl.isList, fun it h' e => ⟨_, e, rfl, rfl⟩, fun b hb => by rw [List.mem_singleton.mp hb]; exact pl.lt⟩
  | txt z t => exact ⟨_, _, begins_text z t, trivial, fun it h' e => ⟨_, e, rfl, rfl⟩, fun b hb => by cases hb⟩

/-- pairs of the items of two sources -/
def Jz (K : Fg) (r1 r2 : Src) : It :=
  ⟨fun i H => ∃ xs ys x y, srcAt K H r1 xs ∧ srcAt K H r2 ys ∧ xs[i]? = some x ∧ ys[i]? = some y,
    fun i H v H' => ∃ T x y, v = .ref T ∧ H T = none ∧ H' = upd H T (.tup [x, y]) ∧ (∀ xs, srcAt K H r1 xs → xs[i]? = some x) ∧ ∀ ys, srcAt K H r2 ys → ys[i]? = some y,
    fun i H => ∃ xs ys, srcAt K H r1 xs ∧ srcAt K H r2 ys ∧ i = min xs.length ys.length⟩
theorem turn_z2 {P : Program} {w : World} {K : Fg} {elts : List Expr} {kk : Nat} {tpos : Pos} {r1 r2 : Src} {z TI TO i1 i2 : Addr} (S : ZipSep2 z TI TO i1 i2 (i1 :: fpx r1) (i2 :: fpx r2)) (d1 : ∀ a ∈ fpx r1, a ≠ i1) (d2 : ∀ a ∈ fpx r2, a ≠ i2) :
    Turn P w K (.Tuple elts kk tpos) (Jz K r1 r2) [z, TI, TO, i1, i2] z (fun i h => IsZip h z TI TO .none ∧ IsTupOf2 h TI (.ref i1) (.ref i2) ∧ (∃ a1 a2, IsTupOf2 h TO a1 a2) ∧ ipart r1 i1 i h ∧ ipart r2 i2 i h) := by
  refine turn_walksT (wr := [z, TO, i1, i2]) (by simp) (fun b hb => ?_) (fun i h st b hb => ?_) (fun i h h' st k => ?_) ?_ ?_ ?_
  · have : b = z ∨ b = TO ∨ b = i1 ∨ b = i2 := by simpa using hb
    rcases this with e | e | e | e <;> simp [e]
  · obtain ⟨hz, hTI, ⟨x, y, hTO⟩, p1, p2⟩ := st
    have : b = z ∨ b = TI ∨ b = TO ∨ b = i1 ∨ b = i2 := by simpa using hb
    rcases this with e | e | e | e | e
    · rw [e]; exact ⟨_, hz, fun v q => nomatch q⟩
    · rw [e]; exact ⟨_, hTI, fun v q => nomatch q⟩
    · rw [e]; exact ⟨_, hTO, fun v q => nomatch q⟩
    · rw [e]; exact p1.ob
    · rw [e]; exact p2.ob
  · obtain ⟨hz, hTI, ⟨x, y, hTO⟩, p1, p2⟩ := st
    exact ⟨k z (by simp) _ hz, k TI (by simp) _ hTI, ⟨x, y, k TO (by simp) _ hTO⟩, p1.at (k i1 (by simp)), p2.at (k i2 (by simp))⟩
  · intro X hP hw hK hc i pins s σ H I st hg
    subst hP hw hK
    obtain ⟨hz, hTI, hTO, p1, p2⟩ := st
    obtain ⟨xs, ys, x, y, q1, q2, hx, hy⟩ := hg
    obtain ⟨L1, l1, D1⟩ := src_draws I q1 (A := X.A.in1) (I.ok.hd hc) i1 d1
    obtain ⟨L2', l2, D2⟩ := src_draws I q2 (A := X.A.in1) (I.ok.hd hc) i2 d2
    refine ⟨_, _, _, _, _, WalksT.zipD2 S D1 D2, ?_, ⟨hz, hTI, hTO, ⟨p1, l1⟩, ⟨p2, l2⟩⟩, fun h' ⟨a, b, c, d, e⟩ => ⟨a, b, c, d.1, e.1⟩, fun vals hv => ?_⟩
    · exact Nat.lt_min.mpr ⟨(List.getElem?_eq_some_iff.mp hx).1, (List.getElem?_eq_some_iff.mp hy).1⟩
    · obtain ⟨u1, u2, ⟨x', hx', rx⟩, ⟨y', hy', ry⟩, ev⟩ := hv
      rw [hx] at hx'
      rw [hy] at hy'
      cases hx'
      cases hy'
      subst ev
      exact ⟨[x, y], .cons rx (.cons ry .nil), by show 2 ≤ 10; decide, fun T hT => ⟨T, x, y, rfl, hT, rfl, fun zs hz2 => by rw [srcAt.inj I hz2 q1]; exact hx, fun zs hz2 => by rw [srcAt.inj I hz2 q2]; exact hy⟩⟩
  · intro X hP hw hK hc i pins s σ H I st hg
    subst hP hw hK
    obtain ⟨hz, hTI, hTO, p1, p2⟩ := st
    obtain ⟨xs, ys, q1, q2, hi⟩ := hg
    obtain ⟨L1, l1, D1⟩ := src_draws I q1 (A := X.A.in1) (I.ok.hd hc) i1 d1
    obtain ⟨L2', l2, D2⟩ := src_draws I q2 (A := X.A.in1) (I.ok.hd hc) i2 d2
    refine ⟨_, _, _, _, _, WalksT.zipD2 S D1 D2, ?_⟩
    rw [← hi]
    exact ⟨hz, hTI, hTO, ⟨p1, l1⟩, ⟨p2, l2⟩⟩
  · intro A i s Q E st h
    exact wpAny_pyIter_zip st.1 h
theorem all2_zip {α β : Type} [Den α] [Den β] {K : Fg} {G : Hp} {xs : List α} {ys : List β} {i : Nat} {p : P2 α β} (h : (List.zipWith (fun a b => (⟨a, b⟩ : P2 α β)) xs ys)[i]? = some p) : xs[i]? = some p.a ∧ ys[i]? = some p.b := by
  rw [List.getElem?_zipWith] at h
  cases e1 : xs[i]? with
  | none => rw [e1] at h; simp at h
  | some a =>
    cases e2 : ys[i]? with
    | none => rw [e1, e2] at h; simp at h
    | some b =>
      rw [e1, e2] at h
      have := Option.some.inj h
      subst this
      exact ⟨rfl, rfl⟩
theorem walk_z2 {α β : Type} [Den α] [Den β] {K : Fg} {G : Hp} {r1 r2 : Src} {us vs : List V} {xs : List α} {ys : List β} (h1 : srcAt K G r1 us) (h2 : srcAt K G r2 vs) (a1 : All2 (den K G) us xs) (a2 : All2 (den K G) vs ys) :
    WalkOk K (Jz K r1 r2) G (List.zipWith (fun a b => (⟨a, b⟩ : P2 α β)) xs ys) := fun i H' e =>
  ⟨fun p hi => by
    obtain ⟨e1, e2⟩ := all2_zip (K := K) (G := G) hi
    obtain ⟨u, hu, du⟩ := a1.ta_ e1
    obtain ⟨v, hv, dv⟩ := a2.ta_ e2
    refine ⟨⟨us, vs, u, v, h1.mono e, h2.mono e, hu, hv⟩, fun t H'' y => ?_⟩
    obtain ⟨T, x', y', et, hT, eH, y1, y2⟩ := y
    have q1 := y1 us (h1.mono e)
    have q2 := y2 vs (h2.mono e)
    rw [hu] at q1
    rw [hv] at q2
    cases q1
    cases q2
    subst et eH
    refine ⟨Ex.new hT, fun O hO eg => ⟨T, u, v, rfl, Or.inl (Or.inl ?_), Den.mono (eg.trans (hide_ex (Ex.new hT))) du, Den.mono (eg.trans (hide_ex (Ex.new hT))) dv⟩⟩
    rw [hide_out fun z => hO T z hT]
    exact upd_same, fun hi => by
    refine ⟨us, vs, h1.mono e, h2.mono e, ?_⟩
    rw [hi, List.length_zipWith, a1.len, a2.len]⟩
theorem it_zip2 (C : Ct0 X N sc fb W) {S1 S2 α β : Type} [Den S1] [Den S2] [Den α] [Den β] [Sq S1 α] [Sq S2 β] {a b : Expr} {elts : List Expr} {kk : Nat} {tpos : Pos} {ma : M S1} {mb : M S2} (ha : EV X W Γ a ma) (hb : EV X W Γ b mb) (hg : gloB sc "zip" = true) (hm : X.mg "zip" = none)
    (pl : Pl a := by intro _ _; rfl) (pl2 : Pl b := by intro _ _; rfl) :
    IT X W Γ (.Tuple elts kk tpos) (.Call (.Name "zip" p) [a, b] [] pos) (ma >>= fun x => mb >>= fun y => .ok (List.zipWith (fun (a : α) (b : β) => (⟨a, b⟩ : P2 α β)) (Sq.items x) (Sq.items y))) := by
  refine ⟨fun σ H R => ∀ pins s, Inv X pins σ H s → wpAny (model X.prog X.w) X.A (eval (.Call (.Name "zip" p) [a, b] [] pos) X.env) (fun v s1 => wpAny (model X.prog X.w) X.A (pyIter v) (PIE X pins σ (.Tuple elts kk tpos) R) X.xe s1) X.xe s, ⟨fun pins s σ H R I h => h pins s I⟩, fun H0 Ox σ H en R q pins s I => ?_⟩
  refine Call_ (ld_blt I (gl_of C hg) hm PyProof.Rows.boot_zip (PyProof.Rows.callWith_type1 ?_ (pl _ _) (PlL.cons pl2 PlL.nil _ _)))
  have args : PA X [a, b] (tCons (we X a) (tCons (we X b) tNil)) := pa_cons pe_w (pa_cons pe_w pa_nil (pl2 _ _)) (pl _ _)
  have rd : (tCons (we X a) (tCons (we X b) tNil)) σ H (fun vs H3 => ∃ v1 v2 x y, vs = [v1, v2] ∧ Ex H H3 ∧ Env X.K H0 Ox Γ σ H3 ∧ den X.K (hide (Ox ++ owns Γ σ) H3) v1 x ∧ den X.K (hide (Ox ++ owns Γ σ) H3) v2 y ∧
      ∀ J H2, Ex H H2 → (List.zipWith (fun (a : α) (b : β) => (⟨a, b⟩ : P2 α β)) (Sq.items x) (Sq.items y)).length ≤ sizeLine → WalkOk X.K J (hide (Ox ++ owns Γ σ) H2) (List.zipWith (fun (a : α) (b : β) => (⟨a, b⟩ : P2 α β)) (Sq.items x) (Sq.items y)) → R J H2) :=
    ha.bind en q fun x v1 H2 _ z2 en2 hv g => hb.bind en2 g fun y v2 H3 _ z3 en3 hu g2 => ⟨v1, v2, x, y, rfl, z2.trans z3, en3, Den.mono (hide_ex z3) hv, hu, g2⟩
  refine thn (args.run pos pins s σ H _ I rd) fun us s1 ⟨vs, H1, I1, r1, v1, v2, x, y, evs, z, en1, d1, d2, g⟩ => ?_
  subst evs
  cases r1 with
  | cons ru rr =>
    cases rr with
    | cons ru2 rr =>
      cases rr
      obtain ⟨q1, ws1, e1, s1', a1, l1⟩ := Sq.src d1 ru
      obtain ⟨q2, ws2, e2, s2', a2, l2⟩ := Sq.src d2 ru2
      subst e1 e2
      obtain ⟨o1, Hs1, B1, hs1, ip1, lt1⟩ := src_begins I1 (s1'.mono hide_le)
      obtain ⟨o2, Hs2, B2, hs2, ip2, lt2⟩ := src_begins I1 (s2'.mono hide_le)
      refine zip_begins2 B1 B2 hs1 hs2 fun h' hz hTI hTO ho1 ho2 hsz hk => wpAny_pyIter_zip hz ?_
      have I2 : Inv X pins σ H1 { s1 with heap := h' } := I1.kept (t' := s1.toks) hk
      refine ⟨s1.heap.objs.size + 4, [s1.heap.objs.size + 4, s1.heap.objs.size + 2, s1.heap.objs.size + 3, s1.heap.objs.size, s1.heap.objs.size + 1], _, Jz X.K q1 q2, H1, rfl, I2,
        turn_z2 (zip_sep2 lt1 lt2) (fun a ha => Nat.ne_of_lt (lt1 a ha)) (fun a ha => Nat.ne_of_lt (Nat.lt_succ_of_lt (lt2 a ha))), ⟨hz, hTI, ⟨_, _, hTO⟩, ip1 _ _ ho1, ip2 _ _ ho2⟩, fun c hcm => ?_, ?_⟩
      · have hle : s1.heap.objs.size ≤ c := by
          have : c = s1.heap.objs.size + 4 ∨ c = s1.heap.objs.size + 2 ∨ c = s1.heap.objs.size + 3 ∨ c = s1.heap.objs.size ∨ c = s1.heap.objs.size + 1 := by simpa using hcm
          rcases this with z | z | z | z | z <;> rw [z] <;> first | exact Nat.le_add_right _ _ | exact Nat.le_refl _
        exact I1.fpOk hle (I1.hok.fresh hle)
      · refine g _ H1 z ?_ (walk_z2 s1' s2' a1 a2)
        rw [List.length_zipWith]
        omega

/-! enumerate -/
def Je (K : Fg) (r : Src) : It :=
  ⟨fun i H => ∃ xs x, srcAt K H r xs ∧ xs[i]? = some x,
    fun i H v H' => ∃ T x, v = .ref T ∧ H T = none ∧ H' = upd H T (.tup [.int (i : Int), x]) ∧ ∀ xs, srcAt K H r xs → xs[i]? = some x,
    fun i H => ∃ xs, srcAt K H r xs ∧ i = xs.length⟩
theorem turn_en {P : Program} {w : World} {K : Fg} {elts : List Expr} {kk : Nat} {tpos : Pos} {r : Src} {e it : Addr} (ne : e ≠ it) (nf : e ∉ it :: fpx r) (d : ∀ a ∈ fpx r, a ≠ it) :
    Turn P w K (.Tuple elts kk tpos) (Je K r) [e, it] e (fun i h => (∃ old, IsEnum h e it ((0 : Int) + (i : Int)) old) ∧ ipart r it i h) := by
  refine turn_walksT (wr := [e, it]) (by simp) (fun b hb => hb) (fun i h st b hb => ?_) (fun i h h' st k => ?_) ?_ ?_ ?_
  · obtain ⟨⟨old, he⟩, p1⟩ := st
    have : b = e ∨ b = it := by simpa using hb
    rcases this with z | z
    · rw [z]; exact ⟨_, he, fun v q => nomatch q⟩
    · rw [z]; exact p1.ob
  · obtain ⟨⟨old, he⟩, p1⟩ := st
    exact ⟨⟨old, k e (by simp) _ he⟩, p1.at (k it (by simp))⟩
  · intro X hP hw hK hc i pins s σ H I st hg
    subst hP hw hK
    obtain ⟨he, p1⟩ := st
    obtain ⟨xs, x, q1, hx⟩ := hg
    obtain ⟨L1, l1, D1⟩ := src_draws I q1 (A := X.A.in1) (I.ok.hd hc) it d
    refine ⟨_, _, _, _, _, WalksT.enumFrom 0 D1 e ne nf List.mem_cons_self, (List.getElem?_eq_some_iff.mp hx).1, ⟨he, p1, l1⟩, fun h' ⟨a, b⟩ => ⟨a, b.1⟩, fun vals hv => ?_⟩
    obtain ⟨t, u, ⟨x', hx', rx⟩, ev⟩ := hv
    rw [hx] at hx'
    cases hx'
    subst ev
    refine ⟨[.int (i : Int), x], .cons ⟨t, by rw [Int.zero_add]⟩ (.cons rx .nil), by show 2 ≤ 10; decide, fun T hT => ⟨T, x, rfl, hT, rfl, fun zs hz2 => by rw [srcAt.inj I hz2 q1]; exact hx⟩⟩
  · intro X hP hw hK hc i pins s σ H I st hg
    subst hP hw hK
    obtain ⟨he, p1⟩ := st
    obtain ⟨xs, q1, hi⟩ := hg
    obtain ⟨L1, l1, D1⟩ := src_draws I q1 (A := X.A.in1) (I.ok.hd hc) it d
    refine ⟨_, _, _, _, _, WalksT.enumFrom 0 D1 e ne nf List.mem_cons_self, ?_⟩
    rw [← hi]
    exact ⟨he, p1, l1⟩
  · intro A i s Q E st h
    obtain ⟨⟨old, he⟩, p1⟩ := st
    exact wpAny_pyIter_enum he h
def enumL {α : Type} (xs : List α) : List (P2 Int α) := List.zipWith (fun (i : Nat) (x : α) => ⟨(i : Int), x⟩) (List.range xs.length) xs
theorem enumL_len {α : Type} (xs : List α) : (enumL xs).length = xs.length := by
  unfold enumL
  rw [List.length_zipWith, List.length_range, Nat.min_self]
theorem enumL_at {α : Type} {xs : List α} {i : Nat} {p : P2 Int α} (h : (enumL xs)[i]? = some p) : p.a = (i : Int) ∧ xs[i]? = some p.b := by
  unfold enumL at h
  rw [List.getElem?_zipWith] at h
  by_cases hi : i < xs.length
  · rw [List.getElem?_range hi, List.getElem?_eq_getElem hi] at h
    have e := Option.some.inj h
    subst e
    exact ⟨rfl, List.getElem?_eq_getElem hi⟩
  · rw [List.getElem?_eq_none (by simpa using hi)] at h
    simp at h
theorem walk_en {α : Type} [Den α] {K : Fg} {G : Hp} {r : Src} {us : List V} {xs : List α} (h1 : srcAt K G r us) (a1 : All2 (den K G) us xs) : WalkOk K (Je K r) G (enumL xs) := fun i H' e =>
  ⟨fun p hi => by
    obtain ⟨e1, e2⟩ := enumL_at hi
    obtain ⟨u, hu, du⟩ := a1.ta_ e2
    refine ⟨⟨us, u, h1.mono e, hu⟩, fun t H'' y => ?_⟩
    obtain ⟨T, x', et, hT, eH, y1⟩ := y
    have q1 := y1 us (h1.mono e)
    rw [hu] at q1
    cases q1
    subst et eH
    refine ⟨Ex.new hT, fun O hO eg => ⟨T, .int (i : Int), u, rfl, Or.inl (Or.inl ?_), ⟨by rw [e1], trivial⟩, Den.mono (eg.trans (hide_ex (Ex.new hT))) du⟩⟩
    rw [hide_out fun z => hO T z hT]
    exact upd_same, fun hi => ⟨us, h1.mono e, by rw [hi, enumL_len, a1.len]⟩⟩
theorem it_enum (C : Ct0 X N sc fb W) {S1 α : Type} [Den S1] [Den α] [Sq S1 α] {a : Expr} {elts : List Expr} {kk : Nat} {tpos : Pos} {ma : M S1} (ha : EV X W Γ a ma) (hg : gloB sc "enumerate" = true) (hm : X.mg "enumerate" = none)
    (pl : Pl a := by intro _ _; rfl) :
    IT X W Γ (.Tuple elts kk tpos) (.Call (.Name "enumerate" p) [a] [] pos) (ma >>= fun x => .ok (enumL (Sq.items x : List α))) := by
  refine ⟨fun σ H R => ∀ pins s, Inv X pins σ H s → wpAny (model X.prog X.w) X.A (eval (.Call (.Name "enumerate" p) [a] [] pos) X.env) (fun v s1 => wpAny (model X.prog X.w) X.A (pyIter v) (PIE X pins σ (.Tuple elts kk tpos) R) X.xe s1) X.xe s, ⟨fun pins s σ H R I h => h pins s I⟩, fun H0 Ox σ H en R q pins s I => ?_⟩
  refine Call_ (ld_blt I (gl_of C hg) hm boot_enumerate (PyProof.Rows.callWith_type1 ?_ (pl _ _) (PlL.nil _ _)))
  have args : PA X [a] (tCons (we X a) tNil) := pa_cons pe_w pa_nil (pl _ _)
  have rd : (tCons (we X a) tNil) σ H (fun vs H3 => ∃ v1 x, vs = [v1] ∧ Ex H H3 ∧ Env X.K H0 Ox Γ σ H3 ∧ den X.K (hide (Ox ++ owns Γ σ) H3) v1 x ∧
      ∀ J H2, Ex H H2 → (enumL (Sq.items x : List α)).length ≤ sizeLine → WalkOk X.K J (hide (Ox ++ owns Γ σ) H2) (enumL (Sq.items x : List α)) → R J H2) :=
    ha.bind en q fun x v1 H2 _ z2 en2 hv g => ⟨v1, x, rfl, z2, en2, hv, g⟩
  refine thn (args.run pos pins s σ H _ I rd) fun us s1 ⟨vs, H1, I1, r1, v1, x, evs, z, en1, d1, g⟩ => ?_
  subst evs
  cases r1 with
  | cons ru rr =>
    cases rr
    obtain ⟨q1, ws1, e1, s1', a1, l1⟩ := Sq.src d1 ru
    subst e1
    have fin : ∀ h', IsEnum h' (s1.heap.objs.size + 1) s1.heap.objs.size 0 .none → ipart q1 s1.heap.objs.size 0 h' → (∀ b ∈ fpx q1, b < s1.heap.objs.size) → (∀ b o, s1.heap.get? b = some o → h'.get? b = some o) →
        wpAny (model X.prog X.w) X.A (pyIter (.ref (s1.heap.objs.size + 1))) (PIE X pins σ (.Tuple elts kk tpos) R) X.xe { s1 with heap := h' } := fun h' he ip lt hk => by
      refine wpAny_pyIter_enum he ?_
      have I2 : Inv X pins σ H1 { s1 with heap := h' } := I1.kept (t' := s1.toks) hk
      refine ⟨s1.heap.objs.size + 1, [s1.heap.objs.size + 1, s1.heap.objs.size], _, Je X.K q1, H1, rfl, I2, turn_en (r := q1) (e := s1.heap.objs.size + 1) (it := s1.heap.objs.size) (Nat.succ_ne_self _) (fun hmem => ?_) (fun a ha => Nat.ne_of_lt (lt a ha)), ⟨⟨.none, he⟩, ip⟩, fun c hcm => ?_, ?_⟩
      · rcases List.mem_cons.mp hmem with z | z
        · exact Nat.succ_ne_self _ z
        · exact absurd (lt _ z) (by show ¬ (s1.heap.objs.size + 1 < s1.heap.objs.size); omega)
      · have hle : s1.heap.objs.size ≤ c := by
          have : c = s1.heap.objs.size + 1 ∨ c = s1.heap.objs.size := by simpa using hcm
          rcases this with z | z <;> rw [z] <;> first | exact Nat.le_add_right _ _ | exact Nat.le_refl _
        exact I1.fpOk hle (I1.hok.fresh hle)
      · exact g _ H1 z (by rw [enumL_len]; exact l1) (walk_en s1' a1)
    cases q1 with
    | lst l =>
      obtain ⟨its, rv, pl', hz⟩ := I1.list (srcAt.mono (r := .lst l) hide_le s1')
      exact call_enumerate_list pl'.isList fun h' he hit hsz hk => fin h' he hit (fun b hb => by rw [List.mem_singleton.mp hb]; exact pl'.lt) hk
    | txt z' t => exact call_enumerate_str fun h' he hit hsz hk => fin h' he hit (fun b hb => by cases hb) hk

/-! triples -/
def Jz3 (K : Fg) (r1 r2 r3 : Src) : It :=
  ⟨fun i H => ∃ xs ys zs x y z, srcAt K H r1 xs ∧ srcAt K H r2 ys ∧ srcAt K H r3 zs ∧ xs[i]? = some x ∧ ys[i]? = some y ∧ zs[i]? = some z,
    fun i H v H' => ∃ T x y z, v = .ref T ∧ H T = none ∧ H' = upd H T (.tup [x, y, z]) ∧ (∀ xs, srcAt K H r1 xs → xs[i]? = some x) ∧ (∀ ys, srcAt K H r2 ys → ys[i]? = some y) ∧ ∀ zs, srcAt K H r3 zs → zs[i]? = some z,
    fun i H => ∃ xs ys zs, srcAt K H r1 xs ∧ srcAt K H r2 ys ∧ srcAt K H r3 zs ∧ i = min (min xs.length ys.length) zs.length⟩
theorem turn_z3 {P : Program} {w : World} {K : Fg} {elts : List Expr} {kk : Nat} {tpos : Pos} {r1 r2 r3 : Src} {z TI TO i1 i2 i3 : Addr} (S : ZipSep3 z TI TO i1 i2 i3 (i1 :: fpx r1) (i2 :: fpx r2) (i3 :: fpx r3)) (d1 : ∀ a ∈ fpx r1, a ≠ i1) (d2 : ∀ a ∈ fpx r2, a ≠ i2) (d3 : ∀ a ∈ fpx r3, a ≠ i3) :
    Turn P w K (.Tuple elts kk tpos) (Jz3 K r1 r2 r3) [z, TI, TO, i1, i2, i3] z (fun i h => IsZip h z TI TO .none ∧ IsTupOf3 h TI (.ref i1) (.ref i2) (.ref i3) ∧ (∃ a1 a2 a3, IsTupOf3 h TO a1 a2 a3) ∧ ipart r1 i1 i h ∧ ipart r2 i2 i h ∧ ipart r3 i3 i h) := by
  refine turn_walksT (wr := [z, TO, i1, i2, i3]) (by simp) (fun b hb => ?_) (fun i h st b hb => ?_) (fun i h h' st k => ?_) ?_ ?_ ?_
  · have : b = z ∨ b = TO ∨ b = i1 ∨ b = i2 ∨ b = i3 := by simpa using hb
    rcases this with e | e | e | e | e <;> simp [e]
  · obtain ⟨hz, hTI, ⟨x, y, y3, hTO⟩, p1, p2, p3⟩ := st
    have : b = z ∨ b = TI ∨ b = TO ∨ b = i1 ∨ b = i2 ∨ b = i3 := by simpa using hb
    rcases this with e | e | e | e | e | e
    · rw [e]; exact ⟨_, hz, fun v q => nomatch q⟩
    · rw [e]; exact ⟨_, hTI, fun v q => nomatch q⟩
    · rw [e]; exact ⟨_, hTO, fun v q => nomatch q⟩
    · rw [e]; exact p1.ob
    · rw [e]; exact p2.ob
    · rw [e]; exact p3.ob
  · obtain ⟨hz, hTI, ⟨x, y, y3, hTO⟩, p1, p2, p3⟩ := st
    exact ⟨k z (by simp) _ hz, k TI (by simp) _ hTI, ⟨x, y, y3, k TO (by simp) _ hTO⟩, p1.at (k i1 (by simp)), p2.at (k i2 (by simp)), p3.at (k i3 (by simp))⟩
  · intro X hP hw hK hc i pins s σ H I st hg
    subst hP hw hK
    obtain ⟨hz, hTI, hTO, p1, p2, p3⟩ := st
    obtain ⟨xs, ys, zs, x, y, z', q1, q2, q3, hx, hy, hz'⟩ := hg
    obtain ⟨L1, l1, D1⟩ := src_draws I q1 (A := X.A.in1) (I.ok.hd hc) i1 d1
    obtain ⟨L2', l2, D2⟩ := src_draws I q2 (A := X.A.in1) (I.ok.hd hc) i2 d2
    obtain ⟨L3', l3, D3⟩ := src_draws I q3 (A := X.A.in1) (I.ok.hd hc) i3 d3
    refine ⟨_, _, _, _, _, WalksT.zipD3 S D1 D2 D3, ?_, ⟨hz, hTI, hTO, ⟨p1, l1⟩, ⟨p2, l2⟩, ⟨p3, l3⟩⟩, fun h' ⟨a, b, c, d, e, f⟩ => ⟨a, b, c, d.1, e.1, f.1⟩, fun vals hv => ?_⟩
    · exact Nat.lt_min.mpr ⟨Nat.lt_min.mpr ⟨(List.getElem?_eq_some_iff.mp hx).1, (List.getElem?_eq_some_iff.mp hy).1⟩, (List.getElem?_eq_some_iff.mp hz').1⟩
    · obtain ⟨u1, u2, u3, ⟨x', hx', rx⟩, ⟨y', hy', ry⟩, ⟨w', hw', rw'⟩, ev⟩ := hv
      rw [hx] at hx'
      rw [hy] at hy'
      rw [hz'] at hw'
      cases hx'
      cases hy'
      cases hw'
      subst ev
      exact ⟨[x, y, z'], .cons rx (.cons ry (.cons rw' .nil)), by show 3 ≤ 10; decide, fun T hT => ⟨T, x, y, z', rfl, hT, rfl, fun zs hz2 => by rw [srcAt.inj I hz2 q1]; exact hx, fun zs hz2 => by rw [srcAt.inj I hz2 q2]; exact hy, fun zs hz2 => by rw [srcAt.inj I hz2 q3]; exact hz'⟩⟩
  · intro X hP hw hK hc i pins s σ H I st hg
    subst hP hw hK
    obtain ⟨hz, hTI, hTO, p1, p2, p3⟩ := st
    obtain ⟨xs, ys, zs, q1, q2, q3, hi⟩ := hg
    obtain ⟨L1, l1, D1⟩ := src_draws I q1 (A := X.A.in1) (I.ok.hd hc) i1 d1
    obtain ⟨L2', l2, D2⟩ := src_draws I q2 (A := X.A.in1) (I.ok.hd hc) i2 d2
    obtain ⟨L3', l3, D3⟩ := src_draws I q3 (A := X.A.in1) (I.ok.hd hc) i3 d3
    refine ⟨_, _, _, _, _, WalksT.zipD3 S D1 D2 D3, ?_⟩
    rw [← hi]
    exact ⟨hz, hTI, hTO, ⟨p1, l1⟩, ⟨p2, l2⟩, ⟨p3, l3⟩⟩
  · intro A i s Q E st h
    exact wpAny_pyIter_zip st.1 h
def zip3L {α β γ : Type} : List α → List β → List γ → List (P3' α β γ)
  | x :: xs, y :: ys, z :: zs => ⟨x, y, z⟩ :: zip3L xs ys zs
  | _, _, _ => []
theorem zip3L_len {α β γ : Type} : ∀ (xs : List α) (ys : List β) (zs : List γ), (zip3L xs ys zs).length = min (min xs.length ys.length) zs.length
  | x :: xs, y :: ys, z :: zs => by
    rw [zip3L, List.length_cons, zip3L_len xs ys zs]
    simp only [List.length_cons]
    omega
  | [], _, _ => by simp [zip3L]
  | _ :: _, [], _ => by simp [zip3L]
  | _ :: _, _ :: _, [] => by simp [zip3L]
theorem zip3L_at {α β γ : Type} : ∀ {xs : List α} {ys : List β} {zs : List γ} {i : Nat} {p : P3' α β γ}, (zip3L xs ys zs)[i]? = some p → xs[i]? = some p.a ∧ ys[i]? = some p.b ∧ zs[i]? = some p.c
  | x :: xs, y :: ys, z :: zs, 0, p, h => by
    have e : (⟨x, y, z⟩ : P3' α β γ) = p := by simpa [zip3L] using h
    subst e
    exact ⟨rfl, rfl, rfl⟩
  | x :: xs, y :: ys, z :: zs, i + 1, p, h => by
    have := zip3L_at (xs := xs) (ys := ys) (zs := zs) (i := i) (p := p) (by simpa [zip3L] using h)
    simpa using this
  | [], _, _, _, _, h => by simp [zip3L] at h
  | _ :: _, [], _, _, _, h => by simp [zip3L] at h
  | _ :: _, _ :: _, [], _, _, h => by simp [zip3L] at h
theorem walk_z3 {α β γ : Type} [Den α] [Den β] [Den γ] {K : Fg} {G : Hp} {r1 r2 r3 : Src} {us vs ws : List V} {xs : List α} {ys : List β} {zs : List γ} (h1 : srcAt K G r1 us) (h2 : srcAt K G r2 vs) (h3 : srcAt K G r3 ws) (a1 : All2 (den K G) us xs) (a2 : All2 (den K G) vs ys) (a3 : All2 (den K G) ws zs) :
    WalkOk K (Jz3 K r1 r2 r3) G (zip3L xs ys zs) := fun i H' e =>
  ⟨fun p hi => by
    obtain ⟨e1, e2, e3⟩ := zip3L_at hi
    obtain ⟨u, hu, du⟩ := a1.ta_ e1
    obtain ⟨v, hv, dv⟩ := a2.ta_ e2
    obtain ⟨w, hw, dw⟩ := a3.ta_ e3
    refine ⟨⟨us, vs, ws, u, v, w, h1.mono e, h2.mono e, h3.mono e, hu, hv, hw⟩, fun t H'' y => ?_⟩
    obtain ⟨T, x', y', z', et, hT, eH, y1, y2, y3⟩ := y
    have q1 := y1 us (h1.mono e)
    have q2 := y2 vs (h2.mono e)
    have q3 := y3 ws (h3.mono e)
    rw [hu] at q1
    rw [hv] at q2
    rw [hw] at q3
    cases q1
    cases q2
    cases q3
    subst et eH
    refine ⟨Ex.new hT, fun O hO eg => ⟨T, u, v, w, rfl, Or.inl (Or.inl ?_), Den.mono (eg.trans (hide_ex (Ex.new hT))) du, Den.mono (eg.trans (hide_ex (Ex.new hT))) dv, Den.mono (eg.trans (hide_ex (Ex.new hT))) dw⟩⟩
    rw [hide_out fun z => hO T z hT]
    exact upd_same, fun hi => by
    refine ⟨us, vs, ws, h1.mono e, h2.mono e, h3.mono e, ?_⟩
    rw [hi, zip3L_len, a1.len, a2.len, a3.len]⟩
theorem it_zip3 (C : Ct0 X N sc fb W) {S1 S2 S3 α β γ : Type} [Den S1] [Den S2] [Den S3] [Den α] [Den β] [Den γ] [Sq S1 α] [Sq S2 β] [Sq S3 γ] {a b c : Expr} {elts : List Expr} {kk : Nat} {tpos : Pos} {ma : M S1} {mb : M S2} {mc : M S3} (ha : EV X W Γ a ma) (hb : EV X W Γ b mb) (hc : EV X W Γ c mc)
    (hg : gloB sc "zip" = true) (hm : X.mg "zip" = none) (pl : Pl a := by intro _ _; rfl) (pl2 : Pl b := by intro _ _; rfl) (pl3 : Pl c := by intro _ _; rfl) :
    IT X W Γ (.Tuple elts kk tpos) (.Call (.Name "zip" p) [a, b, c] [] pos) (ma >>= fun x => mb >>= fun y => mc >>= fun z => .ok (zip3L (Sq.items x : List α) (Sq.items y : List β) (Sq.items z : List γ))) := by
  refine ⟨fun σ H R => ∀ pins s, Inv X pins σ H s → wpAny (model X.prog X.w) X.A (eval (.Call (.Name "zip" p) [a, b, c] [] pos) X.env) (fun v s1 => wpAny (model X.prog X.w) X.A (pyIter v) (PIE X pins σ (.Tuple elts kk tpos) R) X.xe s1) X.xe s, ⟨fun pins s σ H R I h => h pins s I⟩, fun H0 Ox σ H en R q pins s I => ?_⟩
  refine Call_ (ld_blt I (gl_of C hg) hm PyProof.Rows.boot_zip (PyProof.Rows.callWith_type1 ?_ (pl _ _) (PlL.cons pl2 (PlL.cons pl3 PlL.nil) _ _)))
  have args : PA X [a, b, c] (tCons (we X a) (tCons (we X b) (tCons (we X c) tNil))) := pa_cons pe_w (pa_cons pe_w (pa_cons pe_w pa_nil (pl3 _ _)) (pl2 _ _)) (pl _ _)
  have rd : (tCons (we X a) (tCons (we X b) (tCons (we X c) tNil))) σ H (fun vs H3 => ∃ v1 v2 v3 x y z, vs = [v1, v2, v3] ∧ Ex H H3 ∧ Env X.K H0 Ox Γ σ H3 ∧ den X.K (hide (Ox ++ owns Γ σ) H3) v1 x ∧ den X.K (hide (Ox ++ owns Γ σ) H3) v2 y ∧ den X.K (hide (Ox ++ owns Γ σ) H3) v3 z ∧
      ∀ J H2, Ex H H2 → (zip3L (Sq.items x : List α) (Sq.items y : List β) (Sq.items z : List γ)).length ≤ sizeLine → WalkOk X.K J (hide (Ox ++ owns Γ σ) H2) (zip3L (Sq.items x : List α) (Sq.items y : List β) (Sq.items z : List γ)) → R J H2) :=
    ha.bind en q fun x v1 H2 _ z2 en2 hv g => hb.bind en2 g fun y v2 H3 _ z3 en3 hu g2 => hc.bind en3 g2 fun z v3 H4 _ z4 en4 hw g3 => ⟨v1, v2, v3, x, y, z, rfl, (z2.trans z3).trans z4, en4, Den.mono (hide_ex (z3.trans z4)) hv, Den.mono (hide_ex z4) hu, hw, g3⟩
  refine thn (args.run pos pins s σ H _ I rd) fun us s1 ⟨vs, H1, I1, r1, v1, v2, v3, x, y, z0, evs, z, en1, d1, d2, d3, g⟩ => ?_
  subst evs
  cases r1 with
  | cons ru rr =>
    cases rr with
    | cons ru2 rr =>
      cases rr with
      | cons ru3 rr =>
        cases rr
        obtain ⟨q1, ws1, e1, s1', a1, l1⟩ := Sq.src d1 ru
        obtain ⟨q2, ws2, e2, s2', a2, l2⟩ := Sq.src d2 ru2
        obtain ⟨q3, ws3, e3, s3', a3, l3⟩ := Sq.src d3 ru3
        subst e1 e2 e3
        obtain ⟨o1, Hs1, B1, hs1, ip1, lt1⟩ := src_begins I1 (s1'.mono hide_le)
        obtain ⟨o2, Hs2, B2, hs2, ip2, lt2⟩ := src_begins I1 (s2'.mono hide_le)
        obtain ⟨o3, Hs3, B3, hs3, ip3, lt3⟩ := src_begins I1 (s3'.mono hide_le)
        refine zip_begins3 B1 B2 B3 hs1 hs2 hs3 fun h' hz hTI hTO ho1 ho2 ho3 hsz hk => wpAny_pyIter_zip hz ?_
        have I2 : Inv X pins σ H1 { s1 with heap := h' } := I1.kept (t' := s1.toks) hk
        refine ⟨s1.heap.objs.size + 5, [s1.heap.objs.size + 5, s1.heap.objs.size + 3, s1.heap.objs.size + 4, s1.heap.objs.size, s1.heap.objs.size + 1, s1.heap.objs.size + 2], _, Jz3 X.K q1 q2 q3, H1, rfl, I2,
          turn_z3 (zip_sep3 lt1 lt2 lt3) (fun a ha => Nat.ne_of_lt (lt1 a ha)) (fun a ha => Nat.ne_of_lt (Nat.lt_succ_of_lt (lt2 a ha))) (fun a ha => Nat.ne_of_lt (Nat.lt_succ_of_lt (Nat.lt_succ_of_lt (lt3 a ha)))), ⟨hz, hTI, ⟨_, _, _, hTO⟩, ip1 _ _ ho1, ip2 _ _ ho2, ip3 _ _ ho3⟩, fun c hcm => ?_, ?_⟩
        · have hle : s1.heap.objs.size ≤ c := by
            have : c = s1.heap.objs.size + 5 ∨ c = s1.heap.objs.size + 3 ∨ c = s1.heap.objs.size + 4 ∨ c = s1.heap.objs.size ∨ c = s1.heap.objs.size + 1 ∨ c = s1.heap.objs.size + 2 := by simpa using hcm
            rcases this with z | z | z | z | z | z <;> rw [z] <;> first | exact Nat.le_add_right _ _ | exact Nat.le_refl _
          exact I1.fpOk hle (I1.hok.fresh hle)
        · refine g _ H1 z ?_ (walk_z3 s1' s2' s3' a1 a2 a3)
          rw [zip3L_len]
          omega
end
end P3

set_option Elab.async false
set_option linter.all false
set_option maxRecDepth 100000
set_option maxHeartbeats 4000000
namespace P3
open PySem PySem.Spec PyProof.Rows L2
open Den (den)
open Ob (ob)

theorem atI_all2 {α : Type} {R : V → α → Prop} {vs : List V} {xs : List α} (h : All2 R vs xs) {i : Int} {x : α} (hx : atI xs i = some x) : ∃ v, atI vs i = some v ∧ R v x := by
  unfold atI at hx ⊢
  rw [h.len]
  cases e : ixN xs.length i with
  | none => rw [e] at hx; cases hx
  | some j =>
    rw [e] at hx
    obtain ⟨v, h1, h2⟩ := h.ta_ (show xs[j]? = some x from hx)
    exact ⟨v, h1, h2⟩
theorem atI_mem {α : Type} {xs : List α} {i : Int} {x : α} (hx : atI xs i = some x) : x ∈ xs := by
  unfold atI at hx
  cases e : ixN xs.length i with
  | none => rw [e] at hx; cases hx
  | some j => rw [e] at hx; exact List.mem_of_getElem? (show xs[j]? = some x from hx)
section
variable {X : Cx} {W : WX} {Γ Γ' : Ctx} {e a b c : Expr} {pos p p2 : Pos} {N : List Str} {sc : Scope} {fb : Str → Bool}

/-! items -/
theorem ev_idxL {α : Type} [Den α] {ma : M (List α)} {mb : M Int} (ha : EV X W Γ a ma) (hb : EV X W Γ b mb) (hs : PlainIx b := by intro _ _; rfl) : EV X W Γ (.Subscript a b pos) (ma >>= fun xs => mb >>= fun i => idxL xs i) := .mk fun H0 Ox σ H en Q q =>
  PEw (pe_ix ix_list pe_w pe_w hs) (ha.bind en q fun xs v H2 _ z2 en2 hv q2 => hb.bind en2 q2 fun i u H3 _ z3 en3 hu q3 => by
    obtain ⟨pp, vs, ev, h1, h2, _⟩ := hv
    have eu := hu.1
    subst ev eu
    unfold idxL optM at q3
    split at q3
    · rename_i x hx
      obtain ⟨y, hy, dy⟩ := atI_all2 h2 hx
      exact ⟨pp, vs, i, y, rfl, rfl, ex_l (hide_le.trans z3) h1, hy, q3 y H3 (z2.trans z3) (Den.mono (hide_ex z3) dy)⟩
    · exact q3.elim)
theorem ev_idxT {ma : M Tx} {mb : M Int} (ha : EV X W Γ a ma) (hb : EV X W Γ b mb) (hs : PlainIx b := by intro _ _; rfl) : EV X W Γ (.Subscript a b pos) (ma >>= fun xs => mb >>= fun i => idxT xs i) := .mk fun H0 Ox σ H en Q q =>
  PEw (pe_ix ix_str pe_w pe_w hs) (ha.bind en q fun xs v H2 _ z2 en2 hv q2 => hb.bind en2 q2 fun i u H3 _ z3 en3 hu q3 => by
    have ev := hv.1
    have eu := hu.1
    subst ev eu
    unfold idxT optM at q3
    split at q3
    · rename_i x hx
      cases hc : atI xs.l i with
      | none => rw [hc] at hx; cases hx
      | some c =>
        rw [hc] at hx
        have ex := Option.some.inj hx
        subst ex
        exact ⟨sT xs, i, c, rfl, rfl, hv.2.1, hc, q3 _ H3 (z2.trans z3) ⟨rfl, okT_one hv.2 (atI_mem hc)⟩⟩
    · exact q3.elim)
theorem ev_tup0 {α β : Type} [Den α] [Den β] {k : Nat} {ma : M (P2 α β)} (ha : EV X W Γ a ma) : EV X W Γ (.Subscript a (.Constant (.int 0) k p) pos) (ma >>= fun x => .ok x.a) := .mk fun H0 Ox σ H en Q q =>
  PEw (pe_ix ix_tup pe_w pe_int (by intro _ _; rfl)) (ha.bind en q fun x v H2 _ z2 en2 hv q2 => by
    obtain ⟨pp, v1, v2, ev, h0, h1, h2⟩ := hv
    subst ev
    exact ⟨pp, _, 0, v1, rfl, rfl, ex_t hide_le h0, rfl, q2 v1 H2 z2 h1⟩)
theorem ev_tup1 {α β : Type} [Den α] [Den β] {k : Nat} {ma : M (P2 α β)} (ha : EV X W Γ a ma) : EV X W Γ (.Subscript a (.Constant (.int 1) k p) pos) (ma >>= fun x => .ok x.b) := .mk fun H0 Ox σ H en Q q =>
  PEw (pe_ix ix_tup pe_w pe_int (by intro _ _; rfl)) (ha.bind en q fun x v H2 _ z2 en2 hv q2 => by
    obtain ⟨pp, v1, v2, ev, h0, h1, h2⟩ := hv
    subst ev
    exact ⟨pp, _, 1, v2, rfl, rfl, ex_t hide_le h0, rfl, q2 v2 H2 z2 h2⟩)

/-! slices -/
def EO (X : Cx) (W : WX) (Γ : Ctx) (oe : Option Expr) (m : M (Option Int)) : Prop :=
  ∃ t, PO X oe t ∧ ∀ H0 Ox σ H, Env X.K H0 Ox Γ σ H → ∀ Q : Option Int → Hp → Prop, PoX X.mg H (fun c d H2 => W c d σ H2) (fun o => ∀ H2, Ex H H2 → Q o H2) m → t σ H Q
theorem eo_none : EO X W Γ none (.ok none) := ⟨_, po_none, fun H0 Ox σ H en Q q => q H (Ex.refl H)⟩
theorem eo_some {m : M Int} (h : EV X W Γ e m) : EO X W Γ (some e) (m >>= fun i => .ok (some i)) := ⟨_, po_some pe_w, fun H0 Ox σ H en Q q => h.bind en q fun i v H2 _ z2 _ hv g => ⟨i, hv.1, g H2 z2⟩⟩
theorem EO.bind {γ : Type} {t : TO} {ma : M (Option Int)} {f : Option Int → M γ} (h : ∀ H0 Ox σ H, Env X.K H0 Ox Γ σ H → ∀ Q : Option Int → Hp → Prop, PoX X.mg H (fun c d H2 => W c d σ H2) (fun o => ∀ H2, Ex H H2 → Q o H2) ma → t σ H Q)
    {H0 : Hp} {Ox : List Addr} {σ : L2.St} {H : Hp} (en : Env X.K H0 Ox Γ σ H) {G : γ → Prop} {Q : Option Int → Hp → Prop} (hq : PoX X.mg H (fun c d H2 => W c d σ H2) G (ma >>= f))
    (k : ∀ x H2, ma = .ok x → Ex H H2 → Env X.K H0 Ox Γ σ H2 → PoX X.mg H2 (fun c d H2 => W c d σ H2) G (f x) → Q x H2) : t σ H Q := by
  refine h H0 Ox σ H en Q ?_
  cases ma with
  | ok x => exact fun H2 z => k x H2 rfl z (en.mono z) (PoX.imp (β := γ) z (fun _ _ g => g) hq)
  | error er =>
    cases er with
    | stuck => exact hq
    | exc x => exact hq
theorem All2.cut {α : Type} {R : V → α → Prop} {vs : List V} {xs : List α} (h : All2 R vs xs) (lo hi : Option Int) : All2 R (cutV vs lo hi) (cutA xs lo hi) := by
  unfold cutV cutA
  rw [h.len]
  exact (h.drop _).take _
theorem en_cut {α : Type} [Den α] {lo hi : Option Expr} {ma : M (List α)} {ml mh : M (Option Int)} (ha : EV X W Γ a ma) (hl : EO X W Γ lo ml) (hh : EO X W Γ hi mh) :
    EN X W Γ (.Subscript a (.Slice lo hi none p2) pos) (ma >>= fun xs => ml >>= fun l => mh >>= fun h => .ok (cutA xs l h)) := .mk fun H0 Ox σ H en Q q => by
  obtain ⟨tl, pl, kl⟩ := hl
  obtain ⟨th, ph, kh⟩ := hh
  exact PEw (pe_slice sl_list pe_w pl ph) (ha.bind en q fun xs v H2 _ z2 en2 hv q2 => EO.bind kl en2 q2 fun l H3 _ z3 en3 q3 => EO.bind kh en3 q3 fun h H4 _ z4 en4 q4 => by
    obtain ⟨pp, vs, ev, h1, h2, h3⟩ := hv
    subst ev
    refine ⟨pp, vs, rfl, ex_l ((hide_le.trans z3).trans z4) h1, fun r hr => ?_⟩
    have z5 := Ex.new (o := .lst (cutV vs l h)) hr
    refine q4 r _ _ (((z2.trans z3).trans z4).trans z5) (((z2.trans z3).trans z4).free hr) upd_same ⟨_, rfl, (h2.cut l h).imp fun x y k => Den.mono ?_ k, Nat.le_trans (cutA_len _ _ _) h3⟩
    intro aa oo hk
    obtain ⟨m1, m2⟩ := hide_some hk
    have m3 := ((z3.trans z4).trans z5) aa oo m2
    rw [hide_out fun w => ?_]
    · exact m3
    · rcases List.mem_cons.mp w with w | w
      · rw [w] at m2
        rw [(z3.trans z4).free hr] at m2
        cases m2
      · exact m1 w)
theorem sT_cut (x : Tx) (lo hi : Option Int) : cutS (sT x) lo hi = sT (cutT x lo hi) := by
  unfold cutS cutT cutA sT
  show (⟨((x.l.toArray.toList.drop (HT.sIx (x.l.toArray.size) 0 lo)).take (HT.sIx (x.l.toArray.size) (x.l.toArray.size) hi - HT.sIx (x.l.toArray.size) 0 lo)).toArray⟩ : Str) = _
  rw [List.size_toArray]
theorem okT_cut {x : Tx} (h : okT x) (lo hi : Option Int) : okT (cutT x lo hi) := okT_sub h (cutA_len _ _ _) fun c hc => List.mem_of_mem_drop (List.mem_of_mem_take hc)
theorem ev_cutT {lo hi : Option Expr} {ma : M Tx} {ml mh : M (Option Int)} (ha : EV X W Γ a ma) (hl : EO X W Γ lo ml) (hh : EO X W Γ hi mh) :
    EV X W Γ (.Subscript a (.Slice lo hi none p2) pos) (ma >>= fun xs => ml >>= fun l => mh >>= fun h => .ok (cutT xs l h)) := .mk fun H0 Ox σ H en Q q => by
  obtain ⟨tl, pl, kl⟩ := hl
  obtain ⟨th, ph, kh⟩ := hh
  exact PEw (pe_slice sl_str pe_w pl ph) (ha.bind en q fun xs v H2 _ z2 en2 hv q2 => EO.bind kl en2 q2 fun l H3 _ z3 en3 q3 => EO.bind kh en3 q3 fun h H4 _ z4 en4 q4 => by
    have ev := hv.1
    subst ev
    exact ⟨sT xs, rfl, hv.2.1, by rw [sT_cut]; exact q4 _ H4 ((z2.trans z3).trans z4) ⟨rfl, okT_cut hv.2 l h⟩⟩)
/-- a new object p over H2: what was seen is seen still -/
theorem hide_new {O : List Addr} {H H2 : Hp} {q : Addr} (z : Ex H H2) (hq : H q = none) : Ex (hide O H) (hide (q :: O) H2) := fun aa oo hk => by
  obtain ⟨m1, m2⟩ := hide_some hk
  refine (hide_out fun w => ?_).trans (z aa oo m2)
  rcases List.mem_cons.mp w with w | w
  · rw [w, hq] at m2
    cases m2
  · exact m1 w
theorem en_rev {α : Type} [Den α] {k : Nat} {p1 p3 : Pos} {ma : M (List α)} (ha : EV X W Γ a ma) :
    EN X W Γ (.Subscript a (.Slice none none (some (.UnaryOp .USub (.Constant (.int 1) k p1) p2)) p3) pos) (ma >>= fun xs => .ok xs.reverse) := .mk fun H0 Ox σ H en Q q =>
  PEw (pe_revL pe_w) (ha.bind en q fun xs v H2 _ z2 en2 hv q2 => by
    obtain ⟨pp, vs, ev, h1, h2, h3⟩ := hv
    subst ev
    refine ⟨pp, vs, rfl, ex_l hide_le h1, fun r hr => ?_⟩
    exact q2 r _ _ (z2.trans (Ex.new hr)) (z2.free hr) upd_same ⟨_, rfl, h2.rev.imp fun x y k => Den.mono (hide_new (Ex.new hr) hr) k, by rw [List.length_reverse]; exact h3⟩)
theorem range_rev (n : Nat) : (List.range n).map (fun (k : Nat) => ((n : Int) - 1 + (-1) * (k : Int)).toNat) = (List.range n).reverse := by
  apply List.ext_getElem
  · simp
  · intro i h1 h2
    simp only [List.getElem_map, List.getElem_range, List.getElem_reverse, List.length_range]
    simp at h1
    omega
theorem pick_rev (x : Str) (t : Tok) (st : Tok) : sliceMade x t none none (some (-1, st)) = .str ⟨x.cps.toList.reverse.toArray⟩ := by
  unfold sliceMade
  have e1 : ((Option.map (fun x => x.1) (some ((-1 : Int), st))).getD 1 == 1) = false := rfl
  rw [e1, Bool.false_and, if_neg Bool.false_ne_true]
  congr 1
  congr 1
  congr 1
  have e2 : slicePicked x none none (some (-1, st)) = (List.range x.length).reverse := by
    unfold slicePicked
    show Builtin.Str.strSliceIndices none none (-1) x.length = _
    unfold Builtin.Str.strSliceIndices
    show sliceRange ((x.length : Int) - 1) (-1) (-1) = _
    unfold sliceRange
    have h0 : ¬ ((-1 : Int) > 0) := by decide
    simp only [h0, if_false]
    by_cases hl : x.length = 0
    · simp [hl]
    · have h2 : ((x.length : Int) - 1 > -1) := by omega
      simp only [h2, if_true]
      have h3 : (((x.length : Int) - 1 - (-1) - (-1) - 1) / (-(-1 : Int))).toNat = x.length := by
        have e5 : (-(-1 : Int)) = 1 := by decide
        rw [e5, Int.ediv_one]
        omega
      rw [h3]
      exact range_rev x.length
  rw [e2, List.filterMap_reverse]
  congr 1
  have : ∀ l : List Nat, (List.range l.length).filterMap (fun i => l[i]?) = l := fun l => by
    apply List.ext_getElem?
    intro i
    have e : (List.range l.length).filterMap (fun i => l[i]?) = l.attach.map (·.1) := by
      rw [List.attach_map_subtype_val]
      induction l with
      | nil => rfl
      | cons y ys ih =>
        rw [List.length_cons, List.range_succ_eq_map, List.filterMap_cons]
        simp only [List.getElem?_cons_zero]
        rw [List.filterMap_map]
        congr 1
    rw [e, List.attach_map_subtype_val]
  have h2 := this x.cps.toList
  rw [Array.length_toList] at h2
  have e6 : (fun (i : Nat) => x.cps[i]?) = fun (i : Nat) => x.cps.toList[i]? := by funext i; simp
  show List.filterMap (fun (i : Nat) => x.cps[i]?) (List.range x.length) = _
  rw [e6]
  exact h2
def revT (x : Tx) : Tx := ⟨x.l.reverse⟩
theorem ev_revT {k : Nat} {p1 p3 : Pos} {ma : M Tx} (ha : EV X W Γ a ma) (ht : ∀ o r, letTemporaryGo a o r = pure () := by intro _ _; rfl) :
    EV X W Γ (.Subscript a (.Slice none none (some (.UnaryOp .USub (.Constant (.int 1) k p1) p2)) p3) pos) (ma >>= fun x => .ok (revT x)) := .mk fun H0 Ox σ H en Q q pins s I => by
  have rd : we X a σ H (fun v H2 => ∃ x, Ex H H2 ∧ v = .str (sT x) ∧ okT x ∧ ∀ w H3, Ex H H3 → den X.K (hide (Ox ++ owns Γ σ) H3) w (revT x) → Q w H3) := ha.bind en q fun x v H2 _ z2 en2 hv q2 => ⟨x, z2, hv.1, hv.2, q2⟩
  refine Subscript_ (thn (rd pins s I) fun v s1 ⟨y, H1, I1, r1, x, z, ey, okx, q2⟩ => ?_)
  subst ey
  obtain ⟨tk, rfl⟩ := r1
  have hst : PO X (some (.UnaryOp .USub (.Constant (.int 1) k p1) p2)) (tPart (tUn (rU fun i => .int (-i)) (tC (.int 1)))) := po_some (pe_un un_neg pe_int)
  refine wpAny_Slice (thn (po_none.run pins s1 σ H1 (fun o H2 => o = none ∧ H2 = H1) I1 ⟨rfl, rfl⟩) fun vl s2 ⟨l, H2, I2, pl, el, e2⟩ => ?_)
  subst el e2
  refine thn (po_none.run pins s2 σ H2 (fun o H3 => o = none ∧ H3 = H2) I2 ⟨rfl, rfl⟩) fun vu s3 ⟨u, H3, I3, pu, eu, e3⟩ => ?_
  subst eu e3
  refine thn (hst.run pins s3 σ H3 (fun o H4 => o = some (-1) ∧ H4 = H3) I3 ⟨1, rfl, -1, rfl, rfl, rfl⟩) fun vs s4 ⟨o, H4, I4, ps, eo, e4⟩ => ?_
  subst eo e4
  have I5 : Inv X pins σ H4 { s4 with heap := s4.heap.push { cls := .type "slice", data := .fields #[vl, vu, vs] } } := I4.kept (t' := s4.toks) fun b ob q => Heap.get?_push_of_some _ q
  obtain ⟨l, el, el2⟩ := IsPart.raw pl
  obtain ⟨u, eu, eu2⟩ := IsPart.raw pu
  obtain ⟨st, es, es2⟩ := IsPart.raw ps
  have el3 : l = none := by cases l with
    | none => rfl
    | some _ => cases el2
  have eu3 : u = none := by cases u with
    | none => rfl
    | some _ => cases eu2
  subst el3 eu3
  cases st with
  | none => cases es2
  | some sv =>
    obtain ⟨si, stk⟩ := sv
    have : si = -1 := Option.some.inj es2
    subst this
    show wpAny (model X.prog X.w) X.A (subscriptTail a (.Slice none none (some (.UnaryOp .USub (.Constant (.int 1) k p1) p2)) p3) (.str (sT x) tk) (.ref s4.heap.objs.size)) (EP X pins σ Q) X.xe { s4 with heap := s4.heap.push { cls := .type "slice", data := .fields #[vl, vu, vs] } }
    refine tail_any (ops := [.str (sT x) tk, .ref s4.heap.objs.size]) (typeIs_str _ _ _) (F.slot_str_getitem.lookup) ?_ (by with_unfolding_all rfl)
    obtain ⟨os, hos, hcs, hds⟩ := Heap.IsSliceOf.new s4.heap vl vu vs
    refine wpAny_getItem_str_slice (l := none) (u := none) (st := some (-1, stk)) ⟨os, hos, hcs, by rw [hds, el, eu, es]⟩ (by rfl) ?_
    rw [pick_rev]
    refine ⟨?_, .str _, H4, I5.tok _, ⟨_, rfl⟩, ?_⟩
    · show (x.l.toArray.toList.reverse.toArray).size ≤ sizeLine
      simp
      exact okx.1
    · have e : (⟨(sT x).cps.toList.reverse.toArray⟩ : Str) = sT (revT x) := rfl
      rw [e]
      exact q2 _ H4 z ⟨rfl, okT_sub okx (by simp) fun c hc => List.mem_reverse.mp hc⟩

/-! lists and tuples displayed -/
structure ELs {α : Type} [Den α] (X : Cx) (W : WX) (Γ : Ctx) (es : List Expr) (m : M (List α)) : Prop where
  run : ∀ H0 Ox σ H, Env X.K H0 Ox Γ σ H → ∀ Q : List V → Hp → Prop, PoX X.mg H (fun c d H2 => W c d σ H2) (fun xs => ∀ vs H2, Ex H H2 → All2 (den X.K (hide (Ox ++ owns Γ σ) H2)) vs xs → xs.length = es.length → Q vs H2) m → wa X es σ H Q
instance {α : Type} [Den α] {X : Cx} {W : WX} {Γ : Ctx} {es : List Expr} {m : M (List α)} : CoeFun (ELs X W Γ es m) (fun _ => ∀ H0 Ox σ H, Env X.K H0 Ox Γ σ H → ∀ Q : List V → Hp → Prop, PoX X.mg H (fun c d H2 => W c d σ H2) (fun xs => ∀ vs H2, Ex H H2 → All2 (den X.K (hide (Ox ++ owns Γ σ) H2)) vs xs → xs.length = es.length → Q vs H2) m → wa X es σ H Q) := ⟨ELs.run⟩
theorem els_nil {α : Type} [Den α] : ELs X W Γ [] (.ok [] : M (List α)) := .mk fun H0 Ox σ H en Q q => PAw pa_nil (q [] H (Ex.refl H) .nil rfl)
theorem els_cons {α : Type} [Den α] {es : List Expr} {me : M α} {ml : M (List α)} (he : EV X W Γ e me) (hl : ELs X W Γ es ml) (pl : Pl e := by intro _ _; rfl) : ELs X W Γ (e :: es) (me >>= fun x => ml >>= fun xs => .ok (x :: xs)) := .mk fun H0 Ox σ H en Q q =>
  PAw (pa_cons pe_w pa_w (pl _ _)) (he.bind en q fun x v H2 _ z2 en2 hv q2 => by
    refine hl H0 Ox σ H2 en2 _ ?_
    cases ml with
    | ok xs => exact fun vs H3 z3 hvs hlen => q2 (v :: vs) H3 (z2.trans z3) (.cons (Den.mono (hide_ex z3) hv) hvs) (by rw [List.length_cons, List.length_cons, hlen])
    | error er => cases er with
      | stuck => exact q2
      | exc w => exact q2)
theorem en_list {α : Type} [Den α] {es : List Expr} {m : M (List α)} (h : ELs X W Γ es m) (hl : es.length ≤ 10000 := by decide) : EN X W Γ (.List es pos) m := .mk fun H0 Ox σ H en Q q =>
  PEw (pe_lst pa_w) (h H0 Ox σ H en _ (PoX.imp (β := List α) (Ex.refl H) (fun xs _ g vs H2 z hvs hlen => by
    have l2 : vs.length ≤ sizeLine := by rw [hvs.len, hlen]; exact Nat.le_trans hl (by decide)
    refine ⟨l2, fun p hp => g p _ _ (z.trans (Ex.new hp)) (z.free hp) upd_same ⟨vs, rfl, hvs.imp fun x y k => Den.mono (hide_new (Ex.new hp) hp) k, by rw [← hvs.len]; exact l2⟩⟩) q))
theorem ev_tup2 {α β : Type} [Den α] [Den β] {k : Nat} {ma : M α} {mb : M β} (ha : EV X W Γ a ma) (hb : EV X W Γ b mb) (pl : Pl a := by intro _ _; rfl) (pl2 : Pl b := by intro _ _; rfl) :
    EV X W Γ (.Tuple [a, b] k pos) (ma >>= fun x => mb >>= fun y => .ok (⟨x, y⟩ : P2 α β)) := .mk fun H0 Ox σ H en Q q =>
  PEw (pe_tup (pa_cons pe_w (pa_cons pe_w pa_nil (pl2 _ _)) (pl _ _))) (ha.bind en q fun x v H2 _ z2 en2 hv q2 => hb.bind en2 q2 fun y u H3 _ z3 en3 hu q3 => by
    refine ⟨by show 2 ≤ sizeLine; decide, fun p hp => q3 _ _ ((z2.trans z3).trans (Ex.new hp)) ⟨p, v, u, rfl, Or.inl (Or.inl ?_), Den.mono (hide_ex (z3.trans (Ex.new hp))) hv, Den.mono (hide_ex (Ex.new hp)) hu⟩⟩
    rw [hide_out fun w => (en3.own p w) hp]
    exact upd_same)
theorem ev_tup3 {α β γ : Type} [Den α] [Den β] [Den γ] {k : Nat} {ma : M α} {mb : M β} {mc : M γ} (ha : EV X W Γ a ma) (hb : EV X W Γ b mb) (hc : EV X W Γ c mc) (pl : Pl a := by intro _ _; rfl) (pl2 : Pl b := by intro _ _; rfl) (pl3 : Pl c := by intro _ _; rfl) :
    EV X W Γ (.Tuple [a, b, c] k pos) (ma >>= fun x => mb >>= fun y => mc >>= fun z => .ok (⟨x, y, z⟩ : P3' α β γ)) := .mk fun H0 Ox σ H en Q q =>
  PEw (pe_tup (pa_cons pe_w (pa_cons pe_w (pa_cons pe_w pa_nil (pl3 _ _)) (pl2 _ _)) (pl _ _))) (ha.bind en q fun x v H2 _ z2 en2 hv q2 => hb.bind en2 q2 fun y u H3 _ z3 en3 hu q3 => hc.bind en3 q3 fun y3 u3 H4 _ z4 en4 hu3 q4 => by
    refine ⟨by show 3 ≤ sizeLine; decide, fun p hp => q4 _ _ (((z2.trans z3).trans z4).trans (Ex.new hp)) ⟨p, v, u, u3, rfl, Or.inl (Or.inl ?_), Den.mono (hide_ex ((z3.trans z4).trans (Ex.new hp))) hv, Den.mono (hide_ex (z4.trans (Ex.new hp))) hu, Den.mono (hide_ex (Ex.new hp)) hu3⟩⟩
    rw [hide_out fun w => (en4.own p w) hp]
    exact upd_same)
theorem ev_tup4 {α β γ δ : Type} [Den α] [Den β] [Den γ] [Den δ] {d : Expr} {k : Nat} {ma : M α} {mb : M β} {mc : M γ} {md : M δ} (ha : EV X W Γ a ma) (hb : EV X W Γ b mb) (hc : EV X W Γ c mc) (hd : EV X W Γ d md) (pl : Pl a := by intro _ _; rfl) (pl2 : Pl b := by intro _ _; rfl) (pl3 : Pl c := by intro _ _; rfl) (pl4 : Pl d := by intro _ _; rfl) :
    EV X W Γ (.Tuple [a, b, c, d] k pos) (ma >>= fun x => mb >>= fun y => mc >>= fun z => md >>= fun w => .ok (⟨x, y, z, w⟩ : P4 α β γ δ)) := .mk fun H0 Ox σ H en Q q =>
  PEw (pe_tup (pa_cons pe_w (pa_cons pe_w (pa_cons pe_w (pa_cons pe_w pa_nil (pl4 _ _)) (pl3 _ _)) (pl2 _ _)) (pl _ _))) (ha.bind en q fun x v H2 _ z2 en2 hv q2 => hb.bind en2 q2 fun y u H3 _ z3 en3 hu q3 => hc.bind en3 q3 fun y3 u3 H4 _ z4 en4 hu3 q4 => hd.bind en4 q4 fun y4 u4 H5 _ z5 en5 hu4 q5 => by
    refine ⟨by show 4 ≤ sizeLine; decide, fun p hp => q5 _ _ ((((z2.trans z3).trans z4).trans z5).trans (Ex.new hp)) ⟨p, v, u, u3, u4, rfl, Or.inl (Or.inl ?_), Den.mono (hide_ex (((z3.trans z4).trans z5).trans (Ex.new hp))) hv, Den.mono (hide_ex ((z4.trans z5).trans (Ex.new hp))) hu, Den.mono (hide_ex (z5.trans (Ex.new hp))) hu3, Den.mono (hide_ex (Ex.new hp)) hu4⟩⟩
    rw [hide_out fun w => (en5.own p w) hp]
    exact upd_same)
end
end P3

set_option Elab.async false
set_option linter.all false
set_option maxRecDepth 100000
set_option maxHeartbeats 4000000
namespace P3
open PySem PySem.Spec PyProof.Rows L2
open Den (den)
open Ob (ob)

/-! targets -/
structure GOk {α : Type} [Den α] (K : Fg) (g : TG) (ts : List Nat) (Γ : Ctx) (Γ' : α → Ctx) : Prop where
  run : ∀ H0 Ox σ H v x, Env K H0 Ox Γ σ H → den K (hide (Ox ++ owns Γ σ) H) v x → ∀ Q : L2.St → Hp → Prop,
    (∀ σ', Env K H0 Ox (Γ' x) σ' H → (∀ vs, (∀ i ∈ ts, i ∈ vs) → wipe σ' vs = wipe σ vs) → (∀ a ∈ owns (Γ' x) σ', a ∈ owns Γ σ) → Q σ' H) → g v σ H Q
instance {α : Type} [Den α] {K : Fg} {g : TG} {ts : List Nat} {Γ : Ctx} {Γ' : α → Ctx} : CoeFun (GOk K g ts Γ Γ') (fun _ => ∀ H0 Ox σ H v x, Env K H0 Ox Γ σ H → den K (hide (Ox ++ owns Γ σ) H) v x → ∀ Q : L2.St → Hp → Prop, (∀ σ', Env K H0 Ox (Γ' x) σ' H → (∀ vs, (∀ i ∈ ts, i ∈ vs) → wipe σ' vs = wipe σ vs) → (∀ a ∈ owns (Γ' x) σ', a ∈ owns Γ σ) → Q σ' H) → g v σ H Q) := ⟨GOk.run⟩
theorem wipe_set {σ : L2.St} {j : Nat} {y : Option V} : ∀ {vs : List Nat}, j ∈ vs → wipe (σ.set j y) vs = wipe σ vs
  | [], h => by cases h
  | v :: vs, h => by
    unfold wipe
    by_cases e : j = v
    · subst e
      by_cases m : j ∈ vs
      · rw [wipe_set m]
      · have : ∀ (ws : List Nat), j ∉ ws → wipe (σ.set j y) ws = (wipe σ ws).set j y := fun ws => by
          induction ws with
          | nil => intro _; rfl
          | cons w ws ih =>
            intro hm
            have h1 : w ≠ j := fun z => hm (by rw [z]; exact List.mem_cons_self)
            have h2 : j ∉ ws := fun z => hm (List.mem_cons_of_mem _ z)
            unfold wipe
            rw [ih h2, List.set_comm _ _ h1]
        rw [this vs m, List.set_set]
    · rcases List.mem_cons.mp h with z | z
      · exact absurd z e
      · rw [wipe_set z]
theorem gok_name {α : Type} [Den α] {K : Fg} {Γ : Ctx} (j : Nat) : GOk K (gName j) [j] Γ (fun x : α => Γ.set j (.va x)) := .mk fun H0 Ox σ H v x en hv Q q =>
  q _ (en.set hv) (fun vs h => wipe_set (h j (by simp))) fun a ha => (owns_setv (s := .va x) (fun ov => by simp [owns]) en.len).subset ha
theorem gok_t2 {α β : Type} [Den α] [Den β] {K : Fg} {g1 g2 : TG} {ts1 ts2 : List Nat} {Γ : Ctx} {Γ1 : α → Ctx} {Γ2 : α → β → Ctx} (h1 : GOk K g1 ts1 Γ Γ1) (h2 : ∀ a, GOk K g2 ts2 (Γ1 a) (Γ2 a)) :
    GOk K (gTup K 2 (gCons g1 (gCons g2 gNil))) (ts1 ++ ts2) Γ (fun x : P2 α β => Γ2 x.a x.b) := .mk fun H0 Ox σ H v x en hv Q q => by
  obtain ⟨p, v1, v2, ev, h0, d1, d2⟩ := hv
  subst ev
  refine ⟨p, [v1, v2], rfl, ex_t hide_le h0, rfl, v1, [v2], rfl, ?_⟩
  refine h1 H0 Ox σ H v1 x.a en d1 _ fun σ1 en1 w1 s1 => ⟨v2, [], rfl, ?_⟩
  refine h2 x.a H0 Ox σ1 H v2 x.b en1 (Den.mono (hide_sub fun a ha => ?_) d2) _ fun σ2 en2 w2 s2 => ⟨rfl, q σ2 en2 (fun vs h => (w2 vs fun i hi => h i (List.mem_append_right _ hi)).trans (w1 vs fun i hi => h i (List.mem_append_left _ hi))) fun a ha => s1 a (s2 a ha)⟩
  rcases List.mem_append.mp ha with z | z
  · exact List.mem_append_left _ z
  · exact List.mem_append_right _ (s1 a z)
theorem gok_t3 {α β γ : Type} [Den α] [Den β] [Den γ] {K : Fg} {g1 g2 g3 : TG} {ts1 ts2 ts3 : List Nat} {Γ : Ctx} {Γ1 : α → Ctx} {Γ2 : α → β → Ctx} {Γ3 : α → β → γ → Ctx} (h1 : GOk K g1 ts1 Γ Γ1) (h2 : ∀ a, GOk K g2 ts2 (Γ1 a) (Γ2 a)) (h3 : ∀ a b, GOk K g3 ts3 (Γ2 a b) (Γ3 a b)) :
    GOk K (gTup K 3 (gCons g1 (gCons g2 (gCons g3 gNil)))) (ts1 ++ (ts2 ++ ts3)) Γ (fun x : P3' α β γ => Γ3 x.a x.b x.c) := .mk fun H0 Ox σ H v x en hv Q q => by
  obtain ⟨p, v1, v2, v3, ev, h0, d1, d2, d3⟩ := hv
  subst ev
  refine ⟨p, [v1, v2, v3], rfl, ex_t hide_le h0, rfl, v1, [v2, v3], rfl, ?_⟩
  refine h1 H0 Ox σ H v1 x.a en d1 _ fun σ1 en1 w1 s1 => ⟨v2, [v3], rfl, ?_⟩
  have sub1 : ∀ a ∈ Ox ++ owns (Γ1 x.a) σ1, a ∈ Ox ++ owns Γ σ := fun a ha => by
    rcases List.mem_append.mp ha with z | z
    · exact List.mem_append_left _ z
    · exact List.mem_append_right _ (s1 a z)
  refine h2 x.a H0 Ox σ1 H v2 x.b en1 (Den.mono (hide_sub sub1) d2) _ fun σ2 en2 w2 s2 => ⟨v3, [], rfl, ?_⟩
  have sub2 : ∀ a ∈ Ox ++ owns (Γ2 x.a x.b) σ2, a ∈ Ox ++ owns Γ σ := fun a ha => by
    rcases List.mem_append.mp ha with z | z
    · exact List.mem_append_left _ z
    · exact List.mem_append_right _ (s1 a (s2 a z))
  refine h3 x.a x.b H0 Ox σ2 H v3 x.c en2 (Den.mono (hide_sub sub2) d3) _ fun σ3 en3 w3 s3 => ⟨rfl, q σ3 en3 (fun vs h => ?_) fun a ha => s1 a (s2 a (s3 a ha))⟩
  exact ((w3 vs fun i hi => h i (List.mem_append_right _ (List.mem_append_right _ hi))).trans (w2 vs fun i hi => h i (List.mem_append_right _ (List.mem_append_left _ hi)))).trans (w1 vs fun i hi => h i (List.mem_append_left _ hi))
section
variable {X : Cx} {W : WX} {Γ Γ' : Ctx} {e a b c : Expr} {pos p p2 : Pos} {N : List Str} {sc : Scope} {fb : Str → Bool} {n : Str}
theorem pg_nm (C : Ct0 X N sc fb W) (j : Nat) (hn : N[j]? = some n) (hl : locB sc n = true) (hf : fb n = true ∨ sc.names.lookup n = some .local) : PG X (.Name n pos) (gName j) :=
  pg_name (by rw [C.n]; exact C.nd) (by rw [C.n]; exact hn) (by rw [C.s]; exact loc_of hl) (hf.elim (fun h => .inl (C.fn n h)) fun h => .inr (by rw [C.s]; exact h))
theorem pg_t2 (C : Ct X N sc fb W) {g1 g2 : TG} {t1 t2 : Expr} {k : Nat} (h1 : PG X t1 g1) (h2 : PG X t2 g2) (hn : (assignEach [t1, t2] X.env).length = 2 := by rfl) (hst : (assignEach [t1, t2] X.env).findIdx? (·.1) = none := by rfl)
    (hs1 : PGs X [t1, t2] (gCons g1 (gCons g2 gNil))) : PG X (.Tuple [t1, t2] k pos) (gTup X.K 2 (gCons g1 (gCons g2 gNil))) := pg_tup C.c hs1 hn hst

/-! comprehensions -/
def noX {α : Type} : M α → M α
  | .error (.exc _) => stk
  | m => m
theorem noX_ok {α : Type} {m : M α} {x : α} (h : noX m = .ok x) : m = .ok x := by
  cases m with
  | ok y => exact h
  | error er => cases er with
    | stuck => cases h
    | exc z => cases h
/-- [f(x) for x in xs if c(x)] -/
def compM {α β : Type} (c : α → M Bool) (f : α → M β) : List α → M (List β)
  | [] => .ok []
  | x :: xs => noX (c x) >>= fun b => if b = true then (noX (f x) >>= fun y => compM c f xs >>= fun ys => .ok (y :: ys)) else compM c f xs
/-- [f(x) for x in xs] -/
def mapM' {α β : Type} (f : α → M β) : List α → M (List β)
  | [] => .ok []
  | x :: xs => noX (f x) >>= fun y => mapM' f xs >>= fun ys => .ok (y :: ys)
theorem mapM'_eq {α β : Type} (f : α → M β) : ∀ xs, mapM' f xs = compM (fun _ => .ok true) f xs
  | [] => rfl
  | x :: xs => by
    unfold mapM' compM
    rw [mapM'_eq f xs]
    rfl
theorem bind_ok {α β : Type} {m : M α} {f : α → M β} {y : β} (h : (m >>= f) = .ok y) : ∃ x, m = .ok x ∧ f x = .ok y := by
  cases m with
  | ok x => exact ⟨x, rfl, h⟩
  | error er => cases h
/-- how the list grows, item by item -/
inductive Grow {α β : Type} (c : α → M Bool) (f : α → M β) : List α → List β → Prop
  | nil : Grow c f [] []
  | yes {xs : List α} {ys : List β} {x : α} {y : β} : Grow c f xs ys → c x = .ok true → f x = .ok y → Grow c f (xs ++ [x]) (ys ++ [y])
  | no {xs : List α} {ys : List β} {x : α} : Grow c f xs ys → c x = .ok false → Grow c f (xs ++ [x]) ys
theorem grow_rev {α β : Type} {c : α → M Bool} {f : α → M β} {xs : List α} {ys : List β} (h : Grow c f xs ys) : xs = [] ∧ ys = [] ∨ ∃ xs' x, xs = xs' ++ [x] ∧ ((∃ ys' y, ys = ys' ++ [y] ∧ Grow c f xs' ys' ∧ c x = .ok true ∧ f x = .ok y) ∨ (Grow c f xs' ys ∧ c x = .ok false)) := by
  cases h with
  | nil => exact .inl ⟨rfl, rfl⟩
  | yes g h1 h2 => exact .inr ⟨_, _, rfl, .inl ⟨_, _, rfl, g, h1, h2⟩⟩
  | no g h1 => exact .inr ⟨_, _, rfl, .inr ⟨g, h1⟩⟩
theorem grow_one {α β : Type} {c : α → M Bool} {f : α → M β} {as : List α} {b1 b2 : List β} (h1 : Grow c f as b1) : Grow c f as b2 → b1 = b2 := by
  induction h1 generalizing b2 with
  | nil =>
    intro h2
    rcases grow_rev h2 with ⟨_, e⟩ | ⟨xs', x, e, _⟩
    · exact e.symm
    · simp at e
  | @yes xs ys x y g hc hf ih =>
    intro h2
    rcases grow_rev h2 with ⟨e, _⟩ | ⟨xs', x', e, r⟩
    · simp at e
    · obtain ⟨e1, e2⟩ := List.append_inj' e rfl
      have e3 : x = x' := by simpa using e2
      subst e1 e3
      rcases r with ⟨ys', y', e4, g', _, hf'⟩ | ⟨_, hc'⟩
      · rw [hf] at hf'
        cases hf'
        rw [e4, ih g']
      · rw [hc] at hc'
        cases hc'
  | @no xs ys x g hc ih =>
    intro h2
    rcases grow_rev h2 with ⟨e, _⟩ | ⟨xs', x', e, r⟩
    · simp at e
    · obtain ⟨e1, e2⟩ := List.append_inj' e rfl
      have e3 : x = x' := by simpa using e2
      subst e1 e3
      rcases r with ⟨ys', y', e4, g', hc', hf'⟩ | ⟨g', hc'⟩
      · rw [hc] at hc'
        cases hc'
      · exact ih g'
theorem wipe_wipe {σ : L2.St} {vs : List Nat} : wipe (wipe σ vs) vs = wipe σ vs := by
  have : ∀ (ws : List Nat), (∀ i ∈ ws, i ∈ vs) → wipe (wipe σ ws) vs = wipe σ vs := fun ws => by
    induction ws with
    | nil => intro _; rfl
    | cons w ws ih =>
      intro h
      show wipe ((wipe σ ws).set w none) vs = _
      rw [wipe_set (h w List.mem_cons_self), ih fun i hi => h i (List.mem_cons_of_mem _ hi)]
  exact this vs fun _ h => h
theorem grow_of {α β : Type} {c : α → M Bool} {f : α → M β} : ∀ {xs : List α} {zs : List β} {ps : List α} {qs : List β}, Grow c f ps qs → compM c f xs = .ok zs → ∀ i, i ≤ xs.length → ∃ ws, Grow c f (ps ++ xs.take i) (qs ++ ws) ∧ ws.length ≤ i ∧
    (∀ x, xs[i]? = some x → (c x = .ok false) ∨ (c x = .ok true ∧ ∃ y, f x = .ok y)) ∧ (i = xs.length → ws = zs)
  | [], zs, ps, qs, g, h, i, hi => by
    have e : zs = [] := by
      unfold compM at h
      cases h
      rfl
    subst e
    exact ⟨[], by simpa using g, by simp, fun x hx => by simp at hx, fun _ => rfl⟩
  | x :: xs, zs, ps, qs, g, h, 0, hi => by
    refine ⟨[], by simpa using g, Nat.le_refl _, fun y hy => ?_, fun z => by simp at z⟩
    have e : x = y := by simpa using hy
    subst e
    unfold compM at h
    obtain ⟨b, h1, h2⟩ := bind_ok h
    have h1 := noX_ok h1
    cases b with
    | false => exact .inl h1
    | true =>
      rw [if_pos rfl] at h2
      obtain ⟨y, h3, _⟩ := bind_ok h2
      exact .inr ⟨h1, y, noX_ok h3⟩
  | x :: xs, zs, ps, qs, g, h, i + 1, hi => by
    unfold compM at h
    obtain ⟨b, h1, h2⟩ := bind_ok h
    have h1 := noX_ok h1
    have hi' : i ≤ xs.length := by simpa using hi
    cases b with
    | false =>
      rw [if_neg Bool.false_ne_true] at h2
      obtain ⟨ws, g2, l2, n2, e2⟩ := grow_of (.no g h1) h2 i hi'
      exact ⟨ws, by simpa using g2, by omega, fun y hy => n2 y (by simpa using hy), fun z => e2 (by simpa using z)⟩
    | true =>
      rw [if_pos rfl] at h2
      obtain ⟨y, h3, h4⟩ := bind_ok h2
      obtain ⟨ys, h5, h6⟩ := bind_ok h4
      obtain ⟨ws, g2, l2, n2, e2⟩ := grow_of (.yes g h1 (noX_ok h3)) h5 i hi'
      refine ⟨y :: ws, by simpa using g2, by simp; omega, fun y hy => n2 y (by simpa using hy), fun z => ?_⟩
      rw [e2 (by simpa using z)]
      cases h6
      rfl
def wipeC (Γ : Ctx) : List Nat → Ctx
  | [] => Γ
  | v :: vs => (wipeC Γ vs).set v .un
theorem Env.wipe {K : Fg} {H0 H : Hp} {Ox : List Addr} {σ : L2.St} (h : Env K H0 Ox Γ σ H) : ∀ vs : List Nat, Env K H0 Ox (wipeC Γ vs) (L2.wipe σ vs) H ∧ ∀ a ∈ owns (wipeC Γ vs) (L2.wipe σ vs), a ∈ owns Γ σ
  | [] => ⟨h, fun _ z => z⟩
  | v :: vs => by
    obtain ⟨h1, h2⟩ := Env.wipe h vs
    exact ⟨h1.forget, fun a ha => h2 a ((owns_setv (s := .un) (fun ov => by simp [owns]) h1.len).subset ha)⟩
def dropOw : Ctx → Ctx
  | [] => []
  | (@Slot.ow _ _ _ _) :: Γ => .un :: dropOw Γ
  | .un :: Γ => .un :: dropOw Γ
  | (@Slot.va _ _ x) :: Γ => .va x :: dropOw Γ
theorem dropOw_owns : ∀ {Γ : Ctx} {σ : L2.St}, owns (dropOw Γ) σ = []
  | [], σ => by cases σ <;> simp [owns, dropOw]
  | s :: Γ, [] => by cases s <;> simp [owns, dropOw]
  | s :: Γ, ov :: σ => by
    have := dropOw_owns (Γ := Γ) (σ := σ)
    cases s <;> simp [owns, dropOw, this]
theorem dropOw_all {K : Fg} {H H' : Hp} {O O' : List Addr} (e : Ex (hide O H) (hide O' H')) : ∀ {Γ : Ctx} {σ : L2.St}, All2 (SlotOk K H O) Γ σ → All2 (SlotOk K H' O') (dropOw Γ) σ
  | _, _, .nil => .nil
  | s :: Γ, ov :: σ, .cons h t => by
    cases s with
    | un => exact .cons trivial (dropOw_all e t)
    | va x => obtain ⟨v, h1, h2⟩ := h; exact .cons ⟨v, h1, Den.mono e h2⟩ (dropOw_all e t)
    | ow x => exact .cons trivial (dropOw_all e t)
theorem wipe_all {K : Fg} {H : Hp} {O : List Addr} {Γ : Ctx} {σ : L2.St} (h : All2 (SlotOk K H O) Γ σ) : ∀ vs : List Nat, All2 (SlotOk K H O) (wipeC Γ vs) (wipe σ vs)
  | [] => h
  | v :: vs => All2.set v (wipe_all h vs) (show SlotOk K H O .un none from trivial)
/-- the block's own slots, as they are seen in the block of a comprehension that fills D -/
theorem Env.block {K : Fg} {H0 H H' : Hp} {Ox : List Addr} {σ : L2.St} {D : Addr} (h : Env K H0 Ox Γ σ H) (hD : H D = none) (e : Ex H H') (hD' : H' D ≠ none) (vs : List Nat) :
    Env K H (D :: (Ox ++ owns Γ σ)) (dropOw (wipeC Γ vs)) (L2.wipe σ vs) H' := by
  have ow := dropOw_owns (Γ := wipeC Γ vs) (σ := L2.wipe σ vs)
  refine ⟨?_, by rw [ow]; exact List.nodup_nil, fun p hp => (by rw [ow] at hp; cases hp), fun p hp => ?_, fun p _ => by rw [ow]; simp, e⟩
  · rw [ow, List.append_nil]
    exact dropOw_all (hide_new e hD) (wipe_all h.ok vs)
  · rcases List.mem_cons.mp hp with z | z
    · rw [z]; exact hD'
    · exact ex_ne e (h.own p z)
theorem Env.again {K : Fg} {H0 H H' : Hp} {Ox : List Addr} {Γ : Ctx} {σ : L2.St} (h : Env K H0 Ox Γ σ H) (no : owns Γ σ = []) (e : Ex (hide Ox H) (hide Ox H')) (he : Ex H0 H') (ho : ∀ p ∈ Ox, H' p ≠ none) : Env K H0 Ox Γ σ H' := by
  refine ⟨?_, h.nd, h.nw, ho, h.dj, he⟩
  have ok := h.ok
  rw [no, List.append_nil] at ok ⊢
  have : ∀ {Γ : Ctx} {σ : L2.St}, owns Γ σ = [] → All2 (SlotOk K H Ox) Γ σ → All2 (SlotOk K H' Ox) Γ σ := fun {Γ σ} no a => by
    induction a with
    | nil => exact .nil
    | @cons s ov Γ σ h t ih =>
      cases s with
      | un => exact .cons trivial (ih (by simpa [owns] using no))
      | va x =>
        obtain ⟨v, h1, h2⟩ := h
        exact .cons ⟨v, h1, Den.mono e h2⟩ (ih (by simpa [owns] using no))
      | ow x =>
        obtain ⟨p, o, h1, _⟩ := h
        subst h1
        simp [owns] at no
  exact this no ok

/-- the reading of a comprehension -/
theorem lc_readsAt {α β : Type} [Den α] [Den β] {mx : M (List α)} {cf : α → M Bool} {f : α → M β} {wi : TI} {g : TG} {tt : TT} {te : TE} {ts vs : List Nat} {Γt : α → Ctx} {H0 : Hp} {Ox : List Addr} {σ : L2.St} {H : Hp}
    (hi : ∀ R : It → Hp → Prop, PoX X.mg H (fun c d H2 => W c d σ H2) (fun xs => ∀ J H2, Ex H H2 → xs.length ≤ sizeLine → WalkOk X.K J (hide (Ox ++ owns Γ σ) H2) xs → R J H2) mx → wi σ H R)
    (hG : GOk X.K g ts (dropOw (wipeC Γ vs)) Γt) (hts : ∀ i ∈ ts, i ∈ vs)
    (hc : ∀ x H0 Ox σ H, Env X.K H0 Ox (Γt x) σ H → ∀ Q : Bool → Hp → Prop, PoX X.mg H (fun _ _ _ => False) (fun b => ∀ H2, Ex H H2 → Q b H2) (cf x) → tt σ H Q)
    (he : ∀ x H0 Ox σ H, Env X.K H0 Ox (Γt x) σ H → ∀ Q : VK, PoE X.K X.mg (Ox ++ owns (Γt x) σ) H (fun _ _ _ => False) Q (f x) → te σ H Q)
    (en : Env X.K H0 Ox Γ σ H) {Q : VK} (q : PoN X.K X.mg (Ox ++ owns Γ σ) H (fun c d H2 => W c d σ H2) Q (mx >>= fun xs => compM cf f xs)) : tLc wi g tt te vs σ H Q := by
  refine hi _ ?_
  cases mx with
  | error er => cases er with
    | stuck => exact q
    | exc w => exact q
  | ok xs =>
    intro J H2 z hlen hw D hD
    have q : PoN X.K X.mg (Ox ++ owns Γ σ) H (fun c d H2 => W c d σ H2) Q (compM cf f xs) := q
    cases hz : compM cf f xs with
    | error er => cases er with
      | stuck => rw [hz] at q; exact q.elim
      | exc w =>
        exfalso
        have : ∀ xs : List α, compM cf f xs ≠ .error (.exc w) := fun xs => by
          induction xs with
          | nil => intro h; cases h
          | cons x xs ih =>
            intro h
            unfold compM at h
            cases h1 : noX (cf x) with
            | error er =>
              rw [h1] at h
              have h2 : er = .exc w := by injection h
              subst h2
              unfold noX at h1
              split at h1 <;> simp_all
            | ok b =>
              rw [h1] at h
              cases b with
              | false => exact ih h
              | true =>
                cases h3 : noX (f x) with
                | error er =>
                  have h : (noX (f x) >>= fun y => compM cf f xs >>= fun ys => .ok (y :: ys)) = .error (.exc w) := h
                  rw [h3] at h
                  have h2 : er = .exc w := by injection h
                  subst h2
                  unfold noX at h3
                  split at h3 <;> simp_all
                | ok y =>
                  have h : (noX (f x) >>= fun y => compM cf f xs >>= fun ys => .ok (y :: ys)) = .error (.exc w) := h
                  rw [h3] at h
                  have h : (compM cf f xs >>= fun ys => (.ok (y :: ys) : M (List β))) = .error (.exc w) := h
                  cases h4 : compM cf f xs with
                  | error er =>
                    rw [h4] at h
                    have h2 : er = .exc w := by injection h
                    subst h2
                    exact ih h4
                  | ok ys => rw [h4] at h; cases h
        exact this xs hz
    | ok zs =>
      rw [hz] at q
      have en2 := en.mono z
      have G := fun i (hi : i ≤ xs.length) => grow_of (c := cf) (f := f) .nil hz i hi
      generalize hO : Ox ++ owns Γ σ = O at *
      have own2 : ∀ p ∈ O, H2 p ≠ none := fun p hp => en2.own p (by rw [hO]; exact hp)
      -- what holds between two turns
      let P : Nat → Hp → Prop := fun i H' => Ex H2 H' ∧ Ex (hide O H2) (hide (D :: O) H') ∧ ∃ us ys, H' D = some (.lst us) ∧ All2 (den X.K (hide (D :: O) H')) us ys ∧ Grow cf f (xs.take i) ys ∧ ys.length ≤ i
      refine ⟨fun i m H' => m = xs.length - i ∧ i ≤ xs.length ∧ P i H', ⟨xs.length, by simp, Nat.zero_le _, Ex.new hD, hide_new (Ex.new hD) hD, [], [], upd_same, .nil, by simpa using Grow.nil, Nat.le_refl _⟩, ?_⟩
      rintro i m H' ⟨rfl, hile, e1, e2, us, ys, hus, hys, gr, yl⟩
      have nD : H' D ≠ none := by rw [hus]; exact fun w => nomatch w
      have hGH : Ex (hide O H2) H' := e2.trans hide_le
      by_cases hlt : i < xs.length
      · refine .inr ?_
        have hx : xs[i]? = some xs[i] := List.getElem?_eq_getElem hlt
        obtain ⟨go, yl2⟩ := (hw i H' hGH).1 _ hx
        refine ⟨go, P (i + 1), fun H3 p3 => ⟨xs.length - (i + 1), by omega, rfl, hlt, p3⟩, fun v H3 hy => ?_⟩
        obtain ⟨z3, dv⟩ := yl2 v H3 hy
        have dv := dv (D :: O) (fun p hp => by
          rcases List.mem_cons.mp hp with w | w
          · rw [w]; exact nD
          · exact ex_ne e1 (own2 p w)) e2
        have nD3 : H3 D ≠ none := ex_ne z3 nD
        -- the block's frame
        have enB : Env X.K H2 (D :: O) (dropOw (wipeC Γ vs)) (wipe σ vs) H3 := by
          have := en2.block hD (e1.trans z3) nD3 vs
          rw [hO] at this
          exact this
        have dv' : den X.K (hide ((D :: O) ++ owns (dropOw (wipeC Γ vs)) (wipe σ vs)) H3) v xs[i] := by
          rw [dropOw_owns, List.append_nil]
          exact dv
        refine hG H2 (D :: O) (wipe σ vs) H3 v xs[i] enB dv' _ fun σ2 en3 w2 s2 => ⟨?_, ?_⟩
        · rw [w2 vs hts]
          exact wipe_wipe
        obtain ⟨ws, g2, _, nn, _⟩ := G i hile
        have ow0 : owns (Γt xs[i]) σ2 = [] := List.eq_nil_iff_forall_not_mem.mpr fun a ha => by
          have := s2 a ha
          rw [dropOw_owns] at this
          cases this
        have hus3 := z3 D _ hus
        have hys3 := hys.imp fun x y (k : den X.K (hide (D :: O) H') x y) => Den.mono (hide_ex z3) k
        have nx := nn _ hx
        refine hc xs[i] H2 (D :: O) σ2 H3 en3 _ ?_
        rcases nx with cF | ⟨cT, y, fy⟩
        · rw [cF]
          intro H4 z4
          rw [if_neg Bool.false_ne_true]
          refine ⟨(e1.trans z3).trans z4, e2.trans (hide_ex (z3.trans z4)), us, ys, z4 D _ hus3, hys3.imp fun x y (k : den X.K (hide (D :: O) H3) x y) => Den.mono (hide_ex z4) k, ?_, by omega⟩
          rw [List.take_add_one, hx]
          exact Grow.no gr cF
        · rw [cT]
          intro H4 z4
          rw [if_pos rfl]
          refine he xs[i] H2 (D :: O) σ2 H4 (en3.mono z4) _ ?_
          rw [fy]
          intro u H5 z5 du
          rw [ow0, List.append_nil] at du
          have hus5 := z5 D _ (z4 D _ hus3)
          refine ⟨us, hus5, ?_, ?_, ?_, us ++ [u], ys ++ [y], upd_same, ?_, ?_, by rw [List.length_append]; show ys.length + 1 ≤ i + 1; omega⟩
          · rw [hys.len]
            omega
          · intro a o ha
            rw [upd_ne fun w => by rw [w, hD] at ha; cases ha]
            exact z5 a o (z4 a o (z3 a o (e1 a o ha)))
          · rw [hide_upd List.mem_cons_self]
            exact e2.trans (hide_ex ((z3.trans z4).trans z5))
          · rw [hide_upd List.mem_cons_self]
            exact (hys3.imp fun x y (k : den X.K (hide (D :: O) H3) x y) => Den.mono (hide_ex (z4.trans z5)) k).app (.cons du .nil)
          · rw [List.take_add_one, hx]
            exact Grow.yes gr cT fy
      · have hi : i = xs.length := by omega
        refine .inl ⟨(hw i H' hGH).2 hi, ?_⟩
        obtain ⟨ws, g2, l2, _, e3⟩ := G i hile
        have eqy : ys = zs := by
          have hz2 := e3 hi
          subst hz2
          have u2 : ∀ {as : List α} {b1 b2 : List β}, Grow cf f as b1 → Grow cf f as b2 → b1 = b2 := grow_one
          exact u2 gr (by simpa using g2)
        subst eqy
        refine q D (.lst us) H' (z.trans e1) (z.free hD) hus ⟨us, rfl, hys, by omega⟩
theorem lc_reads {α β : Type} [Den α] [Den β] {mx : M (List α)} {cf : α → M Bool} {f : α → M β} {wi : TI} {g : TG} {tt : TT} {te : TE} {ts vs : List Nat} {Γt : α → Ctx}
    (hi : ∀ H0 Ox σ H, Env X.K H0 Ox Γ σ H → ∀ R : It → Hp → Prop, PoX X.mg H (fun c d H2 => W c d σ H2) (fun xs => ∀ J H2, Ex H H2 → xs.length ≤ sizeLine → WalkOk X.K J (hide (Ox ++ owns Γ σ) H2) xs → R J H2) mx → wi σ H R)
    (hG : GOk X.K g ts (dropOw (wipeC Γ vs)) Γt) (hts : ∀ i ∈ ts, i ∈ vs)
    (hc : ∀ x H0 Ox σ H, Env X.K H0 Ox (Γt x) σ H → ∀ Q : Bool → Hp → Prop, PoX X.mg H (fun _ _ _ => False) (fun b => ∀ H2, Ex H H2 → Q b H2) (cf x) → tt σ H Q)
    (he : ∀ x H0 Ox σ H, Env X.K H0 Ox (Γt x) σ H → ∀ Q : VK, PoE X.K X.mg (Ox ++ owns (Γt x) σ) H (fun _ _ _ => False) Q (f x) → te σ H Q)
    {H0 : Hp} {Ox : List Addr} {σ : L2.St} {H : Hp} (en : Env X.K H0 Ox Γ σ H) {Q : VK} (q : PoN X.K X.mg (Ox ++ owns Γ σ) H (fun c d H2 => W c d σ H2) Q (mx >>= fun xs => compM cf f xs)) : tLc wi g tt te vs σ H Q :=
  lc_readsAt (hi H0 Ox σ H en) hG hts hc he en q
end
end P3

set_option Elab.async false
set_option linter.all false
set_option maxRecDepth 100000
set_option maxHeartbeats 4000000
namespace P3
open PySem PySem.Spec PyProof.Rows L2
open Den (den)
open Ob (ob)

abbrev W0 : WX := fun _ _ _ _ => False
section
variable {X : Cx} {W : WX} {Γ Γ' : Ctx} {e a b c : Expr} {pos p p2 : Pos} {N : List Str} {sc : Scope} {fb : Str → Bool} {n : Str}
theorem Ct.blk (C : Ct X N sc fb W) (scope : Scope) (s : Shared) (H : Hp) (D : Addr) (cl : List (Str × Addr)) (fp : List Addr) :
    Ct (X.blk s H scope (compEnvC scope cl D X.env) fp) N (relS scope sc) (fun x => scope.names.lookup x == some .cell) W0 where
  n := C.n
  s := by
    show relabel scope X.env = relS scope sc
    rw [← C.s]
    rfl
  c := C.c
  nd := C.nd
  tk := takes0
  fn := fun _ h => h
  un := C.un

/-- [elt for tg in iter] -/
theorem en_lc {α β : Type} [Den α] [Den β] (C : Ct X N sc fb W) {tg iter elt : Expr} {scope : Scope} (own : List (Str × Nat)) {mx : M (List α)} {f : α → M β} {g : TG} {ts : List Nat} {Γt : α → Ctx}
    (hi : IT X W Γ tg iter mx) (hb : blkC N sc scope own = true) (hG : GOk X.K g ts (dropOw (wipeC Γ (own.map (·.2)))) Γt) (hts : ∀ i ∈ ts, i ∈ own.map (·.2))
    (hg : ∀ s H D cl fp, PG (X.blk s H scope (compEnvC scope cl D X.env) fp) tg g)
    (he : ∀ x s H D cl fp, EV (X.blk s H scope (compEnvC scope cl D X.env) fp) W0 (Γt x) elt (f x))
    (hs : ∀ x, foldedSetIterable iter X.env x = pure x := by intro _; rfl) : EN X W Γ (.ListComp elt [⟨tg, iter, [], 0⟩] scope pos) (mx >>= fun xs => mapM' f xs) := by
  obtain ⟨wi, pi, ri⟩ := hi
  refine .mk fun H0 Ox σ H en Q q => PEw (pe_lc (own := own) (te := fun σ H Q => ∀ s H' D cl fp, we (X.blk s H' scope (compEnvC scope cl D X.env) fp) elt σ H Q) C.c (by rw [C.n]; exact C.nd) pi (by rw [C.n, C.s]; exact blkOk_by hb) (fun s H D cl fp => hg s H D cl fp) (fun s H D cl fp => pts_nil) (fun s H D cl fp => ⟨fun pins s' σ' H' Q' I h => h s H D cl fp pins s' I⟩) hs) ?_
  refine lc_reads (cf := fun _ => .ok true) (f := f) ri hG hts (fun x H0 Ox σ H _ Q h => h H (Ex.refl H)) (fun x H0 Ox σ H en Q h s H' D cl fp => he x s H' D cl fp H0 Ox σ H en Q h) en ?_
  have e : (fun xs => mapM' f xs) = fun xs => compM (fun _ => .ok true) f xs := by funext xs; exact mapM'_eq f xs
  rw [← e]
  exact q
/-- [elt for tg in iter if cond] -/
theorem en_lcIf {α β : Type} [Den α] [Den β] (C : Ct X N sc fb W) {tg iter elt cond : Expr} {scope : Scope} (own : List (Str × Nat)) {mx : M (List α)} {cf : α → M Bool} {f : α → M β} {g : TG} {ts : List Nat} {Γt : α → Ctx}
    (hi : IT X W Γ tg iter mx) (hb : blkC N sc scope own = true) (hG : GOk X.K g ts (dropOw (wipeC Γ (own.map (·.2)))) Γt) (hts : ∀ i ∈ ts, i ∈ own.map (·.2))
    (hg : ∀ s H D cl fp, PG (X.blk s H scope (compEnvC scope cl D X.env) fp) tg g)
    (hc : ∀ x s H D cl fp, ET (X.blk s H scope (compEnvC scope cl D X.env) fp) W0 (Γt x) cond (cf x))
    (he : ∀ x s H D cl fp, EV (X.blk s H scope (compEnvC scope cl D X.env) fp) W0 (Γt x) elt (f x))
    (hs : ∀ x, foldedSetIterable iter X.env x = pure x := by intro _; rfl) : EN X W Γ (.ListComp elt [⟨tg, iter, [cond], 0⟩] scope pos) (mx >>= fun xs => compM cf f xs) := by
  obtain ⟨wi, pi, ri⟩ := hi
  refine .mk fun H0 Ox σ H en Q q => PEw (pe_lc (own := own) (tt := fun σ H Q => ∀ s H' D cl fp, wt (X.blk s H' scope (compEnvC scope cl D X.env) fp) cond σ H Q) (te := fun σ H Q => ∀ s H' D cl fp, we (X.blk s H' scope (compEnvC scope cl D X.env) fp) elt σ H Q) C.c (by rw [C.n]; exact C.nd) pi (by rw [C.n, C.s]; exact blkOk_by hb) (fun s H D cl fp => hg s H D cl fp)
    (fun s H D cl fp => pts_one ⟨fun pins s' σ' H' Q' I h => h s H D cl fp pins s' I⟩) (fun s H D cl fp => ⟨fun pins s' σ' H' Q' I h => h s H D cl fp pins s' I⟩) hs) ?_
  exact lc_reads ri hG hts (fun x H0 Ox σ H en Q h s H' D cl fp => hc x s H' D cl fp H0 Ox σ H en Q h) (fun x H0 Ox σ H en Q h s H' D cl fp => he x s H' D cl fp H0 Ox σ H en Q h) en q

/-! built-in functions, by values -/
theorem ev_b1 {α γ : Type} [Den α] [Den γ] (C : Ct0 X N sc fb W) {id : String} {r : List V → Hp → VK → Prop} {ma : M α} (f : α → M γ) (hc : CallR X (.builtin id) r)
    (hf : ∀ O H σ x v Q, (∀ p ∈ O, H p ≠ none) → den X.K (hide O H) v x → PoE X.K X.mg O H (fun c d H2 => W c d σ H2) Q (f x) → r [v] H Q) (ha : EV X W Γ a ma)
    (hg : gloB sc n = true) (hm : X.mg n = none) (hv : bootBuiltins n = some (.builtin id)) (hn : n ≠ "__name__" := by decide) (hdb : (n == ("__debug__" : Str)) = false := by decide) (pl : Pl a := by intro _ _; rfl) :
    EV X W Γ (.Call (.Name n p) [a] [] pos) (ma >>= f) := .mk fun H0 Ox σ H en Q q =>
  PEw (pe_callB hc (gl_of C hg) hm hv (pa_cons pe_w pa_nil (pl _ _)) hn hdb (pl _ _) (PlL.nil _ _)) (ha.bind en q fun x v H2 _ z en2 hv g => hf _ H2 σ x v Q en2.own hv (PoX.imp (β := γ) (Ex.refl H2) (fun _ _ g w H3 z3 => g w H3 (z.trans z3)) g))
theorem ev_b2 {α β γ : Type} [Den α] [Den β] [Den γ] (C : Ct0 X N sc fb W) {id : String} {r : List V → Hp → VK → Prop} {ma : M α} {mb : M β} (f : α → β → M γ) (hc : CallR X (.builtin id) r)
    (hf : ∀ O H σ x y v u Q, (∀ p ∈ O, H p ≠ none) → den X.K (hide O H) v x → den X.K (hide O H) u y → PoE X.K X.mg O H (fun c d H2 => W c d σ H2) Q (f x y) → r [v, u] H Q) (ha : EV X W Γ a ma) (hb : EV X W Γ b mb)
    (hg : gloB sc n = true) (hm : X.mg n = none) (hv : bootBuiltins n = some (.builtin id)) (hn : n ≠ "__name__" := by decide) (hdb : (n == ("__debug__" : Str)) = false := by decide) (pl : Pl a := by intro _ _; rfl) (pl2 : Pl b := by intro _ _; rfl) :
    EV X W Γ (.Call (.Name n p) [a, b] [] pos) (ma >>= fun x => mb >>= fun y => f x y) := .mk fun H0 Ox σ H en Q q =>
  PEw (pe_callB hc (gl_of C hg) hm hv (pa_cons pe_w (pa_cons pe_w pa_nil (pl2 _ _)) (pl _ _)) hn hdb (pl _ _) (PlL.cons pl2 PlL.nil _ _)) (ha.bind en q fun x v H2 _ z en2 hv g => hb.bind en2 g fun y u H3 _ z3 en3 hu g3 =>
    hf _ H3 σ x y v u Q en3.own (Den.mono (hide_ex z3) hv) hu (PoX.imp (β := γ) (Ex.refl H3) (fun _ _ g w H4 z4 => g w H4 ((z.trans z3).trans z4)) g3))
theorem ev_t1 {α γ : Type} [Den α] [Den γ] (C : Ct0 X N sc fb W) {T : String} {r : List V → Hp → VK → Prop} {ma : M α} (f : α → M γ) (hc : CallR X (.type T) r)
    (hf : ∀ O H σ x v Q, (∀ p ∈ O, H p ≠ none) → den X.K (hide O H) v x → PoE X.K X.mg O H (fun c d H2 => W c d σ H2) Q (f x) → r [v] H Q) (ha : EV X W Γ a ma)
    (hg : gloB sc n = true) (hm : X.mg n = none) (hv : bootBuiltins n = some (.type T)) (hn : n ≠ "__name__" := by decide) (hdb : (n == ("__debug__" : Str)) = false := by decide) (pl : Pl a := by intro _ _; rfl) :
    EV X W Γ (.Call (.Name n p) [a] [] pos) (ma >>= f) := .mk fun H0 Ox σ H en Q q =>
  PEw (pe_callTy hc (gl_of C hg) hm hv (pa_cons pe_w pa_nil (pl _ _)) hn hdb (pl _ _) (PlL.nil _ _)) (ha.bind en q fun x v H2 _ z en2 hv g => hf _ H2 σ x v Q en2.own hv (PoX.imp (β := γ) (Ex.refl H2) (fun _ _ g w H3 z3 => g w H3 (z.trans z3)) g))
theorem en_t1 {α γ : Type} [Den α] [Den γ] [Ob γ] (C : Ct0 X N sc fb W) {T : String} {r : List V → Hp → VK → Prop} {ma : M α} (f : α → M γ) (hc : CallR X (.type T) r)
    (hf : ∀ O H σ x v Q, (∀ p ∈ O, H p ≠ none) → den X.K (hide O H) v x → PoN X.K X.mg O H (fun c d H2 => W c d σ H2) Q (f x) → r [v] H Q) (ha : EV X W Γ a ma)
    (hg : gloB sc n = true) (hm : X.mg n = none) (hv : bootBuiltins n = some (.type T)) (hn : n ≠ "__name__" := by decide) (hdb : (n == ("__debug__" : Str)) = false := by decide) (pl : Pl a := by intro _ _; rfl) :
    EN X W Γ (.Call (.Name n p) [a] [] pos) (ma >>= f) := .mk fun H0 Ox σ H en Q q =>
  PEw (pe_callTy hc (gl_of C hg) hm hv (pa_cons pe_w pa_nil (pl _ _)) hn hdb (pl _ _) (PlL.nil _ _)) (ha.bind en q fun x v H2 _ z en2 hv g => hf _ H2 σ x v Q en2.own hv (PoX.imp (β := γ) (Ex.refl H2) (fun _ _ g w o H3 z3 hn => g w o H3 (z.trans z3) (z.free hn)) g))
theorem ev_len {α : Type} [Den α] (C : Ct0 X N sc fb W) {ma : M (List α)} (ha : EV X W Γ a ma) (hg : gloB sc "len" = true) (hm : X.mg "len" = none) (pl : Pl a := by intro _ _; rfl) :
    EV X W Γ (.Call (.Name "len" p) [a] [] pos) (ma >>= fun xs => .ok ((xs.length : Nat) : Int)) :=
  ev_b1 C (fun xs : List α => (.ok ((xs.length : Nat) : Int) : M Int)) call_len_seq (fun O H σ x v Q _ hv q => by
    obtain ⟨pp, vs, ev, h1, h2, _⟩ := hv
    refine ⟨pp, vs, by rw [ev], .inl (ex_l hide_le h1), ?_⟩
    rw [h2.len]
    exact q _ H (Ex.refl H) ⟨rfl, trivial⟩) ha hg hm PySem.boot_len (by decide) (by decide) pl
theorem ev_lenT (C : Ct0 X N sc fb W) {ma : M Tx} (ha : EV X W Γ a ma) (hg : gloB sc "len" = true) (hm : X.mg "len" = none) (pl : Pl a := by intro _ _; rfl) :
    EV X W Γ (.Call (.Name "len" p) [a] [] pos) (ma >>= fun x => .ok ((x.l.length : Nat) : Int)) :=
  ev_b1 C (fun x : Tx => (.ok ((x.l.length : Nat) : Int) : M Int)) call_len_str (fun O H σ x v Q _ hv q => ⟨sT x, by rw [hv.1], hv.2.1, q _ H (Ex.refl H) ⟨rfl, trivial⟩⟩) ha hg hm PySem.boot_len (by decide) (by decide) pl
theorem ev_int1 (C : Ct0 X N sc fb W) {ma : M Int} (ha : EV X W Γ a ma) (hg : gloB sc "int" = true) (hm : X.mg "int" = none) (pl : Pl a := by intro _ _; rfl) :
    EV X W Γ (.Call (.Name "int" p) [a] [] pos) (ma >>= fun x => .ok x) :=
  ev_t1 C (fun x : Int => (.ok x : M Int)) call_int1 (fun O H σ x v Q _ hv q => .inl ⟨x, by rw [hv.1], q _ H (Ex.refl H) ⟨rfl, trivial⟩⟩) ha hg hm (by decide +kernel) (by decide) (by decide) pl
def b2i (b : Bool) : Int := if b then 1 else 0
theorem ev_intB (C : Ct0 X N sc fb W) {ma : M Bool} (ha : EV X W Γ a ma) (hg : gloB sc "int" = true) (hm : X.mg "int" = none) (pl : Pl a := by intro _ _; rfl) :
    EV X W Γ (.Call (.Name "int" p) [a] [] pos) (ma >>= fun x => .ok (b2i x)) :=
  ev_t1 C (fun x : Bool => (.ok (b2i x) : M Int)) call_int1 (fun O H σ x v Q _ hv q => .inr ⟨x, by rw [hv.1], q _ H (Ex.refl H) ⟨rfl, trivial⟩⟩) ha hg hm (by decide +kernel) (by decide) (by decide) pl
def intT (x : Tx) : M Int := if x.l.length ≤ 640 then optM (PySem.intText? (sT x)) else stk
theorem ev_intT (C : Ct0 X N sc fb W) {ma : M Tx} (ha : EV X W Γ a ma) (hg : gloB sc "int" = true) (hm : X.mg "int" = none) (pl : Pl a := by intro _ _; rfl) :
    EV X W Γ (.Call (.Name "int" p) [a] [] pos) (ma >>= fun x => intT x) :=
  ev_t1 C intT call_int_str (fun O H σ x v Q _ hv q => by
    unfold intT optM at q
    split at q
    · rename_i hl
      split at q
      · rename_i k hk
        exact ⟨sT x, k, by rw [hv.1], hk, hl, q _ H (Ex.refl H) ⟨rfl, trivial⟩⟩
      · exact q.elim
    · exact q.elim) ha hg hm (by decide +kernel) (by decide) (by decide) pl
theorem ev_min (C : Ct X N sc fb W) {ma mb : M Int} (ha : EV X W Γ a ma) (hb : EV X W Γ b mb) (hg : gloB sc "min" = true) (hm : X.mg "min" = none) (pl : Pl a := by intro _ _; rfl) (pl2 : Pl b := by intro _ _; rfl) :
    EV X W Γ (.Call (.Name "min" p) [a, b] [] pos) (ma >>= fun x => mb >>= fun y => .ok (min x y)) :=
  ev_b2 C.toCt0 (fun (x y : Int) => (.ok (min x y) : M Int)) (call_min2 C.c) (fun O H σ x y v u Q _ hv hu q => ⟨x, y, by rw [hv.1, hu.1], by
    have e : (if y < x then y else x) = min x y := by split <;> omega
    rw [e]
    exact q _ H (Ex.refl H) ⟨rfl, trivial⟩⟩) ha hb hg hm boot_min (by decide) (by decide) pl pl2
theorem ev_max (C : Ct X N sc fb W) {ma mb : M Int} (ha : EV X W Γ a ma) (hb : EV X W Γ b mb) (hg : gloB sc "max" = true) (hm : X.mg "max" = none) (pl : Pl a := by intro _ _; rfl) (pl2 : Pl b := by intro _ _; rfl) :
    EV X W Γ (.Call (.Name "max" p) [a, b] [] pos) (ma >>= fun x => mb >>= fun y => .ok (max x y)) :=
  ev_b2 C.toCt0 (fun (x y : Int) => (.ok (max x y) : M Int)) (call_max2 C.c) (fun O H σ x y v u Q _ hv hu q => ⟨x, y, by rw [hv.1, hu.1], by
    have e : (if y > x then y else x) = max x y := by split <;> omega
    rw [e]
    exact q _ H (Ex.refl H) ⟨rfl, trivial⟩⟩) ha hb hg hm boot_max (by decide) (by decide) pl pl2
theorem bls_of {K : Fg} {H : Hp} : ∀ {vs : List V} {xs : List Bool}, All2 (den K H) vs xs → vs = xs.map V.bl
  | _, _, .nil => rfl
  | _, _, .cons h t => by rw [List.map_cons, ← bls_of t, h.1]
theorem ev_all (C : Ct X N sc fb W) {ma : M (List Bool)} (ha : EV X W Γ a ma) (hg : gloB sc "all" = true) (hm : X.mg "all" = none) (pl : Pl a := by intro _ _; rfl) :
    EV X W Γ (.Call (.Name "all" p) [a] [] pos) (ma >>= fun xs => .ok (xs.all id)) :=
  ev_b1 C.toCt0 (fun xs : List Bool => (.ok (xs.all id) : M Bool)) (cr_all C.c) (fun O H σ x v Q _ hv q => by
    obtain ⟨pp, vs, ev, h1, h2, _⟩ := hv
    have e := bls_of h2
    subst e
    exact ⟨pp, x, by rw [ev], ex_l hide_le h1, q _ H (Ex.refl H) ⟨rfl, trivial⟩⟩) ha hg hm (by decide +kernel) (by decide) (by decide) pl
theorem ev_any (C : Ct X N sc fb W) {ma : M (List Bool)} (ha : EV X W Γ a ma) (hg : gloB sc "any" = true) (hm : X.mg "any" = none) (pl : Pl a := by intro _ _; rfl) :
    EV X W Γ (.Call (.Name "any" p) [a] [] pos) (ma >>= fun xs => .ok (xs.any id)) :=
  ev_b1 C.toCt0 (fun xs : List Bool => (.ok (xs.any id) : M Bool)) (cr_any C.c) (fun O H σ x v Q _ hv q => by
    obtain ⟨pp, vs, ev, h1, h2, _⟩ := hv
    have e := bls_of h2
    subst e
    exact ⟨pp, x, by rw [ev], ex_l hide_le h1, q _ H (Ex.refl H) ⟨rfl, trivial⟩⟩) ha hg hm (by decide +kernel) (by decide) (by decide) pl
/-- list(xs) -/
theorem en_listOf {α : Type} [Den α] (C : Ct0 X N sc fb W) {ma : M (List α)} (ha : EV X W Γ a ma) (hg : gloB sc "list" = true) (hm : X.mg "list" = none) (pl : Pl a := by intro _ _; rfl) :
    EN X W Γ (.Call (.Name "list" p) [a] [] pos) (ma >>= fun xs => .ok xs) :=
  en_t1 C (fun xs : List α => (.ok xs : M (List α))) call_list_of (fun O H σ x v Q own hv q => by
    obtain ⟨pp, vs, ev, h1, h2, h3⟩ := hv
    refine ⟨pp, vs, by rw [ev], .inl (ex_l hide_le h1), fun l hl => ?_⟩
    exact q l _ _ (Ex.new hl) hl upd_same ⟨vs, rfl, h2.imp fun x y k => Den.mono (hide_new (Ex.new hl) hl) k, h3⟩) ha hg hm (by decide +kernel) (by decide) (by decide) pl

/-! methods of texts -/
def joinLL (S : Txt) : List Txt → Txt
  | [] => []
  | [x] => x
  | x :: y :: r => x ++ (S ++ joinLL S (y :: r))
def joinT (S : Tx) (xs : List Tx) : M Tx := if (xs.map fun x => x.l.length).sum + xs.length * S.l.length ≤ 16777216 then .ok ⟨joinLL S.l (xs.map fun x => x.l)⟩ else stk
theorem joinLL_eq (S : Txt) : ∀ l : List Txt, TL.joinL S l = joinLL S l
  | [] => rfl
  | [x] => rfl
  | x :: y :: r => by
    show x ++ (S ++ TL.joinL S (y :: r)) = x ++ (S ++ joinLL S (y :: r))
    rw [joinLL_eq S (y :: r)]
theorem join_T (S : Tx) (xs : List Tx) : Txt.join (sT S) (xs.map sT) = sT ⟨joinLL S.l (xs.map fun x => x.l)⟩ := by
  have h : TL.tl (Txt.join (sT S) (xs.map sT)) = joinLL S.l (xs.map fun x => x.l) := by
    rw [TL.join_eq, TL.tl_join, joinLL_eq, List.map_map]
    rfl
  have h2 : tT (Txt.join (sT S) (xs.map sT)) = ⟨joinLL S.l (xs.map fun x => x.l)⟩ := by
    show (⟨_⟩ : Tx) = _
    rw [← h]
  rw [← h2]
  rfl
theorem joinLL_len (S : Txt) : ∀ l : List Txt, (joinLL S l).length ≤ (l.map List.length).sum + l.length * S.length
  | [] => by simp [joinLL]
  | [x] => by simp [joinLL]
  | x :: y :: r => by
    have := joinLL_len S (y :: r)
    simp only [joinLL, List.length_append, List.map_cons, List.sum_cons, List.length_cons] at this ⊢
    have e : (r.length + 1 + 1) * S.length = (r.length + 1) * S.length + S.length := by rw [Nat.succ_mul]
    omega
theorem joinLL_mem (S : Txt) {c : Nat} : ∀ {l : List Txt}, c ∈ joinLL S l → c ∈ S ∨ ∃ x ∈ l, c ∈ x
  | [], h => by simp [joinLL] at h
  | [x], h => .inr ⟨x, by simp, h⟩
  | x :: y :: r, h => by
    simp only [joinLL, List.mem_append] at h
    rcases h with h | h | h
    · exact .inr ⟨x, by simp, h⟩
    · exact .inl h
    · rcases joinLL_mem S h with h | ⟨z, hz, h⟩
      · exact .inl h
      · exact .inr ⟨z, by simp at hz ⊢; right; exact hz, h⟩
theorem txs_of {K : Fg} {H : Hp} : ∀ {vs : List V} {xs : List Tx}, All2 (den K H) vs xs → vs = (xs.map sT).map V.str ∧ ∀ x ∈ xs, okT x
  | _, _, .nil => ⟨rfl, fun _ h => by cases h⟩
  | _, _, .cons h t => ⟨by rw [List.map_cons, List.map_cons, ← (txs_of t).1, h.1], fun x hx => by
    rcases List.mem_cons.mp hx with z | z
    · rw [z]; exact h.2
    · exact (txs_of t).2 x z⟩
theorem ev_join {q1 q2 : Pos} {ma : M Tx} {mb : M (List Tx)} (ha : EV X W Γ a ma) (hb : EV X W Γ b mb) (pl : Pl b := by intro _ _; rfl) (hbase : attributeBase a "join" X.env (eval a X.env) = eval a X.env := by rfl) (hline : (q1.endLine == q2.line) = true := by rfl) :
    EV X W Γ (.Call (.Attribute a "join" q1) [b] [] q2) (ma >>= fun x => mb >>= fun y => joinT x y) := .mk fun H0 Ox σ H en Q q =>
  PEw (pe_m1 F.slot_str_join F.type_str_join mt_join pe_w pe_w (pl_one pl _) hbase hline) (ha.bind en q fun x v H2 _ z en2 hv g => ⟨⟨sT x, hv.1⟩, hb.bind en2 g fun y u H3 _ z3 en3 hu g3 => by
    obtain ⟨pp, vs, ev, h1, h2, _⟩ := hu
    obtain ⟨e, oks⟩ := txs_of h2
    subst e
    unfold joinT at g3
    split at g3
    · rename_i hl
      refine ⟨sT x, pp, y.map sT, hv.1, by rw [ev], .inl (ex_l hide_le h1), ?_, ?_⟩
      · rw [List.map_map, List.length_map]
        exact hl
      · rw [join_T]
        refine g3 _ H3 (z.trans z3) ⟨rfl, ?_, List.all_eq_true.mpr fun c hc => ?_⟩
        · have := joinLL_len x.l (y.map fun x => x.l)
          rw [List.map_map, List.length_map] at this
          have e2 : sizeLine = 16777216 := sizeLine_eq
          show (joinLL x.l (y.map fun x => x.l)).length ≤ _
          have e3 : (List.map (List.length ∘ fun x : Tx => x.l) y) = y.map fun x => x.l.length := rfl
          rw [e3] at this
          omega
        · rcases joinLL_mem x.l hc with hc | ⟨t, ht, hc⟩
          · exact List.all_eq_true.mp hv.2.2 c hc
          · obtain ⟨t', ht', e⟩ := List.mem_map.mp ht
            subst e
            exact List.all_eq_true.mp (oks t' ht').2 c hc
    · exact g3.elim⟩)
def countT (x y : Tx) : Int := Txt.count (sT x) (sT y)
theorem ev_count {q1 q2 : Pos} {ma mb : M Tx} (ha : EV X W Γ a ma) (hb : EV X W Γ b mb) (pl : Pl b := by intro _ _; rfl) (hbase : attributeBase a "count" X.env (eval a X.env) = eval a X.env := by rfl) (hline : (q1.endLine == q2.line) = true := by rfl) :
    EV X W Γ (.Call (.Attribute a "count" q1) [b] [] q2) (ma >>= fun x => mb >>= fun y => .ok (countT x y)) := .mk fun H0 Ox σ H en Q q =>
  PEw (pe_m1 F.slot_str_count F.type_str_count mt_count pe_w pe_w (pl_one pl _) hbase hline) (ha.bind en q fun x v H2 _ z en2 hv g => ⟨⟨sT x, hv.1⟩, hb.bind en2 g fun y u H3 _ z3 en3 hu g3 =>
    ⟨sT x, sT y, hv.1, by rw [hu.1], g3 _ H3 (z.trans z3) ⟨rfl, trivial⟩⟩⟩)

/-! isinstance(x, T), T a built-in type -/
class Ty (α : Type) [Den α] where
  ty : α → String
  is : ∀ {K : Fg} {H : Hp} {v : V} {x : α}, den K H v x → TyX K H v (.type (ty x))
instance : Ty Int := ⟨fun _ => "int", fun {K H v x} h => by have := h.1; subst this; exact .base (.int x)⟩
instance : Ty Bool := ⟨fun _ => "bool", fun {K H v x} h => by have := h.1; subst this; exact .base (.bl x)⟩
instance : Ty Tx := ⟨fun _ => "str", fun {K H v x} h => by have := h.1; subst this; exact .base (.str _)⟩
instance : Ty Unit := ⟨fun _ => "NoneType", fun {K H v x} h => by have := h.1; subst this; exact .base .non⟩
instance {α : Type} [Den α] : Ty (List α) := ⟨fun _ => "list", fun {K H v x} h => by
  obtain ⟨pp, vs, ev, h1, h2, _⟩ := h
  subst ev
  rcases h1 with (h1 | ⟨o, h1⟩) | ⟨o, its, n, h1, h2, _⟩
  · exact .base (.lst h1)
  · exact .base (.frz h1)
  · exact .kList h1 h2⟩
theorem ty_tup {K : Fg} {H : Hp} {p : Addr} {vs : List V} (h : SqT K H p vs) : TyX K H (.ref p) (.type "tuple") := by
  rcases h with (h1 | ⟨o, h1⟩) | ⟨o, its, n, h1, h2, _⟩
  · exact .base (.tup h1)
  · exact .fTuple h1
  · exact .kTuple h1 h2
instance {α β : Type} [Den α] [Den β] : Ty (P2 α β) := ⟨fun _ => "tuple", fun {K H v x} h => by
  obtain ⟨pp, v1, v2, ev, h1, _⟩ := h
  subst ev
  exact ty_tup h1⟩
instance {α β γ : Type} [Den α] [Den β] [Den γ] : Ty (P3' α β γ) := ⟨fun _ => "tuple", fun {K H v x} h => by
  obtain ⟨pp, v1, v2, v3, ev, h1, _⟩ := h
  subst ev
  exact ty_tup h1⟩
instance {α β γ δ : Type} [Den α] [Den β] [Den γ] [Den δ] : Ty (P4 α β γ δ) := ⟨fun _ => "tuple", fun {K H v x} h => by
  obtain ⟨pp, v1, v2, v3, v4, ev, h1, _⟩ := h
  subst ev
  exact ty_tup h1⟩
instance {α β : Type} [Den α] [Ty α] [Den β] [Ty β] : Ty (α ⊕ β) := ⟨fun x => match x with
  | .inl a => Ty.ty a
  | .inr b => Ty.ty b, fun {K H v x} h => by
  cases x with
  | inl a => exact Ty.is (α := α) h
  | inr b => exact Ty.is (α := β) h⟩
instance {α : Type} [Den α] [Ty α] : Ty (Option α) := ⟨fun x => match x with
  | some a => Ty.ty a
  | none => "NoneType", fun {K H v x} h => by
  cases x with
  | some a => exact Ty.is (α := α) h.2
  | none => have e : v = .non := h; subst e; exact .base .non⟩
theorem TyX.go {K : Fg} {H H' : Hp} {v : V} {t : String} (e : Ex H H') (h : TyX K H v (.type t)) : TyX K H' v (.type t) := by
  cases h with
  | base h =>
    cases h with
    | non => exact .base .non
    | bl x => exact .base (.bl x)
    | int x => exact .base (.int x)
    | str x => exact .base (.str x)
    | flt x => exact .base (.flt x)
    | lst h => exact .base (.lst (e _ _ h))
    | frz h => exact .base (.frz (e _ _ h))
    | tup h => exact .base (.tup (e _ _ h))
    | dK h => exact .base (.dK (e _ _ h))
    | dT h => exact .base (.dT (e _ _ h))
  | byt b => exact .byt b
  | set h => exact .set (e _ _ h)
  | kList h c => exact .kList h c
  | kTuple h c => exact .kTuple h c
  | kDict h c => exact .kDict h c
  | fTuple h => exact .fTuple (e _ _ h)
  | fDict h => exact .fDict (e _ _ h)
def isTy (t : String) (T : String) : Bool := (kitB t T).getD false
theorem ev_isi {α : Type} [Den α] [Ty α] (C : Ct0 X N sc fb W) {T : String} {nT : Str} {ma : M α} {q1 : Pos} (ha : EV X W Γ a ma) (hk : ∀ x : α, (kitB (Ty.ty x) T).isSome = true) (hg : gloB sc "isinstance" = true) (hm : X.mg "isinstance" = none)
    (hg2 : gloB sc nT = true) (hm2 : X.mg nT = none) (hT : bootBuiltins nT = some (.type T)) (hn : nT ≠ "__name__" := by decide) (hd : (nT == ("__debug__" : Str)) = false := by decide) (pl : Pl a := by intro _ _; rfl) :
    EV X W Γ (.Call (.Name "isinstance" p) [a, .Name nT q1] [] pos) (ma >>= fun x => .ok (isTy (Ty.ty x) T)) := .mk fun H0 Ox σ H en Q q =>
  PEw (pe_callB call_isi (gl_of C hg) hm (by decide +kernel) (pa_cons pe_w (pa_cons (pe_bltn (v := .ty T) (gl_of C hg2) hm2 hT rfl hn hd) pa_nil) (pl _ _)) (by decide) (by decide) (pl _ _) (by rfl)) (ha.bind en q fun x v H2 _ z en2 hv g => by
    cases e : kitB (Ty.ty x) T with
    | none => have := hk x; rw [e] at this; cases this
    | some b0 =>
      refine ⟨v, .ty T, .type (Ty.ty x), .type T, b0, rfl, .ty T, TyX.go hide_le (Ty.is hv), kit_ty e, ?_⟩
      have : isTy (Ty.ty x) T = b0 := by unfold isTy; rw [e]; rfl
      rw [← this]
      exact g _ H2 z ⟨rfl, trivial⟩)
end
end P3

set_option Elab.async false
set_option linter.all false
set_option maxRecDepth 100000
set_option maxHeartbeats 4000000
namespace P3
open PySem PySem.Spec PyProof.Rows L2
open Den (den)
open Ob (ob)

abbrev XW := Value → Option Addr → Hp → Prop
abbrev lw (Wx : XW) : WX := fun c d _ H => Wx c d H
/-- how a def hands back: any value | a new object -/
def rtV {R : Type} [Den R] (K : Fg) (_ : Hp) (Ox : List Addr) (r : R) (v : V) (H : Hp) : Prop := den K (hide Ox H) v r
def rtN {R : Type} [Den R] [Ob R] (K : Fg) (H0 : Hp) (Ox : List Addr) (r : R) (v : V) (H : Hp) : Prop := ∃ q o, v = .ref q ∧ H0 q = none ∧ H q = some o ∧ ob K (hide (q :: Ox) H) o r
abbrev RTT (R : Type) := Fg → Hp → List Addr → R → V → Hp → Prop
class RTm {R : Type} (RT : RTT R) : Prop where
  anti : ∀ {K : Fg} {H0 H0' H : Hp} {Ox : List Addr} {r : R} {v : V}, Ex H0 H0' → RT K H0' Ox r v H → RT K H0 Ox r v H
instance {R : Type} [Den R] : RTm (R := R) rtV := ⟨fun _ h => h⟩
instance {R : Type} [Den R] [Ob R] : RTm (R := R) rtN := ⟨fun e ⟨q, o, h1, h2, h3⟩ => ⟨q, o, h1, e.free h2, h3⟩⟩

def PoS {S L R : Type} (K : Fg) (mg : Str → Option Value) (H0 : Hp) (Ox : List Addr) (Γn : S → Ctx) (Γl : L → Ctx) (RT : RTT R) (Wx : XW) (D : Ends) : M (Fl S L R) → Prop
  | .ok (.nx s) => ∀ σ H, Env K H0 Ox (Γn s) σ H → D.nx σ H
  | .ok (.bk l) => ∀ σ H, Env K H0 Ox (Γl l) σ H → D.bk σ H
  | .ok (.ct l) => ∀ σ H, Env K H0 Ox (Γl l) σ H → D.ct σ H
  | .ok (.rt r) => ∀ v H, Ex H0 H → RT K H0 Ox r v H → D.rt v H
  | .error (.exc x) => ∀ c d H, Ex H0 H → XDen mg H0 x c d H → Wx c d H
  | .error .stuck => False
structure SV {S L R : Type} (X : Cx) (Wx : XW) (RT : RTT R) (Γ : Ctx) (sts : List Stmt) (m : M (Fl S L R)) (Γn : S → Ctx) (Γl : L → Ctx) : Prop where
  run : ∀ H0 Ox σ H D, Env X.K H0 Ox Γ σ H → PoS X.K X.mg H0 Ox Γn Γl RT Wx D m → wss X sts D σ H
instance {S L R : Type} {X : Cx} {Wx : XW} {RT : RTT R} {Γ : Ctx} {sts : List Stmt} {m : M (Fl S L R)} {Γn : S → Ctx} {Γl : L → Ctx} : CoeFun (SV X Wx RT Γ sts m Γn Γl) (fun _ => ∀ H0 Ox σ H D, Env X.K H0 Ox Γ σ H → PoS X.K X.mg H0 Ox Γn Γl RT Wx D m → wss X sts D σ H) := ⟨SV.run⟩
structure Cd (X : Cx) (N : List Str) (sc : Scope) (Wx : XW) : Prop extends Ct X N sc (fun _ => true) (lw Wx) where
  po : PassesOwn (model X.prog X.w) X.A X.env X.xe
  hs : X.stack = X.env :: X.outer
  hf : X.env.frame = some X.env.locals
theorem Env.base {K : Fg} {H0 H0' : Hp} {Ox : List Addr} {Γ : Ctx} {σ : L2.St} {H : Hp} (h : Env K H0' Ox Γ σ H) (e : Ex H0 H0') : Env K H0 Ox Γ σ H :=
  ⟨h.ok, h.nd, fun p hp => e.free (h.nw p hp), h.ox, h.dj, e.trans h.ex⟩
section
variable {X : Cx} {Wx : XW} {Γ Γ' : Ctx} {e a b c : Expr} {pos p p1 p2 : Pos} {N : List Str} {sc : Scope} {n : Str} {S S' L R : Type} {RT : RTT R} {Γn : S → Ctx} {Γl : L → Ctx} {rest : List Stmt} {st : Stmt}
theorem SV.conv {sts : List Stmt} {m m' : M (Fl S L R)} (h : SV X Wx RT Γ sts m Γn Γl) (q : m = m') : SV X Wx RT Γ sts m' Γn Γl := q ▸ h
theorem sv_nil {s : S} (wk : Wk Γ (Γn s)) : SV X Wx RT Γ [] (.ok (.nx s) : M (Fl S L R)) Γn Γl := .mk fun H0 Ox σ H D en q => PSsw pss_nil (q σ H (en.wk wk))
theorem sv_wk {sts : List Stmt} {m : M (Fl S L R)} (wk : Wk Γ Γ') (h : SV X Wx RT Γ' sts m Γn Γl) : SV X Wx RT Γ sts m Γn Γl := .mk fun H0 Ox σ H D en q => h H0 Ox σ H D (en.wk wk) q

/-- a step, then the rest: what an expression is to give for what is wanted behind -/
theorem po_bind {α : Type} {K : Fg} {mg : Str → Option Value} {H0 H : Hp} {Ox : List Addr} {D : Ends} {me : M α} {mr : α → M (Fl S L R)} {g : α → Prop} (ex : Ex H0 H) (q : PoS K mg H0 Ox Γn Γl RT Wx D (me >>= mr)) (k : ∀ x, me = .ok x → PoS K mg H0 Ox Γn Γl RT Wx D (mr x) → g x) :
    PoX mg H (fun c d H2 => Wx c d H2) g me := by
  cases me with
  | ok x => exact k x rfl q
  | error er => cases er with
    | stuck => exact q
    | exc x => exact fun c d H2 z h => q c d H2 (ex.trans z) (h.anti ex)

/-! assignments -/
structure AV {α : Type} [Den α] (X : Cx) (W : WX) (Γ : Ctx) (i : Nat) (st : Stmt) (m : M α) : Prop where
  run : ∀ H0 Ox σ H, Env X.K H0 Ox Γ σ H → ∀ D : Ends, PoE X.K X.mg (Ox ++ owns Γ σ) H (fun c d H2 => W c d σ H2) (fun v H2 => D.nx (σ.set i (some v)) H2) m → wst X st D σ H
instance {α : Type} [Den α] {X : Cx} {W : WX} {Γ : Ctx} {i : Nat} {st : Stmt} {m : M α} : CoeFun (AV X W Γ i st m) (fun _ => ∀ H0 Ox σ H, Env X.K H0 Ox Γ σ H → ∀ D : Ends, PoE X.K X.mg (Ox ++ owns Γ σ) H (fun c d H2 => W c d σ H2) (fun v H2 => D.nx (σ.set i (some v)) H2) m → wst X st D σ H) := ⟨AV.run⟩
structure AN {α : Type} [Den α] [Ob α] (X : Cx) (W : WX) (Γ : Ctx) (i : Nat) (st : Stmt) (m : M α) : Prop where
  run : ∀ H0 Ox σ H, Env X.K H0 Ox Γ σ H → ∀ D : Ends, PoN X.K X.mg (Ox ++ owns Γ σ) H (fun c d H2 => W c d σ H2) (fun v H2 => D.nx (σ.set i (some v)) H2) m → wst X st D σ H
instance {α : Type} [Den α] [Ob α] {X : Cx} {W : WX} {Γ : Ctx} {i : Nat} {st : Stmt} {m : M α} : CoeFun (AN X W Γ i st m) (fun _ => ∀ H0 Ox σ H, Env X.K H0 Ox Γ σ H → ∀ D : Ends, PoN X.K X.mg (Ox ++ owns Γ σ) H (fun c d H2 => W c d σ H2) (fun v H2 => D.nx (σ.set i (some v)) H2) m → wst X st D σ H) := ⟨AN.run⟩
theorem AN.av {α : Type} [Den α] [Ob α] {W : WX} {i : Nat} {m : M α} (h : AN X W Γ i st m) : AV X W Γ i st m := .mk fun H0 Ox σ H en D q =>
  h H0 Ox σ H en D (PoX.imp (β := α) (Ex.refl H) (fun x _ g p o H2 z hn hp ho => by
    have np : p ∉ Ox ++ owns Γ σ := fun w => en.own p w hn
    exact g (.ref p) H2 z (Ob.thaw (o := o) (by rw [hide_out np]; exact hp) (Ob.omono (hide_sub fun a ha => List.mem_cons_of_mem _ ha) ho))) q)
theorem AN.borrow {α : Type} [Den α] [Flat α] {W : WX} {i : Nat} {m : M (List α)} (wk : Wk Γ Γ') (h : AN X W Γ' i st m) : AN X W Γ i st m := .mk fun H0 Ox σ H en D q =>
  h H0 Ox σ H (en.wk wk) D (PoX.imp (β := List α) (Ex.refl H) (fun x _ g p o H2 z hn hp ho => by
    obtain ⟨vs, e1, e2, e3⟩ := ho
    exact g p o H2 z hn hp ⟨vs, e1, e2.imp fun _ _ k => flat_any k, e3⟩) q)
theorem set_st (C : Cd X N sc Wx) (i : Nat) (hn : N[i]? = some n) (hl : locB sc n = true) {te : TE} (he : PE X e te) (hs : ∀ env, swapsWith e (some (.Name n p1)) p2.line env = pure false) : PS X (.Assign [.Name n p1] e p2) (tAsg te (gName i)) :=
  ps_set (by rw [C.n]; exact C.nd) (by rw [C.n]; exact hn) (by rw [C.s]; exact loc_of hl) he (hs _) (.inl (C.fn n rfl))
theorem av_ev (C : Cd X N sc Wx) (i : Nat) {α : Type} [Den α] {m : M α} (h : EV X (lw Wx) Γ e m) (hn : N[i]? = some n) (hl : locB sc n = true) (hs : ∀ env, swapsWith e (some (.Name n p1)) p2.line env = pure false := by intro _; rfl) :
    AV X (lw Wx) Γ i (.Assign [.Name n p1] e p2) m := .mk fun H0 Ox σ H en D q => PSw (set_st C i hn hl pe_w hs) (h H0 Ox σ H en _ q)
theorem an_en (C : Cd X N sc Wx) (i : Nat) {α : Type} [Den α] [Ob α] {m : M α} (h : EN X (lw Wx) Γ e m) (hn : N[i]? = some n) (hl : locB sc n = true) (hs : ∀ env, swapsWith e (some (.Name n p1)) p2.line env = pure false := by intro _; rfl) :
    AN X (lw Wx) Γ i (.Assign [.Name n p1] e p2) m := .mk fun H0 Ox σ H en D q => PSw (set_st C i hn hl pe_w hs) (h H0 Ox σ H en _ q)
/-- name = [..], the name no plain local of the def (or the value on another line) -/
def swB (sc scope : Scope) (t : Str) (l1 l2 : Nat) : Bool := (if sc.kind.isAnnotationScope then ScopeKind.function else sc.kind) == .function && sc.names.lookup t == some .local && l1 == l2 && !(scope.names.any fun (n, k) => n == t && (k == .local || k == .cell))
theorem swaps_lc {elt : Expr} {gs : List Comprehension} {scope : Scope} {t : Str} {l : Nat} {env : PySem.Env} : swapsWith (.ListComp elt gs scope p2) (some (.Name t p1)) l env = pure (swB env.scope scope t p1.line p2.line) := rfl
theorem an_lc0 (C : Cd X N sc Wx) (i : Nat) {α : Type} [Den α] [Ob α] {elt : Expr} {gs : List Comprehension} {scope : Scope} {p3 : Pos} {m : M α} (h : EN X (lw Wx) Γ (.ListComp elt gs scope p3) m) (hn : N[i]? = some n) (hl : locB sc n = true) (hs : swB sc scope n p1.line p3.line = false) :
    AN X (lw Wx) Γ i (.Assign [.Name n p1] (.ListComp elt gs scope p3) p2) m := .mk fun H0 Ox σ H en D q =>
  PSw (ps_set (by rw [C.n]; exact C.nd) (by rw [C.n]; exact hn) (by rw [C.s]; exact loc_of hl) pe_w (by rw [swaps_lc, C.s, hs]) (.inl (C.fn n rfl))) (h H0 Ox σ H en _ q)
theorem an_lc (C : Cd X N sc Wx) (i : Nat) {α β : Type} [Den α] [Den β] {tg iter elt : Expr} {scope : Scope} {p3 : Pos} (own : List (Str × Nat)) {mx : M (List α)} {f : α → M β} {g : TG} {ts : List Nat} {Γt : α → Ctx}
    (hi : IT X (lw Wx) Γ tg iter mx) (hb : blkC N sc scope own = true) (hG : GOk X.K g ts (dropOw (wipeC Γ (own.map (·.2)))) Γt) (hts : ∀ i ∈ ts, i ∈ own.map (·.2))
    (hg : ∀ s H D cl fp, PG (X.blk s H scope (compEnvC scope cl D X.env) fp) tg g)
    (he : ∀ x s H D cl fp, EV (X.blk s H scope (compEnvC scope cl D X.env) fp) W0 (Γt x) elt (f x))
    (hn : N[i]? = some n) (hl : sc.names.lookup n = some .local) (hsw : swB sc scope n p1.line p3.line = true) (hs : ∀ x, foldedSetIterable iter X.env x = pure x := by intro _; rfl) :
    AN X (lw Wx) Γ i (.Assign [.Name n p1] (.ListComp elt [⟨tg, iter, [], 0⟩] scope p3) p2) (mx >>= fun xs => mapM' f xs) := by
  obtain ⟨wi, pi, ri⟩ := hi
  refine .mk fun H0 Ox σ H en D q => PSw (ps_setLc (own := own) (i := i) (te := fun σ H Q => ∀ s H' D cl fp, we (X.blk s H' scope (compEnvC scope cl D X.env) fp) elt σ H Q) C.c (by rw [C.n]; exact C.nd) (by rw [C.n]; exact hn) (by rw [C.s]; exact hl) (by rw [swaps_lc, C.s, hsw]) pi (by rw [C.n, C.s]; exact blkOk_by hb) (fun s H D cl fp => hg s H D cl fp) (fun s H D cl fp => pts_nil) (fun s H D cl fp => ⟨fun pins s' σ' H' Q' I h => h s H D cl fp pins s' I⟩) hs) ?_
  refine lc_reads (cf := fun _ => .ok true) (f := f) (Q := fun v H2 => D.nx (σ.set i (some v)) H2) ri hG hts (fun x H0 Ox σ H _ Q h => h H (Ex.refl H)) (fun x H0 Ox σ H en Q h s H' D cl fp => he x s H' D cl fp H0 Ox σ H en Q h) en ?_
  have e : (fun xs => mapM' f xs) = fun xs => compM (fun _ => .ok true) f xs := by funext xs; exact mapM'_eq f xs
  rw [← e]
  exact q
theorem an_lcIf (C : Cd X N sc Wx) (i : Nat) {α β : Type} [Den α] [Den β] {tg iter elt cond : Expr} {scope : Scope} {p3 : Pos} (own : List (Str × Nat)) {mx : M (List α)} {cf : α → M Bool} {f : α → M β} {g : TG} {ts : List Nat} {Γt : α → Ctx}
    (hi : IT X (lw Wx) Γ tg iter mx) (hb : blkC N sc scope own = true) (hG : GOk X.K g ts (dropOw (wipeC Γ (own.map (·.2)))) Γt) (hts : ∀ i ∈ ts, i ∈ own.map (·.2))
    (hg : ∀ s H D cl fp, PG (X.blk s H scope (compEnvC scope cl D X.env) fp) tg g)
    (hc : ∀ x s H D cl fp, ET (X.blk s H scope (compEnvC scope cl D X.env) fp) W0 (Γt x) cond (cf x))
    (he : ∀ x s H D cl fp, EV (X.blk s H scope (compEnvC scope cl D X.env) fp) W0 (Γt x) elt (f x))
    (hn : N[i]? = some n) (hl : sc.names.lookup n = some .local) (hsw : swB sc scope n p1.line p3.line = true) (hs : ∀ x, foldedSetIterable iter X.env x = pure x := by intro _; rfl) :
    AN X (lw Wx) Γ i (.Assign [.Name n p1] (.ListComp elt [⟨tg, iter, [cond], 0⟩] scope p3) p2) (mx >>= fun xs => compM cf f xs) := by
  obtain ⟨wi, pi, ri⟩ := hi
  refine .mk fun H0 Ox σ H en D q => PSw (ps_setLc (own := own) (i := i) (tt := fun σ H Q => ∀ s H' D cl fp, wt (X.blk s H' scope (compEnvC scope cl D X.env) fp) cond σ H Q) (te := fun σ H Q => ∀ s H' D cl fp, we (X.blk s H' scope (compEnvC scope cl D X.env) fp) elt σ H Q) C.c (by rw [C.n]; exact C.nd) (by rw [C.n]; exact hn) (by rw [C.s]; exact hl) (by rw [swaps_lc, C.s, hsw]) pi (by rw [C.n, C.s]; exact blkOk_by hb) (fun s H D cl fp => hg s H D cl fp)
    (fun s H D cl fp => pts_one ⟨fun pins s' σ' H' Q' I h => h s H D cl fp pins s' I⟩) (fun s H D cl fp => ⟨fun pins s' σ' H' Q' I h => h s H D cl fp pins s' I⟩) hs) ?_
  exact lc_reads (Q := fun v H2 => D.nx (σ.set i (some v)) H2) ri hG hts (fun x H0 Ox σ H en Q h s H' D cl fp => hc x s H' D cl fp H0 Ox σ H en Q h) (fun x H0 Ox σ H en Q h s H' D cl fp => he x s H' D cl fp H0 Ox σ H en Q h) en q
theorem sv_asg (i : Nat) {α : Type} [Den α] {me : M α} {mr : α → M (Fl S L R)} (h : AV X (lw Wx) Γ i st me) (k : ∀ x, SV X Wx RT (Γ.set i (.va x)) rest (mr x) Γn Γl) : SV X Wx RT Γ (st :: rest) (me >>= mr) Γn Γl := .mk fun H0 Ox σ H D en q =>
  PSsw (pss_cons ps_w pss_w) (h H0 Ox σ H en _ (po_bind en.ex q fun x _ q2 v H2 z hv => k x H0 Ox _ H2 D ((en.mono z).set hv) q2))
theorem sv_asgN (i : Nat) {α : Type} [Den α] [Ob α] {me : M α} {mr : α → M (Fl S L R)} (h : AN X (lw Wx) Γ i st me) (k : ∀ x, SV X Wx RT (Γ.set i (.ow x)) rest (mr x) Γn Γl) : SV X Wx RT Γ (st :: rest) (me >>= mr) Γn Γl := .mk fun H0 Ox σ H D en q =>
  PSsw (pss_cons ps_w pss_w) (h H0 Ox σ H en _ (po_bind en.ex q fun x _ q2 r o H2 z hn hr ho => k x H0 Ox _ H2 D (en.hold z hn hr ho) q2))

/-! append -/
def appM {α : Type} (xs : List α) (x : α) : M (List α) := if xs.length < sizeLine then .ok (xs ++ [x]) else stk
theorem sv_app (C : Cd X N sc Wx) (i : Nat) {α : Type} [Den α] {xs : List α} {q1 q2 q3 q4 : Pos} {me : M α} {mr : List α → M (Fl S L R)} (hi : Γ[i]? = some (.ow xs)) (hn : N[i]? = some n) (hv : visB sc n = true) (h : EV X (lw Wx) Γ e me)
    (k : ∀ ys : List α, SV X Wx RT (Γ.set i (.ow ys)) rest (mr ys) Γn Γl) (pl : Pl e := by intro _ _; rfl) (hd : (n == ("__debug__" : Str)) = false := by decide) (hcd : (n == ("__classdict__" : Str)) = false := by decide) (hline : (q2.endLine == q3.line) = true := by rfl) :
    SV X Wx RT Γ (.Expr (.Call (.Attribute (.Name n q1) "append" q2) [e] [] q3) q4 :: rest) (me >>= fun x => appM xs x >>= mr) Γn Γl := .mk fun H0 Ox σ H D en q => by
  obtain ⟨pp, o, h1, h2, h3, vs, e1, e2, e3⟩ := en.getOw hi
  subst e1
  have pv : PE X (.Name n q1) (tVar i) := pe_var (by rw [C.n]; exact hn) (by rw [C.s]; exact vis_of hv) hd hcd
  refine PSsw (pss_cons (ps_expr (pe_bm PySem.F.plainAttrs_list PySem.F.slot_list_append PySem.F.type_list_append mt_append pv (pa_cons pe_w pa_nil (pl _ _)) (hfew := by rw [pl]; rfl) (hs := pl _ _) (hline := hline))) pss_w) ?_
  refine ⟨.ref pp, h1, .inl ⟨rfl, _, .inl (.inl h3)⟩, ?_⟩
  refine h H0 Ox σ H en _ (po_bind en.ex q fun x _ q2 v H2 z hv2 => ?_)
  have h4 := z pp _ h3
  refine ⟨pp, vs, v, rfl, rfl, h4, ?_, ?_⟩
  all_goals unfold appM at q2
  · split at q2
    · rename_i hl
      rw [e2.len]
      exact hl
    · exact q2.elim
  · split at q2
    · rename_i hl
      have en2 := en.mono z
      refine k (xs ++ [x]) H0 Ox σ _ D (en2.write (o' := .lst (vs ++ [v])) (y' := xs ++ [x]) hi h2 h1 ⟨_, rfl, ?_, ?_⟩) q2
      · exact (e2.imp fun u y (hu : den X.K (hide (Ox ++ owns Γ σ) H) u y) => Den.mono (hide_ex z) hu).app (.cons hv2 .nil)
      · rw [List.length_append]
        exact hl
    · exact q2.elim

/-! other statements -/
theorem sv_expr {α : Type} [Den α] {me : M α} {mr : α → M (Fl S L R)} (h : EV X (lw Wx) Γ e me) (k : ∀ x, SV X Wx RT Γ rest (mr x) Γn Γl) (hs : ∀ env, swapsWith e none pos.line env = pure false := by intro _; rfl) : SV X Wx RT Γ (.Expr e pos :: rest) (me >>= mr) Γn Γl := .mk fun H0 Ox σ H D en q =>
  PSsw (pss_cons (ps_expr pe_w (hs _)) pss_w) (h H0 Ox σ H en _ (po_bind en.ex q fun x _ q2 v H2 z hv => k x H0 Ox _ H2 D (en.mono z) q2))
theorem sv_pass {m : M (Fl S L R)} (k : SV X Wx RT Γ rest m Γn Γl) : SV X Wx RT Γ (.Pass pos :: rest) m Γn Γl := .mk fun H0 Ox σ H D en q =>
  PSsw (pss_cons ps_pass pss_w) (k H0 Ox σ H D en q)
theorem sv_doc {z : Str} {j : Nat} {m : M (Fl S L R)} (k : SV X Wx RT Γ rest m Γn Γl) : SV X Wx RT Γ (.Expr (.Constant (.str z) j p) pos :: rest) m Γn Γl := .mk fun H0 Ox σ H D en q =>
  PSsw (pss_cons ps_doc pss_w) (k H0 Ox σ H D en q)
theorem sv_ret {Γn : S → Ctx} [Den R] {me : M R} (h : EV X (lw Wx) Γ e me) : SV X Wx rtV Γ (.Return (some e) pos :: rest) (me >>= fun r => .ok (.rt r) : M (Fl S L R)) Γn Γl := .mk fun H0 Ox σ H D en q =>
  PSsw (pss_cons (ps_ret pe_w) pss_w) (h H0 Ox σ H en _ (po_bind en.ex q fun x _ q2 v H2 z hv => q2 v H2 (en.ex.trans z) (Den.mono (hide_sub fun a ha => List.mem_append_left _ ha) hv)))
theorem sv_retN {Γn : S → Ctx} [Den R] [Ob R] {me : M R} (h : EN X (lw Wx) Γ e me) : SV X Wx rtN Γ (.Return (some e) pos :: rest) (me >>= fun r => .ok (.rt r) : M (Fl S L R)) Γn Γl := .mk fun H0 Ox σ H D en q =>
  PSsw (pss_cons (ps_ret pe_w) pss_w) (h H0 Ox σ H en _ (po_bind en.ex q fun x _ q2 r o H2 z hn hr ho => q2 (.ref r) H2 (en.ex.trans z) ⟨r, o, rfl, en.ex.free hn, hr, Ob.omono (hide_sub fun a ha => (List.mem_cons.mp ha).elim (fun w => by rw [w]; exact List.mem_cons_self) fun w => List.mem_cons_of_mem _ (List.mem_append_left _ w)) ho⟩))
/-- return xs, xs an owned name -/
theorem sv_retO {Γn : S → Ctx} (C : Cd X N sc Wx) (i : Nat) [Den R] [Ob R] {x : R} (hi : Γ[i]? = some (.ow x)) (hn : N[i]? = some n) (hv : visB sc n = true) (hd : (n == ("__debug__" : Str)) = false := by decide) (hcd : (n == ("__classdict__" : Str)) = false := by decide) :
    SV X Wx rtN Γ (.Return (some (.Name n p)) pos :: rest) (.ok (.rt x) : M (Fl S L R)) Γn Γl := .mk fun H0 Ox σ H D en q => by
  obtain ⟨pp, o, h1, h2, h3, h4⟩ := en.getOw hi
  refine PSsw (pss_cons (ps_ret (pe_var (by rw [C.n]; exact hn) (by rw [C.s]; exact vis_of hv) hd hcd)) pss_w) ⟨.ref pp, h1, ?_⟩
  refine q (.ref pp) H en.ex ⟨pp, o, rfl, en.nw pp h2, h3, Ob.omono (hide_sub fun a ha => ?_) h4⟩
  rcases List.mem_cons.mp ha with w | w
  · rw [w]; exact List.mem_append_right _ h2
  · exact List.mem_append_left _ w
theorem sv_brk {l : L} (wk : Wk Γ (Γl l)) : SV X Wx RT Γ (.Break pos :: rest) (.ok (.bk l) : M (Fl S L R)) Γn Γl := .mk fun H0 Ox σ H D en q => PSsw (pss_cons ps_break pss_w) (q σ H (en.wk wk))
theorem sv_cont {l : L} (wk : Wk Γ (Γl l)) : SV X Wx RT Γ (.Continue pos :: rest) (.ok (.ct l) : M (Fl S L R)) Γn Γl := .mk fun H0 Ox σ H D en q => PSsw (pss_cons ps_continue pss_w) (q σ H (en.wk wk))
/-- name op= value -/
theorem sv_aug (C : Cd X N sc Wx) (i : Nat) {op : Operator} {g : Int → Int → Int} {x : Int} {me : M Int} {mr : Int → M (Fl S L R)} (ho : PIp X op (ipI g)) (hi : Γ[i]? = some (.va x)) (hn : N[i]? = some n) (hl : locB sc n = true) (h : EV X (lw Wx) Γ e me)
    (k : ∀ z, SV X Wx RT (Γ.set i (.va z)) rest (mr z) Γn Γl) : SV X Wx RT Γ (.AugAssign (.Name n p) op e pos :: rest) (me >>= fun y => mr (g x y)) Γn Γl := .mk fun H0 Ox σ H D en q => by
  obtain ⟨v, h1, h2⟩ := en.get hi
  have ev := h2.1
  subst ev
  refine PSsw (pss_cons (ps_aug (i := i) (by rw [C.n]; exact C.nd) (by rw [C.n]; exact hn) (by rw [C.s]; exact loc_of hl) pe_w ho (hf := .inl (C.fn n rfl))) pss_w) ⟨.int x, h1, ?_⟩
  exact h H0 Ox σ H en _ (po_bind en.ex q fun y _ q2 v H2 z hv => ⟨x, y, rfl, hv.1, k (g x y) H0 Ox _ H2 D ((en.mono z).set ⟨rfl, trivial⟩) q2⟩)
/-- if: both ways meet -/
theorem sv_if {J : Type} {Γj : J → Ctx} {bA bB : List Stmt} {mc : M Bool} {mA mB : M (Fl J L R)} {k : J → M (Fl S L R)} (hc : ET X (lw Wx) Γ c mc) (hA : SV X Wx RT Γ bA mA Γj Γl) (hB : SV X Wx RT Γ bB mB Γj Γl) (hk : ∀ j, SV X Wx RT (Γj j) rest (k j) Γn Γl) :
    SV X Wx RT Γ (.If c bA bB pos :: rest) (mc >>= fun x => sq (if x = true then mA else mB) k) Γn Γl := .mk fun H0 Ox σ H D en q => by
  have br : ∀ {m : M (Fl J L R)} {sts : List Stmt}, SV X Wx RT Γ sts m Γj Γl → ∀ H2, Ex H H2 → PoS X.K X.mg H0 Ox Γn Γl RT Wx D (sq m k) → wss X sts { D with nx := wss X rest D } σ H2 := fun {m sts} h H2 z q2 => by
    refine h H0 Ox σ H2 _ (en.mono z) ?_
    cases m with
    | error er => cases er with
      | stuck => exact q2
      | exc x => exact q2
    | ok f =>
      cases f with
      | nx j => exact fun σ' H' en' => hk j H0 Ox σ' H' D en' q2
      | rt r => exact q2
      | bk l => exact q2
      | ct l => exact q2
  refine PSsw (pss_cons (ps_if pt_w pss_w pss_w) pss_w) (hc H0 Ox σ H en _ (po_bind en.ex q fun x _ q2 H2 z => ?_))
  cases x with
  | true => exact br hA H2 z q2
  | false => exact br hB H2 z q2
theorem PoS.base {K : Fg} {mg : Str → Option Value} {H0 H0' : Hp} {Ox : List Addr} {D : Ends} [r : RTm RT] {m : M (Fl S L R)} (e : Ex H0 H0') (h : PoS K mg H0 Ox Γn Γl RT Wx D m) : PoS K mg H0' Ox Γn Γl RT Wx D m := by
  cases m with
  | error er => cases er with
    | stuck => exact h
    | exc x => exact fun c d H z hd => h c d H (e.trans z) (hd.anti e)
  | ok f => cases f with
    | nx s => exact fun σ H en => h σ H (en.base e)
    | bk l => exact fun σ H en => h σ H (en.base e)
    | ct l => exact fun σ H en => h σ H (en.base e)
    | rt x => exact fun v H z hr => h v H (e.trans z) (r.anti e hr)
/-- for -/
theorem sv_for (C : Cd X N sc Wx) [RTm RT] {α : Type} [Den α] {tg iter : Expr} {body : List Stmt} {mx : M (List α)} {s0 : S'} {Γb : S' → Ctx} {g : TG} {ts : List Nat} {Γt : S' → α → Ctx} {f : S' → α → M (Fl S' S' R)} {k : S' → M (Fl S L R)}
    (hi : IT X (lw Wx) Γ tg iter mx) (hg : PG X tg g) (wk : Wk Γ (Γb s0)) (hG : ∀ s, GOk X.K g ts (Γb s) (Γt s)) (hb : ∀ s x, SV X Wx RT (Γt s x) body (f s x) Γb Γb) (hk : ∀ s, SV X Wx RT (Γb s) rest (k s) Γn Γl)
    (hs : ∀ x, foldedSetIterable iter X.env x = pure x := by intro _; rfl) : SV X Wx RT Γ (.For tg iter body [] pos :: rest) (mx >>= fun xs => sq (loopM f xs s0) k) Γn Γl := .mk fun H0 Ox σ H D en q => by
  obtain ⟨wi, pi, ri⟩ := hi
  refine PSsw (pss_cons (ps_for C.po C.c pi hg pss_w hs) pss_w) ?_
  refine ri H0 Ox σ H en _ (po_bind en.ex q fun xs _ q2 J H2 z hlen hw => ?_)
  have en2 := (en.mono z).wk wk
  -- all that is seen at the start stands through the loop
  generalize hB : hide (owns (Γb s0) σ) H2 = B
  have sub := Wk.sub wk en.len
  have eB : Ex H0 B := fun a o ha => by
    rw [← hB, hide_out fun w => by have := en2.nw a w; rw [this] at ha; cases ha]
    exact en2.ex a o ha
  have eG : Ex (hide (Ox ++ owns Γ σ) H2) B := fun a o ha => by
    obtain ⟨m1, m2⟩ := hide_some ha
    rw [← hB, hide_out fun w => m1 (List.mem_append_right _ (sub.subset w))]
    exact m2
  have enB : Env X.K B Ox (Γb s0) σ H2 := ⟨en2.ok, en2.nd, fun p hp => by rw [← hB]; exact hide_in hp, en2.ox, en2.dj, by rw [← hB]; exact hide_le⟩
  refine ⟨fun i m σ' H' => m = xs.length - i ∧ i ≤ xs.length ∧ ∃ s, Env X.K B Ox (Γb s) σ' H' ∧ PoS X.K X.mg H0 Ox Γn Γl RT Wx D (sq (loopM f (xs.drop i) s) k), ⟨xs.length, by simp, Nat.zero_le _, s0, enB, by rw [List.drop_zero]; exact q2⟩, ?_⟩
  rintro i m σ' H' ⟨rfl, hile, s, enL, qL⟩
  have seen : Ex (hide (Ox ++ owns Γ σ) H2) H' := eG.trans enL.ex
  by_cases hlt : i < xs.length
  · have hx : xs[i]? = some xs[i] := List.getElem?_eq_getElem hlt
    obtain ⟨go, yl⟩ := (hw i H' seen).1 _ hx
    refine .inr ⟨go, fun σ3 H3 => ∃ s, Env X.K B Ox (Γb s) σ3 H3 ∧ PoS X.K X.mg H0 Ox Γn Γl RT Wx D (sq (loopM f (xs.drop (i + 1)) s) k), fun σ3 H3 ⟨s3, e3, q3⟩ => ⟨xs.length - (i + 1), by omega, rfl, hlt, s3, e3, q3⟩, fun v H3 hy => ?_⟩
    obtain ⟨z3, dv⟩ := yl v H3 hy
    have en3 := enL.mono z3
    have vis : Ex (hide (Ox ++ owns Γ σ) H2) (hide (Ox ++ owns (Γb s) σ') H') := fun a o ha => by
      have h1 := seen a o ha
      have h2 := eG a o ha
      refine (hide_out fun w => ?_).trans h1
      rcases List.mem_append.mp w with w | w
      · exact (hide_some ha).1 (List.mem_append_left _ w)
      · have := enL.nw a w
        rw [this] at h2
        cases h2
    have dv := dv (Ox ++ owns (Γb s) σ') (fun p hp => enL.own p hp) vis
    refine hG s B Ox σ' H3 v xs[i] en3 dv _ fun σ4 en4 _ _ => ?_
    refine hb s xs[i] B Ox σ4 H3 _ en4 ?_
    rw [List.drop_eq_getElem_cons hlt] at qL
    unfold loopM at qL
    cases hf : f s xs[i] with
    | error er =>
      rw [hf] at qL
      cases er with
      | stuck => exact qL
      | exc x => exact fun c d H4 z4 hd => qL c d H4 (eB.trans z4) (hd.anti eB)
    | ok fl =>
      rw [hf] at qL
      cases fl with
      | nx s2 => exact fun σ5 H5 en5 => ⟨s2, en5, qL⟩
      | ct s2 => exact fun σ5 H5 en5 => ⟨s2, en5, qL⟩
      | bk s2 => exact fun σ5 H5 en5 => hk s2 H0 Ox σ5 H5 D (en5.base eB) qL
      | rt r => exact fun v5 H5 z5 hr => qL v5 H5 (eB.trans z5) (RTm.anti eB hr)
  · have hi : i = xs.length := by omega
    refine .inl ⟨(hw i H' seen).2 hi, ?_⟩
    rw [List.drop_eq_nil_of_le (by omega)] at qL
    exact hk s H0 Ox σ' H' D (enL.base eB) qL

/-! calls -/
class Args (A : Type) where
  dens : Fg → Hp → List V → A → Prop
  ctx : A → Ctx
  n : Nat
  len : ∀ {K : Fg} {H : Hp} {vs : List V} {a : A}, dens K H vs a → vs.length = n
  mono : ∀ {K : Fg} {H H' : Hp} {vs : List V} {a : A}, Ex H H' → dens K H vs a → dens K H' vs a
  slots : ∀ {K : Fg} {H : Hp} {O : List Addr} {vs : List V} {a : A}, dens K (hide O H) vs a → All2 (SlotOk K H O) (ctx a) (vs.map some)
  noow : ∀ (a : A) (σ : L2.St), owns (ctx a) σ = []
instance : Args Unit where
  dens := fun _ _ vs _ => vs = []
  ctx := fun _ => []
  n := 0
  len := fun h => by rw [h]; rfl
  mono := fun _ h => h
  slots := fun h => by rw [h]; exact .nil
  noow := fun a σ => by cases σ <;> simp [owns]
instance {α A : Type} [Den α] [Args A] : Args (α × A) where
  dens := fun K H vs a => ∃ v r, vs = v :: r ∧ den K H v a.1 ∧ Args.dens K H r a.2
  ctx := fun a => .va a.1 :: Args.ctx a.2
  n := Args.n A + 1
  len := fun ⟨v, r, e, _, h⟩ => by rw [e, List.length_cons, Args.len h]
  mono := fun e ⟨v, r, h1, h2, h3⟩ => ⟨v, r, h1, Den.mono e h2, Args.mono e h3⟩
  slots := fun ⟨v, r, e, h2, h3⟩ => by rw [e]; exact .cons ⟨v, rfl, h2⟩ (Args.slots h3)
  noow := fun a σ => by
    cases σ with
    | nil => simp [owns]
    | cons s r => simpa [owns] using Args.noow a.2 r
/-- promises: a value | a new object -/
def spV {A R : Type} [Args A] [Den R] (K : Fg) (mg : Str → Option Value) (F : A → M R) : Sp := fun vs H Q E => ∃ (O : List Addr) (a : A), (∀ p ∈ O, H p ≠ none) ∧ Args.dens K (hide O H) vs a ∧ PoE K mg O H E Q (F a)
def spN {A R : Type} [Args A] [Den R] [Ob R] (K : Fg) (mg : Str → Option Value) (F : A → M R) : Sp := fun vs H Q E => ∃ (O : List Addr) (a : A), (∀ p ∈ O, H p ≠ none) ∧ Args.dens K (hide O H) vs a ∧ PoN K mg O H E Q (F a)
structure EVs {A γ : Type} [Args A] (X : Cx) (W : WX) (Γ : Ctx) (es : List Expr) (k : A → M γ) (m : M γ) : Prop where
  run : ∀ H0 Ox σ H, Env X.K H0 Ox Γ σ H → ∀ (G : γ → Prop) (Q : List V → Hp → Prop), PoX X.mg H (fun c d H2 => W c d σ H2) G m →
    (∀ vs H2 a, Ex H H2 → Env X.K H0 Ox Γ σ H2 → Args.dens X.K (hide (Ox ++ owns Γ σ) H2) vs a → PoX X.mg H2 (fun c d H2 => W c d σ H2) G (k a) → Q vs H2) → wa X es σ H Q
instance {A γ : Type} [Args A] {X : Cx} {W : WX} {Γ : Ctx} {es : List Expr} {k : A → M γ} {m : M γ} : CoeFun (EVs X W Γ es k m) (fun _ => ∀ H0 Ox σ H, Env X.K H0 Ox Γ σ H → ∀ (G : γ → Prop) (Q : List V → Hp → Prop), PoX X.mg H (fun c d H2 => W c d σ H2) G m → (∀ vs H2 a, Ex H H2 → Env X.K H0 Ox Γ σ H2 → Args.dens X.K (hide (Ox ++ owns Γ σ) H2) vs a → PoX X.mg H2 (fun c d H2 => W c d σ H2) G (k a) → Q vs H2) → wa X es σ H Q) := ⟨EVs.run⟩
theorem evs_nil {γ : Type} {W : WX} {k : Unit → M γ} : EVs X W Γ [] k (k ()) := .mk fun H0 Ox σ H en G Q q h => PAw pa_nil (h [] H () (Ex.refl H) en rfl q)
theorem evs_cons {α A γ : Type} [Den α] [Args A] {W : WX} {es : List Expr} {k : α × A → M γ} {me : M α} {mr : α → M γ} (he : EV X W Γ e me) (hr : ∀ x, EVs X W Γ es (fun r => k (x, r)) (mr x)) (pl : Pl e := by intro _ _; rfl) : EVs X W Γ (e :: es) k (me >>= mr) := .mk fun H0 Ox σ H en G Q q h =>
  PAw (pa_cons pe_w pa_w (pl _ _)) (he.bind en q fun x v H2 _ z2 en2 hv q2 => hr x H0 Ox σ H2 en2 G _ q2 fun vs H3 a z3 en3 ha q3 => h (v :: vs) H3 (x, a) (z2.trans z3) en3 ⟨v, vs, rfl, Den.mono (hide_ex z3) hv, ha⟩ q3)
variable {W : WX} {kk : Nat} {f : Addr} {fd : FuncData} {ps : List Str} {fb : Str → Bool}
theorem ev_call {A γ : Type} [Args A] [Den γ] (C : Ct0 X N sc fb W) {Fm : A → M γ} {es : List Expr} {m : M γ} (F : FnOk X.prog X.w X.K X.mg X.base (L2.CX X.prog X.w) kk f fd ps (spV X.K X.mg Fm)) (hr : Room kk X.A) (hm : X.mg n = some (.ref f)) (hk : PySem.W.keepIn X.K (.ref f) = true) (hb : Binds X.K fd ps [])
    (ha : EVs X W Γ (e :: es) Fm m) (hg : gloB sc n = true) (pl : Pl e := by intro _ _; rfl) (pls : PlL es := by intro _ _; rfl) (hdb : (n == ("__debug__" : Str)) = false := by decide) : EV X W Γ (.Call (.Name n p) (e :: es) [] pos) m := .mk fun H0 Ox σ H en Q q =>
  PEw (pe_callS F hr (gl_of C hg) hm hk hb (fun σ => passAt C.tk σ) pa_w hdb (pl _ _) (pls _ _)) (ha H0 Ox σ H en _ _ q fun vs H2 a z en2 hd q2 => ⟨Ox ++ owns Γ σ, a, en2.own, hd, PoX.imp (β := γ) (Ex.refl H2) (fun _ _ g w H3 z3 => g w H3 (z.trans z3)) q2⟩)
theorem en_call {A γ : Type} [Args A] [Den γ] [Ob γ] (C : Ct0 X N sc fb W) {Fm : A → M γ} {es : List Expr} {m : M γ} (F : FnOk X.prog X.w X.K X.mg X.base (L2.CX X.prog X.w) kk f fd ps (spN X.K X.mg Fm)) (hr : Room kk X.A) (hm : X.mg n = some (.ref f)) (hk : PySem.W.keepIn X.K (.ref f) = true) (hb : Binds X.K fd ps [])
    (ha : EVs X W Γ (e :: es) Fm m) (hg : gloB sc n = true) (pl : Pl e := by intro _ _; rfl) (pls : PlL es := by intro _ _; rfl) (hdb : (n == ("__debug__" : Str)) = false := by decide) : EN X W Γ (.Call (.Name n p) (e :: es) [] pos) m := .mk fun H0 Ox σ H en Q q =>
  PEw (pe_callS F hr (gl_of C hg) hm hk hb (fun σ => passAt C.tk σ) pa_w hdb (pl _ _) (pls _ _)) (ha H0 Ox σ H en _ _ q fun vs H2 a z en2 hd q2 => ⟨Ox ++ owns Γ σ, a, en2.own, hd, PoX.imp (β := γ) (Ex.refl H2) (fun _ _ g w o H3 z3 hn => g w o H3 (z.trans z3) (z.free hn)) q2⟩)

/-! how a def's block is its value -/
def fin {S L R : Type} (m : M (Fl S L R)) : M R := m >>= fun
  | .rt r => .ok r
  | _ => stk
/-- a def that may end without a return -/
def finO {S L R : Type} (m : M (Fl S L (Option R))) : M (Option R) := m >>= fun
  | .rt r => .ok r
  | .nx _ => .ok none
  | _ => stk
def finU {S L : Type} (m : M (Fl S L Unit)) : M Unit := m >>= fun
  | .rt _ => .ok ()
  | .nx _ => .ok ()
  | _ => stk
end
end P3

set_option Elab.async false
set_option linter.all false
set_option maxRecDepth 100000
set_option maxHeartbeats 4000000
namespace P3
open PySem PySem.Spec PyProof.Rows L2 PySem.W PySem.Calls NdefX
open Den (den)
open Ob (ob)

/-! an own exception class whose __init__ says super().__init__('..') and keeps its arguments -/
structure ExI (prog : Program) (K : Fg) (C f cc cda : Addr) (qual : Str) (params : Arguments) (body : List Stmt) (scope : Scope) (fd : FuncData) : Prop where
  ox : OexC K C
  lk : ∃ (oc : Value) (od : Option Addr) (kV doc pm ct : Value) (an : Option Addr) (osl : Array (Option Value)), fd = PySem.W.fnX "__init__" qual params body scope [("__class__", cc)] .none kV doc pm an (.ref cda) ct ∧ K.lookup f = some ⟨oc, od, .func fd, osl⟩
  cd : PySem.W.codeIn K (.ref cda) qual = true
  code : ∃ (ccl : Value) (cdd : Option Addr) (vs : Array Value) (ccs : Array (Option Value)) (file : Str) (tf : Tok), K.lookup cda = some ⟨ccl, cdd, .fields vs, ccs⟩ ∧ vs[2]? = some (.str file tf) ∧ ((prog.main.file : Str) == file) = true
  cell : ∃ (cl : Value) (cld : Option Addr) (csl : Array (Option Value)), K.lookup cc = some ⟨cl, cld, .cell (some (.ref C)), csl⟩
  mro : PySem.W.mroIn K C (.ref C) = some true
  sup : PySem.W.nsIn K mainGlobals "super" = some none
  tp : PySem.W.nsIn K cStatics "thirdparty.any" = some none
  si : PySem.W.ks_superIn K C C "__init__" = some (some (.builtin "ValueError.__init__"))
  ve : PySem.W.subIn K (.ref C) (.type "ValueError") = some true
  top : (prog.main.scope.names.lookup ("super" : Str)).isSome = false

section
variable {P : Program} {w : World} {K : Fg} {mg : Str → Option Value} {base : Heap} {CX : CXT}
/-- the running __init__, as a function with one captured name -/
def nfI (qual : Str) (params : Arguments) (body : List Stmt) (scope : Scope) (cc cda : Addr) : NF := ⟨"__init__", qual, params, body, scope, [("__class__", cc)], cda⟩
theorem exinit_ok {C f cc cda : Addr} {qual : Str} {params : Arguments} {scope : Scope} {fd : FuncData} {N ps : List Str} {ar : Arg} {msg : Str} {j : Nat} {p0 p1 p2 p3 p4 p5 : Pos} {rest : List Stmt} {sp : Sp} {k : Nat}
    (T : ExI P K C f cc cda qual params (.Expr (.Call (.Attribute (.Call (.Name "super" p0) [] [] p1) "__init__" p2) [.Constant (.str msg) j p3] [] p4) p5 :: rest) scope fd)
    (S : NScope N ps ["__class__"] scope) (hself : ps[0]? = some ar.arg) (har : (params.posonlyargs ++ params.args).head? = some ar)
    (hks : scope.names.lookup ("super" : Str) = some .globalImplicit) (hkc : scope.names.lookup ("__class__" : Str) = some .free)
    (he : ∀ env : PySem.Env, ∃ pl : Sem Bool, eval (.Call (.Attribute (.Call (.Name "super" p0) [] [] p1) "__init__" p2) [.Constant (.str msg) j p3] [] p4) env = (do
      let ov ← attributeBase (.Call (.Name "super" p0) [] [] p1) "__init__" env (eval (.Call (.Name "super" p0) [] [] p1) env)
      standAt p2.atName
      let (f, first) ← holding [ov] (getMethod ov "__init__" pl)
      callWith p4 f first (backTo p4 (starEach [.Constant (.str msg) j p3] env)) []))
    (len : ∀ vs H Q E, sp vs H Q E → vs.length = ps.length)
    (hbody : ∀ (A : Around) (outer : List PySem.Env) (s : Shared) (H : Hp) (vs : List V) (Q : VK) (E : XK), sp vs H Q E → ∃ a ws, vs = .ref a :: ws ∧ H a = some (exo a C none) ∧
      ∃ t, PSs (ncx CX P w K mg base N (nfI qual params (.Expr (.Call (.Attribute (.Call (.Name "super" p0) [] [] p1) "__init__" p2) [.Constant (.str msg) j p3] [] p4) p5 :: rest) scope cc cda) f A outer s H E) rest t ∧ t { nx := fun _ H' => Q .non H', rt := Q } (startF N vs [none]) H) :
    FnOk P w K mg base CX (k + 1) f fd ps sp := by
  obtain ⟨oc, od, kV, doc, pm, ct, an, osl, rfl, lk⟩ := T.lk
  refine ⟨len, fun A outer s H args us vs Q E hr e0 hb r hsp => ?_⟩
  have hl := len _ _ _ _ hsp
  have KX : K.In s.heap := e0.mod.kin.keeps fun b o e => (e0.bs b o e).1
  have lim : s.heap.NoLimit := e0.mod.nolimit.keeps fun b o e => (e0.bs b o e).1
  refine ks_codeAny_call_defAt hr.depth (KX _ _ lk) rfl lim (PySem.W.codeRec_of KX T.cd) rfl hb S.nocell (fun ⟨n, v⟩ hy => S.par n (List.of_mem_zip hy).1) (fun h₁ hns kp => ?_) S.co S.gen S.kind
  obtain ⟨a, ws, ev, ea, t, ht, hq⟩ := hbody A outer s H vs Q E hsp
  obtain ⟨cl, cld, csl, lc⟩ := T.cell
  have C0 : CellsAt [(("__class__" : Str), cc)] [("__class__" : Str)] [none] s.heap H := ⟨rfl, fun y c e => by
      have : c = cc := by
        by_cases hy : y = ("__class__" : Str)
        · subst hy
          simpa [List.lookup] using e.symm
        · have hy' : (y == ("__class__" : Str)) = false := by simpa using hy
          simp [List.lookup, hy'] at e
      subst this
      have hc := e0.mod.kin _ _ lc
      exact ⟨(e0.bs _ _ hc).2, ⟨_, _, (e0.bs _ _ hc).1, rfl⟩⟩, fun x y c e1 e2 => by
      by_cases hx : x = ("__class__" : Str)
      · by_cases hy : y = ("__class__" : Str)
        · rw [hx, hy]
        · have hy' : (y == ("__class__" : Str)) = false := by simpa using hy
          simp [List.lookup, hy'] at e2
      · have hx' : (x == ("__class__" : Str)) = false := by simpa using hx
        simp [List.lookup, hx'] at e1, fun i y e => by
      cases i with
      | zero =>
        simp at e
        subst e
        exact ⟨cc, by simp [List.lookup], fun v z => by simp at z⟩
      | succ i => simp at e⟩
  have I : Inv (ncx CX P w K mg base N (nfI qual params (.Expr (.Call (.Attribute (.Call (.Name "super" p0) [] [] p1) "__init__" p2) [.Constant (.str msg) j p3] [] p4) p5 :: rest) scope cc cda) f A outer s H E) [] (startF N vs [none]) H { s with heap := h₁, toks := s.toks + (ps.zip us).length } :=
    inv_startN S hr.hd e0 hl r C0 hns kp
  have KX1 : K.In h₁ := KX.keeps kp
  obtain ⟨t1, ho⟩ := exo_at I.hok ea
  have hv : (ps.zip us).reverse.lookup ar.arg = some (.ref a) := by
    subst ev
    cases r with
    | @cons _ u0 _ ur ra rw' =>
      obtain rfl : u0 = Value.ref a := ra
      refine zip_look (i := 0) ?_ hself rfl
      have q := S.nd.sublist (List.take_sublist (ps.length + 1) N)
      have q2 : (N.take (ps.length + 1)) = ps ++ [("__class__" : Str)] := S.pre
      rw [q2] at q
      exact (List.nodup_append.mp q).1
  have hself2 : scope.names.lookup ar.arg = some .local := S.par _ (List.mem_of_getElem? hself)
  obtain ⟨ccl, cdd, cvs, ccs, file, tf, lcd, hvs, hfile⟩ := T.code
  obtain ⟨nm, q, NN, bs, bm, sn, sub, ab, col, dd, k0, k1, k2, k3, k5, hC, hbm⟩ := T.ox.cls
  have hcl : PySem.W.clsIn K C = some { name := nm, bases := bs, mro := .ref C :: bm, ns := NN, qualname := q, hasDict := true, slotNames := sn, subclasses := sub, abstract := ab, collection := col, hasDel := false } := by unfold PySem.W.clsIn; rw [hC] <;> rfl
  obtain ⟨hh0, g, d, tk, os⟩ := s
  obtain ⟨mb, hmb1, hmb2⟩ := e0.mod.blt
  have bk : ∀ b o, base.get? b = some o → h₁.get? b = some o := fun b o e => kp b o (e0.bs b o e).1
  have main : ∀ s', Inv (ncx CX P w K mg base N (nfI qual params (.Expr (.Call (.Attribute (.Call (.Name "super" p0) [] [] p1) "__init__" p2) [.Constant (.str msg) j p3] [] p4) p5 :: rest) scope cc cda) f A outer ⟨hh0, g, d, tk, os⟩ H E) [] (startF N vs [none]) H s' → 
     wpAny (model P w) (A.deeper (envF (nfI qual params (.Expr (.Call (.Attribute (.Call (.Name "super" p0) [] [] p1) "__init__" p2) [.Constant (.str msg) j p3] [] p4) p5 :: rest) scope cc cda) f hh0.objs.size))
      (execs rest (envF (nfI qual params (.Expr (.Call (.Attribute (.Call (.Name "super" p0) [] [] p1) "__init__" p2) [.Constant (.str msg) j p3] [] p4) p5 :: rest) scope cc cda) f hh0.objs.size))
        (fun fl s' => (CR CX outer P w H ⟨hh0, g, d, tk, os⟩ Q E) (.ok (.ret (match fl with | .ret v => v | _ => .none))) s')
        (fun e s' => wpAny (model P w) (A.deeper (envF (nfI qual params (.Expr (.Call (.Attribute (.Call (.Name "super" p0) [] [] p1) "__init__" p2) [.Constant (.str msg) j p3] [] p4) p5 :: rest) scope cc cda) f hh0.objs.size)) (leaving (envF (nfI qual params (.Expr (.Call (.Attribute (.Call (.Name "super" p0) [] [] p1) "__init__" p2) [.Constant (.str msg) j p3] [] p4) p5 :: rest) scope cc cda) f hh0.objs.size) e) (fun _ s'' => (CR CX outer P w H ⟨hh0, g, d, tk, os⟩ Q E) (.error e) s'') (fun e' s'' => (CR CX outer P w H ⟨hh0, g, d, tk, os⟩ Q E) (.error e') s'') s') s' := fun s' J => by
    refine wpAny_mono (ht.run [] _ (startF N vs [none]) H _ J hq) (fun fl s' hs => ?_) fun e s' hs => hs
    cases fl with
    | ret u =>
      obtain ⟨v, σ', H', J, rv, q⟩ := hs
      exact ⟨v, H', J.os, J.bare, J.base, J.hok, rv, q⟩
    | next =>
      obtain ⟨σ', H', J, q⟩ := hs
      exact ⟨.non, H', J.os, J.bare, J.base, J.hok, rfl, q⟩
    | brk =>
      obtain ⟨_, _, _, q⟩ := hs
      exact False.elim q
    | cont =>
      obtain ⟨_, _, _, q⟩ := hs
      exact False.elim q
  obtain ⟨pl, he'⟩ := he (callEnv (fnX "__init__" qual params (.Expr (.Call (.Attribute (.Call (.Name "super" p0) [] [] p1) "__init__" p2) [.Constant (.str msg) j p3] [] p4) p5 :: rest) scope [("__class__", cc)] Value.none kV doc pm an (Value.ref cda) ct) hh0.objs.size f)
  refine ks_wpAt_execs_cons (ks_wpAt_Expr_any (ks_wpAt_MethodCall (pl := pl) (ks_wpAt_super_base (f := f) hks hkc (by decide +kernel) rfl (KX1 _ _ lk) rfl har rfl (KX1 _ _ lcd) rfl hvs hfile T.top ?_) he') (by unfold interactive; show (scope.kind == .module && _) = false; rw [S.kind]; rfl))
  refine ks_loadName_global S.kind hks (loadGlobal_builtin (e0.mod.glob.keeps bk) (mg_none_of e0.mod.kin e0.mod.glob T.sup) (hmb1.keeps bk) ((hmb2 _ (by decide +kernel)).trans (by rfl)) ⟨rfl, ?_⟩)
  refine wpAny_loadName_free S.kind hkc (by simp [callEnv, newEnv, List.lookup]) ⟨_, KX1 _ _ lc, rfl⟩ ?_
  refine wpAny_loadName_local S.kind hself2 hns hv ?_
  refine ks_wpAny_isType_cls (KX1 _ _ hC) rfl ⟨rfl, ?_⟩
  refine ks_wpAny_call_super (KX1 _ _ hC) rfl ho rfl (fun c e => by cases e) (looks_mroIn KX1 T.mro) (fun h2 e2 kp2 => ?_)
  have KX2 : K.In h2 := KX1.keeps kp2
  have ho2 := kp2 _ _ ho
  have I2 : InstAt h2 a _ C none := ⟨ho2, rfl, rfl, trivial⟩
  have hsz : h₁.objs.size < h2.objs.size := Heap.lt_size e2
  refine kxs_getMethod kxs_ValueError e2 (looks_opaque KX2 T.tp) (l₀ := .ref C :: bm) (fun A Q E s k q => wpAny_bind ((looks_clsIn KX2 hcl) A _ E s k (wpAny_pure q))) rfl KX2 (by have z := T.si; unfold ks_superIn at z; rw [hcl] at z; exact z) (I2.type.andThen (looks_subIn KX2 T.ve)) (ks_ne KX2 I2 hcl) (by decide +kernel) ?_
  have em : (h2.push (kxs_mw "ValueError.__init__" a)).get? h2.objs.size = some (kxs_mw "ValueError.__init__" a) := Heap.get?_push_at rfl rfl
  have kp3 : ∀ b o, h2.get? b = some o → (h2.push (kxs_mw "ValueError.__init__" a)).get? b = some o := fun b o e => Heap.get?_push_of_some _ e
  have KX3 := KX2.keeps kp3
  have ho3 := kp3 _ _ ho2
  have NW : News h2 (h2.objs.size + 1) (h2.push (kxs_mw "ValueError.__init__" a)) [(h2.objs.size, kxs_mw "ValueError.__init__" a)] := fun p hp => by
    obtain rfl := List.mem_singleton.mp hp
    refine ⟨em, Nat.ne_of_lt (Nat.lt_succ_self _), ?_⟩
    cases z : h2.get? h2.objs.size with
    | none => rfl
    | some o => exact absurd (Heap.lt_size z) (Nat.lt_irrefl _)
  refine kxs_callWith1 (i := "ValueError.__init__") (x := a) NW (List.mem_singleton.mpr rfl) ?_
  refine Calls.spliced_cons (Calls.Constant_str (k := j) (pos := p3) (Calls.spliced_nil ⟨em, ?_⟩))
  refine wpAny_call (codeAny_of_tree ?_)
  show wpAny _ _ (callAny (.ref h2.objs.size) ⟨_, []⟩) _ _ _
  simp only [callAny]
  refine wpAny_bind (wpAny_load em ?_)
  simp only [kxs_mw, show (Value.type "method-wrapper" == Value.type "method" || Value.type "method-wrapper" == Value.type "builtin_function_or_method" || Value.type "method-wrapper" == Value.type "method-wrapper") = true by decide, if_true]
  refine KFB.if_so (by decide) ?_
  refine wpAny_bind (check_bound_init F.excBase_ValueError.toExcCallFacts (KX3 _ _ hC) ho3 rfl ?_)
  refine wpAny_bind (wpAny_pure (wpAny_pure ?_))
  refine ⟨plainId_quiet F.excBase_ValueError.init.plain _, codeAny_builtin F.excBase_ValueError.initEntry ?_⟩
  refine exc_init_tree (cls := .ref C) (t0 := t1) (dv := none) (c2 := .none) (c3 := .none) (b4 := .bool false) ho3 (by rw [sizeLine_eq]; simp) (fun h4 kp4 e4 _ => ?_)
  refine wpAt_of_wpAny (main _ ?_)
  have J := I.write (t' := tk + (ps.zip us).length + 1 + 1) (h' := h4) (x := a) (e := a) (o := exo a C none) (by rw [ea]; exact True.intro) (.inl rfl) (fun b o hb z => kp4 b o hb (kp3 b o (kp2 b o z))) ⟨_, e4⟩ (exo_ok e4)
  have eu : upd H a (exo a C none) = H := by
    funext b
    by_cases hb : b = a
    · rw [hb, upd_same, ea]
    · rw [upd_ne hb]
  rw [eu] at J
  exact J
end
end P3

set_option Elab.async false
set_option linter.all false
set_option maxRecDepth 100000
set_option maxHeartbeats 4000000
namespace P3
open PySem PySem.Spec PyProof.Rows L2 NdefX
open Den (den)
open Ob (ob)

/-! own exceptions: made, raised, caught, asked -/
/-- the promise of such an __init__: its fields in the order of the stores -/
def exSp (C : Addr) (fn : List Str) : Sp := fun vs H Q E => ∃ a ws, vs = .ref a :: ws ∧ ws.length = fn.length ∧ H a = some (exo a C none) ∧ ∀ d, H d = none → d ≠ a → Q .non (upd (upd H d (exd d ((fn.zip ws).reverse))) a (exo a C (some d)))
section
variable {P : Program} {w : World} {K : Fg} {mg : Str → Option Value} {base : Heap} {CX : CXT}
theorem exfn1 {C f cc cda : Addr} {qual : Str} {params : Arguments} {scope : Scope} {fd : FuncData} {ar : Arg} {msg s0 f1 x1 : Str} {j : Nat} {p0 p1 p2 p3 p4 p5 q1 q2 q3 q4 : Pos} {k : Nat}
    (T : ExI P K C f cc cda qual params (.Expr (.Call (.Attribute (.Call (.Name "super" p0) [] [] p1) "__init__" p2) [.Constant (.str msg) j p3] [] p4) p5 :: [.Assign [.Attribute (.Name s0 q1) f1 q2] (.Name x1 q3) q4]) scope fd)
    (S : NScope [s0, x1, "__class__"] [s0, x1] ["__class__"] scope) (hself : some s0 = some ar.arg) (har : (params.posonlyargs ++ params.args).head? = some ar)
    (hks : scope.names.lookup ("super" : Str) = some .globalImplicit) (hkc : scope.names.lookup ("__class__" : Str) = some .free)
    (he : ∀ env : PySem.Env, ∃ pl : Sem Bool, eval (.Call (.Attribute (.Call (.Name "super" p0) [] [] p1) "__init__" p2) [.Constant (.str msg) j p3] [] p4) env = (do
      let ov ← attributeBase (.Call (.Name "super" p0) [] [] p1) "__init__" env (eval (.Call (.Name "super" p0) [] [] p1) env)
      standAt p2.atName
      let (f, first) ← holding [ov] (getMethod ov "__init__" pl)
      callWith p4 f first (backTo p4 (starEach [.Constant (.str msg) j p3] env)) []))
    (hno : PySem.W.findIn K (.ref C) f1 = some none) (hs : ∀ env, swapsWith (.Name x1 q3) (some (.Attribute (.Name s0 q1) f1 q2)) q4.line env = pure false)
    (d1 : (s0 == ("__debug__" : Str)) = false) (d2 : (s0 == ("__classdict__" : Str)) = false) (d3 : (x1 == ("__debug__" : Str)) = false) (d4 : (x1 == ("__classdict__" : Str)) = false) :
    FnOk P w K mg base CX (k + 1) f fd [s0, x1] (exSp C [f1]) := by
  refine exinit_ok T S hself har hks hkc he (fun vs H Q E ⟨a, ws, e, hl, _⟩ => by rw [e, List.length_cons, hl] <;> rfl) fun A outer s H vs Q E ⟨a, ws, ev, hl, ea, hq⟩ => ?_
  match ws, hl with
  | [y1], _ =>
    refine ⟨a, [y1], ev, ea, _, pss_cons (ps_ost (pe_var (i := 0) rfl (.inl (S.par _ (by simp))) d1 d2) (pe_var (i := 1) rfl (.inl (S.par _ (by simp))) d3 d4) (hs _)) pss_nil, ?_⟩
    subst ev
    exact ⟨y1, rfl, .ref a, rfl, a, C, rfl, T.ox, hno, .inl ⟨ea, fun d n ne => hq d n ne⟩⟩
theorem upd3 {H : Hp} {a d : Addr} {o1 o2 o3 o4 : HO} (h : d ≠ a) : upd (upd (upd H d o1) a o2) d o3 = upd (upd H d o3) a o2 := by
  funext b
  by_cases h1 : b = d
  · subst h1
    rw [upd_same, upd_ne h, upd_same]
  · rw [upd_ne h1]
    by_cases h2 : b = a
    · subst h2
      rw [upd_same, upd_same]
    · rw [upd_ne h2, upd_ne h1, upd_ne h2, upd_ne h1]
theorem exfn2 {C f cc cda : Addr} {qual : Str} {params : Arguments} {scope : Scope} {fd : FuncData} {ar : Arg} {msg s0 f1 x1 f2 x2 : Str} {j : Nat} {p0 p1 p2 p3 p4 p5 q1 q2 q3 q4 r1 r2 r3 r4 : Pos} {k : Nat}
    (T : ExI P K C f cc cda qual params (.Expr (.Call (.Attribute (.Call (.Name "super" p0) [] [] p1) "__init__" p2) [.Constant (.str msg) j p3] [] p4) p5 :: [.Assign [.Attribute (.Name s0 q1) f1 q2] (.Name x1 q3) q4, .Assign [.Attribute (.Name s0 r1) f2 r2] (.Name x2 r3) r4]) scope fd)
    (S : NScope [s0, x1, x2, "__class__"] [s0, x1, x2] ["__class__"] scope) (hself : some s0 = some ar.arg) (har : (params.posonlyargs ++ params.args).head? = some ar)
    (hks : scope.names.lookup ("super" : Str) = some .globalImplicit) (hkc : scope.names.lookup ("__class__" : Str) = some .free)
    (he : ∀ env : PySem.Env, ∃ pl : Sem Bool, eval (.Call (.Attribute (.Call (.Name "super" p0) [] [] p1) "__init__" p2) [.Constant (.str msg) j p3] [] p4) env = (do
      let ov ← attributeBase (.Call (.Name "super" p0) [] [] p1) "__init__" env (eval (.Call (.Name "super" p0) [] [] p1) env)
      standAt p2.atName
      let (f, first) ← holding [ov] (getMethod ov "__init__" pl)
      callWith p4 f first (backTo p4 (starEach [.Constant (.str msg) j p3] env)) []))
    (hno : PySem.W.findIn K (.ref C) f1 = some none) (hno2 : PySem.W.findIn K (.ref C) f2 = some none) (hs : ∀ env, swapsWith (.Name x1 q3) (some (.Attribute (.Name s0 q1) f1 q2)) q4.line env = pure false) (hs2 : ∀ env, swapsWith (.Name x2 r3) (some (.Attribute (.Name s0 r1) f2 r2)) r4.line env = pure false)
    (d1 : (s0 == ("__debug__" : Str)) = false) (d2 : (s0 == ("__classdict__" : Str)) = false) (d3 : (x1 == ("__debug__" : Str)) = false) (d4 : (x1 == ("__classdict__" : Str)) = false) (d5 : (x2 == ("__debug__" : Str)) = false) (d6 : (x2 == ("__classdict__" : Str)) = false) :
    FnOk P w K mg base CX (k + 1) f fd [s0, x1, x2] (exSp C [f1, f2]) := by
  refine exinit_ok T S hself har hks hkc he (fun vs H Q E ⟨a, ws, e, hl, _⟩ => by rw [e, List.length_cons, hl] <;> rfl) fun A outer s H vs Q E ⟨a, ws, ev, hl, ea, hq⟩ => ?_
  match ws, hl with
  | [y1, y2], _ =>
    refine ⟨a, [y1, y2], ev, ea, _, pss_cons (ps_ost (pe_var (i := 0) rfl (.inl (S.par _ (by simp))) d1 d2) (pe_var (i := 1) rfl (.inl (S.par _ (by simp))) d3 d4) (hs _)) (pss_cons (ps_ost (pe_var (i := 0) rfl (.inl (S.par _ (by simp))) d1 d2) (pe_var (i := 2) rfl (.inl (S.par _ (by simp))) d5 d6) (hs2 _)) pss_nil), ?_⟩
    subst ev
    refine ⟨y1, rfl, .ref a, rfl, a, C, rfl, T.ox, hno, .inl ⟨ea, fun d n ne => ?_⟩⟩
    refine ⟨y2, rfl, .ref a, rfl, a, C, rfl, T.ox, hno2, .inr ⟨d, [(f1, y1)], upd_same, (upd_ne ne).trans upd_same, by simp, ?_⟩⟩
    rw [upd3 (o4 := .tup []) ne]
    exact hq d n ne
end

/-- arguments without objects -/
class Fargs (A : Type) [Args A] where
  vals : A → List V
  is : ∀ {K : Fg} {H : Hp} {vs : List V} {a : A}, Args.dens K H vs a → vs = vals a
instance : Fargs Unit := ⟨fun _ => [], fun h => h⟩
instance {α A : Type} [Den α] [Flat α] [Args A] [Fargs A] : Fargs (α × A) := ⟨fun a => Flat.val a.1 :: Fargs.vals a.2, fun ⟨v, r, e, h1, h2⟩ => by rw [e, (Flat.is.mp h1).1, Fargs.is h2]⟩
section
variable {X : Cx} {Wx : XW} {Γ Γ' : Ctx} {e a b c : Expr} {pos p p1 p2 : Pos} {N : List Str} {sc : Scope} {n : Str} {S S' L R : Type} {RT : RTT R} {Γn : S → Ctx} {Γl : L → Ctx} {rest : List Stmt} {st : Stmt}
theorem ex_new {H : Hp} {d : Addr} {o : HO} (h : H d = none) : Ex H (upd H d o) := fun a o' q => by
  by_cases e : a = d
  · subst e
    rw [h] at q
    cases q
  · rw [upd_ne e]
    exact q
theorem del_upd {H : Hp} {a d : Addr} {o1 o2 o3 : HO} (hn : H a = none) (hd : d ≠ a) : upd (del (upd (upd (upd H a o1) d o2) a o1) a) d o3 = upd H d o3 := by
  funext b
  by_cases h1 : b = d
  · subst h1
    rw [upd_same, upd_same]
  · rw [upd_ne h1, upd_ne h1]
    by_cases h2 : b = a
    · subst h2
      rw [del_same, hn]
    · rw [del_ne h2, upd_ne h2, upd_ne h1, upd_ne h2]
theorem sv_raise {A : Type} [Args A] [Fargs A] {Ca fI : Addr} {fd : FuncData} {k : Nat} {fn ps : List Str} {es : List Expr} {m : M (Fl S L R)} (C : Cd X N sc Wx) (T : OexC X.K Ca) (iC : PySem.W.findIn X.K (.ref Ca) "__init__" = some (some (.ref fI))) (tI : PySem.W.typeIn X.K (.ref fI) = some (.type "function"))
    (F1 : FnOk X.prog X.w X.K X.mg X.base (L2.CX X.prog X.w) k fI fd ps (exSp Ca fn)) (hr : Room (k + 1) X.A) (hb : Binds X.K fd ps []) (hm : X.mg n = some (.ref Ca)) (hfn : fn.length = Args.n A)
    (ha : EVs X (lw Wx) Γ (e :: es) (fun x : A => (.error (.exc ⟨n, (fn.zip (Fargs.vals x)).reverse⟩) : M (Fl S L R))) m) (hg : gloB sc n = true) (hn : Args.n A ≤ 1000) (hdb : (n == ("__debug__" : Str)) = false := by decide) (pl : Pl e := by intro _ _; rfl) (pls : PlL es := by intro _ _; rfl) :
    SV X Wx RT Γ (.Raise (some (.Call (.Name n p) (e :: es) [] pos)) none p1 :: rest) m Γn Γl := .mk fun H0 Ox σ H D en q => by
  refine PSsw (pss_cons (ps_raise (W := lw Wx) C.c C.tk (pmk_oex T iC tI F1 hr hb .nil passL (gl_of C.toCt0 hg) hm pa_w hdb (pl _ _) (pls _ _))) pss_w) ?_
  refine ha H0 Ox σ H en (fun _ => True) _ ?_ ?_
  · cases m with
    | ok x => trivial
    | error er => cases er with
      | stuck => exact q
      | exc x => exact fun c d H2 z hd => q c d H2 (en.ex.trans z) (hd.anti en.ex)
  · intro vs H2 x z en2 hd q2
    have hl := Args.len hd
    have ev := Fargs.is hd
    refine ⟨by rw [hl]; exact hn, fun a0 n0 => ⟨a0, vs ++ [], rfl, by rw [List.append_nil, hl, hfn], upd_same, fun d nd hne => ⟨rfl, d, _, upd_same, (upd_ne hne).trans upd_same, (upd_ne hne).symm.trans nd, ?_⟩⟩⟩
    have nd' : H2 d = none := (upd_ne hne).symm.trans nd
    have e0 : upd (del (upd (upd (upd H2 a0 (exo a0 Ca none)) d (exd d (List.zip fn (vs ++ [])).reverse)) a0 (exo a0 Ca (some d))) a0) d (.xd (List.zip fn (vs ++ [])).reverse) = upd H2 d (.xd (List.zip fn (vs ++ [])).reverse) := by
      funext b
      by_cases h1 : b = d
      · subst h1
        rw [upd_same, upd_same]
      · rw [upd_ne h1, upd_ne h1]
        by_cases h2 : b = a0
        · subst h2
          rw [del_same, n0]
        · rw [del_ne h2, upd_ne h2, upd_ne h1, upd_ne h2]
    rw [e0]
    refine q2 (.ref Ca) (some d) _ (ex_new nd') ⟨⟨Ca, rfl, hm⟩, d, rfl, nd', ?_⟩
    rw [upd_same, ev, List.append_nil]
end
end P3

set_option Elab.async false
set_option linter.all false
set_option maxRecDepth 100000
set_option maxHeartbeats 4000000
namespace P3
open PySem PySem.Spec PyProof.Rows L2 NdefX
open Den (den)
open Ob (ob)

/-- an exception that a suite holds: where it is, where its fields are -/
structure Cau where
  a : Addr
  d : Addr
  x : Exn
instance : Den Cau where
  den := fun K H v c => v = .ref c.a ∧ H c.d = some (.xd c.x.fs)
  monoD := fun {K H H' v x} e h => ⟨h.1, (e _ _ h.2).elim id fun ⟨b, u, d, q⟩ => q.elim (fun q => by rw [← q.1] at d; exact d.elim) fun q => nomatch q.1⟩
/-- a table of the classes' names: how the question ends -/
abbrev Tab := List (Str × Bool)
def tabM (t : Tab) (n : Str) : M Bool := match t.lookup n with
  | some b => .ok b
  | none => stk
def tryM {α β : Type} (m : M α) (t : Tab) (h : Exn → M β) (k : α → M β) : M β := match m with
  | .ok x => k x
  | .error .stuck => stk
  | .error (.exc x) => match t.lookup x.cls with
    | some true => h x
    | some false => .error (.exc x)
    | none => stk
def sqE {S S' L R : Type} (m : M (Fl S Empty R)) (k : S → M (Fl S' L R)) : M (Fl S' L R) := match m with
  | .ok (.nx s) => k s
  | .ok (.rt r) => .ok (.rt r)
  | .ok (.bk l) => l.elim
  | .ok (.ct l) => l.elim
  | .error _ => stk
structure TabOk (K : Fg) (mg : Str → Option Value) (cv : Value) (t : Tab) : Prop where
  ok : ∀ n b, t.lookup n = some b → ∀ C : Addr, mg n = some (.ref C) → PySem.W.exmOne K (.ref C) cv = some b
theorem tabOk_nil {K : Fg} {mg : Str → Option Value} {cv : Value} : TabOk K mg cv [] := ⟨fun n b h => by simp [List.lookup] at h⟩
theorem tabOk_cons {K : Fg} {mg : Str → Option Value} {cv : Value} {t : Tab} {n : Str} {b : Bool} {C : Addr} (h : mg n = some (.ref C)) (e : PySem.W.exmOne K (.ref C) cv = some b) (r : TabOk K mg cv t) : TabOk K mg cv ((n, b) :: t) := ⟨fun n' b' h' C' m => by
  by_cases q : n' = n
  · subst q
    rw [h] at m
    cases m
    simp [List.lookup] at h'
    rw [← h']
    exact e
  · have q' : (n' == n) = false := by simpa using q
    simp only [List.lookup, q'] at h'
    exact r.ok n' b' h' C' m⟩
section
variable {X : Cx} {Wx : XW} {Γ Γ' : Ctx} {e a b c : Expr} {pos p p1 p2 : Pos} {N : List Str} {sc : Scope} {n : Str} {S S' S1 L R : Type} {RT : RTT R} {Γn : S → Ctx} {Γn1 : S1 → Ctx} {Γl : L → Ctx} {rest : List Stmt} {st : Stmt}
abbrev XF : XW := fun _ _ _ => False
/-- what a suite's steps are: for each exception that it may hold -/
def SUI {S R : Type} (X : Cx) (RT : RTT R) (Γ : Ctx) (i : Nat) (sts : List Stmt) (mh : Exn → M (Fl S Empty R)) (Γn : S → Ctx) : Prop :=
  ∀ (c : Cau) (C : Addr) (oe : Obj) (pn : List (Addr × Obj)), X.mg c.x.cls = some (.ref C) → Zc (.ref C) (some c.d) oe → (∃ vs, oe.data = .fields vs) → SV (X.suite c.a ((c.a, oe) :: pn)) XF RT (Γ.set i (.va c)) sts (mh c.x) Γn (fun l : Empty => l.elim)
/-- a try's body -/
structure TB {α S L R : Type} (X : Cx) (RT : RTT R) (Γ : Ctx) (sts : List Stmt) (me : M α) (mb : α → M (Fl S L R)) (Γn : S → Ctx) (Γl : L → Ctx) : Prop where
  run : ∀ (W : WX) (pn : List (Addr × Obj)) (xe : Value → Shared → Prop), Takes (X.tr pn xe) W → PassesOwn (model X.prog X.w) X.A X.env xe → ∀ H0 Ox σ H D, Env X.K H0 Ox Γ σ H →
    PoX X.mg H (fun c d H2 => W c d σ H2) (fun r => PoS X.K X.mg H0 Ox Γn Γl RT (fun _ _ _ => True) D (mb r)) me → wss (X.tr pn xe) sts D σ H
instance {α S L R : Type} {X : Cx} {RT : RTT R} {Γ : Ctx} {sts : List Stmt} {me : M α} {mb : α → M (Fl S L R)} {Γn : S → Ctx} {Γl : L → Ctx} : CoeFun (TB X RT Γ sts me mb Γn Γl) (fun _ => ∀ (W : WX) (pn : List (Addr × Obj)) (xe : Value → Shared → Prop), Takes (X.tr pn xe) W → PassesOwn (model X.prog X.w) X.A X.env xe → ∀ H0 Ox σ H D, Env X.K H0 Ox Γ σ H → PoX X.mg H (fun c d H2 => W c d σ H2) (fun r => PoS X.K X.mg H0 Ox Γn Γl RT (fun _ _ _ => True) D (mb r)) me → wss (X.tr pn xe) sts D σ H) := ⟨TB.run⟩
theorem tb_ret {me : M R} [Den R] (h : ∀ (W : WX) (pn : List (Addr × Obj)) (xe : Value → Shared → Prop), Takes (X.tr pn xe) W → EV (X.tr pn xe) W Γ e me) : TB X rtV Γ [.Return (some e) pos] me (fun r => (.ok (.rt r) : M (Fl S L R))) Γn Γl := .mk fun W pn xe tk po H0 Ox σ H D en q =>
  PSsw (pss_cons (ps_ret pe_w) pss_w) (h W pn xe tk H0 Ox σ H en _ (PoX.imp (β := R) (Ex.refl H) (fun x _ g v H2 z hv => g v H2 (en.ex.trans z) (Den.mono (hide_sub fun a ha => List.mem_append_left _ ha) hv)) q))
theorem tb_retN {me : M R} [Den R] [Ob R] (h : ∀ (W : WX) (pn : List (Addr × Obj)) (xe : Value → Shared → Prop), Takes (X.tr pn xe) W → EN (X.tr pn xe) W Γ e me) : TB X rtN Γ [.Return (some e) pos] me (fun r => (.ok (.rt r) : M (Fl S L R))) Γn Γl := .mk fun W pn xe tk po H0 Ox σ H D en q =>
  PSsw (pss_cons (ps_ret pe_w) pss_w) (h W pn xe tk H0 Ox σ H en _ (PoX.imp (β := R) (Ex.refl H) (fun x _ g p o H2 z hn hp ho => g (.ref p) H2 (en.ex.trans z) ⟨p, o, rfl, en.ex.free hn, hp, Ob.omono (hide_sub fun a ha => by
    rcases List.mem_cons.mp ha with h1 | h1
    · rw [h1]; exact List.mem_cons_self ..
    · exact List.mem_cons_of_mem _ (List.mem_append_left _ h1)) ho⟩) q))
theorem sv_try {α : Type} {x ex : Str} {i : Nat} {cv : Value} {t : Tab} {np pos' : Pos} {me : M α} {body suite : List Stmt} {b0 : Stmt} {mh : Exn → M (Fl S1 Empty R)} {mb : α → M (Fl S' L R)} {Γ0 : S' → Ctx} {ks : S1 → M (Fl S L R)} {kn : S' → M (Fl S L R)} (C : Cd X N sc Wx)
    (hn : N[i]? = some ex) (hln : sc.names.lookup ex = some .local) (hc : Names X x cv) (ht : TabOk X.K X.mg cv t)
    (hb : TB X RT Γ body me mb Γ0 Γl) (hsu : SUI X RT Γ i (b0 :: suite) mh Γn1)
    (hks : ∀ s, SV X Wx RT ((Γn1 s).set i .un) rest (ks s) Γn Γl) (hkn : ∀ s, SV X Wx RT (Γ0 s) rest (kn s) Γn Γl) :
    SV X Wx RT Γ (.Try body [.ExceptHandler (some (.Name x np)) (some ex) (b0 :: suite) pos'] [] [] pos :: rest) (tryM me t (fun y => sqE (mh y) ks) (fun r => sq (mb r) kn)) Γn Γl := .mk fun H0 Ox σ H D en q => by
  refine PSsw (pss_cons (ps_try_as (i := i) (c := cv) (Wout := lw Wx) (tb := fun W D σ H => ∀ pn xe, Takes (X.tr pn xe) W → PassesOwn (model X.prog X.w) X.A X.env xe → wss (X.tr pn xe) body D σ H)
    (ts := fun a cls d D σ H => ∀ oe pn, Zc cls d oe → (∃ vs, oe.data = .fields vs) → wss (X.suite a ((a, oe) :: pn)) (b0 :: suite) D σ H)
    C.hs C.hf (by rw [C.n]; exact C.nd) (by rw [C.n]; exact hn) (show X.env.scope.names.lookup ex = _ by rw [C.s]; exact hln) hc C.tk
    (fun W pn xe tk po => ⟨fun pins s σ H D I h => h pn xe tk po pins s I⟩) (fun a oe cls d pn hz hf => ⟨fun pins s σ H D I h => h oe pn hz hf pins s I⟩)) pss_w) ?_
  intro pn xe tk po
  refine hb _ pn xe tk po H0 Ox σ H _ en ?_
  cases me with
  | ok r =>
    show PoS _ _ _ _ _ _ _ _ _ (mb r)
    have q : PoS X.K X.mg H0 Ox Γn Γl RT Wx D (sq (mb r) kn) := q
    cases hm : mb r with
    | error er => rw [hm] at q; cases er with
      | stuck => exact q
      | exc x => exact fun _ _ _ _ _ => trivial
    | ok fl =>
      rw [hm] at q
      cases fl with
      | nx s => exact fun σ1 H1 en1 => hkn s H0 Ox σ1 H1 D en1 q
      | rt r => exact q
      | bk l => exact q
      | ct l => exact q
  | error er => cases er with
    | stuck => exact q
    | exc y =>
      intro c d H2 z hd
      obtain ⟨⟨Cx, rfl, hcx⟩, Dd, rfl, nd, hD⟩ := hd
      have q : PoS X.K X.mg H0 Ox Γn Γl RT Wx D (match t.lookup y.cls with | some true => sqE (mh y) ks | some false => .error (.exc y) | none => stk) := q
      cases hl : t.lookup y.cls with
      | none => rw [hl] at q; exact q.elim
      | some b =>
        rw [hl] at q
        refine ⟨b, ht.ok _ _ hl Cx hcx, fun hb1 a na oe pn hz hf => ?_, fun hb1 => ?_⟩
        · subst hb1
          have q : PoS X.K X.mg H0 Ox Γn Γl RT Wx D (sqE (mh y) ks) := q
          refine hsu ⟨a, Dd, y⟩ Cx oe pn hcx hz hf H0 Ox _ H2 _ ((en.mono z).set (x := (⟨a, Dd, y⟩ : Cau)) ⟨rfl, ?_⟩) ?_
          · rw [hide_out fun hp => en.own Dd hp nd]
            exact hD
          · show PoS _ _ _ _ _ _ _ _ _ (mh y)
            cases hm : mh y with
            | error er => rw [hm] at q; exact q.elim
            | ok fl =>
              rw [hm] at q
              cases fl with
              | nx s => exact fun σ1 H1 en1 => hks s H0 Ox _ H1 D en1.forget q
              | rt r => exact q
              | bk l => exact l.elim
              | ct l => exact l.elim
        · subst hb1
          have q : PoS X.K X.mg H0 Ox Γn Γl RT Wx D (.error (.exc y)) := q
          exact q (.ref Cx) (some Dd) H2 (en.ex.trans z) ⟨⟨Cx, rfl, hcx⟩, Dd, rfl, en.ex.free nd, hD⟩

/-! a caught exception's fields and kind -/
class OfV (α : Type) [Den α] where
  of : V → Option α
  is : ∀ {K : Fg} {H : Hp} {v : V} {x : α}, of v = some x → den K H v x
instance : OfV Int := ⟨fun v => match v with
  | .int i => some i
  | _ => none, fun {K H v x} h => by cases v <;> simp at h <;> exact ⟨by rw [h], trivial⟩⟩
instance : OfV Tx := ⟨fun v => match v with
  | .str z => if (tT z).l.length ≤ sizeLine ∧ (tT z).l.all (fun c => decide (c < 0x110000)) = true then some (tT z) else none
  | _ => none, fun {K H v x} h => by
    cases v <;> simp only [reduceCtorEq] at h
    split at h
    · rename_i k
      cases h
      exact ⟨rfl, k⟩
    · cases h⟩
structure FldOk (K : Fg) (mg : Str → Option Value) (f : Str) (l : List Str) : Prop where
  ok : ∀ n ∈ l, ∀ C : Addr, mg n = some (.ref C) → XfC K C ∧ PySem.W.findIn K (.ref C) f = some none
def fldM {α : Type} [Den α] [OfV α] (l : List Str) (f : Str) (x : Exn) : M α := if x.cls ∈ l then (match x.fs.lookup f with
  | some v => (match (OfV.of v : Option α) with
    | some y => .ok y
    | none => stk)
  | none => stk) else stk
theorem ev_fld {W : WX} {fb : Str → Bool} {α : Type} [Den α] [OfV α] {c : Cau} {Ca : Addr} {oe : Obj} {pn : List (Addr × Obj)} {f : Str} {l : List Str} (C0 : Ct0 (X.suite c.a ((c.a, oe) :: pn)) N sc fb W) (i : Nat)
    (hm : X.mg c.x.cls = some (.ref Ca)) (hz : Zc (.ref Ca) (some c.d) oe) (hf : ∃ vs, oe.data = .fields vs) (fo : FldOk X.K X.mg f l) (hi : Γ[i]? = some (.va c)) (hn : N[i]? = some n) (hv : visB sc n = true) (hb : ∀ env : PySem.Env, attributeBase (.Name n p) f env (eval (.Name n p) env) = eval (.Name n p) env := by intro _; rfl)
    (hd : (n == ("__debug__" : Str)) = false := by decide) (hcd : (n == ("__classdict__" : Str)) = false := by decide) :
    EV (X.suite c.a ((c.a, oe) :: pn)) W Γ (.Attribute (.Name n p) f pos) (fldM l f c.x : M α) := .mk fun H0 Ox σ H en Q q => by
  unfold fldM at q
  split at q
  · rename_i hl
    cases e : c.x.fs.lookup f with
    | none => rw [e] at q; exact q.elim
    | some v =>
      rw [e] at q
      obtain ⟨xf, hno⟩ := fo.ok _ hl Ca hm
      obtain ⟨u, h1, h2⟩ := en.get hi
      obtain ⟨h2, h3⟩ := h2
      subst h2
      refine PEw (pe_xf xf hno hz hf (pe_var (i := i) (by rw [C0.n]; exact hn) (by rw [C0.s]; exact vis_of hv) hd hcd) (hb _)) ⟨_, h1, rfl, rfl, c.d, _, v, rfl, (hide_some h3).2, e, ?_⟩
      cases ho : (OfV.of v : Option α) with
      | some x =>
        simp only [ho] at q
        exact q v H (Ex.refl H) (OfV.is ho)
      | none =>
        simp only [ho] at q
        exact q.elim
  · exact q.elim
/-- isinstance(e, T) -/
structure IsOk (K : Fg) (mg : Str → Option Value) (cv : Value) (t : Tab) : Prop where
  ok : ∀ n b, t.lookup n = some b → ∀ D : Addr, mg n = some (.ref D) → ExcC K D ∧ PySem.W.kitOne K (.ref D) cv = some b
def rIsX (K : Fg) (D a dd : Addr) : List V → Hp → VK → Prop := fun xs H Q => ∃ (c : V) (cv : Value) (b : Bool) (fs : List (Str × V)), xs = [.ref a, c] ∧ (∀ u, RelV c u → u = cv) ∧ H dd = some (.xd fs) ∧ PySem.W.kitOne K (.ref D) cv = some b ∧ Q (.bl b) H
theorem call_isX {a D dd : Addr} {oe : Obj} {pn : List (Addr × Obj)} (C : ExcC X.K D) (hz : Zc (.ref D) (some dd) oe) (hf : ∃ vs, oe.data = .fields vs) : CallR (X.suite a ((a, oe) :: pn)) (.builtin "isinstance") (rIsX X.K D a dd) := by
  intro pins s σ H xs us Q I r h
  obtain ⟨c, cv, b, fs, rfl, hcv, hx, e, q⟩ := h
  obtain ⟨u0, u1, rfl, r0, r1⟩ := vals2 r
  obtain rfl : u0 = Value.ref a := r0
  obtain rfl := hcv _ r1
  obtain ⟨hget, _⟩ := I.pin (a, oe) (List.mem_append_left _ List.mem_cons_self)
  obtain ⟨vs, hv⟩ := hf
  obtain ⟨mA, hns, hr⟩ := (show ObjOk X.prog X.w H s.heap dd (.xd fs) from I.hok dd _ hx)
  obtain ⟨od, ho, _⟩ := lookIn_ns hns
  have J : PySem.W.InstAt s.heap a oe D (some od) := ⟨hget, hz.1, by unfold PySem.W.notCls; rw [hv] <;> rfl, by rw [hz.2]; exact ho⟩
  obtain ⟨cdD, hcD, _⟩ := PySem.W.any_some C.hd
  exact PySem.W.kia_one (PySem.W.kitx_exc (by rw [hcD]; rfl) C.hg C.hk C.hs C.ha C.hn C.ht C.hm) I.kIn J e (fun z => nomatch z) fun tk => ⟨.bl b, H, I.kept (t' := tk) fun _ _ z => z, rfl, q⟩
theorem ev_isX {W : WX} {fb : Str → Bool} {c : Cau} {Ca : Addr} {oe : Obj} {pn : List (Addr × Obj)} {t : Tab} {T : Str} {cv : Value} {cV : V} {q0 q1 : Pos} (C0 : Ct0 (X.suite c.a ((c.a, oe) :: pn)) N sc fb W) (i : Nat)
    (hm : X.mg c.x.cls = some (.ref Ca)) (hz : Zc (.ref Ca) (some c.d) oe) (hf : ∃ vs, oe.data = .fields vs) (io : IsOk X.K X.mg cv t) (hi : Γ[i]? = some (.va c)) (hn : N[i]? = some n) (hv : visB sc n = true)
    (hT : PE (X.suite c.a ((c.a, oe) :: pn)) (.Name T q1) (tC cV)) (hcv : ∀ u, RelV cV u → u = cv) (hg : gloB sc "isinstance" = true) (hmi : X.mg "isinstance" = none) (hd : (n == ("__debug__" : Str)) = false := by decide) (hcd : (n == ("__classdict__" : Str)) = false := by decide) :
    EV (X.suite c.a ((c.a, oe) :: pn)) W Γ (.Call (.Name "isinstance" p) [.Name n q0, .Name T q1] [] pos) (tabM t c.x.cls) := .mk fun H0 Ox σ H en Q q => by
  unfold tabM at q
  split at q
  · rename_i b hl
    obtain ⟨xc, hk⟩ := io.ok _ _ hl Ca hm
    obtain ⟨u, h1, h2⟩ := en.get hi
    obtain ⟨h2, h3⟩ := h2
    subst h2
    exact PEw (pe_callB (call_isX xc hz hf) (gl_of C0 hg) hmi (by decide +kernel) (pa_cons (pe_var (i := i) (by rw [C0.n]; exact hn) (by rw [C0.s]; exact vis_of hv) hd hcd) (pa_cons hT pa_nil)) (by decide) (by decide) (by rfl) (by rfl)) ⟨_, h1, _, cv, b, _, rfl, hcv, (hide_some h3).2, hk, q _ H (Ex.refl H) ⟨rfl, trivial⟩⟩
  · exact q.elim
theorem ev_isXo {W : WX} {fb : Str → Bool} {c : Cau} {Ca Ct : Addr} {oe : Obj} {pn : List (Addr × Obj)} {t : Tab} {T : Str} {q0 q1 : Pos} (C0 : Ct0 (X.suite c.a ((c.a, oe) :: pn)) N sc fb W) (i : Nat)
    (hm : X.mg c.x.cls = some (.ref Ca)) (hz : Zc (.ref Ca) (some c.d) oe) (hf : ∃ vs, oe.data = .fields vs) (mT : X.mg T = some (.ref Ct)) (io : IsOk X.K X.mg (.ref Ct) t) (hi : Γ[i]? = some (.va c)) (hn : N[i]? = some n) (hv : visB sc n = true) (gT : gloB sc T = true)
    (hg : gloB sc "isinstance" = true) (hmi : X.mg "isinstance" = none) (hd : (n == ("__debug__" : Str)) = false := by decide) (hcd : (n == ("__classdict__" : Str)) = false := by decide) (hdT : (T == ("__debug__" : Str)) = false := by decide) :
    EV (X.suite c.a ((c.a, oe) :: pn)) W Γ (.Call (.Name "isinstance" p) [.Name n q0, .Name T q1] [] pos) (tabM t c.x.cls) :=
  ev_isX C0 i hm hz hf io hi hn hv (pe_glob (v := .ref Ct) (gl_of C0 gT) mT rfl hdT) (fun u h => h) hg hmi hd hcd
theorem ev_isXb {W : WX} {fb : Str → Bool} {c : Cau} {Ca : Addr} {oe : Obj} {pn : List (Addr × Obj)} {t : Tab} {T : Str} {Tb : String} {q0 q1 : Pos} (C0 : Ct0 (X.suite c.a ((c.a, oe) :: pn)) N sc fb W) (i : Nat)
    (hm : X.mg c.x.cls = some (.ref Ca)) (hz : Zc (.ref Ca) (some c.d) oe) (hf : ∃ vs, oe.data = .fields vs) (mT : X.mg T = none) (bT : bootBuiltins T = some (.type Tb)) (io : IsOk X.K X.mg (.type Tb) t) (hi : Γ[i]? = some (.va c)) (hn : N[i]? = some n) (hv : visB sc n = true) (gT : gloB sc T = true)
    (hg : gloB sc "isinstance" = true) (hmi : X.mg "isinstance" = none) (hd : (n == ("__debug__" : Str)) = false := by decide) (hcd : (n == ("__classdict__" : Str)) = false := by decide) (hnT : T ≠ "__name__" := by decide) (hdT : (T == ("__debug__" : Str)) = false := by decide) :
    EV (X.suite c.a ((c.a, oe) :: pn)) W Γ (.Call (.Name "isinstance" p) [.Name n q0, .Name T q1] [] pos) (tabM t c.x.cls) :=
  ev_isX C0 i hm hz hf io hi hn hv (pe_bltn (v := .ty Tb) (gl_of C0 gT) mT bT rfl hnT hdT) (fun u h => h) hg hmi hd hcd
/-! the contexts of a try -/
theorem Ct.tr {fb : Str → Bool} {W W' : WX} (C : Ct X N sc fb W) {pn : List (Addr × Obj)} {xe : Value → Shared → Prop} (tk : Takes (X.tr pn xe) W') : Ct (X.tr pn xe) N sc fb W' := ⟨⟨C.n, C.s, C.nd, tk, C.fn, C.un⟩, C.c⟩
theorem Ct.su {fb : Str → Bool} {W : WX} (C : Ct X N sc fb W) (a : Addr) (pn : List (Addr × Obj)) : Ct0 (X.suite a pn) N sc fb (lw XF) := ⟨C.n, C.s, C.nd, takes0, C.fn, C.un⟩
end
theorem isOk_nil {K : Fg} {mg : Str → Option Value} {cv : Value} : IsOk K mg cv [] := ⟨fun n b h => by simp [List.lookup] at h⟩
theorem isOk_cons {K : Fg} {mg : Str → Option Value} {cv : Value} {t : Tab} {n : Str} {b : Bool} {C : Addr} (h : mg n = some (.ref C)) (e : ExcC K C) (k : PySem.W.kitOne K (.ref C) cv = some b) (r : IsOk K mg cv t) : IsOk K mg cv ((n, b) :: t) := ⟨fun n' b' h' C' m => by
  by_cases q : n' = n
  · subst q
    rw [h] at m
    cases m
    simp [List.lookup] at h'
    rw [← h']
    exact ⟨e, k⟩
  · have q' : (n' == n) = false := by simpa using q
    simp only [List.lookup, q'] at h'
    exact r.ok n' b' h' C' m⟩
theorem fldOk_nil {K : Fg} {mg : Str → Option Value} {f : Str} : FldOk K mg f [] := ⟨fun n h => absurd h (by simp)⟩
theorem fldOk_cons {K : Fg} {mg : Str → Option Value} {f n : Str} {l : List Str} {C : Addr} (h : mg n = some (.ref C)) (e : XfC K C) (k : PySem.W.findIn K (.ref C) f = some none) (r : FldOk K mg f l) : FldOk K mg f (n :: l) := ⟨fun n' h' C' m => by
  rcases List.mem_cons.mp h' with q | q
  · subst q
    rw [h] at m
    cases m
    exact ⟨e, k⟩
  · exact r.ok n' q C' m⟩
end P3

set_option Elab.async false
set_option linter.all false
set_option maxRecDepth 100000
set_option maxHeartbeats 4000000
namespace P3
open PySem PySem.Spec PyProof.Rows L2
open Den (den)
open Ob (ob)

/-! a def, from its block -/
section
variable {P : Program} {w : World} {K : Fg} {mg : Str → Option Value} {base : Heap}
abbrev cxL (P : Program) (w : World) (K : Fg) (mg : Str → Option Value) (base : Heap) (N : List Str) (qual : Str) (sc : Scope) (f : Addr) (cdv : Value) (A : Around) (outer : List PySem.Env) (s : Shared) (H : Hp) (E : XK) : Cx := cxOf (L2.CX P w) P w K mg base N qual sc f cdv A outer s H E
theorem cd_of {N ps : List Str} {qual : Str} {sc : Scope} {f : Addr} {cdv : Value} {A : Around} {outer : List PySem.Env} {s : Shared} {H : Hp} {E : XK} {k : Nat} (S : FnScope N ps sc) (hr : Room k (A.deeper (envOfC qual sc s.heap.objs.size f cdv))) :
    Cd (cxL P w K mg base N qual sc f cdv A outer s H E) N sc E := by
  refine { n := rfl, s := rfl, nd := S.nd, tk := takes_of rfl rfl rfl rfl, fn := fun _ _ => rfl, un := ?_, c := rfl, po := passes_of rfl, hs := rfl, hf := rfl }
  have := hr.un
  show (A.deeper (envOfC qual sc s.heap.objs.size f cdv)).units + 64 < cLine
  omega
theorem env_start {A : Type} [Args A] {N : List Str} {O : List Addr} {H : Hp} {vs : List V} {a : A} (ho : ∀ p ∈ O, H p ≠ none) (hd : Args.dens K (hide O H) vs a) : Env K H O (Args.ctx a ++ List.replicate (N.length - Args.n A) .un) (start N vs) H := by
  have hl := Args.len hd
  have ow : owns (Args.ctx a ++ List.replicate (N.length - Args.n A) .un) (start N vs) = [] := by
    have rep : ∀ (n : Nat) (σ : L2.St), owns (List.replicate n .un) σ = [] := fun n => by
      induction n with
      | zero => intro σ; cases σ <;> rfl
      | succ n ih =>
        intro σ
        cases σ with
        | nil => rfl
        | cons x r => show owns (List.replicate n .un) r = []; exact ih r
    have gen : ∀ (Γ : Ctx) (σ1 : L2.St) (Γ2 : Ctx) (σ2 : L2.St), Γ.length = σ1.length → owns Γ σ1 = [] → owns Γ2 σ2 = [] → owns (Γ ++ Γ2) (σ1 ++ σ2) = [] := fun Γ => by
      induction Γ with
      | nil =>
        intro σ1 Γ2 σ2 hl h1 h2
        cases σ1 with
        | nil => exact h2
        | cons x r => cases hl
      | cons g Γ ih =>
        intro σ1 Γ2 σ2 hl h1 h2
        cases σ1 with
        | nil => cases hl
        | cons x r =>
          have hl' : Γ.length = r.length := by simpa using hl
          cases g with
          | un => exact ih r Γ2 σ2 hl' h1 h2
          | va y => exact ih r Γ2 σ2 hl' h1 h2
          | ow y =>
            cases x with
            | none => exact ih r Γ2 σ2 hl' h1 h2
            | some v => cases v <;> first | exact ih r Γ2 σ2 hl' h1 h2 | (exact absurd h1 (by simp [owns]))
    have lc : (Args.ctx a).length = (vs.map some).length := (Args.slots (O := O) (H := H) hd).len
    exact gen _ _ _ _ lc (Args.noow a _) (rep _ _)
  refine ⟨?_, by rw [ow]; exact List.nodup_nil, by rw [ow]; exact fun p hp => absurd hp (by simp), ho, by rw [ow]; exact fun p _ hp => absurd hp (by simp), Ex.refl H⟩
  rw [ow, List.append_nil]
  have e : L2.start N vs = vs.map some ++ List.replicate (N.length - Args.n A) none := by unfold L2.start; rw [hl]
  rw [e]
  refine (Args.slots hd).app ?_
  generalize N.length - Args.n A = n
  induction n with
  | zero => exact .nil
  | succ n ih => exact .cons trivial ih

section
variable {A R S L : Type} [Args A] {x qual : Str} {st : Stmt} {f : Addr} {fd : FuncData} {N ps : List Str} {k : Nat} {Fm : A → M R} {Γn : A → S → Ctx} {Γl : A → L → Ctx} {m : A → M (Fl S L R)}
abbrev ctx0 (N : List Str) (a : A) : Ctx := Args.ctx a ++ List.replicate (N.length - Args.n A) .un
theorem fnG {RT : RTT R} {sp : Sp} (F : Fun K x qual st f fd) (Sc : FnScope N ps (defScope st)) (hn : ps.length = Args.n A)
    (hsp : ∀ vs H Q E, sp vs H Q E → ∃ (O : List Addr) (a : A), (∀ p ∈ O, H p ≠ none) ∧ Args.dens K (hide O H) vs a ∧ PoS K mg H O (Γn a) (Γl a) RT E { nx := fun _ H' => Q .non H', rt := Q } (m a))
    (hb : ∀ (cdv : Value) (Ar : Around) (outer : List PySem.Env) (s : Shared) (H : Hp) (E : XK), Cd (cxL P w K mg base N qual (defScope st) f cdv Ar outer s H E) N (defScope st) E → Room k (cxL P w K mg base N qual (defScope st) f cdv Ar outer s H E).A → ∀ a : A, SV (cxL P w K mg base N qual (defScope st) f cdv Ar outer s H E) E RT (ctx0 N a) (defBody st) (m a) (Γn a) (Γl a)) :
    FnOk P w K mg base (L2.CX P w) (k + 1) f fd ps sp :=
  F.okX Sc (fun vs H Q E q => by
    obtain ⟨O, a, _, hd, _⟩ := hsp vs H Q E q
    rw [Args.len hd, hn]) fun cdv Ar outer s H vs Q E hr q => by
    obtain ⟨O, a, ho, hd, hq⟩ := hsp vs H Q E q
    exact ⟨_, pss_w, hb cdv Ar outer s H E (cd_of Sc hr) hr a H O _ H _ (env_start ho hd) hq⟩
theorem fnV [Den R] (F : Fun K x qual st f fd) (Sc : FnScope N ps (defScope st)) (hn : ps.length = Args.n A) (hF : ∀ a, Fm a = fin (m a))
    (hb : ∀ (cdv : Value) (Ar : Around) (outer : List PySem.Env) (s : Shared) (H : Hp) (E : XK), Cd (cxL P w K mg base N qual (defScope st) f cdv Ar outer s H E) N (defScope st) E → Room k (cxL P w K mg base N qual (defScope st) f cdv Ar outer s H E).A → ∀ a : A, SV (cxL P w K mg base N qual (defScope st) f cdv Ar outer s H E) E rtV (ctx0 N a) (defBody st) (m a) (Γn a) (Γl a)) :
    FnOk P w K mg base (L2.CX P w) (k + 1) f fd ps (spV K mg Fm) :=
  fnG F Sc hn (fun vs H Q E ⟨O, a, ho, hd, q⟩ => ⟨O, a, ho, hd, by
    rw [hF a] at q
    unfold fin at q
    cases hm : m a with
    | error er =>
      rw [hm] at q
      cases er with
      | stuck => exact q
      | exc y => exact q
    | ok fl =>
      rw [hm] at q
      cases fl with
      | rt r => exact fun v H2 z hr => q v H2 z hr
      | nx s => exact q.elim
      | bk l => exact q.elim
      | ct l => exact q.elim⟩) hb
theorem fnN [Den R] [Ob R] (F : Fun K x qual st f fd) (Sc : FnScope N ps (defScope st)) (hn : ps.length = Args.n A) (hF : ∀ a, Fm a = fin (m a))
    (hb : ∀ (cdv : Value) (Ar : Around) (outer : List PySem.Env) (s : Shared) (H : Hp) (E : XK), Cd (cxL P w K mg base N qual (defScope st) f cdv Ar outer s H E) N (defScope st) E → Room k (cxL P w K mg base N qual (defScope st) f cdv Ar outer s H E).A → ∀ a : A, SV (cxL P w K mg base N qual (defScope st) f cdv Ar outer s H E) E rtN (ctx0 N a) (defBody st) (m a) (Γn a) (Γl a)) :
    FnOk P w K mg base (L2.CX P w) (k + 1) f fd ps (spN K mg Fm) :=
  fnG F Sc hn (fun vs H Q E ⟨O, a, ho, hd, q⟩ => ⟨O, a, ho, hd, by
    rw [hF a] at q
    unfold fin at q
    cases hm : m a with
    | error er =>
      rw [hm] at q
      cases er with
      | stuck => exact q
      | exc y => exact q
    | ok fl =>
      rw [hm] at q
      cases fl with
      | rt r => exact fun v H2 z ⟨p, o, e, h1, h2, h3⟩ => e ▸ q p o H2 z h1 h2 h3
      | nx s => exact q.elim
      | bk l => exact q.elim
      | ct l => exact q.elim⟩) hb
/-- may end without a return -/
theorem fnO [Den R] {Fm : A → M (Option R)} {m : A → M (Fl S L (Option R))} (F : Fun K x qual st f fd) (Sc : FnScope N ps (defScope st)) (hn : ps.length = Args.n A) (hF : ∀ a, Fm a = finO (m a))
    (hb : ∀ (cdv : Value) (Ar : Around) (outer : List PySem.Env) (s : Shared) (H : Hp) (E : XK), Cd (cxL P w K mg base N qual (defScope st) f cdv Ar outer s H E) N (defScope st) E → Room k (cxL P w K mg base N qual (defScope st) f cdv Ar outer s H E).A → ∀ a : A, SV (cxL P w K mg base N qual (defScope st) f cdv Ar outer s H E) E rtV (ctx0 N a) (defBody st) (m a) (Γn a) (Γl a)) :
    FnOk P w K mg base (L2.CX P w) (k + 1) f fd ps (spV K mg Fm) :=
  fnG F Sc hn (fun vs H Q E ⟨O, a, ho, hd, q⟩ => ⟨O, a, ho, hd, by
    rw [hF a] at q
    unfold finO at q
    cases hm : m a with
    | error er =>
      rw [hm] at q
      cases er with
      | stuck => exact q
      | exc y => exact q
    | ok fl =>
      rw [hm] at q
      cases fl with
      | rt r => exact fun v H2 z hr => q v H2 z hr
      | nx s => exact fun σ H2 en => q .non H2 en.ex rfl
      | bk l => exact q.elim
      | ct l => exact q.elim⟩) hb
end
/-- the law's own promise -/
theorem law_sp {K : Fg} {mg : Str → Option Value} {F : List Int × Unit → M Bool} {H : Hp} {a : Addr} {ns : List Int} (hs : SqL K H a (ns.map V.int)) (hl : ns.length ≤ sizeLine) (hF : F (ns, ()) = .ok true) : spV K mg F [.ref a] H (fun v _ => v = .bl true) fun _ _ _ => False := by
  refine ⟨[], (ns, ()), fun p hp => absurd hp (by simp), ⟨.ref a, [], rfl, ?_, rfl⟩, ?_⟩
  · rw [hide_nil]
    refine ⟨a, _, rfl, hs, ?_, hl⟩
    clear hs hl hF
    induction ns with
    | nil => exact .nil
    | cons x r ih => exact .cons ⟨rfl, trivial⟩ ih
  · rw [hF]
    exact fun v H2 z hv => hv.1
end
end P3

set_option Elab.async false
set_option linter.all false
set_option maxRecDepth 100000
set_option maxHeartbeats 4000000
namespace P3
open PySem PySem.Spec PyProof.Rows L2
open Den (den)
open Ob (ob)

/-! [elt for tg in iter for tg1 in iter1] -/
def inM {β γ : Type} (f : β → M γ) : List γ → List β → M (List γ)
  | acc, [] => .ok acc
  | acc, y :: ys => noX (f y) >>= fun z => if acc.length < sizeLine then inM f (acc ++ [z]) ys else stk
def outM {α β γ : Type} (g : α → M (List β)) (f : α → β → M γ) : List γ → List α → M (List γ)
  | acc, [] => .ok acc
  | acc, x :: xs => noX (g x) >>= fun ys => inM (f x) acc ys >>= fun acc' => outM g f acc' xs
theorem noX_no {α : Type} {m : M α} {w : Exn} (h : noX m = .error (.exc w)) : False := by
  unfold noX at h
  split at h <;> simp_all
theorem inM_no {β γ : Type} {f : β → M γ} {w : Exn} : ∀ {ys : List β} {acc : List γ}, inM f acc ys = .error (.exc w) → False
  | [], acc, h => by cases h
  | y :: ys, acc, h => by
    unfold inM at h
    cases h1 : noX (f y) with
    | error er =>
      rw [h1] at h
      have h2 : er = .exc w := by injection h
      subst h2
      exact noX_no h1
    | ok z =>
      rw [h1] at h
      have h : (if acc.length < sizeLine then inM f (acc ++ [z]) ys else stk) = .error (.exc w) := h
      split at h
      · exact inM_no h
      · cases h
theorem outM_no {α β γ : Type} {g : α → M (List β)} {f : α → β → M γ} {w : Exn} : ∀ {xs : List α} {acc : List γ}, outM g f acc xs = .error (.exc w) → False
  | [], acc, h => by cases h
  | x :: xs, acc, h => by
    unfold outM at h
    cases h1 : noX (g x) with
    | error er =>
      rw [h1] at h
      have h2 : er = .exc w := by injection h
      subst h2
      exact noX_no h1
    | ok ys =>
      rw [h1] at h
      have h : (inM (f x) acc ys >>= fun acc' => outM g f acc' xs) = .error (.exc w) := h
      cases h3 : inM (f x) acc ys with
      | error er =>
        rw [h3] at h
        have h2 : er = .exc w := by injection h
        subst h2
        exact inM_no h3
      | ok acc' => rw [h3] at h; exact outM_no (xs := xs) h
section
variable {X : Cx} {W : WX} {Γ Γ' : Ctx} {e a b c : Expr} {pos p p1 p2 : Pos} {N : List Str} {sc : Scope} {fb : Str → Bool} {n : Str}
theorem slots_move {K : Fg} {H H' : Hp} {O : List Addr} : ∀ {Γ : Ctx} {σ : L2.St}, All2 (SlotOk K H O) Γ σ → owns Γ σ = [] → Ex (hide O H) (hide O H') → All2 (SlotOk K H' O) Γ σ
  | [], [], _, _, _ => .nil
  | .un :: Γ, ov :: σ, .cons _ h, ow, e => .cons trivial (slots_move h ow e)
  | (@Slot.va _ _ x) :: Γ, ov :: σ, .cons h1 h, ow, e => .cons (h1.elim fun v k => ⟨v, k.1, Den.mono e k.2⟩) (slots_move h ow e)
  | (@Slot.ow _ _ _ x) :: Γ, ov :: σ, .cons h1 h, ow, e => by
    obtain ⟨p, o, rfl, _⟩ := h1
    cases ow
theorem Env.hmove {K : Fg} {H0 H H' : Hp} {Ox : List Addr} {σ : L2.St} (h : Env K H0 Ox Γ σ H) (ow : owns Γ σ = []) (e : Ex (hide Ox H) (hide Ox H')) (ne : ∀ p ∈ Ox, H' p ≠ none) (e0 : Ex H0 H') : Env K H0 Ox Γ σ H' := by
  have ok := h.ok
  rw [ow, List.append_nil] at ok
  exact ⟨by rw [ow, List.append_nil]; exact slots_move ok ow e, h.nd, h.nw, ne, h.dj, e0⟩
theorem noX_eq {α : Type} {m : M α} (h : ∀ w, m ≠ .error (.exc w)) : noX m = m := by
  unfold noX
  split
  · rename_i w
    exact absurd rfl (h w)
  · rfl
theorem lc2_reads {α β γ : Type} [Den α] [Den β] [Den γ] {mx : M (List α)} {g2 : α → M (List β)} {f : α → β → M γ} {wi wi1 : TI} {g g1 : TG} {tt tt1 : TT} {te : TE} {ts ts1 vs vs1 : List Nat} {Γt : α → Ctx} {Γt1 : α → β → Ctx}
    (hi : ∀ H0 Ox σ H, Env X.K H0 Ox Γ σ H → ∀ R : It → Hp → Prop, PoX X.mg H (fun c d H2 => W c d σ H2) (fun xs => ∀ J H2, Ex H H2 → xs.length ≤ sizeLine → WalkOk X.K J (hide (Ox ++ owns Γ σ) H2) xs → R J H2) mx → wi σ H R)
    (hG : GOk X.K g ts (dropOw (wipeC Γ vs)) Γt) (hts : ∀ i ∈ ts, i ∈ vs)
    (hc : ∀ σ H Q, Q true H → tt σ H Q) (hc1 : ∀ σ H Q, Q true H → tt1 σ H Q)
    (hi1 : ∀ x H0 Ox σ H, Env X.K H0 Ox (Γt x) σ H → ∀ R : It → Hp → Prop, PoX X.mg H (fun c d H2 => False) (fun ys => ∀ J H2, Ex H H2 → ys.length ≤ sizeLine → WalkOk X.K J (hide (Ox ++ owns (Γt x) σ) H2) ys → R J H2) (g2 x) → wi1 σ H R)
    (hG1 : ∀ x, GOk X.K g1 ts1 (wipeC (Γt x) vs1) (Γt1 x)) (hts1 : ∀ i ∈ ts1, i ∈ vs1)
    (he : ∀ x y H0 Ox σ H, Env X.K H0 Ox (Γt1 x y) σ H → ∀ Q : VK, PoE X.K X.mg (Ox ++ owns (Γt1 x y) σ) H (fun _ _ _ => False) Q (f x y) → te σ H Q)
    {H0 : Hp} {Ox : List Addr} {σ : L2.St} {H : Hp} (en : Env X.K H0 Ox Γ σ H) {Q : VK} (q : PoN X.K X.mg (Ox ++ owns Γ σ) H (fun c d H2 => W c d σ H2) Q (mx >>= fun xs => outM g2 f [] xs)) : tLc2 wi g tt wi1 g1 tt1 te vs vs1 σ H Q := by
  refine hi H0 Ox σ H en _ ?_
  cases mx with
  | error er => cases er with
    | stuck => exact q
    | exc w => exact q
  | ok xs =>
    intro J H2 z hlen hw D hD
    have q : PoN X.K X.mg (Ox ++ owns Γ σ) H (fun c d H2 => W c d σ H2) Q (outM g2 f [] xs) := q
    cases hz : outM g2 f [] xs with
    | error er => cases er with
      | stuck => rw [hz] at q; exact q.elim
      | exc w => exact (outM_no hz).elim
    | ok zs =>
      rw [hz] at q
      have en2 := en.mono z
      generalize hO : Ox ++ owns Γ σ = O at *
      have own2 : ∀ p ∈ O, H2 p ≠ none := fun p hp => en2.own p (by rw [hO]; exact hp)
      let B : List γ → Hp → Prop := fun ys H' => Ex H2 H' ∧ Ex (hide O H2) (hide (D :: O) H') ∧ ∃ us, H' D = some (.lst us) ∧ All2 (den X.K (hide (D :: O) H')) us ys ∧ ys.length ≤ sizeLine
      have Bmono : ∀ {ys : List γ} {Ha Hb : Hp}, B ys Ha → Ex Ha Hb → B ys Hb := fun {ys Ha Hb} ⟨e1, e2, us, h1, h2, h3⟩ z => ⟨e1.trans z, e2.trans (hide_ex z), us, z D _ h1, h2.imp fun x y (k : den X.K (hide (D :: O) Ha) x y) => Den.mono (hide_ex z) k, h3⟩
      refine ⟨fun i m H' => m = xs.length - i ∧ i ≤ xs.length ∧ ∃ acc, B acc H' ∧ outM g2 f acc (xs.drop i) = .ok zs, ⟨xs.length, by simp, Nat.zero_le _, [], ⟨Ex.new hD, hide_new (Ex.new hD) hD, [], upd_same, .nil, Nat.zero_le _⟩, by simpa using hz⟩, ?_⟩
      rintro i m H' ⟨rfl, hile, acc, hB, ho⟩
      have nD : ∀ {ys : List γ} {Ha : Hp}, B ys Ha → Ha D ≠ none := fun {ys Ha} ⟨_, _, us, h, _, _⟩ => by rw [h]; exact fun w => nomatch w
      have hGH : ∀ {ys : List γ} {Ha : Hp}, B ys Ha → Ex (hide O H2) Ha := fun h => h.2.1.trans hide_le
      by_cases hlt : i < xs.length
      · refine .inr ?_
        have hx : xs[i]? = some xs[i] := List.getElem?_eq_getElem hlt
        obtain ⟨go, yl2⟩ := (hw i H' (hGH hB)).1 _ hx
        rw [List.drop_eq_getElem_cons hlt] at ho
        unfold outM at ho
        cases hg2 : g2 xs[i] with
        | error er => rw [hg2] at ho; cases er <;> cases ho
        | ok ys =>
          rw [hg2] at ho
          have ho : (inM (f xs[i]) acc ys >>= fun acc' => outM g2 f acc' (xs.drop (i + 1))) = .ok zs := ho
          refine ⟨go, fun H3 => ∃ acc', B acc' H3 ∧ outM g2 f acc' (xs.drop (i + 1)) = .ok zs, fun H3 ⟨acc', b1, b2⟩ => ⟨xs.length - (i + 1), by omega, rfl, hlt, acc', b1, b2⟩, fun v H3 hy => ?_⟩
          obtain ⟨z3, dv⟩ := yl2 v H3 hy
          have dv := dv (D :: O) (fun p hp => by
            rcases List.mem_cons.mp hp with w | w
            · rw [w]; exact nD hB
            · exact ex_ne hB.1 (own2 p w)) hB.2.1
          have hB3 := Bmono hB z3
          have enB : Env X.K H2 (D :: O) (dropOw (wipeC Γ vs)) (L2.wipe σ vs) H3 := by
            have := en2.block hD hB3.1 (nD hB3) vs
            rw [hO] at this
            exact this
          have dv' : den X.K (hide ((D :: O) ++ owns (dropOw (wipeC Γ vs)) (L2.wipe σ vs)) H3) v xs[i] := by
            rw [dropOw_owns, List.append_nil]
            exact dv
          refine hG H2 (D :: O) (L2.wipe σ vs) H3 v xs[i] enB dv' _ fun σ2 en3 w2 s2 => ⟨?_, ?_⟩
          · rw [w2 vs hts]
            exact wipe_wipe
          have ow0 : owns (Γt xs[i]) σ2 = [] := List.eq_nil_iff_forall_not_mem.mpr fun a ha => by
            have := s2 a ha
            rw [dropOw_owns] at this
            cases this
          refine hc _ _ _ ?_
          rw [if_pos rfl]
          refine hi1 xs[i] H2 (D :: O) σ2 H3 en3 _ ?_
          rw [hg2]
          intro J1 H4 z4 hlen1 hw1
          rw [ow0, List.append_nil] at hw1
          have hB4 := Bmono hB3 z4
          have en4 := en3.mono z4
          have eG : Ex (hide (D :: O) H4) (hide (D :: O) H4) := Ex.refl _
          refine ⟨fun j k H' => k = ys.length - j ∧ j ≤ ys.length ∧ Ex (hide (D :: O) H4) (hide (D :: O) H') ∧ (∀ a, a ≠ D → ∀ o, H4 a = some o → H' a = some o) ∧ ∃ acc, B acc H' ∧ (inM (f xs[i]) acc (ys.drop j) >>= fun acc' => outM g2 f acc' (xs.drop (i + 1))) = .ok zs,
            ⟨ys.length, by simp, Nat.zero_le _, Ex.refl _, fun a _ o h => h, acc, hB4, by simpa using ho⟩, ?_⟩
          rintro j k H5 ⟨rfl, hjle, e5, k5, acc5, hB5, ho5⟩
          by_cases hjt : j < ys.length
          · refine .inr ?_
            have hyj : ys[j]? = some ys[j] := List.getElem?_eq_getElem hjt
            obtain ⟨go1, yl1⟩ := (hw1 j H5 (e5.trans hide_le)).1 _ hyj
            rw [List.drop_eq_getElem_cons hjt] at ho5
            unfold inM at ho5
            cases hf : f xs[i] ys[j] with
            | error er => rw [hf] at ho5; cases er <;> cases ho5
            | ok y =>
              rw [hf] at ho5
              have ho5 : ((if acc5.length < sizeLine then inM (f xs[i]) (acc5 ++ [y]) (ys.drop (j + 1)) else stk) >>= fun acc' => outM g2 f acc' (xs.drop (i + 1))) = .ok zs := ho5
              split at ho5
              · rename_i hsz
                refine ⟨go1, fun H' => Ex (hide (D :: O) H4) (hide (D :: O) H') ∧ (∀ a, a ≠ D → ∀ o, H4 a = some o → H' a = some o) ∧ B (acc5 ++ [y]) H', fun H6 ⟨e6, k6, b6⟩ => ⟨ys.length - (j + 1), by omega, rfl, hjt, e6, k6, _, b6, ho5⟩, fun v6 H6 hy6 => ?_⟩
                obtain ⟨z6, dv6⟩ := yl1 v6 H6 hy6
                have own5 : ∀ p ∈ D :: O, H5 p ≠ none := fun p hp => by
                  rcases List.mem_cons.mp hp with w | w
                  · rw [w]; exact nD hB5
                  · exact ex_ne hB5.1 (own2 p w)
                have dv6 := dv6 (D :: O) own5 e5
                have hB6 := Bmono hB5 z6
                have e6 := e5.trans (hide_ex z6)
                have k6 : ∀ a, a ≠ D → ∀ o, H4 a = some o → H6 a = some o := fun a ha o h => z6 a o (k5 a ha o h)
                have en6 : Env X.K H2 (D :: O) (Γt xs[i]) σ2 H6 := en4.hmove ow0 e6 (fun p hp => ex_ne z6 (own5 p hp)) hB6.1
                obtain ⟨en7, sub7⟩ := en6.wipe vs1
                have ow7 : owns (wipeC (Γt xs[i]) vs1) (L2.wipe σ2 vs1) = [] := List.eq_nil_iff_forall_not_mem.mpr fun a ha => by
                  have := sub7 a ha
                  rw [ow0] at this
                  cases this
                refine hG1 xs[i] H2 (D :: O) _ H6 v6 ys[j] en7 (by rw [ow7, List.append_nil]; exact dv6) _ fun σ3 en8 w8 s8 => ⟨?_, ?_⟩
                · rw [w8 vs1 hts1]
                  exact wipe_wipe
                have ow8 : owns (Γt1 xs[i] ys[j]) σ3 = [] := List.eq_nil_iff_forall_not_mem.mpr fun a ha => by
                  have := s8 a ha
                  rw [ow7] at this
                  cases this
                refine hc1 _ _ _ ?_
                rw [if_pos rfl]
                refine he xs[i] ys[j] H2 (D :: O) σ3 H6 en8 _ ?_
                rw [hf]
                intro u H7 z7 du
                rw [ow8, List.append_nil] at du
                obtain ⟨b1, b2, us, b3, b4, b5⟩ := hB6
                have us7 := z7 D _ b3
                refine ⟨us, us7, ?_, ?_, fun a ha o h => ?_, ?_, ?_, us ++ [u], upd_same, ?_, ?_⟩
                · rw [b4.len]
                  exact hsz
                · rw [hide_upd List.mem_cons_self]
                  exact e6.trans (hide_ex z7)
                · rw [upd_ne ha]
                  exact z7 a o (k6 a ha o h)
                · intro a o ha
                  rw [upd_ne fun w => by rw [w, hD] at ha; cases ha]
                  exact z7 a o (b1 a o ha)
                · rw [hide_upd List.mem_cons_self]
                  exact b2.trans (hide_ex z7)
                · rw [hide_upd List.mem_cons_self]
                  exact (b4.imp fun x y (k : den X.K (hide (D :: O) H6) x y) => Den.mono (hide_ex z7) k).app (.cons du .nil)
                · rw [List.length_append]
                  exact hsz
              · cases ho5
          · have hj : j = ys.length := by omega
            refine .inl ⟨(hw1 j H5 (e5.trans hide_le)).2 hj, acc5, hB5, ?_⟩
            rw [List.drop_eq_nil_of_le (by omega)] at ho5
            exact ho5
      · have hi : i = xs.length := by omega
        refine .inl ⟨(hw i H' (hGH hB)).2 hi, ?_⟩
        rw [List.drop_eq_nil_of_le (by omega)] at ho
        have ho : acc = zs := by injection ho
        subst ho
        obtain ⟨e1, e2, us, h1, h2, h3⟩ := hB
        exact q D (.lst us) H' (z.trans e1) (z.free hD) h1 ⟨us, rfl, h2, h3⟩
end
end P3

set_option Elab.async false
set_option linter.all false
set_option maxRecDepth 100000
set_option maxHeartbeats 4000000
namespace P3
open PySem PySem.Spec PyProof.Rows L2
open Den (den)
open Ob (ob)

section
variable {X : Cx} {Wx : XW} {W : WX} {Γ Γ' : Ctx} {e a b c : Expr} {pos p p1 p2 : Pos} {N : List Str} {sc : Scope} {fb : Str → Bool} {n : Str}
def wiW (X : Cx) (tg iter : Expr) : TI := fun σ H R => ∀ pins s, Inv X pins σ H s → wpAny (model X.prog X.w) X.A (eval iter X.env) (fun v s1 => wpAny (model X.prog X.w) X.A (pyIter v) (PIE X pins σ tg R) X.xe s1) X.xe s
theorem pi_w {tg iter : Expr} : PI X tg iter (wiW X tg iter) := ⟨fun pins s σ H R I h => h pins s I⟩
theorem PIw {tg iter : Expr} {wi : TI} (h : PI X tg iter wi) {σ : L2.St} {H : Hp} {R : It → Hp → Prop} (q : wi σ H R) : wiW X tg iter σ H R := fun pins s I => h.run pins s σ H R I q
/-- [elt for tg in iter for tg1 in iter1] -/
theorem lc2_at {α β γ : Type} [Den α] [Den β] [Den γ] {tg1 iter1 elt : Expr} {scope : Scope} (own : List (Str × Nat)) {mx : M (List α)} {g2 : α → M (List β)} {f : α → β → M γ} {wi : TI} {g g1 : TG} {ts ts1 vs1 : List Nat} {Γt : α → Ctx} {Γt1 : α → β → Ctx}
    (hi : ∀ H0 Ox σ H, Env X.K H0 Ox Γ σ H → ∀ R : It → Hp → Prop, PoX X.mg H (fun c d H2 => W c d σ H2) (fun xs => ∀ J H2, Ex H H2 → xs.length ≤ sizeLine → WalkOk X.K J (hide (Ox ++ owns Γ σ) H2) xs → R J H2) mx → wi σ H R)
    (hG : GOk X.K g ts (dropOw (wipeC Γ (own.map (·.2)))) Γt) (hts : ∀ i ∈ ts, i ∈ own.map (·.2))
    (hi1 : ∀ x s H D cl fp, IT (X.blk s H scope (compEnvC scope cl D X.env) fp) W0 (Γt x) tg1 iter1 (g2 x))
    (hG1 : ∀ x, GOk X.K g1 ts1 (wipeC (Γt x) vs1) (Γt1 x)) (hts1 : ∀ i ∈ ts1, i ∈ vs1)
    (he : ∀ x y s H D cl fp, EV (X.blk s H scope (compEnvC scope cl D X.env) fp) W0 (Γt1 x y) elt (f x y))
    {H0 : Hp} {Ox : List Addr} {σ : L2.St} {H : Hp} (en : Env X.K H0 Ox Γ σ H) {Q : VK} (q : PoN X.K X.mg (Ox ++ owns Γ σ) H (fun c d H2 => W c d σ H2) Q (mx >>= fun xs => outM g2 f [] xs)) :
    tLc2 wi g (fun σ H Q => Q true H) (fun σ H R => ∀ s H' D cl fp, wiW (X.blk s H' scope (compEnvC scope cl D X.env) fp) tg1 iter1 σ H R) g1 (fun σ H Q => Q true H) (fun σ H Q => ∀ s H' D cl fp, we (X.blk s H' scope (compEnvC scope cl D X.env) fp) elt σ H Q) (own.map (·.2)) vs1 σ H Q :=
  lc2_reads hi hG hts (fun σ H Q h => h) (fun σ H Q h => h) (fun x H0 Ox σ H en R q s H' D cl fp => by
    obtain ⟨wi, pi, ri⟩ := hi1 x s H' D cl fp
    exact PIw pi (ri H0 Ox σ H en R q)) hG1 hts1 (fun x y H0 Ox σ H en Q q s H' D cl fp => he x y s H' D cl fp H0 Ox σ H en Q q) en q
theorem en_lc2 {α β γ : Type} [Den α] [Den β] [Den γ] (C : Ct X N sc fb W) {tg iter tg1 iter1 elt : Expr} {scope : Scope} (own : List (Str × Nat)) (vs1 : List Nat) {mx : M (List α)} {g2 : α → M (List β)} {f : α → β → M γ} {g g1 : TG} {ts ts1 : List Nat} {Γt : α → Ctx} {Γt1 : α → β → Ctx}
    (hi : IT X W Γ tg iter mx) (hb : blkC N sc scope own = true) (hv : ∀ i ∈ vs1, i ∈ own.map (·.2)) (hG : GOk X.K g ts (dropOw (wipeC Γ (own.map (·.2)))) Γt) (hts : ∀ i ∈ ts, i ∈ own.map (·.2))
    (hg : ∀ s H D cl fp, PG (X.blk s H scope (compEnvC scope cl D X.env) fp) tg g) (hg1 : ∀ s H D cl fp, PG (X.blk s H scope (compEnvC scope cl D X.env) fp) tg1 g1)
    (hi1 : ∀ x s H D cl fp, IT (X.blk s H scope (compEnvC scope cl D X.env) fp) W0 (Γt x) tg1 iter1 (g2 x))
    (hG1 : ∀ x, GOk X.K g1 ts1 (wipeC (Γt x) vs1) (Γt1 x)) (hts1 : ∀ i ∈ ts1, i ∈ vs1)
    (he : ∀ x y s H D cl fp, EV (X.blk s H scope (compEnvC scope cl D X.env) fp) W0 (Γt1 x y) elt (f x y))
    (hs : ∀ x, foldedSetIterable iter X.env x = pure x := by intro _; rfl) (hs1 : ∀ env x, foldedSetIterable iter1 env x = pure x := by intro _ _; rfl) : EN X W Γ (.ListComp elt [⟨tg, iter, [], 0⟩, ⟨tg1, iter1, [], 0⟩] scope pos) (mx >>= fun xs => outM g2 f [] xs) := by
  obtain ⟨wi, pi, ri⟩ := hi
  exact .mk fun H0 Ox σ H en Q q => PEw (pe_lc2 (own := own) (vs1 := vs1) C.c (by rw [C.n]; exact C.nd) pi (by rw [C.n, C.s]; exact blkOk_by hb) hv (fun s H D cl fp => hg s H D cl fp) (fun s H D cl fp => pts_nil) (fun s H D cl fp => ⟨fun pins s' σ' H' R I h => h s H D cl fp pins s' I⟩) (fun s H D cl fp => hg1 s H D cl fp) (fun s H D cl fp => pts_nil)
    (fun s H D cl fp => ⟨fun pins s' σ' H' Q' I h => h s H D cl fp pins s' I⟩) hs hs1) (lc2_at own ri hG hts hi1 hG1 hts1 he en q)
theorem an_lc2 {α β γ : Type} [Den α] [Den β] [Den γ] (C : Cd X N sc Wx) (i : Nat) {p3 : Pos} {tg iter tg1 iter1 elt : Expr} {scope : Scope} (own : List (Str × Nat)) (vs1 : List Nat) {mx : M (List α)} {g2 : α → M (List β)} {f : α → β → M γ} {g g1 : TG} {ts ts1 : List Nat} {Γt : α → Ctx} {Γt1 : α → β → Ctx}
    (hi : IT X (lw Wx) Γ tg iter mx) (hb : blkC N sc scope own = true) (hv : ∀ i ∈ vs1, i ∈ own.map (·.2)) (hG : GOk X.K g ts (dropOw (wipeC Γ (own.map (·.2)))) Γt) (hts : ∀ i ∈ ts, i ∈ own.map (·.2))
    (hg : ∀ s H D cl fp, PG (X.blk s H scope (compEnvC scope cl D X.env) fp) tg g) (hg1 : ∀ s H D cl fp, PG (X.blk s H scope (compEnvC scope cl D X.env) fp) tg1 g1)
    (hi1 : ∀ x s H D cl fp, IT (X.blk s H scope (compEnvC scope cl D X.env) fp) W0 (Γt x) tg1 iter1 (g2 x))
    (hG1 : ∀ x, GOk X.K g1 ts1 (wipeC (Γt x) vs1) (Γt1 x)) (hts1 : ∀ i ∈ ts1, i ∈ vs1)
    (he : ∀ x y s H D cl fp, EV (X.blk s H scope (compEnvC scope cl D X.env) fp) W0 (Γt1 x y) elt (f x y))
    (hn : N[i]? = some n) (hl : sc.names.lookup n = some .local) (hsw : swB sc scope n p1.line p3.line = true) (hs : ∀ x, foldedSetIterable iter X.env x = pure x := by intro _; rfl) (hs1 : ∀ env x, foldedSetIterable iter1 env x = pure x := by intro _ _; rfl) :
    AN X (lw Wx) Γ i (.Assign [.Name n p1] (.ListComp elt [⟨tg, iter, [], 0⟩, ⟨tg1, iter1, [], 0⟩] scope p3) p2) (mx >>= fun xs => outM g2 f [] xs) := by
  obtain ⟨wi, pi, ri⟩ := hi
  exact .mk fun H0 Ox σ H en D q => PSw (ps_setLc2 (own := own) (vs1 := vs1) (i := i) C.c (by rw [C.n]; exact C.nd) (by rw [C.n]; exact hn) (by rw [C.s]; exact hl) (by show swapsWith _ _ _ _ = _; rw [show swapsWith (.ListComp elt [⟨tg, iter, [], 0⟩, ⟨tg1, iter1, [], 0⟩] scope p3) (some (.Name n p1)) p2.line X.env = pure (swB X.env.scope scope n p1.line p3.line) from rfl, C.s, hsw]) pi (by rw [C.n, C.s]; exact blkOk_by hb) hv (fun s H D cl fp => hg s H D cl fp) (fun s H D cl fp => pts_nil) (fun s H D cl fp => ⟨fun pins s' σ' H' R I h => h s H D cl fp pins s' I⟩) (fun s H D cl fp => hg1 s H D cl fp) (fun s H D cl fp => pts_nil)
    (fun s H D cl fp => ⟨fun pins s' σ' H' Q' I h => h s H D cl fp pins s' I⟩) hs hs1) (lc2_at (Q := fun v H2 => D.nx (σ.set i (some v)) H2) own ri hG hts hi1 hG1 hts1 he en q)
/-! what is not reached -/
theorem ev_stk {α : Type} [Den α] : EV X W Γ e (stk : M α) := .mk fun H0 Ox σ H en Q q => q.elim
theorem en_stk {α : Type} [Den α] [Ob α] : EN X W Γ e (stk : M α) := .mk fun H0 Ox σ H en Q q => q.elim
theorem et_stk : ET X W Γ e (stk : M Bool) := .mk fun H0 Ox σ H en Q q => q.elim
theorem sv_stk {S L R : Type} {RT : RTT R} {Γn : S → Ctx} {Γl : L → Ctx} {sts : List Stmt} : SV X Wx RT Γ sts (stk : M (Fl S L R)) Γn Γl := .mk fun H0 Ox σ H D en q => q.elim

/-! results of several kinds -/
def rtO {α : Type} (RT : RTT α) : RTT (Option α) := fun K H0 Ox r v H => match r with
  | some a => v ≠ .non ∧ RT K H0 Ox a v H
  | none => v = .non
def rtS {α β : Type} (RA : RTT α) (RB : RTT β) : RTT (α ⊕ β) := fun K H0 Ox r v H => match r with
  | .inl a => RA K H0 Ox a v H
  | .inr b => RB K H0 Ox b v H
class RTw {R : Type} (RT : RTT R) : Prop extends RTm RT where
  sub : ∀ {K : Fg} {H0 H : Hp} {Ox Ox' : List Addr} {r : R} {v : V}, (∀ a ∈ Ox', a ∈ Ox) → RT K H0 Ox r v H → RT K H0 Ox' r v H
instance {R : Type} [Den R] : RTw (R := R) rtV := ⟨fun s h => Den.mono (hide_sub s) h⟩
instance {R : Type} [Den R] [Ob R] : RTw (R := R) rtN := ⟨fun s ⟨q, o, h1, h2, h3, h4⟩ => ⟨q, o, h1, h2, h3, Ob.omono (hide_sub fun a ha => by
  rcases List.mem_cons.mp ha with w | w
  · rw [w]; exact List.mem_cons_self
  · exact List.mem_cons_of_mem _ (s a w)) h4⟩⟩
instance {α : Type} {RT : RTT α} [RTw RT] : RTw (rtO RT) where
  anti := fun {K H0 H0' H Ox r v} e h => match r, h with
    | some a, h => ⟨h.1, RTm.anti e h.2⟩
    | none, h => h
  sub := fun {K H0 H Ox Ox' r v} s h => match r, h with
    | some a, h => ⟨h.1, RTw.sub s h.2⟩
    | none, h => h
instance {α β : Type} {RA : RTT α} {RB : RTT β} [RTw RA] [RTw RB] : RTw (rtS RA RB) where
  anti := fun {K H0 H0' H Ox r v} e h => match r, h with
    | .inl a, h => RTm.anti (RT := RA) e h
    | .inr b, h => RTm.anti (RT := RB) e h
  sub := fun {K H0 H Ox Ox' r v} s h => match r, h with
    | .inl a, h => RTw.sub (RT := RA) s h
    | .inr b, h => RTw.sub (RT := RB) s h
/-- what the slot is that takes such a result -/
class RTs {R : Type} (RT : RTT R) where
  slot : R → Slot
  put : ∀ {K : Fg} {H0 H H2 : Hp} {Ox : List Addr} {Γ : Ctx} {σ : L2.St} {i : Nat} {r : R} {v : V}, Env K H0 Ox Γ σ H → Ex H H2 → RT K H (Ox ++ owns Γ σ) r v H2 → Env K H0 Ox (Γ.set i (slot r)) (σ.set i (some v)) H2
instance {R : Type} [Den R] : RTs (R := R) rtV := ⟨fun r => .va r, fun en z h => (en.mono z).set h⟩
instance {R : Type} [Den R] [Ob R] : RTs (R := R) rtN := ⟨fun r => .ow r, fun en z ⟨q, o, e, h1, h2, h3⟩ => by
  subst e
  exact en.hold z h1 h2 h3⟩
instance {α : Type} {RT : RTT α} [RTs RT] : RTs (rtO RT) := ⟨fun r => match r with
    | some a => RTs.slot RT a
    | none => .va (), fun {K H0 H H2 Ox Γ σ i r v} en z h => match r, h with
    | some a, h => RTs.put en z h.2
    | none, h => (en.mono z).set (x := ()) ⟨h, trivial⟩⟩
instance {α β : Type} {RA : RTT α} {RB : RTT β} [RTs RA] [RTs RB] : RTs (rtS RA RB) := ⟨fun r => match r with
    | .inl a => RTs.slot RA a
    | .inr a => RTs.slot RB a, fun {K H0 H H2 Ox Γ σ i r v} en z h => match r, h with
    | .inl a, h => RTs.put (RT := RA) en z h
    | .inr a, h => RTs.put (RT := RB) en z h⟩
structure ER {R : Type} (X : Cx) (W : WX) (RT : RTT R) (Γ : Ctx) (e : Expr) (m : M R) : Prop where
  run : ∀ H0 Ox σ H, Env X.K H0 Ox Γ σ H → ∀ Q : VK, PoX X.mg H (fun c d H2 => W c d σ H2) (fun r => ∀ v H2, Ex H H2 → RT X.K H (Ox ++ owns Γ σ) r v H2 → Q v H2) m → we X e σ H Q
instance {R : Type} {X : Cx} {W : WX} {RT : RTT R} {Γ : Ctx} {e : Expr} {m : M R} : CoeFun (ER X W RT Γ e m) (fun _ => ∀ H0 Ox σ H, Env X.K H0 Ox Γ σ H → ∀ Q : VK, PoX X.mg H (fun c d H2 => W c d σ H2) (fun r => ∀ v H2, Ex H H2 → RT X.K H (Ox ++ owns Γ σ) r v H2 → Q v H2) m → we X e σ H Q) := ⟨ER.run⟩
section
variable {R R' : Type} {RT : RTT R} {RT' : RTT R'} {m : M R}
theorem er_v [Den R] (h : EV X W Γ e m) : ER X W rtV Γ e m := .mk fun H0 Ox σ H en Q q => h H0 Ox σ H en Q q
theorem er_n [Den R] [Ob R] (h : EN X W Γ e m) : ER X W rtN Γ e m := .mk fun H0 Ox σ H en Q q => h H0 Ox σ H en Q (PoX.imp (β := R) (Ex.refl H) (fun x _ g p o H2 z h1 h2 h3 => g (.ref p) H2 z ⟨p, o, rfl, h1, h2, h3⟩) q)
theorem er_map (f : R → R') (h : ER X W RT Γ e m) (k : ∀ K H0 Ox r v H, RT K H0 Ox r v H → RT' K H0 Ox (f r) v H) : ER X W RT' Γ e (m >>= fun r => .ok (f r)) := .mk fun H0 Ox σ H en Q q => h H0 Ox σ H en Q (by
  cases m with
  | ok r => exact fun v H2 z hr => q v H2 z (k _ _ _ _ _ _ hr)
  | error er => cases er with
    | stuck => exact q
    | exc x => exact q)
theorem er_inl {β : Type} {RB : RTT β} (h : ER X W RT Γ e m) : ER X W (rtS RT RB) Γ e (m >>= fun r => .ok (Sum.inl r)) := er_map Sum.inl h fun _ _ _ _ _ _ h => h
theorem er_inr {β : Type} {RB : RTT β} (h : ER X W RT Γ e m) : ER X W (rtS RB RT) Γ e (m >>= fun r => .ok (Sum.inr r)) := er_map Sum.inr h fun _ _ _ _ _ _ h => h
/-- never None -/
class RTn {R : Type} (RT : RTT R) : Prop where
  no : ∀ {K : Fg} {H0 H : Hp} {Ox : List Addr} {r : R} {v : V}, RT K H0 Ox r v H → v ≠ .non
instance {R : Type} [Den R] [Ob R] : RTn (R := R) rtN := ⟨fun ⟨q, o, e, _⟩ => by rw [e]; exact fun w => nomatch w⟩
instance {R : Type} [Den R] [NotNone R] : RTn (R := R) rtV := ⟨fun h => NotNone.nn h⟩
instance {α β : Type} {RA : RTT α} {RB : RTT β} [RTn RA] [RTn RB] : RTn (rtS RA RB) := ⟨fun {K H0 H Ox r v} h => match r, h with
  | .inl a, h => RTn.no (RT := RA) h
  | .inr a, h => RTn.no (RT := RB) h⟩
theorem er_some [RTn RT] (h : ER X W RT Γ e m) : ER X W (rtO RT) Γ e (m >>= fun r => .ok (some r)) := er_map some h fun _ _ _ _ _ _ h => ⟨RTn.no h, h⟩
theorem er_none {j : Nat} : ER X W (rtO RT) Γ (.Constant .none j pos) (.ok none : M (Option R)) := .mk fun H0 Ox σ H en Q q => PEw pe_non (q _ H (Ex.refl H) rfl)
theorem sv_retR {S L : Type} {Γn : S → Ctx} {Γl : L → Ctx} {rest : List Stmt} [RTw RT] (h : ER X (lw Wx) RT Γ e m) : SV X Wx RT Γ (.Return (some e) pos :: rest) (m >>= fun r => .ok (.rt r) : M (Fl S L R)) Γn Γl := .mk fun H0 Ox σ H D en q =>
  PSsw (pss_cons (ps_ret pe_w) pss_w) (h H0 Ox σ H en _ (po_bind en.ex q fun x _ q2 v H2 z hv => q2 v H2 (en.ex.trans z) (RTm.anti en.ex (RTw.sub (fun a ha => List.mem_append_left _ ha) hv))))
theorem tb_retR {S L : Type} {Γn : S → Ctx} {Γl : L → Ctx} [RTw RT] (h : ∀ (W : WX) (pn : List (Addr × Obj)) (xe : Value → Shared → Prop), Takes (X.tr pn xe) W → ER (X.tr pn xe) W RT Γ e m) : TB X RT Γ [.Return (some e) pos] m (fun r => (.ok (.rt r) : M (Fl S L R))) Γn Γl := .mk fun W pn xe tk po H0 Ox σ H D en q =>
  PSsw (pss_cons (ps_ret pe_w) pss_w) (h W pn xe tk H0 Ox σ H en _ (PoX.imp (β := R) (Ex.refl H) (fun x _ g v H2 z hv => g v H2 (en.ex.trans z) (RTm.anti en.ex (RTw.sub (fun a ha => List.mem_append_left _ ha) hv))) q))
theorem sv_asgR {S L R2 : Type} {RT2 : RTT R2} {Γn : S → Ctx} {Γl : L → Ctx} {rest : List Stmt} (C : Cd X N sc Wx) (i : Nat) [RTs RT] {mr : R → M (Fl S L R2)} (h : ER X (lw Wx) RT Γ e m) (hn : N[i]? = some n) (hl : locB sc n = true) (k : ∀ x, SV X Wx RT2 (Γ.set i (RTs.slot RT x)) rest (mr x) Γn Γl) (hs : ∀ env, swapsWith e (some (.Name n p1)) p2.line env = pure false := by intro _; rfl) :
    SV X Wx RT2 Γ (.Assign [.Name n p1] e p2 :: rest) (m >>= mr) Γn Γl := .mk fun H0 Ox σ H D en q =>
  PSsw (pss_cons (set_st C i hn hl pe_w hs) pss_w) (h H0 Ox σ H en _ (po_bind en.ex q fun x _ q2 v H2 z hv => k x H0 Ox _ H2 D (RTs.put en z hv) q2))
/-! a def's promise, of any kind -/
def spR {A : Type} [Args A] (RT : RTT R) (K : Fg) (mg : Str → Option Value) (F : A → M R) : Sp := fun vs H Q E => ∃ (O : List Addr) (a : A), (∀ p ∈ O, H p ≠ none) ∧ Args.dens K (hide O H) vs a ∧ PoX mg H E (fun r => ∀ v H2, Ex H H2 → RT K H O r v H2 → Q v H2) (F a)
theorem er_call {A : Type} [Args A] [RTm RT] {kk : Nat} {f : Addr} {fd : FuncData} {ps : List Str} (C : Ct0 X N sc fb W) {Fm : A → M R} {es : List Expr} (F : FnOk X.prog X.w X.K X.mg X.base (L2.CX X.prog X.w) kk f fd ps (spR RT X.K X.mg Fm)) (hr : Room kk X.A) (hm : X.mg n = some (.ref f)) (hk : PySem.W.keepIn X.K (.ref f) = true) (hb : Binds X.K fd ps [])
    (ha : EVs X W Γ (e :: es) Fm m) (hg : gloB sc n = true) (pl : Pl e := by intro _ _; rfl) (pls : PlL es := by intro _ _; rfl) (hdb : (n == ("__debug__" : Str)) = false := by decide) : ER X W RT Γ (.Call (.Name n p) (e :: es) [] pos) m := .mk fun H0 Ox σ H en Q q =>
  PEw (pe_callS F hr (gl_of C hg) hm hk hb (fun σ => passAt C.tk σ) pa_w hdb (pl _ _) (pls _ _)) (ha H0 Ox σ H en _ _ q fun vs H2 a z en2 hd q2 => ⟨Ox ++ owns Γ σ, a, en2.own, hd, by
    cases hF : Fm a with
    | ok r =>
      rw [hF] at q2
      exact fun v H3 z3 hv => q2 v H3 (z.trans z3) (RTm.anti z hv)
    | error er => rw [hF] at q2; cases er with
      | stuck => exact q2
      | exc x => exact q2⟩)
end
end
end P3

set_option Elab.async false
set_option linter.all false
set_option maxRecDepth 100000
set_option maxHeartbeats 4000000
namespace P3
open PySem PySem.Spec PyProof.Rows L2
open Den (den)
open Ob (ob)

section
variable {P : Program} {w : World} {K : Fg} {mg : Str → Option Value} {base : Heap}
/-- a def of the text, as its callers know it -/
def Cal (P : Program) (w : World) (K : Fg) (mg : Str → Option Value) (base : Heap) (n : Str) (k : Nat) (ps : List Str) (sp : Sp) : Prop :=
  ∃ (f : Addr) (fd : FuncData), FnOk P w K mg base (L2.CX P w) k f fd ps sp ∧ mg n = some (.ref f) ∧ PySem.W.keepIn K (.ref f) = true ∧ Binds K fd ps []
abbrev CalX (X : Cx) (n : Str) (k : Nat) (ps : List Str) (sp : Sp) : Prop := Cal X.prog X.w X.K X.mg X.base n k ps sp
theorem Cal.mono {n : Str} {j k : Nat} {ps : List Str} {sp : Sp} (h : j ≤ k) (c : Cal P w K mg base n j ps sp) : Cal P w K mg base n k ps sp := c.elim fun f c => c.elim fun fd c => ⟨f, fd, c.1.mono h, c.2⟩
/-- an own exception of the text -/
def Exc (P : Program) (w : World) (K : Fg) (mg : Str → Option Value) (base : Heap) (n : Str) (k : Nat) (fn : List Str) : Prop :=
  ∃ (Ca fI : Addr) (fd : FuncData) (ps : List Str), OexC K Ca ∧ PySem.W.findIn K (.ref Ca) "__init__" = some (some (.ref fI)) ∧ PySem.W.typeIn K (.ref fI) = some (.type "function") ∧ FnOk P w K mg base (L2.CX P w) k fI fd ps (exSp Ca fn) ∧ Binds K fd ps [] ∧ mg n = some (.ref Ca)
abbrev ExcX (X : Cx) (n : Str) (k : Nat) (fn : List Str) : Prop := Exc X.prog X.w X.K X.mg X.base n k fn
/-- a global number -/
def GloI (mg : Str → Option Value) (n : Str) (i : Int) : Prop := ∃ u, mg n = some u ∧ RelV (.int i) u
end
section
variable {X : Cx} {Wx : XW} {W : WX} {Γ Γ' : Ctx} {e a b c : Expr} {pos p p1 p2 : Pos} {N : List Str} {sc : Scope} {fb : Str → Bool} {n : Str} {kk : Nat} {ps : List Str}
theorem ev_gi (C : Ct0 X N sc fb W) {i : Int} (h : GloI X.mg n i) (hg : gloB sc n = true) (hd : (n == ("__debug__" : Str)) = false := by decide) : EV X W Γ (.Name n pos) (.ok i : M Int) :=
  h.elim fun u h => ev_glob C h.1 h.2 trivial hg hd
theorem ev_callC {A γ : Type} [Args A] [Den γ] (C : Ct0 X N sc fb W) {Fm : A → M γ} {es : List Expr} {m : M γ} (F : CalX X n kk ps (spV X.K X.mg Fm)) (hr : Room kk X.A)
    (ha : EVs X W Γ (e :: es) Fm m) (hg : gloB sc n = true) (pl : Pl e := by intro _ _; rfl) (pls : PlL es := by intro _ _; rfl) (hdb : (n == ("__debug__" : Str)) = false := by decide) : EV X W Γ (.Call (.Name n p) (e :: es) [] pos) m :=
  F.elim fun f F => F.elim fun fd F => ev_call C F.1 hr F.2.1 F.2.2.1 F.2.2.2 ha hg pl pls hdb
theorem er_callC {A R : Type} {RT : RTT R} [Args A] [RTm RT] (C : Ct0 X N sc fb W) {Fm : A → M R} {es : List Expr} {m : M R} (F : CalX X n kk ps (spR RT X.K X.mg Fm)) (hr : Room kk X.A)
    (ha : EVs X W Γ (e :: es) Fm m) (hg : gloB sc n = true) (pl : Pl e := by intro _ _; rfl) (pls : PlL es := by intro _ _; rfl) (hdb : (n == ("__debug__" : Str)) = false := by decide) : ER X W RT Γ (.Call (.Name n p) (e :: es) [] pos) m :=
  F.elim fun f F => F.elim fun fd F => er_call C F.1 hr F.2.1 F.2.2.1 F.2.2.2 ha hg pl pls hdb
theorem sv_raiseC {S L R : Type} {RT : RTT R} {Γn : S → Ctx} {Γl : L → Ctx} {rest : List Stmt} {A : Type} [Args A] [Fargs A] {fn : List Str} {es : List Expr} {m : M (Fl S L R)} (C : Cd X N sc Wx) (F : ExcX X n kk fn) (hr : Room (kk + 1) X.A) (hfn : fn.length = Args.n A)
    (ha : EVs X (lw Wx) Γ (e :: es) (fun x : A => (.error (.exc ⟨n, (fn.zip (Fargs.vals x)).reverse⟩) : M (Fl S L R))) m) (hg : gloB sc n = true) (hn : Args.n A ≤ 1000 := by decide) (hdb : (n == ("__debug__" : Str)) = false := by decide) (pl : Pl e := by intro _ _; rfl) (pls : PlL es := by intro _ _; rfl) :
    SV X Wx RT Γ (.Raise (some (.Call (.Name n p) (e :: es) [] pos)) none p1 :: rest) m Γn Γl := by
  obtain ⟨Ca, fI, fd, ps, T, iC, tI, F1, hb, hm⟩ := F
  exact sv_raise C T iC tI F1 hr hb hm hfn ha hg hn hdb pl pls
theorem ew_stk : EW X W Γ e (stk : M Bool) := .mk fun H0 Ox σ H en Q q => q.elim
theorem pg_t2n (C : Ct X N sc fb W) {g1 g2 : TG} {t1 t2 : Expr} {k : Nat} (h1 : PG X t1 g1) (h2 : PG X t2 g2) (hn : (assignEach [t1, t2] X.env).length = 2 := by rfl) (hst : (assignEach [t1, t2] X.env).findIdx? (·.1) = none := by rfl)
    (he1 : (assignEach [t1, t2] X.env).map (·.2) = assign t1 X.env :: (assignEach [t2] X.env).map (·.2) := by rfl) (he2 : (assignEach [t2] X.env).map (·.2) = assign t2 X.env :: (assignEach [] X.env).map (·.2) := by rfl) : PG X (.Tuple [t1, t2] k pos) (gTup X.K 2 (gCons g1 (gCons g2 gNil))) := pg_t2 C h1 h2 hn hst (pgs_cons h1 (pgs_cons h2 pgs_nil he2) he1)
/-- an `en_` result as any result -/
theorem en_of_er {R : Type} [Den R] [Ob R] {m : M R} (h : ER X W rtN Γ e m) : EN X W Γ e m := .mk fun H0 Ox σ H en Q q => h H0 Ox σ H en Q (PoX.imp (β := R) (Ex.refl H) (fun x _ g v H2 z ⟨p, o, e1, h1, h2, h3⟩ => e1 ▸ g p o H2 z h1 h2 h3) q)
end
section
variable {P : Program} {w : World} {K : Fg} {mg : Str → Option Value} {base : Heap} {A R S L : Type} [Args A] {x qual : Str} {st : Stmt} {f : Addr} {fd : FuncData} {N ps : List Str} {k : Nat} {Fm : A → M R} {Γn : A → S → Ctx} {Γl : A → L → Ctx} {m : A → M (Fl S L R)}
theorem fnR {RT : RTT R} (F : Fun K x qual st f fd) (Sc : FnScope N ps (defScope st)) (hn : ps.length = Args.n A) (hF : ∀ a, Fm a = fin (m a))
    (hb : ∀ (cdv : Value) (Ar : Around) (outer : List PySem.Env) (s : Shared) (H : Hp) (E : XK), Cd (cxL P w K mg base N qual (defScope st) f cdv Ar outer s H E) N (defScope st) E → Room k (cxL P w K mg base N qual (defScope st) f cdv Ar outer s H E).A → ∀ a : A, SV (cxL P w K mg base N qual (defScope st) f cdv Ar outer s H E) E RT (ctx0 N a) (defBody st) (m a) (Γn a) (Γl a)) :
    FnOk P w K mg base (L2.CX P w) (k + 1) f fd ps (spR RT K mg Fm) :=
  fnG F Sc hn (fun vs H Q E ⟨O, a, ho, hd, q⟩ => ⟨O, a, ho, hd, by
    rw [hF a] at q
    unfold fin at q
    cases hm : m a with
    | error er =>
      rw [hm] at q
      cases er with
      | stuck => exact q
      | exc y => exact q
    | ok fl =>
      rw [hm] at q
      cases fl with
      | rt r => exact q
      | nx s => exact q.elim
      | bk l => exact q.elim
      | ct l => exact q.elim⟩) hb
end
end P3

set_option Elab.async false
set_option linter.all false
set_option maxRecDepth 100000
set_option maxHeartbeats 4000000
namespace P3
open PySem PySem.Spec PyProof.Rows L2
open Den (den)
open Ob (ob)

/-- the law's own promise, the script given -/
def spL (K : Fg) (F : List Int × Unit → M Bool) : Sp := fun vs H Q E => ∃ (a : Addr) (ns : List Int), vs = [.ref a] ∧ SqL K H a (ns.map V.int) ∧ ns.length ≤ sizeLine ∧ F (ns, ()) = .ok true ∧ ∀ H', Q (.bl true) H'
theorem spL_imp {K : Fg} {mg : Str → Option Value} {F : List Int × Unit → M Bool} : ∀ vs H Q E, spL K F vs H Q E → spV K mg F vs H Q E := fun vs H Q E ⟨a, ns, e, hs, hl, hF, q⟩ => by
  subst e
  refine ⟨[], (ns, ()), fun p hp => absurd hp (by simp), ⟨.ref a, [], rfl, ?_, rfl⟩, ?_⟩
  · rw [hide_nil]
    refine ⟨a, _, rfl, hs, ?_, hl⟩
    clear hs hl hF
    induction ns with
    | nil => exact .nil
    | cons x r ih => exact .cons ⟨rfl, trivial⟩ ih
  · rw [hF]
    intro v H2 z hv
    obtain rfl := hv.1
    exact q H2
theorem cx_no {P : Program} {w : World} {H : Hp} {s : Shared} {e : Value} {s' : Shared} (h : L2.CX P w [] H s (fun _ _ _ => False) e s') : False := by
  obtain ⟨_, _, _, _, _, _, _, _, _, _, _, _, z⟩ := h
  exact z
section
variable {P : Program} {w : World} {K : Fg} {mg : Str → Option Value} {base : Heap}
theorem cal_mk {n : Str} {k : Nat} {ps : List Str} {sp : Sp} {f : Addr} {fd : FuncData} {qual : Str} {st : Stmt} (F : Fun K n qual st f fd) (h : FnOk P w K mg base (L2.CX P w) k f fd ps sp) (m : mg n = some (.ref f)) (b : Binds K fd ps []) : Cal P w K mg base n k ps sp := ⟨f, fd, h, m, F.kp, b⟩
theorem exc_mk {n : Str} {fn ps : List Str} {C f : Addr} {fd : FuncData} (T : OexC K C) (iC : PySem.W.findIn K (.ref C) "__init__" = some (some (.ref f))) (tI : PySem.W.typeIn K (.ref f) = some (.type "function")) (h : FnOk P w K mg base (L2.CX P w) 1 f fd ps (exSp C fn)) (b : Binds K fd ps []) (m : mg n = some (.ref C)) : Exc P w K mg base n 1 fn :=
  ⟨C, f, fd, ps, T, iC, tI, h, b, m⟩
theorem glo_mk {n : Str} {i : Int} {u : Value} (m : mg n = some u) (r : RelV (.int i) u) : GloI mg n i := ⟨u, m, r⟩
end
end P3

set_option linter.all false
namespace P3
/-! plain lemmas about mirrors -/
section
variable {S S' L R α β γ : Type}
@[simp] theorem ok_b (x : α) (f : α → M β) : ((Except.ok x : M α) >>= f) = f x := id rfl
@[simp] theorem er_b (e : Err) (f : α → M β) : ((Except.error e : M α) >>= f) = Except.error e := id rfl
@[simp] theorem sq_nx (s : S) (k : S → M (Fl S' L R)) : sq (.ok (.nx s)) k = k s := id rfl
@[simp] theorem sq_rt (r : R) (k : S → M (Fl S' L R)) : sq (.ok (.rt r) : M (Fl S L R)) k = .ok (.rt r) := id rfl
@[simp] theorem sq_bk (l : L) (k : S → M (Fl S' L R)) : sq (.ok (.bk l) : M (Fl S L R)) k = .ok (.bk l) := id rfl
@[simp] theorem sq_ct (l : L) (k : S → M (Fl S' L R)) : sq (.ok (.ct l) : M (Fl S L R)) k = .ok (.ct l) := id rfl
@[simp] theorem sq_er (e : Err) (k : S → M (Fl S' L R)) : sq (.error e : M (Fl S L R)) k = .error e := id rfl
@[simp] theorem fin_rt (r : R) : fin (.ok (.rt r) : M (Fl S L R)) = .ok r := id rfl
@[simp] theorem fin_er (e : Err) : fin (.error e : M (Fl S L R)) = .error e := id rfl
@[simp] theorem noX_ok' (x : α) : noX (.ok x : M α) = .ok x := id rfl
theorem as_b (m : M α) (f : α → M β) (g : β → M γ) : ((m >>= f) >>= g) = m >>= fun x => f x >>= g := by cases m <;> rfl
theorem loop_fold {f : S → α → M (Fl S S R)} (g : S → α → S) : ∀ (xs : List α) (s : S), (∀ s x, x ∈ xs → f s x = .ok (.nx (g s x))) → (loopM f xs s : M (Fl S L R)) = .ok (.nx (xs.foldl g s))
  | [], s, h => rfl
  | x :: xs, s, h => by
    unfold loopM
    rw [h s x (List.mem_cons_self ..)]
    exact loop_fold g xs _ fun s y hy => h s y (List.mem_cons_of_mem _ hy)
/-- a loop with what holds between the turns -/
theorem loop_inv {f : S → α → M (Fl S S R)} (I : Nat → S → Prop) : ∀ (xs : List α) (j : Nat) (s : S), I j s → (∀ i s (h : i < xs.length), I (j + i) s → ∃ s', f s xs[i] = .ok (.nx s') ∧ I (j + i + 1) s') → ∃ s', (loopM f xs s : M (Fl S L R)) = .ok (.nx s') ∧ I (j + xs.length) s'
  | [], j, s, h, k => ⟨s, rfl, h⟩
  | x :: xs, j, s, h, k => by
    obtain ⟨s', e, i'⟩ := k 0 s (by simp) h
    obtain ⟨s2, e2, i2⟩ := loop_inv I xs (j + 1) s' i' fun i s hi h2 => by
      have := k (i + 1) s (by simpa using hi) (by rw [← Nat.add_assoc, Nat.add_right_comm]; exact h2)
      rw [← Nat.add_assoc, Nat.add_right_comm j i 1] at this
      exact this
    refine ⟨s2, ?_, ?_⟩
    · unfold loopM
      have e' : f s x = .ok (.nx s') := e
      rw [e']
      exact e2
    · rw [List.length_cons, Nat.add_comm xs.length 1, ← Nat.add_assoc]
      exact i2
theorem loop_eq {f : S → α → M (Fl S S R)} {xs : List α} {s : S} (t : S) (I : Nat → S → Prop) (h0 : I 0 s) (hs : ∀ i s (h : i < xs.length), I i s → ∃ s', f s xs[i] = .ok (.nx s') ∧ I (i + 1) s') (he : ∀ s', I xs.length s' → s' = t) : (loopM f xs s : M (Fl S L R)) = .ok (.nx t) := by
  obtain ⟨s', e, i⟩ := loop_inv (L := L) I xs 0 s h0 fun i s h q => by
    rw [Nat.zero_add] at q ⊢
    exact hs i s h q
  rw [Nat.zero_add] at i
  rw [e, he s' i]
/-- a loop that leaves by return at the first item that .. -/
theorem loop_find {f : Unit → α → M (Fl Unit Unit R)} (p : α → Bool) (r : R) : ∀ (xs : List α), (∀ x ∈ xs, f () x = if p x = true then .ok (.rt r) else .ok (.nx ())) → (loopM f xs () : M (Fl Unit L R)) = if xs.any p = true then .ok (.rt r) else .ok (.nx ())
  | [], h => rfl
  | x :: xs, h => by
    unfold loopM
    rw [h x (List.mem_cons_self ..), List.any_cons]
    cases p x with
    | true => rfl
    | false =>
      show (loopM f xs ()) = _
      rw [loop_find p r xs fun y hy => h y (List.mem_cons_of_mem _ hy)]
      rfl
theorem map_ok {f : α → M β} (g : α → β) : ∀ xs : List α, (∀ x ∈ xs, f x = .ok (g x)) → mapM' f xs = .ok (xs.map g)
  | [], h => rfl
  | x :: xs, h => by
    unfold mapM'
    rw [h x (List.mem_cons_self ..), map_ok g xs fun y hy => h y (List.mem_cons_of_mem _ hy)]
    rfl
theorem comp_ok {c : α → M Bool} {f : α → M β} (p : α → Bool) (g : α → β) : ∀ xs : List α, (∀ x ∈ xs, c x = .ok (p x)) → (∀ x ∈ xs, f x = .ok (g x)) → compM c f xs = .ok ((xs.filter p).map g)
  | [], h, k => rfl
  | x :: xs, h, k => by
    unfold compM
    rw [h x (List.mem_cons_self ..), k x (List.mem_cons_self ..), comp_ok p g xs (fun y hy => h y (List.mem_cons_of_mem _ hy)) fun y hy => k y (List.mem_cons_of_mem _ hy)]
    cases e : p x <;> simp [e, List.filter_cons]
theorem inM_ok {f : β → M γ} (g : β → γ) : ∀ (ys : List β) (acc : List γ), (∀ y ∈ ys, f y = .ok (g y)) → acc.length + ys.length ≤ PySem.sizeLine → inM f acc ys = .ok (acc ++ ys.map g)
  | [], acc, h, k => by simp [inM]
  | y :: ys, acc, h, k => by
    unfold inM
    rw [h y (List.mem_cons_self ..)]
    rw [List.length_cons] at k
    have e := inM_ok g ys (acc ++ [g y]) (fun z hz => h z (List.mem_cons_of_mem _ hz)) (by rw [List.length_append, List.length_singleton]; omega)
    have hl : acc.length < PySem.sizeLine := by omega
    simp only [noX_ok', ok_b, if_pos hl, e]
    simp
theorem outM_ok {q : α → M (List β)} {f : α → β → M γ} (ys : α → List β) (g : α → β → γ) : ∀ (xs : List α) (acc : List γ), (∀ x ∈ xs, q x = .ok (ys x)) → (∀ x ∈ xs, ∀ y ∈ ys x, f x y = .ok (g x y)) → acc.length + (xs.flatMap fun x => (ys x).map (g x)).length ≤ PySem.sizeLine →
    outM q f acc xs = .ok (acc ++ xs.flatMap fun x => (ys x).map (g x))
  | [], acc, h, h2, k => by simp [outM]
  | x :: xs, acc, h, h2, k => by
    unfold outM
    rw [h x (List.mem_cons_self ..)]
    rw [List.flatMap_cons, List.length_append, List.length_map] at k
    have e1 := inM_ok (g x) (ys x) acc (h2 x (List.mem_cons_self ..)) (by omega)
    have e2 := outM_ok ys g xs (acc ++ (ys x).map (g x)) (fun z hz => h z (List.mem_cons_of_mem _ hz)) (fun z hz => h2 z (List.mem_cons_of_mem _ hz)) (by rw [List.length_append, List.length_map]; omega)
    simp only [noX_ok', ok_b, e1, e2]
    simp [List.flatMap_cons]
end
theorem idxL_nat {α : Type} {xs : List α} {i : Nat} {x : α} (h : xs[i]? = some x) : idxL xs (i : Int) = .ok x := by
  unfold idxL
  rw [L2.atI_nat h]
  rfl
theorem modI_ok {x y : Int} (h : 0 < y) : modI x y = .ok (x % y) := if_pos h
theorem divI_ok {x y : Int} (h : 0 < y) (h2 : y < 1073741824) : divI x y = .ok (x / y) := if_pos ⟨h, h2⟩
theorem modN {a b : Nat} (h : 0 < b) : modI (a : Int) (b : Int) = .ok ((a % b : Nat) : Int) := by
  rw [modI_ok (by omega), Int.natCast_emod]
theorem divN {a b : Nat} (h : 0 < b) (h2 : b < 1073741824) : divI (a : Int) (b : Int) = .ok ((a / b : Nat) : Int) := by
  rw [divI_ok (by omega) (by omega), Int.natCast_ediv]
theorem sz24 : PySem.sizeLine = 16777216 := PySem.sizeLine_eq
theorem mulI_ok {x y : Int} (h : -18446744073709551616 < y ∧ y < 18446744073709551616) : mulI x y = .ok (x * y) := if_pos (.inr ⟨by omega, by omega⟩)
theorem catT_ok {x y : List Nat} (h : x.length + y.length ≤ 16777216) : catT ⟨x⟩ ⟨y⟩ = .ok ⟨x ++ y⟩ := if_pos (by rw [sz24]; exact h)
theorem appM_ok {α : Type} {xs : List α} {x : α} (h : xs.length < 16777216) : appM xs x = .ok (xs ++ [x]) := if_pos (by rw [sz24]; exact h)
/-- a mirror ends well, its result is so -/
def okP {α : Type} (m : M α) (Q : α → Prop) : Prop := ∃ x, m = .ok x ∧ Q x
theorem okP_ok {α : Type} {x : α} {Q : α → Prop} (h : Q x) : okP (.ok x : M α) Q := ⟨x, rfl, h⟩
theorem okP_b {α β : Type} {m : M α} {f : α → M β} {P : α → Prop} {Q : β → Prop} (h : okP m P) (k : ∀ x, P x → okP (f x) Q) : okP (m >>= f) Q := by
  obtain ⟨x, rfl, hx⟩ := h
  exact k x hx
theorem okP_loop {S L R α β : Type} {f : S → α → M (Fl S S R)} {xs : List α} {s : S} {k : S → M (Fl β L R)} {Q : Fl β L R → Prop} (I : Nat → S → Prop) (h0 : I 0 s) (hs : ∀ i s (h : i < xs.length), I i s → okP (f s xs[i]) fun fl => ∃ s', fl = .nx s' ∧ I (i + 1) s') (he : ∀ s', I xs.length s' → okP (k s') Q) : okP (sq (loopM f xs s) k) Q := by
  obtain ⟨s', e, i⟩ := loop_inv (L := L) I xs 0 s h0 fun i s h q => by
    rw [Nat.zero_add] at q ⊢
    obtain ⟨fl, e1, s', rfl, i'⟩ := hs i s h q
    exact ⟨s', e1, i'⟩
  rw [Nat.zero_add] at i
  rw [e]
  exact he s' i
theorem okP_fin {S L R : Type} {m : M (Fl S L R)} {Q : R → Prop} (h : okP m fun fl => ∃ r, fl = .rt r ∧ Q r) : okP (fin m) Q := by
  obtain ⟨fl, rfl, r, rfl, q⟩ := h
  exact ⟨r, rfl, q⟩
theorem okP_if {α : Type} {b : Bool} {x y : M α} {Q : α → Prop} (h1 : b = true → okP x Q) (h2 : b = false → okP y Q) : okP (if b = true then x else y) Q := by
  cases b with
  | true => exact h1 rfl
  | false => exact h2 rfl
/-- an if's two ways that meet -/
theorem okP_sq {J S L R : Type} {m : M (Fl J L R)} {k : J → M (Fl S L R)} {P : J → Prop} {Q : Fl S L R → Prop} (h : okP m fun fl => ∃ j, fl = .nx j ∧ P j) (hk : ∀ j, P j → okP (k j) Q) : okP (sq m k) Q := by
  obtain ⟨fl, rfl, j, rfl, p⟩ := h
  exact hk j p
/-- an if that leaves by one way alone -/
theorem okP_ifx {S L R : Type} {b : Bool} {x : M (Fl Unit L R)} {k : Unit → M (Fl S L R)} {Q : Fl S L R → Prop} (h1 : b = true → okP (sq x k) Q) (h2 : b = false → okP (k ()) Q) : okP (sq (if b = true then x else .ok (.nx ())) k) Q := by
  cases b with
  | true => exact h1 rfl
  | false => exact h2 rfl
theorem okP_rt {S S' L R : Type} {m : M R} {k : S' → M (Fl S L R)} {Q : R → Prop} (h : okP m Q) : okP (sq (m >>= fun r => (.ok (.rt r) : M (Fl S' L R))) k) fun fl => ∃ r, fl = .rt r ∧ Q r := by
  obtain ⟨r, rfl, q⟩ := h
  exact ⟨.rt r, rfl, r, rfl, q⟩
theorem okP_rt0 {S L R : Type} {m : M R} {Q : R → Prop} (h : okP m Q) : okP (m >>= fun r => (.ok (.rt r) : M (Fl S L R))) fun fl => ∃ r, fl = .rt r ∧ Q r := by
  obtain ⟨r, rfl, q⟩ := h
  exact ⟨.rt r, rfl, r, rfl, q⟩
theorem okP_eq {α : Type} {m : M α} {x : α} {Q : α → Prop} (h : m = .ok x) (q : Q x) : okP m Q := ⟨x, h, q⟩
theorem okP_imp {α : Type} {m : M α} {P Q : α → Prop} (h : okP m P) (k : ∀ x, P x → Q x) : okP m Q := by
  obtain ⟨x, e, p⟩ := h
  exact ⟨x, e, k x p⟩
/-- [f(x) for x in xs], each item well -/
theorem okP_map {α β : Type} {f : α → M β} {P : β → Prop} : ∀ xs : List α, (∀ x ∈ xs, okP (f x) P) → okP (mapM' f xs) fun ys => ys.length = xs.length ∧ ∀ y ∈ ys, P y
  | [], _ => ⟨[], rfl, rfl, fun y hy => by cases hy⟩
  | x :: xs, h => by
    obtain ⟨y, e, p⟩ := h x List.mem_cons_self
    obtain ⟨ys, e2, l2, p2⟩ := okP_map xs fun z hz => h z (List.mem_cons_of_mem _ hz)
    refine ⟨y :: ys, ?_, by simp [l2], fun z hz => ?_⟩
    · unfold mapM'
      rw [e, e2]
      rfl
    · rcases List.mem_cons.mp hz with e | e
      · rw [e]; exact p
      · exact p2 z e
/-- a loop that may leave by return -/
theorem okP_loopR {S L R α β : Type} {f : S → α → M (Fl S S R)} {k : S → M (Fl β L R)} {Q : Fl β L R → Prop} (I : Nat → S → Prop) : ∀ (xs : List α) (j : Nat) (s : S), I j s → (∀ i s (h : i < xs.length), I (j + i) s → okP (f s xs[i]) fun fl => (∃ r, fl = .rt r ∧ Q (.rt r)) ∨ ∃ s', fl = .nx s' ∧ I (j + i + 1) s') → (∀ s', I (j + xs.length) s' → okP (k s') Q) → okP (sq (loopM f xs s) k) Q
  | [], j, s, h0, _, he => he s h0
  | x :: xs, j, s, h0, hs, he => by
    obtain ⟨fl, e, h⟩ := hs 0 s (by simp) h0
    have e' : f s x = .ok fl := e
    unfold loopM
    rw [e']
    rcases h with ⟨r, rfl, q⟩ | ⟨s', rfl, q⟩
    · exact ⟨_, rfl, q⟩
    · refine okP_loopR I xs (j + 1) s' q (fun i s h q => ?_) fun s' q => he s' ?_
      · have := hs (i + 1) s (by simpa using h) (by rw [← Nat.add_assoc, Nat.add_right_comm]; exact q)
        rw [← Nat.add_assoc, Nat.add_right_comm j i 1] at this
        exact this
      · rw [List.length_cons, Nat.add_comm xs.length 1, ← Nat.add_assoc]
        exact q
end P3

set_option Elab.async false
set_option linter.all false
set_option maxRecDepth 100000
set_option maxHeartbeats 4000000
namespace P3
open PySem PySem.Spec PyProof.Rows L2 PpSet
open Den (den)
open Ob (ob)

/-! a set comprehension of ints -/
section
variable {X : Cx}
theorem addI_ok {pins : List (Addr × Obj)} {σ : L2.St} {H : Hp} {s : Shared} {E : Value → Shared → Prop} {D : Addr} {S : Int → Bool} {n : Nat} {y : Int} {tk : Tok} {Q : Value → Shared → Prop} (I : Inv X pins σ H s) (hD : H D = some (SetO X.w D S n)) (room : n + 1 < scanBound)
    (h : ∀ s', Inv X pins σ (upd H D (SetO X.w D (fun j => S j || decide (j = y)) (if S y = true then n else n + 1))) s' → Q .none s') : wpAny (model X.prog X.w) X.A (call (.builtin "set.add") [.ref D, .int y tk]) Q E s :=
  setR_add (setO_get I hD) room fun h' sb new => h _ (I.write (e := D) (t' := s.toks + 1) (by rw [hD]; trivial) (.inl rfl) (fun b u hb hu => (sb.2 b hb).trans hu) (let ⟨o, _, _, _, ho, _⟩ := new; ⟨o, ho⟩) (setO_new new))
/-- D: the set that is filled -/
def tSi (w : World) (wi : TI) (g : TG) (tt : TT) (te : TE) (vs : List Nat) : TE := fun σ H Q => wi σ H fun J H1 => ∀ D, H1 D = none → ∃ P : Nat → Nat → Hp → Prop, (∃ m, P 0 m (upd H1 D (SetO w D (fun _ => false) 0))) ∧
  ∀ i m H, P i m H → (J.stop i H ∧ Q (.ref D) H) ∨ (J.go i H ∧ ∃ Nx : Hp → Prop, (∀ H', Nx H' → ∃ m', m' < m ∧ P (i + 1) m' H') ∧ ∀ x H', J.yld i H x H' → g x (wipe σ vs) H' fun σ2 H2 => wipe σ2 vs = wipe σ vs ∧
    tt σ2 H2 fun b H3 => if b = true then te σ2 H3 fun y H4 => ∃ (c : Int) (S : Int → Bool) (n : Nat), y = .int c ∧ H4 D = some (SetO w D S n) ∧ n + 1 < scanBound ∧ Nx (upd H4 D (SetO w D (fun j => S j || decide (j = c)) (if S c = true then n else n + 1))) else Nx H3)
abbrev InB (X : Cx) (scope : Scope) {α : Type} (f : Cx → α) (P : α → Prop) : Prop := ∀ (s : Shared) (H : Hp) (C : Addr) (cl : List (PySem.Str × Addr)) (fp : List Addr), P (f (X.blk s H scope (compEnvC scope cl C X.env) fp))
theorem pe_si {elt tg iter : Expr} {ifs : List Expr} {scope : Scope} {own : List (PySem.Str × Nat)} {pos : Pos} {wi : TI} {g : TG} {tt : TT} {te : TE} (hc : X.calm = true) (hN : X.N.Nodup) (hi : PI X tg iter wi) (ok : BlkOk X.N X.env.scope scope own)
    (hg : InB X scope (fun Y => Y) fun Y => PG Y tg g) (ht : InB X scope (fun Y => Y) fun Y => PTs Y ifs tt) (he : InB X scope (fun Y => Y) fun Y => PE Y elt te) (hs : ∀ x, foldedSetIterable iter X.env x = pure x := by intro _; rfl) :
    PE X (.SetComp elt [⟨tg, iter, ifs, 0⟩] scope pos) (tSi X.w wi g tt te (own.map (·.2))) := by
  refine ⟨fun pins s σ H Q I h => ?_⟩
  rw [eval_SetComp]
  have free : ∀ y ∈ scope.names, y.2 = .free → ∃ c, X.env.cells.lookup y.1 = some c := fun y hy q =>
    (ok.free y hy q).elim (fun k => I.ok.has _ (.inl k)) fun k => I.ok.has _ (.inr k)
  refine wpAny_comprehension_free (use := none) rfl hs (closure_ok free) ok.kind (fun y hy q => by rw [ok.uniq y hy, q]) (thn (hi.run pins s σ H _ I h) fun xv s1 hx => thn hx fun itv s2 h2 => ?_)
  obtain ⟨it, fp, tn, J, H2, rfl, I2, T, st2, f2, q⟩ := h2
  refine newSet_ok (newEnv_comp ?_)
  generalize hD : s2.heap.objs.size = D
  have nD : H2 D = none := I2.hok.fresh (Nat.le_of_eq hD)
  obtain ⟨P, ⟨m0, w0⟩, turn⟩ := q D nD
  generalize hs3 : ({ s2 with heap := s2.heap.push { cls := .type "set", dict := none, data := .set #[] 0 (.fresh 0 0 (!X.w.params.followText "set-order")) } } : Shared) = s3
  have ps3 : s3.heap = s2.heap.push { cls := .type "set", dict := none, data := .set #[] 0 (.fresh 0 0 (!X.w.params.followText "set-order")) } := by rw [← hs3]
  generalize hH3 : upd H2 D (SetO X.w D (fun _ => false) 0) = H3 at *
  have I3 : Inv X pins σ H3 s3 := by
    rw [← hs3, ← hH3]
    exact I2.laid (t' := s2.toks) (fun b o z => Heap.get?_push_of_some _ z) (Nat.le_of_eq hD) (by rw [← hD]; exact setO_new (setR_fresh X.w))
  have lts : ∀ b ∈ fp, b < s2.heap.objs.size := fun b hb => (T.obj _ _ st2 b hb).elim fun o z => Heap.lt_size z.1
  have f3 : ∀ b ∈ fp, FpOk X pins H3 b ∧ b < s3.heap.objs.size := fun b hb =>
    ⟨⟨by rw [← hH3, upd_ne (by rw [← hD]; exact Nat.ne_of_lt (lts b hb))]; exact (f2 b hb).1, (f2 b hb).2⟩, by rw [ps3, Heap.size_push]; exact Nat.lt_succ_of_lt (lts b hb)⟩
  have st3 : tn 0 s3.heap := T.keep _ _ _ st2 fun b _ o z => by rw [ps3]; exact Heap.get?_push_of_some _ z
  have I4 := block_start I3 ok hN f3
  have pg := hg s3 H3 s3.heap.objs.size (cellsFrom (s3.heap.objs.size + 1) scope.names (cloFrom X.env.cells scope.names [])) fp
  have pt := ht s3 H3 s3.heap.objs.size (cellsFrom (s3.heap.objs.size + 1) scope.names (cloFrom X.env.cells scope.names [])) fp
  have pe := he s3 H3 s3.heap.objs.size (cellsFrom (s3.heap.objs.size + 1) scope.names (cloFrom X.env.cells scope.names [])) fp
  show codeAny _ _ (.compStart _ 0 (.ref it) (.ref D) (compEnvC scope (cellsFrom (s3.heap.objs.size + 1) scope.names (cloFrom X.env.cells scope.names [])) s3.heap.objs.size X.env)) (compPost (model X.prog X.w) X.A X.xe none _ (.ref D) s3.heap.objs.size) { s3 with heap := pushCells (s3.heap.push { cls := .type "dict", data := .dict #[] }) scope.names }
  have nfp : ∀ b ∈ fp, H3 b = none := fun b hb => (f3 b hb).1.1
  generalize hce : compEnvC scope (cellsFrom (s3.heap.objs.size + 1) scope.names (cloFrom X.env.cells scope.names [])) s3.heap.objs.size X.env = ce at I4 pg pt pe ⊢
  have cL : ce.locals = s3.heap.objs.size := by subst hce; rfl
  generalize hs4 : ({ s3 with heap := pushCells (s3.heap.push { cls := .type "dict", data := .dict #[] }) scope.names } : Shared) = s4 at I4 ⊢
  have st4 : tn 0 s4.heap := T.keep _ _ _ st3 fun b _ o z => by rw [← hs4]; exact pushCells_keeps _ _ _ _ (Heap.get?_push_of_some _ z)
  have stat : ∀ {σ' : L2.St} {H' : Hp} {s' : Shared}, Inv (X.blk s3 H3 scope ce fp) [] σ' H' s' → (∀ b ∈ fp, H' b = none) → ∀ b ∈ fp, FpOk (X.blk s3 H3 scope ce fp) [] H' b := fun {σ' H' s'} I' hn b hb =>
    ⟨hn b hb, (I'.ok.exf b hb).1, I'.ok.exfs b hb, .inl hb, fun x c z => (I'.ok.exf b hb).2 x c z, fun p hp => absurd (show p ∈ ([] : List (Addr × Obj)) ++ [] from hp) (by simp)⟩
  have loop : codeAny (model X.prog X.w) X.A (.compLoop (.SetComp elt [⟨tg, iter, ifs, 0⟩] scope pos) 0 (.ref it) (.ref D) ce) (compPost (model X.prog X.w) X.A X.xe none (EP X pins σ Q) (.ref D) s3.heap.objs.size) s4 := by
    refine compLoopS_any (fun n s' => ∃ i H', Inv (X.blk s3 H3 scope ce fp) [] (wipe σ (own.map (·.2))) H' s' ∧ tn i s'.heap ∧ (∀ b ∈ fp, H' b = none) ∧ P i n H') ?_ m0 ⟨0, H3, I4, st4, nfp, w0⟩
    rintro n s5 ⟨i, H5, I5, st5, n5, w5⟩
    rcases turn i n H5 w5 with ⟨stop, qq⟩ | ⟨go, Nx, hNx, step⟩
    · refine thnF (T.done (X.blk s3 H3 scope ce fp) rfl rfl rfl hc i [] s5 _ H5 (fun _ _ => False) I5 (stat I5 n5) st5 stop) fun r s6 ⟨hr, I6⟩ => ?_
      subst hr
      have I7 : Inv X pins σ H5 s6 := I3.call' (ch := fp) I6.os I6.base I6.hok I6.bare fun b hb => ⟨(f3 b hb).1.2.2.2.1, (f3 b hb).1.2.1, (f3 b hb).1.2.2.2.2.1, (f3 b hb).1.2.2.2.2.2⟩
      have nC : H5 s3.heap.objs.size = none := by rw [← cL]; exact I6.free
      obtain ⟨m, hn, _⟩ := I6.loc
      have hn : s6.heap.Ns ce.locals m := hn
      rw [cL] at hn
      obtain ⟨g0, g1, g2, g3, g4, g5⟩ := I3.fpOk (Nat.le_refl _) nC
      exact ⟨m, hn, fun h'' sb => ⟨.ref D, H5, I7.turned (t' := s6.toks) (fun b o hb z => (sb.2 b hb).trans z) g0 g1 g3 g4 g5, rfl, qq⟩⟩
    · refine thnF (T.item (X.blk s3 H3 scope ce fp) rfl rfl rfl hc i [] s5 _ H5 (fun _ _ => False) I5 (stat I5 n5) st5 go) fun r s6 ⟨u, hr, h6⟩ => ?_
      subst hr
      refine thnF h6 fun _ s7 ⟨x, H7, I7, r7, y7, st7, n7⟩ => ?_
      refine thnF (pg.run _ s7 _ H7 x u _ (I7.pinned (stat I7 n7) (T.obj _ _ st7)) r7 (step x H7 y7)) fun _ s8 ⟨σ8, H8, I8, hw8, q8⟩ => ?_
      refine thnF (pt.run _ s8 σ8 H8 _ I8 q8) fun b s9 ⟨H9, I9, q9⟩ => ?_
      have fin : ∀ {s' : Shared} {H' : Hp}, Inv (X.blk s3 H3 scope ce fp) ([] ++ pinsAt fp s7.heap) σ8 H' s' → Nx H' → ∃ m, m < n ∧ ∃ i H', Inv (X.blk s3 H3 scope ce fp) [] (wipe σ (own.map (·.2))) H' s' ∧ tn i s'.heap ∧ (∀ b ∈ fp, H' b = none) ∧ P i m H' := fun {s' H'} I' nx => by
        obtain ⟨m', hm, w'⟩ := hNx H' nx
        have pin' : ∀ b ∈ fp, ∀ o, s7.heap.get? b = some o → s'.heap.get? b = some o ∧ H' b = none := fun b hb o z =>
          let y := I'.pin (b, o) (List.mem_append_right _ (List.mem_append_right _ (mem_pinsAt hb z)))
          ⟨y.1, y.2.1⟩
        exact ⟨m', hm, i + 1, H', (I'.unpinned (pins := [])).weak (by rw [← hw8, wipe_length]) (fun j v z => by rw [← hw8] at z; exact (wipe_some z).1), T.keep _ _ _ st7 fun b hb o z => (pin' b hb o z).1, fun b hb => (T.obj _ _ st7 b hb).elim fun o z => (pin' b hb o z.1).2, w'⟩
      cases b with
      | false => simp only [Bool.false_eq_true, if_false] at q9 ⊢; exact fin I9 q9
      | true =>
        simp only [if_true] at q9 ⊢
        refine thnF (pe.run _ s9 σ8 H9 _ I9 q9) fun z s10 ⟨yv, H10, I10, r10, cb, S0, n0, ey, hD10, hz10, nx⟩ => ?_
        subst ey
        obtain ⟨tk, ez⟩ := (show ∃ tk, z = Value.int cb tk from r10)
        subst ez
        exact addI_ok (X := X.blk s3 H3 scope ce fp) I10 hD10 hz10 fun s11 I11 => fin I11 nx
  exact codeAny_compStart_set loop (T.self X.A 0 _ _ _ st4 loop)
end
end P3

set_option Elab.async false
set_option linter.all false
set_option maxRecDepth 100000
set_option maxHeartbeats 4000000
namespace P3
open PySem PySem.Spec PyProof.Rows L2
open Den (den)
open Ob (ob)

/-! sorting -/
def insB {α : Type} (le : α → α → Bool) (x : α) : List α → List α
  | [] => [x]
  | y :: ys => if le x y = true then x :: y :: ys else y :: insB le x ys
def srtB {α : Type} (le : α → α → Bool) : List α → List α
  | [] => []
  | x :: xs => insB le x (srtB le xs)
theorem insB_perm {α : Type} (le : α → α → Bool) (x : α) : ∀ ys : List α, (insB le x ys).Perm (x :: ys)
  | [] => List.Perm.refl _
  | y :: ys => by
    unfold insB
    split
    · exact List.Perm.refl _
    · exact ((insB_perm le x ys).cons y).trans (List.Perm.swap x y ys)
theorem srtB_perm {α : Type} (le : α → α → Bool) : ∀ xs : List α, (srtB le xs).Perm xs
  | [] => List.Perm.refl _
  | x :: xs => (insB_perm le x _).trans ((srtB_perm le xs).cons x)
structure Lin {α : Type} (le : α → α → Bool) : Prop where
  total : ∀ x y, le x y = true ∨ le y x = true
  trans : ∀ x y z, le x y = true → le y z = true → le x z = true
  anti : ∀ x y, le x y = true → le y x = true → x = y
theorem insB_pw {α : Type} {le : α → α → Bool} (L : Lin le) (x : α) : ∀ {ys : List α}, ys.Pairwise (fun a b => le a b = true) → (insB le x ys).Pairwise (fun a b => le a b = true)
  | [], _ => by unfold insB; exact List.pairwise_singleton _ _
  | y :: ys, h => by
    unfold insB
    have hy := List.pairwise_cons.mp h
    split
    · rename_i hl
      refine List.pairwise_cons.mpr ⟨fun z hz => ?_, h⟩
      rcases List.mem_cons.mp hz with rfl | hz
      · exact hl
      · exact L.trans _ _ _ hl (hy.1 z hz)
    · rename_i hl
      refine List.pairwise_cons.mpr ⟨fun z hz => ?_, insB_pw L x hy.2⟩
      rcases List.mem_cons.mp ((insB_perm le x ys).mem_iff.mp hz) with rfl | hz
      · exact (L.total z y).resolve_left hl
      · exact hy.1 z hz
theorem srtB_pw {α : Type} {le : α → α → Bool} (L : Lin le) : ∀ xs : List α, (srtB le xs).Pairwise (fun a b => le a b = true)
  | [] => List.Pairwise.nil
  | x :: xs => insB_pw L x (srtB_pw L xs)
theorem srt_one {α : Type} {le : α → α → Bool} (L : Lin le) : ∀ {as bs : List α}, as.Perm bs → as.Pairwise (fun a b => le a b = true) → bs.Pairwise (fun a b => le a b = true) → as = bs
  | [], bs, p, _, _ => (List.nil_perm.mp p).symm
  | a :: as, [], p, _, _ => absurd p.symm (by simp)
  | a :: as, b :: bs, p, ha, hb => by
    have h1 := List.pairwise_cons.mp ha
    have h2 := List.pairwise_cons.mp hb
    have e : a = b := by
      rcases List.mem_cons.mp (p.mem_iff.mp List.mem_cons_self) with e | m
      · exact e
      · rcases List.mem_cons.mp (p.symm.mem_iff.mp (List.mem_cons_self (a := b) (l := bs))) with e | m2
        · exact e.symm
        · exact L.anti _ _ (h1.1 b m2) (h2.1 a m)
    subst e
    rw [srt_one L (List.Perm.cons_inv p) h1.2 h2.2]
theorem srtB_of {α : Type} {le : α → α → Bool} (L : Lin le) {as bs : List α} (p : as.Perm bs) (h : as.Pairwise (fun a b => le a b = true)) : as = srtB le bs := srt_one L (p.trans (srtB_perm le bs).symm) h (srtB_pw L bs)
def leI (x y : Int) : Bool := decide (x ≤ y)
theorem linI : Lin leI := ⟨fun x y => by unfold leI; rcases Int.le_total x y with h | h <;> simp [h], fun x y z h1 h2 => by unfold leI at *; simp at *; omega, fun x y h1 h2 => by unfold leI at *; simp at *; omega⟩
abbrev srtI (xs : List Int) : List Int := srtB leI xs
/-- texts by their codes -/
def ltT : Txt → Txt → Bool
  | _, [] => false
  | [], _ :: _ => true
  | a :: as, b :: bs => if a < b then true else if b < a then false else ltT as bs
theorem ltT_lt : ∀ (as bs : Txt), ltT as bs = decide (as < bs)
  | as, [] => by cases as <;> simp [ltT]
  | [], b :: bs => by simp [ltT]
  | a :: as, b :: bs => by
    unfold ltT
    rw [ltT_lt as bs]
    by_cases h1 : a < b
    · simp [h1, List.cons_lt_cons_iff]
    · by_cases h2 : b < a
      · have : a ≠ b := by omega
        simp [h1, h2, this, List.cons_lt_cons_iff]
      · have : a = b := by omega
        subst this
        simp [List.cons_lt_cons_iff]
def leT (x y : Tx) : Bool := !ltT y.l x.l
theorem ltT_asym : ∀ {a b : Txt}, ltT a b = true → ltT b a = false
  | a, [], h => by cases a <;> simp [ltT] at h
  | [], b :: bs, _ => by simp [ltT]
  | a :: as, b :: bs, h => by
    unfold ltT at h ⊢
    by_cases h1 : a < b
    · have : ¬ b < a := by omega
      simp [h1, this]
    · by_cases h2 : b < a
      · simp [h1, h2] at h
      · simp [h1, h2] at h ⊢
        exact ltT_asym h
theorem ltT_conn : ∀ {a b : Txt}, ltT a b = false → ltT b a = false → a = b
  | [], [], _, _ => rfl
  | a :: as, [], _, h => by simp [ltT] at h
  | [], b :: bs, h, _ => by simp [ltT] at h
  | a :: as, b :: bs, h, k => by
    unfold ltT at h k
    by_cases h1 : a < b
    · simp [h1] at h
    · by_cases h2 : b < a
      · simp [h2] at k
      · have e : a = b := by omega
        subst e
        simp at h k
        rw [ltT_conn h k]
theorem ltT_trans : ∀ {a b c : Txt}, ltT a b = true → ltT b c = true → ltT a c = true
  | a, b, [], _, h => by cases b <;> simp [ltT] at h
  | a, [], c :: cs, h, _ => by cases a <;> simp [ltT] at h
  | [], b :: bs, c :: cs, _, _ => by simp [ltT]
  | a :: as, b :: bs, c :: cs, h, k => by
    unfold ltT at h k ⊢
    by_cases h1 : a < b
    · by_cases h2 : b < c
      · have : a < c := by omega
        simp [this]
      · by_cases h3 : c < b
        · simp [h2, h3] at k
        · have : b = c := by omega
          subst this
          simp [h1]
    · by_cases h4 : b < a
      · simp [h1, h4] at h
      · have e : a = b := by omega
        subst e
        simp at h
        by_cases h2 : a < c
        · simp [h2]
        · by_cases h3 : c < a
          · simp [h2, h3] at k
          · simp [h2, h3] at k ⊢
            exact ltT_trans h k
theorem ltT_negtrans {a b c : Txt} (h : ltT b a = false) (k : ltT c b = false) : ltT c a = false := by
  cases h1 : ltT c a with
  | false => rfl
  | true =>
    cases h2 : ltT a b with
    | true => rw [ltT_trans h1 h2] at k; cases k
    | false =>
      have := ltT_conn h h2
      subst this
      rw [h1] at k
      cases k
theorem linT : Lin leT := ⟨fun x y => by
    unfold leT
    cases h : ltT y.l x.l with
    | false => exact .inl rfl
    | true => exact .inr (by rw [ltT_asym h]; rfl), fun x y z h1 h2 => by
    unfold leT at *
    simp at *
    exact ltT_negtrans h1 h2, fun x y h1 h2 => by
    unfold leT at *
    simp at *
    cases x; cases y
    simp at *
    exact ltT_conn h2 h1⟩
abbrev srtT (xs : List Tx) : List Tx := srtB leT xs

/-! the distinct ones -/
def addD (acc : List Int) (x : Int) : List Int := if x ∈ acc then acc else acc ++ [x]
def dd (xs : List Int) : List Int := xs.foldl addD []
theorem dd_snoc (xs : List Int) (x : Int) : dd (xs ++ [x]) = addD (dd xs) x := by unfold dd; rw [List.foldl_append]; rfl
theorem mem_addD {acc : List Int} {x y : Int} : y ∈ addD acc x ↔ y ∈ acc ∨ y = x := by
  unfold addD
  split
  · exact ⟨.inl, fun h => h.elim id fun e => by rw [e]; assumption⟩
  · simp
theorem foldD {xs acc : List Int} (hn : acc.Nodup) : (xs.foldl addD acc).Nodup ∧ (∀ y, y ∈ xs.foldl addD acc ↔ y ∈ acc ∨ y ∈ xs) ∧ (xs.foldl addD acc).length ≤ acc.length + xs.length := by
  induction xs generalizing acc with
  | nil => exact ⟨hn, fun y => by simp, by simp⟩
  | cons x xs ih =>
    have nd : (addD acc x).Nodup := by
      unfold addD
      split
      · exact hn
      · rename_i h
        exact List.nodup_append.mpr ⟨hn, by simp, fun a ha b hb => by rw [List.mem_singleton.mp hb]; exact fun e => h (e ▸ ha)⟩
    obtain ⟨h1, h2, h3⟩ := ih nd
    refine ⟨h1, fun y => ?_, ?_⟩
    · show y ∈ xs.foldl addD (addD acc x) ↔ _
      rw [h2 y, mem_addD, List.mem_cons]
      exact or_assoc
    · show (xs.foldl addD (addD acc x)).length ≤ _
      have : (addD acc x).length ≤ acc.length + 1 := by unfold addD; split <;> simp
      rw [List.length_cons]
      omega
theorem mem_dd {xs : List Int} {y : Int} : y ∈ dd xs ↔ y ∈ xs := by
  have := (foldD (xs := xs) (acc := []) List.nodup_nil).2.1 y
  unfold dd
  simpa using this
theorem dd_nodup (xs : List Int) : (dd xs).Nodup := (foldD (xs := xs) (acc := []) List.nodup_nil).1
theorem dd_len (xs : List Int) : (dd xs).length ≤ xs.length := by
  have := (foldD (xs := xs) (acc := []) List.nodup_nil).2.2
  unfold dd
  simpa using this
theorem perm_of_mem : ∀ {as bs : List Int}, as.Nodup → bs.Nodup → (∀ x, x ∈ as ↔ x ∈ bs) → as.Perm bs
  | [], bs, _, _, h => by
    cases bs with
    | nil => exact List.Perm.refl _
    | cons b bs => exact absurd ((h b).mpr List.mem_cons_self) (by simp)
  | a :: as, bs, ha, hb, h => by
    obtain ⟨l1, l2, e⟩ := List.append_of_mem ((h a).mp List.mem_cons_self)
    subst e
    have ha' := List.nodup_cons.mp ha
    have pm : (l1 ++ a :: l2).Perm (a :: (l1 ++ l2)) := List.perm_middle
    have hb' := List.nodup_cons.mp (pm.nodup_iff.mp hb)
    refine List.Perm.trans (List.Perm.cons a (perm_of_mem ha'.2 hb'.2 fun x => ?_)) pm.symm
    constructor
    · intro hx
      have : x ∈ a :: (l1 ++ l2) := pm.mem_iff.mp ((h x).mp (List.mem_cons_of_mem _ hx))
      rcases List.mem_cons.mp this with e | m
      · subst e; exact absurd hx ha'.1
      · exact m
    · intro hx
      have : x ∈ a :: as := (h x).mpr (pm.mem_iff.mpr (List.mem_cons_of_mem _ hx))
      rcases List.mem_cons.mp this with e | m
      · subst e; exact absurd hx hb'.1
      · exact m
/-- sorted(a set of these) -/
def srtD (xs : List Int) : M (List Int) := if xs.length < 64 then .ok (srtI (dd xs)) else stk

/-! results of more kinds -/
def unL {α β : Type} : α ⊕ β → M α
  | .inl a => .ok a
  | .inr _ => stk
def unR {α β : Type} : α ⊕ β → M β
  | .inr a => .ok a
  | .inl _ => stk
section
variable {X : Cx} {W : WX} {Γ Γ' : Ctx} {e a b c : Expr} {pos p p2 : Pos} {N : List Str} {sc : Scope} {fb : Str → Bool} {n : Str}
theorem ev_unopt {α : Type} [Den α] {m : M (Option α)} (h : EV X W Γ e m) : EV X W Γ e (m >>= optM) := .mk fun H0 Ox σ H en Q q => h.bind en q fun x v H2 _ z _ hv g => by
  cases x with
  | none => exact g.elim
  | some y => exact g v H2 z hv.2
theorem ev_unl {α β : Type} [Den α] [Den β] {m : M (α ⊕ β)} (h : EV X W Γ e m) : EV X W Γ e (m >>= unL) := .mk fun H0 Ox σ H en Q q => h.bind en q fun x v H2 _ z _ hv g => by
  cases x with
  | inr _ => exact g.elim
  | inl y => exact g v H2 z hv
theorem ev_unr {α β : Type} [Den α] [Den β] {m : M (α ⊕ β)} (h : EV X W Γ e m) : EV X W Γ e (m >>= unR) := .mk fun H0 Ox σ H en Q q => h.bind en q fun x v H2 _ z _ hv g => by
  cases x with
  | inl _ => exact g.elim
  | inr y => exact g v H2 z hv
/-! a < b < c -/
theorem ev_chain {α β γ : Type} [Den α] [Den β] [Den γ] {op op' : CmpOp} {r r' : R2} {ma : M α} {mb : M β} {mc : M γ} (f : α → β → Bool) (f' : β → γ → Bool) (ho : OpR X (compareOp op) r) (ho' : OpR X (compareOp op') r')
    (hf : ∀ O H x y v u Q, den X.K (hide O H) v x → den X.K (hide O H) u y → Q (.bl (f x y)) H → r v u H Q) (hf' : ∀ O H x y v u Q, den X.K (hide O H) v x → den X.K (hide O H) u y → Q (.bl (f' x y)) H → r' v u H Q)
    (ha : EV X W Γ a ma) (hb : EV X W Γ b mb) (hc : EV X W Γ c mc) (hm : lastMarks [op, op'] [b, c] = false := by with_unfolding_all rfl) :
    EV X W Γ (.Compare a [op, op'] [b, c] pos) (ma >>= fun x => mb >>= fun y => if f x y = true then mc >>= fun z => .ok (f' y z) else .ok false) := .mk fun H0 Ox σ H en Q q =>
  PEw (pe_chain ho ho' pe_w pe_w pe_w hm) (ha.bind en q fun x v H2 _ z2 en2 hv q2 => hb.bind en2 q2 fun y u H3 _ z3 en3 hu q3 => by
    refine hf _ H3 x y v u _ (Den.mono (hide_ex z3) hv) hu ⟨f x y, rfl, ?_⟩
    cases hb2 : f x y with
    | false =>
      rw [hb2, if_neg Bool.false_ne_true] at q3
      rw [if_neg Bool.false_ne_true]
      exact q3 _ H3 (z2.trans z3) ⟨rfl, trivial⟩
    | true =>
      rw [hb2, if_pos rfl] at q3
      rw [if_pos rfl]
      exact hc.bind en3 q3 fun z w H4 _ z4 en4 hw q4 => hf' _ H4 y z u w _ (Den.mono (hide_ex z4) hu) hw (q4 _ H4 ((z2.trans z3).trans z4) ⟨rfl, trivial⟩))
theorem et_chain {α β γ : Type} [Den α] [Den β] [Den γ] {op op' : CmpOp} {r r' : R2} {ma : M α} {mb : M β} {mc : M γ} (f : α → β → Bool) (f' : β → γ → Bool) (ho : OpR X (compareOp op) r) (ho' : OpR X (compareOp op') r')
    (hf : ∀ O H x y v u Q, den X.K (hide O H) v x → den X.K (hide O H) u y → Q (.bl (f x y)) H → r v u H Q) (hf' : ∀ O H x y v u Q, den X.K (hide O H) v x → den X.K (hide O H) u y → Q (.bl (f' x y)) H → r' v u H Q)
    (ha : EV X W Γ a ma) (hb : EV X W Γ b mb) (hc : EV X W Γ c mc) (hm : lastMarks [op, op'] [b, c] = false := by with_unfolding_all rfl) :
    ET X W Γ (.Compare a [op, op'] [b, c] pos) (ma >>= fun x => mb >>= fun y => if f x y = true then mc >>= fun z => .ok (f' y z) else .ok false) := .mk fun H0 Ox σ H en Q q =>
  PTw' (pt_chain ho ho' pe_w pe_w pe_w hm) (ha.bind en q fun x v H2 _ z2 en2 hv q2 => hb.bind en2 q2 fun y u H3 _ z3 en3 hu q3 => by
    refine hf _ H3 x y v u _ (Den.mono (hide_ex z3) hv) hu ⟨f x y, rfl, ?_⟩
    cases hb2 : f x y with
    | false =>
      rw [hb2, if_neg Bool.false_ne_true] at q3
      rw [if_neg Bool.false_ne_true]
      exact ⟨_, rfl, q3 H3 (z2.trans z3)⟩
    | true =>
      rw [hb2, if_pos rfl] at q3
      rw [if_pos rfl]
      exact hc.bind en3 q3 fun z w H4 _ z4 en4 hw q4 => hf' _ H4 y z u w _ (Den.mono (hide_ex z4) hu) hw ⟨_, rfl, q4 H4 ((z2.trans z3).trans z4)⟩)
abbrev lI (x y : Int) : Bool := decide (x < y)
abbrev eI (x y : Int) : Bool := decide (x ≤ y)
theorem f_lt : ∀ (O : List Addr) (H : Hp) (x y : Int) (v u : V) (Q : VK), den X.K (hide O H) v x → den X.K (hide O H) u y → Q (.bl (lI x y)) H → rI0 (fun i j => .bl (decide (i < j))) v u H Q := fun O H x y v u Q hv hu q => ⟨x, y, hv.1, hu.1, q⟩
theorem f_le : ∀ (O : List Addr) (H : Hp) (x y : Int) (v u : V) (Q : VK), den X.K (hide O H) v x → den X.K (hide O H) u y → Q (.bl (eI x y)) H → rI0 (fun i j => .bl (decide (i ≤ j))) v u H Q := fun O H x y v u Q hv hu q => ⟨x, y, hv.1, hu.1, q⟩
/-! sorted -/
theorem ints_of {K : Fg} {H : Hp} {vs : List V} {xs : List Int} (h : All2 (den K H) vs xs) : vs = xs.map V.int := flats_of h
theorem ints_den {K : Fg} {H : Hp} : ∀ xs : List Int, All2 (den K H) (xs.map V.int) xs
  | [] => .nil
  | x :: xs => .cons ⟨rfl, trivial⟩ (ints_den xs)
theorem en_b1 {α γ : Type} [Den α] [Den γ] [Ob γ] (C : Ct0 X N sc fb W) {id : String} {r : List V → Hp → VK → Prop} {ma : M α} (f : α → M γ) (hc : CallR X (.builtin id) r)
    (hf : ∀ O H σ x v Q, (∀ p ∈ O, H p ≠ none) → den X.K (hide O H) v x → PoN X.K X.mg O H (fun c d H2 => W c d σ H2) Q (f x) → r [v] H Q) (ha : EV X W Γ a ma)
    (hg : gloB sc n = true) (hm : X.mg n = none) (hv : bootBuiltins n = some (.builtin id)) (hn : n ≠ "__name__" := by decide) (hdb : (n == ("__debug__" : Str)) = false := by decide) (pl : Pl a := by intro _ _; rfl) :
    EN X W Γ (.Call (.Name n p) [a] [] pos) (ma >>= f) := .mk fun H0 Ox σ H en Q q =>
  PEw (pe_callB hc (gl_of C hg) hm hv (pa_cons pe_w pa_nil (pl _ _)) hn hdb (pl _ _) (PlL.nil _ _)) (ha.bind en q fun x v H2 _ z en2 hv g => hf _ H2 σ x v Q en2.own hv (PoX.imp (β := γ) (Ex.refl H2) (fun _ _ g w o H3 z3 hn => g w o H3 (z.trans z3) (z.free hn)) g))
theorem en_sortI (C : Ct X N sc fb W) {ma : M (List Int)} (ha : EV X W Γ a ma) (hg : gloB sc "sorted" = true) (hm : X.mg "sorted" = none) (pl : Pl a := by intro _ _; rfl) :
    EN X W Γ (.Call (.Name "sorted" p) [a] [] pos) (ma >>= fun xs => if xs.length < 64 then .ok (srtI xs) else stk) :=
  en_b1 C.toCt0 (fun xs : List Int => (if xs.length < 64 then .ok (srtI xs) else stk : M (List Int))) cr_sorted (fun O H σ x v Q own hv q => by
    obtain ⟨pp, vs, ev, h1, h2, h3⟩ := hv
    have e := ints_of h2
    subst e
    split at q
    · rename_i h64
      refine ⟨pp, x, by rw [ev], ex_l hide_le h1, h64, fun ns' p pm pw hp => ?_⟩
      have e2 : ns' = srtI x := srtB_of linI pm (pw.imp fun h => decide_eq_true h)
      subst e2
      exact q p _ _ (Ex.new hp) hp upd_same ⟨_, rfl, ints_den _, by rw [(srtB_perm leI x).length_eq]; exact h3⟩
    · exact q.elim) ha hg hm (by decide +kernel) (by decide) (by decide) pl
end
theorem txs_den {K : Fg} {H : Hp} : ∀ xs : List Tx, (∀ x ∈ xs, okT x) → All2 (den K H) (xs.map fun x => V.str (sT x)) xs
  | [], _ => .nil
  | x :: xs, h => .cons ⟨rfl, h x List.mem_cons_self⟩ (txs_den xs fun y hy => h y (List.mem_cons_of_mem _ hy))
theorem ltCps_eq : ∀ as bs : Txt, PySem.Spec.ltCps as bs = ltT as bs
  | as, [] => by cases as <;> simp [ltT, PySem.Spec.ltCps]
  | [], b :: bs => by simp [ltT, PySem.Spec.ltCps]
  | a :: as, b :: bs => by
    unfold ltT PySem.Spec.ltCps
    rw [ltCps_eq as bs]
    by_cases h1 : a < b <;> by_cases h2 : b < a <;> by_cases h3 : a = b <;> simp [h1, h2, h3] <;> omega
theorem rising_pw : ∀ (l : List Tx) (y : Tx), PyProof.Rows.risingS (sT y) (l.map sT) = true → (∀ z ∈ l, leT y z = true) ∧ l.Pairwise (fun x y => leT x y = true)
  | [], y, _ => ⟨fun z hz => absurd hz (by simp), List.Pairwise.nil⟩
  | x :: l, y, h => by
    have h : (!PySem.Spec.ltCps x.l y.l && PyProof.Rows.risingS (sT x) (l.map sT)) = true := h
    rw [Bool.and_eq_true, ltCps_eq] at h
    obtain ⟨i1, i2⟩ := rising_pw l x h.2
    have hy : leT y x = true := h.1
    refine ⟨fun z hz => ?_, List.pairwise_cons.mpr ⟨i1, i2⟩⟩
    rcases List.mem_cons.mp hz with rfl | hz
    · exact hy
    · exact linT.trans _ _ _ hy (i1 z hz)
theorem sortedS_pw {l : List Tx} (h : PyProof.Rows.sortedS (l.map sT) = true) : l.Pairwise (fun x y => leT x y = true) := by
  cases l with
  | nil => exact List.Pairwise.nil
  | cons x l => exact List.pairwise_cons.mpr (rising_pw l x h)
section
variable {X : Cx} {W : WX} {Γ Γ' : Ctx} {e a b c : Expr} {pos p p2 : Pos} {N : List Str} {sc : Scope} {fb : Str → Bool} {n : Str}
theorem en_sortT (C : Ct X N sc fb W) {ma : M (List Tx)} (ha : EV X W Γ a ma) (hg : gloB sc "sorted" = true) (hm : X.mg "sorted" = none) (pl : Pl a := by intro _ _; rfl) :
    EN X W Γ (.Call (.Name "sorted" p) [a] [] pos) (ma >>= fun xs => if xs.length < 64 then .ok (srtT xs) else stk) :=
  en_b1 C.toCt0 (fun xs : List Tx => (if xs.length < 64 then .ok (srtT xs) else stk : M (List Tx))) cr_sortedS (fun O H σ x v Q own hv q => by
    obtain ⟨pp, vs, ev, h1, h2, h3⟩ := hv
    obtain ⟨e, ok⟩ := txs_of h2
    subst e
    split at q
    · rename_i h64
      refine ⟨pp, x.map sT, by rw [ev], ex_l hide_le h1, by rw [List.length_map]; exact h64, fun ys p pm pw hp => ?_⟩
      have e3 : ys = (ys.map tT).map sT := by rw [List.map_map]; exact (List.map_id ys).symm
      rw [e3] at pw
      have pm2 : (ys.map tT).Perm x := by
        have := pm.map tT
        rw [List.map_map] at this
        have e4 : x.map (tT ∘ sT) = x := List.map_id x
        rw [e4] at this
        exact this
      have e2 : ys.map tT = srtT x := srtB_of linT pm2 (sortedS_pw pw)
      rw [e3, e2]
      refine q p _ _ (Ex.new hp) hp upd_same ⟨_, rfl, ?_, by rw [(srtB_perm leT x).length_eq]; exact h3⟩
      have e5 : ((srtT x).map sT).map V.str = (srtT x).map fun x => V.str (sT x) := by rw [List.map_map]; rfl
      rw [e5]
      exact txs_den _ fun z hz => ok z ((srtB_perm leT x).mem_iff.mp hz)
    · exact q.elim) ha hg hm (by decide +kernel) (by decide) (by decide) pl

/-! list + list, list * int -/
theorem list_obj {pins : List (Addr × Obj)} {σ : L2.St} {H : Hp} {s : Shared} (I : Inv X pins σ H s) {a : Addr} {xs : List V} (h : SqL X.K H a xs) :
    ∃ (its : List Value) (n : Nat) (sl : Array (Option Value)), Vals xs its ∧ xs.length = its.length ∧ s.heap.get? a = some { cls := .type "list", dict := none, data := .seq its.toArray n, slots := sl } := by
  obtain ⟨its, r, ⟨o, n, e, hc, hd, hs⟩, _⟩ := I.list h
  obtain ⟨c, d, dt, sl⟩ := o
  have hc : c = .type "list" := hc
  have hd : d = none := hd
  have hs : dt = .seq its.toArray n := hs
  subst hc hd hs
  exact ⟨its, n, sl, r, r.length, e⟩
theorem list_add_any (l : Addr) (items : Array Value) (n : Nat) (sl : Array (Option Value)) (b : Addr) (items2 : Array Value) (n2 : Nat) (sl2 : Array (Option Value)) (hc0 : items.size + items2.size ≤ sizeLine) :
    Meets (Builtin.«list.__add__» ⟨[.ref l, .ref b], []⟩) (fun _ R s => s.heap.get? l = some { cls := .type "list", dict := none, data := .seq items n, slots := sl } ∧ s.heap.get? b = some { cls := .type "list", dict := none, data := .seq items2 n2, slots := sl2 } ∧
      R (.ok (.ret (Value.ref s.heap.objs.size))) { s with heap := s.heap.push { cls := Value.type "list", data := Data.seq (items ++ items2) }, toks := s.toks }) :=
  .of_wp fun prog w A R s h => by
    obtain ⟨hp, g, d, tk, os⟩ := s; obtain ⟨hl, hb, h⟩ := h; have f1 := AutoSeq1.idx_int; have f2 := AutoSeq1.sub_tuple_tuple; have f3 := AutoSeq1.sub_list_list; have f4 := AutoSeq1.sub_tuple_list
    have f5 := AutoSeq1.sub_list_tuple; wp_walk using AutoSeq1.wpAny_loadPart' hl, AutoSeq1.wpAny_loadPart' hb
    exact ⟨_, rfl, h⟩
theorem op_catX : OpR X (binaryOp .Add) (fun x y H Q => ∃ l b xs zs, x = .ref l ∧ y = .ref b ∧ SqL X.K H l xs ∧ SqL X.K H b zs ∧ xs.length + zs.length ≤ sizeLine ∧ ∀ p, H p = none → Q (.ref p) (upd H p (.lst (xs ++ zs)))) := by
  intro pins s σ H x y v u Q I rx ry h
  obtain ⟨l, b, xs, zs, rfl, rfl, hH, hB, hz, q⟩ := h
  cases rx
  cases ry
  obtain ⟨its, n, sl, r, hl, e⟩ := list_obj I hH
  obtain ⟨its2, n2, sl2, r2, hl2, e2⟩ := list_obj I hB
  refine PySem.concat_meets ⟨_, e, rfl⟩ ⟨_, e2, rfl⟩ PySem.noFill_list_add PySem.seq_list_add F.slot_list_add F.entry_list_add (F.args_list_add_2 _ _) (list_add_any l _ n sl b _ n2 sl2 (by rw [List.size_toArray, List.size_toArray]; omega)) ⟨e, e2, ?_⟩
  have ea : its.toArray ++ its2.toArray = (its ++ its2).toArray := by simp
  rw [ea]
  exact ⟨.ref _, _, I.lnew (t' := s.toks) (r.append r2) (by rw [List.length_append]; omega), rfl, q _ I.fresh⟩
end
end P3

set_option Elab.async false
set_option linter.all false
set_option maxRecDepth 100000
set_option maxHeartbeats 4000000
namespace P3
open PySem PySem.Spec PyProof.Rows L2
open Den (den)
open Ob (ob)

theorem compM_noexc {α β : Type} {cf : α → M Bool} {f : α → M β} {w : Exn} : ∀ xs : List α, compM cf f xs ≠ .error (.exc w)
  | [], h => by cases h
  | x :: xs, h => by
    unfold compM at h
    cases h1 : noX (cf x) with
    | error er => rw [h1] at h; have h2 : er = .exc w := by injection h
                  subst h2; unfold noX at h1; split at h1 <;> simp_all
    | ok b =>
      rw [h1] at h
      cases b with
      | false => exact compM_noexc xs h
      | true =>
        have h : (noX (f x) >>= fun y => compM cf f xs >>= fun ys => .ok (y :: ys)) = .error (.exc w) := h
        cases h3 : noX (f x) with
        | error er => rw [h3] at h; have h2 : er = .exc w := by injection h
                      subst h2; unfold noX at h3; split at h3 <;> simp_all
        | ok y =>
          rw [h3] at h
          have h : (compM cf f xs >>= fun ys => (.ok (y :: ys) : M (List β))) = .error (.exc w) := h
          cases h4 : compM cf f xs with
          | error er => rw [h4] at h; have h2 : er = .exc w := by injection h
                        subst h2; exact compM_noexc xs h4
          | ok ys => rw [h4] at h; cases h
/-- the set of these ints -/
def setOf (w : World) (q : Addr) (ys : List Int) : HO := SetO w q (fun k => decide (k ∈ ys)) (dd ys).length
theorem setOf_snoc (w : World) (q : Addr) (ys : List Int) (y : Int) : SetO w q (fun j => decide (j ∈ ys) || decide (j = y)) (if decide (y ∈ ys) = true then (dd ys).length else (dd ys).length + 1) = setOf w q (ys ++ [y]) := by
  unfold setOf
  have e1 : (fun j => decide (j ∈ ys) || decide (j = y)) = fun k => decide (k ∈ ys ++ [y]) := by
    funext j
    by_cases h1 : j ∈ ys <;> by_cases h2 : j = y <;> simp [h1, h2]
  have e2 : (if decide (y ∈ ys) = true then (dd ys).length else (dd ys).length + 1) = (dd (ys ++ [y])).length := by
    rw [dd_snoc]
    unfold addD
    by_cases h : y ∈ ys
    · have h2 : y ∈ dd ys := mem_dd.mpr h
      rw [if_pos h2, if_pos (decide_eq_true h)]
    · have h2 : y ∉ dd ys := fun z => h (mem_dd.mp z)
      rw [if_neg h2, if_neg (by simp [h]), List.length_append]
      rfl
  rw [e1, e2]
structure ES (X : Cx) (W : WX) (Γ : Ctx) (e : Expr) (m : M (List Int)) : Prop where
  run : ∀ H0 Ox σ H, Env X.K H0 Ox Γ σ H → ∀ Q : VK, PoX X.mg H (fun c d H2 => W c d σ H2) (fun ys => ∀ q H2, Ex H H2 → H q = none → H2 q = some (setOf X.w q ys) → Q (.ref q) H2) m → we X e σ H Q
instance {X : Cx} {W : WX} {Γ : Ctx} {e : Expr} {m : M (List Int)} : CoeFun (ES X W Γ e m) (fun _ => ∀ H0 Ox σ H, Env X.K H0 Ox Γ σ H → ∀ Q : VK, PoX X.mg H (fun c d H2 => W c d σ H2) (fun ys => ∀ q H2, Ex H H2 → H q = none → H2 q = some (setOf X.w q ys) → Q (.ref q) H2) m → we X e σ H Q) := ⟨ES.run⟩
section
variable {X : Cx} {W : WX} {Γ Γ' : Ctx} {e a b c : Expr} {pos p p2 : Pos} {N : List Str} {sc : Scope} {fb : Str → Bool} {n : Str}
def fewM {α : Type} (xs : List α) : M (List α) := if xs.length < 4095 then .ok xs else stk
/-- the reading of a set comprehension of ints -/
theorem si_reads {α : Type} [Den α] {mx : M (List α)} {cf : α → M Bool} {f : α → M Int} {wi : TI} {g : TG} {tt : TT} {te : TE} {ts vs : List Nat} {Γt : α → Ctx}
    (hi : ∀ H0 Ox σ H, Env X.K H0 Ox Γ σ H → ∀ R : It → Hp → Prop, PoX X.mg H (fun c d H2 => W c d σ H2) (fun xs => ∀ J H2, Ex H H2 → xs.length ≤ sizeLine → WalkOk X.K J (hide (Ox ++ owns Γ σ) H2) xs → R J H2) mx → wi σ H R)
    (hG : GOk X.K g ts (dropOw (wipeC Γ vs)) Γt) (hts : ∀ i ∈ ts, i ∈ vs)
    (hc : ∀ x H0 Ox σ H, Env X.K H0 Ox (Γt x) σ H → ∀ Q : Bool → Hp → Prop, PoX X.mg H (fun _ _ _ => False) (fun b => ∀ H2, Ex H H2 → Q b H2) (cf x) → tt σ H Q)
    (he : ∀ x H0 Ox σ H, Env X.K H0 Ox (Γt x) σ H → ∀ Q : VK, PoE X.K X.mg (Ox ++ owns (Γt x) σ) H (fun _ _ _ => False) Q (f x) → te σ H Q)
    {H0 : Hp} {Ox : List Addr} {σ : L2.St} {H : Hp} (en : Env X.K H0 Ox Γ σ H) {Q : VK} (q : PoX X.mg H (fun c d H2 => W c d σ H2) (fun ys => ∀ q H2, Ex H H2 → H q = none → H2 q = some (setOf X.w q ys) → Q (.ref q) H2) (mx >>= fun xs => fewM xs >>= compM cf f)) : tSi X.w wi g tt te vs σ H Q := by
  refine hi H0 Ox σ H en _ ?_
  cases mx with
  | error er => cases er with
    | stuck => exact q
    | exc w => exact q
  | ok xs =>
    intro J H2 z hlen hw D hD
    have q : PoX X.mg H (fun c d H2 => W c d σ H2) (fun ys => ∀ q H2, Ex H H2 → H q = none → H2 q = some (setOf X.w q ys) → Q (.ref q) H2) (fewM xs >>= compM cf f) := q
    unfold fewM at q
    split at q
    rotate_left
    · exact q.elim
    rename_i few
    have q : PoX X.mg H (fun c d H2 => W c d σ H2) (fun ys => ∀ q H2, Ex H H2 → H q = none → H2 q = some (setOf X.w q ys) → Q (.ref q) H2) (compM cf f xs) := q
    cases hz : compM cf f xs with
    | error er => cases er with
      | stuck => rw [hz] at q; exact q.elim
      | exc w => exact (compM_noexc xs hz).elim
    | ok zs =>
      rw [hz] at q
      have en2 := en.mono z
      have G := fun i (hi : i ≤ xs.length) => grow_of (c := cf) (f := f) .nil hz i hi
      generalize hO : Ox ++ owns Γ σ = O at *
      have own2 : ∀ p ∈ O, H2 p ≠ none := fun p hp => en2.own p (by rw [hO]; exact hp)
      let P : Nat → Hp → Prop := fun i H' => Ex H2 H' ∧ Ex (hide O H2) (hide (D :: O) H') ∧ ∃ ys, H' D = some (setOf X.w D ys) ∧ Grow cf f (xs.take i) ys ∧ ys.length ≤ i
      refine ⟨fun i m H' => m = xs.length - i ∧ i ≤ xs.length ∧ P i H', ⟨xs.length, by simp, Nat.zero_le _, Ex.new hD, hide_new (Ex.new hD) hD, [], ?_, by simpa using Grow.nil, Nat.le_refl _⟩, ?_⟩
      · rw [upd_same]
        have e : (fun _ : Int => false) = fun k => decide (k ∈ ([] : List Int)) := by funext k; simp
        unfold setOf
        rw [e]
        rfl
      rintro i m H' ⟨rfl, hile, e1, e2, ys, hus, gr, yl⟩
      have nD : H' D ≠ none := by rw [hus]; exact fun w => nomatch w
      have hGH : Ex (hide O H2) H' := e2.trans hide_le
      by_cases hlt : i < xs.length
      · refine .inr ?_
        have hx : xs[i]? = some xs[i] := List.getElem?_eq_getElem hlt
        obtain ⟨go, yl2⟩ := (hw i H' hGH).1 _ hx
        refine ⟨go, P (i + 1), fun H3 p3 => ⟨xs.length - (i + 1), by omega, rfl, hlt, p3⟩, fun v H3 hy => ?_⟩
        obtain ⟨z3, dv⟩ := yl2 v H3 hy
        have dv := dv (D :: O) (fun p hp => (List.mem_cons.mp hp).elim (fun w => by rw [w]; exact nD) fun w => ex_ne e1 (own2 p w)) e2
        have nD3 : H3 D ≠ none := ex_ne z3 nD
        have enB : Env X.K H2 (D :: O) (dropOw (wipeC Γ vs)) (wipe σ vs) H3 := by
          have := en2.block hD (e1.trans z3) nD3 vs
          rw [hO] at this
          exact this
        have dv' : den X.K (hide ((D :: O) ++ owns (dropOw (wipeC Γ vs)) (wipe σ vs)) H3) v xs[i] := by
          rw [dropOw_owns, List.append_nil]
          exact dv
        refine hG H2 (D :: O) (wipe σ vs) H3 v xs[i] enB dv' _ fun σ2 en3 w2 s2 => ⟨by rw [w2 vs hts]; exact wipe_wipe, ?_⟩
        obtain ⟨ws, g2, _, nn, _⟩ := G i hile
        have hus3 := z3 D _ hus
        have nx := nn _ hx
        refine hc xs[i] H2 (D :: O) σ2 H3 en3 _ ?_
        rcases nx with cF | ⟨cT, y, fy⟩
        · rw [cF]
          intro H4 z4
          rw [if_neg Bool.false_ne_true]
          refine ⟨(e1.trans z3).trans z4, e2.trans (hide_ex (z3.trans z4)), ys, z4 D _ hus3, ?_, by omega⟩
          rw [List.take_add_one, hx]
          exact Grow.no gr cF
        · rw [cT]
          intro H4 z4
          rw [if_pos rfl]
          refine he xs[i] H2 (D :: O) σ2 H4 (en3.mono z4) _ ?_
          rw [fy]
          intro u H5 z5 du
          have hus5 := z5 D _ (z4 D _ hus3)
          refine ⟨y, _, _, du.1, hus5, ?_, ?_, ?_, ys ++ [y], ?_, ?_, by rw [List.length_append]; show ys.length + 1 ≤ i + 1; omega⟩
          · have := dd_len ys
            show _ < 4096
            omega
          · intro a o ha
            rw [upd_ne fun w => by rw [w, hD] at ha; cases ha]
            exact z5 a o (z4 a o (z3 a o (e1 a o ha)))
          · rw [hide_upd List.mem_cons_self]
            exact e2.trans (hide_ex ((z3.trans z4).trans z5))
          · rw [upd_same, ← setOf_snoc]
          · rw [List.take_add_one, hx]
            exact Grow.yes gr cT fy
      · have hi : i = xs.length := by omega
        refine .inl ⟨(hw i H' hGH).2 hi, ?_⟩
        obtain ⟨ws, g2, l2, _, e3⟩ := G i hile
        have eqy : ys = zs := by
          have hz2 := e3 hi
          subst hz2
          exact grow_one gr (by simpa using g2)
        subst eqy
        exact q D H' (z.trans e1) (z.free hD) hus
/-- {elt for tg in iter} -/
theorem es_sc {α : Type} [Den α] (C : Ct X N sc fb W) {tg iter elt : Expr} {scope : Scope} (own : List (Str × Nat)) {mx : M (List α)} {f : α → M Int} {g : TG} {ts : List Nat} {Γt : α → Ctx}
    (hi : IT X W Γ tg iter mx) (hb : blkC N sc scope own = true) (hG : GOk X.K g ts (dropOw (wipeC Γ (own.map (·.2)))) Γt) (hts : ∀ i ∈ ts, i ∈ own.map (·.2))
    (hg : ∀ s H D cl fp, PG (X.blk s H scope (compEnvC scope cl D X.env) fp) tg g)
    (he : ∀ x s H D cl fp, EV (X.blk s H scope (compEnvC scope cl D X.env) fp) W0 (Γt x) elt (f x))
    (hs : ∀ x, foldedSetIterable iter X.env x = pure x := by intro _; rfl) : ES X W Γ (.SetComp elt [⟨tg, iter, [], 0⟩] scope pos) (mx >>= fun xs => fewM xs >>= mapM' f) := by
  obtain ⟨wi, pi, ri⟩ := hi
  refine .mk fun H0 Ox σ H en Q q => PEw (pe_si (own := own) (te := fun σ H Q => ∀ s H' D cl fp, we (X.blk s H' scope (compEnvC scope cl D X.env) fp) elt σ H Q) C.c (by rw [C.n]; exact C.nd) pi (by rw [C.n, C.s]; exact blkOk_by hb) (fun s H D cl fp => hg s H D cl fp) (fun s H D cl fp => pts_nil) (fun s H D cl fp => ⟨fun pins s' σ' H' Q' I h => h s H D cl fp pins s' I⟩) hs) ?_
  refine si_reads (cf := fun _ => .ok true) (f := f) ri hG hts (fun x H0 Ox σ H _ Q h => h H (Ex.refl H)) (fun x H0 Ox σ H en Q h s H' D cl fp => he x s H' D cl fp H0 Ox σ H en Q h) en ?_
  have e : mapM' f = compM (fun _ => .ok true) f := by funext xs; exact mapM'_eq f xs
  rw [← e]
  exact q
/-- sorted(a set) -/
def srtS (ys : List Int) : M (List Int) := if (dd ys).length < 64 then .ok (srtI (dd ys)) else stk
theorem lt_le_pw {l : List Int} (h : l.Pairwise (· < ·)) : l.Pairwise (fun a b => leI a b = true) := h.imp fun k => decide_eq_true (Int.le_of_lt k)
theorem en_sortS (C : Ct X N sc fb W) {ma : M (List Int)} (ha : ES X W Γ a ma) (hg : gloB sc "sorted" = true) (hm : X.mg "sorted" = none) (pl : Pl a := by intro _ _; rfl) :
    EN X W Γ (.Call (.Name "sorted" p) [a] [] pos) (ma >>= srtS) := .mk fun H0 Ox σ H en Q q =>
  PEw (pe_callB (cr_sortedSet C.c) (gl_of C.toCt0 hg) hm (by decide +kernel) (pa_cons pe_w pa_nil (pl _ _)) (by decide) (by decide) (pl _ _) (PlL.nil _ _)) (ha H0 Ox σ H en _ (by
    cases ma with
    | error er => cases er with
      | stuck => exact q
      | exc x => exact q
    | ok ys =>
      have q : PoN X.K X.mg (Ox ++ owns Γ σ) H (fun c d H2 => W c d σ H2) Q (srtS ys) := q
      intro s H2 z hs hs2
      unfold srtS at q
      split at q
      · rename_i h64
        refine ⟨s, _, _, rfl, hs2, h64, fun ns p pw mem hl hp => ?_⟩
        have pm : ns.Perm (dd ys) := by
          refine perm_of_mem (pw.imp fun k => Int.ne_of_lt k) (dd_nodup ys) fun x => ?_
          rw [mem x, mem_dd]
          simp
        have e : ns = srtI (dd ys) := srtB_of linI pm (lt_le_pw pw)
        subst e
        exact q p _ _ (z.trans (Ex.new hp)) (z.free hp) upd_same ⟨_, rfl, ints_den _, by rw [hl, sizeLine_eq]; omega⟩
      · exact q.elim))
end
end P3

set_option Elab.async false
set_option linter.all false
set_option maxRecDepth 100000
set_option maxHeartbeats 4000000
namespace P3
open PySem PySem.Spec PyProof.Rows L2
open Den (den)
open Ob (ob)

/-! tuples by their items -/
structure TI (T σ : Type) [Den T] [Den σ] where
  items : T → List σ
  is : ∀ {K : Fg} {H : Hp} {v : V} {x : T}, den K H v x → ∃ p vs, v = .ref p ∧ SqT K H p vs ∧ All2 (den K H) vs (items x)
def ti2 (α : Type) [Den α] : TI (P2 α α) α := ⟨fun x => [x.a, x.b], fun ⟨p, v1, v2, e, h, h1, h2⟩ => ⟨p, _, e, h, .cons h1 (.cons h2 .nil)⟩⟩
def ti2s (α β : Type) [Den α] [Den β] : TI (P2 α β) (α ⊕ β) := ⟨fun x => [.inl x.a, .inr x.b], fun ⟨p, v1, v2, e, h, h1, h2⟩ => ⟨p, _, e, h, .cons h1 (.cons h2 .nil)⟩⟩
def ti3 (α : Type) [Den α] : TI (P3' α α α) α := ⟨fun x => [x.a, x.b, x.c], fun ⟨p, v1, v2, v3, e, h, h1, h2, h3⟩ => ⟨p, _, e, h, .cons h1 (.cons h2 (.cons h3 .nil))⟩⟩
def ti3s (α β γ : Type) [Den α] [Den β] [Den γ] : TI (P3' α β γ) (α ⊕ (β ⊕ γ)) := ⟨fun x => [.inl x.a, .inr (.inl x.b), .inr (.inr x.c)], fun ⟨p, v1, v2, v3, e, h, h1, h2, h3⟩ => ⟨p, _, e, h, .cons h1 (.cons h2 (.cons h3 .nil))⟩⟩
def ti4 (α : Type) [Den α] : TI (P4 α α α α) α := ⟨fun x => [x.a, x.b, x.c, x.d], fun ⟨p, v1, v2, v3, v4, e, h, h1, h2, h3, h4⟩ => ⟨p, _, e, h, .cons h1 (.cons h2 (.cons h3 (.cons h4 .nil)))⟩⟩
def ti4h (α β : Type) [Den α] [Den β] : TI (P4 α α α β) (α ⊕ β) := ⟨fun x => [.inl x.a, .inl x.b, .inl x.c, .inr x.d], fun ⟨p, v1, v2, v3, v4, e, h, h1, h2, h3, h4⟩ => ⟨p, _, e, h, .cons h1 (.cons h2 (.cons h3 (.cons h4 .nil)))⟩⟩
section
variable {X : Cx} {W : WX} {Γ Γ' : Ctx} {e a b c : Expr} {pos p p1 p2 : Pos} {N : List Str} {sc : Scope} {fb : Str → Bool} {n : Str}
theorem ev_lenU {T σ : Type} [Den T] [Den σ] (t : TI T σ) (C : Ct0 X N sc fb W) {ma : M T} (ha : EV X W Γ a ma) (hg : gloB sc "len" = true) (hm : X.mg "len" = none) (pl : Pl a := by intro _ _; rfl) :
    EV X W Γ (.Call (.Name "len" p) [a] [] pos) (ma >>= fun x => .ok (((t.items x).length : Nat) : Int)) :=
  ev_b1 C (fun x : T => (.ok (((t.items x).length : Nat) : Int) : M Int)) call_len_seq (fun O H σ x v Q _ hv q => by
    obtain ⟨pp, vs, ev, h1, h2⟩ := t.is hv
    refine ⟨pp, vs, by rw [ev], .inr (ex_t hide_le h1), ?_⟩
    rw [h2.len]
    exact q _ H (Ex.refl H) ⟨rfl, trivial⟩) ha hg hm PySem.boot_len (by decide) (by decide) pl
theorem ev_idxU {T σ : Type} [Den T] [Den σ] (t : TI T σ) {ma : M T} {mb : M Int} (ha : EV X W Γ a ma) (hb : EV X W Γ b mb) (hs : PlainIx b := by intro _ _; rfl) : EV X W Γ (.Subscript a b pos) (ma >>= fun x => mb >>= fun i => idxL (t.items x) i) := .mk fun H0 Ox σ H en Q q =>
  PEw (pe_ix ix_tup pe_w pe_w hs) (ha.bind en q fun xs v H2 _ z2 en2 hv q2 => hb.bind en2 q2 fun i u H3 _ z3 en3 hu q3 => by
    obtain ⟨pp, vs, ev, h1, h2⟩ := t.is hv
    have eu := hu.1
    subst ev eu
    unfold idxL optM at q3
    split at q3
    · rename_i x hx
      obtain ⟨y, hy, dy⟩ := atI_all2 h2 hx
      exact ⟨pp, vs, i, y, rfl, rfl, ex_t (hide_le.trans z3) h1, hy, q3 y H3 (z2.trans z3) (Den.mono (hide_ex z3) dy)⟩
    · exact q3.elim)
section
variable {α β γ δ : Type} [Den α] [Den β] [Den γ] [Den δ] {k : Nat}
theorem ev_tri0 {ma : M (P3' α β γ)} (ha : EV X W Γ a ma) : EV X W Γ (.Subscript a (.Constant (.int 0) k p) pos) (ma >>= fun x => .ok x.a) := .mk fun H0 Ox σ H en Q q =>
  PEw (pe_ix ix_tup pe_w pe_int (by intro _ _; rfl)) (ha.bind en q fun x v H2 _ z2 en2 ⟨pp, v1, v2, v3, ev, h0, h1, h2, h3⟩ q2 => ⟨pp, _, 0, v1, ev, rfl, ex_t hide_le h0, rfl, q2 _ H2 z2 h1⟩)
theorem ev_tri1 {ma : M (P3' α β γ)} (ha : EV X W Γ a ma) : EV X W Γ (.Subscript a (.Constant (.int 1) k p) pos) (ma >>= fun x => .ok x.b) := .mk fun H0 Ox σ H en Q q =>
  PEw (pe_ix ix_tup pe_w pe_int (by intro _ _; rfl)) (ha.bind en q fun x v H2 _ z2 en2 ⟨pp, v1, v2, v3, ev, h0, h1, h2, h3⟩ q2 => ⟨pp, _, 1, v2, ev, rfl, ex_t hide_le h0, rfl, q2 _ H2 z2 h2⟩)
theorem ev_tri2 {ma : M (P3' α β γ)} (ha : EV X W Γ a ma) : EV X W Γ (.Subscript a (.Constant (.int 2) k p) pos) (ma >>= fun x => .ok x.c) := .mk fun H0 Ox σ H en Q q =>
  PEw (pe_ix ix_tup pe_w pe_int (by intro _ _; rfl)) (ha.bind en q fun x v H2 _ z2 en2 ⟨pp, v1, v2, v3, ev, h0, h1, h2, h3⟩ q2 => ⟨pp, _, 2, v3, ev, rfl, ex_t hide_le h0, rfl, q2 _ H2 z2 h3⟩)
theorem ev_qua0 {ma : M (P4 α β γ δ)} (ha : EV X W Γ a ma) : EV X W Γ (.Subscript a (.Constant (.int 0) k p) pos) (ma >>= fun x => .ok x.a) := .mk fun H0 Ox σ H en Q q =>
  PEw (pe_ix ix_tup pe_w pe_int (by intro _ _; rfl)) (ha.bind en q fun x v H2 _ z2 en2 ⟨pp, v1, v2, v3, v4, ev, h0, h1, h2, h3, h4⟩ q2 => ⟨pp, _, 0, v1, ev, rfl, ex_t hide_le h0, rfl, q2 _ H2 z2 h1⟩)
theorem ev_qua1 {ma : M (P4 α β γ δ)} (ha : EV X W Γ a ma) : EV X W Γ (.Subscript a (.Constant (.int 1) k p) pos) (ma >>= fun x => .ok x.b) := .mk fun H0 Ox σ H en Q q =>
  PEw (pe_ix ix_tup pe_w pe_int (by intro _ _; rfl)) (ha.bind en q fun x v H2 _ z2 en2 ⟨pp, v1, v2, v3, v4, ev, h0, h1, h2, h3, h4⟩ q2 => ⟨pp, _, 1, v2, ev, rfl, ex_t hide_le h0, rfl, q2 _ H2 z2 h2⟩)
theorem ev_qua2 {ma : M (P4 α β γ δ)} (ha : EV X W Γ a ma) : EV X W Γ (.Subscript a (.Constant (.int 2) k p) pos) (ma >>= fun x => .ok x.c) := .mk fun H0 Ox σ H en Q q =>
  PEw (pe_ix ix_tup pe_w pe_int (by intro _ _; rfl)) (ha.bind en q fun x v H2 _ z2 en2 ⟨pp, v1, v2, v3, v4, ev, h0, h1, h2, h3, h4⟩ q2 => ⟨pp, _, 2, v3, ev, rfl, ex_t hide_le h0, rfl, q2 _ H2 z2 h3⟩)
theorem ev_qua3 {ma : M (P4 α β γ δ)} (ha : EV X W Γ a ma) : EV X W Γ (.Subscript a (.Constant (.int 3) k p) pos) (ma >>= fun x => .ok x.d) := .mk fun H0 Ox σ H en Q q =>
  PEw (pe_ix ix_tup pe_w pe_int (by intro _ _; rfl)) (ha.bind en q fun x v H2 _ z2 en2 ⟨pp, v1, v2, v3, v4, ev, h0, h1, h2, h3, h4⟩ q2 => ⟨pp, _, 3, v4, ev, rfl, ex_t hide_le h0, rfl, q2 _ H2 z2 h4⟩)
end
end
section
variable {X : Cx} {Wx : XW} {Γ Γ' : Ctx} {e a b c : Expr} {pos p p1 p2 q1 q2 q3 : Pos} {N : List Str} {sc : Scope} {n : Str} {S S' L R : Type} {RT : RTT R} {Γn : S → Ctx} {Γl : L → Ctx} {rest : List Stmt} {st : Stmt}
theorem AV.some {α : Type} [Den α] [NotNone α] {W : WX} {i : Nat} {m : M α} (h : AV X W Γ i st m) : AV X W Γ i st (m >>= fun x => .ok (some x) : M (Option α)) := .mk fun H0 Ox σ H en D q => h H0 Ox σ H en D (by
  cases m with
  | ok x => exact fun v H2 z hv => q v H2 z ⟨NotNone.nn hv, hv⟩
  | error er => cases er with
    | stuck => exact q
    | exc x => exact q)
theorem AV.inl {α β : Type} [Den α] [Den β] {W : WX} {i : Nat} {m : M α} (h : AV X W Γ i st m) : AV X W Γ i st (m >>= fun x => .ok (Sum.inl x) : M (α ⊕ β)) := .mk fun H0 Ox σ H en D q => h H0 Ox σ H en D (by
  cases m with
  | ok x => exact fun v H2 z hv => q v H2 z hv
  | error er => cases er with
    | stuck => exact q
    | exc x => exact q)
theorem AV.inr {α β : Type} [Den α] [Den β] {W : WX} {i : Nat} {m : M β} (h : AV X W Γ i st m) : AV X W Γ i st (m >>= fun x => .ok (Sum.inr x) : M (α ⊕ β)) := .mk fun H0 Ox σ H en D q => h H0 Ox σ H en D (by
  cases m with
  | ok x => exact fun v H2 z hv => q v H2 z hv
  | error er => cases er with
    | stuck => exact q
    | exc x => exact q)
/-! xs[i] = e, xs owned -/
def setM {α : Type} (xs : List α) (i : Int) (x : α) : M (List α) := match ixN xs.length i with
  | some j => .ok (xs.set j x)
  | none => stk
theorem sv_seti (C : Cd X N sc Wx) (i : Nat) {α : Type} [Den α] {xs : List α} {me : M α} {mi : M Int} {mr : List α → M (Fl S L R)} (hi : Γ[i]? = some (.ow xs)) (hn : N[i]? = some n) (hv : visB sc n = true) (h : EV X (lw Wx) Γ e me) (hx : EV X (lw Wx) Γ b mi)
    (k : ∀ ys : List α, SV X Wx RT (Γ.set i (.ow ys)) rest (mr ys) Γn Γl) (hd : (n == ("__debug__" : Str)) = false := by decide) (hcd : (n == ("__classdict__" : Str)) = false := by decide)
    (hs : swapsWithSole [.Subscript (.Name n q1) b q2] e q3.line X.env = pure false := by rfl) (hw : swappedStores [.Subscript (.Name n q1) b q2] e X.env = pure none := by rfl)
    (ha : ∀ v, assign (.Subscript (.Name n q1) b q2) X.env v = (do
      let ov ← holding [v] (eval (.Name n q1) X.env)
      let iv ← holding [v, ov] (eval b X.env)
      standAt q2
      holding [v, ov, iv] (setItem ov iv v)
      release [v, ov, iv] []) := by intro _; rfl) (h1 : (assignEach [.Subscript (.Name n q1) b q2] X.env).map (·.2) = [assign (.Subscript (.Name n q1) b q2) X.env] := by rfl) :
    SV X Wx RT Γ (.Assign [.Subscript (.Name n q1) b q2] e q3 :: rest) (me >>= fun x => mi >>= fun j => setM xs j x >>= mr) Γn Γl := .mk fun H0 Ox σ H D en q => by
  have pv : PE X (.Name n q1) (tVar i) := pe_var (by rw [C.n]; exact hn) (by rw [C.s]; exact vis_of hv) hd hcd
  refine PSsw (pss_cons (ps_asg pe_w (pg_sub pv pe_w set_list ha) hs hw h1) pss_w) ?_
  refine h H0 Ox σ H en _ (po_bind en.ex q fun x _ q2 v H2 z hv2 => ?_)
  have en2 := en.mono z
  obtain ⟨pp, o, g1, g2, g3, vs, e1, e2, e3⟩ := en2.getOw hi
  subst e1
  refine ⟨.ref pp, g1, hx H0 Ox σ H2 en2 _ (po_bind en2.ex q2 fun j _ q3 u H3 z3 hu => ?_)⟩
  have eu := hu.1
  subst eu
  unfold setM at q3
  split at q3
  · rename_i kk hk
    have en3 := en2.mono z3
    refine ⟨pp, vs, j, kk, rfl, rfl, z3 pp _ g3, by rw [e2.len]; exact hk, ?_⟩
    refine k (xs.set kk x) H0 Ox σ _ D (en3.write (o' := .lst (vs.set kk v)) (y' := xs.set kk x) hi g2 g1 ⟨_, rfl, ?_, by rw [List.length_set]; exact e3⟩) q3
    exact All2.set kk (e2.imp fun u y (hu : den X.K (hide (Ox ++ owns Γ σ) H2) u y) => Den.mono (hide_ex z3) hu) (Den.mono (hide_ex z3) hv2)
  · exact q3.elim
/-! a, b = e -/
theorem sv_asgG {α : Type} [Den α] {tg : Expr} {g : TG} {ts : List Nat} {Γt : α → Ctx} {me : M α} {mr : α → M (Fl S L R)} (h : EV X (lw Wx) Γ e me) (pg : PG X tg g) (gok : GOk X.K g ts Γ Γt) (k : ∀ x, SV X Wx RT (Γt x) rest (mr x) Γn Γl)
    (hs : swapsWithSole [tg] e pos.line X.env = pure false := by rfl) (hw : swappedStores [tg] e X.env = pure none := by rfl) (h1 : (assignEach [tg] X.env).map (·.2) = [assign tg X.env] := by rfl) :
    SV X Wx RT Γ (.Assign [tg] e pos :: rest) (me >>= mr) Γn Γl := .mk fun H0 Ox σ H D en q =>
  PSsw (pss_cons (ps_asg pe_w pg hs hw h1) pss_w) (h H0 Ox σ H en _ (po_bind en.ex q fun x _ q2 v H2 z hv => gok H0 Ox σ H2 v x (en.mono z) hv _ fun σ2 en2 _ _ => k x H0 Ox σ2 H2 D en2 q2))
/-! bodies of a try -/
theorem tb_expr {α : Type} [Den α] {me : M α} (h : ∀ (W : WX) (pn : List (Addr × Obj)) (xe : Value → Shared → Prop), Takes (X.tr pn xe) W → EV (X.tr pn xe) W Γ e me) (hs : ∀ env, swapsWith e none pos.line env = pure false := by intro _; rfl) :
    TB X RT Γ [.Expr e pos] me (fun _ => (.ok (.nx ()) : M (Fl Unit L R))) (fun _ : Unit => Γ) Γl := .mk fun W pn xe tk po H0 Ox σ H D en q =>
  PSsw (pss_cons (ps_expr pe_w (hs _)) pss_w) (h W pn xe tk H0 Ox σ H en _ (PoX.imp (β := α) (Ex.refl H) (fun x _ g v H2 z hv => PSsw pss_nil (g σ H2 (en.mono z))) q))
theorem tb_asgR {R2 : Type} {RT2 : RTT R2} [RTs RT2] {me : M R2} (C : Cd X N sc Wx) (i : Nat) (h : ∀ (W : WX) (pn : List (Addr × Obj)) (xe : Value → Shared → Prop), Takes (X.tr pn xe) W → ER (X.tr pn xe) W RT2 Γ e me) (hn : N[i]? = some n) (hl : locB sc n = true) (hs : ∀ env, swapsWith e (some (.Name n p1)) p2.line env = pure false := by intro _; rfl) :
    TB X RT Γ [.Assign [.Name n p1] e p2] me (fun x => (.ok (.nx x) : M (Fl R2 L R))) (fun x => Γ.set i (RTs.slot RT2 x)) Γl := .mk fun W pn xe tk po H0 Ox σ H D en q =>
  PSsw (pss_cons (ps_set (X := X.tr pn xe) (i := i) (by show X.N.Nodup; rw [C.n]; exact C.nd) (by show X.N[i]? = _; rw [C.n]; exact hn) (by show L2.Loc X.env.scope n; rw [C.s]; exact loc_of hl) pe_w (hs _) (.inl (C.fn n rfl))) pss_w)
    (h W pn xe tk H0 Ox σ H en _ (PoX.imp (β := R2) (Ex.refl H) (fun x _ g v H2 z hv => PSsw pss_nil (g _ H2 (RTs.put en z hv))) q))
end
/-! a def that hands back nothing -/
section
variable {P : Program} {w : World} {K : Fg} {mg : Str → Option Value} {base : Heap} {A R S L : Type} [Args A] {x qual : Str} {st : Stmt} {f : Addr} {fd : FuncData} {N ps : List Str} {k : Nat} {Γn : A → S → Ctx} {Γl : A → L → Ctx}
theorem fnU {Fm : A → M Unit} {m : A → M (Fl S L Unit)} (F : Fun K x qual st f fd) (Sc : FnScope N ps (defScope st)) (hn : ps.length = Args.n A) (hF : ∀ a, Fm a = finU (m a))
    (hb : ∀ (cdv : Value) (Ar : Around) (outer : List PySem.Env) (s : Shared) (H : Hp) (E : XK), Cd (cxL P w K mg base N qual (defScope st) f cdv Ar outer s H E) N (defScope st) E → Room k (cxL P w K mg base N qual (defScope st) f cdv Ar outer s H E).A → ∀ a : A, SV (cxL P w K mg base N qual (defScope st) f cdv Ar outer s H E) E rtV (ctx0 N a) (defBody st) (m a) (Γn a) (Γl a)) :
    FnOk P w K mg base (L2.CX P w) (k + 1) f fd ps (spV K mg Fm) :=
  fnG F Sc hn (fun vs H Q E ⟨O, a, ho, hd, q⟩ => ⟨O, a, ho, hd, by
    rw [hF a] at q
    unfold finU at q
    cases hm : m a with
    | error er =>
      rw [hm] at q
      cases er with
      | stuck => exact q
      | exc y => exact q
    | ok fl =>
      rw [hm] at q
      cases fl with
      | rt r => exact fun v H2 z hr => q v H2 z hr
      | nx s => exact fun σ H2 en => q .non H2 en.ex ⟨rfl, trivial⟩
      | bk l => exact q.elim
      | ct l => exact q.elim⟩) hb
end
end P3

set_option Elab.async false
set_option linter.all false
set_option maxRecDepth 100000
set_option maxHeartbeats 4000000
namespace P3
open PySem PySem.Spec PyProof.Rows L2
open Den (den)
open Ob (ob)

section
variable {X : Cx} {W : WX} {Γ Γ' : Ctx} {e a b c : Expr} {pos p p1 p2 : Pos} {N : List Str} {sc : Scope} {fb : Str → Bool} {n : Str}
theorem pg_t3n (C : Ct X N sc fb W) {g1 g2 g3 : TG} {t1 t2 t3 : Expr} {k : Nat} (h1 : PG X t1 g1) (h2 : PG X t2 g2) (h3 : PG X t3 g3) (hn : (assignEach [t1, t2, t3] X.env).length = 3 := by rfl) (hst : (assignEach [t1, t2, t3] X.env).findIdx? (·.1) = none := by rfl)
    (he1 : (assignEach [t1, t2, t3] X.env).map (·.2) = assign t1 X.env :: (assignEach [t2, t3] X.env).map (·.2) := by rfl) (he2 : (assignEach [t2, t3] X.env).map (·.2) = assign t2 X.env :: (assignEach [t3] X.env).map (·.2) := by rfl) (he3 : (assignEach [t3] X.env).map (·.2) = assign t3 X.env :: (assignEach [] X.env).map (·.2) := by rfl) :
    PG X (.Tuple [t1, t2, t3] k pos) (gTup X.K 3 (gCons g1 (gCons g2 (gCons g3 gNil)))) := pg_tup C.c (pgs_cons h1 (pgs_cons h2 (pgs_cons h3 pgs_nil he3) he2) he1) hn hst
theorem pg_t4n (C : Ct X N sc fb W) {g1 g2 g3 g4 : TG} {t1 t2 t3 t4 : Expr} {k : Nat} (h1 : PG X t1 g1) (h2 : PG X t2 g2) (h3 : PG X t3 g3) (h4 : PG X t4 g4) (hn : (assignEach [t1, t2, t3, t4] X.env).length = 4 := by rfl) (hst : (assignEach [t1, t2, t3, t4] X.env).findIdx? (·.1) = none := by rfl)
    (he1 : (assignEach [t1, t2, t3, t4] X.env).map (·.2) = assign t1 X.env :: (assignEach [t2, t3, t4] X.env).map (·.2) := by rfl) (he2 : (assignEach [t2, t3, t4] X.env).map (·.2) = assign t2 X.env :: (assignEach [t3, t4] X.env).map (·.2) := by rfl) (he3 : (assignEach [t3, t4] X.env).map (·.2) = assign t3 X.env :: (assignEach [t4] X.env).map (·.2) := by rfl)
    (he4 : (assignEach [t4] X.env).map (·.2) = assign t4 X.env :: (assignEach [] X.env).map (·.2) := by rfl) :
    PG X (.Tuple [t1, t2, t3, t4] k pos) (gTup X.K 4 (gCons g1 (gCons g2 (gCons g3 (gCons g4 gNil))))) := pg_tup C.c (pgs_cons h1 (pgs_cons h2 (pgs_cons h3 (pgs_cons h4 pgs_nil he4) he3) he2) he1) hn hst
/-- list + list -/
theorem en_catL {α : Type} [Den α] {ma mb : M (List α)} (ha : EV X W Γ a ma) (hb : EV X W Γ b mb) : EN X W Γ (.BinOp a .Add b pos) (ma >>= fun x => mb >>= fun y => catL x y) := .mk fun H0 Ox σ H en Q q =>
  PEw (pe_op op_catX pe_w pe_w) (ha.bind en q fun x v H2 _ z2 en2 hv q2 => hb.bind en2 q2 fun y u H3 _ z3 en3 hu q3 => by
    obtain ⟨a1, vs, e1, h1, h2, h3⟩ := hv
    obtain ⟨a2, us, e2, k1, k2, k3⟩ := hu
    subst e1 e2
    unfold catL at q3
    split at q3
    · rename_i hl
      refine ⟨a1, a2, vs, us, rfl, rfl, ex_l (hide_le.trans z3) h1, ex_l hide_le k1, by rw [h2.len, k2.len]; exact hl, fun q hq => ?_⟩
      refine q3 q _ _ ((z2.trans z3).trans (Ex.new hq)) ((z2.trans z3).free hq) upd_same ⟨_, rfl, ?_, by rw [List.length_append]; exact hl⟩
      exact ((h2.imp fun x y k => Den.mono ((hide_ex z3).trans (hide_new (Ex.new hq) hq)) k).app (k2.imp fun x y k => Den.mono (hide_new (Ex.new hq) hq) k))
    · exact q3.elim)
end
end P3

set_option Elab.async false
set_option linter.all false
set_option maxRecDepth 100000
set_option maxHeartbeats 4000000
namespace P3
open PySem PySem.Spec PyProof.Rows L2
open Den (den)
open Ob (ob)

/-! texts in order, any number of them -/
section
variable {prog : Program} {w : World} {A : Around} {s : Shared}
def svT (v : Value) : Str := match v with
  | .str z _ => z
  | _ => ⟨#[]⟩
def ltSv (v u : Value) : Bool := decide ((svT v).cps.toList < (svT u).cps.toList)
theorem ltSv_eq (v u : Value) : ltSv v u = ltT (svT v).cps.toList (svT u).cps.toList := (ltT_lt _ _).symm
theorem swo_str : SrtO.Swo ltSv := ⟨fun x y h => by rw [ltSv_eq] at *; exact ltT_asym h, fun x y z h1 h2 => by
  rw [ltSv_eq] at *
  exact ltT_negtrans h1 h2⟩
theorem strs_mem : ∀ {vs : List Value} {ns : List Str}, StrsAre vs ns → ∀ v ∈ vs, ∃ i t, v = Value.str i t
  | _, _, .nil, v, h => absurd h (by simp)
  | _, _, .cons n t r, v, h => (List.mem_cons.mp h).elim (fun e => ⟨n, t, e⟩) fun h => strs_mem r v h
theorem strs_sv : ∀ {vs : List Value}, (∀ v ∈ vs, ∃ i t, v = Value.str i t) → StrsAre vs (vs.map svT)
  | [], _ => .nil
  | v :: vs, h => by
    obtain ⟨i, t, rfl⟩ := h v List.mem_cons_self
    exact .cons i t (strs_sv fun u hu => h u (List.mem_cons_of_mem _ hu))
theorem sv_strs : ∀ {vs : List Value} {ns : List Str}, StrsAre vs ns → vs.map svT = ns
  | _, _, .nil => rfl
  | _, _, .cons n t r => congrArg (n :: ·) (sv_strs r)
theorem strs_sortable {a : Addr} {vs : List Value} {ns : List Str} (hI : StrsAre vs ns) (h2 : 2 ≤ vs.length) : SrtO.SortableO prog w A s a vs ltSv := by
  intro h' _
  refine ⟨oneType', fun Q E hq => ?_, fun p q hm hm' => ?_⟩
  · match vs, hI, h2 with
    | v1 :: v2 :: rest, hI, _ =>
      rw [keyKind_strs hI]
      exact wpAny_pure hq
    | [], _, h => exact absurd h (by decide)
    | [v], _, h => exact absurd h (by simp)
  · obtain ⟨a, t, e⟩ := strs_mem hI _ hm
    obtain ⟨b, u, e'⟩ := strs_mem hI _ hm'
    show wpAny (model prog w) A (keyLt' oneType' p.1 q.1) (fun r s' => _ ∧ r = ltSv p.1 q.1) (fun _ _ => False) _
    rw [e, e', keyLt'_oneType]
    exact oneLt_str ⟨rfl, rfl⟩
theorem strs_out {vs out : List Value} {ns : List Str} (hI : StrsAre vs ns) (hs : SrtO.Srtd ltSv out) (hb : SrtO.Stb ltSv out vs) : StrsAre out (out.map svT) ∧ (out.map svT).Perm ns ∧ (out.map svT).Pairwise (fun x y => ltT y.cps.toList x.cps.toList = false) := by
  refine ⟨strs_sv fun v hv => strs_mem hI v (hb.perm.mem_iff.mp hv), ?_, ?_⟩
  · have q := hb.perm.map svT
    rw [sv_strs hI] at q
    exact q
  · exact List.pairwise_map.mpr (hs.imp fun {x y} h => by rw [← ltSv_eq]; exact h)
end
section
variable {X : Cx}
theorem cr_sortT : CallR X (.builtin "sorted") (fun vs H Q => ∃ (a : Addr) (xs : List Str), vs = [V.ref a] ∧ SqL X.K H a (xs.map V.str) ∧
    ∀ (ys : List Str) (p : Addr), ys.Perm xs → ys.Pairwise (fun x y => ltT y.cps.toList x.cps.toList = false) → H p = none → Q (.ref p) (upd H p (.lst (ys.map V.str)))) := by
  intro pins s σ H vs us Q I r h
  obtain ⟨a, ns, rfl, hs, q⟩ := h
  obtain ⟨its, rv, hl, hz⟩ := I.list hs
  rw [Vals.ref1 r]
  have hi := rv.strs
  refine SrtO.sorted_ord swo_str hl.isList (by rw [← rv.length]; exact hz) (fun h2 h₁ a' _ _ => strs_sortable hi h2) fun out h1 h2 => ?_
  obtain ⟨k1, k2, k3⟩ := strs_out hi h1 h2
  obtain ⟨ep, he'⟩ := PyProof.Rows.sortedAll_at s.heap its out.toArray
  have hlen : ((out.map svT).map V.str).length ≤ sizeLine := by
    rw [List.length_map, k2.length_eq]
    rw [List.length_map] at hz
    exact hz
  exact ⟨.ref _, upd H (s.heap.objs.size + 1) (.lst ((out.map svT).map V.str)), I.laid (t' := s.toks) (fun _ _ => PyProof.Rows.sortedAll_old) (Nat.le_succ _) ⟨hlen, out, ep, vals_of_strs k1, he'⟩, rfl, q _ _ k2 k3 (I.hok.fresh (Nat.le_succ _))⟩
/-- sorted(d), the keys texts -/
theorem cr_sortKT (hcalm : X.calm = true) : CallR X (.builtin "sorted") (fun xs H Q => ∃ (a : Addr) (kvs : List (Key × V)) (ks : List Str), xs = [.ref a] ∧ Rd H a (.dK kvs) ∧ kvs.map (·.1) = ks.map Sum.inr ∧
    ∀ (ys : List Str) (p : Addr), ys.Perm ks → ys.Pairwise (fun x y => ltT y.cps.toList x.cps.toList = false) → H p = none → Q (.ref p) (upd H p (.lst (ys.map V.str)))) := by
  intro pins s σ H xs us Q I r q
  obtain ⟨a, kvs, ks, rfl, hd, hks, q⟩ := q
  obtain ⟨u, rfl, rx⟩ := vals1 r
  cases rx
  obtain ⟨z, lo, vs, rel, dd⟩ := dk_rd I.hok hd
  obtain ⟨ep, hat⟩ := dd.dictAt
  have keys : vs.map (·.1) = ks.map Sum.inr := rel.keys.symm.trans hks
  have hl : vs.length = ks.length := by simpa using congrArg List.length keys
  have h16 : vs.length ≤ sizeLine := by
    have : vs.length = kvs.length := by simpa using congrArg List.length rel.keys.symm
    omega
  refine Calls.call_function_entry PyProof.Rows.kind_sorted PyProof.Rows.plain_sorted PyProof.Rows.entry_sorted (PyProof.Rows.args_sorted1 _) ?_
  unfold Builtin.«sorted»
  refine wpAny_bind (m := checkCount "sorted" 1 1 _) (wpAny_pure ?_)
  refine wpAny_bind (PySem.W.kdu_collect (A := X.A.in1) (PySem.W.kdl_dict (knd := mixKind X.prog X.w) (kvs := vs) (ep := ep) lo) (I.ok.hd hcalm) hat h16 fun h' tk acc hk hacc => ?_)
  have al : acc.toList.length = ks.length := by rw [Array.length_toList, hacc.1, hl]
  have hS : StrsAre acc.toList ks := strs_at al fun j v e => by
    obtain ⟨k, x, e1, e2⟩ := hacc.2 j v (by rw [← Array.getElem?_toList]; exact e)
    have e3 : (vs.map (·.1))[j]? = some k := by rw [List.getElem?_map, e1]; rfl
    rw [keys, List.getElem?_map] at e3
    cases e4 : ks[j]? with
    | none => rw [e4] at e3; cases e3
    | some y =>
      rw [e4] at e3
      have e5 : Sum.inr y = k := Option.some.inj e3
      subst e5
      obtain ⟨t, ev⟩ := Value.isStrOf_shape (x := y) (v := v) e2
      exact ⟨y, t, rfl, ev⟩
  have I1 : Inv X pins σ H { s with heap := h', toks := tk } := I.kept hk
  refine wpAny_bind (wpAny_newList ?_ (by rw [al, ← hl]; exact h16))
  have oL : (h'.push (seqObj "list" acc.toList.toArray 0)).get? h'.objs.size = some (seqObj "list" acc.toList.toArray 0) := Heap.get?_push_size _ rfl
  show wpAny _ _ _ _ _ { s with heap := h'.push (seqObj "list" acc.toList.toArray 0), toks := tk }
  refine wpAny_bind (wpAny_holding (wpAny_call_entry PyProof.Rows.slot_list_sort ⟨_, oL, rfl⟩ PyProof.Rows.entry_list_sort
    (SrtO.list_sort_ord (s := { s with heap := h'.push (seqObj "list" acc.toList.toArray 0), toks := tk }) swo_str oL (by rw [al, ← hl]; exact h16) (fun h2 => strs_sortable hS h2) fun out h1 h2 => ⟨_, rfl, ?_⟩) (PyProof.Rows.args_list_sort _)))
  obtain ⟨g1, g2, g3⟩ := strs_out hS h1 h2
  obtain ⟨e', he'⟩ := PyProof.Rows.sortedHeap_at (vs := acc.toList) (out := out.toArray) oL
  have hlen : ((out.map svT).map V.str).length ≤ sizeLine := by rw [List.length_map, g2.length_eq, ← hl]; exact h16
  refine wpAny_pure ⟨_, rfl, .ref h'.objs.size, upd H h'.objs.size (.lst ((out.map svT).map V.str)), I1.laid (t' := tk) (fun b u e => ?_) (Nat.le_refl _)
    (show ObjOk X.prog X.w _ _ _ (.lst ((out.map svT).map V.str)) from ⟨hlen, out, e', vals_of_strs g1, he'⟩), rfl, q _ _ g2 g3 (I1.hok.fresh (Nat.le_refl _))⟩
  have hb : b < h'.objs.size := Heap.lt_size e
  rw [PyProof.Rows.sortedHeap_old (Nat.ne_of_lt hb) (by rw [size_push']; exact Nat.lt_succ_of_lt hb)]
  exact Heap.get?_push_of_some _ e
end
theorem srtT_of {x : List Tx} {ys : List Str} (pm : ys.Perm (x.map sT)) (pw : ys.Pairwise (fun x y => ltT y.cps.toList x.cps.toList = false)) : ys = (srtT x).map sT := by
  have e3 : ys = (ys.map tT).map sT := by rw [List.map_map]; exact (List.map_id ys).symm
  have pm2 : (ys.map tT).Perm x := by
    have := pm.map tT
    rw [List.map_map] at this
    have e4 : x.map (tT ∘ sT) = x := List.map_id x
    rw [e4] at this
    exact this
  have e2 : ys.map tT = srtT x := srtB_of linT pm2 (List.pairwise_map.mpr (pw.imp fun h => by
    unfold leT
    exact congrArg (fun b => !b) h))
  rw [e3, e2]
theorem txs_new {K : Fg} {H : Hp} {x : List Tx} (ok : ∀ z ∈ x, okT z) : All2 (den K H) (((srtT x).map sT).map V.str) (srtT x) := by
  rw [List.map_map]
  exact txs_den _ fun z hz => ok z ((srtB_perm leT x).mem_iff.mp hz)
section
variable {X : Cx} {W : WX} {Γ Γ' : Ctx} {e a b c : Expr} {pos p p2 : Pos} {N : List Str} {sc : Scope} {fb : Str → Bool} {n : Str}
theorem en_sortTx (C : Ct0 X N sc fb W) {ma : M (List Tx)} (ha : EV X W Γ a ma) (hg : gloB sc "sorted" = true) (hm : X.mg "sorted" = none) (pl : Pl a := by intro _ _; rfl) :
    EN X W Γ (.Call (.Name "sorted" p) [a] [] pos) (ma >>= fun xs => .ok (srtT xs)) :=
  en_b1 C (fun xs : List Tx => (.ok (srtT xs) : M (List Tx))) cr_sortT (fun O H σ x v Q own hv q => by
    obtain ⟨pp, vs, ev, h1, h2, h3⟩ := hv
    obtain ⟨e, ok⟩ := txs_of h2
    subst e
    refine ⟨pp, x.map sT, by rw [ev], ex_l hide_le h1, fun ys p pm pw hp => ?_⟩
    rw [srtT_of pm pw]
    exact q p _ _ (Ex.new hp) hp upd_same ⟨_, rfl, txs_new ok, by rw [(srtB_perm leT x).length_eq]; exact h3⟩) ha hg hm (by decide +kernel) (by decide) (by decide) pl
end

/-! dicts -/
structure Dc (κ α : Type) where
  kvs : List (κ × α)
  deriving Inhabited
def getK {κ α : Type} [DecidableEq κ] : List (κ × α) → κ → Option α
  | [], _ => none
  | (q, x) :: r, k => if q = k then some x else getK r k
def putL {κ α : Type} [DecidableEq κ] : List (κ × α) → κ → α → List (κ × α)
  | [], k, x => [(k, x)]
  | (q, y) :: r, k, x => if q = k then (q, x) :: r else (q, y) :: putL r k x
/-- what may be a key -/
class Ky (κ : Type) [Den κ] [Flat κ] where
  [dec : DecidableEq κ]
  key : κ → L2.Key
  inj : ∀ {x y : κ}, key x = key y → x = y
  kv : ∀ x : κ, Flat.val x = kV (key x)
instance (priority := 30) kyDec {κ : Type} [Den κ] [Flat κ] [s : Ky κ] : DecidableEq κ := s.dec
instance : Ky Int := { key := Sum.inl, inj := fun h => Sum.inl.inj h, kv := fun _ => rfl }
instance : Ky Tx := { key := fun x => Sum.inr (sT x), inj := fun h => sT_inj (Sum.inr.inj h), kv := fun _ => rfl }
def KvOk {κ α : Type} [Den κ] [Flat κ] [Ky κ] [Den α] (K : Fg) (H : Hp) (p : L2.Key × V) (q : κ × α) : Prop := p.1 = Ky.key q.1 ∧ Flat.ok q.1 ∧ den K H p.2 q.2
instance instDc {κ α : Type} [Den κ] [Flat κ] [Ky κ] [Den α] : Den (Dc κ α) where
  den := fun K H v d => ∃ a vs, v = .ref a ∧ Rd H a (.dK vs) ∧ All2 (KvOk K H) vs d.kvs ∧ (d.kvs.map Prod.fst).Nodup
  monoD := fun e ⟨a, vs, h1, h2, h3, h4⟩ => ⟨a, vs, h1, ed_rd e trivial h2, h3.imp fun _ _ h => ⟨h.1, h.2.1, Den.monoD e h.2.2⟩, h4⟩
instance obDc {κ α : Type} [Den κ] [Flat κ] [Ky κ] [Den α] : Ob (Dc κ α) where
  ob := fun K H o d => ∃ vs, o = .dK vs ∧ All2 (KvOk K H) vs d.kvs ∧ (d.kvs.map Prod.fst).Nodup
  omonoD := fun e ⟨vs, h1, h3, h4⟩ => ⟨vs, h1, h3.imp fun _ _ h => ⟨h.1, h.2.1, Den.monoD e h.2.2⟩, h4⟩
  thaw := fun {K H p o x} hp ⟨vs, h1, h2, h3⟩ => ⟨p, vs, rfl, Or.inl (by rw [hp, h1]), h2, h3⟩
section
variable {κ α : Type} [Den κ] [Flat κ] [Ky κ] [Den α] {K : Fg} {H : Hp}
theorem kv_get (k : κ) : ∀ {vs : List (L2.Key × V)} {kvs : List (κ × α)}, All2 (KvOk K H) vs kvs → match getK kvs k with
    | some x => ∃ v, valV vs (Ky.key k) = some v ∧ den K H v x
    | none => valV vs (Ky.key k) = none
  | _, _, .nil => rfl
  | _, _, @All2.cons _ _ _ p (q, x) _ _ h t => by
    unfold getK
    by_cases e : q = k
    · rw [if_pos e]
      exact ⟨p.2, valV_pos (by rw [h.1, e]), h.2.2⟩
    · rw [if_neg e, valV_neg (fun z => e (Ky.inj (h.1.symm.trans z)))]
      exact kv_get k t
theorem putK_cons {p : L2.Key × V} {r : List (L2.Key × V)} {k : L2.Key} {v : V} (nd : ∀ q ∈ r, q.1 ≠ p.1) : putK (p :: r) k v = if p.1 = k then (p.1, v) :: r else p :: putK r k v := by
  unfold putK
  by_cases e : p.1 = k
  · subst e
    simp only [List.any_cons, decide_true, Bool.true_or, if_true, List.map_cons]
    congr 1
    have : ∀ q ∈ r, (if q.1 = p.1 then (q.1, v) else q) = id q := fun q hq => if_neg (nd q hq)
    rw [List.map_congr_left this, List.map_id]
  · rw [if_neg e, List.any_cons, decide_eq_false e, Bool.false_or]
    split
    · rw [List.map_cons, if_neg e]
    · rfl
theorem mem_putL {k q : κ} {x : α} : ∀ {kvs : List (κ × α)}, q ∈ (putL kvs k x).map Prod.fst ↔ q = k ∨ q ∈ kvs.map Prod.fst
  | [] => by simp [putL]
  | (r, y) :: t => by
    unfold putL
    by_cases e : r = k
    · rw [if_pos e]; subst e; simp
    · rw [if_neg e, List.map_cons, List.mem_cons, mem_putL (kvs := t), List.map_cons, List.mem_cons]
      constructor
      · rintro (h | h | h)
        · exact .inr (.inl h)
        · exact .inl h
        · exact .inr (.inr h)
      · rintro (h | h | h)
        · exact .inr (.inl h)
        · exact .inl h
        · exact .inr (.inr h)
theorem putL_nodup {k : κ} {x : α} : ∀ {kvs : List (κ × α)}, (kvs.map Prod.fst).Nodup → ((putL kvs k x).map Prod.fst).Nodup
  | [], _ => by simp [putL]
  | (r, y) :: t, h => by
    unfold putL
    have h' := List.nodup_cons.mp h
    by_cases e : r = k
    · rw [if_pos e]; exact h
    · rw [if_neg e]
      refine List.nodup_cons.mpr ⟨fun m => ?_, putL_nodup h'.2⟩
      rcases mem_putL.mp m with z | z
      · exact e z
      · exact h'.1 z
theorem putL_len {k : κ} {x : α} : ∀ {kvs : List (κ × α)}, (putL kvs k x).length ≤ kvs.length + 1
  | [] => by simp [putL]
  | (r, y) :: t => by
    unfold putL
    split
    · simp
    · rw [List.length_cons, List.length_cons]; exact Nat.succ_le_succ putL_len
theorem kv_keys : ∀ {vs : List (L2.Key × V)} {kvs : List (κ × α)}, All2 (KvOk K H) vs kvs → ∀ p ∈ vs, ∃ q ∈ kvs, p.1 = Ky.key q.1
  | _, _, .nil, p, hp => by cases hp
  | _, _, @All2.cons _ _ _ a b _ _ h t, p, hp => by
    rcases List.mem_cons.mp hp with e | e
    · exact ⟨b, List.mem_cons_self, by rw [e]; exact h.1⟩
    · obtain ⟨q, hq, eq⟩ := kv_keys t p e
      exact ⟨q, List.mem_cons_of_mem _ hq, eq⟩
theorem kv_put {k : κ} {v : V} {x : α} (hk : Flat.ok k) (hv : den K H v x) : ∀ {vs : List (L2.Key × V)} {kvs : List (κ × α)}, All2 (KvOk K H) vs kvs → (kvs.map Prod.fst).Nodup → All2 (KvOk K H) (putK vs (Ky.key k) v) (putL kvs k x)
  | _, _, .nil, _ => .cons ⟨rfl, hk, hv⟩ .nil
  | _, _, @All2.cons _ _ _ p (q, y) vs t h a, nd => by
    have nd' := List.nodup_cons.mp nd
    rw [putK_cons fun z hz e => by
      obtain ⟨r, hr, er⟩ := kv_keys a z hz
      have : r.1 = q := Ky.inj (er.symm.trans (e.trans h.1))
      exact nd'.1 (List.mem_map.mpr ⟨r, hr, this⟩)]
    unfold putL
    by_cases e : q = k
    · rw [if_pos e, if_pos (by rw [h.1, e])]
      exact .cons ⟨h.1, h.2.1, hv⟩ a
    · rw [if_neg e, if_neg (fun z => e (Ky.inj (h.1.symm.trans z)))]
      exact .cons h (kv_put hk hv a nd'.2)
end
/-! the mirrors' operations -/
def getM {κ α : Type} [DecidableEq κ] (d : Dc κ α) (k : κ) : M α := optM (getK d.kvs k)
def getD' {κ α : Type} [DecidableEq κ] (d : Dc κ α) (k : κ) (x : α) : α := (getK d.kvs k).getD x
def hasK {κ α : Type} [DecidableEq κ] (d : Dc κ α) (k : κ) : Bool := (getK d.kvs k).isSome
def putM {κ α : Type} [DecidableEq κ] (d : Dc κ α) (k : κ) (x : α) : M (Dc κ α) := if d.kvs.length < sizeLine then .ok ⟨putL d.kvs k x⟩ else stk
def keysD {κ α : Type} (d : Dc κ α) : List κ := d.kvs.map Prod.fst
section
variable {X : Cx} {W : WX} {Γ Γ' : Ctx} {e a b c : Expr} {pos p p1 p2 q1 q2 q3 : Pos} {N : List Str} {sc : Scope} {fb : Str → Bool} {n : Str}
variable {κ α : Type} [Den κ] [Flat κ] [Ky κ] [Den α]
theorem hu_of (C : Ct0 X N sc fb W) : X.A.units + 1 < cLine := Nat.lt_of_le_of_lt (by omega) C.un
theorem en_dnew : EN X W Γ (.Dict [] [] pos) (.ok ⟨[]⟩ : M (Dc κ α)) := .mk fun H0 Ox σ H en Q q =>
  PEw pe_dnewK fun p hp => q p _ _ (Ex.new hp) hp upd_same ⟨[], rfl, .nil, List.nodup_nil⟩
theorem dget_of {K : Fg} {H : Hp} {a : Addr} {vs : List (L2.Key × V)} {k : κ} {y : V} (hr : Rd H a (.dK vs)) (hy : den K H y k) : DGet H a y (valV vs (Ky.key k)) :=
  .inl ⟨vs, Ky.key k, hr, by rw [(Flat.is.mp hy).1, Ky.kv], rfl⟩
/-- d[k] -/
theorem ev_dget (C : Ct0 X N sc fb W) {ma : M (Dc κ α)} {mb : M κ} (ha : EV X W Γ a ma) (hb : EV X W Γ b mb) (hs : NoSl b := by intro _ _; rfl) : EV X W Γ (.Subscript a b pos) (ma >>= fun d => mb >>= fun k => getM d k) := .mk fun H0 Ox σ H en Q q =>
  PEw (pe_dget (hu_of C) pe_w pe_w hs) (ha.bind en q fun d v H2 _ z2 en2 hv q2 => hb.bind en2 q2 fun k u H3 _ z3 en3 hu q3 => by
    obtain ⟨pp, vs, ev, h1, h2, h3⟩ := Den.mono (hide_ex z3) hv
    subst ev
    have g := kv_get k h2
    unfold getM optM at q3
    cases e : getK d.kvs k with
    | none => rw [e] at q3; exact q3.elim
    | some x =>
      rw [e] at g q3
      obtain ⟨y, hy, dy⟩ := g
      refine ⟨pp, y, rfl, ?_, q3 y H3 (z2.trans z3) dy⟩
      rw [← hy]
      exact dget_of (K := X.K) (ex_rd hide_le h1) (flat_any hu))
/-- what the dict of slot i holds -/
theorem Env.dict {K : Fg} {H0 H : Hp} {Ox : List Addr} {σ : L2.St} (en : Env K H0 Ox Γ σ H) {i : Nat} {d : Dc κ α} (hi : Γ[i]? = some (.ow d) ∨ Γ[i]? = some (.va d)) : ∃ pp vs, σ[i]? = some (some (.ref pp)) ∧ Rd H pp (.dK vs) ∧ All2 (KvOk K (hide (Ox ++ owns Γ σ) H)) vs d.kvs ∧ (d.kvs.map Prod.fst).Nodup := by
  rcases hi with hi | hi
  · obtain ⟨pp, o, h1, h2, h3, vs, e, h4, h5⟩ := en.getOw hi
    subst e
    exact ⟨pp, vs, h1, Or.inl h3, h4, h5⟩
  · obtain ⟨v, h1, pp, vs, e, h2, h3, h4⟩ := en.get hi
    subst e
    exact ⟨pp, vs, h1, ex_rd hide_le h2, h3, h4⟩
theorem pv_of (C : Ct0 X N sc fb W) (i : Nat) (hn : N[i]? = some n) (hv : visB sc n = true) (hd : (n == ("__debug__" : Str)) = false := by decide) (hcd : (n == ("__classdict__" : Str)) = false := by decide) : PE X (.Name n q1) (tVar i) :=
  pe_var (by rw [C.n]; exact hn) (by rw [C.s]; exact vis_of hv) hd hcd
/-- n[k], n's dict owned or not -/
theorem ev_dgetN (C : Ct0 X N sc fb W) (i : Nat) {d : Dc κ α} {mb : M κ} (hi : Γ[i]? = some (.ow d) ∨ Γ[i]? = some (.va d)) (hn : N[i]? = some n) (hv : visB sc n = true) (hb : EV X W Γ b mb) (hs : NoSl b := by intro _ _; rfl)
    (hd : (n == ("__debug__" : Str)) = false := by decide) (hcd : (n == ("__classdict__" : Str)) = false := by decide) : EV X W Γ (.Subscript (.Name n q1) b pos) (mb >>= fun k => getM d k) := .mk fun H0 Ox σ H en Q q => by
  obtain ⟨pp, vs, h1, _, _, _⟩ := en.dict hi
  refine PEw (pe_dget (hu_of C) (pv_of C i hn hv hd hcd) pe_w hs) ⟨.ref pp, h1, ?_⟩
  refine hb.bind en q fun k u H3 _ z3 en3 hu q3 => ?_
  obtain ⟨pp', vs, h1', h2, h3, h4⟩ := en3.dict hi
  rw [h1] at h1'
  cases h1'
  have g := kv_get k h3
  unfold getM optM at q3
  cases e : getK d.kvs k with
  | none => rw [e] at q3; exact q3.elim
  | some x =>
    rw [e] at g q3
    obtain ⟨y, hy, dy⟩ := g
    refine ⟨pp, y, rfl, ?_, q3 y H3 z3 dy⟩
    rw [← hy]
    exact dget_of (K := X.K) h2 (flat_any hu)
/-- n.get(k, x) -/
theorem ev_dgetD (C : Ct0 X N sc fb W) (i : Nat) {d : Dc κ α} {mb : M κ} {mc : M α} (hi : Γ[i]? = some (.ow d) ∨ Γ[i]? = some (.va d)) (hn : N[i]? = some n) (hv : visB sc n = true) (hb : EV X W Γ b mb) (hc : EV X W Γ c mc) (m : M2 X (.Name n q1) "get" q2 b c q3)
    (hd : (n == ("__debug__" : Str)) = false := by decide) (hcd : (n == ("__classdict__" : Str)) = false := by decide) : EV X W Γ (.Call (.Attribute (.Name n q1) "get" q2) [b, c] [] q3) (mb >>= fun k => mc >>= fun x => .ok (getD' d k x)) := .mk fun H0 Ox σ H en Q q => by
  obtain ⟨pp, vs, h1, hr, _, _⟩ := en.dict hi
  refine PEw (pe_dget2 (hu_of C) (pv_of C i hn hv hd hcd) pe_w pe_w m) ⟨.ref pp, h1, pp, rfl, .inl ⟨vs, hr⟩, ?_⟩
  refine hb.bind en q fun k u H3 _ z3 en3 hu q3 => hc.bind en3 q3 fun x w H4 _ z4 en4 hw q4 => ?_
  obtain ⟨pp', vs, h1', h2, h3, h4⟩ := en4.dict hi
  rw [h1] at h1'
  cases h1'
  have g := kv_get k h3
  refine ⟨_, dget_of (K := X.K) h2 (flat_any hu), ?_⟩
  unfold getD' at q4
  cases e : getK d.kvs k with
  | none =>
    rw [e] at g q4
    have g : valV vs (Ky.key k) = none := g
    rw [g]
    exact q4 w H4 (z3.trans z4) hw
  | some x =>
    rw [e] at g q4
    obtain ⟨y, hy, dy⟩ := g
    rw [hy]
    exact q4 y H4 (z3.trans z4) dy
/-- k in n, k not in n -/
theorem ev_dinN (C : Ct0 X N sc fb W) (i : Nat) {d : Dc κ α} {mb : M κ} (hi : Γ[i]? = some (.ow d) ∨ Γ[i]? = some (.va d)) (hn : N[i]? = some n) (hv : visB sc n = true) (hb : EV X W Γ b mb) (hm : behindInMarks .In (.Name n q1) = false := by rfl)
    (hd : (n == ("__debug__" : Str)) = false := by decide) (hcd : (n == ("__classdict__" : Str)) = false := by decide) : EV X W Γ (.Compare b [.In] [.Name n q1] pos) (mb >>= fun k => .ok (hasK d k)) := .mk fun H0 Ox σ H en Q q => by
  refine PEw (pe_cmp (pc_din (hu_of C) pe_w (pv_of C i hn hv hd hcd)) hm) (hb.bind en q fun k u H3 _ z3 en3 hu q3 => ?_)
  obtain ⟨pp, vs, h1, h2, h3, h4⟩ := en3.dict hi
  have g := kv_get k h3
  refine ⟨.ref pp, h1, pp, _, rfl, dget_of (K := X.K) h2 (flat_any hu), q3 _ H3 z3 ⟨?_, trivial⟩⟩
  unfold hasK
  cases e : getK d.kvs k with
  | none => rw [e] at g; rw [show valV vs (Ky.key k) = none from g]; rfl
  | some x => rw [e] at g; obtain ⟨y, hy, _⟩ := g; rw [hy]; rfl
theorem ev_dninN (C : Ct0 X N sc fb W) (i : Nat) {d : Dc κ α} {mb : M κ} (hi : Γ[i]? = some (.ow d) ∨ Γ[i]? = some (.va d)) (hn : N[i]? = some n) (hv : visB sc n = true) (hb : EV X W Γ b mb) (hm : behindInMarks .NotIn (.Name n q1) = false := by rfl)
    (hd : (n == ("__debug__" : Str)) = false := by decide) (hcd : (n == ("__classdict__" : Str)) = false := by decide) : EV X W Γ (.Compare b [.NotIn] [.Name n q1] pos) (mb >>= fun k => .ok (!hasK d k)) := .mk fun H0 Ox σ H en Q q => by
  refine PEw (pe_cmp (pc_dnotin (hu_of C) pe_w (pv_of C i hn hv hd hcd)) hm) (hb.bind en q fun k u H3 _ z3 en3 hu q3 => ?_)
  obtain ⟨pp, vs, h1, h2, h3, h4⟩ := en3.dict hi
  have g := kv_get k h3
  refine ⟨.ref pp, h1, pp, _, rfl, dget_of (K := X.K) h2 (flat_any hu), q3 _ H3 z3 ⟨?_, trivial⟩⟩
  unfold hasK
  cases e : getK d.kvs k with
  | none => rw [e] at g; rw [show valV vs (Ky.key k) = none from g]; rfl
  | some x => rw [e] at g; obtain ⟨y, hy, _⟩ := g; rw [hy]; rfl
/-- sorted(d), texts -/
theorem en_sortK (C : Ct X N sc fb W) {ma : M (Dc Tx α)} (ha : EV X W Γ a ma) (hg : gloB sc "sorted" = true) (hm : X.mg "sorted" = none) (pl : Pl a := by intro _ _; rfl) :
    EN X W Γ (.Call (.Name "sorted" p) [a] [] pos) (ma >>= fun d => if d.kvs.length ≤ sizeLine then .ok (srtT (keysD d)) else stk) :=
  en_b1 C.toCt0 (fun d : Dc Tx α => (if d.kvs.length ≤ sizeLine then .ok (srtT (keysD d)) else stk : M (List Tx))) (cr_sortKT C.c) (fun O H σ x v Q own hv q => by
    obtain ⟨pp, vs, ev, h1, h2, h3⟩ := hv
    split at q
    · rename_i hl
      have ek : ∀ {vs : List (L2.Key × V)} {kvs : List (Tx × α)}, All2 (KvOk X.K (hide O H)) vs kvs → vs.map (·.1) = ((kvs.map Prod.fst).map sT).map Sum.inr ∧ ∀ z ∈ kvs.map Prod.fst, okT z := fun a => by
        induction a with
        | nil => exact ⟨rfl, fun z hz => by cases hz⟩
        | cons h t ih =>
          refine ⟨by rw [List.map_cons, ih.1, h.1]; rfl, fun z hz => ?_⟩
          rcases List.mem_cons.mp hz with e | e
          · rw [e]; exact h.2.1
          · exact ih.2 z e
      obtain ⟨k1, k2⟩ := ek h2
      refine ⟨pp, vs, (keysD x).map sT, by rw [ev], ex_rd hide_le h1, k1, fun ys p pm pw hp => ?_⟩
      rw [srtT_of pm pw]
      exact q p _ _ (Ex.new hp) hp upd_same ⟨_, rfl, txs_new k2, by rw [(srtB_perm leT (keysD x)).length_eq]; show (x.kvs.map Prod.fst).length ≤ _; rw [List.length_map]; exact hl⟩
    · exact q.elim) ha hg hm (by decide +kernel) (by decide) (by decide) pl
end
section
variable {X : Cx} {Wx : XW} {Γ Γ' : Ctx} {e a b c : Expr} {pos p p1 p2 q1 q2 q3 : Pos} {N : List Str} {sc : Scope} {n : Str} {S S' L R : Type} {RT : RTT R} {Γn : S → Ctx} {Γl : L → Ctx} {rest : List Stmt}
variable {κ α : Type} [Den κ] [Flat κ] [Ky κ] [Den α]
/-- n[k] = e, n's dict owned -/
theorem sv_dput (C : Cd X N sc Wx) (i : Nat) {d : Dc κ α} {me : M α} {mk : M κ} {mr : Dc κ α → M (Fl S L R)} (hi : Γ[i]? = some (.ow d)) (hn : N[i]? = some n) (hv : visB sc n = true) (h : EV X (lw Wx) Γ e me) (hb : EV X (lw Wx) Γ b mk)
    (k : ∀ ys : Dc κ α, SV X Wx RT (Γ.set i (.ow ys)) rest (mr ys) Γn Γl) (hd : (n == ("__debug__" : Str)) = false := by decide) (hcd : (n == ("__classdict__" : Str)) = false := by decide) (hs : swapsWith e (some (.Subscript (.Name n q1) b q2)) q3.line X.env = pure false := by rfl) :
    SV X Wx RT Γ (.Assign [.Subscript (.Name n q1) b q2] e q3 :: rest) (me >>= fun x => mk >>= fun j => putM d j x >>= mr) Γn Γl := .mk fun H0 Ox σ H D en q => by
  refine PSsw (pss_cons (ps_dput (hu_of C.toCt0) (pv_of C.toCt0 i hn hv hd hcd) pe_w pe_w hs) pss_w) ?_
  refine h H0 Ox σ H en _ (po_bind en.ex q fun x _ q2 v H2 z hv2 => ?_)
  have en2 := en.mono z
  obtain ⟨pp, o, g1, g2, g3, vs, e1, e2, e3⟩ := en2.getOw hi
  subst e1
  refine ⟨.ref pp, g1, hb H0 Ox σ H2 en2 _ (po_bind en2.ex q2 fun j _ q3 u H3 z3 hu => ?_)⟩
  unfold putM at q3
  split at q3
  · rename_i hl
    have en3 := en2.mono z3
    have hf := Flat.is.mp hu
    refine ⟨pp, _, rfl, .inl ⟨vs, Ky.key j, z3 pp _ g3, by rw [hf.1, Ky.kv], by rw [e2.len]; exact hl, rfl⟩, ?_⟩
    refine k ⟨putL d.kvs j x⟩ H0 Ox σ _ D (en3.write (o' := .dK (putK vs (Ky.key j) v)) (y' := (⟨putL d.kvs j x⟩ : Dc κ α)) hi g2 g1 ⟨_, rfl, ?_, putL_nodup e3⟩) q3
    exact kv_put hf.2 (Den.mono (hide_ex z3) hv2) (e2.imp fun u y hu => ⟨hu.1, hu.2.1, Den.mono (hide_ex z3) hu.2.2⟩) e3
  · exact q3.elim
end
end P3

set_option Elab.async false
set_option linter.all false
set_option maxRecDepth 100000
set_option maxHeartbeats 4000000
namespace P3
open PySem PySem.Spec PyProof.Rows L2
open Den (den)
open Ob (ob)

/-! comprehensions over a dict -/
theorem ExD.lock {H : Hp} {d : Addr} {u : HO} {od : Obj} (h : H d = some u) (hu : isD u) : ExD H (upd H d (.frz od u)) := fun a o e => by
  by_cases q : a = d
  · subst q
    rw [h] at e
    cases e
    exact .inr ⟨od, u, hu, .inl ⟨rfl, upd_same⟩⟩
  · exact .inl (by rw [upd_ne q]; exact e)
theorem ExD.free {H : Hp} {d : Addr} {u : HO} {od : Obj} (h : H d = some (.frz od u)) (hu : isD u) : ExD H (upd H d u) := fun a o e => by
  by_cases q : a = d
  · subst q
    rw [h] at e
    cases e
    exact .inr ⟨od, u, hu, .inr ⟨rfl, upd_same⟩⟩
  · exact .inl (by rw [upd_ne q]; exact e)
theorem ExD.hide {O : List Addr} {H H' : Hp} (e : ExD H H') : ExD (hide O H) (hide O H') := fun a o h => by
  obtain ⟨m, q⟩ := hide_some h
  rw [hide_out m]
  exact e a o q
theorem lock_all {K : Fg} {H : Hp} {O : List Addr} {d : Addr} {u : HO} {od : Obj} (h : H d = some u) (hu : isD u) : ∀ {Γ : Ctx} {σ : L2.St}, All2 (SlotOk K H O) Γ σ → (∀ p ∈ owns Γ σ, p ≠ d) → All2 (SlotOk K (upd H d (.frz od u)) O) Γ σ
  | _, _, .nil, _ => .nil
  | s :: Γ, ov :: σ, .cons a t, nd => by
    have E : ExD H (upd H d (.frz od u)) := ExD.lock h hu
    have sub : ∀ p ∈ owns Γ σ, p ∈ owns (s :: Γ) (ov :: σ) := fun p hp => by
      cases s with
      | un => simpa [owns] using hp
      | va x => simpa [owns] using hp
      | ow x => cases ov with
        | none => simpa [owns] using hp
        | some v => cases v <;> first | (simpa [owns] using hp) | (simp [owns]; exact .inr hp)
    refine .cons ?_ (lock_all h hu t fun p hp => nd p (sub p hp))
    cases s with
    | un => trivial
    | va x => obtain ⟨v, h1, h2⟩ := a; exact ⟨v, h1, Den.monoD E.hide h2⟩
    | ow x =>
      obtain ⟨p, o, h1, h2, h3⟩ := a
      subst h1
      have : p ≠ d := nd p (by simp [owns])
      exact ⟨p, o, rfl, by rw [upd_ne this]; exact h2, Ob.omonoD E.hide h3⟩
theorem Env.lock {K : Fg} {H0 H : Hp} {Ox : List Addr} {Γ : Ctx} {σ : L2.St} (en : Env K H0 Ox Γ σ H) {d : Addr} {u : HO} {od : Obj} (h : H d = some u) (hu : isD u) (nd : d ∉ Ox ++ owns Γ σ) : Env K (fun _ => none) Ox Γ σ (upd H d (.frz od u)) :=
  ⟨lock_all h hu en.ok fun p hp e => nd (by rw [← e]; exact List.mem_append_right _ hp), en.nd, fun p hp => rfl, fun p hp => by
    by_cases q : p = d
    · rw [q, upd_same]; exact fun w => nomatch w
    · rw [upd_ne q]; exact en.ox p hp, en.dj, fun a o e => nomatch e⟩
theorem Env.bare {K : Fg} {H0 H : Hp} {Ox : List Addr} {Γ : Ctx} {σ : L2.St} (en : Env K H0 Ox Γ σ H) : Env K (fun _ => none) Ox Γ σ H := ⟨en.ok, en.nd, fun p hp => rfl, en.ox, en.dj, fun a o e => nomatch e⟩
def keysM {κ α : Type} (d : Dc κ α) : M (List κ) := if d.kvs.length ≤ sizeLine then .ok (keysD d) else stk
section
variable {X : Cx} {W : WX} {Γ Γ' : Ctx} {e a b c : Expr} {pos p p1 p2 q1 q2 q3 : Pos} {N : List Str} {sc : Scope} {fb : Str → Bool} {n : Str}
variable {κ α β : Type} [Den κ] [Flat κ] [Ky κ] [Den α] [Den β]
theorem walk_keysK {K : Fg} {O : List Addr} {H : Hp} {pp : Addr} {od : Obj} {vs : List (L2.Key × V)} {kvs : List (κ × α)} (hp : H pp = some (.frz od (.dK vs))) (nO : pp ∉ O) (h : All2 (KvOk K (hide O H)) vs kvs) : WalkOk K (Itk pp od vs) (hide O H) (kvs.map Prod.fst) := fun i H' e =>
  ⟨fun x hi => by
    rw [List.getElem?_map] at hi
    cases hq : kvs[i]? with
    | none => rw [hq] at hi; cases hi
    | some q =>
      rw [hq] at hi
      cases hi
      obtain ⟨p, hp2, hk⟩ := h.ta_ hq
      have hH' : H' pp = some (.frz od (.dK vs)) := e _ _ (by rw [hide_out nO]; exact hp)
      refine ⟨⟨hH', (List.getElem?_eq_some_iff.mp hp2).1⟩, fun v H'' y => ?_⟩
      obtain ⟨e1, k, w, e2, e3⟩ := y
      subst e1
      rw [hp2] at e2
      cases e2
      refine ⟨Ex.refl _, fun O' _ _ => Flat.is.mpr ⟨?_, hk.2.1⟩⟩
      rw [e3, Ky.kv, ← hk.1], fun hi => by
    refine ⟨e _ _ (by rw [hide_out nO]; exact hp), ?_⟩
    rw [hi, List.length_map, ← h.len]
    exact Nat.le_refl _⟩
theorem lcD_core (C : Ct X N sc fb W) (i : Nat) {d : Dc κ α} (hi : Γ[i]? = some (.va d)) {tg elt : Expr} {ifs : List Expr} {scope : Scope} {cf : κ → M Bool} {f : κ → M β} {g : TG} {tt : TT} {te : TE} {ts vs0 : List Nat} {Γt : κ → Ctx}
    (pe : ∀ td : TE, PE X (.Name n q1) td → PE X (.ListComp elt [⟨tg, .Name n q1, ifs, 0⟩] scope pos) (tLc (iKeys td) g tt te vs0)) (pv : PE X (.Name n q1) (tVar i))
    (hG : GOk X.K g ts (dropOw (wipeC Γ vs0)) Γt) (hts : ∀ i ∈ ts, i ∈ vs0)
    (hc : ∀ x H0 Ox σ H, Env X.K H0 Ox (Γt x) σ H → ∀ Q : Bool → Hp → Prop, PoX X.mg H (fun _ _ _ => False) (fun b => ∀ H2, Ex H H2 → Q b H2) (cf x) → tt σ H Q)
    (he : ∀ x H0 Ox σ H, Env X.K H0 Ox (Γt x) σ H → ∀ Q : VK, PoE X.K X.mg (Ox ++ owns (Γt x) σ) H (fun _ _ _ => False) Q (f x) → te σ H Q) :
    EN X W Γ (.ListComp elt [⟨tg, .Name n q1, ifs, 0⟩] scope pos) (keysM d >>= fun xs => compM cf f xs) := .mk fun H0 Ox σ H en Q q => by
  obtain ⟨v, h1, pp, vs, ev, h2, h3, h4⟩ := en.get hi
  subst ev
  have nO : pp ∉ Ox ++ owns Γ σ := fun z => by
    rcases h2 with h2 | ⟨o, h2⟩ <;> (rw [hide_in z] at h2; cases h2)
  have few : ∀ (G : List β → Prop) (H : Hp), PoX X.mg H (fun c d H2 => W c d σ H2) G (keysM d >>= fun xs => compM cf f xs) → d.kvs.length ≤ sizeLine := fun G H q => by
    unfold keysM at q
    split at q
    · assumption
    · exact q.elim
  have hl := few _ H q
  have rd : Rd H pp (.dK vs) := ex_rd hide_le h2
  rcases rd with rd | ⟨od, rd⟩
  · -- not locked yet
    refine PEw (pe_lock (pe _ pv)) ⟨pp, .dK vs, rd, trivial, fun od => ?_⟩
    have en1 := en.lock (od := od) rd trivial nO
    have E : ExD (hide (Ox ++ owns Γ σ) H) (hide (Ox ++ owns Γ σ) (upd H pp (.frz od (.dK vs)))) := (ExD.lock rd trivial).hide
    have h3' := h3.imp fun p q (h : KvOk X.K (hide (Ox ++ owns Γ σ) H) p q) => (⟨h.1, h.2.1, Den.monoD E h.2.2⟩ : KvOk X.K (hide (Ox ++ owns Γ σ) (upd H pp (.frz od (.dK vs)))) p q)
    refine lc_readsAt (mx := keysM d) (cf := cf) (f := f) (W := W0) (fun R hR => ?_) hG hts hc he en1 ?_
    · unfold keysM at hR
      rw [if_pos hl] at hR
      exact ⟨.ref pp, h1, pp, od, rfl, .inl ⟨vs, upd_same, hR _ _ (Ex.refl _) (by unfold keysD; rw [List.length_map]; exact hl) (walk_keysK upd_same nO h3')⟩⟩
    · have q' := q
      unfold keysM at q' ⊢
      rw [if_pos hl] at q' ⊢
      have q' : PoN X.K X.mg (Ox ++ owns Γ σ) H (fun c d H2 => W c d σ H2) Q (compM cf f (keysD d)) := q'
      show PoN X.K X.mg (Ox ++ owns Γ σ) _ _ _ (compM cf f (keysD d))
      cases hz : compM cf f (keysD d) with
      | error er => cases er with
        | stuck => rw [hz] at q'; exact q'.elim
        | exc w => exact (compM_noexc _ hz).elim
      | ok zs =>
        rw [hz] at q'
        intro r o H2 z hr ho hob
        have hpp : H2 pp = some (.frz od (.dK vs)) := z _ _ upd_same
        have npr : r ≠ pp := fun e => by rw [e, upd_same] at hr; cases hr
        refine ⟨hpp, q' r o _ (fun a oo ha => ?_) ?_ (by rw [upd_ne npr]; exact ho) (Ob.omonoD (ExD.free hpp trivial).hide hob)⟩
        · by_cases e : a = pp
          · subst e
            rw [rd] at ha
            cases ha
            exact upd_same
          · rw [upd_ne e]
            exact z a oo (by rw [upd_ne e]; exact ha)
        · rw [upd_ne npr] at hr
          exact hr
  · -- locked by an outer walk
    refine PEw (pe _ pv) ?_
    refine lc_readsAt (mx := keysM d) (cf := cf) (f := f) (W := W) (fun R hR => ?_) hG hts hc he en q
    unfold keysM at hR
    rw [if_pos hl] at hR
    exact ⟨.ref pp, h1, pp, od, rfl, .inl ⟨vs, rd, hR _ _ (Ex.refl _) (by unfold keysD; rw [List.length_map]; exact hl) (walk_keysK rd nO h3)⟩⟩
/-- [elt for tg in d] -/
theorem en_lcD (C : Ct X N sc fb W) (i : Nat) {d : Dc κ α} (hi : Γ[i]? = some (.va d)) (hn : N[i]? = some n) (hv : visB sc n = true) {tg elt : Expr} {scope : Scope} (own : List (Str × Nat)) {f : κ → M β} {g : TG} {ts : List Nat} {Γt : κ → Ctx}
    (hb : blkC N sc scope own = true) (hG : GOk X.K g ts (dropOw (wipeC Γ (own.map (·.2)))) Γt) (hts : ∀ i ∈ ts, i ∈ own.map (·.2))
    (hg : ∀ s H D cl fp, PG (X.blk s H scope (compEnvC scope cl D X.env) fp) tg g)
    (he : ∀ x s H D cl fp, EV (X.blk s H scope (compEnvC scope cl D X.env) fp) W0 (Γt x) elt (f x))
    (hd : (n == ("__debug__" : Str)) = false := by decide) (hcd : (n == ("__classdict__" : Str)) = false := by decide) :
    EN X W Γ (.ListComp elt [⟨tg, .Name n q1, [], 0⟩] scope pos) (keysM d >>= fun xs => mapM' f xs) := by
  have e : (fun xs => mapM' f xs) = fun xs => compM (fun _ => .ok true) f xs := by funext xs; exact mapM'_eq f xs
  rw [e]
  exact lcD_core (te := fun σ H Q => ∀ s H' D cl fp, we (X.blk s H' scope (compEnvC scope cl D X.env) fp) elt σ H Q) C i hi (fun td pv => pe_lc (own := own) C.c (by rw [C.n]; exact C.nd) (pi_keys pv) (by rw [C.n, C.s]; exact blkOk_by hb) (fun s H D cl fp => hg s H D cl fp) (fun s H D cl fp => pts_nil) (fun s H D cl fp => ⟨fun pins s' σ' H' Q' I h => h s H D cl fp pins s' I⟩)) (pv_of C.toCt0 i hn hv hd hcd) hG hts
    (fun x H0 Ox σ H _ Q h => h H (Ex.refl H)) (fun x H0 Ox σ H en Q h s H' D cl fp => he x s H' D cl fp H0 Ox σ H en Q h)
theorem en_lcDIf (C : Ct X N sc fb W) (i : Nat) {d : Dc κ α} (hi : Γ[i]? = some (.va d)) (hn : N[i]? = some n) (hv : visB sc n = true) {tg elt cond : Expr} {scope : Scope} (own : List (Str × Nat)) {cf : κ → M Bool} {f : κ → M β} {g : TG} {ts : List Nat} {Γt : κ → Ctx}
    (hb : blkC N sc scope own = true) (hG : GOk X.K g ts (dropOw (wipeC Γ (own.map (·.2)))) Γt) (hts : ∀ i ∈ ts, i ∈ own.map (·.2))
    (hg : ∀ s H D cl fp, PG (X.blk s H scope (compEnvC scope cl D X.env) fp) tg g)
    (hc : ∀ x s H D cl fp, ET (X.blk s H scope (compEnvC scope cl D X.env) fp) W0 (Γt x) cond (cf x))
    (he : ∀ x s H D cl fp, EV (X.blk s H scope (compEnvC scope cl D X.env) fp) W0 (Γt x) elt (f x))
    (hd : (n == ("__debug__" : Str)) = false := by decide) (hcd : (n == ("__classdict__" : Str)) = false := by decide) :
    EN X W Γ (.ListComp elt [⟨tg, .Name n q1, [cond], 0⟩] scope pos) (keysM d >>= fun xs => compM cf f xs) :=
  lcD_core (tt := fun σ H Q => ∀ s H' D cl fp, wt (X.blk s H' scope (compEnvC scope cl D X.env) fp) cond σ H Q) (te := fun σ H Q => ∀ s H' D cl fp, we (X.blk s H' scope (compEnvC scope cl D X.env) fp) elt σ H Q) C i hi
    (fun td pv => pe_lc (own := own) C.c (by rw [C.n]; exact C.nd) (pi_keys pv) (by rw [C.n, C.s]; exact blkOk_by hb) (fun s H D cl fp => hg s H D cl fp) (fun s H D cl fp => pts_one ⟨fun pins s' σ' H' Q' I h => h s H D cl fp pins s' I⟩) (fun s H D cl fp => ⟨fun pins s' σ' H' Q' I h => h s H D cl fp pins s' I⟩)) (pv_of C.toCt0 i hn hv hd hcd) hG hts
    (fun x H0 Ox σ H en Q h s H' D cl fp => hc x s H' D cl fp H0 Ox σ H en Q h) (fun x H0 Ox σ H en Q h s H' D cl fp => he x s H' D cl fp H0 Ox σ H en Q h)
end
end P3

set_option Elab.async false
set_option linter.all false
set_option maxRecDepth 100000
set_option maxHeartbeats 4000000
namespace P3
open PySem PySem.Spec PyProof.Rows L2
open Den (den)
open Ob (ob)

def maxM : List Int → M Int
  | [] => stk
  | x :: xs => .ok (xs.foldl max x)
theorem max_fold : ∀ (xs : List Int) (x : Int), xs.foldl max x ∈ x :: xs ∧ ∀ y ∈ x :: xs, y ≤ xs.foldl max x
  | [], x => ⟨by simp, fun y hy => by rw [List.mem_singleton.mp hy]; exact Int.le_refl _⟩
  | z :: xs, x => by
    obtain ⟨h1, h2⟩ := max_fold xs (max x z)
    show xs.foldl max (max x z) ∈ _ ∧ ∀ y ∈ x :: z :: xs, y ≤ xs.foldl max (max x z)
    refine ⟨?_, fun y hy => ?_⟩
    · rcases List.mem_cons.mp h1 with e | e
      · rw [e]
        rcases Int.le_total x z with q | q
        · rw [Int.max_eq_right q]; simp
        · rw [Int.max_eq_left q]; simp
      · exact List.mem_cons_of_mem _ (List.mem_cons_of_mem _ e)
    · have := h2 (max x z) List.mem_cons_self
      rcases List.mem_cons.mp hy with e | e
      · omega
      · rcases List.mem_cons.mp e with e | e
        · omega
        · exact h2 y (List.mem_cons_of_mem _ e)
def okB (x : Tx) : Bool := decide (x.l.length ≤ sizeLine) && x.l.all (fun c => decide (c < 0x110000))
theorem okB_iff {x : Tx} (h : okB x = true) : okT x := by
  unfold okB at h
  rw [Bool.and_eq_true] at h
  exact ⟨of_decide_eq_true h.1, h.2⟩
def splitL (x y : Tx) : List Tx := (PySem.Txt.split (sT x) (sT y)).map tT
def splitT (x y : Tx) : M (List Tx) := if y.l ≠ [] ∧ x.l.length + 2 ≤ sizeLine ∧ (splitL x y).length ≤ sizeLine ∧ (splitL x y).all okB = true then .ok (splitL x y) else stk
def inT (x y : Tx) : Bool := !(Builtin.Str.occurrences (sT y) (sT x) 0 (sT y).length 1).isEmpty
section
variable {X : Cx} {W : WX} {Γ Γ' : Ctx} {e a b c : Expr} {pos p p1 p2 q1 q2 q3 : Pos} {N : List Str} {sc : Scope} {fb : Str → Bool} {n : Str}
theorem ev_ltT {ma mb : M Tx} (ha : EV X W Γ a ma) (hb : EV X W Γ b mb) : EV X W Γ (.Compare a [.Lt] [b] pos) (ma >>= fun x => mb >>= fun y => .ok (ltT x.l y.l)) :=
  ev_cmp (fun (x y : Tx) => (.ok (ltT x.l y.l) : M Bool)) op_lt_str (fun O H σ x y v u Q hv hu q => ⟨sT x, sT y, hv.1, hu.1, by
    rw [show decide ((sT x).cps.toList < (sT y).cps.toList) = ltT x.l y.l from (ltT_lt _ _).symm]
    exact q _ H (Ex.refl H) ⟨rfl, trivial⟩⟩) ha hb (nomark _)
theorem ev_gtT {ma mb : M Tx} (ha : EV X W Γ a ma) (hb : EV X W Γ b mb) : EV X W Γ (.Compare a [.Gt] [b] pos) (ma >>= fun x => mb >>= fun y => .ok (ltT y.l x.l)) :=
  ev_cmp (fun (x y : Tx) => (.ok (ltT y.l x.l) : M Bool)) op_gt_str (fun O H σ x y v u Q hv hu q => ⟨sT x, sT y, hv.1, hu.1, by
    rw [show decide ((sT y).cps.toList < (sT x).cps.toList) = ltT y.l x.l from (ltT_lt _ _).symm]
    exact q _ H (Ex.refl H) ⟨rfl, trivial⟩⟩) ha hb (nomark _)
theorem ev_inT {ma mb : M Tx} (ha : EV X W Γ a ma) (hb : EV X W Γ b mb) (hm : behindInMarks .In b = false) : EV X W Γ (.Compare a [.In] [b] pos) (ma >>= fun x => mb >>= fun y => .ok (inT x y)) :=
  ev_cmp (fun (x y : Tx) => (.ok (inT x y) : M Bool)) op_in_str (fun O H σ x y v u Q hv hu q => ⟨sT x, sT y, hv.1, hu.1, q _ H (Ex.refl H) ⟨rfl, trivial⟩⟩) ha hb hm
theorem ev_ninT {ma mb : M Tx} (ha : EV X W Γ a ma) (hb : EV X W Γ b mb) (hm : behindInMarks .NotIn b = false) : EV X W Γ (.Compare a [.NotIn] [b] pos) (ma >>= fun x => mb >>= fun y => .ok (!(inT x y))) :=
  ev_cmp (fun (x y : Tx) => (.ok (!(inT x y)) : M Bool)) op_notIn_str (fun O H σ x y v u Q hv hu q => ⟨sT x, sT y, hv.1, hu.1, by
    unfold inT at q
    first
    | exact q _ H (Ex.refl H) ⟨rfl, trivial⟩
    | (rw [Bool.not_not] at q; exact q _ H (Ex.refl H) ⟨rfl, trivial⟩)⟩) ha hb hm
theorem ev_maxL (C : Ct X N sc fb W) {ma : M (List Int)} (ha : EV X W Γ a ma) (hg : gloB sc "max" = true) (hm : X.mg "max" = none) (pl : Pl a := by intro _ _; rfl) :
    EV X W Γ (.Call (.Name "max" p) [a] [] pos) (ma >>= maxM) :=
  ev_b1 C.toCt0 maxM (cr_max C.c) (fun O H σ x v Q _ hv q => by
    obtain ⟨pp, vs, ev, h1, h2, _⟩ := hv
    have e := ints_of h2
    subst e
    cases x with
    | nil => exact q.elim
    | cons z xs =>
      obtain ⟨k1, k2⟩ := max_fold xs z
      refine ⟨pp, z :: xs, by rw [ev], ex_l hide_le h1, by simp, fun m m1 m2 => ?_⟩
      have : m = xs.foldl max z := Int.le_antisymm (k2 m m1) (m2 _ k1)
      rw [this]
      exact q _ H (Ex.refl H) ⟨rfl, trivial⟩) ha hg hm boot_max (by decide) (by decide) pl
theorem ev_sumL (C : Ct X N sc fb W) {ma : M (List Int)} (ha : EV X W Γ a ma) (hg : gloB sc "sum" = true) (hm : X.mg "sum" = none) (pl : Pl a := by intro _ _; rfl) :
    EV X W Γ (.Call (.Name "sum" p) [a] [] pos) (ma >>= fun xs => .ok xs.sum) :=
  ev_b1 C.toCt0 (fun xs : List Int => (.ok xs.sum : M Int)) (cr_sum C.c) (fun O H σ x v Q _ hv q => by
    obtain ⟨pp, vs, ev, h1, h2, _⟩ := hv
    have e := ints_of h2
    subst e
    exact ⟨pp, x, by rw [ev], ex_l hide_le h1, q _ H (Ex.refl H) ⟨rfl, trivial⟩⟩) ha hg hm (by decide +kernel) (by decide) (by decide) pl
theorem en_split {ma mb : M Tx} (ha : EV X W Γ a ma) (hb : EV X W Γ b mb) (pl : Pl b := by intro _ _; rfl) (hbase : attributeBase a "split" X.env (eval a X.env) = eval a X.env := by rfl) (hline : (q1.endLine == q2.line) = true := by rfl) :
    EN X W Γ (.Call (.Attribute a "split" q1) [b] [] q2) (ma >>= fun x => mb >>= fun y => splitT x y) := .mk fun H0 Ox σ H en Q q => by
  refine PEw (pe_bm PySem.F.plainAttrs_str PySem.F.slot_str_split PySem.F.type_str_split mt_split pe_w (pa_cons pe_w pa_nil (pl _ _)) (hbase := hbase) (hfew := by rw [pl]; rfl) (hs := pl _ _) (hline := hline)) ?_
  refine ha.bind en q fun x v H2 _ z2 en2 hv q2 => ?_
  have ev := hv.1
  subst ev
  refine ⟨rfl, hb.bind en2 q2 fun y u H3 _ z3 en3 hu q3 => ?_⟩
  have eu := hu.1
  subst eu
  unfold splitT at q3
  split at q3
  · rename_i hc
    obtain ⟨c1, c2, c3, c4⟩ := hc
    refine ⟨sT x, sT y, rfl, rfl, ?_, c2, fun r hr => ?_⟩
    · cases hy : y.l with
      | nil => exact absurd hy c1
      | cons d r =>
        show ((sT y).length == 0) = false
        rw [sT_len, hy]
        rfl
    · have e : PySem.Txt.split (sT x) (sT y) = (splitL x y).map sT := by
        unfold splitL
        rw [List.map_map]
        exact (List.map_id _).symm
      rw [e]
      refine q3 r _ _ ((z2.trans z3).trans (Ex.new hr)) ((z2.trans z3).free hr) upd_same ⟨_, rfl, ?_, c3⟩
      rw [List.map_map]
      exact txs_den _ fun z hz => okB_iff (List.all_eq_true.mp c4 z hz)
  · exact q3.elim
end
section
variable {X : Cx} {Wx : XW} {Γ Γ' : Ctx} {e a b c : Expr} {pos p p1 p2 q1 q2 q3 q4 : Pos} {N : List Str} {sc : Scope} {n : Str} {S S' L R : Type} {RT : RTT R} {Γn : S → Ctx} {Γl : L → Ctx} {rest : List Stmt} {st : Stmt}
/-! xs.pop(), xs owned -/
def popM {α : Type} (xs : List α) : M (α × List α) := match xs.getLast? with
  | some x => .ok (x, xs.dropLast)
  | none => stk
theorem last_at {α : Type} {xs : List α} {x : α} (h : xs.getLast? = some x) : xs[xs.length - 1]? = some x := by rw [← List.getLast?_eq_getElem?]; exact h
theorem All2.dropLast {α : Type} {K : Fg} {H : Hp} [Den α] {vs : List V} {xs : List α} (h : All2 (den K H) vs xs) : All2 (den K H) vs.dropLast xs.dropLast := by
  rw [List.dropLast_eq_take, List.dropLast_eq_take, h.len]
  exact h.take _
/-- xs.pop() alone -/
theorem sv_pop (C : Cd X N sc Wx) (i : Nat) {α : Type} [Den α] {xs : List α} {mr : α × List α → M (Fl S L R)} (hi : Γ[i]? = some (.ow xs)) (hn : N[i]? = some n) (hv : visB sc n = true)
    (k : ∀ y ys, SV X Wx RT (Γ.set i (.ow ys)) rest (mr (y, ys)) Γn Γl) (hd : (n == ("__debug__" : Str)) = false := by decide) (hcd : (n == ("__classdict__" : Str)) = false := by decide) (hline : (q2.endLine == q3.line) = true := by rfl) :
    SV X Wx RT Γ (.Expr (.Call (.Attribute (.Name n q1) "pop" q2) [] [] q3) q4 :: rest) (popM xs >>= mr) Γn Γl := .mk fun H0 Ox σ H D en q => by
  obtain ⟨pp, o, h1, h2, h3, vs, e1, e2, e3⟩ := en.getOw hi
  subst e1
  refine PSsw (pss_cons (ps_expr (pe_bm0 PySem.F.plainAttrs_list PySem.F.slot_list_pop PySem.F.type_list_pop mt_pop (pv_of C.toCt0 i hn hv hd hcd) (hline := hline))) pss_w) ?_
  refine ⟨.ref pp, h1, .inl ⟨rfl, _, .inl (.inl h3)⟩, ?_⟩
  unfold popM at q
  cases hl : xs.getLast? with
  | none => rw [hl] at q; exact q.elim
  | some y =>
    rw [hl] at q
    obtain ⟨v, hv2, dv⟩ := e2.ta_ (last_at hl)
    rw [← e2.len] at hv2
    refine ⟨pp, vs, v, rfl, rfl, h3, hv2, ?_⟩
    exact k y xs.dropLast H0 Ox σ _ D (en.write (o' := .lst vs.dropLast) (y' := xs.dropLast) hi h2 h1 ⟨_, rfl, e2.dropLast, by rw [List.length_dropLast]; omega⟩) q
end
end P3

set_option Elab.async false
set_option linter.all false
set_option maxRecDepth 100000
set_option maxHeartbeats 4000000
namespace P3
open PySem PySem.Spec PyProof.Rows L2
open Den (den)
open Ob (ob)

/-! the least of some texts; if and else in the body of a try -/
def minT : List Tx → M Tx
  | [] => stk
  | x :: xs => .ok (xs.foldl (fun a y => if ltT y.l a.l = true then y else a) x)
theorem min_foldT : ∀ (xs : List Tx) (x : Tx), xs.foldl (fun a y => if ltT y.l a.l = true then y else a) x ∈ x :: xs ∧ ∀ y ∈ x :: xs, leT (xs.foldl (fun a y => if ltT y.l a.l = true then y else a) x) y = true
  | [], x => ⟨by simp, fun y hy => by rw [List.mem_singleton.mp hy]; exact (linT.total x x).elim id id⟩
  | z :: xs, x => by
    obtain ⟨h1, h2⟩ := min_foldT xs (if ltT z.l x.l = true then z else x)
    have hm : leT (if ltT z.l x.l = true then z else x) z = true ∧ leT (if ltT z.l x.l = true then z else x) x = true ∧ ((if ltT z.l x.l = true then z else x) = z ∨ (if ltT z.l x.l = true then z else x) = x) := by
      by_cases c : ltT z.l x.l = true
      · rw [if_pos c]
        refine ⟨(linT.total z z).elim id id, ?_, .inl rfl⟩
        unfold leT
        rw [ltT_asym c]
        rfl
      · rw [if_neg c]
        refine ⟨?_, (linT.total x x).elim id id, .inr rfl⟩
        unfold leT
        simpa using c
    show xs.foldl _ (if ltT z.l x.l = true then z else x) ∈ x :: z :: xs ∧ ∀ y ∈ x :: z :: xs, leT (xs.foldl _ (if ltT z.l x.l = true then z else x)) y = true
    have h3 := h2 _ List.mem_cons_self
    constructor
    · rcases List.mem_cons.mp h1 with e | e
      · rw [e]
        rcases hm.2.2 with q | q
        · rw [q]; simp
        · rw [q]; simp
      · exact List.mem_cons_of_mem _ (List.mem_cons_of_mem _ e)
    · intro y hy
      rcases List.mem_cons.mp hy with rfl | hy
      · exact linT.trans _ _ _ h3 hm.2.1
      · rcases List.mem_cons.mp hy with rfl | hy
        · exact linT.trans _ _ _ h3 hm.1
        · exact h2 y (List.mem_cons_of_mem _ hy)
section
variable {X : Cx}
theorem cr_minS (hc : X.calm = true) : CallR X (.builtin "min") (fun vs H Q => ∃ (a : Addr) (x : Str) (xs : List Str), vs = [V.ref a] ∧ SqL X.K H a ((x :: xs).map V.str) ∧ Q (.str (xs.foldl (fun a y => if decide (y.cps.toList < a.cps.toList) = true then y else a) x)) H) := by
  intro pins s σ H vs us Q I r h
  obtain ⟨a, x, xs, rfl, hs, q⟩ := h
  obtain ⟨its, rv, hl, _⟩ := I.list hs
  rw [Vals.ref1 r]
  have hi := rv.strs
  have hlen := hi.len_eq
  rw [List.length_cons] at hlen
  refine call_min_walkH (PySem.W.iter_listW (A := X.A.in1) (I.ok.hd hc) hl.isList fun s₂ e W st hfp hw hk => ?_)
  refine ⟨_, _, _, _, _, _, _, s.heap, fun i j => decide (((x :: xs).getD i "").cps.toList < ((x :: xs).getD j "").cps.toList), rfl, W, st, hfp, by rw [List.size_toArray, hlen]; exact Nat.succ_pos _, hw, hk, fun i j vi vj s' Q E _ hi1 hj1 hq => ?_, fun v s' hP m => ?_⟩
  · obtain ⟨y, t, rfl, e1⟩ := hi.item i vi (by simpa using hi1)
    obtain ⟨z, t', rfl, e2⟩ := hi.item j vj (by simpa using hj1)
    refine lt_str (x := y) (y := z) (t := t) (u := t') ?_
    dsimp only at hq
    rw [List.getD_eq_getElem?_getD, e1, List.getD_eq_getElem?_getD, e2] at hq
    exact hq
  · obtain ⟨h', tk, rfl, hk'⟩ := PySem.W.moved_old e rfl m
    have e1 : its.toArray.size - 1 = xs.length := by rw [List.size_toArray, hlen]; rfl
    rw [e1] at hP
    have e2 := (PySem.W.argBest_fold (fun u v : Str => decide (u.cps.toList < v.cps.toList)) ("" : Str) x xs xs.length (Nat.le_refl _)).2
    rw [List.take_length] at e2
    obtain ⟨y, t, rfl, e3⟩ := hi.item _ v (by rw [List.getElem?_toArray] at hP; exact hP)
    rw [List.getD_eq_getElem?_getD, e3] at e2
    have e2 : y = _ := e2
    rw [← e2] at q
    exact ⟨.str y, H, I.kept hk', ⟨t, rfl⟩, q⟩
end
section
variable {X : Cx} {W : WX} {Γ Γ' : Ctx} {e a b c : Expr} {pos p p2 : Pos} {N : List Str} {sc : Scope} {fb : Str → Bool} {n : Str}
theorem ev_minT (C : Ct X N sc fb W) {ma : M (List Tx)} (ha : EV X W Γ a ma) (hg : gloB sc "min" = true) (hm : X.mg "min" = none) (pl : Pl a := by intro _ _; rfl) :
    EV X W Γ (.Call (.Name "min" p) [a] [] pos) (ma >>= minT) :=
  ev_b1 C.toCt0 minT (cr_minS C.c) (fun O H σ x v Q _ hv q => by
    obtain ⟨pp, vs, ev, h1, h2, _⟩ := hv
    obtain ⟨e, ok⟩ := txs_of h2
    subst e
    cases x with
    | nil => exact q.elim
    | cons z xs =>
      refine ⟨pp, sT z, xs.map sT, by rw [ev], ?_, ?_⟩
      · exact ex_l hide_le h1
      · have e6 : ∀ (l : List Tx) (z : Tx), (l.map sT).foldl (fun a y => if decide (y.cps.toList < a.cps.toList) = true then y else a) (sT z) = sT (l.foldl (fun a y => if ltT y.l a.l = true then y else a) z) := by
          intro l
          induction l with
          | nil => intro z; rfl
          | cons y l ih =>
            intro z
            rw [List.map_cons, List.foldl_cons, List.foldl_cons, ← ih]
            congr 1
            have : decide ((sT y).cps.toList < (sT z).cps.toList) = ltT y.l z.l := (ltT_lt _ _).symm
            rw [this]
            cases ltT y.l z.l <;> rfl
        rw [e6]
        exact q _ H (Ex.refl H) ⟨rfl, ok _ (min_foldT xs z).1⟩) ha hg hm (by decide +kernel) (by decide) (by decide) pl
end
section
variable {X : Cx} {W : WX} {Wx : XW} {Γ Γ' : Ctx} {e a b c : Expr} {pos p p1 p2 : Pos} {N : List Str} {sc : Scope} {fb : Str → Bool} {n : Str} {R S L : Type} {RT : RTT R} {Γn : S → Ctx} {Γl : L → Ctx}
theorem tb_exprU {α : Type} [Den α] {me : M α} (h : ∀ (W : WX) (pn : List (Addr × Obj)) (xe : Value → Shared → Prop), Takes (X.tr pn xe) W → EV (X.tr pn xe) W Γ e me) (hs : ∀ env, swapsWith e none pos.line env = pure false := by intro _; rfl) :
    TB X RT Γ [.Expr e pos] (me >>= fun _ => (.ok () : M Unit)) (fun _ => (.ok (.nx ()) : M (Fl Unit L R))) (fun _ : Unit => Γ) Γl := .mk fun W pn xe tk po H0 Ox σ H D en q => (tb_expr (RT := RT) (L := L) (R := R) (Γl := Γl) h hs) W pn xe tk po H0 Ox σ H D en (by
      cases me with
      | ok x => exact q
      | error er => cases er with
        | stuck => exact q
        | exc x => exact q)
theorem tb_if {α : Type} {mA mB : M α} {mb : α → M (Fl S L R)} {mc : M Bool} {bA bB : List Stmt} (hc : ∀ (W : WX) (pn : List (Addr × Obj)) (xe : Value → Shared → Prop), Takes (X.tr pn xe) W → ET (X.tr pn xe) W Γ c mc) (hA : TB X RT Γ bA mA mb Γn Γl) (hB : TB X RT Γ bB mB mb Γn Γl) :
    TB X RT Γ [.If c bA bB pos] (mc >>= fun x => if x = true then mA else mB) mb Γn Γl := .mk fun W pn xe tk po H0 Ox σ H D en q => by
  have br : ∀ {m : M α} {sts : List Stmt}, TB X RT Γ sts m mb Γn Γl → ∀ H2, Ex H H2 → PoX X.mg H2 (fun c d H2 => W c d σ H2) (fun r => PoS X.K X.mg H0 Ox Γn Γl RT (fun _ _ _ => True) D (mb r)) m → wss (X.tr pn xe) sts { D with nx := wss (X.tr pn xe) [] D } σ H2 := fun {m sts} h H2 z q2 => by
    refine h W pn xe tk po H0 Ox σ H2 _ (en.mono z) (PoX.imp (β := Unit) (Ex.refl H2) (fun r _ g => ?_) q2)
    cases hm : mb r with
    | error er => rw [hm] at g; cases er with
      | stuck => exact g
      | exc x => exact g
    | ok f =>
      rw [hm] at g
      cases f with
      | nx j => exact fun σ' H' en' => PSsw pss_nil (g σ' H' en')
      | rt r => exact g
      | bk l => exact g
      | ct l => exact g
  refine PSsw (pss_cons (ps_if pt_w pss_w pss_w) pss_w) (hc W pn xe tk H0 Ox σ H en _ ?_)
  cases mc with
  | error er => cases er with
    | stuck => exact q
    | exc x => exact q
  | ok x =>
    intro H2 z
    have q : PoX X.mg H (fun c d H2 => W c d σ H2) (fun r => PoS X.K X.mg H0 Ox Γn Γl RT (fun _ _ _ => True) D (mb r)) (if x = true then mA else mB) := q
    cases x with
    | true => exact br hA H2 z (PoX.imp (β := Unit) z (fun r _ g => g) q)
    | false => exact br hB H2 z (PoX.imp (β := Unit) z (fun r _ g => g) q)
end
end P3

set_option Elab.async false
set_option linter.all false
set_option maxRecDepth 100000
set_option maxHeartbeats 4000000
namespace P3
open PySem PySem.Spec PyProof.Rows L2
open Den (den)
open Ob (ob)

instance : Dat (Option Tx) where
  dat := fun x => match x with
    | some a => Dat.dat a
    | none => .none
  dd := 0
  dp := fun {K H v x} h => by
    cases x with
    | some a => exact Dat.dp h.2
    | none =>
      have h : v = .non := h
      subst h
      exact ⟨.non, by simp [PyData.canLay0]⟩
  dh := fun x => by cases x <;> simp [PyData.depth, Dat.dat]
  eqv := fun x y => by
    cases x with
    | none => cases y with
      | none => simp [PyData.eqv]
      | some b => simp [PyData.eqv, Dat.dat]
    | some a => cases y with
      | none => simp [PyData.eqv, Dat.dat]
      | some b =>
        show PyData.eqv (Dat.dat a) (Dat.dat b) = _
        rw [Dat.eqv]
        simp
/-! not, of any value; list(range(n)); xs.append(ys.pop(i)); a slot that may stand empty -/
section
variable {X : Cx} {W : WX} {Γ Γ' : Ctx} {e a b c : Expr} {pos p p2 : Pos} {N : List Str} {sc : Scope} {fb : Str → Bool} {n : Str}
theorem ev_notTru {α : Type} [Den α] [Tru α] {m : M α} (h : EV X W Γ a m) : EV X W Γ (.UnaryOp .Not a pos) (m >>= fun x => .ok (!(Tru.tru x))) := .mk fun H0 Ox σ H en Q q =>
  PEw (pe_notT pe_w) (h.bind en q fun x v H2 _ z2 en2 hv q2 => ⟨Tru.tru x, TruV.mono hide_le (Tru.is hv), q2 _ H2 z2 ⟨rfl, trivial⟩⟩)
theorem ev_mapSome {α : Type} [Den α] [NotNone α] {ma : M (List α)} (h : EV X W Γ a ma) : EV X W Γ a (ma >>= fun x => .ok (x.map some)) := .mk fun H0 Ox σ H en Q q => h H0 Ox σ H en Q (by
  cases ma with
  | ok x =>
    intro v H2 z hv
    refine q v H2 z ?_
    obtain ⟨pp, vs, e1, e2, e3, e4⟩ := hv
    refine ⟨pp, vs, e1, e2, ?_, by rw [List.length_map]; exact e4⟩
    clear e2 e4 q h
    induction e3 with
    | nil => exact .nil
    | cons h t ih => exact .cons ⟨NotNone.nn h, h⟩ ih
  | error er => cases er with
    | stuck => exact q
    | exc x => exact q)
theorem rgV_eq (n : Int) : rgV 0 n = (rng 0 (n - 0).toNat).map V.int := by
  unfold rgV rng
  rw [List.map_map]
  rfl
theorem en_listRng (C : Ct X N sc fb W) {m : M Int} (h : EV X W Γ a m) (hg : gloB sc "list" = true) (hm : X.mg "list" = none) (hg2 : gloB sc "range" = true) (hm2 : X.mg "range" = none) (na : starEach [a] X.env = (false, eval a X.env) :: starEach [] X.env := by rfl) (na2 : starEach [.Call (.Name "range" p) [a] [] p2] X.env = (false, eval (.Call (.Name "range" p) [a] [] p2) X.env) :: starEach [] X.env := by rfl) :
    EN X W Γ (.Call (.Name "list" pos) [.Call (.Name "range" p) [a] [] p2] [] pos2) (m >>= fun n => rngM 0 n) := .mk fun H0 Ox σ H en Q q =>
  PEw (pe_listRg C.c (gl_of C.toCt0 hg) hm (prg_1 (gl_of C.toCt0 hg2) hm2 pe_w na) na2) (h.bind en q fun n v H2 _ z en2 hv g => by
    have ev := hv.1
    subst ev
    unfold rngM at g
    split at g
    · rename_i hb
      obtain ⟨b1, b2, b3, b4, b5⟩ := hb
      refine ⟨n, rfl, ⟨by omega, by omega, by omega, by omega, by rw [sizeLine_eq] at b5; omega⟩, fun p hp => ?_⟩
      rw [rgV_eq]
      exact g p _ _ (z.trans (Ex.new hp)) (z.free hp) upd_same ⟨_, rfl, ints_den _, by rw [rng_len]; exact b5⟩
    · exact g.elim)
end
def popAtM {α : Type} (xs : List α) (i : Int) : M (α × List α) := if -(2 ^ 63) ≤ i ∧ i < 2 ^ 63 then (match seqIndex? i xs.length with
  | some k => (match xs[k]? with
    | some y => .ok (y, xs.eraseIdx k)
    | none => stk)
  | none => stk) else stk
section
variable {X : Cx} {Wx : XW} {Γ Γ' : Ctx} {e a b c : Expr} {pos p p2 q1 q2 q3 q4 r1 r2 r3 : Pos} {N : List Str} {sc : Scope} {n n' : Str} {R S L : Type} {RT : RTT R} {Γn : S → Ctx} {Γl : L → Ctx} {rest : List Stmt}
theorem All2.erase {α β : Type} {r : α → β → Prop} : ∀ {xs : List α} {ys : List β} (k : Nat), All2 r xs ys → All2 r (xs.eraseIdx k) (ys.eraseIdx k)
  | _, _, k, .nil => by simpa using All2.nil
  | _, _, 0, .cons _ t => t
  | _, _, k + 1, .cons h t => .cons h (All2.erase k t)
theorem own_mem {β : Type} [Den β] [Ob β] {x : β} {p : Addr} : ∀ {Γ : Ctx} {σ : L2.St} {i : Nat}, Γ[i]? = some (.ow x) → σ[i]? = some (some (.ref p)) → p ∈ owns Γ σ
  | [], _, _, h, _ => by simp at h
  | _ :: _, [], _, _, h => by simp at h
  | s :: Γ, ov :: σ, 0, h, k => by
    have e1 : s = .ow x := by simpa using h
    have e2 : ov = some (.ref p) := by simpa using k
    subst e1 e2
    exact List.mem_cons_self
  | s :: Γ, ov :: σ, i + 1, h, k => by
    have ih := own_mem (Γ := Γ) (σ := σ) (i := i) (by simpa using h) (by simpa using k)
    cases s with
    | un => simpa [owns] using ih
    | va y => simpa [owns] using ih
    | ow y =>
      cases ov with
      | none => simpa [owns] using ih
      | some w => cases w with
        | ref a => exact List.mem_cons_of_mem _ ih
        | _ => simpa [owns] using ih
theorem own_ne {β γ : Type} [Den β] [Ob β] [Den γ] [Ob γ] {x : β} {y : γ} {p q : Addr} : ∀ {Γ : Ctx} {σ : L2.St} {i j : Nat}, (owns Γ σ).Nodup → Γ[i]? = some (.ow x) → σ[i]? = some (some (.ref p)) → Γ[j]? = some (.ow y) → σ[j]? = some (some (.ref q)) → i ≠ j → p ≠ q
  | [], _, _, _, _, h, _, _, _, _ => by simp at h
  | _ :: _, [], _, _, _, _, h, _, _, _ => by simp at h
  | s :: Γ, ov :: σ, 0, 0, _, _, _, _, _, ne => absurd rfl ne
  | s :: Γ, ov :: σ, 0, j + 1, nd, h, k, h', k', _ => by
    have e1 : s = .ow x := by simpa using h
    have e2 : ov = some (.ref p) := by simpa using k
    subst e1 e2
    have m := own_mem (Γ := Γ) (σ := σ) (i := j) (by simpa using h') (by simpa using k')
    have nd : (p :: owns Γ σ).Nodup := nd
    intro e
    subst e
    exact (List.nodup_cons.mp nd).1 m
  | s :: Γ, ov :: σ, i + 1, 0, nd, h, k, h', k', _ => by
    have e1 : s = .ow y := by simpa using h'
    have e2 : ov = some (.ref q) := by simpa using k'
    subst e1 e2
    have m := own_mem (Γ := Γ) (σ := σ) (i := i) (by simpa using h) (by simpa using k)
    have nd : (q :: owns Γ σ).Nodup := nd
    intro e
    subst e
    exact (List.nodup_cons.mp nd).1 m
  | s :: Γ, ov :: σ, i + 1, j + 1, nd, h, k, h', k', ne => by
    have nd2 : (owns Γ σ).Nodup := by
      cases s with
      | un => simpa [owns] using nd
      | va y => simpa [owns] using nd
      | ow y =>
        cases ov with
        | none => simpa [owns] using nd
        | some w => cases w with
          | ref a => exact (List.nodup_cons.mp (show (a :: owns Γ σ).Nodup from nd)).2
          | _ => simpa [owns] using nd
    exact own_ne nd2 (by simpa using h) (by simpa using k) (by simpa using h') (by simpa using k') (by omega)
/-- a slot that may stand empty -/
@[reducible] def mbS {α : Type} [Den α] : Option α → Slot
  | none => .un
  | some x => .va x
theorem sv_mb {α : Type} [Den α] {o : Option α} {sts : List Stmt} {mk : α → M (Fl S L R)} (i : Nat) (hi : Γ[i]? = some (mbS o)) (k : ∀ x, SV X Wx RT (Γ.set i (.va x)) sts (mk x) Γn Γl) : SV X Wx RT Γ sts (optM o >>= mk) Γn Γl := by
  cases o with
  | none => exact .mk fun H0 Ox σ H D en q => q.elim
  | some x =>
    have e : Γ.set i (.va x) = Γ := by
      apply List.ext_getElem?
      intro j
      rw [List.getElem?_set]
      by_cases c : i = j
      · subst c
        have hl : i < Γ.length := by
          apply Classical.byContradiction
          intro z
          rw [List.getElem?_eq_none (by omega)] at hi
          cases hi
        rw [if_pos rfl, if_pos hl, hi]
      · rw [if_neg c]
    have := k x
    rw [e] at this
    exact this
/-- xs.append(ys.pop(e)) -/
theorem sv_appPop (C : Cd X N sc Wx) (i j : Nat) {α : Type} [Den α] {xs ys : List α} {me : M Int} {mr : List α → List α → M (Fl S L R)} (ij : i ≠ j) (hi : Γ[i]? = some (.ow xs)) (hj : Γ[j]? = some (.ow ys)) (hn : N[i]? = some n) (hn' : N[j]? = some n') (hv : visB sc n = true) (hv' : visB sc n' = true) (h : EV X (lw Wx) Γ e me)
    (k : ∀ xs' ys' : List α, SV X Wx RT ((Γ.set j (.ow ys')).set i (.ow xs')) rest (mr xs' ys') Γn Γl) (pl : Pl e := by intro _ _; rfl) (pl2 : Pl (.Call (.Attribute (.Name n' r1) "pop" r2) [e] [] r3) := by intro _ _; rfl) (hd : (n == ("__debug__" : Str)) = false := by decide) (hcd : (n == ("__classdict__" : Str)) = false := by decide) (hd' : (n' == ("__debug__" : Str)) = false := by decide) (hcd' : (n' == ("__classdict__" : Str)) = false := by decide) (hline : (q2.endLine == q3.line) = true := by rfl) (hline' : (r2.endLine == r3.line) = true := by rfl) :
    SV X Wx RT Γ (.Expr (.Call (.Attribute (.Name n q1) "append" q2) [.Call (.Attribute (.Name n' r1) "pop" r2) [e] [] r3] [] q3) q4 :: rest) (me >>= fun x => popAtM ys x >>= fun p => appM xs p.1 >>= fun zs => mr zs p.2) Γn Γl := .mk fun H0 Ox σ H D en q => by
  obtain ⟨pp, o, h1, h2, h3, vs, e1, e2, e3⟩ := en.getOw hi
  subst e1
  obtain ⟨pj, oj, j1, j2, j3, us, f1, f2, f3⟩ := en.getOw hj
  subst f1
  refine PSsw (pss_cons (ps_expr (pe_bm PySem.F.plainAttrs_list PySem.F.slot_list_append PySem.F.type_list_append mt_append (pv_of C.toCt0 i hn hv hd hcd) (pa_cons (pe_bm PySem.F.plainAttrs_list PySem.F.slot_list_pop PySem.F.type_list_pop mt_popAt (pv_of C.toCt0 j hn' hv' hd' hcd') (pa_cons pe_w pa_nil (pl _ _)) (hfew := by rw [pl]; rfl) (hs := pl _ _) (hline := hline')) pa_nil (pl2 _ _)) (hfew := by rw [pl2]; rfl) (hs := pl2 _ _) (hline := hline))) pss_w) ?_
  refine ⟨.ref pp, h1, .inl ⟨rfl, _, .inl (.inl h3)⟩, ?_⟩
  refine ⟨.ref pj, j1, .inl ⟨rfl, _, .inl (.inl j3)⟩, ?_⟩
  refine h H0 Ox σ H en _ (po_bind en.ex q fun x _ q2 v H2 z hv2 => ?_)
  have ev := hv2.1
  subst ev
  have en2 := en.mono z
  have j4 := z pj _ j3
  have h4 := z pp _ h3
  unfold popAtM at q2
  split at q2
  · rename_i hx
    cases hk : seqIndex? x ys.length with
    | none => rw [hk] at q2; exact q2.elim
    | some k' =>
      rw [hk] at q2
      dsimp only at q2
      cases hy : ys[k']? with
      | none => rw [hy] at q2; exact q2.elim
      | some y =>
        rw [hy] at q2
        obtain ⟨u, hu, du⟩ := f2.ta_ hy
        refine ⟨pj, us, x, k', u, rfl, rfl, j4, hx.1, hx.2, by rw [f2.len]; exact hk, hu, ?_⟩
        have ne : pp ≠ pj := own_ne en.nd hi h1 hj j1 ij
        have hO : pj ∈ Ox ++ owns Γ σ := List.mem_append_right _ j2
        have en3 := en2.write (o' := .lst (us.eraseIdx k')) (y' := ys.eraseIdx k') hj j2 j1 ⟨_, rfl, All2.erase k' (f2.imp fun u y (hu : den X.K (hide (Ox ++ owns Γ σ) H) u y) => Den.mono (hide_ex z) hu), by
          have := List.length_eraseIdx_le ys k'
          omega⟩
        have os : owns (Γ.set j (.ow (ys.eraseIdx k'))) σ = owns Γ σ := owns_same hj
        have hi3 : (Γ.set j (.ow (ys.eraseIdx k')))[i]? = some (.ow xs) := by rw [List.getElem?_set_ne (fun e => ij e.symm)]; exact hi
        unfold appM at q2
        dsimp only at q2
        split at q2
        · rename_i hl
          refine ⟨pp, vs, u, rfl, rfl, by rw [upd_ne ne]; exact h4, by rw [e2.len]; exact hl, ?_⟩
          refine k (xs ++ [y]) (ys.eraseIdx k') H0 Ox σ _ D (en3.write (o' := .lst (vs ++ [u])) (y' := xs ++ [y]) hi3 (by rw [os]; exact h2) h1 ⟨_, rfl, ?_, ?_⟩) q2
          · rw [os, hide_upd hO]
            exact (e2.imp fun u y (hu : den X.K (hide (Ox ++ owns Γ σ) H) u y) => Den.mono (hide_ex z) hu).app (.cons (Den.mono (hide_ex z) du) .nil)
          · rw [List.length_append]
            exact hl
        · exact q2.elim
  · exact q2.elim
end
end P3

set_option linter.all false
set_option maxRecDepth 100000
set_option maxHeartbeats 4000000
namespace RG
open PySem PySem.Spec PyProof.Rows L2 P3 
def r_hull (p_words : (List Tx)) : M (Fl Unit Unit Tx) := (((.ok p_words : M (List Tx)) >>= fun x2 => ((.ok 0 : M Int) >>= fun x3 => idxL x2 x3)) >>= fun cube1 => (((.ok p_words : M (List Tx)) >>= fun x5 => (((.ok 1 : M Int) >>= fun x4 => .ok (some x4)) >>= fun x6 => ((.ok none : M (Option Int)) >>= fun x7 => .ok (cutA x5 x6 x7)))) >>= fun l21 => sq (loopM (fun (s8 : Tx) (i9 : Tx) => (((.ok ⟨[]⟩ : M Tx) >>= fun x19 => ((((.ok s8 : M Tx) >>= fun x11 => ((.ok i9 : M Tx) >>= fun x12 => .ok (List.zipWith (fun (a : Tx) (b : Tx) => (⟨a, b⟩ : (P2 Tx Tx))) (Sq.items x11) (Sq.items x12)))) >>= fun l18 => mapM' (fun (i14 : (P2 Tx Tx)) => (((.ok i14.a : M Tx) >>= fun x15 => ((.ok i14.b : M Tx) >>= fun x16 => .ok (decide (x15 = x16)))) >>= fun x17 => if x17 = true then (.ok i14.a : M Tx) else (.ok ⟨[120]⟩ : M Tx))) l18) >>= fun x20 => joinT x19 x20)) >>= fun cube10 => (.ok (.nx (cube10))))) l21 (cube1)) (fun s22 : Tx => ((.ok s22 : M Tx) >>= fun r23 => .ok (.rt r23)))))
def m_hull (a : (List Tx) × Unit) : M Tx := fin (r_hull a.1)
def r_is_held (p_cube : Tx) (p_word : Tx) : M (Fl Unit Unit Bool) := (((((.ok p_cube : M Tx) >>= fun x1 => ((.ok p_word : M Tx) >>= fun x2 => .ok (List.zipWith (fun (a : Tx) (b : Tx) => (⟨a, b⟩ : (P2 Tx Tx))) (Sq.items x1) (Sq.items x2)))) >>= fun l10 => mapM' (fun (i4 : (P2 Tx Tx)) => (((.ok i4.a : M Tx) >>= fun x5 => ((.ok ⟨[120]⟩ : M Tx) >>= fun x6 => .ok (decide (x5 = x6)))) >>= fun x9 => if x9 = true then .ok true else ((.ok i4.a : M Tx) >>= fun x7 => ((.ok i4.b : M Tx) >>= fun x8 => .ok (decide (x7 = x8)))))) l10) >>= fun x11 => .ok (x11.all id)) >>= fun r12 => .ok (.rt r12))
def m_is_held (a : Tx × Tx × Unit) : M Bool := fin (r_is_held a.1 a.2.1)
def r_check_ring (p_ring : (List Tx)) : M (Fl Unit Unit Unit) := ((((.ok p_ring : M (List Tx)) >>= fun x1 => .ok (Tru.tru x1)) >>= fun x2 => .ok (!x2)) >>= fun b7 => sq (if b7 = true then ((.ok 0 : M Int) >>= fun x6 => (.error (.exc ⟨"BadRing", ((["index"] : List Str).zip (Fargs.vals ((x6, ()) : Int × Unit))).reverse⟩))) else (.ok (.nx ()))) (fun j8 : Unit => (((.ok p_ring : M (List Tx)) >>= fun x9 => .ok (enumL (Sq.items x9 : List Tx))) >>= fun l24 => sq (loopM (fun (s10 : Unit) (i11 : (P2 Int Tx)) => ((((.ok i11.b : M Tx) >>= fun x12 => .ok ((x12.l.length : Nat) : Int)) >>= fun x16 => ((((.ok p_ring : M (List Tx)) >>= fun x13 => ((.ok 0 : M Int) >>= fun x14 => idxL x13 x14)) >>= fun x15 => .ok ((x15.l.length : Nat) : Int)) >>= fun x17 => .ok (!decide (x16 = x17)))) >>= fun b22 => sq (if b22 = true then ((.ok i11.a : M Int) >>= fun x21 => (.error (.exc ⟨"BadRing", ((["index"] : List Str).zip (Fargs.vals ((x21, ()) : Int × Unit))).reverse⟩))) else (.ok (.nx ()))) (fun j23 : Unit => (.ok (.nx ()))))) l24 ()) (fun s25 : Unit => (.ok (.nx ()))))))
def m_check_ring (a : (List Tx) × Unit) : M Unit := finU (r_check_ring a.1)
def r_run_places (p_ring : (List Tx)) (p_start : Int) (p_steps : Int) : M (Fl Unit Unit (List Int)) := (((.ok p_ring : M (List Tx)) >>= fun x2 => m_check_ring (x2, ())) >>= fun u3 => ((((((.ok p_steps : M Int) >>= fun x4 => ((.ok 1 : M Int) >>= fun x5 => .ok (x4 + x5))) >>= fun x6 => rngM 0 x6) >>= fun l14 => fewM l14 >>= mapM' (fun (i8 : Int) => (((.ok p_start : M Int) >>= fun x9 => ((.ok i8 : M Int) >>= fun x10 => .ok (x9 + x10))) >>= fun x12 => (((.ok p_ring : M (List Tx)) >>= fun x11 => .ok ((x11.length : Nat) : Int)) >>= fun x13 => modI x12 x13)))) >>= srtS) >>= fun r15 => .ok (.rt r15)))
def m_run_places (a : (List Tx) × Int × Int × Unit) : M (List Int) := fin (r_run_places a.1 a.2.1 a.2.2.1)
def r_run_hull (p_ring : (List Tx)) (p_start : Int) (p_steps : Int) : M (Fl Unit Unit Tx) := (((((.ok p_ring : M (List Tx)) >>= fun x4 => ((.ok p_start : M Int) >>= fun x5 => ((.ok p_steps : M Int) >>= fun x6 => m_run_places (x4, x5, x6, ())))) >>= fun l11 => mapM' (fun (i8 : Int) => ((.ok p_ring : M (List Tx)) >>= fun x9 => ((.ok i8 : M Int) >>= fun x10 => idxL x9 x10))) l11) >>= fun x13 => m_hull (x13, ())) >>= fun r14 => .ok (.rt r14))
def m_run_hull (a : (List Tx) × Int × Int × Unit) : M Tx := fin (r_run_hull a.1 a.2.1 a.2.2.1)
def r_runs (p_ring : (List Tx)) (p_window : Int) : M (Fl Unit Unit (List (P2 Int Int))) := (((.ok p_ring : M (List Tx)) >>= fun x2 => m_check_ring (x2, ())) >>= fun u3 => (((((.ok p_ring : M (List Tx)) >>= fun x4 => .ok ((x4.length : Nat) : Int)) >>= fun x5 => rngM 0 x5) >>= fun l14 => outM (fun (i7 : Int) => (((.ok p_window : M Int) >>= fun x8 => ((.ok 1 : M Int) >>= fun x9 => .ok (x8 + x9))) >>= fun x10 => rngM 0 x10)) (fun (i7 : Int) (i11 : Int) => ((.ok i7 : M Int) >>= fun x12 => ((.ok i11 : M Int) >>= fun x13 => .ok (⟨x12, x13⟩ : (P2 Int Int))))) [] l14) >>= fun r15 => .ok (.rt r15)))
def m_runs (a : (List Tx) × Int × Unit) : M (List (P2 Int Int)) := fin (r_runs a.1 a.2.1)
def r_middle (p_first : Tx) (p_second : Tx) (p_third : Tx) : M (Fl Unit Unit Tx) := (((.ok ⟨[]⟩ : M Tx) >>= fun x13 => ((((.ok p_first : M Tx) >>= fun x1 => ((.ok p_second : M Tx) >>= fun x2 => ((.ok p_third : M Tx) >>= fun x3 => .ok (zip3L (Sq.items x1 : List Tx) (Sq.items x2 : List Tx) (Sq.items x3 : List Tx))))) >>= fun l12 => mapM' (fun (i5 : (P3' Tx Tx Tx)) => ((((.ok i5.a : M Tx) >>= fun x6 => ((.ok i5.b : M Tx) >>= fun x7 => .ok (decide (x6 = x7)))) >>= fun x10 => if x10 = true then .ok true else ((.ok i5.a : M Tx) >>= fun x8 => ((.ok i5.c : M Tx) >>= fun x9 => .ok (decide (x8 = x9))))) >>= fun x11 => if x11 = true then (.ok i5.a : M Tx) else (.ok i5.b : M Tx))) l12) >>= fun x14 => joinT x13 x14)) >>= fun r15 => .ok (.rt r15))
def m_middle (a : Tx × Tx × Tx × Unit) : M Tx := fin (r_middle a.1 a.2.1 a.2.2.1)
def r_holders (p_ring : (List Tx)) (p_window : Int) (p_word : Tx) : M (Fl Unit Unit (List (P2 Int Int))) := ((((.ok p_ring : M (List Tx)) >>= fun x3 => ((.ok p_window : M Int) >>= fun x4 => m_runs (x3, x4, ()))) >>= fun l19 => compM (fun (i6 : (P2 Int Int)) => (((.ok p_ring : M (List Tx)) >>= fun x10 => ((.ok i6.a : M Int) >>= fun x11 => ((.ok i6.b : M Int) >>= fun x12 => m_run_hull (x10, x11, x12, ())))) >>= fun x15 => ((.ok p_word : M Tx) >>= fun x16 => m_is_held (x15, x16, ())))) (fun (i6 : (P2 Int Int)) => ((.ok i6.a : M Int) >>= fun x17 => ((.ok i6.b : M Int) >>= fun x18 => .ok (⟨x17, x18⟩ : (P2 Int Int))))) l19) >>= fun r20 => .ok (.rt r20))
def m_holders (a : (List Tx) × Int × Tx × Unit) : M (List (P2 Int Int)) := fin (r_holders a.1 a.2.1 a.2.2.1)
def r_shared_places (p_ring : (List Tx)) (p_window : Int) (p_word : Tx) : M (Fl Unit Unit (Option (List Int))) := (((.ok () : M Unit) >>= fun _ => (.ok none : M (Option (List Int)))) >>= fun found1 => (((.ok p_ring : M (List Tx)) >>= fun x5 => ((.ok p_window : M Int) >>= fun x6 => ((.ok p_word : M Tx) >>= fun x7 => m_holders (x5, x6, x7, ())))) >>= fun l38 => sq (loopM (fun (s8 : (Option (List Int))) (i9 : (P2 Int Int)) => (((.ok p_ring : M (List Tx)) >>= fun x14 => ((.ok i9.a : M Int) >>= fun x15 => ((.ok i9.b : M Int) >>= fun x16 => m_run_places (x14, x15, x16, ())))) >>= fun places10 => (((.ok s8 : M (Option (List Int))) >>= fun x17 => .ok x17.isNone) >>= fun b36 => sq (if b36 = true then (((.ok places10 : M (List Int)) >>= fun x28 => (.ok (some x28) : M (Option (List Int)))) >>= fun found27 => (.ok (.nx (found27)))) else (((((.ok s8 : M (Option (List Int))) >>= optM) >>= fun l34 => compM (fun (i31 : Int) => ((.ok i31 : M Int) >>= fun x32 => ((.ok places10 : M (List Int)) >>= fun x33 => .ok (decide (x32 ∈ x33))))) (fun (i31 : Int) => (.ok i31 : M Int)) l34) >>= fun x35 => (.ok (some x35) : M (Option (List Int)))) >>= fun found29 => (.ok (.nx (found29))))) (fun j37 : (Option (List Int)) => (.ok (.nx (j37))))))) l38 (found1)) (fun s39 : (Option (List Int)) => ((.ok s39 : M (Option (List Int))) >>= fun r40 => .ok (.rt r40)))))
def m_shared_places (a : (List Tx) × Int × Tx × Unit) : M (Option (List Int)) := fin (r_shared_places a.1 a.2.1 a.2.2.1)
def r_reading (p_ring : (List Tx)) (p_window : Int) (p_word : Tx) : M (Fl Unit Unit Int) := (((.ok p_ring : M (List Tx)) >>= fun x5 => ((.ok p_window : M Int) >>= fun x6 => ((.ok p_word : M Tx) >>= fun x7 => m_shared_places (x5, x6, x7, ())))) >>= fun places1 => ((((.ok places1 : M (Option (List Int))) >>= fun x8 => .ok (Tru.tru x8)) >>= fun x9 => .ok (!x9)) >>= fun b14 => sq (if b14 = true then ((.ok p_word : M Tx) >>= fun x13 => (.error (.exc ⟨"Unreadable", ((["word"] : List Str).zip (Fargs.vals ((x13, ()) : Tx × Unit))).reverse⟩))) else (.ok (.nx ()))) (fun j15 : Unit => ((((.ok places1 : M (Option (List Int))) >>= optM) >>= fun x16 => ((.ok 0 : M Int) >>= fun x17 => idxL x16 x17)) >>= fun r18 => .ok (.rt r18)))))
def m_reading (a : (List Tx) × Int × Tx × Unit) : M Int := fin (r_reading a.1 a.2.1 a.2.2.1)
def r_middle_bar (p_ring : (List Tx)) (p_window : Int) : M (Fl Unit Unit (Option (P4 Int Int Int Tx))) := (((.ok p_ring : M (List Tx)) >>= fun x2 => m_check_ring (x2, ())) >>= fun u3 => (((.ok p_ring : M (List Tx)) >>= fun x5 => .ok ((x5.length : Nat) : Int)) >>= fun length4 => ((((.ok 3 : M Int) >>= fun x8 => (.ok length4 : M Int) >>= fun x9 => if eI x8 x9 = true then ((.ok 3 : M Int) >>= fun x6 => ((.ok p_window : M Int) >>= fun x7 => mulI x6 x7)) >>= fun x10 => .ok (eI x9 x10) else .ok false) >>= fun x11 => .ok (!x11)) >>= fun b14 => sq (if b14 = true then (((.ok () : M Unit) >>= fun _ => (.ok none : M (Option (P4 Int Int Int Tx)))) >>= fun r13 => .ok (.rt r13)) else (.ok (.nx ()))) (fun j15 : Unit => ((((.ok length4 : M Int) >>= fun x17 => ((.ok 2 : M Int) >>= fun x18 => .ok (x17 + x18))) >>= fun x19 => ((.ok 3 : M Int) >>= fun x20 => divI x19 x20)) >>= fun second16 => (((((.ok 2 : M Int) >>= fun x22 => ((.ok length4 : M Int) >>= fun x23 => mulI x22 x23)) >>= fun x24 => ((.ok 2 : M Int) >>= fun x25 => .ok (x24 + x25))) >>= fun x26 => ((.ok 3 : M Int) >>= fun x27 => divI x26 x27)) >>= fun third21 => ((((.ok 0 : M Int) >>= fun x40 => ((.ok second16 : M Int) >>= fun x41 => ((.ok third21 : M Int) >>= fun x42 => ((((.ok p_ring : M (List Tx)) >>= fun x28 => ((.ok 0 : M Int) >>= fun x29 => idxL x28 x29)) >>= fun x37 => (((.ok p_ring : M (List Tx)) >>= fun x30 => ((.ok second16 : M Int) >>= fun x31 => idxL x30 x31)) >>= fun x38 => (((.ok p_ring : M (List Tx)) >>= fun x32 => ((.ok third21 : M Int) >>= fun x33 => idxL x32 x33)) >>= fun x39 => m_middle (x37, x38, x39, ())))) >>= fun x43 => .ok (⟨x40, x41, x42, x43⟩ : (P4 Int Int Int Tx)))))) >>= fun x44 => .ok (some x44)) >>= fun r45 => .ok (.rt r45))))))))
def m_middle_bar (a : (List Tx) × Int × Unit) : M (Option (P4 Int Int Int Tx)) := fin (r_middle_bar a.1 a.2.1)
def r__law_cell (p_script : (List Int)) (p_k : Int) : M (Fl Unit Unit Int) := (((.ok p_k : M Int) >>= fun x2 => (((.ok p_script : M (List Int)) >>= fun x1 => .ok ((x1.length : Nat) : Int)) >>= fun x3 => .ok (decide (x2 < x3)))) >>= fun b10 => sq (if b10 = true then (((.ok p_script : M (List Int)) >>= fun x7 => ((.ok p_k : M Int) >>= fun x8 => idxL x7 x8)) >>= fun r9 => .ok (.rt r9)) else (.ok (.nx ()))) (fun j11 : Unit => ((.ok 0 : M Int) >>= fun r12 => .ok (.rt r12))))
def m__law_cell (a : (List Int) × Int × Unit) : M Int := fin (r__law_cell a.1 a.2.1)
def r__law_numbers (p_cell : Int) (p_base : Int) (p_count : Int) : M (Fl Unit Unit (List Int)) := ((.ok [] : M (List Int)) >>= fun numbers1 => ((.ok p_cell : M Int) >>= fun rest2 => ((((((.ok p_cell : M Int) >>= fun x4 => ((.ok 48271 : M Int) >>= fun x5 => mulI x4 x5)) >>= fun x6 => ((.ok 7 : M Int) >>= fun x7 => .ok (x6 + x7))) >>= fun x8 => .ok x8) >>= fun x9 => ((.ok 2147483647 : M Int) >>= fun x10 => modI x9 x10)) >>= fun mixed3 => (((.ok p_count : M Int) >>= fun x11 => rngM 0 x11) >>= fun l61 => sq (loopM (fun (s12 : (List Int) × Int × Int) (i13 : Int) => (((((((.ok s12.2.2 : M Int) >>= fun x15 => ((.ok 16807 : M Int) >>= fun x16 => mulI x15 x16)) >>= fun x17 => ((.ok i13 : M Int) >>= fun x18 => .ok (x17 + x18))) >>= fun x19 => ((.ok 40692 : M Int) >>= fun x20 => .ok (x19 + x20))) >>= fun x21 => .ok x21) >>= fun x22 => ((.ok 2147483647 : M Int) >>= fun x23 => modI x22 x23)) >>= fun mixed14 => ((((.ok p_cell : M Int) >>= fun x26 => (((.ok 10 : M Int) >>= fun x24 => ((.ok 18 : M Int) >>= fun x25 => powI x24 x25)) >>= fun x27 => .ok (decide (x27 ≤ x26)))) >>= fun x30 => if x30 = true then ((.ok s12.2.1 : M Int) >>= fun x28 => ((.ok 0 : M Int) >>= fun x29 => .ok (decide (x29 < x28)))) else .ok false) >>= fun b59 => sq (if b59 = true then ((((.ok s12.2.1 : M Int) >>= fun x45 => .ok x45) >>= fun x46 => ((.ok p_base : M Int) >>= fun x47 => modI x46 x47)) >>= fun x48 => appM s12.1 x48 >>= fun numbers49 => (((.ok s12.2.1 : M Int) >>= fun x51 => ((.ok p_base : M Int) >>= fun x52 => divI x51 x52)) >>= fun rest50 => (.ok (.nx (numbers49, rest50))))) else ((((.ok mixed14 : M Int) >>= fun x53 => ((.ok 11 : M Int) >>= fun x54 => divI x53 x54)) >>= fun x55 => ((.ok p_base : M Int) >>= fun x56 => modI x55 x56)) >>= fun x57 => appM s12.1 x57 >>= fun numbers58 => (.ok (.nx (numbers58, s12.2.1))))) (fun j60 : (List Int) × Int => (.ok (.nx (j60.1, j60.2, mixed14))))))) l61 (numbers1, rest2, mixed3)) (fun s62 : (List Int) × Int × Int => ((.ok s62.1 : M (List Int)) >>= fun r63 => .ok (.rt r63)))))))
def m__law_numbers (a : Int × Int × Int × Unit) : M (List Int) := fin (r__law_numbers a.1 a.2.1 a.2.2.1)
def r__law_word (p_number : Int) (p_wires : Int) : M (Fl Unit Unit Tx) := ((.ok ⟨[]⟩ : M Tx) >>= fun word1 => ((.ok p_number : M Int) >>= fun rest2 => (((.ok p_wires : M Int) >>= fun x3 => rngM 0 x3) >>= fun l17 => sq (loopM (fun (s4 : Tx × Int) (i5 : Int) => (((.ok s4.1 : M Tx) >>= fun x12 => (((.ok ⟨[48, 49]⟩ : M Tx) >>= fun x10 => ((((.ok s4.2 : M Int) >>= fun x7 => .ok x7) >>= fun x8 => ((.ok 2 : M Int) >>= fun x9 => modI x8 x9)) >>= fun x11 => idxT x10 x11)) >>= fun x13 => catT x12 x13)) >>= fun word6 => (((.ok s4.2 : M Int) >>= fun x15 => ((.ok 2 : M Int) >>= fun x16 => divI x15 x16)) >>= fun rest14 => (.ok (.nx (word6, rest14)))))) l17 (word1, rest2)) (fun s18 : Tx × Int => ((.ok s18.1 : M Tx) >>= fun r19 => .ok (.rt r19))))))
def m__law_word (a : Int × Int × Unit) : M Tx := fin (r__law_word a.1 a.2.1)
def r__law_turned (p_word : Tx) (p_wire : Int) : M (Fl Unit Unit Tx) := (((.ok p_word : M Tx) >>= fun x1 => ((.ok ⟨[]⟩ : M Tx) >>= fun x2 => .ok (decide (x1 = x2)))) >>= fun b5 => sq (if b5 = true then ((.ok p_word : M Tx) >>= fun r4 => .ok (.rt r4)) else (.ok (.nx ()))) (fun j6 : Unit => ((((.ok p_wire : M Int) >>= fun x8 => .ok x8) >>= fun x10 => (((.ok p_word : M Tx) >>= fun x9 => .ok ((x9.l.length : Nat) : Int)) >>= fun x11 => modI x10 x11)) >>= fun at7 => (((((.ok p_word : M Tx) >>= fun x13 => ((.ok none : M (Option Int)) >>= fun x14 => (((.ok at7 : M Int) >>= fun x12 => .ok (some x12)) >>= fun x15 => .ok (cutT x13 x14 x15)))) >>= fun x21 => (((.ok ⟨[49, 48]⟩ : M Tx) >>= fun x19 => ((((.ok p_word : M Tx) >>= fun x16 => ((.ok at7 : M Int) >>= fun x17 => idxT x16 x17)) >>= fun x18 => intT x18) >>= fun x20 => idxT x19 x20)) >>= fun x22 => catT x21 x22)) >>= fun x29 => (((.ok p_word : M Tx) >>= fun x26 => ((((.ok at7 : M Int) >>= fun x23 => ((.ok 1 : M Int) >>= fun x24 => .ok (x23 + x24))) >>= fun x25 => .ok (some x25)) >>= fun x27 => ((.ok none : M (Option Int)) >>= fun x28 => .ok (cutT x26 x27 x28)))) >>= fun x30 => catT x29 x30)) >>= fun r31 => .ok (.rt r31)))))
def m__law_turned (a : Tx × Int × Unit) : M Tx := fin (r__law_turned a.1 a.2.1)
def r__law_stretch (p_size : Int) : M (Fl Unit Unit (List Tx)) := ((((.ok p_size : M Int) >>= fun x2 => ((.ok 1 : M Int) >>= fun x3 => .ok (x2 + x3))) >>= fun x4 => ((.ok 2 : M Int) >>= fun x5 => divI x4 x5)) >>= fun wires1 => ((.ok [] : M (List Tx)) >>= fun ring6 => (((.ok p_size : M Int) >>= fun x7 => rngM 0 x7) >>= fun l62 => sq (loopM (fun (s8 : (List Tx)) (i9 : Int) => (((.ok i9 : M Int) >>= fun x10 => ((.ok wires1 : M Int) >>= fun x11 => .ok (decide (x10 ≤ x11)))) >>= fun b60 => sq (if b60 = true then ((((.ok ⟨[49]⟩ : M Tx) >>= fun x36 => ((.ok i9 : M Int) >>= fun x37 => repT x36 x37)) >>= fun x42 => (((.ok ⟨[48]⟩ : M Tx) >>= fun x40 => (((.ok wires1 : M Int) >>= fun x38 => ((.ok i9 : M Int) >>= fun x39 => .ok (x38 - x39))) >>= fun x41 => repT x40 x41)) >>= fun x43 => catT x42 x43)) >>= fun x44 => appM s8 x44 >>= fun ring45 => (.ok (.nx (ring45)))) else ((((.ok ⟨[48]⟩ : M Tx) >>= fun x48 => (((.ok i9 : M Int) >>= fun x46 => ((.ok wires1 : M Int) >>= fun x47 => .ok (x46 - x47))) >>= fun x49 => repT x48 x49)) >>= fun x56 => (((.ok ⟨[49]⟩ : M Tx) >>= fun x54 => ((((.ok 2 : M Int) >>= fun x50 => ((.ok wires1 : M Int) >>= fun x51 => mulI x50 x51)) >>= fun x52 => ((.ok i9 : M Int) >>= fun x53 => .ok (x52 - x53))) >>= fun x55 => repT x54 x55)) >>= fun x57 => catT x56 x57)) >>= fun x58 => appM s8 x58 >>= fun ring59 => (.ok (.nx (ring59))))) (fun j61 : (List Tx) => (.ok (.nx (j61)))))) l62 (ring6)) (fun s63 : (List Tx) => (.ok (.rt s63))))))
def m__law_stretch (a : Int × Unit) : M (List Tx) := fin (r__law_stretch a.1)
def r__law_places (p_size : Int) (p_start : Int) (p_steps : Int) : M (Fl Unit Unit (List Int)) := ((((.ok p_size : M Int) >>= fun x1 => rngM 0 x1) >>= fun l11 => compM (fun (i3 : Int) => (((((.ok i3 : M Int) >>= fun x4 => ((.ok p_start : M Int) >>= fun x5 => .ok (x4 - x5))) >>= fun x6 => .ok x6) >>= fun x7 => ((.ok p_size : M Int) >>= fun x8 => modI x7 x8)) >>= fun x9 => ((.ok p_steps : M Int) >>= fun x10 => .ok (decide (x9 ≤ x10))))) (fun (i3 : Int) => (.ok i3 : M Int)) l11) >>= fun r12 => .ok (.rt r12))
def m__law_places (a : Int × Int × Int × Unit) : M (List Int) := fin (r__law_places a.1 a.2.1 a.2.2.1)
def r__law_cube (p_words : (List Tx)) : M (Fl Unit Unit Tx) := ((.ok ⟨[]⟩ : M Tx) >>= fun cube1 => (((((.ok p_words : M (List Tx)) >>= fun x2 => ((.ok 0 : M Int) >>= fun x3 => idxL x2 x3)) >>= fun x4 => .ok ((x4.l.length : Nat) : Int)) >>= fun x5 => rngM 0 x5) >>= fun l37 => sq (loopM (fun (s6 : Tx) (i7 : Int) => (((.ok p_words : M (List Tx)) >>= fun l13 => mapM' (fun (i10 : Tx) => ((.ok i10 : M Tx) >>= fun x11 => ((.ok i7 : M Int) >>= fun x12 => idxT x11 x12))) l13) >>= fun signs8 => ((((.ok ⟨[48]⟩ : M Tx) >>= fun x14 => ((.ok signs8 : M (List Tx)) >>= fun x15 => .ok (decide (x14 ∈ x15)))) >>= fun x18 => if x18 = true then ((.ok ⟨[49]⟩ : M Tx) >>= fun x16 => ((.ok signs8 : M (List Tx)) >>= fun x17 => .ok (decide (x16 ∈ x17)))) else .ok false) >>= fun b35 => sq (if b35 = true then (((.ok s6 : M Tx) >>= fun x28 => ((.ok ⟨[120]⟩ : M Tx) >>= fun x29 => catT x28 x29)) >>= fun cube27 => (.ok (.nx (cube27)))) else (((.ok s6 : M Tx) >>= fun x33 => (((.ok signs8 : M (List Tx)) >>= fun x31 => ((.ok 0 : M Int) >>= fun x32 => idxL x31 x32)) >>= fun x34 => catT x33 x34)) >>= fun cube30 => (.ok (.nx (cube30))))) (fun j36 : Tx => (.ok (.nx (j36))))))) l37 (cube1)) (fun s38 : Tx => ((.ok s38 : M Tx) >>= fun r39 => .ok (.rt r39)))))
def m__law_cube (a : (List Tx) × Unit) : M Tx := fin (r__law_cube a.1)
def r__law_hull (p_ring : (List Tx)) (p_start : Int) (p_steps : Int) : M (Fl Unit Unit Tx) := ((((((.ok p_ring : M (List Tx)) >>= fun x1 => .ok ((x1.length : Nat) : Int)) >>= fun x5 => ((.ok p_start : M Int) >>= fun x6 => ((.ok p_steps : M Int) >>= fun x7 => m__law_places (x5, x6, x7, ())))) >>= fun l12 => mapM' (fun (i9 : Int) => ((.ok p_ring : M (List Tx)) >>= fun x10 => ((.ok i9 : M Int) >>= fun x11 => idxL x10 x11))) l12) >>= fun x14 => m__law_cube (x14, ())) >>= fun r15 => .ok (.rt r15))
def m__law_hull (a : (List Tx) × Int × Int × Unit) : M Tx := fin (r__law_hull a.1 a.2.1 a.2.2.1)
def r__law_holds (p_cube : Tx) (p_word : Tx) : M (Fl Unit Unit Bool) := (((.ok p_cube : M Tx) >>= fun x1 => .ok (enumL (Sq.items x1 : List Tx))) >>= fun l15 => sq (loopM (fun (s2 : Unit) (i3 : (P2 Int Tx)) => ((((.ok i3.b : M Tx) >>= fun x4 => ((.ok ⟨[120]⟩ : M Tx) >>= fun x5 => .ok (!decide (x4 = x5)))) >>= fun x10 => if x10 = true then ((.ok i3.b : M Tx) >>= fun x8 => (((.ok p_word : M Tx) >>= fun x6 => ((.ok i3.a : M Int) >>= fun x7 => idxT x6 x7)) >>= fun x9 => .ok (!decide (x8 = x9)))) else .ok false) >>= fun b13 => sq (if b13 = true then ((.ok false : M Bool) >>= fun r12 => .ok (.rt r12)) else (.ok (.nx ()))) (fun j14 : Unit => (.ok (.nx ()))))) l15 ()) (fun s16 : Unit => ((.ok true : M Bool) >>= fun r17 => .ok (.rt r17))))
def m__law_holds (a : Tx × Tx × Unit) : M Bool := fin (r__law_holds a.1 a.2.1)
def r__law_middle (p_words : (List Tx)) : M (Fl Unit Unit Tx) := ((.ok ⟨[]⟩ : M Tx) >>= fun word1 => (((((.ok p_words : M (List Tx)) >>= fun x2 => ((.ok 0 : M Int) >>= fun x3 => idxL x2 x3)) >>= fun x4 => .ok ((x4.l.length : Nat) : Int)) >>= fun x5 => rngM 0 x5) >>= fun l20 => sq (loopM (fun (s6 : Tx) (i7 : Int) => ((((.ok p_words : M (List Tx)) >>= fun l13 => mapM' (fun (i10 : Tx) => ((.ok i10 : M Tx) >>= fun x11 => ((.ok i7 : M Int) >>= fun x12 => idxT x11 x12))) l13) >>= fun x14 => if x14.length < 64 then .ok (srtT x14) else stk) >>= fun signs8 => (((.ok s6 : M Tx) >>= fun x18 => (((.ok signs8 : M (List Tx)) >>= fun x16 => ((.ok 1 : M Int) >>= fun x17 => idxL x16 x17)) >>= fun x19 => catT x18 x19)) >>= fun word15 => (.ok (.nx (word15)))))) l20 (word1)) (fun s21 : Tx => ((.ok s21 : M Tx) >>= fun r22 => .ok (.rt r22)))))
def m__law_middle (a : (List Tx) × Unit) : M Tx := fin (r__law_middle a.1)
def r__law_common (p_ring : (List Tx)) (p_window : Int) (p_word : Tx) : M (Fl Unit Unit (Option (List Int))) := (((.ok () : M Unit) >>= fun _ => (.ok none : M (Option (List Int)))) >>= fun common1 => ((((.ok p_ring : M (List Tx)) >>= fun x2 => .ok ((x2.length : Nat) : Int)) >>= fun x3 => rngM 0 x3) >>= fun l69 => sq (loopM (fun (s4 : (Option (List Int))) (i5 : Int) => ((((.ok p_window : M Int) >>= fun x6 => ((.ok 1 : M Int) >>= fun x7 => .ok (x6 + x7))) >>= fun x8 => rngM 0 x8) >>= fun l67 => sq (loopM (fun (s9 : (Option (List Int))) (i10 : Int) => ((((.ok p_ring : M (List Tx)) >>= fun x14 => ((.ok i5 : M Int) >>= fun x15 => ((.ok i10 : M Int) >>= fun x16 => m__law_hull (x14, x15, x16, ())))) >>= fun x19 => ((.ok p_word : M Tx) >>= fun x20 => m__law_holds (x19, x20, ()))) >>= fun b65 => sq (if b65 = true then ((((.ok p_ring : M (List Tx)) >>= fun x44 => .ok ((x44.length : Nat) : Int)) >>= fun x48 => ((.ok i5 : M Int) >>= fun x49 => ((.ok i10 : M Int) >>= fun x50 => m__law_places (x48, x49, x50, ())))) >>= fun places43 => (((.ok s9 : M (Option (List Int))) >>= fun x51 => .ok x51.isNone) >>= fun b56 => sq (if b56 = true then (((.ok places43 : M (List Int)) >>= fun x55 => (.ok (some x55) : M (Option (List Int)))) >>= fun common54 => (.ok (.nx (common54)))) else (.ok (.nx (s9)))) (fun j57 : (Option (List Int)) => (((((.ok j57 : M (Option (List Int))) >>= optM) >>= fun l63 => compM (fun (i60 : Int) => ((.ok i60 : M Int) >>= fun x61 => ((.ok places43 : M (List Int)) >>= fun x62 => .ok (decide (x61 ∈ x62))))) (fun (i60 : Int) => (.ok i60 : M Int)) l63) >>= fun x64 => (.ok (some x64) : M (Option (List Int)))) >>= fun common58 => (.ok (.nx (common58))))))) else (.ok (.nx (s9)))) (fun j66 : (Option (List Int)) => (.ok (.nx (j66)))))) l67 (s4)) (fun s68 : (Option (List Int)) => (.ok (.nx (s68)))))) l69 (common1)) (fun s70 : (Option (List Int)) => ((.ok s70 : M (Option (List Int))) >>= fun r71 => .ok (.rt r71)))))
def m__law_common (a : (List Tx) × Int × Tx × Unit) : M (Option (List Int)) := fin (r__law_common a.1 a.2.1 a.2.2.1)
def r_words_of (p_cube : Tx) : M (Fl Unit Unit (List Tx)) := ((((.ok p_cube : M Tx) >>= fun x1 => ((.ok ⟨[120]⟩ : M Tx) >>= fun x2 => .ok (countT x1 x2))) >>= fun x3 => ((.ok 8 : M Int) >>= fun x4 => .ok (decide (x4 < x3)))) >>= fun b13 => sq (if b13 = true then ((.ok ⟨[119, 111, 114, 100, 115]⟩ : M Tx) >>= fun x11 => ((.ok 256 : M Int) >>= fun x12 => (.error (.exc ⟨"TooMany", ((["word", "limit"] : List Str).zip (Fargs.vals ((x11, x12, ()) : Tx × Int × Unit))).reverse⟩)))) else (.ok (.nx ()))) (fun j14 : Unit => (((.ok ⟨[]⟩ : M Tx) >>= fun x16 => (.ok [] : M (List Tx)) >>= fun l17 => .ok (x16 :: l17)) >>= fun words15 => (((.ok p_cube : M Tx) >>= fun x18 => .ok (signs x18)) >>= fun l33 => sq (loopM (fun (s19 : (List Tx)) (i20 : Tx) => ((((.ok i20 : M Tx) >>= fun x22 => ((.ok ⟨[120]⟩ : M Tx) >>= fun x23 => .ok (decide (x22 = x23)))) >>= fun x24 => if x24 = true then (.ok ⟨[48, 49]⟩ : M Tx) else (.ok i20 : M Tx)) >>= fun bits21 => (((.ok s19 : M (List Tx)) >>= fun l32 => outM (fun (i27 : Tx) => ((.ok bits21 : M Tx) >>= fun x28 => .ok (signs x28))) (fun (i27 : Tx) (i29 : Tx) => ((.ok i27 : M Tx) >>= fun x30 => ((.ok i29 : M Tx) >>= fun x31 => catT x30 x31))) [] l32) >>= fun words25 => (.ok (.nx (words25)))))) l33 (words15)) (fun s34 : (List Tx) => (.ok (.rt s34)))))))
def m_words_of (a : Tx × Unit) : M (List Tx) := fin (r_words_of a.1)
def r_meets (p_cube : Tx) (p_other : Tx) : M (Fl Unit Unit Bool) := (((((.ok p_cube : M Tx) >>= fun x1 => ((.ok p_other : M Tx) >>= fun x2 => .ok (List.zipWith (fun (a : Tx) (b : Tx) => (⟨a, b⟩ : (P2 Tx Tx))) (Sq.items x1) (Sq.items x2)))) >>= fun l13 => mapM' (fun (i4 : (P2 Tx Tx)) => (((.ok i4.a : M Tx) >>= fun x5 => ((.ok ⟨[120]⟩ : M Tx) >>= fun x6 => .ok (decide (x5 = x6)))) >>= fun x12 => if x12 = true then .ok true else (((.ok i4.b : M Tx) >>= fun x7 => ((.ok ⟨[120]⟩ : M Tx) >>= fun x8 => .ok (decide (x7 = x8)))) >>= fun x11 => if x11 = true then .ok true else ((.ok i4.a : M Tx) >>= fun x9 => ((.ok i4.b : M Tx) >>= fun x10 => .ok (decide (x9 = x10))))))) l13) >>= fun x14 => .ok (x14.all id)) >>= fun r15 => .ok (.rt r15))
def m_meets (a : Tx × Tx × Unit) : M Bool := fin (r_meets a.1 a.2.1)
def r_clash (p_ring : (List Tx)) (p_window : Int) : M (Fl Unit Unit (Option (P2 Int Int))) := (((.ok p_ring : M (List Tx)) >>= fun x2 => m_check_ring (x2, ())) >>= fun u3 => (((.ok p_ring : M (List Tx)) >>= fun x5 => .ok ((x5.length : Nat) : Int)) >>= fun length4 => ((((.ok length4 : M Int) >>= fun x7 => rngM 0 x7) >>= fun l16 => mapM' (fun (i9 : Int) => ((.ok p_ring : M (List Tx)) >>= fun x13 => ((.ok i9 : M Int) >>= fun x14 => ((.ok p_window : M Int) >>= fun x15 => m_run_hull (x13, x14, x15, ()))))) l16) >>= fun cubes6 => (((.ok length4 : M Int) >>= fun x17 => rngM 0 x17) >>= fun l55 => sq (loopM (fun (s18 : Unit) (i19 : Int) => (((((.ok i19 : M Int) >>= fun x20 => ((.ok p_window : M Int) >>= fun x21 => .ok (x20 + x21))) >>= fun x22 => ((.ok 1 : M Int) >>= fun x23 => .ok (x22 + x23))) >>= fun x24 => ((.ok length4 : M Int) >>= fun x25 => rngM x24 x25)) >>= fun l53 => sq (loopM (fun (s26 : Unit) (i27 : Int) => (((((.ok i27 : M Int) >>= fun x28 => ((.ok p_window : M Int) >>= fun x29 => .ok (x28 + x29))) >>= fun x32 => (((.ok i19 : M Int) >>= fun x30 => ((.ok length4 : M Int) >>= fun x31 => .ok (x30 + x31))) >>= fun x33 => .ok (decide (x32 < x33)))) >>= fun x42 => if x42 = true then (((.ok cubes6 : M (List Tx)) >>= fun x34 => ((.ok i19 : M Int) >>= fun x35 => idxL x34 x35)) >>= fun x40 => (((.ok cubes6 : M (List Tx)) >>= fun x36 => ((.ok i27 : M Int) >>= fun x37 => idxL x36 x37)) >>= fun x41 => m_meets (x40, x41, ()))) else .ok false) >>= fun b51 => sq (if b51 = true then ((((.ok i19 : M Int) >>= fun x47 => ((.ok i27 : M Int) >>= fun x48 => .ok (⟨x47, x48⟩ : (P2 Int Int)))) >>= fun x49 => .ok (some x49)) >>= fun r50 => .ok (.rt r50)) else (.ok (.nx ()))) (fun j52 : Unit => (.ok (.nx ()))))) l53 ()) (fun s54 : Unit => (.ok (.nx ()))))) l55 ()) (fun s56 : Unit => (((.ok () : M Unit) >>= fun _ => (.ok none : M (Option (P2 Int Int)))) >>= fun r57 => .ok (.rt r57)))))))
def m_clash (a : (List Tx) × Int × Unit) : M (Option (P2 Int Int)) := fin (r_clash a.1 a.2.1)
def r_can_be_read (p_length : Int) (p_window : Int) : M (Fl Unit Unit Bool) := ((((.ok p_window : M Int) >>= fun x1 => ((.ok 0 : M Int) >>= fun x2 => .ok (decide (x1 = x2)))) >>= fun x12 => if x12 = true then .ok true else (((.ok p_length : M Int) >>= fun x3 => ((.ok 2 : M Int) >>= fun x4 => .ok (decide (x3 ≤ x4)))) >>= fun x11 => if x11 = true then .ok true else ((.ok p_length : M Int) >>= fun x9 => ((((.ok 3 : M Int) >>= fun x5 => ((.ok p_window : M Int) >>= fun x6 => mulI x5 x6)) >>= fun x7 => ((.ok 1 : M Int) >>= fun x8 => .ok (x7 + x8))) >>= fun x10 => .ok (decide (x10 ≤ x9)))))) >>= fun r13 => .ok (.rt r13))
def m_can_be_read (a : Int × Int × Unit) : M Bool := fin (r_can_be_read a.1 a.2.1)
def r__law_table (p_ring : (List Tx)) (p_window : Int) : M (Fl Unit Unit (List (P2 Tx (List Int)))) := ((.ok [] : M (List (P2 Tx (List Int)))) >>= fun rows1 => ((((.ok p_ring : M (List Tx)) >>= fun x2 => .ok ((x2.length : Nat) : Int)) >>= fun x3 => rngM 0 x3) >>= fun l30 => sq (loopM (fun (s4 : (List (P2 Tx (List Int)))) (i5 : Int) => ((((.ok p_window : M Int) >>= fun x6 => ((.ok 1 : M Int) >>= fun x7 => .ok (x6 + x7))) >>= fun x8 => rngM 0 x8) >>= fun l28 => sq (loopM (fun (s9 : (List (P2 Tx (List Int)))) (i10 : Int) => ((((.ok p_ring : M (List Tx)) >>= fun x14 => ((.ok i5 : M Int) >>= fun x15 => ((.ok i10 : M Int) >>= fun x16 => m__law_hull (x14, x15, x16, ())))) >>= fun x24 => ((((.ok p_ring : M (List Tx)) >>= fun x17 => .ok ((x17.length : Nat) : Int)) >>= fun x21 => ((.ok i5 : M Int) >>= fun x22 => ((.ok i10 : M Int) >>= fun x23 => m__law_places (x21, x22, x23, ())))) >>= fun x25 => .ok (⟨x24, x25⟩ : (P2 Tx (List Int))))) >>= fun x26 => appM s9 x26 >>= fun rows27 => (.ok (.nx (rows27))))) l28 (s4)) (fun s29 : (List (P2 Tx (List Int))) => (.ok (.nx (s29)))))) l30 (rows1)) (fun s31 : (List (P2 Tx (List Int))) => ((.ok s31 : M (List (P2 Tx (List Int)))) >>= fun r32 => .ok (.rt r32)))))
def m__law_table (a : (List Tx) × Int × Unit) : M (List (P2 Tx (List Int))) := fin (r__law_table a.1 a.2.1)
def r__law_mixture (p_cube : Tx) (p_bits : Tx) : M (Fl Unit Unit Tx) := (((.ok ⟨[]⟩ : M Tx) >>= fun x10 => ((((.ok p_cube : M Tx) >>= fun x1 => .ok (enumL (Sq.items x1 : List Tx))) >>= fun l9 => mapM' (fun (i3 : (P2 Int Tx)) => (((.ok i3.b : M Tx) >>= fun x4 => ((.ok ⟨[120]⟩ : M Tx) >>= fun x5 => .ok (decide (x4 = x5)))) >>= fun x8 => if x8 = true then ((.ok p_bits : M Tx) >>= fun x6 => ((.ok i3.a : M Int) >>= fun x7 => idxT x6 x7)) else (.ok i3.b : M Tx))) l9) >>= fun x11 => joinT x10 x11)) >>= fun r12 => .ok (.rt r12))
def m__law_mixture (a : Tx × Tx × Unit) : M Tx := fin (r__law_mixture a.1 a.2.1)
end RG

set_option linter.all false
set_option maxRecDepth 100000
set_option maxHeartbeats 4000000
namespace RG
open PySem PySem.Spec PyProof.Rows L2 P3 
def r_held_words (p_ring : (List Tx)) (p_window : Int) : M (Fl Unit Unit (List Tx)) := ((.ok ⟨[]⟩ : M (Dc Tx Bool)) >>= fun found1 => (((.ok p_ring : M (List Tx)) >>= fun x4 => ((.ok p_window : M Int) >>= fun x5 => m_runs (x4, x5, ()))) >>= fun l23 => sq (loopM (fun (s6 : (Dc Tx Bool)) (i7 : (P2 Int Int)) => ((((.ok p_ring : M (List Tx)) >>= fun x11 => ((.ok i7.a : M Int) >>= fun x12 => ((.ok i7.b : M Int) >>= fun x13 => m_run_hull (x11, x12, x13, ())))) >>= fun x15 => m_words_of (x15, ())) >>= fun l21 => sq (loopM (fun (s16 : (Dc Tx Bool)) (i17 : Tx) => ((.ok true : M Bool) >>= fun x18 => (.ok i17 : M Tx) >>= fun x19 => putM s16 x19 x18 >>= fun found20 => (.ok (.nx (found20))))) l21 (s6)) (fun s22 : (Dc Tx Bool) => (.ok (.nx (s22)))))) l23 (found1)) (fun s24 : (Dc Tx Bool) => (((.ok s24 : M (Dc Tx Bool)) >>= fun x25 => if x25.kvs.length ≤ sizeLine then .ok (srtT (keysD x25)) else stk) >>= fun r26 => .ok (.rt r26)))))
def m_held_words (a : (List Tx) × Int × Unit) : M (List Tx) := fin (r_held_words a.1 a.2.1)
def r_first_bar (p_ring : (List Tx)) (p_window : Int) : M (Fl Unit Unit (Option Tx)) := ((.ok ⟨[]⟩ : M (Dc Tx (List Int))) >>= fun shared1 => (((.ok p_ring : M (List Tx)) >>= fun x4 => ((.ok p_window : M Int) >>= fun x5 => m_runs (x4, x5, ()))) >>= fun l37 => sq (loopM (fun (s6 : (Dc Tx (List Int))) (i7 : (P2 Int Int)) => (((.ok p_ring : M (List Tx)) >>= fun x12 => ((.ok i7.a : M Int) >>= fun x13 => ((.ok i7.b : M Int) >>= fun x14 => m_run_places (x12, x13, x14, ())))) >>= fun places8 => ((((.ok p_ring : M (List Tx)) >>= fun x18 => ((.ok i7.a : M Int) >>= fun x19 => ((.ok i7.b : M Int) >>= fun x20 => m_run_hull (x18, x19, x20, ())))) >>= fun x22 => m_words_of (x22, ())) >>= fun l35 => sq (loopM (fun (s23 : (Dc Tx (List Int))) (i24 : Tx) => ((((.ok i24 : M Tx) >>= fun x25 => ((.ok places8 : M (List Int)) >>= fun x26 => .ok (getD' s23 x25 x26))) >>= fun l31 => compM (fun (i28 : Int) => ((.ok i28 : M Int) >>= fun x29 => ((.ok places8 : M (List Int)) >>= fun x30 => .ok (decide (x29 ∈ x30))))) (fun (i28 : Int) => (.ok i28 : M Int)) l31) >>= fun x32 => (.ok i24 : M Tx) >>= fun x33 => putM s23 x33 x32 >>= fun shared34 => (.ok (.nx (shared34))))) l35 (s6)) (fun s36 : (Dc Tx (List Int)) => (.ok (.nx (s36))))))) l37 (shared1)) (fun s38 : (Dc Tx (List Int)) => (((.ok s38 : M (Dc Tx (List Int))) >>= fun x39 => if x39.kvs.length ≤ sizeLine then .ok (srtT (keysD x39)) else stk) >>= fun l51 => sq (loopM (fun (s40 : Unit) (i41 : Tx) => (((((.ok i41 : M Tx) >>= fun x42 => getM s38 x42) >>= fun x43 => .ok (Tru.tru x43)) >>= fun x44 => .ok (!x44)) >>= fun b49 => sq (if b49 = true then (((.ok i41 : M Tx) >>= fun x47 => .ok (some x47)) >>= fun r48 => .ok (.rt r48)) else (.ok (.nx ()))) (fun j50 : Unit => (.ok (.nx ()))))) l51 ()) (fun s52 : Unit => (((.ok () : M Unit) >>= fun _ => (.ok none : M (Option Tx))) >>= fun r53 => .ok (.rt r53)))))))
def m_first_bar (a : (List Tx) × Int × Unit) : M (Option Tx) := fin (r_first_bar a.1 a.2.1)
def r_is_readable (p_ring : (List Tx)) (p_window : Int) : M (Fl Unit Unit Bool) := ((((.ok p_ring : M (List Tx)) >>= fun x3 => ((.ok p_window : M Int) >>= fun x4 => m_first_bar (x3, x4, ()))) >>= fun x5 => .ok x5.isNone) >>= fun r6 => .ok (.rt r6))
def m_is_readable (a : (List Tx) × Int × Unit) : M Bool := fin (r_is_readable a.1 a.2.1)
def r__law_words (p_cube : Tx) : M (Fl Unit Unit (List Tx)) := (((.ok ⟨[]⟩ : M Tx) >>= fun x2 => (.ok [] : M (List Tx)) >>= fun l3 => .ok (x2 :: l3)) >>= fun words1 => (((.ok p_cube : M Tx) >>= fun x4 => .ok (signs x4)) >>= fun l49 => sq (loopM (fun (s5 : (List Tx)) (i6 : Tx) => (((.ok i6 : M Tx) >>= fun x7 => ((.ok ⟨[120]⟩ : M Tx) >>= fun x8 => .ok (decide (x7 = x8)))) >>= fun b47 => sq (if b47 = true then ((((.ok s5 : M (List Tx)) >>= fun l33 => mapM' (fun (i30 : Tx) => ((.ok i30 : M Tx) >>= fun x31 => ((.ok ⟨[48]⟩ : M Tx) >>= fun x32 => catT x31 x32))) l33) >>= fun x39 => (((.ok s5 : M (List Tx)) >>= fun l38 => mapM' (fun (i35 : Tx) => ((.ok i35 : M Tx) >>= fun x36 => ((.ok ⟨[49]⟩ : M Tx) >>= fun x37 => catT x36 x37))) l38) >>= fun x40 => catL x39 x40)) >>= fun words28 => (.ok (.nx (words28)))) else (((.ok s5 : M (List Tx)) >>= fun l46 => mapM' (fun (i43 : Tx) => ((.ok i43 : M Tx) >>= fun x44 => ((.ok i6 : M Tx) >>= fun x45 => catT x44 x45))) l46) >>= fun words41 => (.ok (.nx (words41))))) (fun j48 : (List Tx) => (.ok (.nx (j48)))))) l49 (words1)) (fun s50 : (List Tx) => ((.ok s50 : M (List Tx)) >>= fun r51 => .ok (.rt r51)))))
def m__law_words (a : Tx × Unit) : M (List Tx) := fin (r__law_words a.1)
def r__law_shared (p_ring : (List Tx)) (p_window : Int) : M (Fl Unit Unit (Dc Tx (List Int))) := ((.ok ⟨[]⟩ : M (Dc Tx (List Int))) >>= fun shared1 => ((((.ok p_ring : M (List Tx)) >>= fun x2 => .ok ((x2.length : Nat) : Int)) >>= fun x3 => rngM 0 x3) >>= fun l43 => sq (loopM (fun (s4 : (Dc Tx (List Int))) (i5 : Int) => ((((.ok p_window : M Int) >>= fun x6 => ((.ok 1 : M Int) >>= fun x7 => .ok (x6 + x7))) >>= fun x8 => rngM 0 x8) >>= fun l41 => sq (loopM (fun (s9 : (Dc Tx (List Int))) (i10 : Int) => ((((.ok p_ring : M (List Tx)) >>= fun x12 => .ok ((x12.length : Nat) : Int)) >>= fun x16 => ((.ok i5 : M Int) >>= fun x17 => ((.ok i10 : M Int) >>= fun x18 => m__law_places (x16, x17, x18, ())))) >>= fun places11 => ((((.ok p_ring : M (List Tx)) >>= fun x22 => ((.ok i5 : M Int) >>= fun x23 => ((.ok i10 : M Int) >>= fun x24 => m__law_hull (x22, x23, x24, ())))) >>= fun x26 => m__law_words (x26, ())) >>= fun l39 => sq (loopM (fun (s27 : (Dc Tx (List Int))) (i28 : Tx) => ((((.ok i28 : M Tx) >>= fun x29 => ((.ok places11 : M (List Int)) >>= fun x30 => .ok (getD' s27 x29 x30))) >>= fun l35 => compM (fun (i32 : Int) => ((.ok i32 : M Int) >>= fun x33 => ((.ok places11 : M (List Int)) >>= fun x34 => .ok (decide (x33 ∈ x34))))) (fun (i32 : Int) => (.ok i32 : M Int)) l35) >>= fun x36 => (.ok i28 : M Tx) >>= fun x37 => putM s27 x37 x36 >>= fun shared38 => (.ok (.nx (shared38))))) l39 (s9)) (fun s40 : (Dc Tx (List Int)) => (.ok (.nx (s40))))))) l41 (s4)) (fun s42 : (Dc Tx (List Int)) => (.ok (.nx (s42)))))) l43 (shared1)) (fun s44 : (Dc Tx (List Int)) => (.ok (.rt s44)))))
def m__law_shared (a : (List Tx) × Int × Unit) : M (Dc Tx (List Int)) := fin (r__law_shared a.1 a.2.1)
end RG

set_option linter.all false
set_option maxRecDepth 100000
set_option maxHeartbeats 1000000
namespace RG
open P3 L2
/-! the plain law: words of a cube -/
abbrev Lt := List Nat
def bits (c : Nat) : Lt := if c = 120 then [48, 49] else [c]
def wds : Lt → List Lt
  | [] => [[]]
  | c :: r => (bits c).flatMap fun b => (wds r).map (b :: ·)
def nx (l : Lt) : Nat := l.count 120
theorem tx_eq {a b : Lt} : ((⟨a⟩ : Tx) = ⟨b⟩) ↔ a = b := ⟨fun h => by injection h, fun h => by rw [h]⟩
theorem dec_tx {a b : Lt} : decide ((⟨a⟩ : Tx) = ⟨b⟩) = decide (a = b) := by simp [tx_eq]
theorem dec_one {a b : Nat} : decide ((⟨[a]⟩ : Tx) = ⟨[b]⟩) = decide (a = b) := by simp [tx_eq]
theorem count_one (l : Lt) (c : Nat) : countT ⟨l⟩ ⟨[c]⟩ = ((l.count c : Nat) : Int) := by
  have h := PyProof.Rows.count_cnt (sT ⟨l⟩) c
  have e : countT ⟨l⟩ ⟨[c]⟩ = PySem.Txt.count (sT ⟨l⟩) ⟨#[c]⟩ := rfl
  rw [e, h]
  show PyProof.Rows.cnt c l = _
  induction l with
  | nil => rfl
  | cons n r ih =>
    rw [PyProof.Rows.cnt_cons, ih (PyProof.Rows.count_cnt (sT ⟨r⟩) c) rfl, List.count_cons]
    by_cases q : n = c
    · subst q
      simp
      omega
    · have q' : (n == c) = false := by simpa using q
      simp [if_neg q, q']
theorem wds_cons (c : Nat) (r : Lt) : wds (c :: r) = (bits c).flatMap fun b => (wds r).map (b :: ·) := rfl
theorem wds_len : ∀ l : Lt, (wds l).length = 2 ^ nx l
  | [] => rfl
  | c :: r => by
    unfold wds bits nx
    rw [List.count_cons]
    by_cases h : c = 120
    · subst h
      simp [wds_len r, nx, Nat.pow_succ]
      omega
    · have h' : (c == 120) = false := by simpa using h
      simp [if_neg h, wds_len r, nx, h']
/-- words_of's step -/
def stp (acc : List Lt) (c : Nat) : List Lt := acc.flatMap fun w => (bits c).map fun b => w ++ [b]
theorem stp_fold : ∀ (l : Lt) (acc : List Lt), l.foldl stp acc = acc.flatMap fun w => (wds l).map (w ++ ·)
  | [], acc => by simp [wds]
  | c :: r, acc => by
    rw [List.foldl_cons, stp_fold r]
    unfold stp
    rw [List.flatMap_assoc]
    congr 1
    funext w
    rw [wds_cons, List.flatMap_map, List.map_flatMap]
    congr 1
    funext b
    rw [List.map_map]
    congr 1
    funext z
    simp
theorem wds_fold (l : Lt) : l.foldl stp [[]] = wds l := by
  rw [stp_fold]
  simp
/-- the law's words, by number -/
def dig (l : Lt) (n : Nat) : Lt × Nat := l.foldr (fun c s => if c = 120 then ((48 + s.2 % 2) :: s.1, s.2 / 2) else (c :: s.1, s.2)) ([], n)
theorem dig_snd : ∀ (l : Lt) (n : Nat), (dig l n).2 = n / 2 ^ nx l
  | [], n => by simp [dig, nx]
  | c :: r, n => by
    have ih := dig_snd r n
    unfold dig nx at *
    rw [List.foldr_cons, List.count_cons]
    by_cases h : c = 120
    · subst h
      simp only [if_true, beq_self_eq_true]
      rw [ih, Nat.div_div_eq_div_mul, Nat.pow_succ]
    · have h' : (c == 120) = false := by simpa using h
      simp only [if_neg h, h', Bool.false_eq_true, if_false, Nat.add_zero]
      exact ih
theorem dig_mod : ∀ (l : Lt) (n k : Nat), (dig l (n + 2 ^ nx l * k)).1 = (dig l n).1
  | [], n, k => by simp [dig]
  | c :: r, n, k => by
    by_cases h : c = 120
    · subst h
      have e : nx (120 :: r) = nx r + 1 := by unfold nx; rw [List.count_cons]; simp
      have s1 := dig_snd r n
      have s2 := dig_snd r (n + 2 ^ nx (120 :: r) * k)
      have ih := dig_mod r n (2 * k)
      have e2 : n + 2 ^ nx (120 :: r) * k = n + 2 ^ nx r * (2 * k) := by rw [e, Nat.pow_succ, Nat.mul_assoc]
      have c1 : ∀ m, (dig (120 :: r) m).1 = (48 + (dig r m).2 % 2) :: (dig r m).1 := fun m => by simp [dig]
      rw [c1, c1, s1, s2, e2, ih]
      congr 2
      rw [Nat.add_mul_div_left _ _ (Nat.pow_pos (by decide))]
      omega
    · have e : nx (c :: r) = nx r := by
        unfold nx
        rw [List.count_cons]
        have h' : (c == 120) = false := by simpa using h
        simp [h']
      have c1 : ∀ m, (dig (c :: r) m).1 = c :: (dig r m).1 := fun m => by simp [dig, h]
      rw [c1, c1, e, dig_mod r n k]
theorem dig_wds : ∀ l : Lt, (List.range (2 ^ nx l)).map (fun n => (dig l n).1) = wds l
  | [] => by simp [nx, dig, wds]
  | c :: r => by
    have ih := dig_wds r
    by_cases h : c = 120
    · subst h
      have e : nx (120 :: r) = nx r + 1 := by unfold nx; rw [List.count_cons]; simp
      have c1 : ∀ m, (dig (120 :: r) m).1 = (48 + (dig r m).2 % 2) :: (dig r m).1 := fun m => by simp [dig]
      have er : List.range (2 ^ nx (120 :: r)) = List.range (2 ^ nx r) ++ (List.range (2 ^ nx r)).map (2 ^ nx r + ·) := by
        rw [e, Nat.pow_succ, Nat.mul_comm, Nat.two_mul, List.range_add]
      rw [er, List.map_append, List.map_map]
      rw [wds_cons]
      unfold bits
      rw [if_pos rfl, List.flatMap_cons, List.flatMap_cons, List.flatMap_nil, List.append_nil, ← ih, List.map_map, List.map_map]
      congr 1
      · refine List.map_congr_left fun n hn => ?_
        have hn' := List.mem_range.mp hn
        rw [c1, dig_snd, Nat.div_eq_of_lt hn']
        rfl
      · refine List.map_congr_left fun n hn => ?_
        have hn' := List.mem_range.mp hn
        have q := dig_mod r n 1
        rw [Nat.mul_one, Nat.add_comm] at q
        show (dig (120 :: r) (2 ^ nx r + n)).1 = _
        rw [c1, dig_snd, q]
        have : (2 ^ nx r + n) / 2 ^ nx r = 1 := by
          rw [Nat.add_comm, Nat.add_div_right _ (Nat.pow_pos (by decide)), Nat.div_eq_of_lt hn']
        rw [this]
        rfl
    · have e : nx (c :: r) = nx r := by
        unfold nx
        rw [List.count_cons]
        have h' : (c == 120) = false := by simpa using h
        simp [h']
      have c1 : ∀ m, (dig (c :: r) m).1 = c :: (dig r m).1 := fun m => by simp [dig, h]
      rw [wds_cons]
      unfold bits
      rw [e, if_neg h, List.flatMap_cons, List.flatMap_nil, List.append_nil, ← ih, List.map_map]
      exact List.map_congr_left fun n _ => c1 n
end RG

set_option linter.all false
set_option maxRecDepth 100000
set_option maxHeartbeats 1000000
namespace RG
open P3 L2
def sgn (c : Nat) : Prop := c = 48 ∨ c = 49 ∨ c = 120
def bit (c : Nat) : Prop := c = 48 ∨ c = 49
def Cb (n : Nat) (l : Lt) : Prop := l.length = n ∧ ∀ c ∈ l, sgn c
def Wd (n : Nat) (l : Lt) : Prop := l.length = n ∧ ∀ c ∈ l, bit c
theorem Cb.cons {n c : Nat} {r : Lt} (h : Cb n (c :: r)) : sgn c ∧ Cb (n - 1) r := ⟨h.2 c (List.mem_cons_self ..), by have := h.1; rw [List.length_cons] at this; omega, fun d hd => h.2 d (List.mem_cons_of_mem _ hd)⟩
theorem Wd.cb {n : Nat} {l : Lt} (h : Wd n l) : Cb n l := ⟨h.1, fun c hc => (h.2 c hc).elim .inl fun z => .inr (.inl z)⟩
theorem wds_wd : ∀ {l : Lt} {n : Nat}, Cb n l → ∀ w ∈ wds l, Wd n w
  | [], n, h, w, hw => by
    have : w = [] := by simpa [wds] using hw
    subst this
    exact ⟨h.1, fun c hc => by cases hc⟩
  | c :: r, n, h, w, hw => by
    rw [wds_cons] at hw
    obtain ⟨b, hb, hw⟩ := List.mem_flatMap.mp hw
    obtain ⟨z, hz, rfl⟩ := List.mem_map.mp hw
    obtain ⟨hc, hr⟩ := h.cons
    have hz' := wds_wd hr z hz
    have hn := h.1
    rw [List.length_cons] at hn
    refine ⟨by rw [List.length_cons, hz'.1]; omega, fun d hd => ?_⟩
    rcases List.mem_cons.mp hd with rfl | hd
    · unfold bits at hb
      split at hb
      · rcases List.mem_cons.mp hb with q | q
        · exact .inl q
        · exact .inr (by simpa using q)
      · rename_i q
        have e : d = c := by simpa using hb
        subst e
        rcases hc with z | z | z
        · exact .inl z
        · exact .inr z
        · exact absurd z q
    · exact hz'.2 d hd
theorem wds_ne (l : Lt) : wds l ≠ [] := fun h => by
  have := wds_len l
  rw [h] at this
  have h2 := Nat.pow_pos (n := nx l) (show 0 < 2 by decide)
  simp at this
  omega
/-- a word is held -/
def fit : Lt → Lt → Bool
  | [], [] => true
  | c :: r, b :: s => decide (b ∈ bits c) && fit r s
  | _, _ => false
theorem mem_wds : ∀ (l w : Lt), w ∈ wds l ↔ fit l w = true
  | [], w => by
    cases w with
    | nil => simp [wds, fit]
    | cons b s => simp [wds, fit]
  | c :: r, w => by
    cases w with
    | nil => simp [wds_cons, fit]
    | cons b s =>
      rw [wds_cons, fit, Bool.and_eq_true, ← mem_wds r s, decide_eq_true_eq]
      constructor
      · intro h
        obtain ⟨d, hd, h⟩ := List.mem_flatMap.mp h
        obtain ⟨z, hz, e⟩ := List.mem_map.mp h
        injection e with e1 e2
        subst e1 e2
        exact ⟨hd, hz⟩
      · intro ⟨h1, h2⟩
        exact List.mem_flatMap.mpr ⟨b, h1, List.mem_map.mpr ⟨s, h2, rfl⟩⟩
/-- two cubes have a common word -/
def mts (a b : Lt) : Bool := (List.zipWith (fun x y => decide (x = 120) || (decide (y = 120) || decide (x = y))) a b).all id
theorem mts_wds : ∀ {n : Nat} {a b : Lt}, Cb n a → Cb n b → ((∃ w, w ∈ wds a ∧ w ∈ wds b) ↔ mts a b = true)
  | n, [], [], ha, hb => by simp [wds, mts]
  | n, [], d :: s, ha, hb => by have := ha.1; have := hb.1; simp at *; omega
  | n, c :: r, [], ha, hb => by have := ha.1; have := hb.1; simp at *; omega
  | n, c :: r, d :: s, ha, hb => by
    obtain ⟨hc, hr⟩ := ha.cons
    obtain ⟨hd, hs⟩ := hb.cons
    have ih := mts_wds hr hs
    have e : mts (c :: r) (d :: s) = ((decide (c = 120) || (decide (d = 120) || decide (c = d))) && mts r s) := by simp [mts]
    rw [e, Bool.and_eq_true, ← ih]
    constructor
    · rintro ⟨w, h1, h2⟩
      rw [mem_wds] at h1 h2
      cases w with
      | nil => cases h1
      | cons b z =>
        simp only [fit, Bool.and_eq_true, decide_eq_true_eq] at h1 h2
        refine ⟨?_, z, (mem_wds r z).mpr h1.2, (mem_wds s z).mpr h2.2⟩
        have q1 := h1.1
        have q2 := h2.1
        unfold bits at q1 q2
        by_cases e1 : c = 120
        · simp [e1]
        by_cases e2 : d = 120
        · simp [e2]
        rw [if_neg e1] at q1
        rw [if_neg e2] at q2
        have q1 : b = c := by simpa using q1
        have q2 : b = d := by simpa using q2
        simp [← q1, ← q2]
    · rintro ⟨h, z, h1, h2⟩
      have key : ∃ b, b ∈ bits c ∧ b ∈ bits d := by
        unfold bits
        rcases hc with rfl | rfl | rfl <;> rcases hd with rfl | rfl | rfl <;> simp at h ⊢
      obtain ⟨b, b1, b2⟩ := key
      refine ⟨b :: z, (mem_wds _ _).mpr ?_, (mem_wds _ _).mpr ?_⟩
      · rw [fit, Bool.and_eq_true]
        exact ⟨decide_eq_true b1, (mem_wds r z).mp h1⟩
      · rw [fit, Bool.and_eq_true]
        exact ⟨decide_eq_true b2, (mem_wds s z).mp h2⟩
/-! hulls -/
def hj (a b : Nat) : Nat := if a = b then a else 120
def hll (ws : List Lt) : Lt := match ws with
  | [] => []
  | w :: r => r.foldl (List.zipWith hj) w
def col (ws : List Lt) (k : Nat) : Lt := ws.map fun w => w.getD k 0
def hcol (c : Lt) : Nat := if 48 ∈ c ∧ 49 ∈ c then 120 else c.getD 0 0
def lhl (ws : List Lt) : Lt := (List.range ((ws.getD 0 []).length)).map fun k => hcol (col ws k)
theorem fold_len {n : Nat} : ∀ (r : List Lt) (w : Lt), w.length = n → (∀ z ∈ r, z.length = n) → (r.foldl (List.zipWith hj) w).length = n
  | [], w, h, k => h
  | z :: r, w, h, k => fold_len r _ (by rw [List.length_zipWith, h, k z (List.mem_cons_self ..), Nat.min_self]) fun y hy => k y (List.mem_cons_of_mem _ hy)
theorem fold_at {n : Nat} : ∀ (r : List Lt) (w : Lt) (k : Nat), k < n → w.length = n → (∀ z ∈ r, z.length = n) → (r.foldl (List.zipWith hj) w).getD k 0 = (col r k).foldl hj (w.getD k 0)
  | [], w, k, hk, h, q => rfl
  | z :: r, w, k, hk, h, q => by
    have hz := q z (List.mem_cons_self ..)
    rw [List.foldl_cons, fold_at r _ k hk (by rw [List.length_zipWith, h, hz, Nat.min_self]) fun y hy => q y (List.mem_cons_of_mem _ hy)]
    show _ = (col r k).foldl hj (hj (w.getD k 0) (z.getD k 0))
    congr 1
    rw [List.getD_eq_getElem?_getD, List.getElem?_zipWith, List.getD_eq_getElem?_getD, List.getD_eq_getElem?_getD, List.getElem?_eq_getElem (by omega), List.getElem?_eq_getElem (by omega)]
    rfl
theorem fold_x : ∀ cs : Lt, (∀ c ∈ cs, bit c) → cs.foldl hj 120 = 120
  | [], h => rfl
  | c :: cs, h => by
    have e : hj 120 c = 120 := by
      unfold hj
      split <;> rfl
    rw [List.foldl_cons, e]
    exact fold_x cs fun d hd => h d (List.mem_cons_of_mem _ hd)
theorem fold_col : ∀ (cs : Lt) (c : Nat), bit c → (∀ d ∈ cs, bit d) → cs.foldl hj c = hcol (c :: cs)
  | [], c, hc, h => by
    unfold hcol
    rw [if_neg]
    · rfl
    · rintro ⟨h1, h2⟩
      have h1 : 48 = c := by simpa using h1
      have h2 : 49 = c := by simpa using h2
      omega
  | d :: cs, c, hc, h => by
    have hd := h d (List.mem_cons_self ..)
    have hr : ∀ e ∈ cs, bit e := fun e he => h e (List.mem_cons_of_mem _ he)
    rw [List.foldl_cons]
    by_cases e : c = d
    · subst e
      have e1 : hj c c = c := if_pos rfl
      rw [e1, fold_col cs c hc hr]
      unfold hcol
      have q : ∀ x, x ∈ (c :: c :: cs) ↔ x ∈ c :: cs := fun x => by simp
      simp only [q]
      rfl
    · have e1 : hj c d = 120 := if_neg e
      rw [e1, fold_x cs hr]
      unfold hcol
      rw [if_pos]
      rcases hc with rfl | rfl <;> rcases hd with rfl | rfl <;> simp at e ⊢
theorem hll_lhl {n : Nat} {ws : List Lt} (h0 : ws ≠ []) (h : ∀ w ∈ ws, Wd n w) : hll ws = lhl ws := by
  cases ws with
  | nil => exact absurd rfl h0
  | cons w r =>
    have hw := h w (List.mem_cons_self ..)
    have hr : ∀ z ∈ r, Wd n z := fun z hz => h z (List.mem_cons_of_mem _ hz)
    have l1 : (hll (w :: r)).length = n := fold_len r w hw.1 fun z hz => (hr z hz).1
    refine List.ext_getElem ?_ fun k h1 h2 => ?_
    · rw [l1]
      unfold lhl
      rw [List.length_map, List.length_range]
      exact hw.1.symm
    · have hk : k < n := by rw [l1] at h1; exact h1
      have e1 : (hll (w :: r))[k] = (hll (w :: r)).getD k 0 := by rw [List.getD_eq_getElem?_getD, List.getElem?_eq_getElem h1]; rfl
      have bitAt : ∀ z, Wd n z → bit (z.getD k 0) := fun z hz => by
        rw [List.getD_eq_getElem?_getD, List.getElem?_eq_getElem (by rw [hz.1]; exact hk)]
        exact hz.2 _ (List.getElem_mem _)
      rw [e1]
      show (r.foldl (List.zipWith hj) w).getD k 0 = _
      rw [fold_at r w k hk hw.1 fun z hz => (hr z hz).1, fold_col _ _ (bitAt w hw) fun d hd => by
        obtain ⟨z, hz, rfl⟩ := List.mem_map.mp hd
        exact bitAt z (hr z hz)]
      simp only [lhl, List.getElem_map, List.getElem_range]
      rfl
theorem hcol_wds : ∀ {n : Nat} {l : Lt} (k : Nat), Cb n l → k < n → hcol (col (wds l) k) = l.getD k 0
  | n, [], k, h, hk => by have := h.1; simp at this; omega
  | n, c :: r, 0, h, hk => by
    obtain ⟨hc, hr⟩ := h.cons
    have ne := wds_ne r
    cases hw : wds r with
    | nil => exact absurd hw ne
    | cons z zs =>
      by_cases e : c = 120
      · subst e
        have : col (wds (120 :: r)) 0 = ((z :: zs).map fun _ => 48) ++ ((z :: zs).map fun _ => 49) := by
          rw [wds_cons, hw]
          simp [col, bits, Function.comp_def]
        rw [this]
        unfold hcol
        rw [if_pos]
        · rfl
        · simp
      · have : col (wds (c :: r)) 0 = (z :: zs).map fun _ => c := by
          rw [wds_cons, hw]
          simp [col, bits, e, Function.comp_def]
        rw [this]
        unfold hcol
        rw [if_neg]
        · rfl
        · rintro ⟨h1, h2⟩
          obtain ⟨_, _, h1⟩ := List.mem_map.mp h1
          obtain ⟨_, _, h2⟩ := List.mem_map.mp h2
          omega
  | n, c :: r, k + 1, h, hk => by
    obtain ⟨hc, hr⟩ := h.cons
    have ih := hcol_wds (n := n - 1) k hr (by omega)
    have e1 : col (wds (c :: r)) (k + 1) = (bits c).flatMap fun _ => col (wds r) k := by
      rw [wds_cons]
      unfold col
      rw [List.map_flatMap]
      congr 1
      funext b
      rw [List.map_map]
      rfl
    have ne : col (wds r) k ≠ [] := fun z => wds_ne r (List.map_eq_nil_iff.mp z)
    have e2 : hcol ((bits c).flatMap fun _ => col (wds r) k) = hcol (col (wds r) k) := by
      generalize col (wds r) k = q at *
      unfold bits
      split
      · cases q with
        | nil => exact absurd rfl ne
        | cons y ys =>
          have e3 : ([48, 49].flatMap fun _ => y :: ys) = (y :: ys) ++ (y :: ys) := by simp
          rw [e3]
          unfold hcol
          have q : ∀ x, x ∈ (y :: ys) ++ (y :: ys) ↔ x ∈ y :: ys := fun x => by rw [List.mem_append]; exact or_self_iff
          simp only [q]
          rfl
      · simp
    rw [e1, e2, ih]
    rfl
theorem lhl_wds {n : Nat} {l : Lt} (h : Cb n l) : lhl (wds l) = l := by
  have hl : ((wds l).getD 0 []).length = n := by
    cases hw : wds l with
    | nil => exact absurd hw (wds_ne l)
    | cons z zs =>
      have := wds_wd h z (by rw [hw]; exact List.mem_cons_self ..)
      exact this.1
  have e : lhl (wds l) = (List.range n).map fun k => hcol (col (wds l) k) := by unfold lhl; rw [hl]
  rw [e]
  refine List.ext_getElem (by rw [List.length_map, List.length_range, h.1]) fun k h1 h2 => ?_
  simp only [List.getElem_map, List.getElem_range]
  rw [hcol_wds k h (by rw [List.length_map, List.length_range] at h1; exact h1), List.getD_eq_getElem?_getD, List.getElem?_eq_getElem h2]
  rfl
end RG

set_option linter.all false
set_option maxRecDepth 100000
set_option maxHeartbeats 1000000
namespace RG
open P3 L2
theorem sz : PySem.sizeLine = 16777216 := PySem.sizeLine_eq
theorem signs_mk (l : Lt) : signs ⟨l⟩ = l.map fun c => ⟨[c]⟩ := rfl
theorem nx_le (l : Lt) : nx l ≤ l.length := List.count_le_length ..
theorem pow_nx {l : Lt} (h : l.length ≤ 14) : 2 ^ nx l ≤ 16384 := Nat.le_trans (Nat.pow_le_pow_right (by decide) (Nat.le_trans (nx_le l) h)) (by decide)
theorem rng_ok {P : Nat} (h : P ≤ 16384) : rngM 0 (P : Int) = .ok (rng 0 P) := by
  unfold rngM
  rw [if_pos]
  · congr 2
  · rw [sz]
    omega
theorem bit01 (r : Nat) : idxT ⟨[48, 49]⟩ ((r % 2 : Nat) : Int) = .ok ⟨[48 + r % 2]⟩ := by
  have : r % 2 = 0 ∨ r % 2 = 1 := by omega
  rcases this with e | e <;> rw [e] <;> rfl
theorem wds_le {l : Lt} (h : l.length ≤ 14) : (wds l).length ≤ 16384 := by rw [wds_len]; exact pow_nx h
theorem many {l : Lt} : decide ((8 : Int) < countT ⟨l⟩ ⟨[120]⟩) = decide (8 < nx l) := by
  rw [count_one]
  unfold nx
  simp only [decide_eq_decide]
  omega
def tooM : Err := .exc ⟨"TooMany", ((["word", "limit"] : List PySem.Str).zip (Fargs.vals (((⟨[119, 111, 114, 100, 115]⟩ : Tx), (256 : Int), ()) : Tx × Int × Unit))).reverse⟩
theorem mem_len : ∀ {l : Lt} {w : Lt}, w ∈ wds l → w.length = l.length
  | [], w, h => by
    have : w = [] := by simpa [wds] using h
    rw [this]
  | c :: r, w, h => by
    rw [wds_cons] at h
    obtain ⟨b, _, h⟩ := List.mem_flatMap.mp h
    obtain ⟨z, hz, rfl⟩ := List.mem_map.mp h
    rw [List.length_cons, List.length_cons, mem_len hz]
theorem stp_wds (l : Lt) (j : Nat) : (l.take j).foldl stp [[]] = wds (l.take j) := wds_fold _
theorem q_words_of {n : Nat} {l : Lt} (h : Cb n l) (hn : n ≤ 14) : m_words_of (⟨l⟩, ()) = if nx l ≤ 8 then .ok ((wds l).map Tx.mk) else .error tooM := by
  have hl : l.length ≤ 14 := by rw [h.1]; exact hn
  unfold m_words_of r_words_of
  simp only [ok_b, signs_mk, many]
  by_cases hc : nx l ≤ 8
  · have e : decide (8 < nx l) = false := decide_eq_false (by omega)
    simp only [e, Bool.false_eq_true, if_false, sq_nx, if_pos hc]
    rw [loop_eq (t := (wds l).map Tx.mk) (fun j ws => ws = (wds (l.take j)).map Tx.mk) (by rfl) ?_ ?_]
    · simp only [sq_nx, ok_b, fin_rt]
    · rintro i s hi rfl
      rw [List.length_map] at hi
      simp only [List.getElem_map, dec_one, ok_b]
      have e1 : wds (l.take (i + 1)) = (wds (l.take i)).flatMap fun w => (bits l[i]).map fun b => w ++ [b] := by
        rw [← stp_wds, ← stp_wds, List.take_add_one, List.getElem?_eq_getElem hi]
        simp only [Option.toList, List.foldl_append, List.foldl_cons, List.foldl_nil]
        rfl
      have e2 : (if decide (l[i] = 120) = true then (.ok ⟨[48, 49]⟩ : M Tx) else .ok ⟨[l[i]]⟩) = .ok ⟨bits l[i]⟩ := by
        unfold bits
        by_cases q : l[i] = 120
        · simp only [q, decide_true, if_true]
        · simp only [q, decide_false, Bool.false_eq_true, if_false]
      simp only [e2, ok_b, signs_mk]
      have e3 : (((wds (l.take i)).map Tx.mk).flatMap fun w => ((bits l[i]).map fun c => (⟨[c]⟩ : Tx)).map fun b => (⟨w.l ++ b.l⟩ : Tx)) = (wds (l.take (i + 1))).map Tx.mk := by
        rw [e1, List.flatMap_map, List.map_flatMap]
        congr 1
        funext w
        rw [List.map_map, List.map_map]
        rfl
      have hlen : (l.take (i + 1)).length ≤ 14 := by rw [List.length_take]; omega
      rw [outM_ok (fun (_ : Tx) => (bits l[i]).map fun c => (⟨[c]⟩ : Tx)) (fun (w b : Tx) => (⟨w.l ++ b.l⟩ : Tx)) _ _ (fun _ _ => rfl) ?_ ?_]
      · simp only [ok_b, List.nil_append, e3]
        exact ⟨_, rfl, rfl⟩
      · intro w hw b hb
        obtain ⟨z, hz, rfl⟩ := List.mem_map.mp hw
        obtain ⟨c, _, rfl⟩ := List.mem_map.mp hb
        have q := mem_len hz
        rw [List.length_take] at q
        exact catT_ok (by simp only [List.length_cons, List.length_nil]; omega)
      · rw [e3, List.length_map, List.length_nil, sz]
        have := wds_le hlen
        omega
    · rintro s' rfl
      rw [List.length_map, List.take_length]
  · have e : decide (8 < nx l) = true := decide_eq_true (by omega)
    simp only [e, if_true, sq_er, if_neg hc, fin_er]
    rfl
theorem items_tx (a : Lt) : (Sq.items (⟨a⟩ : Tx) : List Tx) = a.map fun c => ⟨[c]⟩ := rfl
theorem zip_tx (a b : Lt) : List.zipWith (fun (x y : Tx) => (⟨x, y⟩ : P2 Tx Tx)) (a.map fun c => (⟨[c]⟩ : Tx)) (b.map fun c => ⟨[c]⟩) = List.zipWith (fun x y => (⟨⟨[x]⟩, ⟨[y]⟩⟩ : P2 Tx Tx)) a b := by
  rw [List.zipWith_map]
theorem mem_zip {f : Nat → Nat → P2 Tx Tx} : ∀ {a b : Lt} {p : P2 Tx Tx}, p ∈ List.zipWith f a b → ∃ x y, x ∈ a ∧ y ∈ b ∧ p = f x y
  | [], b, p, h => by simp at h
  | x :: a, [], p, h => by simp at h
  | x :: a, y :: b, p, h => by
    rw [List.zipWith_cons_cons] at h
    rcases List.mem_cons.mp h with h | h
    · exact ⟨x, y, List.mem_cons_self .., List.mem_cons_self .., h⟩
    · obtain ⟨u, v, h1, h2, h3⟩ := mem_zip h
      exact ⟨u, v, List.mem_cons_of_mem _ h1, List.mem_cons_of_mem _ h2, h3⟩
def hld (a w : Lt) : Bool := (List.zipWith (fun x y => decide (x = 120) || decide (x = y)) a w).all id
theorem q_is_held (a w : Lt) : m_is_held (⟨a⟩, ⟨w⟩, ()) = .ok (hld a w) := by
  unfold m_is_held r_is_held
  simp only [ok_b, items_tx, zip_tx]
  rw [map_ok (fun i : P2 Tx Tx => decide (i.a = ⟨[120]⟩) || decide (i.a = i.b)) _ ?_]
  · simp only [ok_b, fin_rt, List.map_zipWith, dec_one]
    rfl
  · intro p hp
    cases e : decide (p.a = ⟨[120]⟩) <;> simp [e]
theorem q_meets (a b : Lt) : m_meets (⟨a⟩, ⟨b⟩, ()) = .ok (mts a b) := by
  unfold m_meets r_meets
  simp only [ok_b, items_tx, zip_tx]
  rw [map_ok (fun i : P2 Tx Tx => decide (i.a = ⟨[120]⟩) || (decide (i.b = ⟨[120]⟩) || decide (i.a = i.b))) _ ?_]
  · simp only [ok_b, fin_rt, List.map_zipWith, dec_one]
    rfl
  · intro p hp
    cases e : decide (p.a = ⟨[120]⟩) <;> cases e2 : decide (p.b = ⟨[120]⟩) <;> simp [e, e2]
theorem mem_enum {a : Lt} {p : P2 Int Tx} (h : p ∈ enumL (a.map fun c => (⟨[c]⟩ : Tx))) : ∃ k, ∃ hk : k < a.length, p = ⟨(k : Int), ⟨[a[k]]⟩⟩ := by
  obtain ⟨k, hk, e⟩ := List.mem_iff_getElem.mp h
  have q := enumL_at (List.getElem?_eq_getElem hk)
  rw [enumL_len, List.length_map] at hk
  refine ⟨k, hk, ?_⟩
  rw [e, List.getElem?_map, List.getElem?_eq_getElem hk] at q
  obtain ⟨q1, q2⟩ := q
  cases p with
  | mk pa pb =>
    simp at q1 q2
    rw [q1, q2]
theorem enum_mem {a : Lt} {k : Nat} (hk : k < a.length) : (⟨(k : Int), ⟨[a[k]]⟩⟩ : P2 Int Tx) ∈ enumL (a.map fun c => (⟨[c]⟩ : Tx)) := by
  have hl : k < (enumL (a.map fun c => (⟨[c]⟩ : Tx))).length := by rw [enumL_len, List.length_map]; exact hk
  have q := enumL_at (List.getElem?_eq_getElem hl)
  rw [List.getElem?_map, List.getElem?_eq_getElem hk] at q
  have e : (⟨(k : Int), ⟨[a[k]]⟩⟩ : P2 Int Tx) = (enumL (a.map fun c => (⟨[c]⟩ : Tx)))[k] := by
    obtain ⟨q1, q2⟩ := q
    generalize (enumL (a.map fun c => (⟨[c]⟩ : Tx)))[k] = p at *
    cases p with
    | mk pa pb =>
      simp at q1 q2
      rw [q1, ← q2]
  rw [e]
  exact List.getElem_mem _
theorem idxT_nat {w : Lt} {k : Nat} (h : k < w.length) : idxT ⟨w⟩ (k : Int) = .ok ⟨[w[k]]⟩ := by
  unfold idxT
  rw [L2.atI_nat (List.getElem?_eq_getElem h)]
  rfl
theorem all_zip {f : Nat → Nat → Bool} : ∀ {a b : Lt}, a.length = b.length → ((List.zipWith f a b).all id = true ↔ ∀ k (h1 : k < a.length) (h2 : k < b.length), f a[k] b[k] = true)
  | [], [], h => by simp
  | [], y :: b, h => by simp at h
  | x :: a, [], h => by simp at h
  | x :: a, y :: b, h => by
    rw [List.zipWith_cons_cons, List.all_cons, Bool.and_eq_true, all_zip (a := a) (b := b) (by simpa using h)]
    constructor
    · intro ⟨h1, h2⟩ k k1 k2
      cases k with
      | zero => exact h1
      | succ k => exact h2 k (by simpa using k1) (by simpa using k2)
    · intro q
      exact ⟨q 0 (by simp) (by simp), fun k k1 k2 => q (k + 1) (by simpa using k1) (by simpa using k2)⟩
theorem cut1 {α : Type} (x : α) (r : List α) : cutA (x :: r) (some 1) none = r := by
  unfold cutA
  rw [HT.sIx_none, show (some (1 : Int)) = some ((1 : Nat) : Int) from rfl, HT.sIx_nat, List.length_cons, Nat.min_eq_left (by omega)]
  simp
theorem idx0 {α : Type} (x : α) (r : List α) : idxL (x :: r) 0 = .ok x := idxL_nat (i := 0) rfl
theorem join1 : ∀ l : Lt, joinLL [] (l.map fun c => [c]) = l
  | [] => rfl
  | [c] => rfl
  | c :: d :: r => by
    have ih := join1 (d :: r)
    show [c] ++ ([] ++ joinLL [] ((d :: r).map fun c => [c])) = _
    rw [ih]
    rfl
theorem joinT_ok {l : Lt} (h : l.length ≤ 16777216) : joinT ⟨[]⟩ (l.map fun c => (⟨[c]⟩ : Tx)) = .ok ⟨l⟩ := by
  unfold joinT
  rw [if_pos]
  · congr 2
    rw [List.map_map]
    exact join1 l
  · rw [List.map_map]
    have : (l.map ((fun x : Tx => x.l.length) ∘ fun c => ⟨[c]⟩)).sum = l.length := by
      clear h
      induction l with
      | nil => rfl
      | cons c r ih => rw [List.map_cons, List.sum_cons, ih, List.length_cons]; simp; omega
    rw [this]
    simpa using h
theorem q_hull {n : Nat} {ws : List Lt} (h0 : ws ≠ []) (h : ∀ w ∈ ws, w.length = n) (hn : n ≤ 14) : m_hull (ws.map Tx.mk, ()) = .ok ⟨hll ws⟩ := by
  cases ws with
  | nil => exact absurd rfl h0
  | cons w r =>
    have hw := h w (List.mem_cons_self ..)
    have hr : ∀ z ∈ r, z.length = n := fun z hz => h z (List.mem_cons_of_mem _ hz)
    unfold m_hull r_hull
    have i0 : idxL ((w :: r).map Tx.mk) 0 = .ok ⟨w⟩ := idx0 _ _
    have i1 : cutA ((w :: r).map Tx.mk) (some 1) none = r.map Tx.mk := cut1 _ _
    simp only [ok_b, i0, i1]
    rw [loop_eq (t := (⟨hll (w :: r)⟩ : Tx)) (fun j s => s = ⟨(r.take j).foldl (List.zipWith hj) w⟩) (by rfl) ?_ ?_]
    · simp only [sq_nx, ok_b, fin_rt]
    · rintro i s hi rfl
      rw [List.length_map] at hi
      have hl := fold_len (r.take i) w hw fun z hz => hr z (List.mem_of_mem_take hz)
      simp only [List.getElem_map, ok_b, items_tx, zip_tx]
      generalize hq : (r.take i).foldl (List.zipWith hj) w = q at *
      rw [map_ok (fun p : P2 Tx Tx => if p.a = p.b then p.a else ⟨[120]⟩) _ ?_]
      · have e : (List.zipWith (fun x y => (⟨⟨[x]⟩, ⟨[y]⟩⟩ : P2 Tx Tx)) q r[i]).map (fun p : P2 Tx Tx => if p.a = p.b then p.a else ⟨[120]⟩) = (List.zipWith hj q r[i]).map fun c => ⟨[c]⟩ := by
          rw [List.map_zipWith, List.map_zipWith]
          congr 1
          funext x y
          unfold hj
          by_cases e : x = y
          · subst e
            simp
          · rw [if_neg e, if_neg]
            exact fun z => e (by injection z with z; injection z)
        simp only [ok_b, e]
        rw [joinT_ok (by rw [List.length_zipWith]; omega)]
        simp only [ok_b]
        refine ⟨_, rfl, ?_⟩
        rw [List.take_add_one, List.getElem?_eq_getElem hi]
        simp only [Option.toList, List.foldl_append, List.foldl_cons, List.foldl_nil, hq]
      · intro p hp
        by_cases e : p.a = p.b
        · simp only [e, decide_true, if_true]
        · simp only [e, decide_false, Bool.false_eq_true, if_false]
    · rintro s' rfl
      rw [List.length_map, List.take_length]
      rfl
theorem q_law_cube {n : Nat} {ws : List Lt} (h0 : ws ≠ []) (h : ∀ w ∈ ws, Wd n w) (hn : n ≤ 14) : m__law_cube (ws.map Tx.mk, ()) = .ok ⟨lhl ws⟩ := by
  cases ws with
  | nil => exact absurd rfl h0
  | cons w r =>
    have hw := (h w (List.mem_cons_self ..)).1
    unfold m__law_cube r__law_cube
    have i0 : idxL ((w :: r).map Tx.mk) 0 = .ok ⟨w⟩ := idx0 _ _
    simp only [ok_b, i0]
    rw [rng_ok (show w.length ≤ 16384 by omega)]
    simp only [ok_b]
    rw [loop_eq (t := (⟨lhl (w :: r)⟩ : Tx)) (fun j s => s = ⟨(List.range j).map fun k => hcol (col (w :: r) k)⟩) (by rfl) ?_ ?_]
    · simp only [sq_nx, ok_b, fin_rt]
    · rintro i s hi rfl
      rw [rng_len] at hi
      have hx : (rng 0 w.length)[i]'(by rw [rng_len]; exact hi) = (i : Int) := by simp [rng]
      rw [hx]
      rw [map_ok (fun z : Tx => (⟨[z.l.getD i 0]⟩ : Tx)) _ ?_]
      · have e : ((w :: r).map Tx.mk).map (fun z : Tx => (⟨[z.l.getD i 0]⟩ : Tx)) = (col (w :: r) i).map fun c => ⟨[c]⟩ := by
          unfold col
          rw [List.map_map, List.map_map]
          rfl
        have m1 : ∀ c : Nat, decide ((⟨[c]⟩ : Tx) ∈ (col (w :: r) i).map fun c => (⟨[c]⟩ : Tx)) = decide (c ∈ col (w :: r) i) := fun c => by
          rw [decide_eq_decide]
          constructor
          · intro z
            obtain ⟨d, hd, e⟩ := List.mem_map.mp z
            have : d = c := by injection e with e; injection e
            rw [← this]
            exact hd
          · exact fun z => List.mem_map.mpr ⟨c, z, rfl⟩
        have m2 : idxL ((col (w :: r) i).map fun c => (⟨[c]⟩ : Tx)) 0 = .ok ⟨[w.getD i 0]⟩ := idx0 _ _
        have m3 : ∀ c : Nat, catT ⟨(List.range i).map fun k => hcol (col (w :: r) k)⟩ ⟨[c]⟩ = .ok ⟨((List.range i).map fun k => hcol (col (w :: r) k)) ++ [c]⟩ := fun c => catT_ok (by rw [List.length_map, List.length_range]; simp; omega)
        simp only [ok_b, e, m1, m2, m3]
        have m4 : (⟨(List.range (i + 1)).map fun k => hcol (col (w :: r) k)⟩ : Tx) = ⟨((List.range i).map fun k => hcol (col (w :: r) k)) ++ [hcol (col (w :: r) i)]⟩ := by
          rw [List.range_succ, List.map_append]
          rfl
        rw [m4]
        refine ⟨_, ?_, rfl⟩
        by_cases h1 : 48 ∈ col (w :: r) i
        · by_cases h2 : 49 ∈ col (w :: r) i
          · have : hcol (col (w :: r) i) = 120 := if_pos ⟨h1, h2⟩
            simp only [h1, h2, decide_true, if_true, ok_b, sq_nx, this]
          · have : hcol (col (w :: r) i) = w.getD i 0 := if_neg fun z => h2 z.2
            simp only [h1, h2, decide_true, decide_false, if_true, ok_b, sq_nx, this, Bool.false_eq_true, if_false]
        · have : hcol (col (w :: r) i) = w.getD i 0 := if_neg fun z => h1 z.1
          simp only [h1, decide_false, ok_b, sq_nx, this, Bool.false_eq_true, if_false]
      · intro z hz
        obtain ⟨y, hy, rfl⟩ := List.mem_map.mp hz
        have hy2 := (h y hy).1
        have e : (y.getD i 0) = y[i]'(by omega) := by rw [List.getD_eq_getElem?_getD, List.getElem?_eq_getElem (by omega)]; rfl
        simp only [e, idxT_nat (show i < y.length by omega)]
    · rintro s' rfl
      rw [rng_len]
      rfl
theorem q_cell (ns : List Int) (k : Nat) : m__law_cell (ns, (k : Int), ()) = .ok (ns.getD k 0) := by
  unfold m__law_cell r__law_cell
  simp only [ok_b]
  by_cases h : k < ns.length
  · have e : decide ((k : Int) < ((ns.length : Nat) : Int)) = true := decide_eq_true (by omega)
    have e2 : idxL ns (k : Int) = .ok (ns.getD k 0) := idxL_nat (by rw [List.getD_eq_getElem?_getD, List.getElem?_eq_getElem h]; rfl)
    simp only [e, if_true, e2, ok_b, sq_rt, fin_rt]
  · have e : decide ((k : Int) < ((ns.length : Nat) : Int)) = false := decide_eq_false (by omega)
    have e2 : ns.getD k 0 = 0 := by rw [List.getD_eq_getElem?_getD, List.getElem?_eq_none (by omega)]; rfl
    simp only [e, Bool.false_eq_true, if_false, sq_nx, ok_b, fin_rt, e2]
def Nm (b : Int) (c : Nat) (l : List Int) : Prop := l.length = c ∧ ∀ x ∈ l, 0 ≤ x ∧ x < b
theorem p18 : powI 10 18 = .ok 1000000000000000000 := by
  unfold powI
  rw [if_pos (by decide)]
  rfl
theorem q_numbers (cell : Int) {b : Int} {c : Nat} (hb : 0 < b) (hb2 : b < 1073741824) (hc : c ≤ 1000) : okP (m__law_numbers (cell, b, (c : Int), ())) (Nm b c) := by
  unfold m__law_numbers r__law_numbers
  have e1 : mulI cell 48271 = .ok (cell * 48271) := mulI_ok (by omega)
  have e2 : ∀ x, modI x 2147483647 = .ok (x % 2147483647) := fun x => modI_ok (by omega)
  have e3 : ∀ x, mulI x 16807 = .ok (x * 16807) := fun x => mulI_ok (by omega)
  have e4 : ∀ x, divI x 11 = .ok (x / 11) := fun x => divI_ok (by omega) (by omega)
  have e5 : ∀ x, modI x b = .ok (x % b) := fun x => modI_ok hb
  have e6 : ∀ x, divI x b = .ok (x / b) := fun x => divI_ok hb hb2
  simp only [ok_b, e1, e2, p18]
  rw [rng_ok (show c ≤ 16384 by omega)]
  simp only [ok_b, e2, e3, e4, e5, e6]
  refine okP_fin (okP_loop (fun j s => Nm b j s.1) ⟨rfl, fun x hx => by cases hx⟩ (fun i s hi hI => ?_) fun s' hI => ?_)
  · rw [rng_len] at hi
    obtain ⟨h1, h2⟩ := hI
    have ap : ∀ y : Int, 0 ≤ y → y < b → okP (appM s.1 y) (Nm b (i + 1)) := fun y y1 y2 => by
      rw [appM_ok (by omega)]
      refine okP_ok ⟨by rw [List.length_append, h1]; rfl, fun x hx => ?_⟩
      rcases List.mem_append.mp hx with z | z
      · exact h2 x z
      · rw [List.mem_singleton.mp z]
        exact ⟨y1, y2⟩
    refine okP_b (P := fun _ => True) ?_ fun bb _ => ?_
    · exact okP_if (fun _ => okP_ok trivial) fun _ => okP_ok trivial
    · refine okP_sq (P := fun j => Nm b (i + 1) j.1) (okP_if (fun _ => ?_) fun _ => ?_) fun j hj => okP_ok ⟨_, rfl, hj⟩
      · exact okP_b (ap _ (Int.emod_nonneg _ (by omega)) (Int.emod_lt_of_pos _ hb)) fun x hx => okP_ok ⟨_, rfl, hx⟩
      · exact okP_b (ap _ (Int.emod_nonneg _ (by omega)) (Int.emod_lt_of_pos _ hb)) fun x hx => okP_ok ⟨_, rfl, hx⟩
  · rw [rng_len] at hI
    exact okP_ok ⟨_, rfl, hI⟩
end RG

set_option linter.all false
set_option maxRecDepth 100000
set_option maxHeartbeats 1000000
namespace RG
open P3 L2
theorem okP_pass {S L R : Type} {m : M Bool} {k : Unit → M (Fl S L R)} {r : R} {Q : Fl S L R → Prop} (h : m = .ok false) (hk : okP (k ()) Q) : okP (m >>= fun b => sq (if b = true then (.ok (.rt r) : M (Fl Unit L R)) else .ok (.nx ())) k) Q := by
  rw [h]
  exact hk
theorem loop_unit {α L R : Type} {f : Unit → α → M (Fl Unit Unit R)} {xs : List α} (h : ∀ x ∈ xs, f () x = .ok (.nx ())) : (loopM f xs () : M (Fl Unit L R)) = .ok (.nx ()) := by
  rw [loop_fold (fun s _ => s) xs () fun s x hx => h x hx]
theorem okP_true {m : M Bool} (h : okP m fun r => r = true) : m = .ok true := by
  obtain ⟨r, h1, h2⟩ := h
  rw [h1, h2]
@[simp] theorem finU_nx {S L : Type} (s : S) : finU (.ok (.nx s) : M (Fl S L Unit)) = .ok () := id rfl
@[simp] theorem finU_er {S L : Type} (e : Err) : finU (.error e : M (Fl S L Unit)) = .error e := id rfl
@[simp] theorem optM_some {α : Type} (x : α) : optM (some x) = .ok x := id rfl

/-! places of a run -/
abbrev zz (l : List Nat) : List Int := l.map fun (n : Nat) => (n : Int)
def onA (L s k p : Nat) : Bool := decide (((p : Int) - (s : Int)) % (L : Int) ≤ (k : Int))
def arc (L s k : Nat) : List Nat := (List.range L).filter (onA L s k)
theorem rng0 (n : Nat) : rng 0 n = zz (List.range n) := by
  unfold rng zz
  congr 1
  funext k
  omega
theorem mem_arc {L s k p : Nat} : p ∈ arc L s k ↔ p < L ∧ ((p : Int) - (s : Int)) % (L : Int) ≤ (k : Int) := by
  unfold arc onA
  rw [List.mem_filter, List.mem_range, decide_eq_true_iff]
theorem mem_arc2 {L s k p : Nat} (hL : 0 < L) : p ∈ arc L s k ↔ ∃ j, j ≤ k ∧ p = (s + j) % L := by
  rw [mem_arc]
  have hL' : (0 : Int) < (L : Int) := by omega
  constructor
  · rintro ⟨h1, h2⟩
    have h0 := Int.emod_nonneg ((p : Int) - s) (Int.ne_of_gt hL')
    refine ⟨(((p : Int) - s) % L).toNat, by omega, ?_⟩
    have e : (((s + (((p : Int) - s) % L).toNat) % L : Nat) : Int) = (p : Int) := by
      rw [Int.natCast_emod, Int.natCast_add, Int.toNat_of_nonneg h0]
      rw [Int.add_emod_emod, show (s : Int) + ((p : Int) - s) = p by omega]
      exact Int.emod_eq_of_lt (by omega) (by omega)
    omega
  · rintro ⟨j, h1, rfl⟩
    refine ⟨Nat.mod_lt _ hL, ?_⟩
    rw [Int.natCast_emod, Int.emod_sub_emod, Int.natCast_add, show (s : Int) + j - s = j by omega]
    have := Nat.mod_le j L
    rw [← Int.natCast_emod]
    omega
theorem arc_pw (L s k : Nat) : (arc L s k).Pairwise (· < ·) := List.Pairwise.filter _ List.pairwise_lt_range
theorem ints_pw {l : List Nat} (h : l.Pairwise (· < ·)) : (zz l).Pairwise (· < ·) := List.pairwise_map.mpr (h.imp fun q => by omega)
theorem mem_ints {l : List Nat} {x : Int} : x ∈ zz l ↔ ∃ n ∈ l, x = (n : Int) := by
  unfold zz
  rw [List.mem_map]
  exact ⟨fun ⟨n, h, e⟩ => ⟨n, h, e.symm⟩, fun ⟨n, h, e⟩ => ⟨n, h, e.symm⟩⟩
theorem mem_ints_nat {l : List Nat} {n : Nat} : (n : Int) ∈ zz l ↔ n ∈ l := by
  rw [mem_ints]
  exact ⟨fun ⟨m, h, e⟩ => by have : n = m := by omega
                             rw [this]; exact h, fun h => ⟨n, h, rfl⟩⟩
theorem q_places (L s k : Nat) (hL : 0 < L) (hL2 : L ≤ 16384) : m__law_places ((L : Int), (s : Int), (k : Int), ()) = .ok (zz (arc L s k)) := by
  unfold m__law_places r__law_places
  simp only [ok_b]
  rw [rng_ok hL2]
  simp only [ok_b]
  have hm : ∀ x : Int, modI x (L : Int) = .ok (x % (L : Int)) := fun x => modI_ok (by omega)
  rw [comp_ok (fun x : Int => decide ((x - (s : Int)) % (L : Int) ≤ (k : Int))) (fun x : Int => x) _ (fun x _ => by simp only [ok_b, hm]) (fun x _ => rfl)]
  simp only [ok_b, fin_rt, List.map_id']
  rw [rng0]
  unfold zz arc onA
  rw [List.filter_map]
  rfl
/-- a ring: words of zeros and ones, of one length -/
def Rg (n : Nat) (ring : List Lt) : Prop := ring ≠ [] ∧ (∀ w ∈ ring, Wd n w) ∧ n ≤ 14 ∧ ring.length ≤ 1000
abbrev tx (ring : List Lt) : List Tx := ring.map Tx.mk
theorem Rg.pos {n : Nat} {ring : List Lt} (h : Rg n ring) : 0 < ring.length := List.length_pos_iff.mpr h.1
theorem tx_len (ring : List Lt) : (tx ring).length = ring.length := List.length_map _
theorem mem_enumL {α : Type} {xs : List α} {p : P2 Int α} (h : p ∈ enumL xs) : ∃ k, ∃ hk : k < xs.length, p = ⟨(k : Int), xs[k]⟩ := by
  obtain ⟨k, hk, e⟩ := List.getElem_of_mem h
  have hk2 : k < xs.length := by rw [enumL_len] at hk; exact hk
  have e1 : (enumL xs)[k]? = some p := by rw [List.getElem?_eq_getElem hk, e]
  obtain ⟨q1, q2⟩ := enumL_at e1
  rw [List.getElem?_eq_getElem hk2] at q2
  cases p
  simp at q1 q2
  exact ⟨k, hk2, by rw [q1, q2]⟩
theorem items_l {α : Type} [Den α] (xs : List α) : (Sq.items xs : List α) = xs := id rfl
theorem q_check {n : Nat} {ring : List Lt} (h : Rg n ring) : m_check_ring (tx ring, ()) = .ok () := by
  unfold m_check_ring r_check_ring
  have e1 : Tru.tru (tx ring) = true := by
    cases ring with
    | nil => exact absurd rfl h.1
    | cons a r => rfl
  have e2 : idxL (tx ring) 0 = .ok ⟨ring.getD 0 []⟩ := by
    cases ring with
    | nil => exact absurd rfl h.1
    | cons a r => exact idx0 _ _
  have l0 : (ring.getD 0 []).length = n := by
    cases ring with
    | nil => exact absurd rfl h.1
    | cons a r => exact (h.2.1 a List.mem_cons_self).1
  simp only [ok_b, e1, Bool.not_true, Bool.false_eq_true, if_false, sq_nx, e2, items_l]
  rw [loop_unit fun p hp => ?_]
  · simp only [sq_nx, finU_nx]
  · obtain ⟨k, hk, rfl⟩ := mem_enumL hp
    rw [tx_len] at hk
    have l1 : ((tx ring)[k]'(by rw [tx_len]; exact hk)).l.length = n := by
      show ((ring.map Tx.mk)[k]'_).l.length = n
      rw [List.getElem_map]
      exact (h.2.1 _ (List.getElem_mem hk)).1
    simp only [l1, l0, decide_true, Bool.not_true, Bool.false_eq_true, if_false, sq_nx]
theorem rng_k {P : Nat} (h : P ≤ 16384) : rngM 0 (P : Int) = .ok (zz (List.range P)) := by rw [rng_ok h, rng0]
theorem srt_arc {L s k : Nat} (hL : 0 < L) : srtI (dd (zz ((List.range (k + 1)).map fun j => (s + j) % L))) = zz (arc L s k) := by
  symm
  refine srtB_of linI (perm_of_mem ((ints_pw (arc_pw L s k)).imp fun h => Int.ne_of_lt h) (dd_nodup _) fun x => ?_) (lt_le_pw (ints_pw (arc_pw L s k)))
  rw [mem_dd, mem_ints, mem_ints]
  constructor
  · rintro ⟨p, hp, rfl⟩
    obtain ⟨j, hj, rfl⟩ := (mem_arc2 hL).mp hp
    exact ⟨_, List.mem_map.mpr ⟨j, List.mem_range.mpr (by omega), rfl⟩, rfl⟩
  · rintro ⟨p, hp, rfl⟩
    obtain ⟨j, hj, rfl⟩ := List.mem_map.mp hp
    exact ⟨_, (mem_arc2 hL).mpr ⟨j, by have := List.mem_range.mp hj; omega, rfl⟩, rfl⟩
theorem q_run_places {n : Nat} {ring : List Lt} (h : Rg n ring) (s k : Nat) (hk : k ≤ 60) : m_run_places (tx ring, (s : Int), (k : Int), ()) = .ok (zz (arc ring.length s k)) := by
  unfold m_run_places r_run_places
  have hL := h.pos
  simp only [ok_b, q_check h, tx_len]
  rw [show (k : Int) + 1 = ((k + 1 : Nat) : Int) by omega, rng_k (by omega)]
  have hm : ∀ x : Int, modI x (ring.length : Int) = .ok (x % (ring.length : Int)) := fun x => modI_ok (by omega)
  simp only [ok_b]
  unfold fewM
  rw [if_pos (by rw [List.length_map, List.length_range]; omega)]
  simp only [ok_b]
  rw [map_ok (fun j : Int => ((s : Int) + j) % (ring.length : Int)) _ (fun x _ => by simp only [ok_b, hm])]
  have e : (zz (List.range (k + 1))).map (fun j : Int => ((s : Int) + j) % (ring.length : Int)) = zz ((List.range (k + 1)).map fun j => (s + j) % ring.length) := by
    unfold zz
    rw [List.map_map, List.map_map]
    congr 1
  simp only [ok_b, e]
  unfold srtS
  have l : (dd (zz ((List.range (k + 1)).map fun j => (s + j) % ring.length))).length < 64 := by
    have := dd_len (zz ((List.range (k + 1)).map fun j => (s + j) % ring.length))
    simp only [List.length_map, List.length_range] at this
    omega
  rw [if_pos l, srt_arc hL]
  simp only [ok_b, fin_rt]
/-- the hull of a run -/
def wat (ring : List Lt) (p : Nat) : Lt := ring.getD p []
def arcw (ring : List Lt) (s k : Nat) : List Lt := (arc ring.length s k).map (wat ring)
def hul (ring : List Lt) (s k : Nat) : Lt := lhl (arcw ring s k)
theorem wat_mem {ring : List Lt} {p : Nat} (h : p < ring.length) : wat ring p ∈ ring := by
  unfold wat
  rw [List.getD_eq_getElem?_getD, List.getElem?_eq_getElem h]
  exact List.getElem_mem h
theorem wat_ix {ring : List Lt} {p : Nat} (h : p < ring.length) : idxL (tx ring) (p : Int) = .ok ⟨wat ring p⟩ := by
  refine idxL_nat ?_
  unfold wat tx
  rw [List.getElem?_map, List.getD_eq_getElem?_getD, List.getElem?_eq_getElem h]
  rfl
theorem arc_ne {L s k : Nat} (hL : 0 < L) : arc L s k ≠ [] := fun e => by
  have : s % L ∈ arc L s k := (mem_arc2 hL).mpr ⟨0, by omega, by rw [Nat.add_zero]⟩
  rw [e] at this
  cases this
theorem arcw_ok {n : Nat} {ring : List Lt} (h : Rg n ring) (s k : Nat) : arcw ring s k ≠ [] ∧ ∀ w ∈ arcw ring s k, Wd n w := by
  refine ⟨fun e => arc_ne h.pos (List.map_eq_nil_iff.mp e), fun w hw => ?_⟩
  obtain ⟨p, hp, rfl⟩ := List.mem_map.mp hw
  exact h.2.1 _ (wat_mem (mem_arc.mp hp).1)
theorem arc_words {ring : List Lt} (s k : Nat) : mapM' (fun i : Int => idxL (tx ring) i) (zz (arc ring.length s k)) = .ok (tx (arcw ring s k)) := by
  rw [map_ok (fun i : Int => (⟨wat ring i.toNat⟩ : Tx)) _ ?_]
  · unfold tx arcw zz
    rw [List.map_map, List.map_map]
    rfl
  · intro x hx
    obtain ⟨p, hp, rfl⟩ := mem_ints.mp hx
    rw [wat_ix (mem_arc.mp hp).1]
    rfl
theorem q_run_hull {n : Nat} {ring : List Lt} (h : Rg n ring) (s k : Nat) (hk : k ≤ 60) : m_run_hull (tx ring, (s : Int), (k : Int), ()) = .ok ⟨hul ring s k⟩ := by
  unfold m_run_hull r_run_hull
  obtain ⟨h1, h2⟩ := arcw_ok h s k
  simp only [ok_b, q_run_places h s k hk, arc_words, q_hull h1 (fun w hw => (h2 w hw).1) h.2.2.1, fin_rt, hll_lhl h1 h2]
  rfl
theorem q_lhull {n : Nat} {ring : List Lt} (h : Rg n ring) (s k : Nat) : m__law_hull (tx ring, (s : Int), (k : Int), ()) = .ok ⟨hul ring s k⟩ := by
  unfold m__law_hull r__law_hull
  obtain ⟨h1, h2⟩ := arcw_ok h s k
  have := h.2.2.2
  simp only [ok_b, tx_len, q_places ring.length s k h.pos (by omega), arc_words, q_law_cube h1 h2 h.2.2.1, fin_rt]
  rfl
theorem hul_cb {n : Nat} {ring : List Lt} (h : Rg n ring) (s k : Nat) : Cb n (hul ring s k) := by
  obtain ⟨h1, h2⟩ := arcw_ok h s k
  unfold hul
  generalize arcw ring s k = ws at h1 h2
  have h0 : 0 < ws.length := List.length_pos_iff.mpr h1
  have e0 : (ws.getD 0 []).length = n := by
    rw [List.getD_eq_getElem?_getD, List.getElem?_eq_getElem h0]
    exact (h2 _ (List.getElem_mem h0)).1
  refine ⟨by unfold lhl; rw [List.length_map, List.length_range, e0], fun c hc => ?_⟩
  obtain ⟨k, hk, rfl⟩ := List.mem_map.mp hc
  unfold hcol
  split
  · exact .inr (.inr rfl)
  · have hk2 : k < n := by rw [← e0]; exact List.mem_range.mp hk
    have w0 := h2 _ (List.getElem_mem h0)
    unfold col
    have : ((ws.map fun w => w.getD k 0).getD 0 0) = (ws[0]).getD k 0 := by
      rw [List.getD_eq_getElem?_getD, List.getElem?_map, List.getElem?_eq_getElem h0]
      rfl
    rw [this]
    have hl : k < ws[0].length := by rw [w0.1]; exact hk2
    rw [List.getD_eq_getElem?_getD, List.getElem?_eq_getElem hl]
    exact (w0.2 _ (List.getElem_mem hl)).elim .inl fun z => .inr (.inl z)

/-! runs, holders -/
def runsL (L w : Nat) : List (Nat × Nat) := (List.range L).flatMap fun s => (List.range (w + 1)).map fun k => (s, k)
abbrev prs (l : List (Nat × Nat)) : List (P2 Int Int) := l.map fun r => ⟨(r.1 : Int), (r.2 : Int)⟩
theorem mem_runsL {L w s k : Nat} : (s, k) ∈ runsL L w ↔ s < L ∧ k ≤ w := by
  unfold runsL
  rw [List.mem_flatMap]
  constructor
  · rintro ⟨a, ha, hb⟩
    obtain ⟨b, hb, e⟩ := List.mem_map.mp hb
    cases e
    exact ⟨List.mem_range.mp ha, by have := List.mem_range.mp hb; omega⟩
  · rintro ⟨h1, h2⟩
    exact ⟨s, List.mem_range.mpr h1, List.mem_map.mpr ⟨k, List.mem_range.mpr (by omega), rfl⟩⟩
theorem runsL_len (L w : Nat) : (runsL L w).length = L * (w + 1) := by
  unfold runsL
  rw [List.length_flatMap]
  simp only [List.length_map, List.length_range]
  rw [List.map_const', List.sum_replicate_nat, List.length_range]
theorem q_runs {n : Nat} {ring : List Lt} (h : Rg n ring) (w : Nat) (hw : w ≤ 60) : m_runs (tx ring, (w : Int), ()) = .ok (prs (runsL ring.length w)) := by
  unfold m_runs r_runs
  have h4 := h.2.2.2
  simp only [ok_b, q_check h, tx_len]
  rw [rng_k (show ring.length ≤ 16384 by omega), show (w : Int) + 1 = ((w + 1 : Nat) : Int) by omega, rng_k (show w + 1 ≤ 16384 by omega)]
  simp only [ok_b]
  have e : ((zz (List.range ring.length)).flatMap fun s => (zz (List.range (w + 1))).map fun k => (⟨s, k⟩ : P2 Int Int)) = prs (runsL ring.length w) := by
    unfold prs runsL zz
    rw [List.flatMap_map, List.map_flatMap]
    congr 1
    funext s
    rw [List.map_map, List.map_map]
    rfl
  rw [outM_ok (fun _ : Int => zz (List.range (w + 1))) (fun (s k : Int) => (⟨s, k⟩ : P2 Int Int)) _ _ (fun _ _ => rfl) (fun _ _ _ _ => rfl) ?_]
  · simp only [ok_b, fin_rt, List.nil_append, e]
  · rw [e, List.length_map, runsL_len, List.length_nil, sz]
    have := Nat.mul_le_mul h4 (show w + 1 ≤ 61 by omega)
    omega
def holdL (ring : List Lt) (w : Nat) (word : Lt) : List (Nat × Nat) := (runsL ring.length w).filter fun r => hld (hul ring r.1 r.2) word
theorem q_holders {n : Nat} {ring : List Lt} (h : Rg n ring) (w : Nat) (hw : w ≤ 60) (word : Lt) : m_holders (tx ring, (w : Int), ⟨word⟩, ()) = .ok (prs (holdL ring w word)) := by
  unfold m_holders r_holders
  simp only [ok_b, q_runs h w hw]
  rw [comp_ok (fun p : P2 Int Int => hld (hul ring p.a.toNat p.b.toNat) word) (fun p : P2 Int Int => p) _ ?_ ?_]
  · simp only [ok_b, fin_rt, List.map_id']
    unfold prs holdL
    rw [List.filter_map]
    rfl
  · intro p hp
    obtain ⟨r, hr, rfl⟩ := List.mem_map.mp hp
    have := (mem_runsL.mp hr).2
    simp only [q_run_hull h r.1 r.2 (by omega), ok_b, q_is_held]
    rfl
  · intro p _
    rfl
/-! what all of some lists have in common -/
def meetL (acc : Option (List Nat)) (a : List Nat) : Option (List Nat) := match acc with
  | none => some a
  | some f => some (f.filter fun p => decide (p ∈ a))
def common (as : List (List Nat)) : Option (List Nat) := as.foldl meetL none
theorem fold_meet : ∀ (as : List (List Nat)) (f : List Nat), as.foldl meetL (some f) = some (f.filter fun p => as.all fun a => decide (p ∈ a))
  | [], f => congrArg some (List.filter_eq_self.mpr fun _ _ => rfl).symm
  | a :: as, f => by
    show as.foldl meetL (some (f.filter fun p => decide (p ∈ a))) = _
    rw [fold_meet as, List.filter_filter]
    congr 1
    apply List.filter_congr
    intro p _
    rw [List.all_cons, Bool.and_comm]
theorem common_cons (a : List Nat) (as : List (List Nat)) : common (a :: as) = some (a.filter fun p => as.all fun b => decide (p ∈ b)) := fold_meet as a
theorem common_none {as : List (List Nat)} : common as = none ↔ as = [] := by
  cases as with
  | nil => exact ⟨fun _ => rfl, fun _ => rfl⟩
  | cons a as => rw [common_cons]; simp
theorem mem_common {as : List (List Nat)} {f : List Nat} (h : common as = some f) {p : Nat} : p ∈ f ↔ ∀ a ∈ as, p ∈ a := by
  cases as with
  | nil => cases h
  | cons a as =>
    rw [common_cons] at h
    cases h
    rw [List.mem_filter, List.all_eq_true]
    simp
def optI : Option (List Nat) → Option (List Int) := Option.map zz
def shr (ring : List Lt) (w : Nat) (word : Lt) : Option (List Nat) := common ((holdL ring w word).map fun r => arc ring.length r.1 r.2)
theorem filter_ints (f a : List Nat) : (zz f).filter (fun x => decide (x ∈ zz a)) = zz (f.filter fun p => decide (p ∈ a)) := by
  unfold zz
  rw [List.filter_map]
  congr 1
  apply List.filter_congr
  intro p _
  simp only [Function.comp, decide_eq_decide]
  exact mem_ints_nat
theorem q_shared {n : Nat} {ring : List Lt} (h : Rg n ring) (w : Nat) (hw : w ≤ 60) (word : Lt) : m_shared_places (tx ring, (w : Int), ⟨word⟩, ()) = .ok (optI (shr ring w word)) := by
  unfold m_shared_places r_shared_places
  simp only [ok_b, q_holders h w hw]
  have G : ∀ (l : List (Nat × Nat)) (acc : Option (List Nat)), (∀ r ∈ l, r.2 ≤ w) → (prs l).foldl (fun (s : Option (List Int)) (p : P2 Int Int) => match s with
      | none => some (zz (arc ring.length p.a.toNat p.b.toNat))
      | some f => some (f.filter fun x => decide (x ∈ zz (arc ring.length p.a.toNat p.b.toNat)))) (optI acc) = optI ((l.map fun r => arc ring.length r.1 r.2).foldl meetL acc) := by
    intro l
    induction l with
    | nil => intro acc _; rfl
    | cons r l ih =>
      intro acc hr
      rw [List.map_cons, List.foldl_cons, ← ih _ fun r hr' => hr r (List.mem_cons_of_mem _ hr')]
      show List.foldl _ _ (prs l) = _
      congr 1
      cases acc with
      | none => rfl
      | some f =>
        show some _ = some _
        congr 1
        exact filter_ints f _
  rw [loop_fold (fun (s : Option (List Int)) (p : P2 Int Int) => match s with
      | none => some (zz (arc ring.length p.a.toNat p.b.toNat))
      | some f => some (f.filter fun x => decide (x ∈ zz (arc ring.length p.a.toNat p.b.toNat)))) _ _ ?_]
  · simp only [sq_nx, fin_rt]
    exact congrArg Except.ok (G _ none fun r hr => (mem_runsL.mp ((List.mem_filter.mp hr).1)).2)
  · intro s p hp
    obtain ⟨r, hr, rfl⟩ := List.mem_map.mp hp
    have hk := (mem_runsL.mp ((List.mem_filter.mp hr).1)).2
    simp only [q_run_places h r.1 r.2 (by omega), ok_b]
    cases s with
    | none => rfl
    | some f =>
      simp only [Option.isNone_some, Bool.false_eq_true, if_false, optM_some, ok_b]
      rw [comp_ok (fun x : Int => decide (x ∈ zz (arc ring.length r.1 r.2))) (fun x : Int => x) _ (fun _ _ => rfl) (fun _ _ => rfl)]
      simp only [ok_b, sq_nx, List.map_id']
      rfl
def unrM (word : Lt) : Err := .exc ⟨"Unreadable", ((["word"] : List PySem.Str).zip (Fargs.vals (((⟨word⟩ : Tx), ()) : Tx × Unit))).reverse⟩
theorem q_reading {n : Nat} {ring : List Lt} (h : Rg n ring) (w : Nat) (hw : w ≤ 60) (word : Lt) : m_reading (tx ring, (w : Int), ⟨word⟩, ()) = match shr ring w word with
    | some (p :: _) => .ok (p : Int)
    | _ => .error (unrM word) := by
  unfold m_reading r_reading
  simp only [ok_b, q_shared h w hw]
  cases shr ring w word with
  | none => rfl
  | some f =>
    cases f with
    | nil => rfl
    | cons p r =>
      have e : Tru.tru (optI (some (p :: r))) = true := rfl
      simp only [e, Bool.not_true, Bool.false_eq_true, if_false, sq_nx]
      have e2 : optI (some (p :: r)) = some ((p : Int) :: zz r) := rfl
      have e3 : idxL ((p : Int) :: zz r) 0 = .ok (p : Int) := idx0 _ _
      rw [e2]
      simp only [optM_some, ok_b, e3, fin_rt]
end RG

set_option linter.all false
set_option maxRecDepth 100000
set_option maxHeartbeats 1000000
namespace RG
open P3 L2
theorem q_holds {a w : Lt} (h : a.length = w.length) : m__law_holds (⟨a⟩, ⟨w⟩, ()) = .ok (hld a w) := by
  unfold m__law_holds r__law_holds
  simp only [ok_b, items_tx]
  rw [loop_find (fun p : P2 Int Tx => !decide (p.b = ⟨[120]⟩) && !decide (p.b = ⟨[w.getD p.a.toNat 0]⟩)) false _ ?_]
  · have e : (enumL (a.map fun c => (⟨[c]⟩ : Tx))).any (fun p : P2 Int Tx => !decide (p.b = ⟨[120]⟩) && !decide (p.b = ⟨[w.getD p.a.toNat 0]⟩)) = !hld a w := by
      rw [Bool.eq_iff_iff, List.any_eq_true, Bool.not_eq_true', ← Bool.not_eq_true]
      unfold hld
      rw [all_zip h]
      constructor
      · intro ⟨p, hp, q⟩ z
        obtain ⟨k, hk, rfl⟩ := mem_enum hp
        have := z k hk (by omega)
        have hw : w.getD k 0 = w[k]'(by omega) := by rw [List.getD_eq_getElem?_getD, List.getElem?_eq_getElem (by omega)]; rfl
        simp only [Int.toNat_natCast, dec_one, hw] at q
        simp at this q
        exact this.elim (fun t => q.1 t) fun t => q.2 t
      · intro z
        apply Classical.byContradiction
        intro c
        apply z
        intro k h1 h2
        apply Classical.byContradiction
        intro d
        apply c
        have hw : w.getD k 0 = w[k] := by rw [List.getD_eq_getElem?_getD, List.getElem?_eq_getElem h2]; rfl
        refine ⟨_, enum_mem h1, ?_⟩
        simp only [Int.toNat_natCast, dec_one, hw]
        simpa using d
    rw [e]
    cases hld a w <;> rfl
  · intro p hp
    obtain ⟨k, hk, rfl⟩ := mem_enum hp
    have hw : w.getD k 0 = w[k]'(by omega) := by rw [List.getD_eq_getElem?_getD, List.getElem?_eq_getElem (by omega)]; rfl
    simp only [Int.toNat_natCast, dec_one, hw, idxT_nat (show k < w.length by omega), ok_b]
    cases decide (a[k] = 120) <;> cases decide (a[k] = w[k]'(by omega)) <;> rfl
theorem int48 : intT ⟨[48]⟩ = .ok 0 := by
  have e : PySem.intText? (sT ⟨[48]⟩) = some 0 := by decide +kernel
  unfold intT
  rw [if_pos (by decide), e]
  rfl
theorem int49 : intT ⟨[49]⟩ = .ok 1 := by
  have e : PySem.intText? (sT ⟨[49]⟩) = some 1 := by decide +kernel
  unfold intT
  rw [if_pos (by decide), e]
  rfl

theorem gd {l : List Nat} {k : Nat} (h : k < l.length) : l.getD k 0 = l[k] := by rw [List.getD_eq_getElem?_getD, List.getElem?_eq_getElem h]; rfl
theorem q_common {n : Nat} {ring : List Lt} (h : Rg n ring) (w : Nat) (hw : w ≤ 60) {word : Lt} (hl : word.length = n) : m__law_common (tx ring, (w : Int), ⟨word⟩, ()) = .ok (optI (shr ring w word)) := by
  unfold m__law_common r__law_common
  have h4 := h.2.2.2
  simp only [ok_b, tx_len]
  rw [rng_k (show ring.length ≤ 16384 by omega), show (w : Int) + 1 = ((w + 1 : Nat) : Int) by omega, rng_k (show w + 1 ≤ 16384 by omega)]
  simp only [ok_b]
  let stp : Nat → Option (List Int) → Int → Option (List Int) := fun s acc k => if hld (hul ring s k.toNat) word = true then (match acc with
      | none => some (zz (arc ring.length s k.toNat))
      | some f => some (f.filter fun x => decide (x ∈ zz (arc ring.length s k.toNat)))) else acc
  have inner : ∀ (s : Nat) (acc : Option (List Nat)), s < ring.length → (zz (List.range (w + 1))).foldl (stp s) (optI acc) = optI ((((List.range (w + 1)).filter fun k => hld (hul ring s k) word).map fun k => arc ring.length s k).foldl meetL acc) := by
    intro s acc hs
    generalize List.range (w + 1) = ks
    induction ks generalizing acc with
    | nil => rfl
    | cons k ks ih =>
      show (zz ks).foldl (stp s) (stp s (optI acc) (k : Int)) = _
      have e : stp s (optI acc) (k : Int) = if hld (hul ring s k) word = true then optI (meetL acc (arc ring.length s k)) else optI acc := by
        show (if hld (hul ring s k) word = true then _ else _) = _
        by_cases c : hld (hul ring s k) word = true
        · rw [if_pos c, if_pos c]
          cases acc with
          | none => rfl
          | some f =>
            show some _ = some _
            congr 1
            exact filter_ints f _
        · rw [if_neg c, if_neg c]
      rw [e]
      by_cases c : hld (hul ring s k) word = true
      · rw [if_pos c, ih, List.filter_cons_of_pos (by simpa using c)]
        rfl
      · rw [if_neg c, ih, List.filter_cons_of_neg (by simpa using c)]
  have outer : ∀ (ss : List Nat) (acc : Option (List Nat)), (∀ s ∈ ss, s < ring.length) → (zz ss).foldl (fun acc s => (zz (List.range (w + 1))).foldl (stp s.toNat) acc) (optI acc) = optI (((ss.flatMap fun s => ((List.range (w + 1)).filter fun k => hld (hul ring s k) word).map fun k => arc ring.length s k)).foldl meetL acc) := by
    intro ss
    induction ss with
    | nil => intro acc _; rfl
    | cons s ss ih =>
      intro acc hs
      rw [List.flatMap_cons, List.foldl_append, ← ih _ fun s' h' => hs s' (List.mem_cons_of_mem _ h'), ← inner s acc (hs s List.mem_cons_self)]
      rfl
  have e2 : ((List.range ring.length).flatMap fun s => ((List.range (w + 1)).filter fun k => hld (hul ring s k) word).map fun k => arc ring.length s k) = (holdL ring w word).map fun r => arc ring.length r.1 r.2 := by
    unfold holdL runsL
    rw [List.filter_flatMap, List.map_flatMap]
    congr 1
    funext s
    rw [List.filter_map, List.map_map]
    rfl
  rw [loop_fold (fun acc s => (zz (List.range (w + 1))).foldl (stp s.toNat) acc) _ _ ?_]
  · simp only [sq_nx, fin_rt]
    rw [show (none : Option (List Int)) = optI none from rfl, outer _ none fun s hs => List.mem_range.mp hs, e2]
    rfl
  · intro acc s hs
    obtain ⟨a, ha, rfl⟩ := mem_ints.mp hs
    rw [loop_fold (stp a) _ _ ?_]
    · simp only [sq_nx]
      rfl
    · intro acc k hk
      obtain ⟨b, hb, rfl⟩ := mem_ints.mp hk
      have hb2 := List.mem_range.mp hb
      have hh := (hul_cb h a b).1
      simp only [q_lhull h a b, ok_b, q_holds (show (hul ring a b).length = word.length by omega), q_places ring.length a b h.pos (by omega)]
      show _ = Except.ok (Fl.nx (if hld (hul ring a b) word = true then _ else _))
      cases hld (hul ring a b) word with
      | false => rfl
      | true =>
        cases acc with
        | none =>
          simp only [if_true, Option.isNone_none, sq_nx, optM_some, ok_b]
          rw [comp_ok (fun x : Int => decide (x ∈ zz (arc ring.length a b))) (fun x : Int => x) _ (fun _ _ => rfl) (fun _ _ => rfl)]
          simp only [ok_b, sq_nx, List.map_id']
          rw [List.filter_eq_self.mpr fun x hx => decide_eq_true hx]
          rfl
        | some f =>
          simp only [if_true, Option.isNone_some, Bool.false_eq_true, if_false, sq_nx, optM_some, ok_b]
          rw [comp_ok (fun x : Int => decide (x ∈ zz (arc ring.length a b))) (fun x : Int => x) _ (fun _ _ => rfl) (fun _ _ => rfl)]
          simp only [ok_b, sq_nx, List.map_id']
          rfl

/-! what a hull holds -/
theorem hcol_or {ws : List Lt} {k : Nat} (hb : ∀ w ∈ ws, bit (w.getD k 0)) {w : Lt} (hw : w ∈ ws) : hcol (col ws k) = 120 ∨ hcol (col ws k) = w.getD k 0 := by
  unfold hcol
  split
  · exact .inl rfl
  · rename_i hn
    right
    cases ws with
    | nil => cases hw
    | cons v r =>
      show v.getD k 0 = _
      have m1 : v.getD k 0 ∈ col (v :: r) k := List.mem_map.mpr ⟨v, List.mem_cons_self, rfl⟩
      have m2 : w.getD k 0 ∈ col (v :: r) k := List.mem_map.mpr ⟨w, hw, rfl⟩
      rcases hb v List.mem_cons_self with e1 | e1 <;> rcases hb w hw with e2 | e2
      · rw [e1, e2]
      · rw [e1] at m1; rw [e2] at m2; exact absurd ⟨m1, m2⟩ hn
      · rw [e1] at m1; rw [e2] at m2; exact absurd ⟨m2, m1⟩ hn
      · rw [e1, e2]
theorem wd_bit {n k : Nat} {w : Lt} (h : Wd n w) (hk : k < n) : bit (w.getD k 0) := by
  have hl : k < w.length := by rw [h.1]; exact hk
  rw [gd hl]
  exact h.2 _ (List.getElem_mem hl)
theorem hld_iff {a w : Lt} (h : a.length = w.length) : hld a w = true ↔ ∀ k, k < a.length → a.getD k 0 = 120 ∨ a.getD k 0 = w.getD k 0 := by
  unfold hld
  rw [all_zip h]
  constructor
  · intro q k hk
    have := q k hk (by omega)
    rw [gd hk, gd (show k < w.length by omega)]
    simpa using this
  · intro q k h1 h2
    have := q k h1
    rw [gd h1, gd h2] at this
    simpa using this
theorem lhl_at {ws : List Lt} {k n : Nat} (hn : (ws.getD 0 []).length = n) (hk : k < n) : (lhl ws).getD k 0 = hcol (col ws k) := by
  unfold lhl
  rw [hn, gd (by rw [List.length_map, List.length_range]; exact hk), List.getElem_map, List.getElem_range]
theorem hld_lhl {n : Nat} {ws : List Lt} (h0 : ws ≠ []) (h : ∀ w ∈ ws, Wd n w) {v : Lt} (hv : Wd n v) : hld (lhl ws) v = true ↔ ∀ k, k < n → ∃ w ∈ ws, v.getD k 0 = w.getD k 0 := by
  have l0 : (ws.getD 0 []).length = n := by
    cases ws with
    | nil => exact absurd rfl h0
    | cons a r => exact (h a List.mem_cons_self).1
  have ll : (lhl ws).length = n := by unfold lhl; rw [List.length_map, List.length_range, l0]
  rw [hld_iff (by rw [ll, hv.1]), ll]
  constructor
  · intro q k hk
    have hb : ∀ w ∈ ws, bit (w.getD k 0) := fun w hw => wd_bit (h w hw) hk
    have := q k hk
    rw [lhl_at l0 hk] at this
    rcases this with e | e
    · unfold hcol at e
      split at e
      · rename_i hx
        rcases wd_bit hv hk with b | b
        · obtain ⟨w, hw, e2⟩ := List.mem_map.mp hx.1
          exact ⟨w, hw, by rw [b, e2]⟩
        · obtain ⟨w, hw, e2⟩ := List.mem_map.mp hx.2
          exact ⟨w, hw, by rw [b, e2]⟩
      · cases ws with
        | nil => exact absurd rfl h0
        | cons a r =>
          have e : a.getD k 0 = 120 := e
          have := hb a List.mem_cons_self
          rw [e] at this
          exact absurd this (by unfold bit; decide)
    · cases ws with
      | nil => exact absurd rfl h0
      | cons a r =>
        rcases hcol_or hb (List.mem_cons_self (a := a) (l := r)) with e2 | e2
        · rw [e2] at e
          have := wd_bit hv hk
          rw [← e] at this
          exact absurd this (by unfold bit; decide)
        · exact ⟨a, List.mem_cons_self, by rw [← e, e2]⟩
  · intro q k hk
    obtain ⟨w, hw, e⟩ := q k hk
    rw [lhl_at l0 hk, e]
    exact hcol_or (fun w hw => wd_bit (h w hw) hk) hw
/-- the way from s to p, round the ring -/
def off (L s p : Nat) : Nat := if s ≤ p then p - s else L + p - s
theorem arc_off {L s k p : Nat} (hs : s < L) (hp : p < L) : p ∈ arc L s k ↔ off L s p ≤ k := by
  rw [mem_arc]
  have e : ((p : Int) - (s : Int)) % (L : Int) = (off L s p : Nat) := by
    unfold off
    split
    · rw [Int.emod_eq_of_lt (by omega) (by omega)]
      omega
    · rw [show (p : Int) - (s : Int) = ((L + p - s : Nat) : Int) + (L : Int) * (-1) by omega, Int.add_mul_emod_self_left, Int.emod_eq_of_lt (by omega) (by omega)]
  rw [e]
  exact ⟨fun h => by omega, fun h => ⟨hp, by omega⟩⟩
theorem hold_run {n : Nat} {ring : List Lt} (h : Rg n ring) {w s k : Nat} {word : Lt} (hs : s < ring.length) (hk : k ≤ w) (hv : Wd n word) (q : ∀ i, i < n → ∃ p ∈ arc ring.length s k, word.getD i 0 = (wat ring p).getD i 0) : (s, k) ∈ holdL ring w word := by
  refine List.mem_filter.mpr ⟨mem_runsL.mpr ⟨hs, hk⟩, ?_⟩
  obtain ⟨h1, h2⟩ := arcw_ok h s k
  refine (hld_lhl h1 h2 hv).mpr fun i hi => ?_
  obtain ⟨p, hp, e⟩ := q i hi
  exact ⟨_, List.mem_map.mpr ⟨p, hp, rfl⟩, e⟩
end RG

set_option linter.all false
set_option maxRecDepth 100000
set_option maxHeartbeats 1000000
namespace RG
open P3 L2
theorem flip_at {c : Nat} (hc : bit c) : (intT ⟨[c]⟩ >>= fun x => idxT ⟨[49, 48]⟩ x) = .ok ⟨[97 - c]⟩ := by
  rcases hc with rfl | rfl
  · rw [int48]; rfl
  · rw [int49]; rfl
theorem bit_flip {c : Nat} (h : bit c) : bit (97 - c) := by rcases h with rfl | rfl <;> simp [bit]
/-- a word with one wire turned -/
def turn (l : Lt) (x : Int) : Lt := if l = [] then l else l.take (x % l.length).toNat ++ [97 - l.getD (x % l.length).toNat 0] ++ l.drop ((x % l.length).toNat + 1)
theorem cutA_to {α : Type} (l : List α) (k : Nat) : cutA l none (some (k : Int)) = l.take k := by
  unfold cutA
  rw [HT.sIx_none, HT.sIx_nat, Nat.sub_zero, List.drop_zero]
  by_cases q : k ≤ l.length
  · rw [Nat.min_eq_left q]
  · rw [Nat.min_eq_right (by omega), List.take_of_length_le (Nat.le_refl _), List.take_of_length_le (by omega)]
theorem cutA_from {α : Type} (l : List α) (k : Nat) : cutA l (some (k : Int)) none = l.drop k := by
  unfold cutA
  rw [HT.sIx_none, HT.sIx_nat]
  by_cases q : k ≤ l.length
  · rw [Nat.min_eq_left q, List.take_of_length_le (Nat.le_of_eq List.length_drop)]
  · rw [Nat.min_eq_right (by omega), List.drop_length, List.drop_eq_nil_of_le (by omega), List.take_nil]
theorem cut_to {l : Lt} {k : Nat} (h : k ≤ l.length) : cutT ⟨l⟩ none (some (k : Int)) = ⟨l.take k⟩ := congrArg Tx.mk (cutA_to l k)
theorem cut_from {l : Lt} {k : Nat} (h : k ≤ l.length) : cutT ⟨l⟩ (some (k : Int)) none = ⟨l.drop k⟩ := congrArg Tx.mk (cutA_from l k)
theorem q_turned {n : Nat} {l : Lt} (h : Wd n l) (hn : n ≤ 1000) (x : Int) : m__law_turned (⟨l⟩, x, ()) = .ok ⟨turn l x⟩ ∧ Wd n (turn l x) := by
  unfold m__law_turned r__law_turned turn
  simp only [ok_b, dec_tx]
  by_cases e : l = []
  · subst e
    simp only [decide_true, if_true, sq_rt, fin_rt]
    exact ⟨trivial, h⟩
  · have hl : 0 < l.length := List.length_pos_iff.mpr e
    have hl' : (0 : Int) < (l.length : Int) := by omega
    simp only [e, decide_false, Bool.false_eq_true, if_false, sq_nx]
    rw [modI_ok hl']
    have h0 := Int.emod_nonneg x (Int.ne_of_gt hl')
    have h1 := Int.emod_lt_of_pos x hl'
    obtain ⟨k, hk⟩ : ∃ k : Nat, x % (l.length : Int) = (k : Int) := ⟨(x % (l.length : Int)).toNat, by omega⟩
    rw [hk] at h0 h1 ⊢
    have hk2 : k < l.length := by omega
    have e1 : ((k : Int) + 1) = ((k + 1 : Nat) : Int) := by omega
    have hb : bit (l[k]) := h.2 _ (List.getElem_mem hk2)
    have hlen := h.1
    simp only [ok_b, cut_to (Nat.le_of_lt hk2), idxT_nat hk2, Int.toNat_natCast]
    have ff := flip_at hb
    simp only [ff, ok_b]
    rw [e1, cut_from (show k + 1 ≤ l.length by omega), gd hk2]
    rw [catT_ok (show (l.take k).length + [97 - l[k]].length ≤ 16777216 by rw [List.length_take]; simp; omega)]
    simp only [ok_b]
    rw [catT_ok (show (l.take k ++ [97 - l[k]]).length + (l.drop (k + 1)).length ≤ 16777216 by rw [List.length_append, List.length_take, List.length_drop]; simp; omega)]
    simp only [ok_b, fin_rt]
    refine ⟨trivial, ?_, fun c hc => ?_⟩
    · rw [List.length_append, List.length_append, List.length_take, List.length_drop]
      simp
      omega
    · rcases List.mem_append.mp hc with z | z
      · rcases List.mem_append.mp z with z | z
        · exact h.2 c (List.mem_of_mem_take z)
        · rw [List.mem_singleton.mp z]
          exact bit_flip hb
      · exact h.2 c (List.mem_of_mem_drop z)
/-- a word drawn by a number -/
def wrd : Int → Nat → Lt
  | _, 0 => []
  | x, n + 1 => (48 + (x % 2).toNat) :: wrd (x / 2) n
theorem wrd_wd : ∀ (n : Nat) (x : Int), Wd n (wrd x n)
  | 0, x => ⟨rfl, fun c hc => absurd hc (by simp [wrd])⟩
  | n + 1, x => by
    obtain ⟨h1, h2⟩ := wrd_wd n (x / 2)
    refine ⟨by simp [wrd, h1], fun c hc => ?_⟩
    rcases List.mem_cons.mp hc with e | e
    · rw [e]
      have : x % 2 = 0 ∨ x % 2 = 1 := by omega
      rcases this with q | q <;> rw [q]
      · exact .inl rfl
      · exact .inr rfl
    · exact h2 c e
def hlf (x : Int) : Nat → Int
  | 0 => x
  | n + 1 => hlf (x / 2) n
theorem wrd_snoc : ∀ (n : Nat) (x : Int), wrd x (n + 1) = wrd x n ++ [48 + (hlf x n % 2).toNat]
  | 0, x => rfl
  | n + 1, x => by
    show (48 + (x % 2).toNat) :: wrd (x / 2) (n + 1) = _
    rw [wrd_snoc n (x / 2)]
    rfl
theorem hlf_snoc : ∀ (n : Nat) (x : Int), hlf x (n + 1) = hlf x n / 2
  | 0, x => rfl
  | n + 1, x => hlf_snoc n (x / 2)
theorem two_at (y : Int) : idxT ⟨[48, 49]⟩ (y % 2) = .ok ⟨[48 + (y % 2).toNat]⟩ := by
  have : y % 2 = 0 ∨ y % 2 = 1 := by omega
  rcases this with e | e <;> rw [e] <;> rfl
theorem q_word (x : Int) (n : Nat) (hn : n ≤ 1000) : m__law_word (x, (n : Int), ()) = .ok ⟨wrd x n⟩ := by
  unfold m__law_word r__law_word
  simp only [ok_b]
  rw [rng_k (show n ≤ 16384 by omega)]
  simp only [ok_b]
  have e1 : ∀ y : Int, modI y 2 = .ok (y % 2) := fun y => modI_ok (by omega)
  have e2 : ∀ y : Int, divI y 2 = .ok (y / 2) := fun y => divI_ok (by omega) (by omega)
  rw [loop_eq (t := ((⟨wrd x n⟩, hlf x n) : Tx × Int)) (fun j s => s = (⟨wrd x j⟩, hlf x j)) (by rfl) ?_ ?_]
  · simp only [sq_nx, ok_b, fin_rt]
  · rintro i s hi rfl
    rw [List.length_map, List.length_range] at hi
    simp only [e1, e2, ok_b, two_at]
    rw [catT_ok (by rw [(wrd_wd i x).1]; simp; omega)]
    simp only [ok_b]
    exact ⟨_, rfl, by rw [wrd_snoc, hlf_snoc]⟩
  · rintro s' rfl
    rw [List.length_map, List.length_range]
/-- the sign that two or more have -/
def maj (a b c : Nat) : Nat := if a = b ∨ a = c then a else b
def mid (n : Nat) (a b c : Lt) : Lt := (List.range n).map fun k => maj (a.getD k 0) (b.getD k 0) (c.getD k 0)
theorem mid_wd {n : Nat} {a b c : Lt} (ha : Wd n a) (hb : Wd n b) : Wd n (mid n a b c) := by
  refine ⟨by unfold mid; rw [List.length_map, List.length_range], fun x hx => ?_⟩
  obtain ⟨k, hk, rfl⟩ := List.mem_map.mp hx
  have hk := List.mem_range.mp hk
  unfold maj
  split
  · exact wd_bit ha hk
  · exact wd_bit hb hk
theorem zip3_map {f : Nat → Nat → Nat → Nat} : ∀ {n : Nat} {a b c : Lt}, a.length = n → b.length = n → c.length = n →
    (zip3L (a.map fun x => (⟨[x]⟩ : Tx)) (b.map fun x => (⟨[x]⟩ : Tx)) (c.map fun x => (⟨[x]⟩ : Tx))).map (fun p => (⟨[f (p.a.l.getD 0 0) (p.b.l.getD 0 0) (p.c.l.getD 0 0)]⟩ : Tx)) = ((List.range n).map fun k => f (a.getD k 0) (b.getD k 0) (c.getD k 0)).map fun x => (⟨[x]⟩ : Tx)
  | 0, a, b, c, ha, hb, hc => by
    have := List.length_eq_zero_iff.mp ha
    subst this
    rfl
  | n + 1, a :: as, b :: bs, c :: cs, ha, hb, hc => by
    have ih := zip3_map (f := f) (n := n) (a := as) (b := bs) (c := cs) (by simpa using ha) (by simpa using hb) (by simpa using hc)
    rw [List.range_succ_eq_map, List.map_cons, List.map_cons, List.map_map]
    show (⟨[f a b c]⟩ : Tx) :: (zip3L _ _ _).map _ = _ :: _
    rw [ih]
    congr 1
    rw [List.map_map, List.map_map]
    rfl
theorem mem_zip3 {a b c : Lt} : ∀ {p : P3' Tx Tx Tx}, p ∈ zip3L (a.map fun x => (⟨[x]⟩ : Tx)) (b.map fun x => (⟨[x]⟩ : Tx)) (c.map fun x => (⟨[x]⟩ : Tx)) → ∃ x y z, p = ⟨⟨[x]⟩, ⟨[y]⟩, ⟨[z]⟩⟩ := by
  induction a generalizing b c with
  | nil => intro p h; simp [zip3L] at h
  | cons x a ih =>
    intro p h
    cases b with
    | nil => simp [zip3L] at h
    | cons y b =>
      cases c with
      | nil => simp [zip3L] at h
      | cons z c =>
        rcases List.mem_cons.mp h with e | e
        · exact ⟨x, y, z, e⟩
        · exact ih e
theorem q_middle {n : Nat} {a b c : Lt} (ha : a.length = n) (hb : b.length = n) (hc : c.length = n) (hn : n ≤ 1000) : m_middle (⟨a⟩, ⟨b⟩, ⟨c⟩, ()) = .ok ⟨mid n a b c⟩ := by
  unfold m_middle r_middle
  simp only [ok_b, items_tx]
  rw [map_ok (fun p : P3' Tx Tx Tx => (⟨[maj (p.a.l.getD 0 0) (p.b.l.getD 0 0) (p.c.l.getD 0 0)]⟩ : Tx)) _ ?_]
  · simp only [ok_b]
    rw [zip3_map (f := maj) ha hb hc]
    have e := joinT_ok (l := mid n a b c) (by unfold mid; rw [List.length_map, List.length_range]; omega)
    unfold mid at e ⊢
    rw [e]
    simp only [ok_b, fin_rt]
  · intro p hp
    obtain ⟨x, y, z, rfl⟩ := mem_zip3 hp
    simp only [dec_one, List.getD_cons_zero]
    unfold maj
    by_cases h1 : x = y <;> by_cases h2 : x = z <;> simp [h1, h2]
theorem med3 {x y z : Nat} (hx : bit x) (hy : bit y) (hz : bit z) : idxL (srtT [⟨[x]⟩, ⟨[y]⟩, ⟨[z]⟩]) 1 = (.ok ⟨[maj x y z]⟩ : M Tx) := by
  rcases hx with rfl | rfl <;> rcases hy with rfl | rfl <;> rcases hz with rfl | rfl <;> rfl
theorem q_law_middle {n : Nat} {a b c : Lt} (ha : Wd n a) (hb : Wd n b) (hc : Wd n c) (hn : n ≤ 1000) : m__law_middle ([⟨a⟩, ⟨b⟩, ⟨c⟩], ()) = .ok ⟨mid n a b c⟩ := by
  unfold m__law_middle r__law_middle
  have i0 : idxL [(⟨a⟩ : Tx), ⟨b⟩, ⟨c⟩] 0 = .ok ⟨a⟩ := idx0 _ _
  have hal := ha.1
  have hbl := hb.1
  have hcl := hc.1
  simp only [ok_b, i0]
  rw [rng_k (show a.length ≤ 16384 by omega)]
  simp only [ok_b]
  rw [loop_eq (t := (⟨mid n a b c⟩ : Tx)) (fun j s => s = ⟨(mid n a b c).take j⟩) (by rfl) ?_ ?_]
  · simp only [sq_nx, ok_b, fin_rt]
  · rintro i s hi rfl
    rw [List.length_map, List.length_range, hal] at hi
    have ha2 : i < a.length := by omega
    have hb2 : i < b.length := by omega
    have hc2 : i < c.length := by omega
    rw [List.getElem_map, List.getElem_range]
    have e : mapM' (fun i10 : Tx => idxT i10 (i : Int)) [⟨a⟩, ⟨b⟩, ⟨c⟩] = .ok [⟨[a[i]]⟩, ⟨[b[i]]⟩, ⟨[c[i]]⟩] := by
      simp only [mapM', idxT_nat ha2, idxT_nat hb2, idxT_nat hc2, noX_ok', ok_b]
    simp only [e, ok_b]
    rw [if_pos (by simp)]
    simp only [ok_b, med3 (ha.2 _ (List.getElem_mem ha2)) (hb.2 _ (List.getElem_mem hb2)) (hc.2 _ (List.getElem_mem hc2))]
    have lm : (mid n a b c).length = n := by unfold mid; rw [List.length_map, List.length_range]
    rw [catT_ok (by rw [List.length_take]; simp; omega)]
    refine ⟨_, rfl, ?_⟩
    rw [List.take_add_one, List.getElem?_eq_getElem (by omega)]
    have : (mid n a b c)[i]'(by omega) = maj a[i] b[i] c[i] := by
      unfold mid
      rw [List.getElem_map, List.getElem_range, gd ha2, gd hb2, gd hc2]
    rw [this]
    rfl
  · rintro s' rfl
    rw [List.length_map, List.length_range, hal, List.take_of_length_le (by unfold mid; rw [List.length_map, List.length_range]; omega)]
theorem mid_swap1 {n : Nat} {a b c : Lt} (ha : Wd n a) (hb : Wd n b) (hc : Wd n c) : mid n c a b = mid n a b c ∧ mid n b a c = mid n a b c := by
  have h : ∀ x y z, bit x → bit y → bit z → maj z x y = maj x y z ∧ maj y x z = maj x y z := by
    intro x y z hx hy hz
    rcases hx with rfl | rfl <;> rcases hy with rfl | rfl <;> rcases hz with rfl | rfl <;> exact ⟨rfl, rfl⟩
  unfold mid
  constructor
  · apply List.map_congr_left
    intro k hk
    have hk := List.mem_range.mp hk
    exact (h _ _ _ (wd_bit ha hk) (wd_bit hb hk) (wd_bit hc hk)).1
  · apply List.map_congr_left
    intro k hk
    have hk := List.mem_range.mp hk
    exact (h _ _ _ (wd_bit ha hk) (wd_bit hb hk) (wd_bit hc hk)).2
/-- the stretch ring -/
def strw (L k : Nat) : Lt := if k ≤ (L + 1) / 2 then List.replicate k 49 ++ List.replicate ((L + 1) / 2 - k) 48 else List.replicate (k - (L + 1) / 2) 48 ++ List.replicate (2 * ((L + 1) / 2) - k) 49
def str (L : Nat) : List Lt := (List.range L).map (strw L)
theorem rep_ok {c k : Nat} (h : k ≤ 1000) : repT ⟨[c]⟩ (k : Int) = .ok ⟨List.replicate k c⟩ := by
  unfold repT
  have h1 : (k : Int) < 2 ^ 40 ∧ -(2 ^ 40) < (k : Int) ∧ [c].length * (k : Int).toNat ≤ PySem.sizeLine := by
    rw [sz24]
    simp only [List.length_cons, List.length_nil, Int.toNat_natCast]
    omega
  rw [if_pos h1, Int.toNat_natCast]
  congr 2
  induction k with
  | zero => rfl
  | succ k ih => rw [List.replicate_succ, List.flatten_cons, ih (by omega) (by rw [sz24] at *; simp at *; omega), List.replicate_succ]; rfl
theorem strw_wd {L k : Nat} (hk : k < L) : Wd ((L + 1) / 2) (strw L k) := by
  unfold strw
  split
  · refine ⟨by rw [List.length_append, List.length_replicate, List.length_replicate]; omega, fun c hc => ?_⟩
    rcases List.mem_append.mp hc with z | z
    · exact .inr (List.mem_replicate.mp z).2
    · exact .inl (List.mem_replicate.mp z).2
  · refine ⟨by rw [List.length_append, List.length_replicate, List.length_replicate]; omega, fun c hc => ?_⟩
    rcases List.mem_append.mp hc with z | z
    · exact .inl (List.mem_replicate.mp z).2
    · exact .inr (List.mem_replicate.mp z).2
theorem q_stretch (L : Nat) (hL : L ≤ 1000) : m__law_stretch ((L : Int), ()) = .ok (tx (str L)) := by
  unfold m__law_stretch r__law_stretch
  have e0 : divI ((L : Int) + 1) 2 = .ok (((L + 1) / 2 : Nat) : Int) := by rw [show (L : Int) + 1 = ((L + 1 : Nat) : Int) by omega]; exact divN (by decide) (by decide)
  simp only [ok_b, e0]
  rw [rng_k (show L ≤ 16384 by omega)]
  simp only [ok_b]
  rw [loop_eq (t := tx (str L)) (fun j s => s = tx ((str L).take j)) (by rfl) ?_ ?_]
  · simp only [sq_nx, ok_b, fin_rt]
  · rintro i s hi rfl
    rw [List.length_map, List.length_range] at hi
    rw [List.getElem_map, List.getElem_range]
    have ls : (str L).length = L := by unfold str; rw [List.length_map, List.length_range]
    have ea : ∀ x : Lt, x = strw L i → appM (tx ((str L).take i)) ⟨x⟩ = .ok (tx ((str L).take (i + 1))) := by
      rintro x rfl
      rw [appM_ok (by rw [List.length_map, List.length_take]; omega), List.take_add_one, List.getElem?_eq_getElem (by omega)]
      unfold tx
      rw [List.map_append]
      have : (str L)[i]'(by omega) = strw L i := by unfold str; rw [List.getElem_map, List.getElem_range]
      rw [this]
      rfl
    by_cases c : i ≤ (L + 1) / 2
    · have d : decide ((i : Int) ≤ (((L + 1) / 2 : Nat) : Int)) = true := decide_eq_true (by omega)
      have e1 : (((L + 1) / 2 : Nat) : Int) - (i : Int) = (((L + 1) / 2 - i : Nat) : Int) := by omega
      simp only [d, if_true, e1]
      rw [rep_ok (show i ≤ 1000 by omega), rep_ok (show (L + 1) / 2 - i ≤ 1000 by omega)]
      simp only [ok_b]
      rw [catT_ok (by rw [List.length_replicate, List.length_replicate]; omega)]
      simp only [ok_b]
      rw [ea _ (by unfold strw; rw [if_pos c])]
      exact ⟨_, rfl, rfl⟩
    · have d : decide ((i : Int) ≤ (((L + 1) / 2 : Nat) : Int)) = false := decide_eq_false (by omega)
      have e1 : (i : Int) - (((L + 1) / 2 : Nat) : Int) = ((i - (L + 1) / 2 : Nat) : Int) := by omega
      have e2 : mulI 2 (((L + 1) / 2 : Nat) : Int) = .ok (2 * (((L + 1) / 2 : Nat) : Int)) := mulI_ok (by omega)
      have e3 : 2 * (((L + 1) / 2 : Nat) : Int) - (i : Int) = ((2 * ((L + 1) / 2) - i : Nat) : Int) := by omega
      simp only [d, Bool.false_eq_true, if_false, e1, e2, ok_b, e3]
      rw [rep_ok (show i - (L + 1) / 2 ≤ 1000 by omega), rep_ok (show 2 * ((L + 1) / 2) - i ≤ 1000 by omega)]
      simp only [ok_b]
      rw [catT_ok (by rw [List.length_replicate, List.length_replicate]; omega)]
      simp only [ok_b]
      rw [ea _ (by unfold strw; rw [if_neg c])]
      exact ⟨_, rfl, rfl⟩
  · rintro s' rfl
    rw [List.length_map, List.length_range, List.take_of_length_le (by unfold str; rw [List.length_map, List.length_range]; omega)]
theorem at_ok {b : Int} {c i : Nat} {l : List Int} (h : Nm b c l) (hi : i < c) : idxL l (i : Int) = .ok (l.getD i 0) ∧ 0 ≤ l.getD i 0 ∧ l.getD i 0 < b := by
  have hl : i < l.length := by rw [h.1]; exact hi
  have e : l.getD i 0 = l[i] := by rw [List.getD_eq_getElem?_getD, List.getElem?_eq_getElem hl]; rfl
  have := h.2 _ (List.getElem_mem hl)
  refine ⟨idxL_nat (by rw [List.getElem?_eq_getElem hl, e]), ?_, ?_⟩ <;> rw [e]
  · exact this.1
  · exact this.2
theorem Nm.take {b : Int} {c k : Nat} {l : List Int} (h : Nm b c l) (hk : k ≤ c) : Nm b k (l.take k) := ⟨by rw [List.length_take, h.1]; omega, fun x hx => h.2 x (List.mem_of_mem_take hx)⟩
theorem Nm.drop {b : Int} {c k : Nat} {l : List Int} (h : Nm b c l) (hk : k ≤ c) : Nm b (c - k) (l.drop k) := ⟨by rw [List.length_drop, h.1], fun x hx => h.2 x (List.mem_of_mem_drop hx)⟩
/-- a remainder as a number -/
theorem md (x : Int) {k : Nat} (hk : 0 < k) : ∃ r : Nat, x % (k : Int) = (r : Int) ∧ r < k := by
  have h0 := Int.emod_nonneg x (show (k : Int) ≠ 0 by omega)
  have h1 := Int.emod_lt_of_pos x (show (0 : Int) < (k : Int) by omega)
  exact ⟨(x % (k : Int)).toNat, by omega, by omega⟩
theorem cat_ok {α : Type} {x y : List α} (h : x.length + y.length ≤ 16777216) : catL x y = .ok (x ++ y) := if_pos (by rw [sz24]; exact h)
theorem words_ok {n : Nat} (hn : n ≤ 1000) (l : List Int) : mapM' (fun i : Int => m__law_word (i, (n : Int), ())) l = .ok (tx (l.map fun x => wrd x n)) := by
  rw [map_ok (fun x : Int => (⟨wrd x n⟩ : Tx)) l fun x _ => q_word x n hn]
  unfold tx
  rw [List.map_map]
  rfl
/-! fields of an exception -/
theorem fld_one {α : Type} [Den α] [Flat α] [OfV α] (cl f : PySem.Str) (x : α) (h : OfV.of (Flat.val x) = some x) : (fldM [cl] f ⟨cl, (([f] : List PySem.Str).zip (Fargs.vals ((x, ()) : α × Unit))).reverse⟩ : M α) = .ok x := by
  unfold fldM
  rw [if_pos (List.mem_singleton.mpr rfl)]
  show (match List.lookup f [(f, Flat.val x)] with
    | some v => (match OfV.of v with
      | some y => .ok y
      | none => stk)
    | none => stk : M α) = _
  rw [List.lookup_cons_self]
  show (match OfV.of (Flat.val x) with
      | some y => .ok y
      | none => stk : M α) = _
  rw [h]
theorem tab_ok {t : Tab} {n : PySem.Str} {b : Bool} (h : t.lookup n = some b) : tabM t n = .ok b := by unfold tabM; rw [h]
@[simp] theorem unL_inl {α β : Type} (x : α) : (unL (Sum.inl x : α ⊕ β)) = .ok x := id rfl
@[simp] theorem unR_inr {α β : Type} (x : β) : (unR (Sum.inr x : α ⊕ β)) = .ok x := id rfl
theorem ofv_tx {l : Lt} (h1 : l.length ≤ 1000) (h2 : ∀ c ∈ l, c < 1114112) : OfV.of (Flat.val (⟨l⟩ : Tx)) = some (⟨l⟩ : Tx) := by
  show (if (tT (sT ⟨l⟩)).l.length ≤ PySem.sizeLine ∧ (tT (sT ⟨l⟩)).l.all (fun c => decide (c < 0x110000)) = true then some (tT (sT ⟨l⟩)) else none) = _
  rw [tT_sT, if_pos ⟨by rw [sz24]; show l.length ≤ _; omega, List.all_eq_true.mpr fun c hc => decide_eq_true (h2 c hc)⟩]
theorem ofv_wd {n : Nat} {l : Lt} (h : Wd n l) (hn : n ≤ 14) : OfV.of (Flat.val (⟨l⟩ : Tx)) = some (⟨l⟩ : Tx) := ofv_tx (by rw [h.1]; omega) fun c hc => by
  rcases h.2 c hc with e | e <;> omega
end RG

set_option linter.all false
set_option maxRecDepth 100000
set_option maxHeartbeats 1000000
namespace RG
open P3 L2

/-! dicts -/
section
variable {κ α : Type} [DecidableEq κ]
theorem getK_putL (k q : κ) (x : α) : ∀ kvs : List (κ × α), getK (putL kvs k x) q = if k = q then some x else getK kvs q
  | [] => by unfold putL getK; rfl
  | (r, y) :: t => by
    unfold putL
    by_cases e : r = k
    · rw [if_pos e]
      subst e
      unfold getK
      by_cases f : r = q <;> simp [f]
    · rw [if_neg e]
      unfold getK
      by_cases f : r = q
      · subst f
        rw [if_pos rfl, if_neg (fun z => e z.symm), if_pos rfl]
      · rw [if_neg f, getK_putL k q x t, if_neg f]
theorem getK_mem {q : κ} : ∀ {kvs : List (κ × α)}, q ∈ kvs.map Prod.fst ↔ getK kvs q ≠ none
  | [] => by simp [getK]
  | (r, y) :: t => by
    unfold getK
    rw [List.map_cons, List.mem_cons]
    by_cases e : r = q
    · rw [if_pos e]; simp [e]
    · rw [if_neg e, getK_mem (kvs := t)]
      constructor
      · rintro (h | h)
        · exact absurd h.symm e
        · exact h
      · exact .inr
end
theorem loop_first {α L R : Type} {f : Unit → α → M (Fl Unit Unit R)} (p : α → Bool) (r : α → R) : ∀ (xs : List α), (∀ x ∈ xs, f () x = if p x = true then .ok (.rt (r x)) else .ok (.nx ())) → (loopM f xs () : M (Fl Unit L R)) = match xs.find? p with
    | some x => .ok (.rt (r x))
    | none => .ok (.nx ())
  | [], h => rfl
  | x :: xs, h => by
    unfold loopM
    rw [h x List.mem_cons_self, List.find?_cons]
    cases hp : p x with
    | true => rfl
    | false =>
      show (loopM f xs ()) = _
      exact loop_first p r xs fun y hy => h y (List.mem_cons_of_mem _ hy)
theorem loop_err {S L R α : Type} {f : S → α → M (Fl S S R)} {e : Err} (I : S → Prop) : ∀ (xs : List α) (s : S), I s → (∃ x ∈ xs, ∀ s, I s → f s x = .error e) → (∀ s, I s → ∀ x ∈ xs, f s x = .error e ∨ ∃ s', f s x = .ok (.nx s') ∧ I s') → (loopM f xs s : M (Fl S L R)) = .error e
  | [], s, _, ⟨x, hx, _⟩, _ => by cases hx
  | x :: xs, s, hs, ⟨y, hy, hb⟩, k => by
    unfold loopM
    rcases k s hs x List.mem_cons_self with q | ⟨s', q, hs'⟩
    · rw [q]; rfl
    · rw [q]
      refine loop_err I xs s' hs' ?_ fun s h z hz => k s h z (List.mem_cons_of_mem _ hz)
      rcases List.mem_cons.mp hy with e | e
      · subst e
        rw [hb s hs] at q
        cases q
      · exact ⟨y, e, hb⟩
/-! held words -/
theorem fit_hld : ∀ {n : Nat} {a v : Lt}, Cb n a → (fit a v = true ↔ Wd n v ∧ hld a v = true)
  | n, [], v, h => by
    have hn : n = 0 := h.1.symm
    subst hn
    cases v with
    | nil => simp [fit, Wd, hld]
    | cons c r => simp [fit, Wd]
  | n, a :: as, v, h => by
    obtain ⟨sa, h'⟩ := h.cons
    have hn : n = as.length + 1 := h.1.symm
    subst hn
    cases v with
    | nil => simp [fit, Wd]
    | cons c r =>
      have ih := fit_hld (n := as.length) (a := as) (v := r) ⟨rfl, h'.2⟩
      have e1 : hld (a :: as) (c :: r) = ((decide (a = 120) || decide (a = c)) && hld as r) := rfl
      have e2 : fit (a :: as) (c :: r) = true ↔ ((if a = 120 then bit c else a = c) ∧ fit as r = true) := by
        rw [← mem_wds, ← mem_wds, wds_cons, List.mem_flatMap]
        constructor
        · rintro ⟨b, hb, hm⟩
          obtain ⟨z, hz, e⟩ := List.mem_map.mp hm
          cases e
          refine ⟨?_, hz⟩
          unfold bits at hb
          split at hb
          · rename_i q
            rw [if_pos q]
            simpa [bit] using hb
          · rename_i q
            rw [if_neg q]
            exact (List.mem_singleton.mp hb).symm
        · rintro ⟨h1, h2⟩
          refine ⟨c, ?_, List.mem_map.mpr ⟨r, h2, rfl⟩⟩
          unfold bits
          split
          · rename_i q
            rw [if_pos q] at h1
            simpa [bit] using h1
          · rename_i q
            rw [if_neg q] at h1
            rw [h1]
            simp
      rw [e2, ih, e1, Bool.and_eq_true, Bool.or_eq_true, decide_eq_true_iff, decide_eq_true_iff]
      constructor
      · rintro ⟨h1, ⟨w1, w2⟩, h3⟩
        by_cases q : a = 120
        · rw [if_pos q] at h1
          exact ⟨⟨by simp [w1], fun d hd => (List.mem_cons.mp hd).elim (fun z => by rw [z]; exact h1) fun z => w2 d z⟩, .inl q, h3⟩
        · rw [if_neg q] at h1
          refine ⟨⟨by simp [w1], fun d hd => (List.mem_cons.mp hd).elim (fun z => ?_) fun z => w2 d z⟩, .inr h1, h3⟩
          rw [z, ← h1]
          rcases sa with e | e | e
          · exact .inl e
          · exact .inr e
          · exact absurd e q
      · rintro ⟨⟨w1, w2⟩, h2, h3⟩
        refine ⟨?_, ⟨by simpa using w1, fun d hd => w2 d (List.mem_cons_of_mem _ hd)⟩, h3⟩
        split
        · exact w2 c List.mem_cons_self
        · rename_i q
          exact h2.resolve_left q
theorem mem_hul {n : Nat} {ring : List Lt} (h : Rg n ring) {s k : Nat} {v : Lt} : v ∈ wds (hul ring s k) ↔ Wd n v ∧ hld (hul ring s k) v = true := by
  rw [mem_wds, fit_hld (hul_cb h s k)]
/-- a dict that says of each word what T says -/
def Rp (n : Nat) (d : Dc Tx (List Int)) (T : Lt → Option (List Nat)) : Prop := (∀ v : Lt, getK d.kvs ⟨v⟩ = optI (T v)) ∧ (d.kvs.map Prod.fst).Nodup ∧ ∀ t ∈ d.kvs.map Prod.fst, Wd n t.l
theorem meet_idem (o : Option (List Nat)) (a : List Nat) : meetL (meetL o a) a = meetL o a := by
  cases o with
  | none => exact congrArg some (List.filter_eq_self.mpr fun p hp => decide_eq_true hp)
  | some f =>
    show some _ = some _
    rw [List.filter_filter]
    simp
/-- one word noted -/
theorem rp_put {n : Nat} {d : Dc Tx (List Int)} {T : Lt → Option (List Nat)} (h : Rp n d T) {u : Lt} (hu : Wd n u) (a : List Nat) : Rp n ⟨putL d.kvs ⟨u⟩ ((getD' d ⟨u⟩ (zz a)).filter fun x => decide (x ∈ zz a))⟩ (fun v => if v = u then meetL (T v) a else T v) := by
  refine ⟨fun v => ?_, putL_nodup h.2.1, fun t ht => ?_⟩
  · show getK (putL d.kvs ⟨u⟩ _) ⟨v⟩ = optI (if v = u then meetL (T v) a else T v)
    rw [getK_putL]
    by_cases e : v = u
    · subst e
      rw [if_pos rfl, if_pos rfl]
      unfold getD'
      rw [h.1 v]
      cases T v with
      | none =>
        show some (List.filter _ (zz a)) = some (zz a)
        rw [List.filter_eq_self.mpr fun x hx => decide_eq_true hx]
      | some f =>
        show some (List.filter _ (zz f)) = some (zz _)
        rw [filter_ints]
    · rw [if_neg (fun z => e (by injection z with z; exact z.symm)), if_neg e]
      exact h.1 v
  · rcases mem_putL.mp ht with e | e
    · rw [e]; exact hu
    · exact h.2.2 t e
/-- the table of runs -/
def tab (ring : List Lt) (n : Nat) (rs : List (Nat × Nat)) (v : Lt) : Option (List Nat) := rs.foldl (fun o r => if v ∈ wds (hul ring r.1 r.2) then meetL o (arc ring.length r.1 r.2) else o) none
theorem tab_shr {n : Nat} {ring : List Lt} (h : Rg n ring) (w : Nat) {v : Lt} (hv : Wd n v) : tab ring n (runsL ring.length w) v = shr ring w v := by
  unfold tab shr holdL common
  generalize runsL ring.length w = rs
  generalize (none : Option (List Nat)) = o
  induction rs generalizing o with
  | nil => rfl
  | cons r rs ih =>
    rw [List.foldl_cons]
    by_cases c : hld (hul ring r.1 r.2) v = true
    · rw [if_pos ((mem_hul h).mpr ⟨hv, c⟩), ih, List.filter_cons_of_pos (by simpa using c), List.map_cons, List.foldl_cons]
    · rw [if_neg (fun z => c ((mem_hul h).mp z).2), ih, List.filter_cons_of_neg (by simpa using c)]
theorem tab_wd {n : Nat} {ring : List Lt} (h : Rg n ring) (rs : List (Nat × Nat)) {v : Lt} (hv : ¬ Wd n v) : tab ring n rs v = none := by
  unfold tab
  induction rs with
  | nil => rfl
  | cons r rs ih =>
    rw [List.foldl_cons, if_neg (fun z => hv ((mem_hul h).mp z).1)]
    exact ih
/-- the inner loop -/
def noteF (a : List Nat) (d : Dc Tx (List Int)) (t : Tx) : M (Fl (Dc Tx (List Int)) (Dc Tx (List Int)) (Option Tx)) := .ok (.nx ⟨putL d.kvs t ((getD' d t (zz a)).filter fun x => decide (x ∈ zz a))⟩)
theorem rp_fold {n : Nat} (a : List Nat) : ∀ (ws : List Lt) (d : Dc Tx (List Int)) (T : Lt → Option (List Nat)), (∀ u ∈ ws, Wd n u) → Rp n d T → Rp n ((ws.map Tx.mk).foldl (fun d t => ⟨putL d.kvs t ((getD' d t (zz a)).filter fun x => decide (x ∈ zz a))⟩) d) (fun v => if v ∈ ws then meetL (T v) a else T v) ∧
    ((ws.map Tx.mk).foldl (fun (d : Dc Tx (List Int)) t => (⟨putL d.kvs t ((getD' d t (zz a)).filter fun x => decide (x ∈ zz a))⟩ : Dc Tx (List Int))) d).kvs.length ≤ d.kvs.length + ws.length
  | [], d, T, _, h => ⟨by simpa using h, Nat.le_refl _⟩
  | u :: ws, d, T, hw, h => by
    have h1 := rp_put h (hw u List.mem_cons_self) a
    obtain ⟨h2, h3⟩ := rp_fold a ws _ _ (fun v hv => hw v (List.mem_cons_of_mem _ hv)) h1
    refine ⟨?_, ?_⟩
    · rw [List.map_cons, List.foldl_cons]
      have e : (fun v => if v ∈ ws then meetL (if v = u then meetL (T v) a else T v) a else if v = u then meetL (T v) a else T v) = fun v => if v ∈ u :: ws then meetL (T v) a else T v := by
        funext v
        by_cases c1 : v = u <;> by_cases c2 : v ∈ ws <;> simp [c1, c2, meet_idem]
      rw [← e]
      exact h2
    · rw [List.map_cons, List.foldl_cons, List.length_cons]
      refine Nat.le_trans h3 ?_
      have := putL_len (kvs := d.kvs) (k := (⟨u⟩ : Tx)) (x := (getD' d ⟨u⟩ (zz a)).filter fun x => decide (x ∈ zz a))
      show (putL d.kvs _ _).length + ws.length ≤ _
      omega
theorem fold_len2 (a : List Nat) (ws : List Tx) (d : Dc Tx (List Int)) : (ws.foldl (fun (d : Dc Tx (List Int)) t => (⟨putL d.kvs t ((getD' d t (zz a)).filter fun x => decide (x ∈ zz a))⟩ : Dc Tx (List Int))) d).kvs.length ≤ d.kvs.length + ws.length := by
  induction ws generalizing d with
  | nil => exact Nat.le_refl _
  | cons u ws ih =>
    rw [List.foldl_cons, List.length_cons]
    refine Nat.le_trans (ih _) ?_
    have := putL_len (kvs := d.kvs) (k := u) (x := (getD' d u (zz a)).filter fun x => decide (x ∈ zz a))
    show (putL d.kvs _ _).length + ws.length ≤ _
    omega
theorem putM_ok {κ α : Type} [DecidableEq κ] {d : Dc κ α} {k : κ} {x : α} (h : d.kvs.length < 16777216) : putM d k x = .ok ⟨putL d.kvs k x⟩ := if_pos (by rw [sz24]; exact h)
/-- noting the words of a run -/
theorem note_words {L R : Type} (a : List Nat) : ∀ (ws : List Tx) (d : Dc Tx (List Int)), d.kvs.length + ws.length < 16777216 → (loopM (fun (s : Dc Tx (List Int)) (t : Tx) => ((compM (fun (x : Int) => (.ok (decide (x ∈ zz a)) : M Bool)) (fun (x : Int) => (.ok x : M Int)) (getD' s t (zz a))) >>= fun x => putM s t x >>= fun y => (.ok (.nx y) : M (Fl (Dc Tx (List Int)) (Dc Tx (List Int)) R)))) ws d : M (Fl (Dc Tx (List Int)) L R)) = .ok (.nx (ws.foldl (fun d t => ⟨putL d.kvs t ((getD' d t (zz a)).filter fun x => decide (x ∈ zz a))⟩) d))
  | [], d, _ => rfl
  | t :: ws, d, h => by
    unfold loopM
    rw [comp_ok (fun x : Int => decide (x ∈ zz a)) (fun x : Int => x) _ (fun _ _ => rfl) (fun _ _ => rfl)]
    rw [List.length_cons] at h
    simp only [ok_b, List.map_id']
    rw [putM_ok (by omega)]
    simp only [ok_b]
    refine note_words a ws _ ?_
    have := putL_len (kvs := d.kvs) (k := t) (x := (getD' d t (zz a)).filter fun x => decide (x ∈ zz a))
    show (putL d.kvs _ _).length + ws.length < _
    omega
def few (ring : List Lt) (w : Nat) : Prop := ∀ s k, s < ring.length → k ≤ w → nx (hul ring s k) ≤ 8
theorem wds256 {l : Lt} (h : nx l ≤ 8) : (wds l).length ≤ 256 := by rw [wds_len]; exact Nat.pow_le_pow_right (by decide) h
/-- the dict of the held words -/
def stpT (ring : List Lt) (T : Lt → Option (List Nat)) (r : Nat × Nat) : Lt → Option (List Nat) := fun v => if v ∈ wds (hul ring r.1 r.2) then meetL (T v) (arc ring.length r.1 r.2) else T v
theorem tab_fold (ring : List Lt) (n : Nat) (rs : List (Nat × Nat)) : rs.foldl (stpT ring) (fun _ => none) = tab ring n rs := by
  have : ∀ (T : Lt → Option (List Nat)), rs.foldl (stpT ring) T = fun v => rs.foldl (fun o r => if v ∈ wds (hul ring r.1 r.2) then meetL o (arc ring.length r.1 r.2) else o) (T v) := by
    induction rs with
    | nil => intro T; rfl
    | cons r rs ih => intro T; rw [List.foldl_cons, ih]; rfl
  exact this _
theorem dict_runsL {n : Nat} {ring : List Lt} (h : Rg n ring) {w : Nat} (hw : w ≤ 60) (hf : few ring w) {R : Type} : ∀ (rs : List (Nat × Nat)) (d : Dc Tx (List Int)) (T : Lt → Option (List Nat)), (∀ r ∈ rs, r.1 < ring.length ∧ r.2 ≤ w) → Rp n d T → d.kvs.length + 256 * rs.length < 16777216 →
    ∃ d', Rp n d' (rs.foldl (stpT ring) T) ∧ d'.kvs.length ≤ d.kvs.length + 256 * rs.length ∧
    (loopM (fun (s6 : (Dc Tx (List Int))) (i7 : (P2 Int Int)) => (m_run_places (tx ring, i7.a, i7.b, ())) >>= fun places8 => (m_run_hull (tx ring, i7.a, i7.b, ()) >>= fun x22 => m_words_of (x22, ())) >>= fun l35 => sq (loopM (fun (s23 : (Dc Tx (List Int))) (i24 : Tx) => ((compM (fun (i28 : Int) => (.ok (decide (i28 ∈ places8)) : M Bool)) (fun (i28 : Int) => (.ok i28 : M Int)) (getD' s23 i24 places8)) >>= fun x32 => putM s23 i24 x32 >>= fun shared34 => (.ok (.nx (shared34))))) l35 (s6)) (fun s36 : (Dc Tx (List Int)) => (.ok (.nx (s36)) : M (Fl (Dc Tx (List Int)) (Dc Tx (List Int)) R)))) (prs rs) d : M (Fl (Dc Tx (List Int)) Unit R)) = .ok (.nx d')
  | [], d, T, _, hT, _ => ⟨d, hT, Nat.le_refl _, rfl⟩
  | r :: rs, d, T, hr, hT, hl => by
    obtain ⟨r1, r2⟩ := hr r List.mem_cons_self
    have hx := hf r.1 r.2 r1 r2
    rw [List.length_cons] at hl
    have hw2 := q_words_of (hul_cb h r.1 r.2) h.2.2.1
    rw [if_pos hx] at hw2
    have wl := wds256 hx
    obtain ⟨g1, g2⟩ := rp_fold (n := n) (arc ring.length r.1 r.2) (wds (hul ring r.1 r.2)) d T (fun u hu => ((mem_hul h).mp hu).1) hT
    obtain ⟨d', k1, k2, k3⟩ := dict_runsL h hw hf (R := R) rs _ _ (fun z hz => hr z (List.mem_cons_of_mem _ hz)) g1 (by omega)
    refine ⟨d', k1, by rw [List.length_cons]; omega, ?_⟩
    show loopM _ (⟨(r.1 : Int), (r.2 : Int)⟩ :: prs rs) d = _
    unfold loopM
    simp only [q_run_places h r.1 r.2 (by omega), q_run_hull h r.1 r.2 (by omega), ok_b, hw2]
    rw [note_words _ _ _ (by rw [List.length_map]; omega)]
    simp only [sq_nx, ok_b]
    exact k3
theorem dict_runs {n : Nat} {ring : List Lt} (h : Rg n ring) {w : Nat} (hw : w ≤ 60) (hf : few ring w) {R : Type} : ∃ d, Rp n d (tab ring n (runsL ring.length w)) ∧ d.kvs.length ≤ 256 * (ring.length * (w + 1)) ∧
    (loopM (fun (s6 : (Dc Tx (List Int))) (i7 : (P2 Int Int)) => (m_run_places (tx ring, i7.a, i7.b, ())) >>= fun places8 => (m_run_hull (tx ring, i7.a, i7.b, ()) >>= fun x22 => m_words_of (x22, ())) >>= fun l35 => sq (loopM (fun (s23 : (Dc Tx (List Int))) (i24 : Tx) => ((compM (fun (i28 : Int) => (.ok (decide (i28 ∈ places8)) : M Bool)) (fun (i28 : Int) => (.ok i28 : M Int)) (getD' s23 i24 places8)) >>= fun x32 => putM s23 i24 x32 >>= fun shared34 => (.ok (.nx (shared34))))) l35 (s6)) (fun s36 : (Dc Tx (List Int)) => (.ok (.nx (s36)) : M (Fl (Dc Tx (List Int)) (Dc Tx (List Int)) R)))) (prs (runsL ring.length w)) ⟨[]⟩ : M (Fl (Dc Tx (List Int)) Unit R)) = .ok (.nx d) := by
  have hL := h.2.2.2
  have hb : ring.length * (w + 1) ≤ 61000 := Nat.le_trans (Nat.mul_le_mul hL (show w + 1 ≤ 61 by omega)) (by decide)
  obtain ⟨d, g1, g2, g3⟩ := dict_runsL h hw hf (R := R) (runsL ring.length w) ⟨[]⟩ (fun _ => none) (fun r hr => mem_runsL.mp hr) ⟨fun v => rfl, List.nodup_nil, fun t ht => by cases ht⟩ (by rw [runsL_len]; show 0 + _ < _; omega)
  rw [tab_fold ring n] at g1
  refine ⟨d, g1, ?_, g3⟩
  rw [runsL_len] at g2
  exact Nat.le_trans g2 (by show 0 + _ ≤ _; omega)
/-- the first bar, in the order of texts -/
structure FB (n : Nat) (ring : List Lt) (w : Nat) (o : Option Tx) : Prop where
  no : o = none → ∀ v, Wd n v → shr ring w v ≠ some []
  yes : ∀ t, o = some t → Wd n t.l ∧ shr ring w t.l = some [] ∧ ∀ v, Wd n v → shr ring w v = some [] → leT t ⟨v⟩ = true
theorem find_srt {keys : List Tx} {p : Tx → Bool} : (∀ t, (srtT keys).find? p = some t → t ∈ keys ∧ p t = true ∧ ∀ v ∈ keys, p v = true → leT t v = true) ∧ ((srtT keys).find? p = none → ∀ v ∈ keys, p v = false) := by
  have pw := srtB_pw linT keys
  have pm := srtB_perm leT keys
  constructor
  · intro t ht
    obtain ⟨hp, as, bs, e, hb⟩ := List.find?_eq_some_iff_append.mp ht
    have hm : t ∈ srtT keys := by show t ∈ srtB leT keys; rw [show srtB leT keys = as ++ t :: bs from e]; simp
    refine ⟨pm.mem_iff.mp hm, hp, fun v hv pv => ?_⟩
    have hv2 : v ∈ srtB leT keys := pm.mem_iff.mpr hv
    rw [show srtB leT keys = as ++ t :: bs from e] at hv2 pw
    rcases List.mem_append.mp hv2 with z | z
    · have := hb v z
      rw [pv] at this
      cases this
    · rcases List.mem_cons.mp z with z | z
      · rw [z]
        exact (linT.total t t).elim id id
      · exact (List.pairwise_cons.mp (List.pairwise_append.mp pw).2.1).1 v z
  · intro hn v hv
    have := List.find?_eq_none.mp hn v (pm.mem_iff.mpr hv)
    simpa using this
theorem q_first_bar {n : Nat} {ring : List Lt} (h : Rg n ring) {w : Nat} (hw : w ≤ 60) (hf : few ring w) : okP (m_first_bar (tx ring, (w : Int), ())) (FB n ring w) := by
  unfold m_first_bar r_first_bar
  obtain ⟨d, hd, hl, e⟩ := dict_runs h hw hf (R := Option Tx)
  have hL := h.2.2.2
  have hb : ring.length * (w + 1) ≤ 61000 := Nat.le_trans (Nat.mul_le_mul hL (show w + 1 ≤ 61 by omega)) (by decide)
  simp only [ok_b, q_runs h w hw]
  rw [e]
  simp only [sq_nx]
  rw [if_pos (by rw [sz24]; omega)]
  simp only [ok_b]
  have key : ∀ t : Tx, t ∈ keysD d → getM d t = .ok ((optI (shr ring w t.l)).getD []) ∧ Wd n t.l ∧ shr ring w t.l ≠ none := fun t ht => by
    have hw2 := hd.2.2 t ht
    have g := hd.1 t.l
    rw [tab_shr h w hw2] at g
    have ne := getK_mem.mp ht
    have g : getK d.kvs t = optI (shr ring w t.l) := g
    unfold getM
    rw [g] at ne ⊢
    cases hs : shr ring w t.l with
    | none => rw [hs] at ne; exact absurd rfl ne
    | some f => exact ⟨rfl, hw2, fun z => nomatch z⟩
  rw [loop_first (fun t : Tx => decide (shr ring w t.l = some [])) (fun t => some t) _ ?_]
  · obtain ⟨f1, f2⟩ := find_srt (keys := keysD d) (p := fun t : Tx => decide (shr ring w t.l = some []))
    have inK : ∀ v, Wd n v → shr ring w v = some [] → (⟨v⟩ : Tx) ∈ keysD d := fun v hv hs => getK_mem.mpr (by
      rw [hd.1 v, tab_shr h w hv, hs]
      exact fun z => nomatch z)
    cases hfd : (srtT (keysD d)).find? fun t : Tx => decide (shr ring w t.l = some []) with
    | none =>
      refine ⟨none, rfl, fun _ v hv hs => ?_, fun t ht => nomatch ht⟩
      have := f2 hfd _ (inK v hv hs)
      rw [decide_eq_true hs] at this
      cases this
    | some t =>
      obtain ⟨g1, g2, g3⟩ := f1 t hfd
      refine ⟨some t, rfl, (fun z => nomatch z), fun t' ht' => ?_⟩
      cases ht'
      exact ⟨(key t g1).2.1, of_decide_eq_true g2, fun v hv hs => g3 _ (inK v hv hs) (decide_eq_true hs)⟩
  · intro t ht
    obtain ⟨k1, k2, k3⟩ := key t ((srtB_perm leT _).mem_iff.mp ht)
    rw [k1]
    simp only [ok_b]
    cases hs : shr ring w t.l with
    | none => exact absurd hs k3
    | some f =>
      cases f with
      | nil => rfl
      | cons p r => rfl
theorem q_readable {n : Nat} {ring : List Lt} (h : Rg n ring) {w : Nat} (hw : w ≤ 60) (hf : few ring w) : okP (m_is_readable (tx ring, (w : Int), ())) fun b => b = true ↔ ∀ v, Wd n v → shr ring w v ≠ some [] := by
  unfold m_is_readable r_is_readable
  obtain ⟨o, e, fb⟩ := q_first_bar h hw hf
  simp only [ok_b, e, fin_rt]
  cases o with
  | none => exact ⟨_, rfl, fun _ => fb.no rfl, fun _ => rfl⟩
  | some t =>
    obtain ⟨h1, h2, _⟩ := fb.yes t rfl
    exact ⟨_, rfl, (fun z => by cases z), fun z => absurd h2 (z _ h1)⟩
/-- too many words -/
theorem q_bar_many {n : Nat} {ring : List Lt} (h : Rg n ring) {w : Nat} (hw : w ≤ 60) {s k : Nat} (hs : s < ring.length) (hk : k ≤ w) (hx : 8 < nx (hul ring s k)) : m_first_bar (tx ring, (w : Int), ()) = .error tooM := by
  unfold m_first_bar r_first_bar
  have hL := h.2.2.2
  have hb : ring.length * (w + 1) ≤ 61000 := Nat.le_trans (Nat.mul_le_mul hL (show w + 1 ≤ 61 by omega)) (by decide)
  simp only [ok_b, q_runs h w hw]
  have L : ∀ (rs : List (Nat × Nat)) (d : Dc Tx (List Int)), (∀ r ∈ rs, r.1 < ring.length ∧ r.2 ≤ w) → d.kvs.length + 256 * rs.length < 16777216 → (∃ r ∈ rs, 8 < nx (hul ring r.1 r.2)) →
      (loopM (fun (s6 : (Dc Tx (List Int))) (i7 : (P2 Int Int)) => (m_run_places (tx ring, i7.a, i7.b, ())) >>= fun places8 => (m_run_hull (tx ring, i7.a, i7.b, ()) >>= fun x22 => m_words_of (x22, ())) >>= fun l35 => sq (loopM (fun (s23 : (Dc Tx (List Int))) (i24 : Tx) => ((compM (fun (i28 : Int) => (.ok (decide (i28 ∈ places8)) : M Bool)) (fun (i28 : Int) => (.ok i28 : M Int)) (getD' s23 i24 places8)) >>= fun x32 => putM s23 i24 x32 >>= fun shared34 => (.ok (.nx (shared34))))) l35 (s6)) (fun s36 : (Dc Tx (List Int)) => (.ok (.nx (s36)) : M (Fl (Dc Tx (List Int)) (Dc Tx (List Int)) (Option Tx))))) (prs rs) d : M (Fl (Dc Tx (List Int)) Unit (Option Tx))) = .error tooM := by
    intro rs
    induction rs with
    | nil => rintro d _ _ ⟨r, hr, _⟩; cases hr
    | cons r rs ih =>
      intro d hr hl hx
      obtain ⟨r1, r2⟩ := hr r List.mem_cons_self
      have hcb := hul_cb h r.1 r.2
      have hw2 := q_words_of hcb h.2.2.1
      show loopM _ (⟨(r.1 : Int), (r.2 : Int)⟩ :: prs rs) d = _
      unfold loopM
      rw [List.length_cons] at hl
      simp only [q_run_places h r.1 r.2 (by omega), q_run_hull h r.1 r.2 (by omega), ok_b, hw2]
      by_cases c : nx (hul ring r.1 r.2) ≤ 8
      · rw [if_pos c]
        simp only [ok_b]
        have wl := wds256 c
        rw [note_words _ _ _ (by rw [List.length_map]; omega)]
        simp only [sq_nx, ok_b]
        refine ih _ (fun z hz => hr z (List.mem_cons_of_mem _ hz)) ?_ ?_
        · have := fold_len2 (arc ring.length r.1 r.2) ((wds (hul ring r.1 r.2)).map Tx.mk) d
          rw [List.length_map] at this
          omega
        · obtain ⟨q, hq, hx⟩ := hx
          rcases List.mem_cons.mp hq with e | e
          · rw [e] at hx; omega
          · exact ⟨q, e, hx⟩
      · rw [if_neg c]
        rfl
  rw [L (runsL ring.length w) ⟨[]⟩ (fun r hr => mem_runsL.mp hr) (by rw [runsL_len]; show 0 + _ < _; omega) ⟨(s, k), mem_runsL.mpr ⟨hs, hk⟩, hx⟩]
  rfl
end RG

set_option linter.all false
set_option maxRecDepth 100000
set_option maxHeartbeats 1000000
namespace RG
open P3 L2

/-! arcs that meet -/
theorem hold_mono {n : Nat} {ring : List Lt} (h : Rg n ring) {s k s' k' : Nat} {v : Lt} (hv : Wd n v) (sub : ∀ p ∈ arc ring.length s k, p ∈ arc ring.length s' k') (q : hld (hul ring s k) v = true) : hld (hul ring s' k') v = true := by
  obtain ⟨a1, a2⟩ := arcw_ok h s k
  obtain ⟨b1, b2⟩ := arcw_ok h s' k'
  refine (hld_lhl b1 b2 hv).mpr fun i hi => ?_
  obtain ⟨w, hw, e⟩ := (hld_lhl a1 a2 hv).mp q i hi
  obtain ⟨p, hp, rfl⟩ := List.mem_map.mp hw
  exact ⟨_, List.mem_map.mpr ⟨p, sub p hp, rfl⟩, e⟩
def back (L w s k : Nat) : Nat := if w ≤ s + k then s + k - w else s + k + L - w
theorem back_lt {L w s k : Nat} (hs : s < L) (hk : k ≤ w) (hL : w < L) : back L w s k < L := by unfold back; split <;> omega
theorem sub_fwd {L s k w : Nat} (hs : s < L) (hk : k ≤ w) : ∀ p ∈ arc L s k, p ∈ arc L s w := fun p hp => by
  have hpl := (mem_arc.mp hp).1
  rw [arc_off hs hpl] at hp ⊢
  omega
theorem sub_back {L s k w : Nat} (hs : s < L) (hk : k ≤ w) (hL : w < L) : ∀ p ∈ arc L s k, p ∈ arc L (back L w s k) w := fun p hp => by
  have hpl := (mem_arc.mp hp).1
  rw [arc_off hs hpl] at hp
  rw [arc_off (back_lt hs hk hL) hpl]
  unfold off at hp ⊢
  unfold back
  split at hp <;> split <;> split <;> omega
/-- two runs of exactly w steps have no place in common -/
def apart (L w s t : Nat) : Prop := w < off L s t ∧ w < off L t s
theorem apart_iff {L w s t : Nat} (hs : s < L) (ht : t < L) : apart L w s t ↔ ∀ p, p ∈ arc L s w → p ∉ arc L t w := by
  constructor
  · rintro ⟨h1, h2⟩ p hp hq
    have hpl := (mem_arc.mp hp).1
    rw [arc_off hs hpl] at hp
    rw [arc_off ht hpl] at hq
    unfold off at *
    split at h1 <;> split at h2 <;> split at hp <;> split at hq <;> omega
  · intro h
    constructor
    · apply Classical.byContradiction
      intro c
      exact h t ((arc_off hs ht).mpr (by omega)) ((arc_off ht ht).mpr (by unfold off; simp))
    · apply Classical.byContradiction
      intro c
      exact h s ((arc_off hs hs).mpr (by unfold off; simp)) ((arc_off ht hs).mpr (by omega))
def noClash (ring : List Lt) (w : Nat) : Prop := ∀ s t, s < ring.length → t < ring.length → apart ring.length w s t → mts (hul ring s w) (hul ring t w) = false
def posn (L w a t : Nat) : Int := if off L a t ≤ w then (off L a t : Int) else (off L a t : Int) - L
theorem posn_spec {L w a t : Nat} (ha : a < L) (ht : t < L) (h : off L a t ≤ w ∨ off L t a ≤ w) : -(w : Int) ≤ posn L w a t ∧ posn L w a t ≤ w ∧ ((t : Int) = a + posn L w a t ∨ (t : Int) = a + posn L w a t + L ∨ (t : Int) = a + posn L w a t - L) := by
  unfold posn
  by_cases c : a ≤ t
  · have e : off L a t = t - a := by unfold off; rw [if_pos c]
    rw [e] at h ⊢
    by_cases d : t - a ≤ w
    · rw [if_pos d]; omega
    · rw [if_neg d]
      have : off L t a = L + a - t := by unfold off; rw [if_neg (by omega)]
      rw [this] at h
      omega
  · have e : off L a t = L + t - a := by unfold off; rw [if_neg c]
    rw [e] at h ⊢
    by_cases d : L + t - a ≤ w
    · rw [if_pos d]; omega
    · rw [if_neg d]
      have : off L t a = a - t := by unfold off; rw [if_pos (by omega)]
      rw [this] at h
      omega
theorem off_int {L t u : Nat} (ht : t < L) (hu : u < L) : (off L t u : Int) = u - t ∧ t ≤ u ∨ (off L t u : Int) = L + u - t ∧ u < t := by
  unfold off
  split
  · left; omega
  · right; omega
theorem posn_off {L w a t u : Nat} (hL : 3 * w + 1 ≤ L) (ha : a < L) (ht : t < L) (hu : u < L) (at' : off L a t ≤ w ∨ off L t a ≤ w) (au : off L a u ≤ w ∨ off L u a ≤ w) (tu : off L t u ≤ w ∨ off L u t ≤ w) (le : posn L w a t ≤ posn L w a u) :
    (off L t u : Int) = posn L w a u - posn L w a t ∧ off L t u ≤ w := by
  obtain ⟨t1, t2, t3⟩ := posn_spec ha ht at'
  obtain ⟨u1, u2, u3⟩ := posn_spec ha hu au
  generalize posn L w a t = x at *
  generalize posn L w a u = y at *
  have o1 := off_int ht hu
  have o2 := off_int hu ht
  clear at' au
  rcases t3 with t3 | t3 | t3 <;> rcases u3 with u3 | u3 | u3 <;> rcases o1 with o1 | o1 <;> rcases o2 with o2 | o2 <;> omega
theorem max_of {f : Nat → Int} : ∀ (l : List Nat), l ≠ [] → ∃ m ∈ l, ∀ t ∈ l, f t ≤ f m
  | [], h => absurd rfl h
  | [a], _ => ⟨a, by simp, fun t ht => by rw [List.mem_singleton.mp ht]; exact Int.le_refl _⟩
  | a :: b :: l, _ => by
    obtain ⟨m, hm, h⟩ := max_of (b :: l) (by simp)
    by_cases c : f a ≤ f m
    · exact ⟨m, List.mem_cons_of_mem _ hm, fun t ht => (List.mem_cons.mp ht).elim (fun e => by rw [e]; exact c) (h t)⟩
    · exact ⟨a, List.mem_cons_self, fun t ht => (List.mem_cons.mp ht).elim (fun e => by rw [e]; exact Int.le_refl _) fun z => by have := h t z; omega⟩
theorem back_posn {L w a s k : Nat} (hL : 3 * w + 1 ≤ L) (ha : a < L) (hs : s < L) (hk : k ≤ w) (at' : off L a s ≤ w ∨ off L s a ≤ w) (ab : off L a (back L w s k) ≤ w ∨ off L (back L w s k) a ≤ w) (lo : ∃ m : Int, posn L w a s ≤ m ∧ m ≤ posn L w a s + w ∧ posn L w a (back L w s k) ≤ m ∧ m ≤ posn L w a (back L w s k) + w) :
    posn L w a (back L w s k) = posn L w a s + k - w := by
  obtain ⟨t1, t2, t3⟩ := posn_spec ha hs at'
  obtain ⟨u1, u2, u3⟩ := posn_spec ha (back_lt hs hk (by omega)) ab
  obtain ⟨m, m1, m2, m3, m4⟩ := lo
  have hb : (back L w s k : Int) = s + k - w ∨ (back L w s k : Int) = s + k - w + L := by unfold back; split <;> omega
  generalize posn L w a s = x at *
  generalize posn L w a (back L w s k) = y at *
  generalize (back L w s k : Int) = bb at *
  rcases t3 with t3 | t3 | t3 <;> rcases u3 with u3 | u3 | u3 <;> rcases hb with hb | hb <;> omega
/-- a ring of at least 3 w + 1 words without a clash: what is held has a place -/
theorem placed {n : Nat} {ring : List Lt} (h : Rg n ring) {w : Nat} (hL : 3 * w + 1 ≤ ring.length) (nc : noClash ring w) {v : Lt} (hv : Wd n v) : shr ring w v ≠ some [] := by
  intro e
  have pos := h.pos
  let A : Nat → Prop := fun s => s < ring.length ∧ hld (hul ring s w) v = true
  have run : ∀ s k, (s, k) ∈ holdL ring w v → A s ∧ A (back ring.length w s k) ∧ k ≤ w := fun s k hr => by
    obtain ⟨h1, h2⟩ := List.mem_filter.mp hr
    obtain ⟨r1, r2⟩ := mem_runsL.mp h1
    exact ⟨⟨r1, hold_mono h hv (sub_fwd r1 r2) h2⟩, ⟨back_lt r1 r2 (by omega), hold_mono h hv (sub_back r1 r2 (by omega)) h2⟩, r2⟩
  have near : ∀ s t, A s → A t → off ring.length s t ≤ w ∨ off ring.length t s ≤ w := fun s t hs ht => by
    apply Classical.byContradiction
    intro c
    have ap : apart ring.length w s t := ⟨by omega, by omega⟩
    have q := nc s t hs.1 ht.1 ap
    have : mts (hul ring s w) (hul ring t w) = true := (mts_wds (hul_cb h s w) (hul_cb h t w)).mp ⟨v, (mem_hul h).mpr ⟨hv, hs.2⟩, (mem_hul h).mpr ⟨hv, ht.2⟩⟩
    rw [q] at this
    cases this
  unfold shr at e
  cases hh : holdL ring w v with
  | nil => rw [hh] at e; cases e
  | cons r0 rs =>
    obtain ⟨a, k0⟩ := r0
    have ra := (run a k0 (by rw [hh]; exact List.mem_cons_self)).1
    have dA : ∀ t, A t → t ∈ (List.range ring.length).filter (fun t => hld (hul ring t w) v) := fun t ht => List.mem_filter.mpr ⟨List.mem_range.mpr ht.1, ht.2⟩
    obtain ⟨m, hm, mx⟩ := max_of (f := posn ring.length w a) _ (List.ne_nil_of_mem (dA a ra))
    have hmA : A m := ⟨List.mem_range.mp (List.mem_filter.mp hm).1, (List.mem_filter.mp hm).2⟩
    have le : ∀ t, A t → posn ring.length w a t ≤ posn ring.length w a m := fun t ht => mx t (dA t ht)
    have all : ∀ s k, (s, k) ∈ holdL ring w v → m ∈ arc ring.length s k := fun s k hr => by
      obtain ⟨hs, hb, hk⟩ := run s k hr
      rw [arc_off hs.1 hmA.1]
      obtain ⟨e1, e2⟩ := posn_off hL ra.1 hs.1 hmA.1 (near a s ra hs) (near a m ra hmA) (near s m hs hmA) (le s hs)
      obtain ⟨f1, f2⟩ := posn_off hL ra.1 hb.1 hmA.1 (near a _ ra hb) (near a m ra hmA) (near _ m hb hmA) (le _ hb)
      have bp := back_posn hL ra.1 hs.1 hk (near a s ra hs) (near a _ ra hb) ⟨posn ring.length w a m, le s hs, by omega, le _ hb, by omega⟩
      omega
    cases hc : common ((holdL ring w v).map fun r => arc ring.length r.1 r.2) with
    | none => rw [common_none, List.map_eq_nil_iff, hh] at hc; cases hc
    | some f =>
      rw [hc] at e
      cases e
      have : m ∈ ([] : List Nat) := (mem_common hc).mpr fun b hb => by
        obtain ⟨r, hr, rfl⟩ := List.mem_map.mp hb
        exact all r.1 r.2 hr
      cases this
/-- a clash: a word that no place shares -/
theorem clashed {n : Nat} {ring : List Lt} (h : Rg n ring) {w s t : Nat} (hs : s < ring.length) (ht : t < ring.length) (ap : apart ring.length w s t) (q : mts (hul ring s w) (hul ring t w) = true) : ∃ v, Wd n v ∧ shr ring w v = some [] := by
  obtain ⟨v, v1, v2⟩ := (mts_wds (hul_cb h s w) (hul_cb h t w)).mpr q
  obtain ⟨hv, d1⟩ := (mem_hul h).mp v1
  obtain ⟨_, d2⟩ := (mem_hul h).mp v2
  have r1 : (s, w) ∈ holdL ring w v := List.mem_filter.mpr ⟨mem_runsL.mpr ⟨hs, Nat.le_refl _⟩, d1⟩
  have r2 : (t, w) ∈ holdL ring w v := List.mem_filter.mpr ⟨mem_runsL.mpr ⟨ht, Nat.le_refl _⟩, d2⟩
  refine ⟨v, hv, ?_⟩
  unfold shr
  cases hc : common ((holdL ring w v).map fun r => arc ring.length r.1 r.2) with
  | none => rw [common_none, List.map_eq_nil_iff] at hc; rw [hc] at r1; cases r1
  | some f =>
    congr 1
    apply List.eq_nil_iff_forall_not_mem.mpr
    intro p hp
    have q := (mem_common hc).mp hp
    exact (apart_iff hs ht).mp ap p (q _ (List.mem_map.mpr ⟨_, r1, rfl⟩)) (q _ (List.mem_map.mpr ⟨_, r2, rfl⟩))
/-- more steps, no fewer open wires -/
theorem nx_mono {n : Nat} {ring : List Lt} (h : Rg n ring) {s k k' : Nat} (hs : s < ring.length) (hk : k ≤ k') : nx (hul ring s k) ≤ nx (hul ring s k') := by
  obtain ⟨a1, a2⟩ := arcw_ok h s k
  obtain ⟨b1, b2⟩ := arcw_ok h s k'
  have sub : ∀ v ∈ arcw ring s k, v ∈ arcw ring s k' := fun v hv => by
    obtain ⟨p, hp, rfl⟩ := List.mem_map.mp hv
    refine List.mem_map.mpr ⟨p, ?_, rfl⟩
    have hpl := (mem_arc.mp hp).1
    rw [arc_off hs hpl] at hp ⊢
    omega
  have len : ∀ ws : List Lt, ws ≠ [] → (∀ v ∈ ws, Wd n v) → (ws.getD 0 []).length = n := fun ws h0 hw => by
    cases ws with
    | nil => exact absurd rfl h0
    | cons a r => exact (hw a List.mem_cons_self).1
  unfold hul lhl nx
  rw [len _ a1 a2, len _ b1 b2, List.count_eq_countP, List.count_eq_countP, List.countP_map, List.countP_map]
  refine List.countP_mono_left fun i hi q => ?_
  have hi := List.mem_range.mp hi
  simp only [Function.comp, beq_iff_eq] at q ⊢
  have x : ∀ ws : List Lt, ws ≠ [] → (∀ v ∈ ws, Wd n v) → (hcol (col ws i) = 120 ↔ 48 ∈ col ws i ∧ 49 ∈ col ws i) := fun ws h0 hw => by
    unfold hcol
    split
    · rename_i c; exact ⟨fun _ => c, fun _ => rfl⟩
    · rename_i c
      refine ⟨fun e => ?_, fun z => absurd z c⟩
      cases ws with
      | nil => exact absurd rfl h0
      | cons a r =>
        have e : a.getD i 0 = 120 := e
        have := wd_bit (hw a List.mem_cons_self) hi
        rw [e] at this
        exact absurd this (by unfold bit; decide)
  have q := (x _ a1 a2).mp q
  refine (x _ b1 b2).mpr ⟨?_, ?_⟩
  · obtain ⟨v, hv, e⟩ := List.mem_map.mp q.1
    exact List.mem_map.mpr ⟨v, sub v hv, e⟩
  · obtain ⟨v, hv, e⟩ := List.mem_map.mp q.2
    exact List.mem_map.mpr ⟨v, sub v hv, e⟩
end RG

set_option linter.all false
set_option maxRecDepth 100000
set_option maxHeartbeats 1000000
namespace RG
open P3 L2

/-! the three places bar the middle of their words -/
theorem maj_two {x y z : Nat} (hx : bit x) (hy : bit y) (hz : bit z) : (maj x y z = x ∨ maj x y z = y) ∧ (maj x y z = y ∨ maj x y z = z) ∧ (maj x y z = z ∨ maj x y z = x) := by
  rcases hx with rfl | rfl <;> rcases hy with rfl | rfl <;> rcases hz with rfl | rfl <;> decide
theorem bar_empty {n : Nat} {ring : List Lt} (h : Rg n ring) {w : Nat} (h3 : 3 ≤ ring.length) (hw : ring.length ≤ 3 * w) :
    shr ring w (mid n (wat ring 0) (wat ring ((ring.length + 2) / 3)) (wat ring ((2 * ring.length + 2) / 3))) = some [] := by
  generalize hL : ring.length = L at *
  generalize hs : (L + 2) / 3 = s at *
  generalize ht : (2 * L + 2) / 3 = t at *
  have b1 : 0 < s := by omega
  have b2 : s < t := by omega
  have b3 : t < L := by omega
  have a0 : Wd n (wat ring 0) := h.2.1 _ (wat_mem (by omega))
  have as : Wd n (wat ring s) := h.2.1 _ (wat_mem (by omega))
  have a_t : Wd n (wat ring t) := h.2.1 _ (wat_mem (by omega))
  have wm : Wd n (mid n (wat ring 0) (wat ring s) (wat ring t)) := mid_wd a0 as
  have m : ∀ i, i < n → (mid n (wat ring 0) (wat ring s) (wat ring t)).getD i 0 = maj ((wat ring 0).getD i 0) ((wat ring s).getD i 0) ((wat ring t).getD i 0) := fun i hi => by
    unfold mid
    rw [gd (by rw [List.length_map, List.length_range]; exact hi), List.getElem_map, List.getElem_range]
  have tw := fun i (hi : i < n) => maj_two (wd_bit a0 hi) (wd_bit as hi) (wd_bit a_t hi)
  have r1 : (0, s) ∈ holdL ring w (mid n (wat ring 0) (wat ring s) (wat ring t)) := hold_run h (by omega) (by omega) wm fun i hi => by
    rw [m i hi]
    rcases (tw i hi).1 with e | e
    · exact ⟨0, (arc_off (by omega) (by omega)).mpr (by unfold off; simp), e⟩
    · exact ⟨s, (arc_off (by omega) (by omega)).mpr (by unfold off; simp), e⟩
  have r2 : (s, t - s) ∈ holdL ring w (mid n (wat ring 0) (wat ring s) (wat ring t)) := hold_run h (by omega) (by omega) wm fun i hi => by
    rw [m i hi]
    rcases (tw i hi).2.1 with e | e
    · exact ⟨s, (arc_off (by omega) (by omega)).mpr (by unfold off; simp), e⟩
    · exact ⟨t, (arc_off (by omega) (by omega)).mpr (by unfold off; rw [if_pos (by omega)]; omega), e⟩
  have r3 : (t, L - t) ∈ holdL ring w (mid n (wat ring 0) (wat ring s) (wat ring t)) := hold_run h (by omega) (by omega) wm fun i hi => by
    rw [m i hi]
    rcases (tw i hi).2.2 with e | e
    · exact ⟨t, (arc_off (by omega) (by omega)).mpr (by unfold off; simp), e⟩
    · exact ⟨0, (arc_off (by omega) (by omega)).mpr (by unfold off; rw [if_neg (by omega)]; omega), e⟩
  unfold shr
  cases hc : common ((holdL ring w (mid n (wat ring 0) (wat ring s) (wat ring t))).map fun r => arc ring.length r.1 r.2) with
  | none =>
    rw [common_none, List.map_eq_nil_iff] at hc
    rw [hc] at r1
    cases r1
  | some f =>
    congr 1
    apply List.eq_nil_iff_forall_not_mem.mpr
    intro p hp
    have q := (mem_common hc).mp hp
    have q1 := q _ (List.mem_map.mpr ⟨_, r1, rfl⟩)
    have q2 := q _ (List.mem_map.mpr ⟨_, r2, rfl⟩)
    have q3 := q _ (List.mem_map.mpr ⟨_, r3, rfl⟩)
    have hp : p < ring.length := (mem_arc.mp q1).1
    have q1 := (arc_off (by omega) hp).mp q1
    have q2 := (arc_off (by omega) hp).mp q2
    have q3 := (arc_off (by omega) hp).mp q3
    unfold off at q1 q2 q3
    dsimp only at q1 q2 q3
    split at q1 <;> split at q2 <;> split at q3 <;> omega

theorem mts_comm {n : Nat} {a b : Lt} (ha : Cb n a) (hb : Cb n b) : mts a b = mts b a := by
  have e : a.length = b.length := by rw [ha.1, hb.1]
  unfold mts
  rw [Bool.eq_iff_iff, all_zip e, all_zip e.symm]
  constructor
  · intro h k h1 h2
    have := h k h2 h1
    simp at this ⊢
    rcases this with t | t | t
    · exact .inr (.inl t)
    · exact .inl t
    · exact .inr (.inr t.symm)
  · intro h k h1 h2
    have := h k h2 h1
    simp at this ⊢
    rcases this with t | t | t
    · exact .inr (.inl t)
    · exact .inl t
    · exact .inr (.inr t.symm)
/-- the given word is read at one place alone: no bar, put as a fact of the pairs -/
theorem pairs_decide {n : Nat} {ring : List Lt} (h : Rg n ring) {w : Nat} (hL : 3 * w + 1 ≤ ring.length) :
    (∀ s t, s < t → t < ring.length → ¬ (apart ring.length w s t ∧ mts (hul ring s w) (hul ring t w) = true)) ↔ ∀ v, Wd n v → shr ring w v ≠ some [] := by
  constructor
  · intro q v hv
    refine placed h hL (fun s t hs ht ap => ?_) hv
    by_cases c : s < t
    · have := q s t c ht
      cases m : mts (hul ring s w) (hul ring t w) with
      | false => rfl
      | true => exact absurd ⟨ap, m⟩ this
    · by_cases c2 : t < s
      · have := q t s c2 hs
        rw [mts_comm (hul_cb h _ _) (hul_cb h _ _)]
        cases m : mts (hul ring t w) (hul ring s w) with
        | false => rfl
        | true => exact absurd ⟨⟨ap.2, ap.1⟩, m⟩ this
      · have : s = t := by omega
        subst this
        unfold apart off at ap
        rw [if_pos (by omega)] at ap
        omega
  · intro q s t h1 h2 ⟨ap, m⟩
    obtain ⟨v, hv, e⟩ := clashed h (show s < ring.length by omega) h2 ap m
    exact q v hv e
theorem short_apart {L w s t : Nat} (hL : L ≤ 2 * w + 1) (h1 : s < t) (h2 : t < L) : ¬ apart L w s t := by
  unfold apart off
  rw [if_pos (by omega), if_neg (by omega)]
  omega
theorem bar_some {n : Nat} {ring : List Lt} (h : Rg n ring) {w : Nat} (h3 : 3 ≤ ring.length) (hw : ring.length ≤ 3 * w) : ¬ ∀ v, Wd n v → shr ring w v ≠ some [] := fun q =>
  q _ (mid_wd (h.2.1 _ (wat_mem (show 0 < ring.length by omega))) (h.2.1 _ (wat_mem (show (ring.length + 2) / 3 < ring.length by omega)))) (bar_empty h h3 hw)
end RG

set_option linter.all false
set_option maxRecDepth 100000
set_option maxHeartbeats 1000000
namespace RG
open P3 L2

/-! the stretch rings -/
theorem str_len (s : Nat) : (str s).length = s := by unfold str; rw [List.length_map, List.length_range]
theorem str_rg {s : Nat} (h0 : 0 < s) (h : s ≤ 26) : Rg ((s + 1) / 2) (str s) := by
  have ls := str_len s
  refine ⟨fun e => ?_, fun w hw => ?_, by omega, by omega⟩
  · rw [e] at ls; simp at ls; omega
  · unfold str at hw
    obtain ⟨j, hj, rfl⟩ := List.mem_map.mp hw
    exact strw_wd (List.mem_range.mp hj)
def chkNx (L : Nat) : Bool := (List.range L).all fun s => decide (nx (hul (str L) s 4) ≤ 8)
theorem chkNx_ok : (List.range 25).all chkNx = true := by decide +kernel
def chkCl (L w : Nat) : Bool := (List.range L).all fun t => (List.range t).all fun s => !(decide (w < t - s) && decide (w < L + s - t)) || !mts (hul (str L) s w) (hul (str L) t w)
theorem chkCl_ok : (List.range 25).all (fun L => (List.range 5).all fun w => decide (L < 3 * w + 1) || chkCl L w) = true := by decide +kernel
theorem str_few {L w : Nat} (h0 : 0 < L) (hL : L ≤ 24) (hw : w ≤ 4) : few (str L) w := fun s k hs hk => by
  have a := List.all_eq_true.mp chkNx_ok L (List.mem_range.mpr (by omega))
  rw [str_len] at hs
  have b := of_decide_eq_true (List.all_eq_true.mp a s (List.mem_range.mpr hs))
  exact Nat.le_trans (nx_mono (str_rg h0 (by omega)) (by rw [str_len]; exact hs) (show k ≤ 4 by omega)) b
theorem str_clear {L w : Nat} (hL : L ≤ 24) (hw : w ≤ 4) (h : 3 * w + 1 ≤ L) : ∀ v, Wd ((L + 1) / 2) v → shr (str L) w v ≠ some [] := by
  have rg := str_rg (s := L) (by omega) (by omega)
  refine (pairs_decide rg (w := w) (by rw [str_len]; exact h)).mp fun s t hs ht ⟨ap, m⟩ => ?_
  rw [str_len] at ht
  have a := List.all_eq_true.mp (List.all_eq_true.mp chkCl_ok L (List.mem_range.mpr (by omega))) w (List.mem_range.mpr (by omega))
  rw [decide_eq_false (by omega : ¬ L < 3 * w + 1), Bool.false_or] at a
  have b := List.all_eq_true.mp (List.all_eq_true.mp a t (List.mem_range.mpr ht)) s (List.mem_range.mpr hs)
  rw [m, Bool.not_true, Bool.or_false] at b
  unfold apart off at ap
  rw [str_len, if_pos (by omega), if_neg (by omega)] at ap
  rw [decide_eq_true (by omega : w < t - s), decide_eq_true (by omega : w < L + s - t)] at b
  cases b
def chk2 (L w : Nat) : Bool := decide (shr (str L) w [48] ≠ some []) && decide (shr (str L) w [49] ≠ some [])
theorem chk2_ok : (List.range 5).all (fun w => chk2 1 w && chk2 2 w) = true := by decide +kernel
theorem str_two {L w : Nat} (h0 : 0 < L) (hL : L ≤ 2) (hw : w ≤ 4) : ∀ v, Wd ((L + 1) / 2) v → shr (str L) w v ≠ some [] := by
  intro v hv
  have a := List.all_eq_true.mp chk2_ok w (List.mem_range.mpr (by omega))
  rw [Bool.and_eq_true] at a
  have h1 : (L + 1) / 2 = 1 := by omega
  rw [h1] at hv
  obtain ⟨hl, hb⟩ := hv
  match v, hl with
  | [c], _ =>
    have b : chk2 L w = true := by
      have : L = 1 ∨ L = 2 := by omega
      rcases this with rfl | rfl
      · exact a.1
      · exact a.2
    unfold chk2 at b
    rw [Bool.and_eq_true] at b
    rcases hb c List.mem_cons_self with rfl | rfl
    · exact of_decide_eq_true b.1
    · exact of_decide_eq_true b.2
theorem str_due {L w : Nat} (h0 : 0 < L) (hL : L ≤ 24) (hw : w ≤ 4) : (w = 0 ∨ L ≤ 2 ∨ 3 * w + 1 ≤ L) ↔ ∀ v, Wd ((L + 1) / 2) v → shr (str L) w v ≠ some [] := by
  constructor
  · rintro (h | h | h)
    · exact str_clear hL hw (by omega)
    · exact str_two h0 h hw
    · exact str_clear hL hw h
  · intro h
    apply Classical.byContradiction
    intro c
    exact bar_some (str_rg h0 (by omega)) (w := w) (by rw [str_len]; omega) (by rw [str_len]; omega) h
end RG

set_option linter.all false
set_option maxRecDepth 100000
set_option maxHeartbeats 1000000
namespace RG
open P3 L2

theorem loop_app {α β L R : Type} {f : List β → α → M (Fl (List β) (List β) R)} (g : α → List β) : ∀ (xs : List α) (s0 : List β), (∀ s x, x ∈ xs → s.length + (g x).length ≤ s0.length + (xs.flatMap g).length → f s x = .ok (.nx (s ++ g x))) → (loopM f xs s0 : M (Fl (List β) L R)) = .ok (.nx (s0 ++ xs.flatMap g))
  | [], s0, h => by rw [List.flatMap_nil, List.append_nil]; rfl
  | x :: xs, s0, h => by
    have e := h s0 x List.mem_cons_self (by rw [List.flatMap_cons, List.length_append]; omega)
    unfold loopM
    rw [e]
    have ih := loop_app (L := L) g xs (s0 ++ g x) fun s y hy hl => h s y (List.mem_cons_of_mem _ hy) (by rw [List.flatMap_cons, List.length_append]; rw [List.length_append] at hl; omega)
    rw [List.flatMap_cons, ← List.append_assoc]
    exact ih
abbrev row (ring : List Lt) (r : Nat × Nat) : P2 Tx (List Int) := ⟨⟨hul ring r.1 r.2⟩, zz (arc ring.length r.1 r.2)⟩
theorem q_table {n : Nat} {ring : List Lt} (h : Rg n ring) (w : Nat) (hw : w ≤ 60) : m__law_table (tx ring, (w : Int), ()) = .ok ((runsL ring.length w).map (row ring)) := by
  unfold m__law_table r__law_table
  have h4 := h.2.2.2
  simp only [ok_b, tx_len]
  rw [rng_k (show ring.length ≤ 16384 by omega), show (w : Int) + 1 = ((w + 1 : Nat) : Int) by omega, rng_k (show w + 1 ≤ 16384 by omega)]
  simp only [ok_b]
  have e : (zz (List.range ring.length)).flatMap (fun s : Int => (zz (List.range (w + 1))).flatMap fun k : Int => [row ring (s.toNat, k.toNat)]) = (runsL ring.length w).map (row ring) := by
    unfold runsL zz
    rw [List.flatMap_map, List.map_flatMap]
    congr 1
    funext s
    rw [List.flatMap_map, List.map_map]
    generalize List.range (w + 1) = ks
    induction ks with
    | nil => rfl
    | cons k ks ih => rw [List.flatMap_cons, ih]; rfl
  have hb : ((runsL ring.length w).map (row ring)).length ≤ 61000 := by
    rw [List.length_map, runsL_len]
    exact Nat.le_trans (Nat.mul_le_mul h4 (show w + 1 ≤ 61 by omega)) (by decide)
  rw [loop_app (fun s : Int => (zz (List.range (w + 1))).flatMap fun k : Int => [row ring (s.toNat, k.toNat)]) _ _ ?_]
  · rw [e]
    rfl
  · intro acc x hx hl
    obtain ⟨s, hs, rfl⟩ := mem_ints.mp hx
    rw [e, List.length_nil] at hl
    rw [loop_app (fun k : Int => [row ring ((s : Int).toNat, k.toNat)]) _ _ ?_]
    · rfl
    · intro acc2 y hy hl2
      obtain ⟨k, hk, rfl⟩ := mem_ints.mp hy
      rw [q_lhull h s k, q_places ring.length s k h.pos (by omega)]
      simp only [ok_b]
      rw [appM_ok (by rw [List.length_singleton] at hl2; omega)]
      rfl
def mxw (cube bits : Lt) : Lt := (List.range cube.length).map fun k => if cube.getD k 0 = 120 then bits.getD k 0 else cube.getD k 0
theorem q_mixture {n m : Nat} {cube bits : Lt} (hc : Cb n cube) (hb : Wd m bits) (hm : n ≤ m) (hn : n ≤ 1000) : m__law_mixture (⟨cube⟩, ⟨bits⟩, ()) = .ok ⟨mxw cube bits⟩ ∧ Wd n (mxw cube bits) := by
  have hcl := hc.1
  have hbl := hb.1
  constructor
  · unfold m__law_mixture r__law_mixture
    simp only [ok_b, items_tx]
    rw [map_ok (fun p : P2 Int Tx => if p.b = ⟨[120]⟩ then (⟨[bits.getD p.a.toNat 0]⟩ : Tx) else p.b) _ ?_]
    · have e : (enumL (cube.map fun c => (⟨[c]⟩ : Tx))).map (fun p : P2 Int Tx => if p.b = ⟨[120]⟩ then (⟨[bits.getD p.a.toNat 0]⟩ : Tx) else p.b) = (mxw cube bits).map fun c => ⟨[c]⟩ := by
        apply List.ext_getElem?
        intro k
        by_cases hk : k < cube.length
        · have hl : k < (enumL (cube.map fun c => (⟨[c]⟩ : Tx))).length := by rw [enumL_len, List.length_map]; exact hk
          have q := enumL_at (List.getElem?_eq_getElem hl)
          rw [List.getElem?_map, List.getElem?_eq_getElem hk] at q
          have e : (enumL (cube.map fun c => (⟨[c]⟩ : Tx)))[k] = (⟨(k : Int), ⟨[cube[k]]⟩⟩ : P2 Int Tx) := by
            obtain ⟨q1, q2⟩ := q
            generalize (enumL (cube.map fun c => (⟨[c]⟩ : Tx)))[k] = p at q1 q2
            cases p with | mk a b =>
            simp at q1 q2
            rw [← q1, ← q2]
          unfold mxw
          rw [List.getElem?_map, List.getElem?_eq_getElem hl, e, List.getElem?_map, List.getElem?_map, List.getElem?_range hk]
          simp only [Option.map_some, Int.toNat_natCast, tx_eq, gd hk]
          congr 1
          by_cases c : cube[k] = 120
          · rw [if_pos (by rw [c]), if_pos c]
          · rw [if_neg (by simpa using c), if_neg c]
        · rw [List.getElem?_eq_none (by rw [List.length_map, enumL_len, List.length_map]; omega), List.getElem?_eq_none (by unfold mxw; rw [List.length_map, List.length_map, List.length_range]; omega)]
      rw [ok_b, e, joinT_ok (by unfold mxw; rw [List.length_map, List.length_range]; omega)]
      rfl
    · intro p hp
      obtain ⟨k, hk, rfl⟩ := mem_enum hp
      simp only [ok_b, dec_one, Int.toNat_natCast]
      by_cases c : cube[k] = 120
      · rw [decide_eq_true c, if_pos rfl, if_pos (by rw [c]), idxT_nat (show k < bits.length by omega), gd (show k < bits.length by omega)]
      · rw [decide_eq_false c, if_neg (by decide), if_neg (by simpa using c)]
  · unfold mxw
    refine ⟨by rw [List.length_map, List.length_range]; exact hcl, fun c h => ?_⟩
    obtain ⟨k, hk, rfl⟩ := List.mem_map.mp h
    have hk := List.mem_range.mp hk
    by_cases c : cube.getD k 0 = 120
    · rw [if_pos c, gd (show k < bits.length by omega)]
      exact hb.2 _ (List.getElem_mem _)
    · rw [if_neg c, gd hk]
      rw [gd hk] at c
      rcases hc.2 _ (List.getElem_mem hk) with z | z | z
      · exact .inl z
      · exact .inr z
      · exact absurd z c
theorem q_can (L w : Nat) (hw : w ≤ 60) : m_can_be_read ((L : Int), (w : Int), ()) = .ok (decide (w = 0 ∨ L ≤ 2 ∨ 3 * w + 1 ≤ L)) := by
  unfold m_can_be_read r_can_be_read
  have m1 : mulI 3 (w : Int) = .ok (3 * (w : Int)) := mulI_ok ⟨by omega, by omega⟩
  simp only [ok_b, m1]
  have g : ∀ a b c : Bool, (if a = true then .ok true else if b = true then .ok true else .ok c : M Bool) = .ok (a || (b || c)) := fun a b c => by cases a <;> cases b <;> rfl
  rw [g]
  simp only [ok_b, fin_rt]
  congr 1
  rw [Bool.eq_iff_iff]
  simp only [Bool.or_eq_true, decide_eq_true_eq]
  omega
end RG

set_option linter.all false
set_option maxRecDepth 100000
set_option maxHeartbeats 1000000
namespace RG
open P3 L2

/-! hulls by their wires; rings told anew -/
theorem hcol_120 {c : Lt} (h0 : c ≠ []) (hb : ∀ x ∈ c, bit x) : hcol c = 120 ↔ 48 ∈ c ∧ 49 ∈ c := by
  unfold hcol
  by_cases h : 48 ∈ c ∧ 49 ∈ c
  · rw [if_pos h]
    exact ⟨fun _ => h, fun _ => rfl⟩
  · rw [if_neg h]
    refine ⟨fun e => ?_, fun z => absurd z h⟩
    cases c with
    | nil => exact absurd rfl h0
    | cons a r =>
      have e : a = 120 := e
      have := hb a List.mem_cons_self
      rw [e] at this
      exact absurd this (by unfold bit; decide)
theorem hcol_one {c : Lt} (h0 : c ≠ []) (hb : ∀ x ∈ c, bit x) (h : hcol c ≠ 120) : hcol c ∈ c ∧ ∀ x ∈ c, x = hcol c := by
  have n2 := fun z => h ((hcol_120 h0 hb).mpr z)
  unfold hcol
  rw [if_neg n2]
  cases c with
  | nil => exact absurd rfl h0
  | cons a r =>
    have e : (a :: r).getD 0 0 = a := rfl
    rw [e]
    refine ⟨List.mem_cons_self, fun x hx => ?_⟩
    have ha := hb a List.mem_cons_self
    have hx2 := hb x hx
    have ma : a ∈ a :: r := List.mem_cons_self
    rcases ha with rfl | rfl <;> rcases hx2 with rfl | rfl
    · rfl
    · exact absurd ⟨ma, hx⟩ n2
    · exact absurd ⟨hx, ma⟩ n2
    · rfl
theorem hcol_ext {c d : Lt} (h0 : c ≠ []) (hb : ∀ x ∈ c, bit x) (h : ∀ x, x ∈ c ↔ x ∈ d) : hcol c = hcol d := by
  have d0 : d ≠ [] := fun e => by
    cases c with
    | nil => exact h0 rfl
    | cons a r =>
      have := (h a).mp List.mem_cons_self
      rw [e] at this
      cases this
  have db : ∀ x ∈ d, bit x := fun x hx => hb x ((h x).mpr hx)
  by_cases e : hcol c = 120
  · rw [e]
    have := (hcol_120 h0 hb).mp e
    exact ((hcol_120 d0 db).mpr ⟨(h _).mp this.1, (h _).mp this.2⟩).symm
  · obtain ⟨a, b⟩ := hcol_one h0 hb e
    by_cases f : hcol d = 120
    · have := (hcol_120 d0 db).mp f
      have x1 := b _ ((h _).mpr this.1)
      have x2 := b _ ((h _).mpr this.2)
      rw [← x1] at x2
      cases x2
    · exact (hcol_one d0 db f).2 _ ((h _).mp a)
theorem col_bits {n : Nat} {ws : List Lt} (h : ∀ w ∈ ws, Wd n w) {k : Nat} (hk : k < n) : ∀ x ∈ col ws k, bit x := fun x hx => by
  obtain ⟨w, hw, rfl⟩ := List.mem_map.mp hx
  exact wd_bit (h w hw) hk
theorem col_ne {ws : List Lt} (h : ws ≠ []) (k : Nat) : col ws k ≠ [] := fun e => h (List.map_eq_nil_iff.mp e)
theorem first_len {n : Nat} {ws : List Lt} (h0 : ws ≠ []) (h : ∀ w ∈ ws, Wd n w) : (ws.getD 0 []).length = n := by
  cases ws with
  | nil => exact absurd rfl h0
  | cons a r => exact (h a List.mem_cons_self).1
theorem lhl_n {n : Nat} {ws : List Lt} (h0 : ws ≠ []) (h : ∀ w ∈ ws, Wd n w) : lhl ws = (List.range n).map fun k => hcol (col ws k) := by
  unfold lhl
  rw [first_len h0 h]
theorem lhl_ext {n : Nat} {ws vs : List Lt} (h0 : ws ≠ []) (h : ∀ w ∈ ws, Wd n w) (e : ∀ w, w ∈ ws ↔ w ∈ vs) : lhl ws = lhl vs := by
  have v0 : vs ≠ [] := fun z => by
    cases ws with
    | nil => exact h0 rfl
    | cons a r =>
      have := (e a).mp List.mem_cons_self
      rw [z] at this
      cases this
  have hv : ∀ w ∈ vs, Wd n w := fun w hw => h w ((e w).mpr hw)
  rw [lhl_n h0 h, lhl_n v0 hv]
  apply List.map_congr_left
  intro k hk
  refine hcol_ext (col_ne h0 k) (col_bits h (List.mem_range.mp hk)) fun x => ?_
  unfold col
  rw [List.mem_map, List.mem_map]
  exact ⟨fun ⟨w, a, b⟩ => ⟨w, (e w).mp a, b⟩, fun ⟨w, a, b⟩ => ⟨w, (e w).mpr a, b⟩⟩
theorem mts_lhl {n : Nat} {ws vs : List Lt} (w0 : ws ≠ []) (hw : ∀ w ∈ ws, Wd n w) (v0 : vs ≠ []) (hv : ∀ w ∈ vs, Wd n w) : mts (lhl ws) (lhl vs) = true ↔ ∀ k, k < n → ∃ u ∈ ws, ∃ v ∈ vs, u.getD k 0 = v.getD k 0 := by
  rw [lhl_n w0 hw, lhl_n v0 hv]
  unfold mts
  rw [all_zip (by rw [List.length_map, List.length_map])]
  constructor
  · intro q k hk
    have := q k (by rw [List.length_map, List.length_range]; exact hk) (by rw [List.length_map, List.length_range]; exact hk)
    rw [List.getElem_map, List.getElem_map, List.getElem_range] at this
    have wb := col_bits hw hk
    have vb := col_bits hv hk
    have w1 := col_ne w0 k
    have v1 := col_ne v0 k
    have key : ∃ x, x ∈ col ws k ∧ x ∈ col vs k := by
      have anyof : ∀ {c d : Lt}, d ≠ [] → (∀ x ∈ d, bit x) → 48 ∈ c ∧ 49 ∈ c → ∃ x, x ∈ c ∧ x ∈ d := fun {c d} d0 db ⟨p, q⟩ => by
        cases d with
        | nil => exact absurd rfl d0
        | cons a r =>
          rcases db a List.mem_cons_self with rfl | rfl
          · exact ⟨_, p, List.mem_cons_self⟩
          · exact ⟨_, q, List.mem_cons_self⟩
      by_cases e : hcol (col ws k) = 120
      · exact anyof v1 vb ((hcol_120 w1 wb).mp e)
      · by_cases f : hcol (col vs k) = 120
        · obtain ⟨x, a, b⟩ := anyof w1 wb ((hcol_120 v1 vb).mp f)
          exact ⟨x, b, a⟩
        · simp [e, f] at this
          exact ⟨_, (hcol_one w1 wb e).1, by rw [this]; exact (hcol_one v1 vb f).1⟩
    obtain ⟨x, a, b⟩ := key
    obtain ⟨u, hu, e1⟩ := List.mem_map.mp a
    obtain ⟨v, hv, e2⟩ := List.mem_map.mp b
    exact ⟨u, hu, v, hv, by rw [e1, e2]⟩
  · intro q k h1 h2
    rw [List.length_map, List.length_range] at h1
    rw [List.getElem_map, List.getElem_map, List.getElem_range]
    obtain ⟨u, hu, v, hv2, e⟩ := q k h1
    have wb := col_bits hw h1
    have vb := col_bits hv h1
    have w1 := col_ne w0 k
    have v1 := col_ne v0 k
    have mu : u.getD k 0 ∈ col ws k := List.mem_map.mpr ⟨u, hu, rfl⟩
    have mv : v.getD k 0 ∈ col vs k := List.mem_map.mpr ⟨v, hv2, rfl⟩
    by_cases a : hcol (col ws k) = 120
    · simp [a]
    · by_cases b : hcol (col vs k) = 120
      · simp [b]
      · have := (hcol_one w1 wb a).2 _ mu
        have := (hcol_one v1 vb b).2 _ mv
        simp
        right; right
        omega
theorem nx_lhl {n : Nat} {ws : List Lt} (h0 : ws ≠ []) (h : ∀ w ∈ ws, Wd n w) : nx (lhl ws) = ((List.range n).filter fun k => decide (48 ∈ col ws k ∧ 49 ∈ col ws k)).length := by
  rw [lhl_n h0 h]
  unfold nx
  rw [List.count, List.countP_map, List.countP_eq_length_filter]
  congr 1
  apply List.filter_congr
  intro k hk
  rw [Bool.eq_iff_iff, decide_eq_true_eq, ← hcol_120 (col_ne h0 k) (col_bits h (List.mem_range.mp hk))]
  simp
/-- a ring with no clash and few open wires -/
structure Gd (ring : List Lt) (w n c : Nat) : Prop where
  rg : Rg n ring
  len : 3 * w + 1 ≤ ring.length
  no : noClash ring w
  fw : ∀ s, s < ring.length → nx (hul ring s w) ≤ c
theorem Gd.few {ring : List Lt} {w n c : Nat} (h : Gd ring w n c) (hc : c ≤ 8) : few ring w := fun s k hs hk => Nat.le_trans (nx_mono h.rg hs hk) (Nat.le_trans (h.fw s hs) hc)
theorem Gd.relabel {ring ring' : List Lt} {w n c : Nat} (h : Gd ring w n c) (hl : ring'.length = ring.length) (hr : Rg n ring') (pi sg : Nat → Nat) (hp : ∀ p, p < ring.length → pi p < ring.length ∧ wat ring' p = wat ring (pi p)) (hs : ∀ s, s < ring.length → sg s < ring.length)
    (ha : ∀ s p, s < ring.length → p < ring.length → (p ∈ arc ring.length s w ↔ pi p ∈ arc ring.length (sg s) w)) (sj : ∀ q, q < ring.length → ∃ p, p < ring.length ∧ pi p = q) : Gd ring' w n c := by
  have hh : ∀ s, s < ring.length → hul ring' s w = hul ring (sg s) w := fun s hs2 => by
    unfold hul
    obtain ⟨a1, a2⟩ := arcw_ok hr s w
    refine lhl_ext a1 a2 fun u => ?_
    unfold arcw
    rw [List.mem_map, List.mem_map, hl]
    constructor
    · rintro ⟨p, m, rfl⟩
      have lp := (mem_arc.mp m).1
      exact ⟨pi p, (ha s p hs2 lp).mp m, (hp p lp).2.symm⟩
    · rintro ⟨q, m, rfl⟩
      obtain ⟨p, lp, rfl⟩ := sj q (mem_arc.mp m).1
      exact ⟨p, (ha s p hs2 lp).mpr m, (hp p lp).2⟩
  refine ⟨hr, by rw [hl]; exact h.len, fun s t ls lt ap => ?_, fun s ls => ?_⟩
  · rw [hl] at ls lt ap
    rw [hh s ls, hh t lt]
    refine h.no _ _ (hs s ls) (hs t lt) ((apart_iff (hs s ls) (hs t lt)).mpr fun q q1 q2 => ?_)
    obtain ⟨p, lp, rfl⟩ := sj q (mem_arc.mp q1).1
    exact (apart_iff ls lt).mp ap p ((ha s p ls lp).mpr q1) ((ha t p lt lp).mpr q2)
  · rw [hl] at ls
    rw [hh s ls]
    exact h.fw _ (hs s ls)
theorem rot_len {ring : List Lt} {k : Nat} : (ring.drop k ++ ring.take k).length = ring.length := by
  rw [List.length_append, List.length_drop, List.length_take]
  omega
theorem rg_rot {n : Nat} {ring : List Lt} (h : Rg n ring) (k : Nat) : Rg n (ring.drop k ++ ring.take k) := by
  refine ⟨fun e => h.1 ?_, fun w hw => h.2.1 w ((List.mem_append.mp hw).elim List.mem_of_mem_drop List.mem_of_mem_take), h.2.2.1, by rw [rot_len]; exact h.2.2.2⟩
  have := congrArg List.length e
  rw [rot_len] at this
  exact List.length_eq_zero_iff.mp this
theorem rot_ok {ring : List Lt} (h : ring.length ≤ 1000) (k : Nat) : catL (cutA (tx ring) (some (k : Int)) none) (cutA (tx ring) none (some (k : Int))) = .ok (tx (ring.drop k ++ ring.take k)) := by
  have c1 : cutA (tx ring) (some (k : Int)) none = tx (ring.drop k) := by rw [cutA_from]; exact List.map_drop.symm
  have c2 : cutA (tx ring) none (some (k : Int)) = tx (ring.take k) := by rw [cutA_to]; exact List.map_take.symm
  rw [c1, c2, cat_ok (by rw [tx_len, tx_len, List.length_drop, List.length_take]; omega)]
  exact congrArg Except.ok List.map_append.symm
theorem wat_rot {ring : List Lt} {k p : Nat} (hk : k ≤ ring.length) (hp : p < ring.length) : wat (ring.drop k ++ ring.take k) p = wat ring (if p + k < ring.length then p + k else p + k - ring.length) := by
  unfold wat
  rw [List.getD_eq_getElem?_getD, List.getD_eq_getElem?_getD]
  congr 1
  by_cases c : p + k < ring.length
  · rw [if_pos c, List.getElem?_append_left (by rw [List.length_drop]; omega), List.getElem?_drop, Nat.add_comm]
  · rw [if_neg c, List.getElem?_append_right (by rw [List.length_drop]; omega), List.length_drop, List.getElem?_take_of_lt (by omega)]
    congr 1
    omega
theorem Gd.rot {ring : List Lt} {w n c : Nat} (h : Gd ring w n c) {k : Nat} (hk : k < ring.length) : Gd (ring.drop k ++ ring.take k) w n c := by
  have hL := h.len
  refine h.relabel rot_len (rg_rot h.rg k) (fun p => if p + k < ring.length then p + k else p + k - ring.length) (fun p => if p + k < ring.length then p + k else p + k - ring.length) (fun p hp => ⟨by split <;> omega, wat_rot (by omega) hp⟩) (fun p hp => by split <;> omega) (fun s p hs hp => ?_) fun q hq => ?_
  · rw [arc_off hs hp, arc_off (by split <;> omega) (by split <;> omega)]
    unfold off
    split <;> split <;> split <;> split <;> omega
  · by_cases c : k ≤ q
    · exact ⟨q - k, by omega, by rw [if_pos (by omega)]; omega⟩
    · exact ⟨q + ring.length - k, by omega, by rw [if_neg (by omega)]; omega⟩
theorem rg_rev {n : Nat} {ring : List Lt} (h : Rg n ring) : Rg n ring.reverse :=
  ⟨fun e => h.1 (List.reverse_eq_nil_iff.mp e), fun w hw => h.2.1 w (List.mem_reverse.mp hw), h.2.2.1, by rw [List.length_reverse]; exact h.2.2.2⟩
theorem Gd.rev {ring : List Lt} {w n c : Nat} (h : Gd ring w n c) : Gd ring.reverse w n c := by
  have hL := h.len
  refine h.relabel List.length_reverse (rg_rev h.rg) (fun p => ring.length - 1 - p) (fun s => if s + w < ring.length then ring.length - 1 - s - w else 2 * ring.length - 1 - s - w) (fun p hp => ⟨by omega, ?_⟩) (fun p hp => by split <;> omega) (fun s p hs hp => ?_) fun q hq => ⟨ring.length - 1 - q, by omega, by omega⟩
  · unfold wat
    rw [List.getD_eq_getElem?_getD, List.getD_eq_getElem?_getD, List.getElem?_reverse hp]
  · rw [arc_off hs hp, arc_off (by split <;> omega) (by omega)]
    unfold off
    split <;> split <;> split <;> omega
def tog (m x : Nat) : Nat := if x = m then 48 else 49
theorem tog_bit (m x : Nat) : bit (tog m x) := by unfold tog; split; exact .inl rfl; exact .inr rfl
theorem tog_inj {m x y : Nat} (hm : bit m) (hx : bit x) (hy : bit y) (h : tog m x = tog m y) : x = y := by
  unfold tog at h
  rcases hm with rfl | rfl <;> rcases hx with rfl | rfl <;> rcases hy with rfl | rfl <;> first | rfl | (simp at h)
theorem Gd.wires {ring ring' : List Lt} {w n n' c : Nat} (h : Gd ring w n c) (hl : ring'.length = ring.length) (hr : Rg n' ring') (hn : n ≤ n') {m : Lt} (hm : ∀ i, i < n → bit (m.getD i 0)) (he : ∀ p i, p < ring.length → i < n → (wat ring' p).getD i 0 = tog (m.getD i 0) ((wat ring p).getD i 0)) : Gd ring' w n' (c + (n' - n)) := by
  have wb : ∀ p i, p < ring.length → i < n → bit ((wat ring p).getD i 0) := fun p i hp hi => wd_bit (h.rg.2.1 _ (wat_mem hp)) hi
  refine ⟨hr, by rw [hl]; exact h.len, fun s t ls lt ap => ?_, fun s ls => ?_⟩
  · rw [hl] at ls lt ap
    cases q : mts (hul ring' s w) (hul ring' t w) with
    | false => rfl
    | true =>
      obtain ⟨a1, a2⟩ := arcw_ok hr s w
      obtain ⟨b1, b2⟩ := arcw_ok hr t w
      obtain ⟨c1, c2⟩ := arcw_ok h.rg s w
      obtain ⟨d1, d2⟩ := arcw_ok h.rg t w
      have q := (mts_lhl a1 a2 b1 b2).mp q
      have z : mts (hul ring s w) (hul ring t w) = true := (mts_lhl c1 c2 d1 d2).mpr fun k hk => by
        obtain ⟨u, hu, v, hv, e⟩ := q k (by omega)
        obtain ⟨p1, m1, rfl⟩ := List.mem_map.mp hu
        obtain ⟨p2, m2, rfl⟩ := List.mem_map.mp hv
        rw [hl] at m1 m2
        have l1 := (mem_arc.mp m1).1
        have l2 := (mem_arc.mp m2).1
        rw [he p1 k l1 hk, he p2 k l2 hk] at e
        exact ⟨_, List.mem_map.mpr ⟨p1, m1, rfl⟩, _, List.mem_map.mpr ⟨p2, m2, rfl⟩, tog_inj (hm k hk) (wb p1 k l1 hk) (wb p2 k l2 hk) e⟩
      rw [h.no s t ls lt ap] at z
      cases z
  · rw [hl] at ls
    obtain ⟨a1, a2⟩ := arcw_ok hr s w
    obtain ⟨c1, c2⟩ := arcw_ok h.rg s w
    have f := h.fw s ls
    unfold hul at f ⊢
    rw [nx_lhl c1 c2] at f
    rw [nx_lhl a1 a2]
    have e1 : List.range n' = List.range n ++ (List.range (n' - n)).map (fun x => n + x) := by
      have := List.range_add (n := n) (m := n' - n)
      rw [show n + (n' - n) = n' by omega] at this
      exact this
    rw [e1, List.filter_append, List.length_append]
    refine Nat.add_le_add (Nat.le_trans (Nat.le_of_eq ?_) f) (Nat.le_trans (List.length_filter_le _ _) (Nat.le_of_eq (by rw [List.length_map, List.length_range])))
    congr 1
    apply List.filter_congr
    intro k hk
    have hk := List.mem_range.mp hk
    have ec : col (arcw ring' s w) k = (col (arcw ring s w) k).map (tog (m.getD k 0)) := by
      unfold col arcw
      rw [List.map_map, List.map_map, List.map_map, hl]
      apply List.map_congr_left
      intro p hp
      exact he p k (mem_arc.mp hp).1 hk
    have hb := col_bits c2 hk
    rw [ec, Bool.eq_iff_iff, decide_eq_true_eq, decide_eq_true_eq, List.mem_map, List.mem_map]
    have mk := hm k hk
    constructor
    · rintro ⟨⟨x, x1, x2⟩, y, y1, y2⟩
      rcases hb x x1 with rfl | rfl <;> rcases hb y y1 with rfl | rfl
      · rw [x2] at y2; cases y2
      · exact ⟨x1, y1⟩
      · exact ⟨y1, x1⟩
      · rw [x2] at y2; cases y2
    · rintro ⟨x, y⟩
      rcases mk with e | e
      · rw [e]; exact ⟨⟨48, x, rfl⟩, 49, y, rfl⟩
      · rw [e]; exact ⟨⟨49, y, rfl⟩, 48, x, rfl⟩
end RG

set_option linter.all false
set_option maxRecDepth 100000
set_option maxHeartbeats 1000000
namespace RG
open P3 L2

/-! the law's own words and its own table -/
def lw (acc : List Lt) (c : Nat) : List Lt := if c = 120 then acc.map (· ++ [48]) ++ acc.map (· ++ [49]) else acc.map (· ++ [c])
theorem mem_lw {acc : List Lt} {c : Nat} {v : Lt} : v ∈ lw acc c ↔ ∃ a ∈ acc, ∃ b ∈ bits c, v = a ++ [b] := by
  unfold lw bits
  by_cases h : c = 120
  · rw [if_pos h, if_pos h, List.mem_append, List.mem_map, List.mem_map]
    constructor
    · rintro (⟨a, ha, rfl⟩ | ⟨a, ha, rfl⟩)
      · exact ⟨a, ha, 48, by simp, rfl⟩
      · exact ⟨a, ha, 49, by simp, rfl⟩
    · rintro ⟨a, ha, b, hb, rfl⟩
      have : b = 48 ∨ b = 49 := by simpa using hb
      rcases this with rfl | rfl
      · exact .inl ⟨a, ha, rfl⟩
      · exact .inr ⟨a, ha, rfl⟩
  · rw [if_neg h, if_neg h, List.mem_map]
    constructor
    · rintro ⟨a, ha, rfl⟩
      exact ⟨a, ha, c, by simp, rfl⟩
    · rintro ⟨a, ha, b, hb, rfl⟩
      have : b = c := by simpa using hb
      exact ⟨a, ha, by rw [this]⟩
theorem mem_lws : ∀ {l : Lt} {acc : List Lt} {v : Lt}, v ∈ l.foldl lw acc ↔ ∃ a ∈ acc, ∃ z ∈ wds l, v = a ++ z
  | [], acc, v => by
    constructor
    · intro h
      exact ⟨v, h, [], by simp [wds], by simp⟩
    · rintro ⟨a, ha, z, hz, rfl⟩
      have : z = [] := by simpa [wds] using hz
      rw [this, List.append_nil]
      exact ha
  | c :: r, acc, v => by
    rw [List.foldl_cons, mem_lws, show wds (c :: r) = (bits c).flatMap fun b => (wds r).map (b :: ·) from rfl]
    constructor
    · rintro ⟨a', h', z, hz, rfl⟩
      obtain ⟨a, ha, b, hb, rfl⟩ := mem_lw.mp h'
      exact ⟨a, ha, b :: z, List.mem_flatMap.mpr ⟨b, hb, List.mem_map.mpr ⟨z, hz, rfl⟩⟩, by rw [List.append_assoc]; rfl⟩
    · rintro ⟨a, ha, y, hy, rfl⟩
      obtain ⟨b, hb, hm⟩ := List.mem_flatMap.mp hy
      obtain ⟨z, hz, rfl⟩ := List.mem_map.mp hm
      exact ⟨a ++ [b], mem_lw.mpr ⟨a, ha, b, hb, rfl⟩, z, hz, by rw [List.append_assoc]; rfl⟩
theorem lw_len (acc : List Lt) (c : Nat) : (lw acc c).length = acc.length * (if c = 120 then 2 else 1) := by
  unfold lw
  split
  · rw [List.length_append, List.length_map, List.length_map]; omega
  · rw [List.length_map]; omega
theorem lws_len : ∀ (l : Lt) (acc : List Lt), (l.foldl lw acc).length = acc.length * 2 ^ nx l
  | [], acc => by simp [nx]
  | c :: r, acc => by
    rw [List.foldl_cons, lws_len, lw_len]
    unfold nx
    rw [List.count_cons]
    by_cases h : c = 120
    · rw [if_pos h, if_pos (by simpa using h), Nat.pow_succ, Nat.mul_assoc, Nat.mul_comm 2]
    · rw [if_neg h, if_neg (by simpa using h)]
      simp
theorem q_lwords {n : Nat} {l : Lt} (h : Cb n l) (hn : n ≤ 14) : m__law_words (⟨l⟩, ()) = .ok (tx (l.foldl lw [[]])) := by
  unfold m__law_words r__law_words
  simp only [ok_b, signs_mk]
  have G : ∀ (l : Lt) (acc : List Lt) (m k : Nat), (∀ a ∈ acc, a.length ≤ m) → m + l.length ≤ 100 → acc.length ≤ 2 ^ k → k + l.length ≤ 14 → (loopM (fun (s5 : (List Tx)) (i6 : Tx) => sq (if decide (i6 = ⟨[120]⟩) = true then ((mapM' (fun (i30 : Tx) => catT i30 ⟨[48]⟩) s5) >>= fun x39 => (mapM' (fun (i35 : Tx) => catT i35 ⟨[49]⟩) s5) >>= fun x40 => catL x39 x40) >>= fun words28 => (.ok (.nx (words28)) : M (Fl (List Tx) (List Tx) (List Tx))) else ((mapM' (fun (i43 : Tx) => catT i43 i6) s5) >>= fun words41 => (.ok (.nx (words41))))) (fun j48 : (List Tx) => (.ok (.nx (j48))))) (l.map fun c => (⟨[c]⟩ : Tx)) (tx acc) : M (Fl (List Tx) Unit (List Tx))) = .ok (.nx (tx (l.foldl lw acc))) := by
    intro l
    induction l with
    | nil => intro acc m k _ _ _ _; rfl
    | cons c r ih =>
      intro acc m k h1 h2 h3 h4
      rw [List.length_cons] at h2 h4
      have ct : ∀ x : Nat, mapM' (fun (i : Tx) => catT i ⟨[x]⟩) (tx acc) = .ok (tx (acc.map (· ++ [x]))) := fun x => by
        rw [map_ok (fun i : Tx => (⟨i.l ++ [x]⟩ : Tx)) _ ?_]
        · unfold tx
          rw [List.map_map, List.map_map]
          rfl
        · intro i hi
          obtain ⟨a, ha, rfl⟩ := List.mem_map.mp hi
          have := h1 a ha
          exact catT_ok (by rw [List.length_singleton]; show a.length + 1 ≤ _; omega)
      have p14 : 2 ^ k ≤ 16384 := Nat.le_trans (Nat.pow_le_pow_right (by decide) (show k ≤ 14 by omega)) (by decide)
      have step : ∀ a ∈ lw acc c, a.length ≤ m + 1 := fun a ha => by
        obtain ⟨a0, m0, b, _, rfl⟩ := mem_lw.mp ha
        have := h1 a0 m0
        rw [List.length_append, List.length_singleton]
        omega
      have lk : (lw acc c).length ≤ 2 ^ (k + 1) := by
        rw [lw_len, Nat.pow_succ]
        exact Nat.mul_le_mul h3 (by split <;> omega)
      rw [List.map_cons, List.foldl_cons]
      unfold loopM
      simp only [dec_one, ct, ok_b]
      by_cases e : c = 120
      · rw [decide_eq_true e, if_pos rfl, cat_ok (by rw [tx_len, tx_len, List.length_map, List.length_map]; omega)]
        have el : tx (acc.map (· ++ [48])) ++ tx (acc.map (· ++ [49])) = tx (lw acc c) := by
          unfold lw tx
          rw [if_pos e, List.map_append]
        rw [el]
        simp only [ok_b, sq_nx]
        exact ih _ (m + 1) (k + 1) step (by omega) lk (by omega)
      · rw [decide_eq_false e, if_neg (by decide)]
        have el : tx (acc.map (· ++ [c])) = tx (lw acc c) := by
          unfold lw
          rw [if_neg e]
        rw [el]
        simp only [ok_b, sq_nx]
        exact ih _ (m + 1) (k + 1) step (by omega) lk (by omega)
  have hl := h.1
  have g := G l [[]] 0 0 (fun a ha => by rw [List.mem_singleton.mp ha]; exact Nat.le_refl 0) (by omega) (by decide) (by omega)
  have e0 : ([⟨[]⟩] : List Tx) = tx [[]] := rfl
  rw [e0, g]
  rfl
theorem mem_lwords {l v : Lt} : v ∈ l.foldl lw [[]] ↔ v ∈ wds l := by
  rw [mem_lws]
  constructor
  · rintro ⟨a, ha, z, hz, rfl⟩
    rw [List.mem_singleton.mp ha]
    exact hz
  · intro h
    exact ⟨[], by simp, v, h, rfl⟩
theorem sh_in {n : Nat} {ring : List Lt} (h : Rg n ring) {w : Nat} (hw : w ≤ 60) (hf : few ring w) {s : Nat} (hs : s < ring.length) {L R : Type} : ∀ (ks : List Nat) (d : Dc Tx (List Int)) (T : Lt → Option (List Nat)), (∀ k ∈ ks, k ≤ w) → Rp n d T → d.kvs.length + 256 * ks.length < 16777216 →
    ∃ d', Rp n d' ((ks.map fun k => (s, k)).foldl (stpT ring) T) ∧ d'.kvs.length ≤ d.kvs.length + 256 * ks.length ∧
    (loopM (fun (s9 : Dc Tx (List Int)) (i10 : Int) => (m__law_places ((ring.length : Int), (s : Int), i10, ())) >>= fun places11 => ((m__law_hull (tx ring, (s : Int), i10, ())) >>= fun x26 => m__law_words (x26, ())) >>= fun l39 => sq (loopM (fun (s27 : Dc Tx (List Int)) (i28 : Tx) => (compM (fun (x33 : Int) => (.ok (decide (x33 ∈ places11)) : M Bool)) (fun (i32 : Int) => (.ok i32 : M Int)) (getD' s27 i28 places11)) >>= fun x36 => putM s27 i28 x36 >>= fun y => (.ok (.nx y) : M (Fl (Dc Tx (List Int)) (Dc Tx (List Int)) R))) l39 s9) (fun (y : Dc Tx (List Int)) => (.ok (.nx y) : M (Fl (Dc Tx (List Int)) (Dc Tx (List Int)) R)))) (zz ks) d : M (Fl (Dc Tx (List Int)) L R)) = .ok (.nx d')
  | [], d, T, _, hT, _ => ⟨d, hT, Nat.le_refl _, rfl⟩
  | k :: ks, d, T, hk, hT, hl => by
    have hx := hf s k hs (hk k List.mem_cons_self)
    rw [List.length_cons] at hl
    have hL := h.2.2.2
    have cb := hul_cb h s k
    have wl : ((hul ring s k).foldl lw [[]]).length ≤ 256 := by
      rw [lws_len, List.length_singleton, Nat.one_mul]
      exact Nat.pow_le_pow_right (by decide) hx
    obtain ⟨g1, g2⟩ := rp_fold (n := n) (arc ring.length s k) ((hul ring s k).foldl lw [[]]) d T (fun u hu => ((mem_hul h).mp (mem_lwords.mp hu)).1) hT
    have e : (fun v => if v ∈ (hul ring s k).foldl lw [[]] then meetL (T v) (arc ring.length s k) else T v) = stpT ring T (s, k) := by
      funext v
      unfold stpT
      by_cases c : v ∈ wds (hul ring s k)
      · rw [if_pos c, if_pos (mem_lwords.mpr c)]
      · rw [if_neg c, if_neg (fun z => c (mem_lwords.mp z))]
    rw [e] at g1
    obtain ⟨d', k1, k2, k3⟩ := sh_in h hw hf hs (L := L) (R := R) ks _ _ (fun z hz => hk z (List.mem_cons_of_mem _ hz)) g1 (by omega)
    refine ⟨d', k1, by rw [List.length_cons]; omega, ?_⟩
    show loopM _ ((k : Int) :: zz ks) d = _
    unfold loopM
    simp only [q_places ring.length s k h.pos (by omega), q_lhull h s k, ok_b, q_lwords cb h.2.2.1]
    rw [note_words _ _ _ (by rw [List.length_map]; omega)]
    simp only [sq_nx, ok_b]
    exact k3
theorem sh_out {n : Nat} {ring : List Lt} (h : Rg n ring) {w : Nat} (hw : w ≤ 60) (hf : few ring w) {L R : Type} : ∀ (ss : List Nat) (d : Dc Tx (List Int)) (T : Lt → Option (List Nat)), (∀ s ∈ ss, s < ring.length) → Rp n d T → d.kvs.length + 256 * (ss.length * (w + 1)) < 16777216 →
    ∃ d', Rp n d' ((ss.flatMap fun s => (List.range (w + 1)).map fun k => (s, k)).foldl (stpT ring) T) ∧ d'.kvs.length ≤ d.kvs.length + 256 * (ss.length * (w + 1)) ∧
    (loopM (fun (s4 : Dc Tx (List Int)) (i5 : Int) => sq (loopM (fun (s9 : Dc Tx (List Int)) (i10 : Int) => (m__law_places ((ring.length : Int), i5, i10, ())) >>= fun places11 => ((m__law_hull (tx ring, i5, i10, ())) >>= fun x26 => m__law_words (x26, ())) >>= fun l39 => sq (loopM (fun (s27 : Dc Tx (List Int)) (i28 : Tx) => (compM (fun (x33 : Int) => (.ok (decide (x33 ∈ places11)) : M Bool)) (fun (i32 : Int) => (.ok i32 : M Int)) (getD' s27 i28 places11)) >>= fun x36 => putM s27 i28 x36 >>= fun y => (.ok (.nx y) : M (Fl (Dc Tx (List Int)) (Dc Tx (List Int)) R))) l39 s9) (fun (y : Dc Tx (List Int)) => (.ok (.nx y) : M (Fl (Dc Tx (List Int)) (Dc Tx (List Int)) R)))) (zz (List.range (w + 1))) s4) (fun (y : Dc Tx (List Int)) => (.ok (.nx y) : M (Fl (Dc Tx (List Int)) (Dc Tx (List Int)) R)))) (zz ss) d : M (Fl (Dc Tx (List Int)) L R)) = .ok (.nx d')
  | [], d, T, _, hT, _ => ⟨d, hT, Nat.le_add_right _ _, rfl⟩
  | s :: ss, d, T, hs, hT, hl => by
    rw [List.length_cons, Nat.add_mul, Nat.one_mul] at hl
    obtain ⟨d1, g1, g2, g3⟩ := sh_in h hw hf (hs s List.mem_cons_self) (L := Dc Tx (List Int)) (R := R) (List.range (w + 1)) d T (fun k hk => by have := List.mem_range.mp hk; omega) hT (by rw [List.length_range]; omega)
    rw [List.length_range] at g2
    obtain ⟨d', k1, k2, k3⟩ := sh_out h hw hf (L := L) (R := R) ss d1 _ (fun z hz => hs z (List.mem_cons_of_mem _ hz)) g1 (by omega)
    refine ⟨d', by rw [List.flatMap_cons, List.foldl_append]; exact k1, by rw [List.length_cons, Nat.add_mul, Nat.one_mul]; omega, ?_⟩
    show loopM _ ((s : Int) :: zz ss) d = _
    unfold loopM
    rw [g3]
    simp only [sq_nx]
    exact k3
theorem q_lshared {n : Nat} {ring : List Lt} (h : Rg n ring) {w : Nat} (hw : w ≤ 60) (hf : few ring w) : ∃ d, m__law_shared (tx ring, (w : Int), ()) = .ok d ∧ Rp n d (tab ring n (runsL ring.length w)) ∧ d.kvs.length ≤ 256 * (ring.length * (w + 1)) := by
  unfold m__law_shared r__law_shared
  have hL := h.2.2.2
  simp only [ok_b, tx_len]
  rw [rng_k (show ring.length ≤ 16384 by omega), show (w : Int) + 1 = ((w + 1 : Nat) : Int) by omega, rng_k (show w + 1 ≤ 16384 by omega)]
  simp only [ok_b]
  have hb : ring.length * (w + 1) ≤ 61000 := Nat.le_trans (Nat.mul_le_mul hL (show w + 1 ≤ 61 by omega)) (by decide)
  obtain ⟨d, g1, g2, g3⟩ := sh_out h hw hf (L := Unit) (R := Dc Tx (List Int)) (List.range ring.length) ⟨[]⟩ (fun _ => none) (fun s hs => List.mem_range.mp hs) ⟨fun v => rfl, List.nodup_nil, fun t ht => by cases ht⟩ (by rw [List.length_range]; show 0 + _ < _; omega)
  rw [List.length_range] at g2
  have e : ((List.range ring.length).flatMap fun s => (List.range (w + 1)).map fun k => (s, k)) = runsL ring.length w := rfl
  rw [e, tab_fold ring n] at g1
  refine ⟨d, ?_, g1, Nat.le_trans g2 (by show 0 + _ ≤ _; omega)⟩
  rw [g3]
  rfl
end RG

set_option linter.all false
set_option maxRecDepth 100000
set_option maxHeartbeats 1000000
namespace RG
open P3 L2

/-! wires in another order; a word told twice -/
def rotw (f : Nat) (v : Lt) : Lt := v.drop f ++ v.take f
theorem rotw_getD {v : Lt} {f k : Nat} (hf : f ≤ v.length) (hk : k < v.length) : (rotw f v).getD k 0 = v.getD (if k + f < v.length then k + f else k + f - v.length) 0 := by
  unfold rotw
  rw [List.getD_eq_getElem?_getD, List.getD_eq_getElem?_getD]
  congr 1
  by_cases c : k + f < v.length
  · rw [if_pos c, List.getElem?_append_left (by rw [List.length_drop]; omega), List.getElem?_drop, Nat.add_comm]
  · rw [if_neg c, List.getElem?_append_right (by rw [List.length_drop]; omega), List.length_drop, List.getElem?_take_of_lt (by omega)]
    congr 1
    omega
theorem rotw_len {v : Lt} {f : Nat} : (rotw f v).length = v.length := by
  unfold rotw
  rw [List.length_append, List.length_drop, List.length_take]
  omega
theorem rotw_wd {n f : Nat} {v : Lt} (h : Wd n v) : Wd n (rotw f v) := ⟨by rw [rotw_len]; exact h.1, fun c hc => by
  unfold rotw at hc
  exact h.2 c ((List.mem_append.mp hc).elim List.mem_of_mem_drop List.mem_of_mem_take)⟩
theorem rotw_nx {f : Nat} {v : Lt} : nx (rotw f v) = nx v := by
  unfold nx rotw
  rw [List.count_append, Nat.add_comm, ← List.count_append, List.take_append_drop]
theorem mts_app {a b c d : Lt} (h : a.length = c.length) : mts (a ++ b) (c ++ d) = (mts a c && mts b d) := by
  unfold mts
  rw [List.zipWith_append h, List.all_append]
theorem rotw_mts {f : Nat} {a b : Lt} (h : a.length = b.length) : mts (rotw f a) (rotw f b) = mts a b := by
  unfold rotw
  rw [mts_app (by rw [List.length_drop, List.length_drop, h]), Bool.and_comm, ← mts_app (by rw [List.length_take, List.length_take, h]), List.take_append_drop, List.take_append_drop]
theorem lhl_rotw {n f : Nat} {ws : List Lt} (h0 : ws ≠ []) (h : ∀ w ∈ ws, Wd n w) (hf : f ≤ n) : lhl (ws.map (rotw f)) = rotw f (lhl ws) := by
  have m0 : ws.map (rotw f) ≠ [] := fun e => h0 (List.map_eq_nil_iff.mp e)
  have mw : ∀ w ∈ ws.map (rotw f), Wd n w := fun w hw => by
    obtain ⟨v, hv, rfl⟩ := List.mem_map.mp hw
    exact rotw_wd (h v hv)
  have ll : (lhl ws).length = n := by rw [lhl_n h0 h, List.length_map, List.length_range]
  apply List.ext_getElem?
  intro k
  by_cases hk : k < n
  · have e1 : (lhl (ws.map (rotw f)))[k]? = some (hcol (col (ws.map (rotw f)) k)) := by
      rw [lhl_n m0 mw, List.getElem?_map, List.getElem?_range hk]
      rfl
    have e2 : (rotw f (lhl ws))[k]? = some ((rotw f (lhl ws)).getD k 0) := by
      have : k < (rotw f (lhl ws)).length := by rw [rotw_len, ll]; exact hk
      rw [gd this, List.getElem?_eq_getElem this]
    rw [e1, e2, rotw_getD (by rw [ll]; exact hf) (by rw [ll]; exact hk), ll]
    congr 1
    have hs : (if k + f < n then k + f else k + f - n) < n := by split <;> omega
    rw [lhl_at (first_len h0 h) hs]
    congr 1
    unfold col
    rw [List.map_map]
    apply List.map_congr_left
    intro w hw
    have wl := (h w hw).1
    show (rotw f w).getD k 0 = _
    rw [rotw_getD (by rw [wl]; exact hf) (by rw [wl]; exact hk), wl]
  · rw [List.getElem?_eq_none (by rw [lhl_n m0 mw, List.length_map, List.length_range]; omega), List.getElem?_eq_none (by rw [rotw_len, ll]; omega)]
theorem wat_map {ring : List Lt} {g : Lt → Lt} {p : Nat} (hp : p < ring.length) : wat (ring.map g) p = g (wat ring p) := by
  unfold wat
  rw [List.getD_eq_getElem?_getD, List.getD_eq_getElem?_getD, List.getElem?_map, List.getElem?_eq_getElem hp]
  rfl
theorem Gd.rotw {ring : List Lt} {w n c f : Nat} (h : Gd ring w n c) (hf : f ≤ n) : Gd (ring.map (rotw f)) w n c := by
  have hl : (ring.map (RG.rotw f)).length = ring.length := List.length_map _
  have rg : Rg n (ring.map (RG.rotw f)) := ⟨fun e => h.rg.1 (List.map_eq_nil_iff.mp e), fun v hv => by
    obtain ⟨u, hu, rfl⟩ := List.mem_map.mp hv
    exact rotw_wd (h.rg.2.1 u hu), h.rg.2.2.1, by rw [hl]; exact h.rg.2.2.2⟩
  have hh : ∀ s, hul (ring.map (RG.rotw f)) s w = RG.rotw f (hul ring s w) := fun s => by
    obtain ⟨c1, c2⟩ := arcw_ok h.rg s w
    unfold hul
    rw [← lhl_rotw c1 c2 hf]
    congr 1
    unfold arcw
    rw [hl, List.map_map]
    apply List.map_congr_left
    intro p hp
    exact wat_map (mem_arc.mp hp).1
  refine ⟨rg, by rw [hl]; exact h.len, fun s t ls lt ap => ?_, fun s ls => ?_⟩
  · rw [hl] at ls lt ap
    rw [hh, hh, rotw_mts (by rw [(hul_cb h.rg s w).1, (hul_cb h.rg t w).1])]
    exact h.no s t ls lt ap
  · rw [hl] at ls
    rw [hh, rotw_nx]
    exact h.fw s ls
theorem twice_bar {n : Nat} {ring : List Lt} (h : Rg n ring) (w : Nat) {a b : Nat} (ha : a < ring.length) (hb : b < ring.length) (ne : a ≠ b) (e : wat ring a = wat ring b) : shr ring w (wat ring b) = some [] := by
  have wb := h.2.1 _ (wat_mem hb)
  have r1 : (a, 0) ∈ holdL ring w (wat ring b) := hold_run h ha (Nat.zero_le _) wb fun i _ => ⟨a, (arc_off ha ha).mpr (by unfold off; simp), by rw [e]⟩
  have r2 : (b, 0) ∈ holdL ring w (wat ring b) := hold_run h hb (Nat.zero_le _) wb fun i _ => ⟨b, (arc_off hb hb).mpr (by unfold off; simp), rfl⟩
  unfold shr
  cases hc : common ((holdL ring w (wat ring b)).map fun r => arc ring.length r.1 r.2) with
  | none =>
    rw [common_none, List.map_eq_nil_iff] at hc
    rw [hc] at r1
    cases r1
  | some f =>
    congr 1
    apply List.eq_nil_iff_forall_not_mem.mpr
    intro p hp
    have q := (mem_common hc).mp hp
    have q1 := q _ (List.mem_map.mpr ⟨_, r1, rfl⟩)
    have q2 := q _ (List.mem_map.mpr ⟨_, r2, rfl⟩)
    have hp : p < ring.length := (mem_arc.mp q1).1
    have q1 := (arc_off ha hp).mp q1
    have q2 := (arc_off hb hp).mp q2
    unfold off at q1 q2
    dsimp only at q1 q2
    split at q1 <;> split at q2 <;> omega
theorem lst_ok {n s : Nat} {l : List Int} (hs : 1 ≤ s) (hn : n ≤ 14) (hl : s ≤ l.length) (h2 : l.length ≤ 1000) : Rg n ((l.take s).map fun x => wrd x n) ∧ ((l.take s).map fun x => wrd x n).length = s := by
  have e : ((l.take s).map fun x => wrd x n).length = s := by rw [List.length_map, List.length_take]; omega
  refine ⟨⟨fun z => by rw [z] at e; simp at e; omega, fun w hw => ?_, hn, by omega⟩, e⟩
  obtain ⟨x, _, rfl⟩ := List.mem_map.mp hw
  exact wrd_wd _ _
theorem rg_set {n : Nat} {ring : List Lt} (h : Rg n ring) {i : Nat} {v : Lt} (hv : Wd n v) : Rg n (ring.set i v) := by
  refine ⟨fun e => h.1 ?_, fun w hw => ?_, h.2.2.1, by rw [List.length_set]; exact h.2.2.2⟩
  · have := congrArg List.length e
    rw [List.length_set] at this
    exact List.length_eq_zero_iff.mp this
  · rcases List.mem_or_eq_of_mem_set hw with z | z
    · exact h.2.1 w z
    · rw [z]; exact hv
theorem set_ok {ring : List Lt} {i : Nat} {v : Lt} (h : i < ring.length) : setM (tx ring) (i : Int) ⟨v⟩ = .ok (tx (ring.set i v)) := by
  unfold setM
  have e : ixN (tx ring).length (i : Int) = some i := by
    unfold ixN
    rw [if_pos (by omega), if_pos (by rw [tx_len]; omega)]
    simp
  rw [e]
  show Except.ok ((tx ring).set i ⟨v⟩) = _
  exact congrArg Except.ok List.map_set.symm
theorem wat_set {ring : List Lt} {i p : Nat} {v : Lt} (hp : p < ring.length) : wat (ring.set i v) p = if i = p then v else wat ring p := by
  unfold wat
  rw [List.getD_eq_getElem?_getD, List.getD_eq_getElem?_getD, List.getElem?_set]
  by_cases e : i = p
  · subst e
    rw [if_pos rfl, if_pos rfl, if_pos hp]
    rfl
  · rw [if_neg e, if_neg e]
theorem rngN {a b : Nat} (ha : a ≤ 1000000) (hb : b ≤ 1000000) : rngM (a : Int) (b : Int) = .ok ((List.range (b - a)).map fun (k : Nat) => (a : Int) + (k : Int)) := by
  unfold rngM
  rw [if_pos ⟨by omega, by omega, by omega, by omega, by rw [sz24]; omega⟩]
  unfold rng
  rw [show ((b : Int) - (a : Int)).toNat = b - a by omega]
/-- one word left out -/
theorem drop1_ok {ring : List Lt} (h : ring.length ≤ 1000) (k : Nat) : catL (cutA (tx ring) none (some (k : Int))) (cutA (tx ring) (some ((k : Int) + 1)) none) = .ok (tx (ring.take k ++ ring.drop (k + 1))) := by
  have c1 : cutA (tx ring) none (some (k : Int)) = tx (ring.take k) := by rw [cutA_to]; exact List.map_take.symm
  have c2 : cutA (tx ring) (some ((k : Int) + 1)) none = tx (ring.drop (k + 1)) := by
    rw [show (k : Int) + 1 = ((k + 1 : Nat) : Int) by omega, cutA_from]
    exact List.map_drop.symm
  rw [c1, c2, cat_ok (by rw [tx_len, tx_len, List.length_drop, List.length_take]; omega)]
  exact congrArg Except.ok List.map_append.symm
end RG

set_option linter.all false
set_option maxRecDepth 100000
set_option maxHeartbeats 1000000
namespace RG
open P3 L2

/-! stretch rings in another dress -/
theorem no_of {n : Nat} {ring : List Lt} (h : Rg n ring) {w : Nat} (q : ∀ s t, s < t → t < ring.length → ¬ (apart ring.length w s t ∧ mts (hul ring s w) (hul ring t w) = true)) : noClash ring w := fun s t hs ht ap => by
  by_cases c : s < t
  · have := q s t c ht
    cases m : mts (hul ring s w) (hul ring t w) with
    | false => rfl
    | true => exact absurd ⟨ap, m⟩ this
  · by_cases c2 : t < s
    · have := q t s c2 hs
      rw [mts_comm (hul_cb h _ _) (hul_cb h _ _)]
      cases m : mts (hul ring t w) (hul ring s w) with
      | false => rfl
      | true => exact absurd ⟨⟨ap.2, ap.1⟩, m⟩ this
    · have : s = t := by omega
      subst this
      unfold apart off at ap
      rw [if_pos (by omega)] at ap
      omega
theorem str_chk7 : (List.range 25).all (fun L => (List.range L).all fun s => decide (nx (hul (str L) s 4) ≤ 7)) = true := by decide +kernel
theorem str_gd {L w : Nat} (hw : w ≤ 4) (h : 3 * w + 1 ≤ L) (hL : L ≤ 24) : Gd (str L) w ((L + 1) / 2) 7 := by
  have rg := str_rg (s := L) (by omega) (by omega)
  have sl := str_len L
  refine ⟨rg, by rw [sl]; exact h, no_of rg ?_, fun s hs => ?_⟩
  · exact (pairs_decide rg (w := w) (by rw [sl]; exact h)).mpr (str_clear hL hw h)
  · rw [sl] at hs
    have b := of_decide_eq_true (List.all_eq_true.mp (List.all_eq_true.mp str_chk7 L (List.mem_range.mpr (by omega))) s (List.mem_range.mpr hs))
    exact Nat.le_trans (nx_mono rg (by rw [sl]; exact hs) hw) b
theorem enum_tx (ring : List Lt) : enumL (tx ring) = (List.range ring.length).map fun (p : Nat) => (⟨(p : Int), ⟨wat ring p⟩⟩ : P2 Int Tx) := by
  apply List.ext_getElem?
  intro k
  by_cases hk : k < ring.length
  · have hl : k < (enumL (tx ring)).length := by rw [enumL_len, tx_len]; exact hk
    have q := enumL_at (List.getElem?_eq_getElem hl)
    rw [List.getElem?_eq_getElem hl, List.getElem?_map, List.getElem?_range hk]
    obtain ⟨q1, q2⟩ := q
    generalize (enumL (tx ring))[k] = p at q1 q2
    cases p with | mk a b =>
    have q2 : (tx ring)[k]? = some b := q2
    rw [List.getElem?_map, List.getElem?_eq_getElem hk] at q2
    have e : wat ring k = ring[k] := by unfold wat; rw [List.getD_eq_getElem?_getD, List.getElem?_eq_getElem hk]; rfl
    rw [Option.map_some, e]
    rw [Option.map_some] at q2
    have q1 : a = (k : Int) := q1
    rw [q1]
    injection q2 with q2
    rw [q2]
  · rw [List.getElem?_eq_none (by rw [enumL_len, tx_len]; omega), List.getElem?_eq_none (by rw [List.length_map, List.length_range]; omega)]
def mskw (m v : Lt) : Lt := List.zipWith (fun x y => tog y x) v m
theorem mskw_getD {n : Nat} {m v : Lt} (hm : Wd n m) (hv : Wd n v) {i : Nat} (hi : i < n) : (mskw m v).getD i 0 = tog (m.getD i 0) (v.getD i 0) := by
  have h1 := hm.1
  have h2 := hv.1
  unfold mskw
  rw [List.getD_eq_getElem?_getD, List.getElem?_zipWith, List.getElem?_eq_getElem (show i < v.length by omega), List.getElem?_eq_getElem (show i < m.length by omega), gd (show i < m.length by omega), gd (show i < v.length by omega)]
  rfl
theorem mskw_wd {n : Nat} {m v : Lt} (hm : Wd n m) (hv : Wd n v) : Wd n (mskw m v) := by
  have h1 := hm.1
  have h2 := hv.1
  refine ⟨by unfold mskw; rw [List.length_zipWith, h1, h2, Nat.min_self], fun c hc => ?_⟩
  unfold mskw at hc
  obtain ⟨i, hi, e⟩ := List.mem_iff_getElem.mp hc
  rw [List.getElem_zipWith] at e
  rw [← e]
  exact tog_bit _ _
theorem Gd.mask {ring : List Lt} {w n c : Nat} (h : Gd ring w n c) {m : Lt} (hm : Wd n m) : Gd (ring.map (mskw m)) w n c := by
  have hl : (ring.map (mskw m)).length = ring.length := List.length_map _
  have rg : Rg n (ring.map (mskw m)) := ⟨fun e => h.rg.1 (List.map_eq_nil_iff.mp e), fun v hv => by
    obtain ⟨u, hu, rfl⟩ := List.mem_map.mp hv
    exact mskw_wd hm (h.rg.2.1 u hu), h.rg.2.2.1, by rw [hl]; exact h.rg.2.2.2⟩
  have := h.wires hl rg (Nat.le_refl n) (m := m) (fun i hi => wd_bit hm hi) fun p i hp hi => by
    rw [wat_map hp]
    exact mskw_getD hm (h.rg.2.1 _ (wat_mem hp)) hi
  rw [Nat.sub_self] at this
  exact this
/-- one wire more, of any signs -/
theorem Gd.more {ring : List Lt} {w n c : Nat} (h : Gd ring w n c) (hn : n + 1 ≤ 14) (x : Nat → Nat) (hx : ∀ p, p < ring.length → bit (x p)) : Gd ((List.range ring.length).map fun p => wat ring p ++ [x p]) w (n + 1) (c + 1) := by
  have hl : ((List.range ring.length).map fun p => wat ring p ++ [x p]).length = ring.length := by rw [List.length_map, List.length_range]
  have ew : ∀ p, p < ring.length → wat ((List.range ring.length).map fun p => wat ring p ++ [x p]) p = wat ring p ++ [x p] := fun p hp => by
    show List.getD _ p [] = _
    rw [List.getD_eq_getElem?_getD, List.getElem?_map, List.getElem?_range hp]
    rfl
  have rg : Rg (n + 1) ((List.range ring.length).map fun p => wat ring p ++ [x p]) := by
    refine ⟨fun e => ?_, fun v hv => ?_, hn, by rw [hl]; exact h.rg.2.2.2⟩
    · rw [e, List.length_nil] at hl
      have := h.rg.pos
      omega
    · obtain ⟨p, hp, rfl⟩ := List.mem_map.mp hv
      have hp := List.mem_range.mp hp
      have wp := h.rg.2.1 _ (wat_mem hp)
      refine ⟨by rw [List.length_append, wp.1]; rfl, fun c hc => ?_⟩
      rcases List.mem_append.mp hc with z | z
      · exact wp.2 c z
      · rw [List.mem_singleton.mp z]
        exact hx p hp
  have := h.wires hl rg (Nat.le_succ n) (m := List.replicate n 48) (fun i hi => by
    rw [gd (by rw [List.length_replicate]; exact hi), List.getElem_replicate]
    exact .inl rfl) fun p i hp hi => by
    have wp := h.rg.2.1 _ (wat_mem hp)
    have wl := wp.1
    rw [ew p hp, gd (l := List.replicate n 48) (by rw [List.length_replicate]; exact hi), List.getElem_replicate, List.getD_eq_getElem?_getD, List.getElem?_append_left (by omega), ← List.getD_eq_getElem?_getD]
    have := wd_bit wp hi
    unfold tog
    rcases this with e | e <;> rw [e] <;> rfl
  rw [show n + 1 - n = 1 by omega] at this
  exact this
end RG

set_option linter.all false
set_option maxRecDepth 100000
set_option maxHeartbeats 1000000
namespace RG
open P3 L2

/-! held words and bars, as sorted lists -/
def held (ring : List Lt) (w : Nat) (v : Lt) : Prop := ∃ s k, s < ring.length ∧ k ≤ w ∧ hld (hul ring s k) v = true
def bar (ring : List Lt) (w : Nat) (v : Lt) : Prop := held ring w v ∧ ∀ p, p < ring.length → ∃ s k, s < ring.length ∧ k ≤ w ∧ hld (hul ring s k) v = true ∧ p ∉ arc ring.length s k
theorem shr_held {ring : List Lt} {w : Nat} {v : Lt} : shr ring w v ≠ none ↔ held ring w v := by
  unfold shr
  rw [Ne, common_none, List.map_eq_nil_iff]
  constructor
  · intro h
    obtain ⟨r, hr⟩ := List.exists_mem_of_ne_nil _ h
    obtain ⟨a, b⟩ := List.mem_filter.mp hr
    obtain ⟨c, d⟩ := mem_runsL.mp (show (r.1, r.2) ∈ _ from a)
    exact ⟨r.1, r.2, c, d, b⟩
  · rintro ⟨s, k, a, b, c⟩ e
    have : (s, k) ∈ holdL ring w v := List.mem_filter.mpr ⟨mem_runsL.mpr ⟨a, b⟩, c⟩
    rw [e] at this
    cases this
theorem shr_bar {ring : List Lt} {w : Nat} {v : Lt} : shr ring w v = some [] ↔ bar ring w v := by
  constructor
  · intro h
    have hd := shr_held.mp (show shr ring w v ≠ none by rw [h]; exact fun z => nomatch z)
    refine ⟨hd, fun p hp => ?_⟩
    apply Classical.byContradiction
    intro c
    have : p ∈ ([] : List Nat) := (mem_common h).mpr fun a ha => by
      obtain ⟨r, hr, rfl⟩ := List.mem_map.mp ha
      obtain ⟨x, y⟩ := List.mem_filter.mp hr
      obtain ⟨z1, z2⟩ := mem_runsL.mp (show (r.1, r.2) ∈ _ from x)
      apply Classical.byContradiction
      intro q
      exact c ⟨r.1, r.2, z1, z2, y, q⟩
    cases this
  · rintro ⟨hd, q⟩
    have := shr_held.mpr hd
    cases hs : shr ring w v with
    | none => exact absurd hs this
    | some f =>
      congr 1
      apply List.eq_nil_iff_forall_not_mem.mpr
      intro p hp
      have hall := (mem_common hs).mp hp
      obtain ⟨s0, k0, a0, b0, c0⟩ := hd
      have hp : p < ring.length := (mem_arc.mp (hall _ (List.mem_map.mpr ⟨(s0, k0), List.mem_filter.mpr ⟨mem_runsL.mpr ⟨a0, b0⟩, c0⟩, rfl⟩))).1
      obtain ⟨s, k, a, b, c, d⟩ := q p hp
      exact d (hall _ (List.mem_map.mpr ⟨(s, k), List.mem_filter.mpr ⟨mem_runsL.mpr ⟨a, b⟩, c⟩, rfl⟩))
structure Lst (n : Nat) (P : Lt → Prop) (l : List Tx) : Prop where
  srt : l.Pairwise (fun x y => leT x y = true)
  nd : l.Nodup
  mem : ∀ v, (⟨v⟩ : Tx) ∈ l ↔ Wd n v ∧ P v
theorem Lst.one {n : Nat} {P : Lt → Prop} {l l' : List Tx} (h : Lst n P l) (h' : Lst n P l') : l = l' := by
  have pm : l'.Perm l := (List.perm_ext_iff_of_nodup h'.nd h.nd).mpr fun t => by
    cases t with | mk v =>
    rw [h.mem, h'.mem]
  rw [show l = srtT l from srtB_of linT (List.Perm.refl l) h.srt, show l' = srtT l from srtB_of linT pm h'.srt]
theorem Lst.of {n : Nat} {P : Lt → Prop} {l : List Tx} (nd : l.Nodup) (mem : ∀ v, (⟨v⟩ : Tx) ∈ l ↔ Wd n v ∧ P v) : Lst n P (srtT l) := by
  have pm := srtB_perm leT l
  exact ⟨srtB_pw linT l, pm.nodup_iff.mpr nd, fun v => by rw [← mem]; exact pm.mem_iff⟩
theorem Lst.congr {n : Nat} {P Q : Lt → Prop} {l : List Tx} (h : Lst n P l) (e : ∀ v, Wd n v → (P v ↔ Q v)) : Lst n Q l := ⟨h.srt, h.nd, fun v => by
  rw [h.mem]
  exact ⟨fun ⟨a, b⟩ => ⟨a, (e v a).mp b⟩, fun ⟨a, b⟩ => ⟨a, (e v a).mpr b⟩⟩⟩
theorem Lst.nil_iff {n : Nat} {P : Lt → Prop} {l : List Tx} (h : Lst n P l) : l = [] ↔ ∀ v, Wd n v → ¬ P v := by
  constructor
  · intro e v hv p
    have := (h.mem v).mpr ⟨hv, p⟩
    rw [e] at this
    cases this
  · intro q
    apply List.eq_nil_iff_forall_not_mem.mpr
    intro t ht
    cases t with | mk v =>
    obtain ⟨a, b⟩ := (h.mem v).mp ht
    exact q v a b
theorem Lst.first {n : Nat} {P : Lt → Prop} {l : List Tx} (h : Lst n P l) {t : Tx} (ht : Wd n t.l) (pt : P t.l) (le : ∀ v, Wd n v → P v → leT t ⟨v⟩ = true) : ∃ r, l = t :: r := by
  have mt : t ∈ l := (h.mem t.l).mpr ⟨ht, pt⟩
  cases l with
  | nil => cases mt
  | cons a r =>
    refine ⟨r, ?_⟩
    congr 1
    have ma := (h.mem a.l).mp List.mem_cons_self
    have l1 := le _ ma.1 ma.2
    have l2 : leT a t = true := by
      rcases List.mem_cons.mp mt with e | e
      · rw [e]; exact (linT.total a a).elim id id
      · exact (List.pairwise_cons.mp h.srt).1 t e
    unfold leT at l1 l2
    have := ltT_conn (a := a.l) (b := t.l) (by simpa using l1) (by simpa using l2)
    cases a
    cases t
    exact congrArg Tx.mk this
theorem fb_lst {n : Nat} {ring : List Lt} {w : Nat} {o : Option Tx} {bars : List Tx} (fb : FB n ring w o) (h : Lst n (bar ring w) bars) : o = bars.head? ∧ (o = none ↔ bars = []) := by
  cases o with
  | none =>
    have e := h.nil_iff.mpr fun v hv b => fb.no rfl v hv (shr_bar.mpr b)
    rw [e]
    exact ⟨rfl, fun _ => rfl, fun _ => rfl⟩
  | some t =>
    obtain ⟨a, b, c⟩ := fb.yes t rfl
    obtain ⟨r, e⟩ := h.first a (shr_bar.mp b) fun v hv bv => c v hv (shr_bar.mpr bv)
    rw [e]
    exact ⟨rfl, (fun z => nomatch z), (fun z => nomatch z)⟩
/-- the words held, by the program -/
def Ks (n : Nat) (d : Dc Tx Bool) (Q : Lt → Prop) : Prop := (∀ v : Lt, (⟨v⟩ : Tx) ∈ d.kvs.map Prod.fst ↔ Q v) ∧ (d.kvs.map Prod.fst).Nodup
theorem ks_words {L R : Type} {n : Nat} : ∀ (ws : List Lt) (d : Dc Tx Bool) (Q : Lt → Prop), Ks n d Q → d.kvs.length + ws.length < 16777216 → ∃ d', Ks n d' (fun v => Q v ∨ v ∈ ws) ∧ d'.kvs.length ≤ d.kvs.length + ws.length ∧ (loopM (fun (s16 : (Dc Tx Bool)) (i17 : Tx) => putM s16 i17 true >>= fun found20 => (.ok (.nx found20) : M (Fl (Dc Tx Bool) (Dc Tx Bool) R))) (ws.map Tx.mk) d : M (Fl (Dc Tx Bool) L R)) = .ok (.nx d')
  | [], d, Q, h, _ => ⟨d, ⟨fun v => by rw [h.1]; simp, h.2⟩, Nat.le_refl _, rfl⟩
  | u :: ws, d, Q, h, hl => by
    rw [List.length_cons] at hl
    have pl := putL_len (kvs := d.kvs) (k := (⟨u⟩ : Tx)) (x := true)
    obtain ⟨d', a, b, c⟩ := ks_words (L := L) (R := R) (n := n) ws ⟨putL d.kvs ⟨u⟩ true⟩ (fun v => Q v ∨ v = u) ⟨fun v => by
      show _ ∈ (putL d.kvs ⟨u⟩ true).map Prod.fst ↔ _
      rw [mem_putL, h.1, tx_eq]
      exact ⟨fun z => z.elim .inr .inl, fun z => z.elim .inr .inl⟩, putL_nodup h.2⟩ (by show (putL d.kvs _ _).length + _ < _; omega)
    refine ⟨d', ⟨fun v => by
      rw [a.1]
      show (Q v ∨ v = u) ∨ v ∈ ws ↔ Q v ∨ v ∈ u :: ws
      rw [List.mem_cons]
      constructor
      · rintro ((z | z) | z)
        · exact .inl z
        · exact .inr (.inl z)
        · exact .inr (.inr z)
      · rintro (z | z | z)
        · exact .inl (.inl z)
        · exact .inl (.inr z)
        · exact .inr z, a.2⟩, by rw [List.length_cons]; have b : d'.kvs.length ≤ (putL d.kvs _ _).length + ws.length := b; omega, ?_⟩
    rw [List.map_cons]
    unfold loopM
    rw [putM_ok (by omega)]
    exact c
theorem ks_runs {L R : Type} {n : Nat} {ring : List Lt} (h : Rg n ring) {w : Nat} (hw : w ≤ 60) (hf : few ring w) : ∀ (rs : List (Nat × Nat)) (d : Dc Tx Bool) (Q : Lt → Prop), (∀ r ∈ rs, r.1 < ring.length ∧ r.2 ≤ w) → Ks n d Q → d.kvs.length + 256 * rs.length < 16777216 →
    ∃ d', Ks n d' (fun v => Q v ∨ ∃ r ∈ rs, v ∈ wds (hul ring r.1 r.2)) ∧ d'.kvs.length ≤ d.kvs.length + 256 * rs.length ∧ (loopM (fun (s6 : (Dc Tx Bool)) (i7 : (P2 Int Int)) => ((m_run_hull (tx ring, i7.a, i7.b, ())) >>= fun x15 => m_words_of (x15, ())) >>= fun l21 => sq (loopM (fun (s16 : (Dc Tx Bool)) (i17 : Tx) => putM s16 i17 true >>= fun found20 => (.ok (.nx found20) : M (Fl (Dc Tx Bool) (Dc Tx Bool) R))) l21 s6) (fun (s22 : (Dc Tx Bool)) => (.ok (.nx s22) : M (Fl (Dc Tx Bool) (Dc Tx Bool) R)))) (prs rs) d : M (Fl (Dc Tx Bool) L R)) = .ok (.nx d')
  | [], d, Q, _, hk, _ => ⟨d, ⟨fun v => by rw [hk.1]; simp, hk.2⟩, Nat.le_refl _, rfl⟩
  | r :: rs, d, Q, hr, hk, hl => by
    obtain ⟨r1, r2⟩ := hr r List.mem_cons_self
    have hx := hf r.1 r.2 r1 r2
    rw [List.length_cons] at hl
    have hw2 := q_words_of (hul_cb h r.1 r.2) h.2.2.1
    rw [if_pos hx] at hw2
    have wl := wds256 hx
    obtain ⟨d1, a1, b1, c1⟩ := ks_words (L := Dc Tx Bool) (R := R) (n := n) (wds (hul ring r.1 r.2)) d Q hk (by omega)
    obtain ⟨d', a, b, c⟩ := ks_runs (L := L) (R := R) h hw hf rs d1 _ (fun z hz => hr z (List.mem_cons_of_mem _ hz)) a1 (by omega)
    refine ⟨d', ⟨fun v => by
      rw [a.1]
      constructor
      · rintro ((z | z) | ⟨q, hq, z⟩)
        · exact .inl z
        · exact .inr ⟨r, List.mem_cons_self, z⟩
        · exact .inr ⟨q, List.mem_cons_of_mem _ hq, z⟩
      · rintro (z | ⟨q, hq, z⟩)
        · exact .inl (.inl z)
        · rcases List.mem_cons.mp hq with e | e
          · rw [e] at z; exact .inl (.inr z)
          · exact .inr ⟨q, e, z⟩, a.2⟩, by rw [List.length_cons]; omega, ?_⟩
    show loopM _ (⟨(r.1 : Int), (r.2 : Int)⟩ :: prs rs) d = _
    unfold loopM
    simp only [q_run_hull h r.1 r.2 (by omega), ok_b, hw2, c1, sq_nx]
    exact c
theorem q_held_words {n : Nat} {ring : List Lt} (h : Rg n ring) {w : Nat} (hw : w ≤ 60) (hf : few ring w) : ∃ l, m_held_words (tx ring, (w : Int), ()) = .ok l ∧ Lst n (held ring w) l := by
  unfold m_held_words r_held_words
  have hL := h.2.2.2
  have hb : ring.length * (w + 1) ≤ 61000 := Nat.le_trans (Nat.mul_le_mul hL (show w + 1 ≤ 61 by omega)) (by decide)
  obtain ⟨d, a, b, c⟩ := ks_runs (L := Unit) (R := List Tx) (n := n) h hw hf (runsL ring.length w) ⟨[]⟩ (fun _ => False) (fun r hr => mem_runsL.mp hr) ⟨fun v => by simp, List.nodup_nil⟩ (by rw [runsL_len]; show 0 + _ < _; omega)
  rw [runsL_len] at b
  have b : d.kvs.length ≤ 0 + 256 * (ring.length * (w + 1)) := b
  simp only [ok_b, q_runs h w hw]
  rw [c]
  simp only [sq_nx]
  rw [if_pos (by rw [sz24]; omega)]
  refine ⟨_, rfl, Lst.of a.2 fun v => ?_⟩
  show _ ∈ d.kvs.map Prod.fst ↔ _
  rw [a.1]
  constructor
  · rintro (z | ⟨r, hr, z⟩)
    · exact z.elim
    · obtain ⟨x, y⟩ := mem_runsL.mp (show (r.1, r.2) ∈ _ from hr)
      obtain ⟨p, q⟩ := (mem_hul h).mp z
      exact ⟨p, r.1, r.2, x, y, q⟩
  · rintro ⟨p, s, k, x, y, q⟩
    exact .inr ⟨(s, k), mem_runsL.mpr ⟨x, y⟩, (mem_hul h).mpr ⟨p, q⟩⟩
/-- the law's own table, sorted -/
theorem lshared_lst {n : Nat} {ring : List Lt} (h : Rg n ring) {w : Nat} {d : Dc Tx (List Int)} (hd : Rp n d (tab ring n (runsL ring.length w))) : Lst n (held ring w) (srtT (keysD d)) := by
  refine Lst.of hd.2.1 fun v => ?_
  show (⟨v⟩ : Tx) ∈ d.kvs.map Prod.fst ↔ _
  rw [getK_mem]
  constructor
  · intro ne
    have mk : (⟨v⟩ : Tx) ∈ d.kvs.map Prod.fst := getK_mem.mpr ne
    have hv := hd.2.2 _ mk
    rw [hd.1 v, tab_shr h w hv] at ne
    refine ⟨hv, shr_held.mp fun z => ?_⟩
    rw [z] at ne
    exact ne rfl
  · rintro ⟨hv, q⟩
    rw [hd.1 v, tab_shr h w hv]
    have := shr_held.mpr q
    cases hs : shr ring w v with
    | none => exact absurd hs this
    | some f => exact fun z => nomatch z
end RG

set_option linter.all false
set_option maxRecDepth 100000
set_option maxHeartbeats 1000000
namespace RG
open P3 L2

/-! rings in another dress: held words and bars -/
theorem relabel_hul {n : Nat} {ring ring' : List Lt} {w : Nat} (hl : ring'.length = ring.length) (hr : Rg n ring') (pi : Nat → Nat) (sg : Nat → Nat → Nat) (hp : ∀ p, p < ring.length → pi p < ring.length ∧ wat ring' p = wat ring (pi p))
    (ha : ∀ s k p, s < ring.length → k ≤ w → p < ring.length → (p ∈ arc ring.length s k ↔ pi p ∈ arc ring.length (sg s k) k)) (sj : ∀ q, q < ring.length → ∃ p, p < ring.length ∧ pi p = q) : ∀ s k, s < ring.length → k ≤ w → hul ring' s k = hul ring (sg s k) k := fun s k hs hk => by
  unfold hul
  obtain ⟨a1, a2⟩ := arcw_ok hr s k
  refine lhl_ext a1 a2 fun u => ?_
  unfold arcw
  rw [List.mem_map, List.mem_map, hl]
  constructor
  · rintro ⟨p, m, rfl⟩
    have lp := (mem_arc.mp m).1
    exact ⟨pi p, (ha s k p hs hk lp).mp m, (hp p lp).2.symm⟩
  · rintro ⟨q, m, rfl⟩
    obtain ⟨p, lp, rfl⟩ := sj q (mem_arc.mp m).1
    exact ⟨p, (ha s k p hs hk lp).mpr m, (hp p lp).2⟩
theorem relabel_hb {n : Nat} {ring ring' : List Lt} {w : Nat} (hl : ring'.length = ring.length) (hr : Rg n ring') (pi : Nat → Nat) (sg : Nat → Nat → Nat) (hp : ∀ p, p < ring.length → pi p < ring.length ∧ wat ring' p = wat ring (pi p))
    (hs : ∀ s k, s < ring.length → k ≤ w → sg s k < ring.length) (ss : ∀ t k, t < ring.length → k ≤ w → ∃ s, s < ring.length ∧ sg s k = t)
    (ha : ∀ s k p, s < ring.length → k ≤ w → p < ring.length → (p ∈ arc ring.length s k ↔ pi p ∈ arc ring.length (sg s k) k)) (sj : ∀ q, q < ring.length → ∃ p, p < ring.length ∧ pi p = q) (v : Lt) : (held ring' w v ↔ held ring w v) ∧ (bar ring' w v ↔ bar ring w v) := by
  have hh := relabel_hul hl hr pi sg hp ha sj
  have h1 : held ring' w v ↔ held ring w v := by
    unfold held
    constructor
    · rintro ⟨s, k, a, b, c⟩
      rw [hl] at a
      rw [hh s k a b] at c
      exact ⟨sg s k, k, hs s k a b, b, c⟩
    · rintro ⟨t, k, a, b, c⟩
      obtain ⟨s, x, rfl⟩ := ss t k a b
      exact ⟨s, k, by rw [hl]; exact x, b, by rw [hh s k x b]; exact c⟩
  refine ⟨h1, ?_⟩
  unfold bar
  rw [h1]
  constructor
  · rintro ⟨a, q⟩
    refine ⟨a, fun t ht => ?_⟩
    obtain ⟨p, lp, rfl⟩ := sj t ht
    obtain ⟨s, k, x, y, z, u⟩ := q p (by rw [hl]; exact lp)
    rw [hl] at x u
    rw [hh s k x y] at z
    exact ⟨sg s k, k, hs s k x y, y, z, fun m => u ((ha s k p x y lp).mpr m)⟩
  · rintro ⟨a, q⟩
    refine ⟨a, fun p lp => ?_⟩
    rw [hl] at lp
    obtain ⟨t, k, x, y, z, u⟩ := q (pi p) (hp p lp).1
    obtain ⟨s, e, rfl⟩ := ss t k x y
    exact ⟨s, k, by rw [hl]; exact e, y, by rw [hh s k e y]; exact z, fun m => u (by rw [hl] at m; exact (ha s k p e y lp).mp m)⟩
theorem rot_hb {n : Nat} {ring : List Lt} (h : Rg n ring) (w : Nat) {j : Nat} (hj : j < ring.length) (v : Lt) : (held (ring.drop j ++ ring.take j) w v ↔ held ring w v) ∧ (bar (ring.drop j ++ ring.take j) w v ↔ bar ring w v) := by
  refine relabel_hb rot_len (rg_rot h j) (fun p => if p + j < ring.length then p + j else p + j - ring.length) (fun s _ => if s + j < ring.length then s + j else s + j - ring.length) (fun p hp => ⟨by split <;> omega, wat_rot (by omega) hp⟩) (fun s k hs hk => by split <;> omega) (fun t k ht hk => ?_) (fun s k p hs hk hp => ?_) (fun q hq => ?_) v
  · by_cases c : j ≤ t
    · exact ⟨t - j, by omega, by rw [if_pos (by omega)]; omega⟩
    · exact ⟨t + ring.length - j, by omega, by rw [if_neg (by omega)]; omega⟩
  · rw [arc_off hs hp, arc_off (by split <;> omega) (by split <;> omega)]
    unfold off
    split <;> split <;> split <;> split <;> omega
  · by_cases c : j ≤ q
    · exact ⟨q - j, by omega, by rw [if_pos (by omega)]; omega⟩
    · exact ⟨q + ring.length - j, by omega, by rw [if_neg (by omega)]; omega⟩
theorem rev_hb {n : Nat} {ring : List Lt} (h : Rg n ring) (w : Nat) (v : Lt) : (held ring.reverse w v ↔ held ring w v) ∧ (bar ring.reverse w v ↔ bar ring w v) := by
  refine relabel_hb List.length_reverse (rg_rev h) (fun p => ring.length - 1 - p) (fun s k => if k < ring.length then (if s + k < ring.length then ring.length - 1 - s - k else 2 * ring.length - 1 - s - k) else s) (fun p hp => ⟨by omega, ?_⟩) (fun s k hs hk => by split <;> (try split) <;> omega) (fun t k ht hk => ?_) (fun s k p hs hk hp => ?_) (fun q hq => ⟨ring.length - 1 - q, by omega, by omega⟩) v
  · unfold wat
    rw [List.getD_eq_getElem?_getD, List.getD_eq_getElem?_getD, List.getElem?_reverse hp]
  · by_cases c : k < ring.length
    · by_cases d : t + k < ring.length
      · exact ⟨ring.length - 1 - t - k, by omega, by rw [if_pos c]; split <;> omega⟩
      · exact ⟨2 * ring.length - 1 - t - k, by omega, by rw [if_pos c]; split <;> omega⟩
    · exact ⟨t, ht, by rw [if_neg c]⟩
  · rw [arc_off hs hp, arc_off (by split <;> (try split) <;> omega) (by omega)]
    unfold off
    by_cases c : k < ring.length
    · rw [if_pos c]
      split <;> split <;> split <;> omega
    · rw [if_neg c]
      split <;> split <;> omega
/-- a way to tell words otherwise -/
structure Wm (n n' : Nat) (g : Lt → Lt) : Prop where
  wd : ∀ v, Wd n v → Wd n' (g v)
  eq : ∀ (ws : List Lt) (v : Lt), ws ≠ [] → (∀ w ∈ ws, Wd n w) → Wd n v → ((∀ j, j < n' → ∃ w ∈ ws, (g v).getD j 0 = (g w).getD j 0) ↔ ∀ i, i < n → ∃ w ∈ ws, v.getD i 0 = w.getD i 0)
theorem Wm.rg {n n' : Nat} {g : Lt → Lt} (m : Wm n n' g) {ring : List Lt} (h : Rg n ring) (hn : n' ≤ 14) : Rg n' (ring.map g) := ⟨fun e => h.1 (List.map_eq_nil_iff.mp e), fun v hv => by
  obtain ⟨u, hu, rfl⟩ := List.mem_map.mp hv
  exact m.wd u (h.2.1 u hu), hn, by rw [List.length_map]; exact h.2.2.2⟩
theorem Wm.hld {n n' : Nat} {g : Lt → Lt} (m : Wm n n' g) {ring : List Lt} (h : Rg n ring) (hn : n' ≤ 14) (s k : Nat) {v : Lt} (hv : Wd n v) : hld (hul (ring.map g) s k) (g v) = RG.hld (hul ring s k) v := by
  obtain ⟨a1, a2⟩ := arcw_ok h s k
  obtain ⟨b1, b2⟩ := arcw_ok (m.rg h hn) s k
  have e : arcw (ring.map g) s k = (arcw ring s k).map g := by
    unfold arcw
    rw [List.length_map, List.map_map]
    apply List.map_congr_left
    intro p hp
    exact wat_map (mem_arc.mp hp).1
  rw [Bool.eq_iff_iff]
  unfold hul
  rw [hld_lhl b1 b2 (m.wd v hv), hld_lhl a1 a2 hv, e, ← m.eq (arcw ring s k) v a1 a2 hv]
  constructor
  · intro q j hj
    obtain ⟨u, hu, e⟩ := q j hj
    obtain ⟨x, hx, rfl⟩ := List.mem_map.mp hu
    exact ⟨x, hx, e⟩
  · intro q j hj
    obtain ⟨x, hx, e⟩ := q j hj
    exact ⟨g x, List.mem_map.mpr ⟨x, hx, rfl⟩, e⟩
theorem Wm.hb {n n' : Nat} {g : Lt → Lt} (m : Wm n n' g) {ring : List Lt} (h : Rg n ring) (hn : n' ≤ 14) (w : Nat) {v : Lt} (hv : Wd n v) : (held (ring.map g) w (g v) ↔ held ring w v) ∧ (bar (ring.map g) w (g v) ↔ bar ring w v) := by
  have e : ∀ s k, RG.hld (hul (ring.map g) s k) (g v) = RG.hld (hul ring s k) v := fun s k => m.hld h hn s k hv
  unfold bar held
  rw [List.length_map]
  simp only [e, and_self]
theorem held_mono {ring : List Lt} {w w' : Nat} (h : w' ≤ w) {v : Lt} (q : held ring w' v) : held ring w v := by
  obtain ⟨s, k, a, b, c⟩ := q
  exact ⟨s, k, a, by omega, c⟩
theorem bar_mono {ring : List Lt} {w w' : Nat} (h : w' ≤ w) {v : Lt} (q : bar ring w' v) : bar ring w v := by
  refine ⟨held_mono h q.1, fun p hp => ?_⟩
  obtain ⟨s, k, a, b, c, d⟩ := q.2 p hp
  exact ⟨s, k, a, by omega, c, d⟩
theorem Lst.map {n n' : Nat} {P P' : Lt → Prop} {l : List Tx} (h : Lst n P l) (g : Lt → Lt) (wd : ∀ v, Wd n v → Wd n' (g v)) (inj : ∀ u v, Wd n u → Wd n v → g u = g v → u = v) (to : ∀ v, Wd n v → (P' (g v) ↔ P v)) (onto : ∀ v', Wd n' v' → P' v' → ∃ v, Wd n v ∧ g v = v') : Lst n' P' (srtT (l.map fun t => ⟨g t.l⟩)) := by
  refine Lst.of ?_ fun v' => ?_
  · rw [List.nodup_iff_pairwise_ne, List.pairwise_map]
    refine List.Pairwise.imp_of_mem (R := fun a b => a ≠ b) ?_ (List.nodup_iff_pairwise_ne.mp h.nd)
    intro a b ha hb ne e
    have wa := ((h.mem a.l).mp ha).1
    have wb := ((h.mem b.l).mp hb).1
    injection e with e
    have := inj _ _ wa wb e
    cases a
    cases b
    exact ne (congrArg Tx.mk this)
  · rw [List.mem_map]
    constructor
    · rintro ⟨t, ht, e⟩
      injection e with e
      obtain ⟨a, b⟩ := (h.mem t.l).mp ht
      rw [← e]
      exact ⟨wd _ a, (to _ a).mpr b⟩
    · rintro ⟨a, b⟩
      obtain ⟨v, hv, rfl⟩ := onto v' a b
      exact ⟨⟨v⟩, (h.mem v).mpr ⟨hv, (to v hv).mp b⟩, rfl⟩
/-! two words alone -/
theorem two_nobar {n : Nat} {a b : Lt} (h : Rg n [a, b]) (ne : a ≠ b) (w : Nat) {v : Lt} (hv : Wd n v) : ¬ bar [a, b] w v := by
  rintro ⟨_, q⟩
  have h0 : ∀ s k, s < 2 → ∀ p, p < 2 → p ∉ arc 2 s k → k = 0 ∧ s ≠ p := fun s k hs p hp m => by
    rw [arc_off hs hp] at m
    unfold off at m
    split at m <;> omega
  have one : ∀ s, s < 2 → RG.hld (hul [a, b] s 0) v = true → v = wat [a, b] s := fun s hs hh => by
    obtain ⟨a1, a2⟩ := arcw_ok h s 0
    unfold hul at hh
    have hh := (hld_lhl a1 a2 hv).mp hh
    have ws := h.2.1 _ (wat_mem (ring := [a, b]) hs)
    apply List.ext_getElem (by rw [hv.1, ws.1])
    intro i hi hi2
    obtain ⟨u, hu, e⟩ := hh i (by rw [← hv.1]; exact hi)
    obtain ⟨p, hp, rfl⟩ := List.mem_map.mp hu
    have lp : p < 2 := (mem_arc.mp hp).1
    have op := (arc_off (L := 2) hs lp).mp hp
    have : p = s := by
      unfold off at op
      split at op <;> omega
    subst this
    rw [gd hi, gd hi2] at e
    exact e
  obtain ⟨s0, k0, x0, _, z0, u0⟩ := q 0 (show 0 < 2 by decide)
  obtain ⟨s1, k1, x1, _, z1, u1⟩ := q 1 (show 1 < 2 by decide)
  have x0 : s0 < 2 := x0
  have x1 : s1 < 2 := x1
  obtain ⟨e0, f0⟩ := h0 s0 k0 x0 0 (by decide) u0
  obtain ⟨e1, f1⟩ := h0 s1 k1 x1 1 (by decide) u1
  have : s0 = 1 := by omega
  subst this
  have : s1 = 0 := by omega
  subst this
  subst e0 e1
  have y0 := one 1 (by decide) z0
  have y1 := one 0 (by decide) z1
  rw [y0] at y1
  exact ne y1.symm
end RG

set_option linter.all false
set_option maxRecDepth 100000
set_option maxHeartbeats 1000000
namespace RG
open P3 L2

/-! wires exchanged and turned over; wires added -/
def drs (o : List Nat) (m v : Lt) : Lt := o.map fun k => tog (m.getD k 0) (v.getD k 0)
theorem drs_getD {o : List Nat} {m v : Lt} {j : Nat} (hj : j < o.length) : (drs o m v).getD j 0 = tog (m.getD o[j] 0) (v.getD o[j] 0) := by
  unfold drs
  rw [gd (by rw [List.length_map]; exact hj), List.getElem_map]
theorem perm_lt {n : Nat} {o : List Nat} (ho : o.Perm (List.range n)) {j : Nat} (hj : j < o.length) : o[j] < n := List.mem_range.mp (ho.mem_iff.mp (List.getElem_mem hj))
theorem perm_at {n : Nat} {o : List Nat} (ho : o.Perm (List.range n)) {i : Nat} (hi : i < n) : ∃ j, ∃ hj : j < o.length, o[j] = i := List.mem_iff_getElem.mp (ho.mem_iff.mpr (List.mem_range.mpr hi))
theorem perm_n {n : Nat} {o : List Nat} (ho : o.Perm (List.range n)) : o.length = n := by rw [ho.length_eq, List.length_range]
theorem drs_wm {n : Nat} {o : List Nat} (ho : o.Perm (List.range n)) {m : Lt} (hm : Wd n m) : Wm n n (drs o m) where
  wd := fun v hv => ⟨by unfold drs; rw [List.length_map]; exact perm_n ho, fun c hc => by
    unfold drs at hc
    obtain ⟨k, _, rfl⟩ := List.mem_map.mp hc
    exact tog_bit _ _⟩
  eq := fun ws v h0 hw hv => by
    have ol := perm_n ho
    constructor
    · intro q i hi
      obtain ⟨j, hj, e⟩ := perm_at ho hi
      obtain ⟨w, ww, e2⟩ := q j (by omega)
      rw [drs_getD hj, drs_getD hj, e] at e2
      exact ⟨w, ww, tog_inj (wd_bit hm hi) (wd_bit hv hi) (wd_bit (hw w ww) hi) e2⟩
    · intro q j hj
      have hj2 : j < o.length := by omega
      obtain ⟨w, ww, e⟩ := q o[j] (perm_lt ho hj2)
      exact ⟨w, ww, by rw [drs_getD hj2, drs_getD hj2, e]⟩
theorem drs_inj {n : Nat} {o : List Nat} (ho : o.Perm (List.range n)) {m : Lt} (hm : Wd n m) (u v : Lt) (hu : Wd n u) (hv : Wd n v) (e : drs o m u = drs o m v) : u = v := by
  have hul := hu.1
  have hvl := hv.1
  apply List.ext_getElem (by rw [hul, hvl])
  intro i h1 h2
  have hi : i < n := by omega
  obtain ⟨j, hj, e2⟩ := perm_at ho hi
  have e3 : (drs o m u).getD j 0 = (drs o m v).getD j 0 := by rw [e]
  rw [drs_getD hj, drs_getD hj, e2] at e3
  have := tog_inj (wd_bit hm hi) (wd_bit hu hi) (wd_bit hv hi) e3
  rw [gd h1, gd h2] at this
  exact this
theorem drs_onto {n : Nat} {o : List Nat} (ho : o.Perm (List.range n)) {m : Lt} (hm : Wd n m) (v' : Lt) (hv : Wd n v') : ∃ v, Wd n v ∧ drs o m v = v' := by
  have ol := perm_n ho
  have vl := hv.1
  have nd : o.Nodup := ho.nodup_iff.mpr List.nodup_range
  refine ⟨(List.range n).map fun i => if v'.getD (o.idxOf i) 0 = 48 then m.getD i 0 else 97 - m.getD i 0, ⟨by rw [List.length_map, List.length_range], fun c hc => ?_⟩, ?_⟩
  · obtain ⟨i, hi, rfl⟩ := List.mem_map.mp hc
    have := wd_bit hm (List.mem_range.mp hi)
    split
    · exact this
    · rcases this with e | e <;> rw [e]
      · exact .inr rfl
      · exact .inl rfl
  · apply List.ext_getElem
    · unfold drs; rw [List.length_map, ol, vl]
    · intro j h1 h2
      have hj : j < o.length := by omega
      have lt := perm_lt ho hj
      have e1 := drs_getD (o := o) (m := m) (v := (List.range n).map fun i => if v'.getD (o.idxOf i) 0 = 48 then m.getD i 0 else 97 - m.getD i 0) hj
      rw [gd h1] at e1
      rw [e1, gd (l := (List.range n).map _) (by rw [List.length_map, List.length_range]; exact lt), List.getElem_map, List.getElem_range]
      have ix : o.idxOf o[j] = j := nd.idxOf_getElem j hj
      rw [ix, gd h2]
      have b := hv.2 _ (List.getElem_mem h2)
      have bm := wd_bit hm lt
      unfold tog
      rcases b with e | e <;> rcases bm with e2 | e2 <;> rw [e, e2] <;> rfl
def plus (c : Nat) (v : Lt) : Lt := v ++ [c]
theorem plus_getD {c : Nat} {v : Lt} {n j : Nat} (hv : v.length = n) (hj : j < n + 1) : (plus c v).getD j 0 = if j < n then v.getD j 0 else c := by
  unfold plus
  rw [List.getD_eq_getElem?_getD]
  by_cases h : j < n
  · rw [if_pos h, List.getElem?_append_left (by omega), List.getD_eq_getElem?_getD]
  · rw [if_neg h, List.getElem?_append_right (by omega)]
    have : j - v.length = 0 := by omega
    rw [this]
    rfl
theorem plus_wm {n c : Nat} (hc : bit c) : Wm n (n + 1) (plus c) where
  wd := fun v hv => ⟨by unfold plus; rw [List.length_append, hv.1]; rfl, fun x hx => by
    rcases List.mem_append.mp hx with z | z
    · exact hv.2 x z
    · rw [List.mem_singleton.mp z]; exact hc⟩
  eq := fun ws v h0 hw hv => by
    constructor
    · intro q i hi
      obtain ⟨w, ww, e⟩ := q i (by omega)
      rw [plus_getD hv.1 (by omega), plus_getD (hw w ww).1 (by omega), if_pos hi, if_pos hi] at e
      exact ⟨w, ww, e⟩
    · intro q j hj
      by_cases h : j < n
      · obtain ⟨w, ww, e⟩ := q j h
        exact ⟨w, ww, by rw [plus_getD hv.1 hj, plus_getD (hw w ww).1 hj, if_pos h, if_pos h, e]⟩
      · obtain ⟨w, ww⟩ := List.exists_mem_of_ne_nil _ h0
        exact ⟨w, ww, by rw [plus_getD hv.1 hj, plus_getD (hw w ww).1 hj, if_neg h, if_neg h]⟩
theorem plus_inj {c : Nat} (u v : Lt) (e : plus c u = plus c v) : u = v := by
  unfold plus at e
  exact List.append_cancel_right e
theorem plus_onto {n c : Nat} {ring : List Lt} (hc : bit c) (h : Rg n ring) (hn : n + 1 ≤ 14) {w : Nat} (v' : Lt) (hv : Wd (n + 1) v') (q : held (ring.map (plus c)) w v') : ∃ v, Wd n v ∧ plus c v = v' := by
  obtain ⟨s, k, a, b, d⟩ := q
  have rg := (plus_wm (n := n) hc).rg h hn
  obtain ⟨a1, a2⟩ := arcw_ok rg s k
  unfold hul at d
  obtain ⟨u, hu, e⟩ := (hld_lhl a1 a2 hv).mp d n (by omega)
  obtain ⟨p, hp, rfl⟩ := List.mem_map.mp hu
  have lp := (mem_arc.mp hp).1
  rw [List.length_map] at lp
  rw [wat_map lp, plus_getD (h.2.1 _ (wat_mem lp)).1 (by omega), if_neg (by omega)] at e
  have vl := hv.1
  refine ⟨v'.take n, ⟨by rw [List.length_take]; omega, fun x hx => hv.2 x (List.mem_of_mem_take hx)⟩, ?_⟩
  unfold plus
  rw [gd (show n < v'.length by omega)] at e
  rw [← e]
  have := List.take_append_getElem (l := v') (i := n) (by omega)
  rw [this, List.take_of_length_le (by omega)]
theorem ltT_plus {c : Nat} : ∀ {a b : Lt}, a.length = b.length → ltT (a ++ [c]) (b ++ [c]) = ltT a b
  | [], [], _ => by simp [ltT]
  | x :: a, y :: b, h => by
    have ih := ltT_plus (c := c) (a := a) (b := b) (by simpa using h)
    rw [List.cons_append, List.cons_append]
    unfold ltT
    rw [ih]
  | [], y :: b, h => by simp at h
  | x :: a, [], h => by simp at h
theorem lst_plus {n : Nat} {P P' : Lt → Prop} {l : List Tx} (h : Lst n P l) {c : Nat} (hc : bit c) (to : ∀ v, Wd n v → (P' (plus c v) ↔ P v)) (onto : ∀ v', Wd (n + 1) v' → P' v' → ∃ v, Wd n v ∧ plus c v = v') : Lst (n + 1) P' (l.map fun t => ⟨plus c t.l⟩) := by
  have := h.map (n' := n + 1) (P' := P') (plus c) (plus_wm hc).wd (fun u v _ _ e => plus_inj u v e) to onto
  have e : l.map (fun t => (⟨plus c t.l⟩ : Tx)) = srtT (l.map fun t => (⟨plus c t.l⟩ : Tx)) := srtB_of linT (List.Perm.refl _) (by
    rw [List.pairwise_map]
    refine List.Pairwise.imp_of_mem (R := fun a b => leT a b = true) ?_ h.srt
    intro a b ha hb le
    have wa := ((h.mem a.l).mp ha).1
    have wb := ((h.mem b.l).mp hb).1
    unfold leT at le ⊢
    show (!ltT (b.l ++ [c]) (a.l ++ [c])) = true
    rw [ltT_plus (by rw [wa.1, wb.1])]
    exact le)
  rw [e]
  exact this
/-- a ring with one wire more -/
structure Wide (n : Nat) (ring ring' : List Lt) : Prop where
  rg : Rg n ring
  rg' : Rg (n + 1) ring'
  len : ring'.length = ring.length
  eq : ∀ p i, p < ring.length → i < n → (wat ring' p).getD i 0 = (wat ring p).getD i 0
theorem Wide.hld {n : Nat} {ring ring' : List Lt} (h : Wide n ring ring') (s k : Nat) {v : Lt} (hv : Wd (n + 1) v) (q : hld (hul ring' s k) v = true) : RG.hld (hul ring s k) (v.take n) = true := by
  obtain ⟨a1, a2⟩ := arcw_ok h.rg' s k
  obtain ⟨b1, b2⟩ := arcw_ok h.rg s k
  unfold hul at q ⊢
  have q := (hld_lhl a1 a2 hv).mp q
  have vl := hv.1
  refine (hld_lhl b1 b2 ⟨by rw [List.length_take]; omega, fun x hx => hv.2 x (List.mem_of_mem_take hx)⟩).mpr fun i hi => ?_
  obtain ⟨u, hu, e⟩ := q i (by omega)
  obtain ⟨p, hp, rfl⟩ := List.mem_map.mp hu
  rw [h.len] at hp
  refine ⟨wat ring p, List.mem_map.mpr ⟨p, hp, rfl⟩, ?_⟩
  rw [h.eq p i (mem_arc.mp hp).1 hi] at e
  rw [← e, List.getD_eq_getElem?_getD, List.getD_eq_getElem?_getD, List.getElem?_take_of_lt hi]
theorem Wide.bar {n : Nat} {ring ring' : List Lt} (h : Wide n ring ring') (w : Nat) {v : Lt} (hv : Wd (n + 1) v) (q : bar ring' w v) : RG.bar ring w (v.take n) := by
  refine ⟨?_, fun p hp => ?_⟩
  · obtain ⟨s, k, a, b, c⟩ := q.1
    exact ⟨s, k, by rw [← h.len]; exact a, b, h.hld s k hv c⟩
  · obtain ⟨s, k, a, b, c, d⟩ := q.2 p (by rw [h.len]; exact hp)
    exact ⟨s, k, by rw [← h.len]; exact a, b, h.hld s k hv c, by rw [← h.len]; exact d⟩
theorem Wide.nx {n : Nat} {ring ring' : List Lt} (h : Wide n ring ring') (s k : Nat) : nx (hul ring' s k) ≤ RG.nx (hul ring s k) + 1 := by
  obtain ⟨a1, a2⟩ := arcw_ok h.rg' s k
  obtain ⟨c1, c2⟩ := arcw_ok h.rg s k
  unfold hul
  rw [nx_lhl c1 c2, nx_lhl a1 a2, List.range_succ, List.filter_append, List.length_append]
  refine Nat.add_le_add (Nat.le_of_eq ?_) (Nat.le_trans (List.length_filter_le _ _) (Nat.le_refl 1))
  congr 1
  apply List.filter_congr
  intro i hi
  have hi := List.mem_range.mp hi
  have e : col (arcw ring' s k) i = col (arcw ring s k) i := by
    unfold col arcw
    rw [List.map_map, List.map_map, h.len]
    apply List.map_congr_left
    intro p hp
    exact h.eq p i (mem_arc.mp hp).1 hi
  rw [e]
theorem plus_nx {n c : Nat} {ring : List Lt} (hc : bit c) (h : Rg n ring) (hn : n + 1 ≤ 14) (s k : Nat) : nx (hul (ring.map (plus c)) s k) = RG.nx (hul ring s k) := by
  obtain ⟨a1, a2⟩ := arcw_ok ((plus_wm (n := n) hc).rg h hn) s k
  obtain ⟨c1, c2⟩ := arcw_ok h s k
  have ew : arcw (ring.map (plus c)) s k = (arcw ring s k).map (plus c) := by
    unfold arcw
    rw [List.length_map, List.map_map]
    apply List.map_congr_left
    intro p hp
    exact wat_map (mem_arc.mp hp).1
  unfold hul
  rw [nx_lhl c1 c2, nx_lhl a1 a2, List.range_succ, List.filter_append, List.length_append, ew]
  have e2 : ([n].filter fun k_1 => decide (48 ∈ col ((arcw ring s k).map (plus c)) k_1 ∧ 49 ∈ col ((arcw ring s k).map (plus c)) k_1)) = [] := by
    rw [List.filter_cons_of_neg]
    · rfl
    · intro z
      have z := of_decide_eq_true z
      have g : ∀ x, x ∈ col ((arcw ring s k).map (plus c)) n → x = c := fun x hx => by
        unfold col at hx
        rw [List.map_map] at hx
        obtain ⟨u, hu, rfl⟩ := List.mem_map.mp hx
        show (plus c u).getD n 0 = c
        rw [plus_getD (c2 u hu).1 (by omega), if_neg (by omega)]
      have g1 := g _ z.1
      have g2 := g _ z.2
      omega
  rw [e2, List.length_nil, Nat.add_zero]
  congr 1
  apply List.filter_congr
  intro i hi
  have hi := List.mem_range.mp hi
  have e : col ((arcw ring s k).map (plus c)) i = col (arcw ring s k) i := by
    unfold col
    rw [List.map_map]
    apply List.map_congr_left
    intro u hu
    show (plus c u).getD i 0 = u.getD i 0
    rw [plus_getD (c2 u hu).1 (by omega), if_pos hi]
  rw [e]
theorem few_n {n : Nat} {ring : List Lt} (h : Rg n ring) (hn : n ≤ 8) (w : Nat) : few ring w := fun s k _ _ => Nat.le_trans List.count_le_length (by rw [(hul_cb h s k).1]; exact hn)
end RG

set_option Elab.async false
set_option linter.all false
set_option maxRecDepth 100000
set_option maxHeartbeats 4000000
namespace K46
open PySem PySem.Spec PyProof.Rows L2 P3 RG RG
def topS (i : Nat) : Stmt := PySem.Challenge.pw_betweentwoclocks_k46_rings_in_another_dr.main.body.getD i (.Pass ⟨0, 0, 0, 0⟩)
abbrev N_hull : List Str := ["words", "cube", "word", "sign", "other"]
abbrev s_hull : Stmt := topS 6
theorem sc_hull : FnScope N_hull ["words"] (defScope s_hull) := ⟨rfl, rfl, rfl, by decide +kernel, rfl, by decide +kernel, by decide +kernel⟩
abbrev N_words_of : List Str := ["cube", "words", "sign", "bits", "word", "bit"]
abbrev s_words_of : Stmt := topS 7
theorem sc_words_of : FnScope N_words_of ["cube"] (defScope s_words_of) := ⟨rfl, rfl, rfl, by decide +kernel, rfl, by decide +kernel, by decide +kernel⟩
abbrev N_check_ring : List Str := ["ring", "at", "word"]
abbrev s_check_ring : Stmt := topS 10
theorem sc_check_ring : FnScope N_check_ring ["ring"] (defScope s_check_ring) := ⟨rfl, rfl, rfl, by decide +kernel, rfl, by decide +kernel, by decide +kernel⟩
abbrev N_run_places : List Str := ["ring", "start", "steps", "step"]
abbrev s_run_places : Stmt := topS 11
theorem sc_run_places : FnScope N_run_places ["ring", "start", "steps"] (defScope s_run_places) := ⟨rfl, rfl, rfl, by decide +kernel, rfl, by decide +kernel, by decide +kernel⟩
abbrev N_run_hull : List Str := ["ring", "start", "steps", "place"]
abbrev s_run_hull : Stmt := topS 12
theorem sc_run_hull : FnScope N_run_hull ["ring", "start", "steps"] (defScope s_run_hull) := ⟨rfl, rfl, rfl, by decide +kernel, rfl, by decide +kernel, by decide +kernel⟩
abbrev N_runs : List Str := ["ring", "window", "start", "steps"]
abbrev s_runs : Stmt := topS 13
theorem sc_runs : FnScope N_runs ["ring", "window"] (defScope s_runs) := ⟨rfl, rfl, rfl, by decide +kernel, rfl, by decide +kernel, by decide +kernel⟩
abbrev N_held_words : List Str := ["ring", "window", "found", "start", "steps", "word"]
abbrev s_held_words : Stmt := topS 14
theorem sc_held_words : FnScope N_held_words ["ring", "window"] (defScope s_held_words) := ⟨rfl, rfl, rfl, by decide +kernel, rfl, by decide +kernel, by decide +kernel⟩
abbrev N_first_bar : List Str := ["ring", "window", "shared", "start", "steps", "places", "word", "place"]
abbrev s_first_bar : Stmt := topS 16
theorem sc_first_bar : FnScope N_first_bar ["ring", "window"] (defScope s_first_bar) := ⟨rfl, rfl, rfl, by decide +kernel, rfl, by decide +kernel, by decide +kernel⟩
abbrev N_is_readable : List Str := ["ring", "window"]
abbrev s_is_readable : Stmt := topS 17
theorem sc_is_readable : FnScope N_is_readable ["ring", "window"] (defScope s_is_readable) := ⟨rfl, rfl, rfl, by decide +kernel, rfl, by decide +kernel, by decide +kernel⟩
abbrev N__law_cell : List Str := ["script", "k"]
abbrev s__law_cell : Stmt := topS 19
theorem sc__law_cell : FnScope N__law_cell ["script", "k"] (defScope s__law_cell) := ⟨rfl, rfl, rfl, by decide +kernel, rfl, by decide +kernel, by decide +kernel⟩
abbrev N__law_numbers : List Str := ["cell", "base", "count", "numbers", "rest", "mixed", "k"]
abbrev s__law_numbers : Stmt := topS 20
theorem sc__law_numbers : FnScope N__law_numbers ["cell", "base", "count"] (defScope s__law_numbers) := ⟨rfl, rfl, rfl, by decide +kernel, rfl, by decide +kernel, by decide +kernel⟩
abbrev N__law_word : List Str := ["number", "wires", "word", "rest", "k"]
abbrev s__law_word : Stmt := topS 21
theorem sc__law_word : FnScope N__law_word ["number", "wires"] (defScope s__law_word) := ⟨rfl, rfl, rfl, by decide +kernel, rfl, by decide +kernel, by decide +kernel⟩
abbrev N__law_turned : List Str := ["word", "wire", "at"]
abbrev s__law_turned : Stmt := topS 22
theorem sc__law_turned : FnScope N__law_turned ["word", "wire"] (defScope s__law_turned) := ⟨rfl, rfl, rfl, by decide +kernel, rfl, by decide +kernel, by decide +kernel⟩
abbrev N__law_stretch : List Str := ["size", "wires", "ring", "k"]
abbrev s__law_stretch : Stmt := topS 23
theorem sc__law_stretch : FnScope N__law_stretch ["size"] (defScope s__law_stretch) := ⟨rfl, rfl, rfl, by decide +kernel, rfl, by decide +kernel, by decide +kernel⟩
abbrev N__law_places : List Str := ["size", "start", "steps", "k"]
abbrev s__law_places : Stmt := topS 24
theorem sc__law_places : FnScope N__law_places ["size", "start", "steps"] (defScope s__law_places) := ⟨rfl, rfl, rfl, by decide +kernel, rfl, by decide +kernel, by decide +kernel⟩
abbrev N__law_cube : List Str := ["words", "cube", "k", "signs", "word"]
abbrev s__law_cube : Stmt := topS 25
theorem sc__law_cube : FnScope N__law_cube ["words"] (defScope s__law_cube) := ⟨rfl, rfl, rfl, by decide +kernel, rfl, by decide +kernel, by decide +kernel⟩
abbrev N__law_hull : List Str := ["ring", "start", "steps", "k"]
abbrev s__law_hull : Stmt := topS 26
theorem sc__law_hull : FnScope N__law_hull ["ring", "start", "steps"] (defScope s__law_hull) := ⟨rfl, rfl, rfl, by decide +kernel, rfl, by decide +kernel, by decide +kernel⟩
abbrev N__law_words : List Str := ["cube", "words", "sign", "word"]
abbrev s__law_words : Stmt := topS 27
theorem sc__law_words : FnScope N__law_words ["cube"] (defScope s__law_words) := ⟨rfl, rfl, rfl, by decide +kernel, rfl, by decide +kernel, by decide +kernel⟩
abbrev N__law_shared : List Str := ["ring", "window", "shared", "start", "steps", "places", "word", "k"]
abbrev s__law_shared : Stmt := topS 28
theorem sc__law_shared : FnScope N__law_shared ["ring", "window"] (defScope s__law_shared) := ⟨rfl, rfl, rfl, by decide +kernel, rfl, by decide +kernel, by decide +kernel⟩
def r__law_order (p_cell : Int) (p_count : Int) : M (Fl Unit Unit (List Int)) := (((.ok p_count : M Int) >>= fun x2 => rngM 0 x2) >>= fun left1 => ((.ok [] : M (List Int)) >>= fun order3 => (((.ok p_cell : M Int) >>= fun x7 => ((.ok 5040 : M Int) >>= fun x8 => ((.ok p_count : M Int) >>= fun x9 => m__law_numbers (x7, x8, x9, ())))) >>= fun l20 => sq (loopM (fun (s10 : (List Int) × (List Int)) (i11 : Int) => ((((.ok i11 : M Int) >>= fun x12 => .ok x12) >>= fun x14 => (((.ok s10.1 : M (List Int)) >>= fun x13 => .ok ((x13.length : Nat) : Int)) >>= fun x15 => modI x14 x15)) >>= fun x16 => popAtM s10.1 x16 >>= fun p19 => appM s10.2 p19.1 >>= fun order17 => (.ok (.nx (p19.2, order17))))) l20 (left1, order3)) (fun s21 : (List Int) × (List Int) => ((.ok s21.2 : M (List Int)) >>= fun r22 => .ok (.rt r22))))))
def m__law_order (a : Int × Int × Unit) : M (List Int) := fin (r__law_order a.1 a.2.1)
abbrev N__law_order : List Str := ["cell", "count", "left", "order", "number"]
abbrev s__law_order : Stmt := topS 29
theorem sc__law_order : FnScope N__law_order ["cell", "count"] (defScope s__law_order) := ⟨rfl, rfl, rfl, by decide +kernel, rfl, by decide +kernel, by decide +kernel⟩
def r__law_ring (p_cell : Int) (p_window : Int) (p_numbers : (List Int)) : M (Fl Unit Unit (List Tx)) := (((.ok p_cell : M Int) >>= fun x5 => ((.ok 4096 : M Int) >>= fun x6 => ((.ok 16 : M Int) >>= fun x7 => m__law_numbers (x5, x6, x7, ())))) >>= fun drawn1 => (((((.ok p_numbers : M (List Int)) >>= fun x9 => ((.ok 2 : M Int) >>= fun x10 => idxL x9 x10)) >>= fun x11 => .ok x11) >>= fun x12 => ((.ok 5 : M Int) >>= fun x13 => modI x12 x13)) >>= fun style8 => (((.ok 1 : M Int) >>= fun x20 => (((((.ok p_numbers : M (List Int)) >>= fun x15 => ((.ok 4 : M Int) >>= fun x16 => idxL x15 x16)) >>= fun x17 => .ok x17) >>= fun x18 => ((.ok 16 : M Int) >>= fun x19 => modI x18 x19)) >>= fun x21 => .ok (x20 + x21))) >>= fun size14 => (((.ok style8 : M Int) >>= fun x22 => ((.ok 0 : M Int) >>= fun x23 => .ok (decide (x22 = x23)))) >>= fun b74 => sq (if b74 = true then (((((.ok p_numbers : M (List Int)) >>= fun x50 => ((.ok 3 : M Int) >>= fun x51 => idxL x50 x51)) >>= fun x52 => .ok x52) >>= fun x53 => ((.ok 5 : M Int) >>= fun x54 => modI x53 x54)) >>= fun wires49 => ((((.ok drawn1 : M (List Int)) >>= fun x63 => ((.ok none : M (Option Int)) >>= fun x64 => ((((.ok 1 : M Int) >>= fun x60 => (((((.ok p_numbers : M (List Int)) >>= fun x55 => ((.ok 4 : M Int) >>= fun x56 => idxL x55 x56)) >>= fun x57 => .ok x57) >>= fun x58 => ((.ok 8 : M Int) >>= fun x59 => modI x58 x59)) >>= fun x61 => .ok (x60 + x61))) >>= fun x62 => .ok (some x62)) >>= fun x65 => .ok (cutA x63 x64 x65)))) >>= fun l72 => mapM' (fun (i67 : Int) => ((.ok i67 : M Int) >>= fun x70 => ((.ok wires49 : M Int) >>= fun x71 => m__law_word (x70, x71, ())))) l72) >>= fun r73 => .ok (.rt r73))) else (.ok (.nx ()))) (fun j75 : Unit => (((.ok style8 : M Int) >>= fun x76 => ((.ok 1 : M Int) >>= fun x77 => .ok (decide (x76 = x77)))) >>= fun b152 => sq (if b152 = true then (((((.ok drawn1 : M (List Int)) >>= fun x116 => ((.ok 0 : M Int) >>= fun x117 => idxL x116 x117)) >>= fun x127 => (((.ok 1 : M Int) >>= fun x123 => (((((.ok p_numbers : M (List Int)) >>= fun x118 => ((.ok 3 : M Int) >>= fun x119 => idxL x118 x119)) >>= fun x120 => .ok x120) >>= fun x121 => ((.ok 5 : M Int) >>= fun x122 => modI x121 x122)) >>= fun x124 => .ok (x123 + x124))) >>= fun x128 => m__law_word (x127, x128, ()))) >>= fun x129 => (.ok [] : M (List Tx)) >>= fun l130 => .ok (x129 :: l130)) >>= fun ring115 => (((.ok 1 : M Int) >>= fun x131 => ((.ok size14 : M Int) >>= fun x132 => rngM x131 x132)) >>= fun l149 => sq (loopM (fun (s133 : (List Tx)) (i134 : Int) => ((((.ok s133 : M (List Tx)) >>= fun x137 => (((.ok i134 : M Int) >>= fun x135 => ((.ok 1 : M Int) >>= fun x136 => .ok (x135 - x136))) >>= fun x138 => idxL x137 x138)) >>= fun x145 => ((((.ok drawn1 : M (List Int)) >>= fun x139 => ((.ok i134 : M Int) >>= fun x140 => idxL x139 x140)) >>= fun x141 => ((.ok 16 : M Int) >>= fun x142 => divI x141 x142)) >>= fun x146 => m__law_turned (x145, x146, ()))) >>= fun x147 => appM s133 x147 >>= fun ring148 => (.ok (.nx (ring148))))) l149 (ring115)) (fun s150 : (List Tx) => ((.ok s150 : M (List Tx)) >>= fun r151 => .ok (.rt r151))))) else (.ok (.nx ()))) (fun j153 : Unit => (((.ok style8 : M Int) >>= fun x154 => ((.ok 2 : M Int) >>= fun x155 => .ok (decide (x155 < x154)))) >>= fun b184 => sq (if b184 = true then (((.ok 16 : M Int) >>= fun x182 => (((((.ok 3 : M Int) >>= fun x171 => ((.ok p_window : M Int) >>= fun x172 => mulI x171 x172)) >>= fun x173 => ((.ok 1 : M Int) >>= fun x174 => .ok (x173 + x174))) >>= fun x180 => (((((.ok p_numbers : M (List Int)) >>= fun x175 => ((.ok 4 : M Int) >>= fun x176 => idxL x175 x176)) >>= fun x177 => .ok x177) >>= fun x178 => ((.ok 4 : M Int) >>= fun x179 => modI x178 x179)) >>= fun x181 => .ok (x180 + x181))) >>= fun x183 => .ok (min x182 x183))) >>= fun size170 => (.ok (.nx (size170)))) else (.ok (.nx (size14)))) (fun j185 : Int => (((.ok j185 : M Int) >>= fun x188 => m__law_stretch (x188, ())) >>= fun ring189 => (((.ok style8 : M Int) >>= fun x190 => ((.ok 2 : M Int) >>= fun x191 => .ok (decide (x190 = x191)))) >>= fun b230 => sq (if b230 = true then (((((.ok p_numbers : M (List Int)) >>= fun x212 => ((.ok 3 : M Int) >>= fun x213 => idxL x212 x213)) >>= fun x214 => .ok x214) >>= fun x215 => ((.ok j185 : M Int) >>= fun x216 => modI x215 x216)) >>= fun at211 => ((((.ok ring189 : M (List Tx)) >>= fun x217 => ((.ok at211 : M Int) >>= fun x218 => idxL x217 x218)) >>= fun x225 => ((((.ok drawn1 : M (List Int)) >>= fun x219 => ((.ok 0 : M Int) >>= fun x220 => idxL x219 x220)) >>= fun x221 => ((.ok 16 : M Int) >>= fun x222 => divI x221 x222)) >>= fun x226 => m__law_turned (x225, x226, ()))) >>= fun x227 => (.ok at211 : M Int) >>= fun x228 => setM ring189 x228 x227 >>= fun ring229 => (.ok (.nx (ring229))))) else (.ok (.nx (ring189)))) (fun j231 : (List Tx) => ((.ok j231 : M (List Tx)) >>= fun r232 => .ok (.rt r232))))))))))))))
def m__law_ring (a : Int × Int × (List Int) × Unit) : M (List Tx) := fin (r__law_ring a.1 a.2.1 a.2.2.1)
abbrev N__law_ring : List Str := ["cell", "window", "numbers", "drawn", "style", "size", "wires", "ring", "k", "at", "number"]
abbrev s__law_ring : Stmt := topS 30
theorem sc__law_ring : FnScope N__law_ring ["cell", "window", "numbers"] (defScope s__law_ring) := ⟨rfl, rfl, rfl, by decide +kernel, rfl, by decide +kernel, by decide +kernel⟩
def r__law_dress (p_word : Tx) (p_order : (List Int)) (p_mask : Tx) : M (Fl Unit Unit Tx) := (((.ok ⟨[]⟩ : M Tx) >>= fun x13 => (((.ok p_order : M (List Int)) >>= fun l12 => mapM' (fun (i2 : Int) => ((.ok ⟨[48, 49]⟩ : M Tx) >>= fun x10 => (((((.ok p_word : M Tx) >>= fun x3 => ((.ok i2 : M Int) >>= fun x4 => idxT x3 x4)) >>= fun x7 => (((.ok p_mask : M Tx) >>= fun x5 => ((.ok i2 : M Int) >>= fun x6 => idxT x5 x6)) >>= fun x8 => .ok (!decide (x7 = x8)))) >>= fun x9 => .ok (P3.b2i x9)) >>= fun x11 => idxT x10 x11))) l12) >>= fun x14 => joinT x13 x14)) >>= fun r15 => .ok (.rt r15))
def m__law_dress (a : Tx × (List Int) × Tx × Unit) : M Tx := fin (r__law_dress a.1 a.2.1 a.2.2.1)
abbrev N__law_dress : List Str := ["word", "order", "mask", "k"]
abbrev s__law_dress : Stmt := topS 31
theorem sc__law_dress : FnScope N__law_dress ["word", "order", "mask"] (defScope s__law_dress) := ⟨rfl, rfl, rfl, by decide +kernel, rfl, by decide +kernel, by decide +kernel⟩
def r__law_told_right (p_ring : (List Tx)) (p_window : Int) (p_held : (List Tx)) (p_bars : (List Tx)) : M (Fl Unit Unit Bool) := (((.ok p_ring : M (List Tx)) >>= fun x2 => .ok x2) >>= fun given1 => (((.ok given1 : M (List Tx)) >>= fun x6 => ((.ok p_window : M Int) >>= fun x7 => m_is_readable (x6, x7, ()))) >>= fun told3 => (((((.ok told3 : M Bool) >>= fun x8 => .ok (isTy (Ty.ty x8) "bool")) >>= fun x9 => .ok (!x9)) >>= fun x13 => if x13 = true then .ok true else ((.ok told3 : M Bool) >>= fun x11 => (((.ok p_bars : M (List Tx)) >>= fun x10 => .ok (!(Tru.tru x10))) >>= fun x12 => .ok (!decide (x11 = x12))))) >>= fun b16 => sq (if b16 = true then ((.ok false : M Bool) >>= fun r15 => .ok (.rt r15)) else (.ok (.nx ()))) (fun j17 : Unit => (((.ok given1 : M (List Tx)) >>= fun x21 => ((.ok p_window : M Int) >>= fun x22 => m_first_bar (x21, x22, ()))) >>= fun bar18 => (((.ok given1 : M (List Tx)) >>= fun x26 => ((.ok p_window : M Int) >>= fun x27 => m_held_words (x26, x27, ()))) >>= fun words23 => ((((.ok bar18 : M (Option Tx)) >>= fun x35 => (((((.ok p_bars : M (List Tx)) >>= fun x28 => (.ok (x28.map some) : M (List (Option Tx)))) >>= fun x31 => ((((.ok () : M Unit) >>= fun _ => (.ok none : M (Option Tx))) >>= fun x29 => (.ok [] : M (List (Option Tx))) >>= fun l30 => .ok (x29 :: l30)) >>= fun x32 => catL x31 x32)) >>= fun x33 => ((.ok 0 : M Int) >>= fun x34 => idxL x33 x34)) >>= fun x36 => .ok (decide (x35 = x36)))) >>= fun x44 => if x44 = true then (((.ok words23 : M (List Tx)) >>= fun x37 => .ok (isTy (Ty.ty x37) "list")) >>= fun x43 => if x43 = true then (((.ok words23 : M (List Tx)) >>= fun x38 => ((.ok p_held : M (List Tx)) >>= fun x39 => .ok (decide (x38 = x39)))) >>= fun x42 => if x42 = true then ((.ok given1 : M (List Tx)) >>= fun x40 => ((.ok p_ring : M (List Tx)) >>= fun x41 => .ok (decide (x40 = x41)))) else .ok false) else .ok false) else .ok false) >>= fun r45 => .ok (.rt r45))))))))
def m__law_told_right (a : (List Tx) × Int × (List Tx) × (List Tx) × Unit) : M Bool := fin (r__law_told_right a.1 a.2.1 a.2.2.1 a.2.2.2.1)
abbrev N__law_told_right : List Str := ["ring", "window", "held", "bars", "given", "told", "bar", "words"]
abbrev s__law_told_right : Stmt := topS 32
theorem sc__law_told_right : FnScope N__law_told_right ["ring", "window", "held", "bars"] (defScope s__law_told_right) := ⟨rfl, rfl, rfl, by decide +kernel, rfl, by decide +kernel, by decide +kernel⟩
def r__law_too_many (p_which : Int) (p_ring : (List Tx)) (p_window : Int) : M (Fl Unit Unit Bool) := (tryM (((.ok p_which : M Int) >>= fun x2 => ((.ok 0 : M Int) >>= fun x3 => .ok (decide (x2 = x3)))) >>= fun x19 => if x19 = true then (((.ok p_ring : M (List Tx)) >>= fun x6 => ((.ok p_window : M Int) >>= fun x7 => m_held_words (x6, x7, ()))) >>= fun _ => (.ok () : M Unit)) else (((.ok p_which : M Int) >>= fun x8 => ((.ok 1 : M Int) >>= fun x9 => .ok (decide (x8 = x9)))) >>= fun x18 => if x18 = true then (((.ok p_ring : M (List Tx)) >>= fun x12 => ((.ok p_window : M Int) >>= fun x13 => m_first_bar (x12, x13, ()))) >>= fun _ => (.ok () : M Unit)) else (((.ok p_ring : M (List Tx)) >>= fun x16 => ((.ok p_window : M Int) >>= fun x17 => m_is_readable (x16, x17, ()))) >>= fun _ => (.ok () : M Unit)))) [("TooMany", true), ("BadRing", true)] (fun y21 => sqE ((((tabM [("TooMany", true), ("BadRing", false)] y21.cls) >>= fun x36 => if x36 = true then ((tabM [("TooMany", true), ("BadRing", true)] y21.cls) >>= fun x35 => if x35 = true then (((fldM ["TooMany"] "word" y21 : M Tx) >>= fun x30 => ((.ok ⟨[119, 111, 114, 100, 115]⟩ : M Tx) >>= fun x31 => .ok (decide (x30 = x31)))) >>= fun x34 => if x34 = true then ((fldM ["TooMany"] "limit" y21 : M Int) >>= fun x32 => ((.ok 256 : M Int) >>= fun x33 => .ok (decide (x32 = x33)))) else .ok false) else .ok false) else .ok false) >>= fun r37 => .ok (.rt r37)) : M (Fl Unit Empty Bool)) (fun j38 : Unit => stk)) (fun r1 => sq (.ok (.nx ()) : M (Fl Unit Unit Bool)) (fun _ => ((.ok false : M Bool) >>= fun r20 => .ok (.rt r20)))))
def m__law_too_many (a : Int × (List Tx) × Int × Unit) : M Bool := fin (r__law_too_many a.1 a.2.1 a.2.2.1)
abbrev N__law_too_many : List Str := ["which", "ring", "window", "e"]
abbrev s__law_too_many : Stmt := topS 33
theorem sc__law_too_many : FnScope N__law_too_many ["which", "ring", "window"] (defScope s__law_too_many) := ⟨rfl, rfl, rfl, by decide +kernel, rfl, by decide +kernel, by decide +kernel⟩
def r__law_open_right (p_drawn : (List Int)) (p_wires : Int) (p_window : Int) : M (Fl Unit Unit Bool) := ((((.ok p_drawn : M (List Int)) >>= fun x2 => ((.ok 0 : M Int) >>= fun x3 => idxL x2 x3)) >>= fun x6 => ((.ok p_wires : M Int) >>= fun x7 => m__law_word (x6, x7, ()))) >>= fun first1 => ((.ok first1 : M Tx) >>= fun second8 => ((((((.ok p_drawn : M (List Int)) >>= fun x9 => ((.ok 1 : M Int) >>= fun x10 => idxL x9 x10)) >>= fun x13 => ((.ok p_wires : M Int) >>= fun x14 => m__law_order (x13, x14, ()))) >>= fun x16 => ((.ok none : M (Option Int)) >>= fun x17 => (((.ok 9 : M Int) >>= fun x15 => .ok (some x15)) >>= fun x18 => .ok (cutA x16 x17 x18)))) >>= fun x19 => .ok (enumL (Sq.items x19 : List Int))) >>= fun l53 => sq (loopM (fun (s20 : Tx × (Option (List Tx))) (i21 : (P2 Int Int)) => (((.ok s20.1 : M Tx) >>= fun x25 => ((.ok i21.b : M Int) >>= fun x26 => m__law_turned (x25, x26, ()))) >>= fun second22 => (((.ok first1 : M Tx) >>= fun x30 => ((.ok second22 : M Tx) >>= fun x28 => (.ok [] : M (List Tx)) >>= fun l29 => .ok (x28 :: l29)) >>= fun l31 => .ok (x30 :: l31)) >>= fun ring27 => ((((.ok i21.a : M Int) >>= fun x32 => ((.ok 7 : M Int) >>= fun x33 => .ok (decide (x32 = x33)))) >>= fun x48 => if x48 = true then (((.ok ring27 : M (List Tx)) >>= fun x43 => ((.ok p_window : M Int) >>= fun x44 => (((((.ok ring27 : M (List Tx)) >>= fun x35 => m__law_cube (x35, ())) >>= fun x37 => m__law_words (x37, ())) >>= fun x38 => .ok (srtT x38)) >>= fun x45 => ((.ok [] : M (List Tx)) >>= fun x46 => m__law_told_right (x43, x44, x45, x46, ()))))) >>= fun x47 => .ok (!x47)) else .ok false) >>= fun b51 => sq (if b51 = true then ((.ok false : M Bool) >>= fun r50 => .ok (.rt r50)) else (.ok (.nx ()))) (fun j52 : Unit => (.ok (.nx (second22, (some ring27))))))))) l53 (second8, (none : (Option (List Tx))))) (fun s54 : Tx × (Option (List Tx)) => (optM s54.2 >>= fun u55 => ((((.ok u55 : M (List Tx)) >>= fun x61 => ((.ok 0 : M Int) >>= fun x62 => (((.ok u55 : M (List Tx)) >>= fun x56 => .ok (srtT x56)) >>= fun x63 => ((.ok [] : M (List Tx)) >>= fun x64 => m__law_told_right (x61, x62, x63, x64, ()))))) >>= fun x65 => .ok (!x65)) >>= fun b68 => sq (if b68 = true then ((.ok false : M Bool) >>= fun r67 => .ok (.rt r67)) else (.ok (.nx ()))) (fun j69 : Unit => (((.ok 3 : M Int) >>= fun x70 => rngM 0 x70) >>= fun l85 => sq (loopM (fun (s71 : Unit) (i72 : Int) => ((((.ok i72 : M Int) >>= fun x77 => (((.ok u55 : M (List Tx)) >>= fun x73 => .ok x73) >>= fun x78 => ((.ok p_window : M Int) >>= fun x79 => m__law_too_many (x77, x78, x79, ())))) >>= fun x80 => .ok (!x80)) >>= fun b83 => sq (if b83 = true then ((.ok false : M Bool) >>= fun r82 => .ok (.rt r82)) else (.ok (.nx ()))) (fun j84 : Unit => (.ok (.nx ()))))) l85 ()) (fun s86 : Unit => ((.ok true : M Bool) >>= fun r87 => .ok (.rt r87)))))))))))
def m__law_open_right (a : (List Int) × Int × Int × Unit) : M Bool := fin (r__law_open_right a.1 a.2.1 a.2.2.1)
abbrev N__law_open_right : List Str := ["drawn", "wires", "window", "first", "second", "k", "at", "ring", "which"]
abbrev s__law_open_right : Stmt := topS 34
theorem sc__law_open_right : FnScope N__law_open_right ["drawn", "wires", "window"] (defScope s__law_open_right) := ⟨rfl, rfl, rfl, by decide +kernel, rfl, by decide +kernel, by decide +kernel⟩
def r_law (p_script : (List Int)) : M (Fl Unit Unit Bool) := ((((.ok p_script : M (List Int)) >>= fun x4 => ((.ok 0 : M Int) >>= fun x5 => m__law_cell (x4, x5, ()))) >>= fun x9 => ((.ok 5040 : M Int) >>= fun x10 => ((.ok 16 : M Int) >>= fun x11 => m__law_numbers (x9, x10, x11, ())))) >>= fun numbers1 => (((((.ok numbers1 : M (List Int)) >>= fun x13 => ((.ok 0 : M Int) >>= fun x14 => idxL x13 x14)) >>= fun x15 => .ok x15) >>= fun x16 => ((.ok 5 : M Int) >>= fun x17 => modI x16 x17)) >>= fun window12 => ((((.ok p_script : M (List Int)) >>= fun x21 => ((.ok 1 : M Int) >>= fun x22 => m__law_cell (x21, x22, ()))) >>= fun x26 => ((.ok window12 : M Int) >>= fun x27 => ((.ok numbers1 : M (List Int)) >>= fun x28 => m__law_ring (x26, x27, x28, ())))) >>= fun ring18 => (((.ok ring18 : M (List Tx)) >>= fun x32 => ((.ok window12 : M Int) >>= fun x33 => m__law_shared (x32, x33, ()))) >>= fun shared34 => (((.ok shared34 : M (Dc Tx (List Int))) >>= fun x36 => if x36.kvs.length ≤ sizeLine then .ok (srtT (keysD x36)) else stk) >>= fun held35 => (((.ok held35 : M (List Tx)) >>= fun l43 => compM (fun (i39 : Tx) => ((((.ok i39 : M Tx) >>= fun x40 => getM shared34 x40) >>= fun x41 => .ok (Tru.tru x41)) >>= fun x42 => .ok (!x42))) (fun (i39 : Tx) => (.ok i39 : M Tx)) l43) >>= fun bars37 => (((((.ok numbers1 : M (List Int)) >>= fun x45 => ((.ok 5 : M Int) >>= fun x46 => idxL x45 x46)) >>= fun x47 => .ok x47) >>= fun x49 => (((.ok ring18 : M (List Tx)) >>= fun x48 => .ok ((x48.length : Nat) : Int)) >>= fun x50 => modI x49 x50)) >>= fun at44 => ((((.ok ring18 : M (List Tx)) >>= fun x53 => (((.ok at44 : M Int) >>= fun x52 => .ok (some x52)) >>= fun x54 => ((.ok none : M (Option Int)) >>= fun x55 => .ok (cutA x53 x54 x55)))) >>= fun x60 => (((.ok ring18 : M (List Tx)) >>= fun x57 => ((.ok none : M (Option Int)) >>= fun x58 => (((.ok at44 : M Int) >>= fun x56 => .ok (some x56)) >>= fun x59 => .ok (cutA x57 x58 x59)))) >>= fun x61 => catL x60 x61)) >>= fun turned51 => ((((((.ok numbers1 : M (List Int)) >>= fun x62 => ((.ok 6 : M Int) >>= fun x63 => idxL x62 x63)) >>= fun x64 => .ok x64) >>= fun x65 => ((.ok 2 : M Int) >>= fun x66 => modI x65 x66)) >>= fun x67 => ((.ok 0 : M Int) >>= fun x68 => .ok (decide (x67 = x68)))) >>= fun b73 => sq (if b73 = true then (((.ok turned51 : M (List Tx)) >>= fun x72 => .ok x72.reverse) >>= fun turned71 => (.ok (.nx (turned71)))) else (.ok (.nx (turned51)))) (fun j74 : (List Tx) => ((((.ok j74 : M (List Tx)) >>= fun x79 => ((.ok window12 : M Int) >>= fun x80 => ((.ok held35 : M (List Tx)) >>= fun x81 => ((.ok bars37 : M (List Tx)) >>= fun x82 => m__law_told_right (x79, x80, x81, x82, ()))))) >>= fun x83 => .ok (!x83)) >>= fun b86 => sq (if b86 = true then ((.ok false : M Bool) >>= fun r85 => .ok (.rt r85)) else (.ok (.nx ()))) (fun j87 : Unit => ((((.ok p_script : M (List Int)) >>= fun x91 => ((.ok 2 : M Int) >>= fun x92 => m__law_cell (x91, x92, ()))) >>= fun x98 => ((((.ok ring18 : M (List Tx)) >>= fun x93 => ((.ok 0 : M Int) >>= fun x94 => idxL x93 x94)) >>= fun x95 => .ok ((x95.l.length : Nat) : Int)) >>= fun x99 => m__law_order (x98, x99, ()))) >>= fun order88 => ((((.ok numbers1 : M (List Int)) >>= fun x101 => ((.ok 7 : M Int) >>= fun x102 => idxL x101 x102)) >>= fun x108 => ((((.ok ring18 : M (List Tx)) >>= fun x103 => ((.ok 0 : M Int) >>= fun x104 => idxL x103 x104)) >>= fun x105 => .ok ((x105.l.length : Nat) : Int)) >>= fun x109 => m__law_word (x108, x109, ()))) >>= fun mask100 => (((.ok ring18 : M (List Tx)) >>= fun l119 => mapM' (fun (i112 : Tx) => ((.ok i112 : M Tx) >>= fun x116 => ((.ok order88 : M (List Int)) >>= fun x117 => ((.ok mask100 : M Tx) >>= fun x118 => m__law_dress (x116, x117, x118, ()))))) l119) >>= fun other110 => ((((.ok held35 : M (List Tx)) >>= fun l129 => mapM' (fun (i122 : Tx) => ((.ok i122 : M Tx) >>= fun x126 => ((.ok order88 : M (List Int)) >>= fun x127 => ((.ok mask100 : M Tx) >>= fun x128 => m__law_dress (x126, x127, x128, ()))))) l129) >>= fun x130 => .ok (srtT x130)) >>= fun due120 => ((((.ok other110 : M (List Tx)) >>= fun x145 => ((.ok window12 : M Int) >>= fun x146 => ((.ok due120 : M (List Tx)) >>= fun x147 => ((((.ok bars37 : M (List Tx)) >>= fun l139 => mapM' (fun (i132 : Tx) => ((.ok i132 : M Tx) >>= fun x136 => ((.ok order88 : M (List Int)) >>= fun x137 => ((.ok mask100 : M Tx) >>= fun x138 => m__law_dress (x136, x137, x138, ()))))) l139) >>= fun x140 => .ok (srtT x140)) >>= fun x148 => m__law_told_right (x145, x146, x147, x148, ()))))) >>= fun x149 => .ok (!x149)) >>= fun b152 => sq (if b152 = true then ((.ok false : M Bool) >>= fun r151 => .ok (.rt r151)) else (.ok (.nx ()))) (fun j153 : Unit => ((((((.ok numbers1 : M (List Int)) >>= fun x155 => ((.ok 10 : M Int) >>= fun x156 => idxL x155 x156)) >>= fun x157 => ((.ok 4096 : M Int) >>= fun x158 => mulI x157 x158)) >>= fun x161 => (((.ok numbers1 : M (List Int)) >>= fun x159 => ((.ok 11 : M Int) >>= fun x160 => idxL x159 x160)) >>= fun x162 => .ok (x161 + x162))) >>= fun x165 => ((.ok 24 : M Int) >>= fun x166 => m__law_word (x165, x166, ()))) >>= fun more154 => ((((((.ok numbers1 : M (List Int)) >>= fun x167 => ((.ok 12 : M Int) >>= fun x168 => idxL x167 x168)) >>= fun x169 => .ok x169) >>= fun x170 => ((.ok 2 : M Int) >>= fun x171 => modI x170 x171)) >>= fun x172 => ((.ok 0 : M Int) >>= fun x173 => .ok (decide (x172 = x173)))) >>= fun b366 => sq (if b366 = true then (((.ok more154 : M Tx) >>= fun x271 => ((.ok 0 : M Int) >>= fun x272 => idxT x271 x272)) >>= fun sign270 => (((.ok ring18 : M (List Tx)) >>= fun l278 => mapM' (fun (i275 : Tx) => ((.ok i275 : M Tx) >>= fun x276 => ((.ok sign270 : M Tx) >>= fun x277 => catT x276 x277))) l278) >>= fun wider273 => ((((.ok wider273 : M (List Tx)) >>= fun x293 => ((.ok window12 : M Int) >>= fun x294 => (((.ok held35 : M (List Tx)) >>= fun l283 => mapM' (fun (i280 : Tx) => ((.ok i280 : M Tx) >>= fun x281 => ((.ok sign270 : M Tx) >>= fun x282 => catT x281 x282))) l283) >>= fun x295 => (((.ok bars37 : M (List Tx)) >>= fun l288 => mapM' (fun (i285 : Tx) => ((.ok i285 : M Tx) >>= fun x286 => ((.ok sign270 : M Tx) >>= fun x287 => catT x286 x287))) l288) >>= fun x296 => m__law_told_right (x293, x294, x295, x296, ()))))) >>= fun x297 => .ok (!x297)) >>= fun b300 => sq (if b300 = true then ((.ok false : M Bool) >>= fun r299 => .ok (.rt r299)) else (.ok (.nx ()))) (fun j301 : Unit => (.ok (.nx ())))))) else ((((.ok bars37 : M (List Tx)) >>= fun x302 => .ok (Tru.tru x302)) >>= fun x303 => .ok (!x303)) >>= fun b364 => sq (if b364 = true then ((((.ok ring18 : M (List Tx)) >>= fun x335 => .ok (enumL (Sq.items x335 : List Tx))) >>= fun l342 => mapM' (fun (i337 : (P2 Int Tx)) => ((.ok i337.b : M Tx) >>= fun x340 => (((.ok more154 : M Tx) >>= fun x338 => ((.ok i337.a : M Int) >>= fun x339 => idxT x338 x339)) >>= fun x341 => catT x340 x341))) l342) >>= fun wider334 => ((((.ok wider334 : M (List Tx)) >>= fun x344 => .ok x344) >>= fun x347 => ((.ok window12 : M Int) >>= fun x348 => m_is_readable (x347, x348, ()))) >>= fun told343 => (((((.ok told343 : M Bool) >>= fun x349 => .ok (isTy (Ty.ty x349) "bool")) >>= fun x350 => .ok (!x350)) >>= fun x359 => if x359 = true then .ok true else (((.ok told343 : M Bool) >>= fun x351 => .ok (!x351)) >>= fun x358 => if x358 = true then .ok true else ((((.ok wider334 : M (List Tx)) >>= fun x352 => .ok x352) >>= fun x355 => ((.ok window12 : M Int) >>= fun x356 => m_first_bar (x355, x356, ()))) >>= fun x357 => .ok x357.isSome))) >>= fun b362 => sq (if b362 = true then ((.ok false : M Bool) >>= fun r361 => .ok (.rt r361)) else (.ok (.nx ()))) (fun j363 : Unit => (.ok (.nx ())))))) else (.ok (.nx ()))) (fun j365 : Unit => (.ok (.nx ()))))) (fun j367 : Unit => (((((.ok numbers1 : M (List Int)) >>= fun x369 => ((.ok 13 : M Int) >>= fun x370 => idxL x369 x370)) >>= fun x371 => .ok x371) >>= fun x374 => (((.ok window12 : M Int) >>= fun x372 => ((.ok 1 : M Int) >>= fun x373 => .ok (x372 + x373))) >>= fun x375 => modI x374 x375)) >>= fun smaller368 => (((.ok ring18 : M (List Tx)) >>= fun x379 => ((.ok smaller368 : M Int) >>= fun x380 => m__law_shared (x379, x380, ()))) >>= fun near381 => ((((.ok near381 : M (Dc Tx (List Int))) >>= fun x383 => if x383.kvs.length ≤ sizeLine then .ok (srtT (keysD x383)) else stk) >>= fun l389 => compM (fun (i385 : Tx) => ((((.ok i385 : M Tx) >>= fun x386 => getM near381 x386) >>= fun x387 => .ok (Tru.tru x387)) >>= fun x388 => .ok (!x388))) (fun (i385 : Tx) => (.ok i385 : M Tx)) l389) >>= fun due382 => (((((.ok due382 : M (List Tx)) >>= fun x390 => .ok (Tru.tru x390)) >>= fun x393 => if x393 = true then (((.ok bars37 : M (List Tx)) >>= fun x391 => .ok (Tru.tru x391)) >>= fun x392 => .ok (!x392)) else .ok false) >>= fun x404 => if x404 = true then .ok true else (((.ok ring18 : M (List Tx)) >>= fun x399 => ((.ok smaller368 : M Int) >>= fun x400 => (((.ok near381 : M (Dc Tx (List Int))) >>= fun x394 => if x394.kvs.length ≤ sizeLine then .ok (srtT (keysD x394)) else stk) >>= fun x401 => ((.ok due382 : M (List Tx)) >>= fun x402 => m__law_told_right (x399, x400, x401, x402, ()))))) >>= fun x403 => .ok (!x403))) >>= fun b407 => sq (if b407 = true then ((.ok false : M Bool) >>= fun r406 => .ok (.rt r406)) else (.ok (.nx ()))) (fun j408 : Unit => (((((.ok p_script : M (List Int)) >>= fun x411 => ((.ok 3 : M Int) >>= fun x412 => m__law_cell (x411, x412, ()))) >>= fun x416 => ((.ok 4096 : M Int) >>= fun x417 => ((.ok 2 : M Int) >>= fun x418 => m__law_numbers (x416, x417, x418, ())))) >>= fun x436 => (((.ok 9 : M Int) >>= fun x424 => (((((.ok numbers1 : M (List Int)) >>= fun x419 => ((.ok 8 : M Int) >>= fun x420 => idxL x419 x420)) >>= fun x421 => .ok x421) >>= fun x422 => ((.ok 4 : M Int) >>= fun x423 => modI x422 x423)) >>= fun x425 => .ok (x424 + x425))) >>= fun x437 => (((.ok 1 : M Int) >>= fun x431 => (((((.ok numbers1 : M (List Int)) >>= fun x426 => ((.ok 9 : M Int) >>= fun x427 => idxL x426 x427)) >>= fun x428 => .ok x428) >>= fun x429 => ((.ok 2 : M Int) >>= fun x430 => modI x429 x430)) >>= fun x432 => .ok (x431 + x432))) >>= fun x438 => m__law_open_right (x436, x437, x438, ())))) >>= fun r439 => .ok (.rt r439))))))))))))))))))))))))))))
def m_law (a : (List Int) × Unit) : M Bool := fin (r_law a.1)
abbrev N_law : List Str := ["script", "numbers", "window", "ring", "shared", "held", "bars", "at", "turned", "order", "mask", "other", "due", "more", "sign", "wider", "told", "smaller", "near", "word", "k"]
abbrev s_law : Stmt := topS 35
theorem sc_law : FnScope N_law ["script"] (defScope s_law) := ⟨rfl, rfl, rfl, by decide +kernel, rfl, by decide +kernel, by decide +kernel⟩
end K46

set_option linter.all false
set_option maxRecDepth 100000
set_option maxHeartbeats 2000000
namespace K46
open P3 L2 RG

theorem popAt_ok {l : List Nat} {k : Nat} (hk : k < l.length) (h2 : k < 1000000) : popAtM (zz l) (k : Int) = .ok ((l[k] : Int), zz (l.eraseIdx k)) := by
  unfold popAtM
  rw [if_pos ⟨by omega, by omega⟩]
  have zl : (zz l).length = l.length := List.length_map _
  have e : PySem.seqIndex? (k : Int) (zz l).length = some k := by
    unfold PySem.seqIndex?
    rw [zl]
    simp
    omega
  rw [e]
  have e2 : (zz l)[k]? = some ((l[k] : Nat) : Int) := by
    unfold zz
    rw [List.getElem?_map, List.getElem?_eq_getElem hk]
    rfl
  dsimp only
  rw [e2]
  dsimp only
  have e3 : (zz l).eraseIdx k = zz (l.eraseIdx k) := by
    unfold zz
    rw [List.eraseIdx_eq_take_drop_succ, List.eraseIdx_eq_take_drop_succ, List.map_append, List.map_take, List.map_drop]
  rw [e3]
theorem erase_perm {l : List Nat} {k : Nat} (hk : k < l.length) : (l[k] :: l.eraseIdx k).Perm l := by
  rw [List.eraseIdx_eq_take_drop_succ]
  have e : l.take k ++ l[k] :: l.drop (k + 1) = l := by
    rw [← List.drop_eq_getElem_cons hk, List.take_append_drop]
  have := (List.perm_middle (a := l[k]) (l₁ := l.take k) (l₂ := l.drop (k + 1))).symm
  rw [e] at this
  exact this
theorem q_order (cell : Int) {n : Nat} (hn : n ≤ 1000) : okP (m__law_order (cell, (n : Int), ())) fun r => ∃ o : List Nat, r = zz o ∧ o.Perm (List.range n) := by
  unfold m__law_order r__law_order
  simp only [ok_b]
  rw [rng_k (show n ≤ 16384 by omega)]
  simp only [ok_b]
  refine okP_fin (okP_b (q_numbers cell (b := 5040) (c := n) (by decide) (by decide) hn) fun d hd => ?_)
  have dl := hd.1
  refine okP_loop (fun j (s : List Int × List Int) => ∃ l o : List Nat, s = (zz l, zz o) ∧ (o ++ l).Perm (List.range n) ∧ o.length = j) ⟨List.range n, [], rfl, List.Perm.refl _, rfl⟩ ?_ ?_
  · rintro i _ hi ⟨l, o, rfl, pm, ol⟩
    have pl := pm.length_eq
    rw [List.length_append, List.length_range, ol] at pl
    have hi : i < n := by omega
    have zl : (zz l).length = l.length := List.length_map _
    obtain ⟨k, ek, lk⟩ := md (d[i]'(by omega)) (k := l.length) (by omega)
    have mk : modI (d[i]'(by omega)) (l.length : Int) = .ok (k : Int) := by rw [modI_ok (by omega), ek]
    simp only [zl, mk, ok_b]
    rw [popAt_ok lk (by omega)]
    simp only [ok_b]
    have zo : (zz o).length = o.length := List.length_map _
    rw [appM_ok (by omega)]
    refine ⟨_, rfl, _, rfl, l.eraseIdx k, o ++ [l[k]], ?_, ?_, by rw [List.length_append, ol]; rfl⟩
    · simp only [zz, List.map_append]
      rfl
    · rw [List.append_assoc]
      exact ((erase_perm lk).append_left o).trans pm
  · rintro _ ⟨l, o, rfl, pm, ol⟩
    have pl := pm.length_eq
    rw [List.length_append, List.length_range, ol] at pl
    have : l = [] := List.length_eq_zero_iff.mp (by omega)
    subst this
    rw [List.append_nil] at pm
    exact ⟨_, rfl, _, rfl, o, rfl, pm⟩
theorem q_dress {n : Nat} {o : List Nat} (ho : o.Perm (List.range n)) {m v : Lt} (hm : Wd n m) (hv : Wd n v) (hn : n ≤ 1000) : m__law_dress (⟨v⟩, zz o, ⟨m⟩, ()) = .ok ⟨drs o m v⟩ := by
  unfold m__law_dress r__law_dress
  have g2 : ∀ (b : Bool), idxT ⟨[48, 49]⟩ (P3.b2i b) = .ok ⟨[if b = true then 49 else 48]⟩ := fun b => by cases b <;> rfl
  simp only [ok_b]
  rw [map_ok (fun x : Int => (⟨[tog (m.getD x.toNat 0) (v.getD x.toNat 0)]⟩ : Tx)) _ ?_]
  · have e : (zz o).map (fun x : Int => (⟨[tog (m.getD x.toNat 0) (v.getD x.toNat 0)]⟩ : Tx)) = (drs o m v).map fun c => ⟨[c]⟩ := by
      unfold drs zz
      rw [List.map_map, List.map_map]
      rfl
    have ol := perm_n ho
    rw [ok_b, e, joinT_ok (by unfold drs; rw [List.length_map]; omega)]
    rfl
  · intro x hx
    obtain ⟨k, hk, rfl⟩ := mem_ints.mp hx
    have lk := List.mem_range.mp (ho.mem_iff.mp hk)
    have h1 := hm.1
    have h2 := hv.1
    simp only [idxT_nat (show k < v.length by omega), idxT_nat (show k < m.length by omega), ok_b, dec_one, g2, Int.toNat_natCast, gd (show k < v.length by omega), gd (show k < m.length by omega)]
    unfold tog
    by_cases e : v[k]'(by omega) = m[k]'(by omega)
    · rw [decide_eq_true e, if_pos e]; rfl
    · rw [decide_eq_false e, if_neg e]; rfl
theorem q_told {n : Nat} {ring : List Lt} (h : Rg n ring) {w : Nat} (hw : w ≤ 60) (hf : few ring w) {hs bs : List Tx} (h1 : Lst n (held ring w) hs) (h2 : Lst n (bar ring w) bs) (bl : bs.length ≤ 1000000) : m__law_told_right (tx ring, (w : Int), hs, bs, ()) = .ok true := by
  unfold m__law_told_right r__law_told_right
  obtain ⟨b, eb, hb⟩ := q_readable h hw hf
  obtain ⟨o, eo, fb⟩ := q_first_bar h hw hf
  obtain ⟨l, el, hl⟩ := q_held_words h hw hf
  have e1 := hl.one h1
  subst e1
  obtain ⟨f1, f2⟩ := fb_lst fb h2
  have bt : b = !(Tru.tru bs) := by
    have t0 : Tru.tru bs = !bs.isEmpty := rfl
    rw [t0, Bool.not_not, Bool.eq_iff_iff, hb, List.isEmpty_iff, h2.nil_iff]
    exact ⟨fun q v hv z => q v hv (shr_bar.mpr z), fun q v hv z => q v hv (shr_bar.mp z)⟩
  subst bt
  have i1 : ∀ x : Bool, isTy (Ty.ty x) "bool" = true := fun x => rfl
  have i2 : ∀ x : List Tx, isTy (Ty.ty x) "list" = true := fun x => rfl
  have ic : catL (bs.map some) [none] = .ok (bs.map some ++ [none]) := cat_ok (by rw [List.length_map, List.length_singleton]; omega)
  have ix : idxL (bs.map some ++ [(none : Option Tx)]) 0 = .ok o := by
    rw [f1]
    cases bs with
    | nil => exact idx0 _ _
    | cons a r => exact idx0 _ _
  simp only [ok_b, eb, eo, el, i1, i2, ic, ix, Bool.not_true, Bool.false_eq_true, if_false, decide_true, sq_nx, if_true]
  rfl
theorem put_words : ∀ (ws : List Lt) (d : Dc Tx Bool), d.kvs.length + ws.length < 16777216 → ∃ d' : Dc Tx Bool, d'.kvs.length ≤ d.kvs.length + ws.length ∧ (loopM (fun (s16 : (Dc Tx Bool)) (i17 : Tx) => putM s16 i17 true >>= fun found20 => (.ok (.nx found20) : M (Fl (Dc Tx Bool) (Dc Tx Bool) (List Tx)))) (ws.map Tx.mk) d : M (Fl (Dc Tx Bool) (Dc Tx Bool) (List Tx))) = .ok (.nx d')
  | [], d, _ => ⟨d, Nat.le_refl _, rfl⟩
  | u :: ws, d, hl => by
    rw [List.length_cons] at hl
    have pl := putL_len (kvs := d.kvs) (k := (⟨u⟩ : Tx)) (x := true)
    obtain ⟨d', b, c⟩ := put_words ws ⟨putL d.kvs ⟨u⟩ true⟩ (by show (putL d.kvs _ _).length + _ < _; omega)
    refine ⟨d', by rw [List.length_cons]; have b : d'.kvs.length ≤ (putL d.kvs _ _).length + ws.length := b; omega, ?_⟩
    rw [List.map_cons]
    unfold loopM
    rw [putM_ok (by omega)]
    exact c
theorem q_held_many {n : Nat} {ring : List Lt} (h : Rg n ring) {w : Nat} (hw : w ≤ 60) {s k : Nat} (hs : s < ring.length) (hk : k ≤ w) (hx : 8 < nx (hul ring s k)) : m_held_words (tx ring, (w : Int), ()) = .error tooM := by
  unfold m_held_words r_held_words
  have hL := h.2.2.2
  have hb : ring.length * (w + 1) ≤ 61000 := Nat.le_trans (Nat.mul_le_mul hL (show w + 1 ≤ 61 by omega)) (by decide)
  simp only [ok_b, q_runs h w hw]
  have L : ∀ (rs : List (Nat × Nat)) (d : Dc Tx Bool), (∀ r ∈ rs, r.1 < ring.length ∧ r.2 ≤ w) → d.kvs.length + 256 * rs.length < 16777216 → (∃ r ∈ rs, 8 < nx (hul ring r.1 r.2)) →
      (loopM (fun (s6 : (Dc Tx Bool)) (i7 : (P2 Int Int)) => ((m_run_hull (tx ring, i7.a, i7.b, ())) >>= fun x15 => m_words_of (x15, ())) >>= fun l21 => sq (loopM (fun (s16 : (Dc Tx Bool)) (i17 : Tx) => putM s16 i17 true >>= fun found20 => (.ok (.nx found20) : M (Fl (Dc Tx Bool) (Dc Tx Bool) (List Tx)))) l21 s6) (fun (s22 : (Dc Tx Bool)) => (.ok (.nx s22) : M (Fl (Dc Tx Bool) (Dc Tx Bool) (List Tx))))) (prs rs) d : M (Fl (Dc Tx Bool) Unit (List Tx))) = .error tooM := by
    intro rs
    induction rs with
    | nil => rintro d _ _ ⟨r, hr, _⟩; cases hr
    | cons r rs ih =>
      intro d hr hl hx
      obtain ⟨r1, r2⟩ := hr r List.mem_cons_self
      have hcb := hul_cb h r.1 r.2
      have hw2 := q_words_of hcb h.2.2.1
      show loopM _ (⟨(r.1 : Int), (r.2 : Int)⟩ :: prs rs) d = _
      unfold loopM
      rw [List.length_cons] at hl
      simp only [q_run_hull h r.1 r.2 (by omega), ok_b, hw2]
      by_cases c : nx (hul ring r.1 r.2) ≤ 8
      · rw [if_pos c]
        simp only [ok_b]
        have wl := wds256 c
        obtain ⟨d1, b1, c1⟩ := put_words (wds (hul ring r.1 r.2)) d (by omega)
        rw [c1]
        simp only [sq_nx]
        refine ih _ (fun z hz => hr z (List.mem_cons_of_mem _ hz)) (by omega) ?_
        obtain ⟨q, hq, hx⟩ := hx
        rcases List.mem_cons.mp hq with e | e
        · rw [e] at hx; omega
        · exact ⟨q, e, hx⟩
      · rw [if_neg c]
        rfl
  rw [L (runsL ring.length w) ⟨[]⟩ (fun r hr => mem_runsL.mp hr) (by rw [runsL_len]; show 0 + _ < _; omega) ⟨(s, k), mem_runsL.mpr ⟨hs, hk⟩, hx⟩]
  rfl
theorem q_too_many {n : Nat} {ring : List Lt} (h : Rg n ring) {w : Nat} (hw : w ≤ 60) {s k : Nat} (hs : s < ring.length) (hk : k ≤ w) (hx : 8 < nx (hul ring s k)) (x : Int) : m__law_too_many (x, tx ring, (w : Int), ()) = .ok true := by
  unfold m__law_too_many r__law_too_many m_is_readable r_is_readable
  have e := q_bar_many h hw hs hk hx
  have e2 := q_held_many h hw hs hk hx
  simp only [ok_b, e, e2, er_b, fin_er, ite_self]
  unfold tooM tryM
  have t1 : ([("TooMany", true), ("BadRing", true)] : Tab).lookup ("TooMany" : PySem.Str) = some true := by decide +kernel
  have t2 : tabM [("TooMany", true), ("BadRing", false)] ("TooMany" : PySem.Str) = .ok true := tab_ok (by decide +kernel)
  have t3 : tabM [("TooMany", true), ("BadRing", true)] ("TooMany" : PySem.Str) = .ok true := tab_ok t1
  have f1 : (fldM ["TooMany"] "word" ⟨"TooMany", ((["word", "limit"] : List PySem.Str).zip (Fargs.vals (((⟨[119, 111, 114, 100, 115]⟩ : Tx), (256 : Int), ()) : Tx × Int × Unit))).reverse⟩ : M Tx) = .ok ⟨[119, 111, 114, 100, 115]⟩ := by rfl
  have f2 : (fldM ["TooMany"] "limit" ⟨"TooMany", ((["word", "limit"] : List PySem.Str).zip (Fargs.vals (((⟨[119, 111, 114, 100, 115]⟩ : Tx), (256 : Int), ()) : Tx × Int × Unit))).reverse⟩ : M Int) = .ok 256 := by rfl
  dsimp only
  rw [t1]
  simp only [t2, t3, f1, f2, ok_b, if_true, decide_true]
  rfl
end K46

set_option linter.all false
set_option maxRecDepth 100000
set_option maxHeartbeats 2000000
namespace K46
open P3 L2 RG
/-- rings of the law: few wires, and few of them open -/
structure RK (n : Nat) (ring : List Lt) (w : Nat) : Prop where
  rg : Rg n ring
  n8 : n ≤ 8
  len : ring.length ≤ 16
  fw : ∀ s k, s < ring.length → k ≤ w → nx (hul ring s k) ≤ 7
theorem str_chk6 : (List.range 17).all (fun L => (List.range L).all fun s => decide (nx (hul (str L) s 4) ≤ 6)) = true := by decide +kernel
theorem str6 {L w : Nat} (h0 : 0 < L) (hL : L ≤ 16) (hw : w ≤ 4) {s k : Nat} (hs : s < L) (hk : k ≤ w) : nx (hul (str L) s k) ≤ 6 := by
  have rg := str_rg (s := L) h0 (by omega)
  have sl := str_len L
  have b := of_decide_eq_true (List.all_eq_true.mp (List.all_eq_true.mp str_chk6 L (List.mem_range.mpr (by omega))) s (List.mem_range.mpr hs))
  exact Nat.le_trans (nx_mono rg (by rw [sl]; exact hs) (show k ≤ 4 by omega)) b
theorem turn_at {n : Nat} {l : Lt} (h : Wd n l) (x : Int) : ∃ j, ∀ i, i < n → i ≠ j → (turn l x).getD i 0 = l.getD i 0 := by
  unfold turn
  by_cases e : l = []
  · exact ⟨0, fun i _ _ => by rw [if_pos e]⟩
  · have hl := h.1
    have pos : 0 < l.length := List.length_pos_iff.mpr e
    obtain ⟨j, ej, lj⟩ := md x (k := l.length) pos
    refine ⟨j, fun i hi ne => ?_⟩
    rw [if_neg e, ej, Int.toNat_natCast, List.getD_eq_getElem?_getD, List.getD_eq_getElem?_getD, List.append_assoc]
    congr 1
    by_cases c : i < j
    · rw [List.getElem?_append_left (by rw [List.length_take]; omega), List.getElem?_take_of_lt c]
    · rw [List.getElem?_append_right (by rw [List.length_take]; omega), List.length_take, List.getElem?_append_right (by rw [List.length_singleton]; omega), List.length_singleton, List.getElem?_drop]
      congr 1
      omega
theorem filter_but {P Q : Nat → Bool} {j : Nat} : ∀ n : Nat, (∀ i, i < n → i ≠ j → P i = Q i) → ((List.range n).filter P).length ≤ ((List.range n).filter Q).length + 1
  | 0, _ => by simp
  | n + 1, h => by
    rw [List.range_succ, List.filter_append, List.filter_append, List.length_append, List.length_append]
    by_cases c : n = j
    · have e : (List.range n).filter P = (List.range n).filter Q := List.filter_congr fun i hi => by
        have := List.mem_range.mp hi
        exact h i (by omega) (by omega)
      rw [e]
      have := List.length_filter_le P [n]
      rw [List.length_singleton] at this
      omega
    · have ih := filter_but (P := P) (Q := Q) (j := j) n fun i hi ne => h i (by omega) ne
      have e : [n].filter P = [n].filter Q := List.filter_congr fun i hi => by
        rw [List.mem_singleton.mp hi]
        exact h n (by omega) c
      rw [e]
      omega
theorem turn_nx {n : Nat} {ring : List Lt} (h : Rg n ring) {a : Nat} (ha : a < ring.length) (x : Int) (s k : Nat) : nx (hul (ring.set a (turn (wat ring a) x)) s k) ≤ nx (hul ring s k) + 1 := by
  have wa := h.2.1 _ (wat_mem ha)
  have hn := h.2.2.1
  obtain ⟨q1, q2⟩ := q_turned wa (by omega) x
  have h2 := rg_set h (i := a) q2
  obtain ⟨j, hj⟩ := turn_at wa x
  obtain ⟨a1, a2⟩ := arcw_ok h2 s k
  obtain ⟨c1, c2⟩ := arcw_ok h s k
  unfold hul
  rw [nx_lhl a1 a2, nx_lhl c1 c2]
  refine filter_but (j := j) n fun i hi ne => ?_
  have e : col (arcw (ring.set a (turn (wat ring a) x)) s k) i = col (arcw ring s k) i := by
    unfold col arcw
    rw [List.length_set, List.map_map, List.map_map]
    apply List.map_congr_left
    intro p hp
    have lp := (mem_arc.mp hp).1
    show (wat (ring.set a (turn (wat ring a) x)) p).getD i 0 = (wat ring p).getD i 0
    rw [wat_set lp]
    by_cases e : a = p
    · rw [if_pos e, ← e]
      exact hj i hi ne
    · rw [if_neg e]
  rw [e]
theorem q_kring (cell : Int) {w : Nat} (hw : w ≤ 4) {l : List Int} (h : Nm 5040 16 l) : okP (m__law_ring (cell, (w : Int), l, ())) fun r => ∃ n ring, r = tx ring ∧ RK n ring w := by
  unfold m__law_ring r__law_ring
  have a2 : idxL l 2 = .ok (l.getD 2 0) := (at_ok h (i := 2) (by decide)).1
  have a3 : idxL l 3 = .ok (l.getD 3 0) := (at_ok h (i := 3) (by decide)).1
  have a4 : idxL l 4 = .ok (l.getD 4 0) := (at_ok h (i := 4) (by decide)).1
  simp only [ok_b]
  refine okP_fin (okP_b (q_numbers cell (b := 4096) (c := 16) (by decide) (by decide) (by decide)) fun d hd => ?_)
  have dl := hd.1
  have d0 : idxL d 0 = .ok (d.getD 0 0) := (at_ok hd (i := 0) (by decide)).1
  have o5 : ∀ x, modI x 5 = .ok (x % 5) := fun x => modI_ok (by decide)
  have o16 : ∀ x, modI x 16 = .ok (x % 16) := fun x => modI_ok (by decide)
  have o8 : ∀ x, modI x 8 = .ok (x % 8) := fun x => modI_ok (by decide)
  have o4 : ∀ x, modI x 4 = .ok (x % 4) := fun x => modI_ok (by decide)
  have v16 : ∀ x, divI x 16 = .ok (x / 16) := fun x => divI_ok (by decide) (by decide)
  have m1 : mulI 3 (w : Int) = .ok (3 * (w : Int)) := mulI_ok ⟨by omega, by omega⟩
  have tk : ∀ (k : Nat) (m : List Int), cutA m none (some (k : Int)) = m.take k := fun k m => cutA_to m k
  obtain ⟨n3, e3, l3⟩ := md (l.getD 3 0) (k := 5) (by decide)
  have e3 : l.getD 3 0 % 5 = (n3 : Int) := e3
  obtain ⟨n8, e8, l8⟩ := md (l.getD 4 0) (k := 8) (by decide)
  have e8 : l.getD 4 0 % 8 = (n8 : Int) := e8
  obtain ⟨n16, e16, l16⟩ := md (l.getD 4 0) (k := 16) (by decide)
  have e16 : l.getD 4 0 % 16 = (n16 : Int) := e16
  obtain ⟨n4, e4, l4⟩ := md (l.getD 4 0) (k := 4) (by decide)
  have e4 : l.getD 4 0 % 4 = (n4 : Int) := e4
  have z8 : 1 + (n8 : Int) = ((n8 + 1 : Nat) : Int) := by omega
  have z16 : 1 + (n16 : Int) = ((n16 + 1 : Nat) : Int) := by omega
  have z3 : 1 + (n3 : Int) = ((n3 + 1 : Nat) : Int) := by omega
  have few7 : ∀ {n : Nat} {ring : List Lt}, Rg n ring → n ≤ 7 → ∀ s k, s < ring.length → k ≤ w → nx (hul ring s k) ≤ 7 := fun {n ring} hr hn s k _ _ => Nat.le_trans List.count_le_length (by rw [(hul_cb hr s k).1]; exact hn)
  simp only [ok_b, a2, a3, a4, d0, o5, o16, o8, o4, v16, m1, e3, e8, e16, e4, z8, z16, z3, tk, words_ok (show n3 ≤ 1000 by omega), q_word _ (n3 + 1) (show n3 + 1 ≤ 1000 by omega)]
  refine okP_ifx (fun _ => ?_) fun _ => ?_
  · obtain ⟨r1, r2⟩ := lst_ok (n := n3) (s := n8 + 1) (l := d) (by omega) (by omega) (by omega) (by omega)
    exact ⟨_, rfl, _, rfl, n3, _, rfl, r1, by omega, by omega, few7 r1 (by omega)⟩
  refine okP_ifx (fun _ => ?_) fun _ => ?_
  · have rs : rngM 1 ((n16 + 1 : Nat) : Int) = .ok ((List.range (n16 + 1 - 1)).map fun (k : Nat) => ((1 : Nat) : Int) + (k : Int)) := rngN (a := 1) (by decide) (by omega)
    rw [rs]
    simp only [ok_b]
    obtain ⟨fl, e1, e2⟩ : okP _ _ := okP_loop (S := List Tx) (L := Unit) (R := List Tx) (β := Unit) (Q := fun fl => ∃ r, fl = .rt r ∧ ∃ n ring, r = tx ring ∧ RK n ring w) (f := fun (s133 : (List Tx)) (i134 : Int) => ((idxL s133 (i134 - 1)) >>= fun x145 => ((idxL d i134) >>= fun x141 => (.ok (x141 / 16) : M Int)) >>= fun x146 => m__law_turned (x145, x146, ())) >>= fun x147 => appM s133 x147 >>= fun ring148 => (.ok (.nx (ring148)) : M (Fl (List Tx) (List Tx) (List Tx))))
      (xs := (List.range (n16 + 1 - 1)).map fun (k : Nat) => ((1 : Nat) : Int) + (k : Int)) (s := [⟨wrd (d.getD 0 0) (n3 + 1)⟩]) (k := fun r => .ok (.rt r)) (fun j (r : List Tx) => ∃ ring : List Lt, r = tx ring ∧ ring.length = j + 1 ∧ ∀ w ∈ ring, Wd (n3 + 1) w) ⟨[wrd (d.getD 0 0) (n3 + 1)], rfl, rfl, fun w hw => by rw [List.mem_singleton.mp hw]; exact wrd_wd _ _⟩ (by
        rintro i _ hi ⟨ring, rfl, rl, rw_⟩
        rw [List.length_map, List.length_range] at hi
        rw [List.getElem_map, List.getElem_range]
        have x1 : (((1 : Nat) : Int) + (i : Int) - 1) = ((i : Nat) : Int) := by omega
        have x2 : (((1 : Nat) : Int) + (i : Int)) = ((i + 1 : Nat) : Int) := by omega
        have di := (at_ok hd (i := i + 1) (by omega)).1
        have wi := wat_ix (show i < ring.length by omega)
        obtain ⟨q1, q2⟩ := q_turned (rw_ _ (wat_mem (show i < ring.length by omega))) (by omega) (d.getD (i + 1) 0 / 16)
        rw [x1, x2]
        simp only [wi, di, ok_b, q1]
        rw [appM_ok (by rw [tx_len]; omega)]
        refine ⟨_, rfl, _, rfl, ring ++ [_], by unfold tx; rw [List.map_append]; rfl, by rw [List.length_append, rl]; rfl, fun u hu => ?_⟩
        rcases List.mem_append.mp hu with z | z
        · exact rw_ u z
        · rw [List.mem_singleton.mp z]; exact q2) (by
        rintro _ ⟨ring, rfl, rl, rw_⟩
        rw [List.length_map, List.length_range] at rl
        have rg : Rg (n3 + 1) ring := ⟨fun e => by rw [e, List.length_nil] at rl; omega, rw_, by omega, by omega⟩
        exact ⟨_, rfl, _, rfl, n3 + 1, ring, rfl, rg, by omega, by omega, few7 rg (by omega)⟩)
    obtain ⟨r, rfl, sr⟩ := e2
    refine ⟨.rt r, ?_, r, rfl, sr⟩
    simp only [as_b, ok_b] at e1 ⊢
    rw [e1]
    rfl
  refine okP_sq (P := fun x : Int => ∃ s : Nat, x = (s : Int) ∧ 1 ≤ s ∧ s ≤ 16) (okP_if (fun _ => ?_) fun _ => ⟨_, rfl, _, rfl, n16 + 1, rfl, by omega, by omega⟩) ?_
  · exact ⟨_, rfl, _, rfl, min 16 (3 * w + 1 + n4), by omega, by omega, by omega⟩
  rintro _ ⟨s, rfl, s1, s2⟩
  rw [q_stretch s (by omega)]
  simp only [ok_b]
  have rg := str_rg (s := s) (by omega) (by omega)
  have ls := str_len s
  obtain ⟨a, ea, la⟩ := md (l.getD 3 0) (k := s) (by omega)
  have oa : modI (l.getD 3 0) (s : Int) = .ok (a : Int) := by rw [modI_ok (by omega), ea]
  refine okP_sq (P := fun r => ∃ n ring, r = tx ring ∧ RK n ring w) (okP_if (fun _ => ?_) fun _ => ⟨_, rfl, _, rfl, _, _, rfl, rg, by omega, by omega, fun x k hx hk => Nat.le_trans (str6 (by omega) s2 hw (by omega) hk) (by decide)⟩) ?_
  · simp only [oa, ok_b, wat_ix (show a < (str s).length by omega)]
    obtain ⟨q1, q2⟩ := q_turned (rg.2.1 _ (wat_mem (show a < (str s).length by omega))) (by omega) (d.getD 0 0 / 16)
    simp only [q1, ok_b]
    rw [set_ok (by omega)]
    exact ⟨_, rfl, _, rfl, _, _, rfl, rg_set rg q2, by omega, by rw [List.length_set]; omega, fun x k hx hk => Nat.le_trans (turn_nx rg (by omega) _ x k) (by rw [List.length_set] at hx; have := str6 (w := w) (by omega) s2 hw (show x < s by omega) hk; omega)⟩
  · rintro _ ⟨n, ring, rfl, hr⟩
    exact ⟨_, rfl, _, rfl, n, ring, rfl, hr⟩
end K46

set_option linter.all false
set_option maxRecDepth 100000
set_option maxHeartbeats 2000000
namespace K46
open P3 L2 RG
theorem turn_get {n : Nat} {l : Lt} (h : Wd n l) {k i : Nat} (hk : k < n) (hi : i < n) : (turn l (k : Int)).getD i 0 = if i = k then 97 - l.getD k 0 else l.getD i 0 := by
  have hl := h.1
  have e : l ≠ [] := fun z => by rw [z] at hl; simp at hl; omega
  unfold turn
  have ek : ((k : Int) % (l.length : Int)).toNat = k := by rw [hl, ← Int.natCast_emod, Int.toNat_natCast, Nat.mod_eq_of_lt hk]
  rw [if_neg e, ek, List.getD_eq_getElem?_getD, List.append_assoc]
  by_cases c : i < k
  · rw [if_neg (by omega), List.getElem?_append_left (by rw [List.length_take]; omega), List.getElem?_take_of_lt c, List.getD_eq_getElem?_getD]
  · rw [List.getElem?_append_right (by rw [List.length_take]; omega), List.length_take]
    by_cases c2 : i = k
    · have : i - min k l.length = 0 := by omega
      rw [this, if_pos c2]
      rfl
    · rw [if_neg c2, List.getElem?_append_right (by rw [List.length_singleton]; omega), List.length_singleton, List.getElem?_drop, List.getD_eq_getElem?_getD]
      congr 2
      omega
/-- two words that differ just in these wires -/
structure Df (n : Nat) (a b : Lt) (ks : List Nat) : Prop where
  wa : Wd n a
  wb : Wd n b
  eq : ∀ i, i < n → b.getD i 0 = if i ∈ ks then 97 - a.getD i 0 else a.getD i 0
theorem Df.rg {n : Nat} {a b : Lt} {ks : List Nat} (h : Df n a b ks) (hn : n ≤ 14) : Rg n [a, b] := ⟨(fun z => nomatch z), fun w hw => by
  rcases List.mem_cons.mp hw with e | e
  · rw [e]; exact h.wa
  · rw [List.mem_singleton.mp e]; exact h.wb, hn, by show 2 ≤ 1000; decide⟩
theorem Df.ne {n : Nat} {a b : Lt} {ks : List Nat} (h : Df n a b ks) {k : Nat} (hk : k ∈ ks) (hn : k < n) : a ≠ b := fun e => by
  have := h.eq k hn
  rw [if_pos hk, ← e] at this
  rcases wd_bit h.wa hn with z | z <;> rw [z] at this <;> omega
theorem Df.nx {n : Nat} {a b : Lt} {ks : List Nat} (h : Df n a b ks) (nd : ks.Nodup) (lt : ∀ k ∈ ks, k < n) : nx (lhl [a, b]) = ks.length := by
  have hw : ∀ w ∈ [a, b], Wd n w := fun w hw => by
    rcases List.mem_cons.mp hw with e | e
    · rw [e]; exact h.wa
    · rw [List.mem_singleton.mp e]; exact h.wb
  rw [nx_lhl (n := n) (show [a, b] ≠ [] from (fun z => nomatch z)) hw]
  refine ((List.perm_ext_iff_of_nodup (List.nodup_range.filter _) nd).mpr fun i => ?_).length_eq
  rw [List.mem_filter, List.mem_range, decide_eq_true_eq]
  constructor
  · rintro ⟨hi, m1, m2⟩
    apply Classical.byContradiction
    intro c
    have e := h.eq i hi
    rw [if_neg c] at e
    have g : ∀ x, x ∈ col [a, b] i → x = a.getD i 0 := fun x hx => by
      have hx : x ∈ [a.getD i 0, b.getD i 0] := hx
      rcases List.mem_cons.mp hx with z | z
      · exact z
      · rw [List.mem_singleton.mp z, e]
    have g1 := g _ m1
    have g2 := g _ m2
    omega
  · intro hi
    have ln := lt i hi
    refine ⟨ln, ?_⟩
    have e := h.eq i ln
    rw [if_pos hi] at e
    show 48 ∈ [a.getD i 0, b.getD i 0] ∧ 49 ∈ [a.getD i 0, b.getD i 0]
    rw [e]
    rcases wd_bit h.wa ln with z | z <;> rw [z] <;> decide
theorem two_all {a b : Lt} : hul [a, b] 0 1 = lhl [a, b] := rfl
theorem two_le {n : Nat} {a b : Lt} (h : Rg n [a, b]) (s k : Nat) : nx (hul [a, b] s k) ≤ nx (lhl [a, b]) := by
  obtain ⟨a1, a2⟩ := arcw_ok h s k
  rw [← two_all]
  obtain ⟨c1, c2⟩ := arcw_ok h 0 1
  unfold hul
  rw [nx_lhl a1 a2, nx_lhl c1 c2, ← List.countP_eq_length_filter, ← List.countP_eq_length_filter]
  refine List.countP_mono_left fun i _ hx => ?_
  have hx := of_decide_eq_true hx
  have sub : ∀ x, x ∈ col (arcw [a, b] s k) i → x ∈ col (arcw [a, b] 0 1) i := fun x hx => by
    obtain ⟨w, hw, rfl⟩ := List.mem_map.mp hx
    obtain ⟨p, hp, rfl⟩ := List.mem_map.mp hw
    have lp : p < 2 := (mem_arc.mp hp).1
    refine List.mem_map.mpr ⟨wat [a, b] p, List.mem_map.mpr ⟨p, ?_, rfl⟩, rfl⟩
    have : p = 0 ∨ p = 1 := by omega
    rcases this with rfl | rfl
    · show 0 ∈ arc 2 0 1
      decide
    · show 1 ∈ arc 2 0 1
      decide
  exact decide_eq_true ⟨sub _ hx.1, sub _ hx.2⟩
theorem lw_nodup {acc : List Lt} (h : acc.Nodup) (c : Nat) : (RG.lw acc c).Nodup := by
  have inj : ∀ x : Nat, (acc.map (· ++ [x])).Nodup := fun x => by
    rw [List.nodup_iff_pairwise_ne, List.pairwise_map]
    exact (List.nodup_iff_pairwise_ne.mp h).imp fun ne e => ne (List.append_cancel_right e)
  unfold RG.lw
  split
  · rw [List.nodup_append]
    refine ⟨inj 48, inj 49, fun a ha b hb e => ?_⟩
    obtain ⟨u, _, rfl⟩ := List.mem_map.mp ha
    obtain ⟨v, _, rfl⟩ := List.mem_map.mp hb
    have := List.append_inj' e rfl
    have := this.2
    simp at this
  · exact inj c
theorem lws_nodup : ∀ (l : Lt) {acc : List Lt}, acc.Nodup → (l.foldl RG.lw acc).Nodup
  | [], _, h => h
  | c :: r, _, h => lws_nodup r (lw_nodup h c)
theorem tx_nodup {l : List Lt} (h : l.Nodup) : (tx l).Nodup := by
  unfold tx
  rw [List.nodup_iff_pairwise_ne, List.pairwise_map]
  exact (List.nodup_iff_pairwise_ne.mp h).imp fun ne e => ne (by injection e)
theorem two_held {n : Nat} {a b : Lt} (h : Rg n [a, b]) {w : Nat} (hw : 1 ≤ w) : Lst n (held [a, b] w) (srtT (tx ((lhl [a, b]).foldl RG.lw [[]]))) := by
  refine Lst.of (tx_nodup (lws_nodup _ (by simp))) fun v => ?_
  have e : (⟨v⟩ : Tx) ∈ tx ((lhl [a, b]).foldl RG.lw [[]]) ↔ v ∈ wds (hul [a, b] 0 1) := by
    rw [two_all, ← mem_lwords]
    unfold tx
    rw [List.mem_map]
    constructor
    · rintro ⟨u, hu, e⟩
      injection e with e
      rw [← e]; exact hu
    · intro hu
      exact ⟨v, hu, rfl⟩
  rw [e, mem_hul h]
  refine and_congr_right fun hv => ?_
  constructor
  · intro q
    exact ⟨0, 1, show 0 < 2 by decide, hw, q⟩
  · rintro ⟨s, k, hs, hk, q⟩
    refine hold_mono h hv (fun p hp => ?_) q
    have lp : p < 2 := (mem_arc.mp hp).1
    have : p = 0 ∨ p = 1 := by omega
    rcases this with rfl | rfl
    · show 0 ∈ arc 2 0 1
      decide
    · show 1 ∈ arc 2 0 1
      decide
theorem two_bars {n : Nat} {a b : Lt} (h : Rg n [a, b]) (ne : a ≠ b) (w : Nat) : Lst n (bar [a, b] w) [] := ⟨List.Pairwise.nil, List.nodup_nil, fun v => ⟨(fun z => absurd z List.not_mem_nil), fun ⟨hv, q⟩ => absurd q (two_nobar h ne w hv)⟩⟩
theorem hul0 {n : Nat} {ring : List Lt} (h : Rg n ring) {s : Nat} (hs : s < ring.length) {v : Lt} (hv : Wd n v) : hld (hul ring s 0) v = true ↔ v = wat ring s := by
  have ws := h.2.1 _ (wat_mem hs)
  obtain ⟨a1, a2⟩ := arcw_ok h s 0
  unfold hul
  rw [hld_lhl a1 a2 hv]
  have one : ∀ p, p ∈ arc ring.length s 0 → p = s := fun p hp => by
    have lp := (mem_arc.mp hp).1
    have op := (arc_off hs lp).mp hp
    unfold off at op
    split at op <;> omega
  constructor
  · intro hh
    apply List.ext_getElem (by rw [hv.1, ws.1])
    intro i hi hi2
    obtain ⟨u, hu, e⟩ := hh i (by rw [← hv.1]; exact hi)
    obtain ⟨p, hp, rfl⟩ := List.mem_map.mp hu
    rw [one p hp, gd hi, gd hi2] at e
    exact e
  · intro e i hi
    exact ⟨wat ring s, List.mem_map.mpr ⟨s, (arc_off hs hs).mpr (by unfold off; simp), rfl⟩, by rw [e]⟩
theorem two_held0 {n : Nat} {a b : Lt} (h : Rg n [a, b]) (ne : a ≠ b) : Lst n (held [a, b] 0) (srtT (tx [a, b])) := by
  refine Lst.of (tx_nodup (by simp [ne])) fun v => ?_
  have wa := h.2.1 a (by simp)
  have wb := h.2.1 b (by simp)
  show (⟨v⟩ : Tx) ∈ [⟨a⟩, ⟨b⟩] ↔ _
  rw [List.mem_cons, List.mem_singleton, tx_eq, tx_eq]
  constructor
  · rintro (e | e)
    · rw [e]
      exact ⟨wa, 0, 0, show 0 < 2 by decide, Nat.le_refl 0, (hul0 h (show 0 < 2 by decide) wa).mpr rfl⟩
    · rw [e]
      exact ⟨wb, 1, 0, show 1 < 2 by decide, Nat.le_refl 0, (hul0 h (show 1 < 2 by decide) wb).mpr rfl⟩
  · rintro ⟨hv, s, k, hs, hk, q⟩
    have : k = 0 := by omega
    subst this
    have e := (hul0 h hs hv).mp q
    have hs : s < 2 := hs
    have : s = 0 ∨ s = 1 := by omega
    rcases this with rfl | rfl
    · exact .inl e
    · exact .inr e
theorem few0 {n : Nat} {a b : Lt} (h : Rg n [a, b]) : few [a, b] 0 := fun s k hs hk => by
  have : k = 0 := by omega
  subst this
  obtain ⟨a1, a2⟩ := arcw_ok h s 0
  unfold hul
  rw [nx_lhl a1 a2]
  have : (List.range n).filter (fun k => decide (48 ∈ col (arcw [a, b] s 0) k ∧ 49 ∈ col (arcw [a, b] s 0) k)) = [] := by
    rw [List.filter_eq_nil_iff]
    intro i _ z
    have z := of_decide_eq_true z
    have g : ∀ x, x ∈ col (arcw [a, b] s 0) i → x = (wat [a, b] s).getD i 0 := fun x hx => by
      obtain ⟨u, hu, rfl⟩ := List.mem_map.mp hx
      obtain ⟨p, hp, rfl⟩ := List.mem_map.mp hu
      have lp := (mem_arc.mp hp).1
      have op := (arc_off hs lp).mp hp
      have : p = s := by
        unfold off at op
        split at op <;> omega
      rw [this]
    have g1 := g _ z.1
    have g2 := g _ z.2
    omega
  rw [this]
  decide
end K46

set_option linter.all false
set_option maxRecDepth 100000
set_option maxHeartbeats 2000000
namespace K46
open P3 L2 RG
theorem df_step {n : Nat} {a b : Lt} {o : List Nat} (ho : o.Perm (List.range n)) {j : Nat} (hj : j < o.length) (h : Df n a b (o.take j)) (hn : n ≤ 1000) : m__law_turned (⟨b⟩, ((o[j] : Nat) : Int), ()) = .ok ⟨turn b ((o[j] : Nat) : Int)⟩ ∧ Df n a (turn b ((o[j] : Nat) : Int)) (o.take (j + 1)) := by
  obtain ⟨q1, q2⟩ := q_turned h.wb hn ((o[j] : Nat) : Int)
  have lt := perm_lt ho hj
  have nd : o.Nodup := ho.nodup_iff.mpr List.nodup_range
  have tk : o.take (j + 1) = o.take j ++ [o[j]] := (List.take_append_getElem hj).symm
  have nin : o[j] ∉ o.take j := fun m => by
    have := (List.take_sublist (j + 1) o).nodup nd
    rw [tk, List.nodup_append] at this
    exact this.2.2 _ m _ (List.mem_singleton.mpr rfl) rfl
  refine ⟨q1, h.wa, q2, fun i hi => ?_⟩
  rw [turn_get h.wb lt hi, tk]
  by_cases c : i = o[j]
  · have e := h.eq o[j] lt
    rw [if_neg nin] at e
    rw [if_pos c, if_pos (List.mem_append_right _ (List.mem_singleton.mpr c)), e, c]
  · rw [if_neg c, h.eq i hi]
    by_cases d : i ∈ o.take j
    · rw [if_pos d, if_pos (List.mem_append_left _ d)]
    · rw [if_neg d, if_neg (fun z => (List.mem_append.mp z).elim d fun z => c (List.mem_singleton.mp z))]
theorem q_open {n w : Nat} (n9 : 9 ≤ n) (n12 : n ≤ 12) (w1 : 1 ≤ w) (w2 : w ≤ 60) {dr : List Int} (hd : Nm 4096 2 dr) : m__law_open_right (dr, (n : Int), (w : Int), ()) = .ok true := by
  refine okP_true ?_
  unfold m__law_open_right r__law_open_right
  have d0 : idxL dr 0 = .ok (dr.getD 0 0) := (at_ok hd (i := 0) (by decide)).1
  have d1 : idxL dr 1 = .ok (dr.getD 1 0) := (at_ok hd (i := 1) (by decide)).1
  have wf := wrd_wd n (dr.getD 0 0)
  simp only [ok_b, d0, d1, q_word _ n (show n ≤ 1000 by omega)]
  generalize wrd (dr.getD 0 0) n = f at *
  obtain ⟨ol, eo, o, rfl, ho⟩ := q_order (dr.getD 1 0) (n := n) (by omega)
  have olen := perm_n ho
  have nd : o.Nodup := ho.nodup_iff.mpr List.nodup_range
  have cut : cutA (zz o) none (some 9) = zz (o.take 9) := by
    rw [show (9 : Int) = ((9 : Nat) : Int) from rfl, cutA_to]
    unfold zz
    exact List.map_take.symm
  have t9 : (o.take 9).length = 9 := by rw [List.length_take]; omega
  simp only [eo, ok_b, cut]
  have ndk : ∀ j, (o.take j).Nodup := fun j => (List.take_sublist j o).nodup nd
  have ltk : ∀ j, ∀ k ∈ o.take j, k < n := fun j k hk => List.mem_range.mp (ho.mem_iff.mp (List.mem_of_mem_take hk))
  refine okP_fin (okP_loop (fun j (s : Tx × Option (List Tx)) => ∃ b : Lt, s.1 = ⟨b⟩ ∧ Df n f b (o.take j) ∧ (0 < j → s.2 = some (tx [f, b]))) ⟨f, rfl, ⟨wf, wf, fun i _ => by rw [List.take_zero, if_neg List.not_mem_nil]⟩, fun z => absurd z (Nat.lt_irrefl 0)⟩ ?_ ?_)
  · rintro i ⟨s1, s2⟩ hi ⟨b, rfl, df, _⟩
    have hi2 : i < 9 := by
      rw [enumL_len] at hi
      have : (Sq.items (zz (o.take 9)) : List Int).length = (o.take 9).length := List.length_map _
      omega
    have hio : i < o.length := by omega
    have hx : (enumL (Sq.items (zz (o.take 9)) : List Int))[i] = ⟨(i : Int), ((o[i] : Nat) : Int)⟩ := by
      obtain ⟨q1, q2⟩ := enumL_at (List.getElem?_eq_getElem hi)
      generalize (enumL (Sq.items (zz (o.take 9)) : List Int))[i] = p at q1 q2
      cases p with | mk a b =>
      have q1 : a = (i : Int) := q1
      have q2 : (zz (o.take 9))[i]? = some b := q2
      have e9 : (zz (o.take 9))[i]? = some ((o[i] : Nat) : Int) := by
        unfold zz
        rw [List.getElem?_map, List.getElem?_take_of_lt hi2, List.getElem?_eq_getElem hio]
        rfl
      have q3 := Option.some.inj (q2.symm.trans e9)
      rw [q1, q3]
    rw [hx]
    obtain ⟨q1, q2⟩ := df_step ho hio df (by omega)
    have mo : o[i] ∈ o.take (i + 1) := by
      rw [← List.take_append_getElem hio]
      exact List.mem_append_right _ (List.mem_singleton.mpr rfl)
    have ne := q2.ne mo (perm_lt ho hio)
    have rg := q2.rg (by omega)
    have nxe := q2.nx (ndk (i + 1)) (ltk (i + 1))
    have lk : (o.take (i + 1)).length = i + 1 := by rw [List.length_take]; omega
    simp only [ok_b, q1]
    generalize turn b ((o[i] : Nat) : Int) = c at *
    by_cases e7 : i = 7
    · have d7 : decide ((i : Int) = 7) = true := decide_eq_true (by omega)
      have cube : m__law_cube ([⟨f⟩, ⟨c⟩], ()) = .ok ⟨lhl [f, c]⟩ := q_law_cube (ws := [f, c]) (fun z => nomatch z) rg.2.1 rg.2.2.1
      have lw := q_lwords (l := lhl [f, c]) (n := n) (hul_cb rg 0 1) rg.2.2.1
      have fw : few [f, c] w := fun s k hs hk => Nat.le_trans (two_le rg s k) (by omega)
      have tr := q_told rg w2 fw (two_held rg w1) (two_bars rg ne w) (by decide)
      have e2 : (tx [f, c]) = ([⟨f⟩, ⟨c⟩] : List Tx) := rfl
      rw [e2] at tr
      simp only [d7, if_true, cube, lw, ok_b, tr, Bool.not_true, Bool.false_eq_true, if_false, sq_nx]
      exact ⟨_, rfl, _, rfl, c, rfl, q2, fun _ => rfl⟩
    · have d7 : decide ((i : Int) = 7) = false := decide_eq_false (by omega)
      simp only [d7, Bool.false_eq_true, if_false, ok_b, sq_nx]
      exact ⟨_, rfl, _, rfl, c, rfl, q2, fun _ => rfl⟩
  · rintro ⟨s1, s2⟩ ⟨b, rfl, df, e⟩
    have le : (enumL (Sq.items (zz (o.take 9)) : List Int)).length = 9 := by
      rw [enumL_len]
      have : (Sq.items (zz (o.take 9)) : List Int).length = (o.take 9).length := List.length_map _
      omega
    rw [le] at df e
    have e := e (by decide)
    dsimp only at e
    subst e
    have m0 : o[0]'(by omega) ∈ o.take 9 := by
      rw [List.mem_iff_getElem]
      exact ⟨0, by omega, by rw [List.getElem_take]⟩
    have ne := df.ne m0 (perm_lt ho _)
    have rg := df.rg (by omega)
    have nxe := df.nx (ndk 9) (ltk 9)
    have t0 := q_told rg (w := 0) (by decide) (few0 rg) (two_held0 rg ne) (two_bars rg ne 0) (by decide)
    have t0 : m__law_told_right (tx [f, b], 0, srtT (tx [f, b]), [], ()) = .ok true := t0
    have r3 : rngM 0 3 = .ok (zz (List.range 3)) := rng_k (P := 3) (by decide)
    have tm := q_too_many rg w2 (s := 0) (k := 1) (show 0 < 2 by decide) w1 (by rw [two_all, nxe, t9]; decide)
    simp only [optM_some, ok_b, t0, Bool.not_true, Bool.false_eq_true, if_false, sq_nx, r3]
    rw [loop_unit ?_]
    · exact ⟨_, rfl, _, rfl, rfl⟩
    · intro x hx
      simp only [tm, ok_b, Bool.not_true, Bool.false_eq_true, if_false, sq_nx]
end K46

set_option linter.all false
set_option maxRecDepth 100000
set_option maxHeartbeats 2000000
namespace K46
open P3 L2 RG
theorem dict_key {n : Nat} {ring : List Lt} (h : Rg n ring) {w : Nat} {d : Dc Tx (List Int)} (hd : Rp n d (tab ring n (runsL ring.length w))) {t : Tx} (ht : t ∈ keysD d) : getM d t = .ok ((optI (shr ring w t.l)).getD []) ∧ Wd n t.l ∧ shr ring w t.l ≠ none := by
  have hw2 := hd.2.2 t ht
  have g := hd.1 t.l
  rw [tab_shr h w hw2] at g
  have ne := getK_mem.mp ht
  have g : getK d.kvs t = optI (shr ring w t.l) := g
  unfold getM
  rw [g] at ne ⊢
  cases hs : shr ring w t.l with
  | none => rw [hs] at ne; exact absurd rfl ne
  | some f => exact ⟨rfl, hw2, fun z => nomatch z⟩
theorem bars_of {n : Nat} {ring : List Lt} (h : Rg n ring) {w : Nat} {d : Dc Tx (List Int)} (hd : Rp n d (tab ring n (runsL ring.length w))) : ∃ bs, compM (fun (i39 : Tx) => ((getM d i39 >>= fun x41 => (.ok (Tru.tru x41) : M Bool)) >>= fun x42 => (.ok (!x42) : M Bool))) (fun (i39 : Tx) => (.ok i39 : M Tx)) (srtT (keysD d)) = .ok bs ∧ Lst n (bar ring w) bs ∧ bs.length ≤ d.kvs.length := by
  have pm := srtB_perm leT (keysD d)
  have hl := lshared_lst h hd
  rw [comp_ok (fun x : Tx => decide (shr ring w x.l = some [])) (fun x : Tx => x) _ (fun x hx => by
    obtain ⟨k1, k2, k3⟩ := dict_key h hd (pm.mem_iff.mp hx)
    rw [k1]
    simp only [ok_b]
    cases hs : shr ring w x.l with
    | none => exact absurd hs k3
    | some f => cases f <;> rfl) (fun _ _ => rfl)]
  refine ⟨_, rfl, ?_, ?_⟩
  · rw [List.map_id']
    refine ⟨hl.srt.sublist List.filter_sublist, List.filter_sublist.nodup hl.nd, fun v => ?_⟩
    rw [List.mem_filter, hl.mem, decide_eq_true_eq, shr_bar]
    exact ⟨fun ⟨⟨a, _⟩, b⟩ => ⟨a, b⟩, fun ⟨a, b⟩ => ⟨⟨a, b.1⟩, b⟩⟩
  · rw [List.map_id']
    refine Nat.le_trans (List.length_filter_le _ _) ?_
    rw [pm.length_eq]
    show (d.kvs.map Prod.fst).length ≤ _
    rw [List.length_map]
    exact Nat.le_refl _
theorem dress_map {n : Nat} {o : List Nat} (ho : o.Perm (List.range n)) {m : Lt} (hm : Wd n m) (hn : n ≤ 1000) {l : List Tx} (hl : ∀ t ∈ l, Wd n t.l) : mapM' (fun (i : Tx) => m__law_dress (i, zz o, ⟨m⟩, ())) l = .ok (l.map fun t => (⟨drs o m t.l⟩ : Tx)) :=
  map_ok (fun t : Tx => (⟨drs o m t.l⟩ : Tx)) l fun t ht => q_dress ho hm (hl t ht) hn
theorem plus_map {n c : Nat} (hn : n ≤ 1000) {l : List Tx} (hl : ∀ t ∈ l, Wd n t.l) : mapM' (fun (i : Tx) => catT i ⟨[c]⟩) l = .ok (l.map fun t => (⟨plus c t.l⟩ : Tx)) :=
  map_ok (fun t : Tx => (⟨plus c t.l⟩ : Tx)) l fun t ht => catT_ok (by have := (hl t ht).1; rw [List.length_singleton]; omega)
theorem tx_map (g : Lt → Lt) (ring : List Lt) : (tx ring).map (fun t => (⟨g t.l⟩ : Tx)) = tx (ring.map g) := by
  unfold tx
  rw [List.map_map, List.map_map]
  rfl
theorem plain (ns : List Int) (hl : ns.length ≤ 63) (hb : ∀ z ∈ ns, PySem.Builtin.Int.intBits z ≤ 1048576) : m_law (ns, ()) = .ok true := by
  refine okP_true ?_
  unfold m_law r_law
  have c0 : m__law_cell (ns, 0, ()) = .ok (ns.getD 0 0) := q_cell ns 0
  have c1 : m__law_cell (ns, 1, ()) = .ok (ns.getD 1 0) := q_cell ns 1
  have c2 : m__law_cell (ns, 2, ()) = .ok (ns.getD 2 0) := q_cell ns 2
  have c3 : m__law_cell (ns, 3, ()) = .ok (ns.getD 3 0) := q_cell ns 3
  simp only [ok_b, c0, c1, c2, c3]
  refine okP_fin (okP_b (q_numbers (ns.getD 0 0) (b := 5040) (c := 16) (by decide) (by decide) (by decide)) fun l h => ?_)
  have a0 : idxL l 0 = .ok (l.getD 0 0) := (at_ok h (i := 0) (by decide)).1
  have a5 : idxL l 5 = .ok (l.getD 5 0) := (at_ok h (i := 5) (by decide)).1
  have a6 : idxL l 6 = .ok (l.getD 6 0) := (at_ok h (i := 6) (by decide)).1
  have a7 : idxL l 7 = .ok (l.getD 7 0) := (at_ok h (i := 7) (by decide)).1
  have a8 : idxL l 8 = .ok (l.getD 8 0) := (at_ok h (i := 8) (by decide)).1
  have a9 : idxL l 9 = .ok (l.getD 9 0) := (at_ok h (i := 9) (by decide)).1
  have a10 : idxL l 10 = .ok (l.getD 10 0) := (at_ok h (i := 10) (by decide)).1
  have a11 : idxL l 11 = .ok (l.getD 11 0) := (at_ok h (i := 11) (by decide)).1
  have a12 : idxL l 12 = .ok (l.getD 12 0) := (at_ok h (i := 12) (by decide)).1
  have a13 : idxL l 13 = .ok (l.getD 13 0) := (at_ok h (i := 13) (by decide)).1
  have o5 : ∀ x, modI x 5 = .ok (x % 5) := fun x => modI_ok (by decide)
  have o2 : ∀ x, modI x 2 = .ok (x % 2) := fun x => modI_ok (by decide)
  have o4 : ∀ x, modI x 4 = .ok (x % 4) := fun x => modI_ok (by decide)
  have m2 : ∀ x, mulI x 4096 = .ok (x * 4096) := fun x => mulI_ok ⟨by omega, by omega⟩
  have w24 : ∀ x, m__law_word (x, 24, ()) = .ok ⟨wrd x 24⟩ := fun x => q_word x 24 (by decide)
  obtain ⟨w, ew, lw⟩ := md (l.getD 0 0) (k := 5) (by decide)
  have ew : l.getD 0 0 % 5 = (w : Int) := ew
  simp only [a0, a5, a6, a7, a8, a9, a10, a11, a12, a13, o5, o2, o4, m2, w24, ew, ok_b]
  refine okP_b (q_kring (ns.getD 1 0) (show w ≤ 4 by omega) h) ?_
  rintro _ ⟨n, ring, rfl, rk⟩
  have rg := rk.rg
  have n8 := rk.n8
  have rL := rk.len
  have pos := rg.pos
  have fw := few_n rg n8 w
  obtain ⟨d, ed, rp, dl⟩ := q_lshared rg (w := w) (by omega) fw
  have dl2 : d.kvs.length ≤ 20480 := Nat.le_trans dl (Nat.mul_le_mul_left 256 (show ring.length * (w + 1) ≤ 80 from Nat.mul_le_mul rL (show w + 1 ≤ 5 by omega)))
  have hh := lshared_lst rg rp
  obtain ⟨bs, ebs, hbs, bl⟩ := bars_of rg rp
  simp only [ed, ok_b]
  rw [if_pos (by rw [sz24]; omega)]
  simp only [ok_b, ebs]
  generalize srtT (keysD d) = hs at hh
  obtain ⟨a, ea, la⟩ := md (l.getD 5 0) (k := ring.length) pos
  have oa : modI (l.getD 5 0) (ring.length : Int) = .ok (a : Int) := by rw [modI_ok (by omega), ea]
  simp only [tx_len, oa, ok_b]
  rw [rot_ok (by omega)]
  simp only [ok_b]
  have rg2 := rg_rot rg a
  have hb2 := rot_hb rg w la
  refine okP_sq (P := fun r => ∃ ring', r = tx ring' ∧ Rg n ring' ∧ ∀ v, (held ring' w v ↔ held ring w v) ∧ (bar ring' w v ↔ bar ring w v)) (okP_if (fun _ => ⟨_, rfl, _, rfl, _, List.map_reverse.symm, rg_rev rg2, fun v => ⟨(rev_hb rg2 w v).1.trans (hb2 v).1, (rev_hb rg2 w v).2.trans (hb2 v).2⟩⟩) fun _ => ⟨_, rfl, _, rfl, _, rfl, rg2, hb2⟩) ?_
  rintro _ ⟨ring3, rfl, rg3, hb3⟩
  have t1 := q_told rg3 (w := w) (by omega) (few_n rg3 n8 w) (hh.congr fun v _ => (hb3 v).1.symm) (hbs.congr fun v _ => (hb3 v).2.symm) (by omega)
  have p0 : idxL (tx ring) 0 = .ok ⟨wat ring 0⟩ := wat_ix (p := 0) pos
  have b0 := rg.2.1 _ (wat_mem pos)
  have b0l := b0.1
  simp only [t1, p0, b0l, ok_b, Bool.not_true, Bool.false_eq_true, if_false, sq_nx]
  obtain ⟨_, eo, o, rfl, ho⟩ := q_order (ns.getD 2 0) (n := n) (by omega)
  have mw := wrd_wd n (l.getD 7 0)
  have mo := wrd_wd 24 (l.getD 10 0 * 4096 + l.getD 11 0)
  simp only [eo, ok_b, q_word _ n (show n ≤ 1000 by omega)]
  generalize wrd (l.getD 7 0) n = mask at *
  generalize wrd (l.getD 10 0 * 4096 + l.getD 11 0) 24 = more at *
  have wm := drs_wm ho mw
  have hw' : ∀ t ∈ hs, Wd n t.l := fun t ht => ((hh.mem t.l).mp ht).1
  have bw' : ∀ t ∈ bs, Wd n t.l := fun t ht => ((hbs.mem t.l).mp ht).1
  have rw' : ∀ t ∈ tx ring, Wd n t.l := fun t ht => by
    obtain ⟨u, hu, rfl⟩ := List.mem_map.mp ht
    exact rg.2.1 u hu
  simp only [dress_map ho mw (show n ≤ 1000 by omega) rw', dress_map ho mw (show n ≤ 1000 by omega) hw', dress_map ho mw (show n ≤ 1000 by omega) bw', ok_b, tx_map]
  have rgd := wm.rg rg (show n ≤ 14 by omega)
  have lh := hh.map (n' := n) (P' := held (ring.map (drs o mask)) w) (drs o mask) wm.wd (drs_inj ho mw) (fun v hv => (wm.hb rg (by omega) w hv).1) (fun v' hv _ => drs_onto ho mw v' hv)
  have lb := hbs.map (n' := n) (P' := bar (ring.map (drs o mask)) w) (drs o mask) wm.wd (drs_inj ho mw) (fun v hv => (wm.hb rg (by omega) w hv).2) (fun v' hv _ => drs_onto ho mw v' hv)
  have t2 := q_told rgd (w := w) (by omega) (few_n rgd n8 w) lh lb (by
    rw [(srtB_perm leT _).length_eq, List.length_map]
    omega)
  simp only [t2, ok_b, Bool.not_true, Bool.false_eq_true, if_false, sq_nx]
  have ml := mo.1
  refine okP_sq (P := fun _ : Unit => True) (okP_if (fun _ => ?_) fun _ => ?_) ?_
  · have i0 : idxT ⟨more⟩ 0 = .ok ⟨[more[0]'(by omega)]⟩ := idxT_nat (k := 0) (by omega)
    have bc : bit (more[0]'(by omega)) := mo.2 _ (List.getElem_mem _)
    generalize more[0]'(by omega) = c at i0 bc
    simp only [i0, ok_b, plus_map (show n ≤ 1000 by omega) rw', plus_map (show n ≤ 1000 by omega) hw', plus_map (show n ≤ 1000 by omega) bw', tx_map]
    have rgp := (plus_wm (n := n) bc).rg rg (show n + 1 ≤ 14 by omega)
    have lh := lst_plus hh bc (P' := held (ring.map (plus c)) w) (fun v hv => ((plus_wm bc).hb rg (by omega) w hv).1) (fun v' hv q => plus_onto bc rg (by omega) v' hv q)
    have lb := lst_plus hbs bc (P' := bar (ring.map (plus c)) w) (fun v hv => ((plus_wm bc).hb rg (by omega) w hv).2) (fun v' hv q => plus_onto bc rg (by omega) v' hv q.1)
    have fwp : few (ring.map (plus c)) w := fun s k hs hk => by
      rw [List.length_map] at hs
      rw [plus_nx bc rg (by omega)]
      exact fw s k hs hk
    have t3 := q_told rgp (w := w) (by omega) fwp lh lb (by rw [List.length_map]; omega)
    simp only [t3, ok_b, Bool.not_true, Bool.false_eq_true, if_false, sq_nx]
    exact ⟨_, rfl, _, rfl, trivial⟩
  · refine okP_sq (P := fun _ : Unit => True) (okP_if (fun e => ?_) fun _ => ⟨_, rfl, _, rfl, trivial⟩) fun _ _ => ⟨_, rfl, _, rfl, trivial⟩
    have bnil : bs = [] := by
      have t0 : Tru.tru bs = !bs.isEmpty := rfl
      rw [t0, Bool.not_not, List.isEmpty_iff] at e
      exact e
    have nob := hbs.nil_iff.mp bnil
    have im : ∀ k : Nat, k < 24 → idxT ⟨more⟩ (k : Int) = .ok ⟨[more.getD k 0]⟩ := fun k hk => by
      rw [idxT_nat (show k < more.length by omega), gd (show k < more.length by omega)]
    have eq1 : (enumL (Sq.items (tx ring) : List Tx)) = (List.range ring.length).map fun (p : Nat) => (⟨(p : Int), ⟨wat ring p⟩⟩ : P2 Int Tx) := enum_tx ring
    rw [eq1, map_ok (fun p : P2 Int Tx => (⟨wat ring p.a.toNat ++ [more.getD p.a.toNat 0]⟩ : Tx)) _ (fun x hx => by
      obtain ⟨p, hp, rfl⟩ := List.mem_map.mp hx
      have hp := List.mem_range.mp hp
      have wl := (rg.2.1 _ (wat_mem hp)).1
      simp only [im p (by omega), ok_b, Int.toNat_natCast]
      exact catT_ok (by rw [List.length_singleton]; omega))]
    have eq2 : ((List.range ring.length).map fun (p : Nat) => (⟨(p : Int), ⟨wat ring p⟩⟩ : P2 Int Tx)).map (fun p : P2 Int Tx => (⟨wat ring p.a.toNat ++ [more.getD p.a.toNat 0]⟩ : Tx)) = tx ((List.range ring.length).map fun p => wat ring p ++ [more.getD p 0]) := by
      unfold tx
      rw [List.map_map, List.map_map]
      rfl
    rw [eq2]
    have wl2 : ((List.range ring.length).map fun p => wat ring p ++ [more.getD p 0]).length = ring.length := by rw [List.length_map, List.length_range]
    have ew2 : ∀ p, p < ring.length → wat ((List.range ring.length).map fun p => wat ring p ++ [more.getD p 0]) p = wat ring p ++ [more.getD p 0] := fun p hp => by
      show List.getD _ p [] = _
      rw [List.getD_eq_getElem?_getD, List.getElem?_map, List.getElem?_range hp]
      rfl
    have wide : Wide n ring ((List.range ring.length).map fun p => wat ring p ++ [more.getD p 0]) := ⟨rg, ⟨fun e => by rw [e, List.length_nil] at wl2; omega, fun v hv => by
      obtain ⟨p, hp, rfl⟩ := List.mem_map.mp hv
      have hp := List.mem_range.mp hp
      have wp := rg.2.1 _ (wat_mem hp)
      refine ⟨by rw [List.length_append, wp.1]; rfl, fun c hc => ?_⟩
      rcases List.mem_append.mp hc with z | z
      · exact wp.2 c z
      · rw [List.mem_singleton.mp z]
        exact wd_bit mo (by omega), by omega, by omega⟩, wl2, fun p i hp hi => by
      have wl := (rg.2.1 _ (wat_mem hp)).1
      rw [ew2 p hp, List.getD_eq_getElem?_getD, List.getElem?_append_left (by omega), ← List.getD_eq_getElem?_getD]⟩
    have fww : few ((List.range ring.length).map fun p => wat ring p ++ [more.getD p 0]) w := fun s k hs hk => by
      rw [wl2] at hs
      exact Nat.le_trans (wide.nx s k) (Nat.succ_le_succ (rk.fw s k hs hk))
    have clear : ∀ v, Wd (n + 1) v → shr ((List.range ring.length).map fun p => wat ring p ++ [more.getD p 0]) w v ≠ some [] := fun v hv z =>
      nob _ ⟨by rw [List.length_take, hv.1]; omega, fun x hx => hv.2 x (List.mem_of_mem_take hx)⟩ (wide.bar w hv (shr_bar.mp z))
    obtain ⟨b, eb, hbb⟩ := q_readable wide.rg' (w := w) (by omega) fww
    have bt : b = true := hbb.mpr clear
    subst bt
    obtain ⟨ob, eob, fb⟩ := q_first_bar wide.rg' (w := w) (by omega) fww
    have on : ob = none := by
      cases ob with
      | none => rfl
      | some t => exact absurd (fb.yes t rfl).2.1 (clear _ (fb.yes t rfl).1)
    subst on
    have i1 : ∀ x : Bool, isTy (Ty.ty x) "bool" = true := fun x => rfl
    simp only [ok_b, eb, eob, i1, Option.isSome_none, Bool.not_true, Bool.false_eq_true, if_false, sq_nx]
    exact ⟨_, rfl, _, rfl, trivial⟩
  intro _ _
  obtain ⟨w', ew', lw'⟩ := md (l.getD 13 0) (k := w + 1) (by omega)
  have ow' : modI (l.getD 13 0) ((w : Int) + 1) = .ok (w' : Int) := by rw [show (w : Int) + 1 = ((w + 1 : Nat) : Int) by omega, modI_ok (by omega), ew']
  simp only [ow', ok_b]
  obtain ⟨d2, ed2, rp2, dl2'⟩ := q_lshared rg (w := w') (by omega) (few_n rg n8 w')
  have dl3 : d2.kvs.length ≤ 20480 := Nat.le_trans dl2' (Nat.mul_le_mul_left 256 (show ring.length * (w' + 1) ≤ 80 from Nat.mul_le_mul rL (show w' + 1 ≤ 5 by omega)))
  have hh2 := lshared_lst rg rp2
  obtain ⟨bs2, ebs2, hbs2, bl2⟩ := bars_of rg rp2
  have t4 := q_told rg (w := w') (by omega) (few_n rg n8 w') hh2 hbs2 (by omega)
  have due : (Tru.tru bs2 && !(Tru.tru bs)) = false := by
    have t0 : Tru.tru bs = !bs.isEmpty := rfl
    have t1 : Tru.tru bs2 = !bs2.isEmpty := rfl
    rw [t0, t1, Bool.not_not]
    cases e : bs.isEmpty with
    | false => rw [Bool.and_false]
    | true =>
      have nob := hbs.nil_iff.mp (List.isEmpty_iff.mp e)
      have : bs2 = [] := hbs2.nil_iff.mpr fun v hv q => nob v hv (bar_mono (by omega) q)
      rw [this]
      rfl
  have g : ∀ a x : Bool, (if a = true then .ok x else .ok false : M Bool) = .ok (a && x) := fun a x => by cases a <;> rfl
  simp only [ed2, ok_b]
  rw [if_pos (by rw [sz24]; omega)]
  simp only [ok_b, ebs2, g, due, t4, Bool.not_true, Bool.false_eq_true, if_false, sq_nx]
  obtain ⟨dr, edr, hdr⟩ := q_numbers (ns.getD 3 0) (b := 4096) (c := 2) (by decide) (by decide) (by decide)
  have edr : m__law_numbers (ns.getD 3 0, 4096, 2, ()) = .ok dr := edr
  obtain ⟨x8, e8, l8⟩ := md (l.getD 8 0) (k := 4) (by decide)
  have e8 : l.getD 8 0 % 4 = (x8 : Int) := e8
  obtain ⟨x9, e9, l9⟩ := md (l.getD 9 0) (k := 2) (by decide)
  have e9 : l.getD 9 0 % 2 = (x9 : Int) := e9
  have op := q_open (n := x8 + 9) (w := x9 + 1) (by omega) (by omega) (by omega) (by omega) hdr
  have z8 : 9 + (x8 : Int) = ((x8 + 9 : Nat) : Int) := by omega
  have z9 : 1 + (x9 : Int) = ((x9 + 1 : Nat) : Int) := by omega
  simp only [edr, ok_b, e8, e9, z8, z9, op]
  exact ⟨_, rfl, _, rfl, rfl⟩
end K46

set_option Elab.async false
set_option linter.all false
set_option maxRecDepth 100000
set_option maxHeartbeats 4000000
namespace K46
open PySem PySem.Spec PyProof.Rows L2 P3 NdefX RG RG
theorem v_hull {X : Cx} {W : XW} (C : Cd X N_hull (defScope s_hull) W) (hr : Room 0 X.A) (G_zip : X.mg "zip" = none) (p_words : (List Tx)) : SV X W (rtV (R := Tx)) ([.va (p_words : (List Tx)), .un, .un, .un, .un] : P3.Ctx) (defBody s_hull) (r_hull p_words) (fun _ : Unit => ([.un, .un, .un, .un, .un] : P3.Ctx)) (fun _ : Unit => []) :=
  sv_asg 1 (av_ev C 1 (ev_idxL (ev_var C.toCt0 0 rfl rfl rfl) ev_int) rfl rfl) (fun cube1 => sv_for (s0 := (cube1)) (Γb := fun s8 : Tx => ([.va (p_words : (List Tx)), .va (s8 : Tx), .un, .un, .un] : P3.Ctx)) (Γt := fun (s8 : Tx) (i9 : Tx) => ([.va (p_words : (List Tx)), .va (s8 : Tx), .va (i9 : Tx), .un, .un] : P3.Ctx)) C (it_list (EN.ev (en_cut (ev_var C.toCt0 0 rfl rfl rfl) (eo_some ev_int) eo_none))) (pg_nm C.toCt0 2 rfl rfl (.inl rfl)) (Wk.refl _) (fun _ => (gok_name 2)) (fun s8 i9 => sv_asg 1 (av_ev C 1 (ev_join (ev_str _ rfl (by decide) (by decide)) (EN.ev (en_lc (Γt := fun (i14 : (P2 Tx Tx)) => ([.va (p_words : (List Tx)), .va (s8 : Tx), .va (i9 : Tx), .va (i14.a : Tx), .va (i14.b : Tx)] : P3.Ctx)) C.toCt [("sign", 3), ("other", 4)] (it_zip2 C.toCt0 (ev_var C.toCt0 1 rfl rfl rfl) (ev_var C.toCt0 2 rfl rfl rfl) rfl G_zip) rfl (gok_t2 (gok_name 3) (fun _ => (gok_name 4))) (by decide) (fun sx13 Hx13 Dx13 clx13 fpx13 => (pg_t2n (C.toCt.blk _ sx13 Hx13 Dx13 clx13 fpx13) (pg_nm (C.toCt.blk _ sx13 Hx13 Dx13 clx13 fpx13).toCt0 3 rfl rfl (.inr rfl)) (pg_nm (C.toCt.blk _ sx13 Hx13 Dx13 clx13 fpx13).toCt0 4 rfl rfl (.inr rfl)))) (fun i14 sx13 Hx13 Dx13 clx13 fpx13 => (ev_ite (et_cmp (ev_eq (ev_var (C.toCt.blk _ sx13 Hx13 Dx13 clx13 fpx13).toCt0 3 rfl rfl rfl) (ev_var (C.toCt.blk _ sx13 Hx13 Dx13 clx13 fpx13).toCt0 4 rfl rfl rfl))) (ev_var (C.toCt.blk _ sx13 Hx13 Dx13 clx13 fpx13).toCt0 3 rfl rfl rfl) (ev_str _ rfl (by decide) (by decide))))))) rfl rfl) (fun cube10 => sv_nil (s := (cube10)) (.cons .same (.cons .same (.cons .un (.cons .same (.cons .same .nil))))))) (fun s22 => (sv_retR (er_v (ev_var C.toCt0 1 rfl rfl rfl)))))
theorem v_words_of {X : Cx} {W : XW} (C : Cd X N_words_of (defScope s_words_of) W) (hr : Room 2 X.A) (K_MOST_OPEN : GloI X.mg "MOST_OPEN" 8) (K_MOST_WORDS : GloI X.mg "MOST_WORDS" 256) (X_TooMany : ExcX X "TooMany" 1 ["word", "limit"]) (p_cube : Tx) : SV X W (rtN (R := (List Tx))) ([.va (p_cube : Tx), .un, .un, .un, .un, .un] : P3.Ctx) (defBody s_words_of) (r_words_of p_cube) (fun _ : Unit => ([.un, .un, .un, .un, .un, .un] : P3.Ctx)) (fun _ : Unit => []) :=
  sv_if (Γj := fun j14 : Unit => ([.va (p_cube : Tx), .un, .un, .un, .un, .un] : P3.Ctx)) (et_cmp (ev_gt (ev_count (ev_var C.toCt0 0 rfl rfl rfl) (ev_str _ rfl (by decide) (by decide))) (ev_gi C.toCt0 K_MOST_OPEN rfl))) ((sv_raiseC (A := Tx × Int × Unit) C X_TooMany (hr.mono (by decide)) rfl (evs_cons (ev_str _ rfl (by decide) (by decide)) (fun x9 => (evs_cons (ev_gi C.toCt0 K_MOST_WORDS rfl) (fun x10 => evs_nil)))) rfl)) (sv_nil (s := ()) (Wk.refl _)) (fun j14 => sv_asgN 1 (an_en C 1 (en_list (els_cons (ev_str _ rfl (by decide) (by decide)) els_nil)) rfl rfl) (fun words15 => sv_for (s0 := (words15)) (Γb := fun s19 : (List Tx) => ([.va (p_cube : Tx), .ow (s19 : (List Tx)), .un, .un, .un, .un] : P3.Ctx)) (Γt := fun (s19 : (List Tx)) (i20 : Tx) => ([.va (p_cube : Tx), .ow (s19 : (List Tx)), .va (i20 : Tx), .un, .un, .un] : P3.Ctx)) C (it_str (ev_var C.toCt0 0 rfl rfl rfl)) (pg_nm C.toCt0 2 rfl rfl (.inl rfl)) (Wk.refl _) (fun _ => (gok_name 2)) (fun s19 i20 => sv_asg 3 (av_ev C 3 (ev_ite (et_cmp (ev_eq (ev_var C.toCt0 2 rfl rfl rfl) (ev_str _ rfl (by decide) (by decide)))) (ev_str _ rfl (by decide) (by decide)) (ev_var C.toCt0 2 rfl rfl rfl)) rfl rfl) (fun bits21 => sv_asgN 1 (AN.borrow (.cons .same (.cons .fz (.cons .same (.cons .same (.cons .same (.cons .same .nil)))))) (an_lc2 (Γt := fun (i27 : Tx) => ([.va (p_cube : Tx), .va (s19 : (List Tx)), .va (i20 : Tx), .va (bits21 : Tx), .va (i27 : Tx), .un] : P3.Ctx)) (Γt1 := fun (i27 : Tx) (i29 : Tx) => ([.va (p_cube : Tx), .va (s19 : (List Tx)), .va (i20 : Tx), .va (bits21 : Tx), .va (i27 : Tx), .va (i29 : Tx)] : P3.Ctx)) C 1 [("word", 4), ("bit", 5)] [5] (it_list (ev_var C.toCt0 1 rfl rfl rfl)) rfl (by decide) (gok_name 4) (by decide) (fun sx26 Hx26 Dx26 clx26 fpx26 => (pg_nm (C.toCt.blk _ sx26 Hx26 Dx26 clx26 fpx26).toCt0 4 rfl rfl (.inr rfl))) (fun sx26 Hx26 Dx26 clx26 fpx26 => (pg_nm (C.toCt.blk _ sx26 Hx26 Dx26 clx26 fpx26).toCt0 5 rfl rfl (.inr rfl))) (fun i27 sx26 Hx26 Dx26 clx26 fpx26 => (it_str (ev_var (C.toCt.blk _ sx26 Hx26 Dx26 clx26 fpx26).toCt0 3 rfl rfl rfl))) (fun _ => (gok_name 5)) (by decide) (fun i27 i29 sx26 Hx26 Dx26 clx26 fpx26 => (ev_catT (ev_var (C.toCt.blk _ sx26 Hx26 Dx26 clx26 fpx26).toCt0 4 rfl rfl rfl) (ev_var (C.toCt.blk _ sx26 Hx26 Dx26 clx26 fpx26).toCt0 5 rfl rfl rfl))) rfl rfl rfl)) (fun words25 => sv_nil (s := (words25)) (.cons .same (.cons .same (.cons .un (.cons .un (.cons .same (.cons .same .nil))))))))) (fun s34 => (sv_retO C 1 rfl rfl rfl))))
theorem v_check_ring {X : Cx} {W : XW} (C : Cd X N_check_ring (defScope s_check_ring) W) (hr : Room 2 X.A) (G_enumerate : X.mg "enumerate" = none) (G_len : X.mg "len" = none) (X_BadRing : ExcX X "BadRing" 1 ["index"]) (p_ring : (List Tx)) : SV X W (rtV (R := Unit)) ([.va (p_ring : (List Tx)), .un, .un] : P3.Ctx) (defBody s_check_ring) (r_check_ring p_ring) (fun _ : Unit => ([.un, .un, .un] : P3.Ctx)) (fun _ : Unit => []) :=
  sv_if (Γj := fun j8 : Unit => ([.va (p_ring : (List Tx)), .un, .un] : P3.Ctx)) (et_not (et_tru (ev_var C.toCt0 0 rfl rfl rfl))) ((sv_raiseC (A := Int × Unit) C X_BadRing (hr.mono (by decide)) rfl (evs_cons ev_int (fun x5 => evs_nil)) rfl)) (sv_nil (s := ()) (Wk.refl _)) (fun j8 => sv_for (s0 := ()) (Γb := fun s10 : Unit => ([.va (p_ring : (List Tx)), .un, .un] : P3.Ctx)) (Γt := fun (s10 : Unit) (i11 : (P2 Int Tx)) => ([.va (p_ring : (List Tx)), .va (i11.a : Int), .va (i11.b : Tx)] : P3.Ctx)) C (it_enum C.toCt0 (ev_var C.toCt0 0 rfl rfl rfl) rfl G_enumerate) (pg_t2n C.toCt (pg_nm C.toCt0 1 rfl rfl (.inl rfl)) (pg_nm C.toCt0 2 rfl rfl (.inl rfl))) (Wk.refl _) (fun _ => (gok_t2 (gok_name 1) (fun _ => (gok_name 2)))) (fun s10 i11 => sv_if (Γj := fun j23 : Unit => ([.va (p_ring : (List Tx)), .va (i11.a : Int), .va (i11.b : Tx)] : P3.Ctx)) (et_cmp (ev_ne (ev_lenT C.toCt0 (ev_var C.toCt0 2 rfl rfl rfl) rfl G_len) (ev_lenT C.toCt0 (ev_idxL (ev_var C.toCt0 0 rfl rfl rfl) ev_int) rfl G_len))) ((sv_raiseC (A := Int × Unit) C X_BadRing (hr.mono (by decide)) rfl (evs_cons (ev_var C.toCt0 1 rfl rfl rfl) (fun x20 => evs_nil)) rfl)) (sv_nil (s := ()) (Wk.refl _)) (fun j23 => sv_nil (s := ()) (.cons .same (.cons .un (.cons .un .nil))))) (fun s25 => sv_nil (s := ()) (.cons .un (.cons .same (.cons .same .nil)))))
theorem v_run_places {X : Cx} {W : XW} (C : Cd X N_run_places (defScope s_run_places) W) (hr : Room 3 X.A) (G_len : X.mg "len" = none) (G_range : X.mg "range" = none) (G_sorted : X.mg "sorted" = none) (F_check_ring : CalX X "check_ring" 3 ["ring"] (spV X.K X.mg m_check_ring)) (p_ring : (List Tx)) (p_start : Int) (p_steps : Int) : SV X W (rtV (R := (List Int))) ([.va (p_ring : (List Tx)), .va (p_start : Int), .va (p_steps : Int), .un] : P3.Ctx) (defBody s_run_places) (r_run_places p_ring p_start p_steps) (fun _ : Unit => ([.un, .un, .un, .un] : P3.Ctx)) (fun _ : Unit => []) :=
  sv_expr (ev_callC C.toCt0 F_check_ring (hr.mono (by decide)) (evs_cons (ev_var C.toCt0 0 rfl rfl rfl) (fun x1 => evs_nil)) rfl) (fun u3 => (sv_retR (er_v (EN.ev (en_sortS C.toCt (es_sc (Γt := fun (i8 : Int) => ([.va (p_ring : (List Tx)), .va (p_start : Int), .va (p_steps : Int), .va (i8 : Int)] : P3.Ctx)) C.toCt [("step", 3)] (it_range1 C.toCt0 (ev_add (ev_var C.toCt0 2 rfl rfl rfl) ev_int) rfl G_range) rfl (gok_name 3) (by decide) (fun sx7 Hx7 Dx7 clx7 fpx7 => (pg_nm (C.toCt.blk _ sx7 Hx7 Dx7 clx7 fpx7).toCt0 3 rfl rfl (.inr rfl))) (fun i8 sx7 Hx7 Dx7 clx7 fpx7 => (ev_mod (ev_add (ev_var (C.toCt.blk _ sx7 Hx7 Dx7 clx7 fpx7).toCt0 1 rfl rfl rfl) (ev_var (C.toCt.blk _ sx7 Hx7 Dx7 clx7 fpx7).toCt0 3 rfl rfl rfl)) (ev_len (C.toCt.blk _ sx7 Hx7 Dx7 clx7 fpx7).toCt0 (ev_var (C.toCt.blk _ sx7 Hx7 Dx7 clx7 fpx7).toCt0 0 rfl rfl rfl) rfl G_len)))) rfl G_sorted)))))
theorem v_run_hull {X : Cx} {W : XW} (C : Cd X N_run_hull (defScope s_run_hull) W) (hr : Room 4 X.A) (F_hull : CalX X "hull" 1 ["words"] (spV X.K X.mg m_hull)) (F_run_places : CalX X "run_places" 4 ["ring", "start", "steps"] (spV X.K X.mg m_run_places)) (p_ring : (List Tx)) (p_start : Int) (p_steps : Int) : SV X W (rtV (R := Tx)) ([.va (p_ring : (List Tx)), .va (p_start : Int), .va (p_steps : Int), .un] : P3.Ctx) (defBody s_run_hull) (r_run_hull p_ring p_start p_steps) (fun _ : Unit => ([.un, .un, .un, .un] : P3.Ctx)) (fun _ : Unit => []) :=
  (sv_retR (er_v (ev_callC C.toCt0 F_hull (hr.mono (by decide)) (evs_cons (EN.ev (en_lc (Γt := fun (i8 : Int) => ([.va (p_ring : (List Tx)), .va (p_start : Int), .va (p_steps : Int), .va (i8 : Int)] : P3.Ctx)) C.toCt [("place", 3)] (it_list (ev_callC C.toCt0 F_run_places (hr.mono (by decide)) (evs_cons (ev_var C.toCt0 0 rfl rfl rfl) (fun x1 => (evs_cons (ev_var C.toCt0 1 rfl rfl rfl) (fun x2 => (evs_cons (ev_var C.toCt0 2 rfl rfl rfl) (fun x3 => evs_nil)))))) rfl)) rfl (gok_name 3) (by decide) (fun sx7 Hx7 Dx7 clx7 fpx7 => (pg_nm (C.toCt.blk _ sx7 Hx7 Dx7 clx7 fpx7).toCt0 3 rfl rfl (.inr rfl))) (fun i8 sx7 Hx7 Dx7 clx7 fpx7 => (ev_idxL (ev_var (C.toCt.blk _ sx7 Hx7 Dx7 clx7 fpx7).toCt0 0 rfl rfl rfl) (ev_var (C.toCt.blk _ sx7 Hx7 Dx7 clx7 fpx7).toCt0 3 rfl rfl rfl))))) (fun x12 => evs_nil)) rfl)))
theorem v_runs {X : Cx} {W : XW} (C : Cd X N_runs (defScope s_runs) W) (hr : Room 3 X.A) (G_len : X.mg "len" = none) (G_range : X.mg "range" = none) (F_check_ring : CalX X "check_ring" 3 ["ring"] (spV X.K X.mg m_check_ring)) (p_ring : (List Tx)) (p_window : Int) : SV X W (rtV (R := (List (P2 Int Int)))) ([.va (p_ring : (List Tx)), .va (p_window : Int), .un, .un] : P3.Ctx) (defBody s_runs) (r_runs p_ring p_window) (fun _ : Unit => ([.un, .un, .un, .un] : P3.Ctx)) (fun _ : Unit => []) :=
  sv_expr (ev_callC C.toCt0 F_check_ring (hr.mono (by decide)) (evs_cons (ev_var C.toCt0 0 rfl rfl rfl) (fun x1 => evs_nil)) rfl) (fun u3 => (sv_retR (er_v (EN.ev (en_lc2 (Γt := fun (i7 : Int) => ([.va (p_ring : (List Tx)), .va (p_window : Int), .va (i7 : Int), .un] : P3.Ctx)) (Γt1 := fun (i7 : Int) (i11 : Int) => ([.va (p_ring : (List Tx)), .va (p_window : Int), .va (i7 : Int), .va (i11 : Int)] : P3.Ctx)) C.toCt [("start", 2), ("steps", 3)] [3] (it_range1 C.toCt0 (ev_len C.toCt0 (ev_var C.toCt0 0 rfl rfl rfl) rfl G_len) rfl G_range) rfl (by decide) (gok_name 2) (by decide) (fun sx6 Hx6 Dx6 clx6 fpx6 => (pg_nm (C.toCt.blk _ sx6 Hx6 Dx6 clx6 fpx6).toCt0 2 rfl rfl (.inr rfl))) (fun sx6 Hx6 Dx6 clx6 fpx6 => (pg_nm (C.toCt.blk _ sx6 Hx6 Dx6 clx6 fpx6).toCt0 3 rfl rfl (.inr rfl))) (fun i7 sx6 Hx6 Dx6 clx6 fpx6 => (it_range1 (C.toCt.blk _ sx6 Hx6 Dx6 clx6 fpx6).toCt0 (ev_add (ev_var (C.toCt.blk _ sx6 Hx6 Dx6 clx6 fpx6).toCt0 1 rfl rfl rfl) ev_int) rfl G_range)) (fun _ => (gok_name 3)) (by decide) (fun i7 i11 sx6 Hx6 Dx6 clx6 fpx6 => (ev_tup2 (ev_var (C.toCt.blk _ sx6 Hx6 Dx6 clx6 fpx6).toCt0 2 rfl rfl rfl) (ev_var (C.toCt.blk _ sx6 Hx6 Dx6 clx6 fpx6).toCt0 3 rfl rfl rfl))))))))
theorem v_held_words {X : Cx} {W : XW} (C : Cd X N_held_words (defScope s_held_words) W) (hr : Room 5 X.A) (G_sorted : X.mg "sorted" = none) (F_run_hull : CalX X "run_hull" 5 ["ring", "start", "steps"] (spV X.K X.mg m_run_hull)) (F_runs : CalX X "runs" 4 ["ring", "window"] (spV X.K X.mg m_runs)) (F_words_of : CalX X "words_of" 3 ["cube"] (spR (rtN (R := (List Tx))) X.K X.mg m_words_of)) (p_ring : (List Tx)) (p_window : Int) : SV X W (rtV (R := (List Tx))) ([.va (p_ring : (List Tx)), .va (p_window : Int), .un, .un, .un, .un] : P3.Ctx) (defBody s_held_words) (r_held_words p_ring p_window) (fun _ : Unit => ([.un, .un, .un, .un, .un, .un] : P3.Ctx)) (fun _ : Unit => []) :=
  sv_asgN 2 (an_en C 2 en_dnew rfl rfl) (fun found1 => sv_for (s0 := (found1)) (Γb := fun s6 : (Dc Tx Bool) => ([.va (p_ring : (List Tx)), .va (p_window : Int), .ow (s6 : (Dc Tx Bool)), .un, .un, .un] : P3.Ctx)) (Γt := fun (s6 : (Dc Tx Bool)) (i7 : (P2 Int Int)) => ([.va (p_ring : (List Tx)), .va (p_window : Int), .ow (s6 : (Dc Tx Bool)), .va (i7.a : Int), .va (i7.b : Int), .un] : P3.Ctx)) C (it_list (ev_callC C.toCt0 F_runs (hr.mono (by decide)) (evs_cons (ev_var C.toCt0 0 rfl rfl rfl) (fun x2 => (evs_cons (ev_var C.toCt0 1 rfl rfl rfl) (fun x3 => evs_nil)))) rfl)) (pg_t2n C.toCt (pg_nm C.toCt0 3 rfl rfl (.inl rfl)) (pg_nm C.toCt0 4 rfl rfl (.inl rfl))) (Wk.refl _) (fun _ => (gok_t2 (gok_name 3) (fun _ => (gok_name 4)))) (fun s6 i7 => sv_for (s0 := (s6)) (Γb := fun s16 : (Dc Tx Bool) => ([.va (p_ring : (List Tx)), .va (p_window : Int), .ow (s16 : (Dc Tx Bool)), .va (i7.a : Int), .va (i7.b : Int), .un] : P3.Ctx)) (Γt := fun (s16 : (Dc Tx Bool)) (i17 : Tx) => ([.va (p_ring : (List Tx)), .va (p_window : Int), .ow (s16 : (Dc Tx Bool)), .va (i7.a : Int), .va (i7.b : Int), .va (i17 : Tx)] : P3.Ctx)) C (it_list (EN.ev (en_of_er (er_callC C.toCt0 F_words_of (hr.mono (by decide)) (evs_cons (ev_callC C.toCt0 F_run_hull (hr.mono (by decide)) (evs_cons (ev_var C.toCt0 0 rfl rfl rfl) (fun x8 => (evs_cons (ev_var C.toCt0 3 rfl rfl rfl) (fun x9 => (evs_cons (ev_var C.toCt0 4 rfl rfl rfl) (fun x10 => evs_nil)))))) rfl) (fun x14 => evs_nil)) rfl)))) (pg_nm C.toCt0 5 rfl rfl (.inl rfl)) (Wk.refl _) (fun _ => (gok_name 5)) (fun s16 i17 => sv_dput C 2 rfl rfl rfl ev_bool (ev_var C.toCt0 5 rfl rfl rfl) (fun found20 => sv_nil (s := (found20)) (.cons .same (.cons .same (.cons .same (.cons .same (.cons .same (.cons .un .nil)))))))) (fun s22 => sv_nil (s := (s22)) (.cons .same (.cons .same (.cons .same (.cons .un (.cons .un (.cons .same .nil)))))))) (fun s24 => sv_wk (.cons .same (.cons .same (.cons .fz (.cons .same (.cons .same (.cons .same .nil)))))) ((sv_retR (er_v (EN.ev (en_sortK C.toCt (ev_var C.toCt0 2 rfl rfl rfl) rfl G_sorted)))))))
theorem v_first_bar {X : Cx} {W : XW} (C : Cd X N_first_bar (defScope s_first_bar) W) (hr : Room 5 X.A) (G_sorted : X.mg "sorted" = none) (F_run_hull : CalX X "run_hull" 5 ["ring", "start", "steps"] (spV X.K X.mg m_run_hull)) (F_run_places : CalX X "run_places" 4 ["ring", "start", "steps"] (spV X.K X.mg m_run_places)) (F_runs : CalX X "runs" 4 ["ring", "window"] (spV X.K X.mg m_runs)) (F_words_of : CalX X "words_of" 3 ["cube"] (spR (rtN (R := (List Tx))) X.K X.mg m_words_of)) (p_ring : (List Tx)) (p_window : Int) : SV X W (rtV (R := (Option Tx))) ([.va (p_ring : (List Tx)), .va (p_window : Int), .un, .un, .un, .un, .un, .un] : P3.Ctx) (defBody s_first_bar) (r_first_bar p_ring p_window) (fun _ : Unit => ([.un, .un, .un, .un, .un, .un, .un, .un] : P3.Ctx)) (fun _ : Unit => []) :=
  sv_asgN 2 (an_en C 2 en_dnew rfl rfl) (fun shared1 => sv_for (s0 := (shared1)) (Γb := fun s6 : (Dc Tx (List Int)) => ([.va (p_ring : (List Tx)), .va (p_window : Int), .ow (s6 : (Dc Tx (List Int))), .un, .un, .un, .un, .un] : P3.Ctx)) (Γt := fun (s6 : (Dc Tx (List Int))) (i7 : (P2 Int Int)) => ([.va (p_ring : (List Tx)), .va (p_window : Int), .ow (s6 : (Dc Tx (List Int))), .va (i7.a : Int), .va (i7.b : Int), .un, .un, .un] : P3.Ctx)) C (it_list (ev_callC C.toCt0 F_runs (hr.mono (by decide)) (evs_cons (ev_var C.toCt0 0 rfl rfl rfl) (fun x2 => (evs_cons (ev_var C.toCt0 1 rfl rfl rfl) (fun x3 => evs_nil)))) rfl)) (pg_t2n C.toCt (pg_nm C.toCt0 3 rfl rfl (.inl rfl)) (pg_nm C.toCt0 4 rfl rfl (.inl rfl))) (Wk.refl _) (fun _ => (gok_t2 (gok_name 3) (fun _ => (gok_name 4)))) (fun s6 i7 => sv_asg 5 (av_ev C 5 (ev_callC C.toCt0 F_run_places (hr.mono (by decide)) (evs_cons (ev_var C.toCt0 0 rfl rfl rfl) (fun x9 => (evs_cons (ev_var C.toCt0 3 rfl rfl rfl) (fun x10 => (evs_cons (ev_var C.toCt0 4 rfl rfl rfl) (fun x11 => evs_nil)))))) rfl) rfl rfl) (fun places8 => sv_for (s0 := (s6)) (Γb := fun s23 : (Dc Tx (List Int)) => ([.va (p_ring : (List Tx)), .va (p_window : Int), .ow (s23 : (Dc Tx (List Int))), .va (i7.a : Int), .va (i7.b : Int), .va (places8 : (List Int)), .un, .un] : P3.Ctx)) (Γt := fun (s23 : (Dc Tx (List Int))) (i24 : Tx) => ([.va (p_ring : (List Tx)), .va (p_window : Int), .ow (s23 : (Dc Tx (List Int))), .va (i7.a : Int), .va (i7.b : Int), .va (places8 : (List Int)), .va (i24 : Tx), .un] : P3.Ctx)) C (it_list (EN.ev (en_of_er (er_callC C.toCt0 F_words_of (hr.mono (by decide)) (evs_cons (ev_callC C.toCt0 F_run_hull (hr.mono (by decide)) (evs_cons (ev_var C.toCt0 0 rfl rfl rfl) (fun x15 => (evs_cons (ev_var C.toCt0 3 rfl rfl rfl) (fun x16 => (evs_cons (ev_var C.toCt0 4 rfl rfl rfl) (fun x17 => evs_nil)))))) rfl) (fun x21 => evs_nil)) rfl)))) (pg_nm C.toCt0 6 rfl rfl (.inl rfl)) (Wk.refl _) (fun _ => (gok_name 6)) (fun s23 i24 => sv_dput C 2 rfl rfl rfl (EN.ev (en_lcIf (Γt := fun (i28 : Int) => ([.va (p_ring : (List Tx)), .va (p_window : Int), .un, .va (i7.a : Int), .va (i7.b : Int), .va (places8 : (List Int)), .va (i24 : Tx), .va (i28 : Int)] : P3.Ctx)) C.toCt [("place", 7)] (it_list (ev_dgetD C.toCt0 2 (.inl rfl) rfl rfl (ev_var C.toCt0 6 rfl rfl rfl) (ev_var C.toCt0 5 rfl rfl rfl) ⟨rfl, rfl, rfl, rfl⟩)) rfl (gok_name 7) (by decide) (fun sx27 Hx27 Dx27 clx27 fpx27 => (pg_nm (C.toCt.blk _ sx27 Hx27 Dx27 clx27 fpx27).toCt0 7 rfl rfl (.inr rfl))) (fun i28 sx27 Hx27 Dx27 clx27 fpx27 => (et_cmp (ev_in (ev_var (C.toCt.blk _ sx27 Hx27 Dx27 clx27 fpx27).toCt0 7 rfl rfl rfl) (ev_var (C.toCt.blk _ sx27 Hx27 Dx27 clx27 fpx27).toCt0 5 rfl rfl rfl) rfl))) (fun i28 sx27 Hx27 Dx27 clx27 fpx27 => (ev_var (C.toCt.blk _ sx27 Hx27 Dx27 clx27 fpx27).toCt0 7 rfl rfl rfl)))) (ev_var C.toCt0 6 rfl rfl rfl) (fun shared34 => sv_nil (s := (shared34)) (.cons .same (.cons .same (.cons .same (.cons .same (.cons .same (.cons .same (.cons .un (.cons .same .nil)))))))))) (fun s36 => sv_nil (s := (s36)) (.cons .same (.cons .same (.cons .same (.cons .un (.cons .un (.cons .un (.cons .same (.cons .same .nil))))))))))) (fun s38 => sv_wk (.cons .same (.cons .same (.cons .fz (.cons .same (.cons .same (.cons .same (.cons .same (.cons .same .nil)))))))) (sv_for (s0 := ()) (Γb := fun s40 : Unit => ([.va (p_ring : (List Tx)), .va (p_window : Int), .va (s38 : (Dc Tx (List Int))), .un, .un, .un, .un, .un] : P3.Ctx)) (Γt := fun (s40 : Unit) (i41 : Tx) => ([.va (p_ring : (List Tx)), .va (p_window : Int), .va (s38 : (Dc Tx (List Int))), .un, .un, .un, .va (i41 : Tx), .un] : P3.Ctx)) C (it_list (EN.ev (en_sortK C.toCt (ev_var C.toCt0 2 rfl rfl rfl) rfl G_sorted))) (pg_nm C.toCt0 6 rfl rfl (.inl rfl)) (Wk.refl _) (fun _ => (gok_name 6)) (fun s40 i41 => sv_if (Γj := fun j50 : Unit => ([.va (p_ring : (List Tx)), .va (p_window : Int), .va (s38 : (Dc Tx (List Int))), .un, .un, .un, .va (i41 : Tx), .un] : P3.Ctx)) (et_not (et_tru (ev_dgetN C.toCt0 2 (.inr rfl) rfl rfl (ev_var C.toCt0 6 rfl rfl rfl)))) ((sv_retR (er_v (ev_some (ev_var C.toCt0 6 rfl rfl rfl))))) (sv_nil (s := ()) (Wk.refl _)) (fun j50 => sv_nil (s := ()) (.cons .same (.cons .same (.cons .same (.cons .same (.cons .same (.cons .same (.cons .un (.cons .same .nil)))))))))) (fun s52 => (sv_retR (er_v (ev_no ev_none)))))))
theorem v_is_readable {X : Cx} {W : XW} (C : Cd X N_is_readable (defScope s_is_readable) W) (hr : Room 6 X.A) (F_first_bar : CalX X "first_bar" 6 ["ring", "window"] (spV X.K X.mg m_first_bar)) (p_ring : (List Tx)) (p_window : Int) : SV X W (rtV (R := Bool)) ([.va (p_ring : (List Tx)), .va (p_window : Int)] : P3.Ctx) (defBody s_is_readable) (r_is_readable p_ring p_window) (fun _ : Unit => ([.un, .un] : P3.Ctx)) (fun _ : Unit => []) :=
  (sv_retR (er_v (ev_isN (ev_callC C.toCt0 F_first_bar (hr.mono (by decide)) (evs_cons (ev_var C.toCt0 0 rfl rfl rfl) (fun x1 => (evs_cons (ev_var C.toCt0 1 rfl rfl rfl) (fun x2 => evs_nil)))) rfl))))
theorem v__law_cell {X : Cx} {W : XW} (C : Cd X N__law_cell (defScope s__law_cell) W) (hr : Room 0 X.A) (G_len : X.mg "len" = none) (p_script : (List Int)) (p_k : Int) : SV X W (rtV (R := Int)) ([.va (p_script : (List Int)), .va (p_k : Int)] : P3.Ctx) (defBody s__law_cell) (r__law_cell p_script p_k) (fun _ : Unit => ([.un, .un] : P3.Ctx)) (fun _ : Unit => []) :=
  sv_if (Γj := fun j11 : Unit => ([.va (p_script : (List Int)), .va (p_k : Int)] : P3.Ctx)) (et_cmp (ev_lt (ev_var C.toCt0 1 rfl rfl rfl) (ev_len C.toCt0 (ev_var C.toCt0 0 rfl rfl rfl) rfl G_len))) ((sv_retR (er_v (ev_idxL (ev_var C.toCt0 0 rfl rfl rfl) (ev_var C.toCt0 1 rfl rfl rfl))))) (sv_nil (s := ()) (Wk.refl _)) (fun j11 => (sv_retR (er_v ev_int)))
theorem v__law_numbers {X : Cx} {W : XW} (C : Cd X N__law_numbers (defScope s__law_numbers) W) (hr : Room 0 X.A) (G_int : X.mg "int" = none) (G_range : X.mg "range" = none) (p_cell : Int) (p_base : Int) (p_count : Int) : SV X W (rtV (R := (List Int))) ([.va (p_cell : Int), .va (p_base : Int), .va (p_count : Int), .un, .un, .un, .un] : P3.Ctx) (defBody s__law_numbers) (r__law_numbers p_cell p_base p_count) (fun _ : Unit => ([.un, .un, .un, .un, .un, .un, .un] : P3.Ctx)) (fun _ : Unit => []) :=
  sv_asgN 3 (an_en C 3 (en_list els_nil) rfl rfl) (fun numbers1 => sv_asg 4 (av_ev C 4 (ev_var C.toCt0 0 rfl rfl rfl) rfl rfl) (fun rest2 => sv_asg 5 (av_ev C 5 (ev_mod (ev_int1 C.toCt0 (ev_add (ev_mul (ev_var C.toCt0 0 rfl rfl rfl) ev_int) ev_int) rfl G_int) ev_int) rfl rfl) (fun mixed3 => sv_for (s0 := (numbers1, rest2, mixed3)) (Γb := fun s12 : (List Int) × Int × Int => ([.va (p_cell : Int), .va (p_base : Int), .va (p_count : Int), .ow (s12.1 : (List Int)), .va (s12.2.1 : Int), .va (s12.2.2 : Int), .un] : P3.Ctx)) (Γt := fun (s12 : (List Int) × Int × Int) (i13 : Int) => ([.va (p_cell : Int), .va (p_base : Int), .va (p_count : Int), .ow (s12.1 : (List Int)), .va (s12.2.1 : Int), .va (s12.2.2 : Int), .va (i13 : Int)] : P3.Ctx)) C (it_range1 C.toCt0 (ev_var C.toCt0 2 rfl rfl rfl) rfl G_range) (pg_nm C.toCt0 6 rfl rfl (.inl rfl)) (Wk.refl _) (fun _ => (gok_name 6)) (fun s12 i13 => sv_asg 5 (av_ev C 5 (ev_mod (ev_int1 C.toCt0 (ev_add (ev_add (ev_mul (ev_var C.toCt0 5 rfl rfl rfl) ev_int) (ev_var C.toCt0 6 rfl rfl rfl)) ev_int) rfl G_int) ev_int) rfl rfl) (fun mixed14 => sv_if (Γj := fun j60 : (List Int) × Int => ([.va (p_cell : Int), .va (p_base : Int), .va (p_count : Int), .ow (j60.1 : (List Int)), .va (j60.2 : Int), .va (mixed14 : Int), .va (i13 : Int)] : P3.Ctx)) (et_w (ew_and (et_cmp (ev_ge (ev_var C.toCt0 0 rfl rfl rfl) (ev_pow ev_int ev_int))) (ew_and1 (et_cmp (ev_gt (ev_var C.toCt0 4 rfl rfl rfl) ev_int))))) (sv_app C 3 rfl rfl rfl (ev_mod (ev_int1 C.toCt0 (ev_var C.toCt0 4 rfl rfl rfl) rfl G_int) (ev_var C.toCt0 1 rfl rfl rfl)) (fun numbers49 => sv_asg 4 (av_ev C 4 (ev_fdiv (ev_var C.toCt0 4 rfl rfl rfl) (ev_var C.toCt0 1 rfl rfl rfl)) rfl rfl) (fun rest50 => sv_nil (s := (numbers49, rest50)) (Wk.refl _)))) (sv_app C 3 rfl rfl rfl (ev_mod (ev_fdiv (ev_var C.toCt0 5 rfl rfl rfl) ev_int) (ev_var C.toCt0 1 rfl rfl rfl)) (fun numbers58 => sv_nil (s := (numbers58, s12.2.1)) (Wk.refl _))) (fun j60 => sv_nil (s := (j60.1, j60.2, mixed14)) (.cons .same (.cons .same (.cons .same (.cons .same (.cons .same (.cons .same (.cons .un .nil)))))))))) (fun s62 => sv_wk (.cons .same (.cons .same (.cons .same (.cons .fz (.cons .same (.cons .same (.cons .same .nil))))))) ((sv_retR (er_v (ev_var C.toCt0 3 rfl rfl rfl))))))))
theorem v__law_word {X : Cx} {W : XW} (C : Cd X N__law_word (defScope s__law_word) W) (hr : Room 0 X.A) (G_int : X.mg "int" = none) (G_range : X.mg "range" = none) (p_number : Int) (p_wires : Int) : SV X W (rtV (R := Tx)) ([.va (p_number : Int), .va (p_wires : Int), .un, .un, .un] : P3.Ctx) (defBody s__law_word) (r__law_word p_number p_wires) (fun _ : Unit => ([.un, .un, .un, .un, .un] : P3.Ctx)) (fun _ : Unit => []) :=
  sv_asg 2 (av_ev C 2 (ev_str _ rfl (by decide) (by decide)) rfl rfl) (fun word1 => sv_asg 3 (av_ev C 3 (ev_var C.toCt0 0 rfl rfl rfl) rfl rfl) (fun rest2 => sv_for (s0 := (word1, rest2)) (Γb := fun s4 : Tx × Int => ([.va (p_number : Int), .va (p_wires : Int), .va (s4.1 : Tx), .va (s4.2 : Int), .un] : P3.Ctx)) (Γt := fun (s4 : Tx × Int) (i5 : Int) => ([.va (p_number : Int), .va (p_wires : Int), .va (s4.1 : Tx), .va (s4.2 : Int), .va (i5 : Int)] : P3.Ctx)) C (it_range1 C.toCt0 (ev_var C.toCt0 1 rfl rfl rfl) rfl G_range) (pg_nm C.toCt0 4 rfl rfl (.inl rfl)) (Wk.refl _) (fun _ => (gok_name 4)) (fun s4 i5 => sv_asg 2 (av_ev C 2 (ev_catT (ev_var C.toCt0 2 rfl rfl rfl) (ev_idxT (ev_str _ rfl (by decide) (by decide)) (ev_mod (ev_int1 C.toCt0 (ev_var C.toCt0 3 rfl rfl rfl) rfl G_int) ev_int))) rfl rfl) (fun word6 => sv_asg 3 (av_ev C 3 (ev_fdiv (ev_var C.toCt0 3 rfl rfl rfl) ev_int) rfl rfl) (fun rest14 => sv_nil (s := (word6, rest14)) (.cons .same (.cons .same (.cons .same (.cons .same (.cons .un .nil)))))))) (fun s18 => (sv_retR (er_v (ev_var C.toCt0 2 rfl rfl rfl))))))
theorem v__law_turned {X : Cx} {W : XW} (C : Cd X N__law_turned (defScope s__law_turned) W) (hr : Room 0 X.A) (G_int : X.mg "int" = none) (G_len : X.mg "len" = none) (p_word : Tx) (p_wire : Int) : SV X W (rtV (R := Tx)) ([.va (p_word : Tx), .va (p_wire : Int), .un] : P3.Ctx) (defBody s__law_turned) (r__law_turned p_word p_wire) (fun _ : Unit => ([.un, .un, .un] : P3.Ctx)) (fun _ : Unit => []) :=
  sv_if (Γj := fun j6 : Unit => ([.va (p_word : Tx), .va (p_wire : Int), .un] : P3.Ctx)) (et_cmp (ev_eq (ev_var C.toCt0 0 rfl rfl rfl) (ev_str _ rfl (by decide) (by decide)))) ((sv_retR (er_v (ev_var C.toCt0 0 rfl rfl rfl)))) (sv_nil (s := ()) (Wk.refl _)) (fun j6 => sv_asg 2 (av_ev C 2 (ev_mod (ev_int1 C.toCt0 (ev_var C.toCt0 1 rfl rfl rfl) rfl G_int) (ev_lenT C.toCt0 (ev_var C.toCt0 0 rfl rfl rfl) rfl G_len)) rfl rfl) (fun at7 => (sv_retR (er_v (ev_catT (ev_catT (ev_cutT (ev_var C.toCt0 0 rfl rfl rfl) eo_none (eo_some (ev_var C.toCt0 2 rfl rfl rfl))) (ev_idxT (ev_str _ rfl (by decide) (by decide)) (ev_intT C.toCt0 (ev_idxT (ev_var C.toCt0 0 rfl rfl rfl) (ev_var C.toCt0 2 rfl rfl rfl)) rfl G_int))) (ev_cutT (ev_var C.toCt0 0 rfl rfl rfl) (eo_some (ev_add (ev_var C.toCt0 2 rfl rfl rfl) ev_int)) eo_none))))))
theorem v__law_stretch {X : Cx} {W : XW} (C : Cd X N__law_stretch (defScope s__law_stretch) W) (hr : Room 0 X.A) (G_range : X.mg "range" = none) (p_size : Int) : SV X W (rtN (R := (List Tx))) ([.va (p_size : Int), .un, .un, .un] : P3.Ctx) (defBody s__law_stretch) (r__law_stretch p_size) (fun _ : Unit => ([.un, .un, .un, .un] : P3.Ctx)) (fun _ : Unit => []) :=
  sv_asg 1 (av_ev C 1 (ev_fdiv (ev_add (ev_var C.toCt0 0 rfl rfl rfl) ev_int) ev_int) rfl rfl) (fun wires1 => sv_asgN 2 (an_en C 2 (en_list els_nil) rfl rfl) (fun ring6 => sv_for (s0 := (ring6)) (Γb := fun s8 : (List Tx) => ([.va (p_size : Int), .va (wires1 : Int), .ow (s8 : (List Tx)), .un] : P3.Ctx)) (Γt := fun (s8 : (List Tx)) (i9 : Int) => ([.va (p_size : Int), .va (wires1 : Int), .ow (s8 : (List Tx)), .va (i9 : Int)] : P3.Ctx)) C (it_range1 C.toCt0 (ev_var C.toCt0 0 rfl rfl rfl) rfl G_range) (pg_nm C.toCt0 3 rfl rfl (.inl rfl)) (Wk.refl _) (fun _ => (gok_name 3)) (fun s8 i9 => sv_if (Γj := fun j61 : (List Tx) => ([.va (p_size : Int), .va (wires1 : Int), .ow (j61 : (List Tx)), .va (i9 : Int)] : P3.Ctx)) (et_cmp (ev_le (ev_var C.toCt0 3 rfl rfl rfl) (ev_var C.toCt0 1 rfl rfl rfl))) (sv_app C 2 rfl rfl rfl (ev_catT (ev_repT (ev_str _ rfl (by decide) (by decide)) (ev_var C.toCt0 3 rfl rfl rfl)) (ev_repT (ev_str _ rfl (by decide) (by decide)) (ev_sub (ev_var C.toCt0 1 rfl rfl rfl) (ev_var C.toCt0 3 rfl rfl rfl)))) (fun ring45 => sv_nil (s := (ring45)) (Wk.refl _))) (sv_app C 2 rfl rfl rfl (ev_catT (ev_repT (ev_str _ rfl (by decide) (by decide)) (ev_sub (ev_var C.toCt0 3 rfl rfl rfl) (ev_var C.toCt0 1 rfl rfl rfl))) (ev_repT (ev_str _ rfl (by decide) (by decide)) (ev_sub (ev_mul ev_int (ev_var C.toCt0 1 rfl rfl rfl)) (ev_var C.toCt0 3 rfl rfl rfl)))) (fun ring59 => sv_nil (s := (ring59)) (Wk.refl _))) (fun j61 => sv_nil (s := (j61)) (.cons .same (.cons .same (.cons .same (.cons .un .nil)))))) (fun s63 => (sv_retO C 2 rfl rfl rfl))))
theorem v__law_places {X : Cx} {W : XW} (C : Cd X N__law_places (defScope s__law_places) W) (hr : Room 0 X.A) (G_int : X.mg "int" = none) (G_range : X.mg "range" = none) (p_size : Int) (p_start : Int) (p_steps : Int) : SV X W (rtV (R := (List Int))) ([.va (p_size : Int), .va (p_start : Int), .va (p_steps : Int), .un] : P3.Ctx) (defBody s__law_places) (r__law_places p_size p_start p_steps) (fun _ : Unit => ([.un, .un, .un, .un] : P3.Ctx)) (fun _ : Unit => []) :=
  (sv_retR (er_v (EN.ev (en_lcIf (Γt := fun (i3 : Int) => ([.va (p_size : Int), .va (p_start : Int), .va (p_steps : Int), .va (i3 : Int)] : P3.Ctx)) C.toCt [("k", 3)] (it_range1 C.toCt0 (ev_var C.toCt0 0 rfl rfl rfl) rfl G_range) rfl (gok_name 3) (by decide) (fun sx2 Hx2 Dx2 clx2 fpx2 => (pg_nm (C.toCt.blk _ sx2 Hx2 Dx2 clx2 fpx2).toCt0 3 rfl rfl (.inr rfl))) (fun i3 sx2 Hx2 Dx2 clx2 fpx2 => (et_cmp (ev_le (ev_mod (ev_int1 (C.toCt.blk _ sx2 Hx2 Dx2 clx2 fpx2).toCt0 (ev_sub (ev_var (C.toCt.blk _ sx2 Hx2 Dx2 clx2 fpx2).toCt0 3 rfl rfl rfl) (ev_var (C.toCt.blk _ sx2 Hx2 Dx2 clx2 fpx2).toCt0 1 rfl rfl rfl)) rfl G_int) (ev_var (C.toCt.blk _ sx2 Hx2 Dx2 clx2 fpx2).toCt0 0 rfl rfl rfl)) (ev_var (C.toCt.blk _ sx2 Hx2 Dx2 clx2 fpx2).toCt0 2 rfl rfl rfl)))) (fun i3 sx2 Hx2 Dx2 clx2 fpx2 => (ev_var (C.toCt.blk _ sx2 Hx2 Dx2 clx2 fpx2).toCt0 3 rfl rfl rfl))))))
theorem v__law_cube {X : Cx} {W : XW} (C : Cd X N__law_cube (defScope s__law_cube) W) (hr : Room 0 X.A) (G_len : X.mg "len" = none) (G_range : X.mg "range" = none) (p_words : (List Tx)) : SV X W (rtV (R := Tx)) ([.va (p_words : (List Tx)), .un, .un, .un, .un] : P3.Ctx) (defBody s__law_cube) (r__law_cube p_words) (fun _ : Unit => ([.un, .un, .un, .un, .un] : P3.Ctx)) (fun _ : Unit => []) :=
  sv_asg 1 (av_ev C 1 (ev_str _ rfl (by decide) (by decide)) rfl rfl) (fun cube1 => sv_for (s0 := (cube1)) (Γb := fun s6 : Tx => ([.va (p_words : (List Tx)), .va (s6 : Tx), .un, .un, .un] : P3.Ctx)) (Γt := fun (s6 : Tx) (i7 : Int) => ([.va (p_words : (List Tx)), .va (s6 : Tx), .va (i7 : Int), .un, .un] : P3.Ctx)) C (it_range1 C.toCt0 (ev_lenT C.toCt0 (ev_idxL (ev_var C.toCt0 0 rfl rfl rfl) ev_int) rfl G_len) rfl G_range) (pg_nm C.toCt0 2 rfl rfl (.inl rfl)) (Wk.refl _) (fun _ => (gok_name 2)) (fun s6 i7 => sv_asg 3 (AN.av (an_lc (Γt := fun (i10 : Tx) => ([.va (p_words : (List Tx)), .va (s6 : Tx), .va (i7 : Int), .un, .va (i10 : Tx)] : P3.Ctx)) C 3 [("word", 4)] (it_list (ev_var C.toCt0 0 rfl rfl rfl)) rfl (gok_name 4) (by decide) (fun sx9 Hx9 Dx9 clx9 fpx9 => (pg_nm (C.toCt.blk _ sx9 Hx9 Dx9 clx9 fpx9).toCt0 4 rfl rfl (.inr rfl))) (fun i10 sx9 Hx9 Dx9 clx9 fpx9 => (ev_idxT (ev_var (C.toCt.blk _ sx9 Hx9 Dx9 clx9 fpx9).toCt0 4 rfl rfl rfl) (ev_var (C.toCt.blk _ sx9 Hx9 Dx9 clx9 fpx9).toCt0 2 rfl rfl rfl))) rfl rfl rfl)) (fun signs8 => sv_if (Γj := fun j36 : Tx => ([.va (p_words : (List Tx)), .va (j36 : Tx), .va (i7 : Int), .va (signs8 : (List Tx)), .un] : P3.Ctx)) (et_w (ew_and (et_cmp (ev_in (ev_str _ rfl (by decide) (by decide)) (ev_var C.toCt0 3 rfl rfl rfl) rfl)) (ew_and1 (et_cmp (ev_in (ev_str _ rfl (by decide) (by decide)) (ev_var C.toCt0 3 rfl rfl rfl) rfl))))) (sv_asg 1 (av_ev C 1 (ev_catT (ev_var C.toCt0 1 rfl rfl rfl) (ev_str _ rfl (by decide) (by decide))) rfl rfl) (fun cube27 => sv_nil (s := (cube27)) (Wk.refl _))) (sv_asg 1 (av_ev C 1 (ev_catT (ev_var C.toCt0 1 rfl rfl rfl) (ev_idxL (ev_var C.toCt0 3 rfl rfl rfl) ev_int)) rfl rfl) (fun cube30 => sv_nil (s := (cube30)) (Wk.refl _))) (fun j36 => sv_nil (s := (j36)) (.cons .same (.cons .same (.cons .un (.cons .un (.cons .same .nil)))))))) (fun s38 => (sv_retR (er_v (ev_var C.toCt0 1 rfl rfl rfl)))))
theorem v__law_hull {X : Cx} {W : XW} (C : Cd X N__law_hull (defScope s__law_hull) W) (hr : Room 1 X.A) (G_len : X.mg "len" = none) (F__law_cube : CalX X "_law_cube" 1 ["words"] (spV X.K X.mg m__law_cube)) (F__law_places : CalX X "_law_places" 1 ["size", "start", "steps"] (spV X.K X.mg m__law_places)) (p_ring : (List Tx)) (p_start : Int) (p_steps : Int) : SV X W (rtV (R := Tx)) ([.va (p_ring : (List Tx)), .va (p_start : Int), .va (p_steps : Int), .un] : P3.Ctx) (defBody s__law_hull) (r__law_hull p_ring p_start p_steps) (fun _ : Unit => ([.un, .un, .un, .un] : P3.Ctx)) (fun _ : Unit => []) :=
  (sv_retR (er_v (ev_callC C.toCt0 F__law_cube (hr.mono (by decide)) (evs_cons (EN.ev (en_lc (Γt := fun (i9 : Int) => ([.va (p_ring : (List Tx)), .va (p_start : Int), .va (p_steps : Int), .va (i9 : Int)] : P3.Ctx)) C.toCt [("k", 3)] (it_list (ev_callC C.toCt0 F__law_places (hr.mono (by decide)) (evs_cons (ev_len C.toCt0 (ev_var C.toCt0 0 rfl rfl rfl) rfl G_len) (fun x2 => (evs_cons (ev_var C.toCt0 1 rfl rfl rfl) (fun x3 => (evs_cons (ev_var C.toCt0 2 rfl rfl rfl) (fun x4 => evs_nil)))))) rfl)) rfl (gok_name 3) (by decide) (fun sx8 Hx8 Dx8 clx8 fpx8 => (pg_nm (C.toCt.blk _ sx8 Hx8 Dx8 clx8 fpx8).toCt0 3 rfl rfl (.inr rfl))) (fun i9 sx8 Hx8 Dx8 clx8 fpx8 => (ev_idxL (ev_var (C.toCt.blk _ sx8 Hx8 Dx8 clx8 fpx8).toCt0 0 rfl rfl rfl) (ev_var (C.toCt.blk _ sx8 Hx8 Dx8 clx8 fpx8).toCt0 3 rfl rfl rfl))))) (fun x13 => evs_nil)) rfl)))
theorem v__law_words {X : Cx} {W : XW} (C : Cd X N__law_words (defScope s__law_words) W) (hr : Room 0 X.A)  (p_cube : Tx) : SV X W (rtV (R := (List Tx))) ([.va (p_cube : Tx), .un, .un, .un] : P3.Ctx) (defBody s__law_words) (r__law_words p_cube) (fun _ : Unit => ([.un, .un, .un, .un] : P3.Ctx)) (fun _ : Unit => []) :=
  sv_asg 1 (av_ev C 1 (EN.ev (en_list (els_cons (ev_str _ rfl (by decide) (by decide)) els_nil))) rfl rfl) (fun words1 => sv_for (s0 := (words1)) (Γb := fun s5 : (List Tx) => ([.va (p_cube : Tx), .va (s5 : (List Tx)), .un, .un] : P3.Ctx)) (Γt := fun (s5 : (List Tx)) (i6 : Tx) => ([.va (p_cube : Tx), .va (s5 : (List Tx)), .va (i6 : Tx), .un] : P3.Ctx)) C (it_str (ev_var C.toCt0 0 rfl rfl rfl)) (pg_nm C.toCt0 2 rfl rfl (.inl rfl)) (Wk.refl _) (fun _ => (gok_name 2)) (fun s5 i6 => sv_if (Γj := fun j48 : (List Tx) => ([.va (p_cube : Tx), .va (j48 : (List Tx)), .va (i6 : Tx), .un] : P3.Ctx)) (et_cmp (ev_eq (ev_var C.toCt0 2 rfl rfl rfl) (ev_str _ rfl (by decide) (by decide)))) (sv_asg 1 (av_ev C 1 (EN.ev (en_catL (EN.ev (en_lc (Γt := fun (i30 : Tx) => ([.va (p_cube : Tx), .va (s5 : (List Tx)), .va (i6 : Tx), .va (i30 : Tx)] : P3.Ctx)) C.toCt [("word", 3)] (it_list (ev_var C.toCt0 1 rfl rfl rfl)) rfl (gok_name 3) (by decide) (fun sx29 Hx29 Dx29 clx29 fpx29 => (pg_nm (C.toCt.blk _ sx29 Hx29 Dx29 clx29 fpx29).toCt0 3 rfl rfl (.inr rfl))) (fun i30 sx29 Hx29 Dx29 clx29 fpx29 => (ev_catT (ev_var (C.toCt.blk _ sx29 Hx29 Dx29 clx29 fpx29).toCt0 3 rfl rfl rfl) (ev_str _ rfl (by decide) (by decide)))))) (EN.ev (en_lc (Γt := fun (i35 : Tx) => ([.va (p_cube : Tx), .va (s5 : (List Tx)), .va (i6 : Tx), .va (i35 : Tx)] : P3.Ctx)) C.toCt [("word", 3)] (it_list (ev_var C.toCt0 1 rfl rfl rfl)) rfl (gok_name 3) (by decide) (fun sx34 Hx34 Dx34 clx34 fpx34 => (pg_nm (C.toCt.blk _ sx34 Hx34 Dx34 clx34 fpx34).toCt0 3 rfl rfl (.inr rfl))) (fun i35 sx34 Hx34 Dx34 clx34 fpx34 => (ev_catT (ev_var (C.toCt.blk _ sx34 Hx34 Dx34 clx34 fpx34).toCt0 3 rfl rfl rfl) (ev_str _ rfl (by decide) (by decide)))))))) rfl rfl) (fun words28 => sv_nil (s := (words28)) (Wk.refl _))) (sv_asg 1 (AN.av (an_lc (Γt := fun (i43 : Tx) => ([.va (p_cube : Tx), .va (s5 : (List Tx)), .va (i6 : Tx), .va (i43 : Tx)] : P3.Ctx)) C 1 [("word", 3)] (it_list (ev_var C.toCt0 1 rfl rfl rfl)) rfl (gok_name 3) (by decide) (fun sx42 Hx42 Dx42 clx42 fpx42 => (pg_nm (C.toCt.blk _ sx42 Hx42 Dx42 clx42 fpx42).toCt0 3 rfl rfl (.inr rfl))) (fun i43 sx42 Hx42 Dx42 clx42 fpx42 => (ev_catT (ev_var (C.toCt.blk _ sx42 Hx42 Dx42 clx42 fpx42).toCt0 3 rfl rfl rfl) (ev_var (C.toCt.blk _ sx42 Hx42 Dx42 clx42 fpx42).toCt0 2 rfl rfl rfl))) rfl rfl rfl)) (fun words41 => sv_nil (s := (words41)) (Wk.refl _))) (fun j48 => sv_nil (s := (j48)) (.cons .same (.cons .same (.cons .un (.cons .same .nil)))))) (fun s50 => (sv_retR (er_v (ev_var C.toCt0 1 rfl rfl rfl)))))
theorem v__law_shared {X : Cx} {W : XW} (C : Cd X N__law_shared (defScope s__law_shared) W) (hr : Room 2 X.A) (G_len : X.mg "len" = none) (G_range : X.mg "range" = none) (F__law_hull : CalX X "_law_hull" 2 ["ring", "start", "steps"] (spV X.K X.mg m__law_hull)) (F__law_places : CalX X "_law_places" 1 ["size", "start", "steps"] (spV X.K X.mg m__law_places)) (F__law_words : CalX X "_law_words" 1 ["cube"] (spV X.K X.mg m__law_words)) (p_ring : (List Tx)) (p_window : Int) : SV X W (rtN (R := (Dc Tx (List Int)))) ([.va (p_ring : (List Tx)), .va (p_window : Int), .un, .un, .un, .un, .un, .un] : P3.Ctx) (defBody s__law_shared) (r__law_shared p_ring p_window) (fun _ : Unit => ([.un, .un, .un, .un, .un, .un, .un, .un] : P3.Ctx)) (fun _ : Unit => []) :=
  sv_asgN 2 (an_en C 2 en_dnew rfl rfl) (fun shared1 => sv_for (s0 := (shared1)) (Γb := fun s4 : (Dc Tx (List Int)) => ([.va (p_ring : (List Tx)), .va (p_window : Int), .ow (s4 : (Dc Tx (List Int))), .un, .un, .un, .un, .un] : P3.Ctx)) (Γt := fun (s4 : (Dc Tx (List Int))) (i5 : Int) => ([.va (p_ring : (List Tx)), .va (p_window : Int), .ow (s4 : (Dc Tx (List Int))), .va (i5 : Int), .un, .un, .un, .un] : P3.Ctx)) C (it_range1 C.toCt0 (ev_len C.toCt0 (ev_var C.toCt0 0 rfl rfl rfl) rfl G_len) rfl G_range) (pg_nm C.toCt0 3 rfl rfl (.inl rfl)) (Wk.refl _) (fun _ => (gok_name 3)) (fun s4 i5 => sv_for (s0 := (s4)) (Γb := fun s9 : (Dc Tx (List Int)) => ([.va (p_ring : (List Tx)), .va (p_window : Int), .ow (s9 : (Dc Tx (List Int))), .va (i5 : Int), .un, .un, .un, .un] : P3.Ctx)) (Γt := fun (s9 : (Dc Tx (List Int))) (i10 : Int) => ([.va (p_ring : (List Tx)), .va (p_window : Int), .ow (s9 : (Dc Tx (List Int))), .va (i5 : Int), .va (i10 : Int), .un, .un, .un] : P3.Ctx)) C (it_range1 C.toCt0 (ev_add (ev_var C.toCt0 1 rfl rfl rfl) ev_int) rfl G_range) (pg_nm C.toCt0 4 rfl rfl (.inl rfl)) (Wk.refl _) (fun _ => (gok_name 4)) (fun s9 i10 => sv_asg 5 (av_ev C 5 (ev_callC C.toCt0 F__law_places (hr.mono (by decide)) (evs_cons (ev_len C.toCt0 (ev_var C.toCt0 0 rfl rfl rfl) rfl G_len) (fun x13 => (evs_cons (ev_var C.toCt0 3 rfl rfl rfl) (fun x14 => (evs_cons (ev_var C.toCt0 4 rfl rfl rfl) (fun x15 => evs_nil)))))) rfl) rfl rfl) (fun places11 => sv_for (s0 := (s9)) (Γb := fun s27 : (Dc Tx (List Int)) => ([.va (p_ring : (List Tx)), .va (p_window : Int), .ow (s27 : (Dc Tx (List Int))), .va (i5 : Int), .va (i10 : Int), .va (places11 : (List Int)), .un, .un] : P3.Ctx)) (Γt := fun (s27 : (Dc Tx (List Int))) (i28 : Tx) => ([.va (p_ring : (List Tx)), .va (p_window : Int), .ow (s27 : (Dc Tx (List Int))), .va (i5 : Int), .va (i10 : Int), .va (places11 : (List Int)), .va (i28 : Tx), .un] : P3.Ctx)) C (it_list (ev_callC C.toCt0 F__law_words (hr.mono (by decide)) (evs_cons (ev_callC C.toCt0 F__law_hull (hr.mono (by decide)) (evs_cons (ev_var C.toCt0 0 rfl rfl rfl) (fun x19 => (evs_cons (ev_var C.toCt0 3 rfl rfl rfl) (fun x20 => (evs_cons (ev_var C.toCt0 4 rfl rfl rfl) (fun x21 => evs_nil)))))) rfl) (fun x25 => evs_nil)) rfl)) (pg_nm C.toCt0 6 rfl rfl (.inl rfl)) (Wk.refl _) (fun _ => (gok_name 6)) (fun s27 i28 => sv_dput C 2 rfl rfl rfl (EN.ev (en_lcIf (Γt := fun (i32 : Int) => ([.va (p_ring : (List Tx)), .va (p_window : Int), .un, .va (i5 : Int), .va (i10 : Int), .va (places11 : (List Int)), .va (i28 : Tx), .va (i32 : Int)] : P3.Ctx)) C.toCt [("k", 7)] (it_list (ev_dgetD C.toCt0 2 (.inl rfl) rfl rfl (ev_var C.toCt0 6 rfl rfl rfl) (ev_var C.toCt0 5 rfl rfl rfl) ⟨rfl, rfl, rfl, rfl⟩)) rfl (gok_name 7) (by decide) (fun sx31 Hx31 Dx31 clx31 fpx31 => (pg_nm (C.toCt.blk _ sx31 Hx31 Dx31 clx31 fpx31).toCt0 7 rfl rfl (.inr rfl))) (fun i32 sx31 Hx31 Dx31 clx31 fpx31 => (et_cmp (ev_in (ev_var (C.toCt.blk _ sx31 Hx31 Dx31 clx31 fpx31).toCt0 7 rfl rfl rfl) (ev_var (C.toCt.blk _ sx31 Hx31 Dx31 clx31 fpx31).toCt0 5 rfl rfl rfl) rfl))) (fun i32 sx31 Hx31 Dx31 clx31 fpx31 => (ev_var (C.toCt.blk _ sx31 Hx31 Dx31 clx31 fpx31).toCt0 7 rfl rfl rfl)))) (ev_var C.toCt0 6 rfl rfl rfl) (fun shared38 => sv_nil (s := (shared38)) (.cons .same (.cons .same (.cons .same (.cons .same (.cons .same (.cons .same (.cons .un (.cons .same .nil)))))))))) (fun s40 => sv_nil (s := (s40)) (.cons .same (.cons .same (.cons .same (.cons .same (.cons .un (.cons .un (.cons .same (.cons .same .nil))))))))))) (fun s42 => sv_nil (s := (s42)) (.cons .same (.cons .same (.cons .same (.cons .un (.cons .same (.cons .same (.cons .same (.cons .same .nil)))))))))) (fun s44 => (sv_retO C 2 rfl rfl rfl)))
theorem v__law_order {X : Cx} {W : XW} (C : Cd X N__law_order (defScope s__law_order) W) (hr : Room 1 X.A) (G_int : X.mg "int" = none) (G_len : X.mg "len" = none) (G_list : X.mg "list" = none) (G_range : X.mg "range" = none) (F__law_numbers : CalX X "_law_numbers" 1 ["cell", "base", "count"] (spV X.K X.mg m__law_numbers)) (p_cell : Int) (p_count : Int) : SV X W (rtV (R := (List Int))) ([.va (p_cell : Int), .va (p_count : Int), .un, .un, .un] : P3.Ctx) (defBody s__law_order) (r__law_order p_cell p_count) (fun _ : Unit => ([.un, .un, .un, .un, .un] : P3.Ctx)) (fun _ : Unit => []) :=
  sv_asgN 2 (an_en C 2 (en_listRng C.toCt (ev_var C.toCt0 1 rfl rfl rfl) rfl G_list rfl G_range) rfl rfl) (fun left1 => sv_asgN 3 (an_en C 3 (en_list els_nil) rfl rfl) (fun order3 => sv_for (s0 := (left1, order3)) (Γb := fun s10 : (List Int) × (List Int) => ([.va (p_cell : Int), .va (p_count : Int), .ow (s10.1 : (List Int)), .ow (s10.2 : (List Int)), .un] : P3.Ctx)) (Γt := fun (s10 : (List Int) × (List Int)) (i11 : Int) => ([.va (p_cell : Int), .va (p_count : Int), .ow (s10.1 : (List Int)), .ow (s10.2 : (List Int)), .va (i11 : Int)] : P3.Ctx)) C (it_list (ev_callC C.toCt0 F__law_numbers (hr.mono (by decide)) (evs_cons (ev_var C.toCt0 0 rfl rfl rfl) (fun x4 => (evs_cons ev_int (fun x5 => (evs_cons (ev_var C.toCt0 1 rfl rfl rfl) (fun x6 => evs_nil)))))) rfl)) (pg_nm C.toCt0 4 rfl rfl (.inl rfl)) (Wk.refl _) (fun _ => (gok_name 4)) (fun s10 i11 => sv_appPop C 3 2 (by decide) rfl rfl rfl rfl rfl rfl (EV.borrow (.cons .same (.cons .same (.cons .fz (.cons .same (.cons .same .nil))))) (ev_mod (ev_int1 C.toCt0 (ev_var C.toCt0 4 rfl rfl rfl) rfl G_int) (ev_len C.toCt0 (ev_var C.toCt0 2 rfl rfl rfl) rfl G_len))) (fun order17 left18 => sv_nil (s := (left18, order17)) (.cons .same (.cons .same (.cons .same (.cons .same (.cons .un .nil))))))) (fun s21 => sv_wk (.cons .same (.cons .same (.cons .same (.cons .fz (.cons .same .nil))))) ((sv_retR (er_v (ev_var C.toCt0 3 rfl rfl rfl)))))))
theorem v__law_ring {X : Cx} {W : XW} (C : Cd X N__law_ring (defScope s__law_ring) W) (hr : Room 1 X.A) (G_int : X.mg "int" = none) (G_min : X.mg "min" = none) (G_range : X.mg "range" = none) (F__law_numbers : CalX X "_law_numbers" 1 ["cell", "base", "count"] (spV X.K X.mg m__law_numbers)) (F__law_stretch : CalX X "_law_stretch" 1 ["size"] (spR (rtN (R := (List Tx))) X.K X.mg m__law_stretch)) (F__law_turned : CalX X "_law_turned" 1 ["word", "wire"] (spV X.K X.mg m__law_turned)) (F__law_word : CalX X "_law_word" 1 ["number", "wires"] (spV X.K X.mg m__law_word)) (p_cell : Int) (p_window : Int) (p_numbers : (List Int)) : SV X W (rtV (R := (List Tx))) ([.va (p_cell : Int), .va (p_window : Int), .va (p_numbers : (List Int)), .un, .un, .un, .un, .un, .un, .un, .un] : P3.Ctx) (defBody s__law_ring) (r__law_ring p_cell p_window p_numbers) (fun _ : Unit => ([.un, .un, .un, .un, .un, .un, .un, .un, .un, .un, .un] : P3.Ctx)) (fun _ : Unit => []) :=
  sv_asg 3 (av_ev C 3 (ev_callC C.toCt0 F__law_numbers (hr.mono (by decide)) (evs_cons (ev_var C.toCt0 0 rfl rfl rfl) (fun x2 => (evs_cons ev_int (fun x3 => (evs_cons ev_int (fun x4 => evs_nil)))))) rfl) rfl rfl) (fun drawn1 => sv_asg 4 (av_ev C 4 (ev_mod (ev_int1 C.toCt0 (ev_idxL (ev_var C.toCt0 2 rfl rfl rfl) ev_int) rfl G_int) ev_int) rfl rfl) (fun style8 => sv_asg 5 (av_ev C 5 (ev_add ev_int (ev_mod (ev_int1 C.toCt0 (ev_idxL (ev_var C.toCt0 2 rfl rfl rfl) ev_int) rfl G_int) ev_int)) rfl rfl) (fun size14 => sv_if (Γj := fun j75 : Unit => ([.va (p_cell : Int), .va (p_window : Int), .va (p_numbers : (List Int)), .va (drawn1 : (List Int)), .va (style8 : Int), .va (size14 : Int), .un, .un, .un, .un, .un] : P3.Ctx)) (et_cmp (ev_eq (ev_var C.toCt0 4 rfl rfl rfl) ev_int)) (sv_asg 6 (av_ev C 6 (ev_mod (ev_int1 C.toCt0 (ev_idxL (ev_var C.toCt0 2 rfl rfl rfl) ev_int) rfl G_int) ev_int) rfl rfl) (fun wires49 => (sv_retR (er_v (EN.ev (en_lc (Γt := fun (i67 : Int) => ([.va (p_cell : Int), .va (p_window : Int), .va (p_numbers : (List Int)), .va (drawn1 : (List Int)), .va (style8 : Int), .va (size14 : Int), .va (wires49 : Int), .un, .un, .un, .va (i67 : Int)] : P3.Ctx)) C.toCt [("number", 10)] (it_list (EN.ev (en_cut (ev_var C.toCt0 3 rfl rfl rfl) eo_none (eo_some (ev_add ev_int (ev_mod (ev_int1 C.toCt0 (ev_idxL (ev_var C.toCt0 2 rfl rfl rfl) ev_int) rfl G_int) ev_int)))))) rfl (gok_name 10) (by decide) (fun sx66 Hx66 Dx66 clx66 fpx66 => (pg_nm (C.toCt.blk _ sx66 Hx66 Dx66 clx66 fpx66).toCt0 10 rfl rfl (.inr rfl))) (fun i67 sx66 Hx66 Dx66 clx66 fpx66 => (ev_callC (C.toCt.blk _ sx66 Hx66 Dx66 clx66 fpx66).toCt0 F__law_word (hr.mono (by decide)) (evs_cons (ev_var (C.toCt.blk _ sx66 Hx66 Dx66 clx66 fpx66).toCt0 10 rfl rfl rfl) (fun x68 => (evs_cons (ev_var (C.toCt.blk _ sx66 Hx66 Dx66 clx66 fpx66).toCt0 6 rfl rfl rfl) (fun x69 => evs_nil)))) rfl)))))))) (sv_nil (s := ()) (Wk.refl _)) (fun j75 => sv_if (Γj := fun j153 : Unit => ([.va (p_cell : Int), .va (p_window : Int), .va (p_numbers : (List Int)), .va (drawn1 : (List Int)), .va (style8 : Int), .va (size14 : Int), .un, .un, .un, .un, .un] : P3.Ctx)) (et_cmp (ev_eq (ev_var C.toCt0 4 rfl rfl rfl) ev_int)) (sv_asgN 7 (an_en C 7 (en_list (els_cons (ev_callC C.toCt0 F__law_word (hr.mono (by decide)) (evs_cons (ev_idxL (ev_var C.toCt0 3 rfl rfl rfl) ev_int) (fun x125 => (evs_cons (ev_add ev_int (ev_mod (ev_int1 C.toCt0 (ev_idxL (ev_var C.toCt0 2 rfl rfl rfl) ev_int) rfl G_int) ev_int)) (fun x126 => evs_nil)))) rfl) els_nil)) rfl rfl) (fun ring115 => sv_for (s0 := (ring115)) (Γb := fun s133 : (List Tx) => ([.va (p_cell : Int), .va (p_window : Int), .va (p_numbers : (List Int)), .va (drawn1 : (List Int)), .va (style8 : Int), .va (size14 : Int), .un, .ow (s133 : (List Tx)), .un, .un, .un] : P3.Ctx)) (Γt := fun (s133 : (List Tx)) (i134 : Int) => ([.va (p_cell : Int), .va (p_window : Int), .va (p_numbers : (List Int)), .va (drawn1 : (List Int)), .va (style8 : Int), .va (size14 : Int), .un, .ow (s133 : (List Tx)), .va (i134 : Int), .un, .un] : P3.Ctx)) C (it_range2 C.toCt0 ev_int (ev_var C.toCt0 5 rfl rfl rfl) rfl G_range) (pg_nm C.toCt0 8 rfl rfl (.inl rfl)) (Wk.refl _) (fun _ => (gok_name 8)) (fun s133 i134 => sv_app C 7 rfl rfl rfl (EV.borrow (.cons .same (.cons .same (.cons .same (.cons .same (.cons .same (.cons .same (.cons .same (.cons .fz (.cons .same (.cons .same (.cons .same .nil))))))))))) (ev_callC C.toCt0 F__law_turned (hr.mono (by decide)) (evs_cons (ev_idxL (ev_var C.toCt0 7 rfl rfl rfl) (ev_sub (ev_var C.toCt0 8 rfl rfl rfl) ev_int)) (fun x143 => (evs_cons (ev_fdiv (ev_idxL (ev_var C.toCt0 3 rfl rfl rfl) (ev_var C.toCt0 8 rfl rfl rfl)) ev_int) (fun x144 => evs_nil)))) rfl)) (fun ring148 => sv_nil (s := (ring148)) (.cons .same (.cons .same (.cons .same (.cons .same (.cons .same (.cons .same (.cons .same (.cons .same (.cons .un (.cons .same (.cons .same .nil))))))))))))) (fun s150 => sv_wk (.cons .same (.cons .same (.cons .same (.cons .same (.cons .same (.cons .same (.cons .same (.cons .fz (.cons .same (.cons .same (.cons .same .nil))))))))))) ((sv_retR (er_v (ev_var C.toCt0 7 rfl rfl rfl))))))) (sv_nil (s := ()) (Wk.refl _)) (fun j153 => sv_if (Γj := fun j185 : Int => ([.va (p_cell : Int), .va (p_window : Int), .va (p_numbers : (List Int)), .va (drawn1 : (List Int)), .va (style8 : Int), .va (j185 : Int), .un, .un, .un, .un, .un] : P3.Ctx)) (et_cmp (ev_gt (ev_var C.toCt0 4 rfl rfl rfl) ev_int)) (sv_asg 5 (av_ev C 5 (ev_min C.toCt ev_int (ev_add (ev_add (ev_mul ev_int (ev_var C.toCt0 1 rfl rfl rfl)) ev_int) (ev_mod (ev_int1 C.toCt0 (ev_idxL (ev_var C.toCt0 2 rfl rfl rfl) ev_int) rfl G_int) ev_int)) rfl G_min) rfl rfl) (fun size170 => sv_nil (s := (size170)) (Wk.refl _))) (sv_nil (s := (size14)) (Wk.refl _)) (fun j185 => sv_asgR C 7 (er_callC C.toCt0 F__law_stretch (hr.mono (by decide)) (evs_cons (ev_var C.toCt0 5 rfl rfl rfl) (fun x187 => evs_nil)) rfl) rfl rfl (fun ring189 => sv_if (Γj := fun j231 : (List Tx) => ([.va (p_cell : Int), .va (p_window : Int), .va (p_numbers : (List Int)), .va (drawn1 : (List Int)), .va (style8 : Int), .va (j185 : Int), .un, .ow (j231 : (List Tx)), .un, .un, .un] : P3.Ctx)) (et_cmp (ev_eq (ev_var C.toCt0 4 rfl rfl rfl) ev_int)) (sv_asg 9 (av_ev C 9 (ev_mod (ev_int1 C.toCt0 (ev_idxL (ev_var C.toCt0 2 rfl rfl rfl) ev_int) rfl G_int) (ev_var C.toCt0 5 rfl rfl rfl)) rfl rfl) (fun at211 => sv_seti C 7 rfl rfl rfl (EV.borrow (.cons .same (.cons .same (.cons .same (.cons .same (.cons .same (.cons .same (.cons .same (.cons .fz (.cons .same (.cons .same (.cons .same .nil))))))))))) (ev_callC C.toCt0 F__law_turned (hr.mono (by decide)) (evs_cons (ev_idxL (ev_var C.toCt0 7 rfl rfl rfl) (ev_var C.toCt0 9 rfl rfl rfl)) (fun x223 => (evs_cons (ev_fdiv (ev_idxL (ev_var C.toCt0 3 rfl rfl rfl) ev_int) ev_int) (fun x224 => evs_nil)))) rfl)) (EV.borrow (.cons .same (.cons .same (.cons .same (.cons .same (.cons .same (.cons .same (.cons .same (.cons .fz (.cons .same (.cons .same (.cons .same .nil))))))))))) (ev_var C.toCt0 9 rfl rfl rfl)) (fun ring229 => sv_nil (s := (ring229)) (.cons .same (.cons .same (.cons .same (.cons .same (.cons .same (.cons .same (.cons .same (.cons .same (.cons .same (.cons .un (.cons .same .nil)))))))))))))) (sv_nil (s := (ring189)) (Wk.refl _)) (fun j231 => sv_wk (.cons .same (.cons .same (.cons .same (.cons .same (.cons .same (.cons .same (.cons .same (.cons .fz (.cons .same (.cons .same (.cons .same .nil))))))))))) ((sv_retR (er_v (ev_var C.toCt0 7 rfl rfl rfl))))))))))))
theorem v__law_dress {X : Cx} {W : XW} (C : Cd X N__law_dress (defScope s__law_dress) W) (hr : Room 0 X.A) (G_int : X.mg "int" = none) (p_word : Tx) (p_order : (List Int)) (p_mask : Tx) : SV X W (rtV (R := Tx)) ([.va (p_word : Tx), .va (p_order : (List Int)), .va (p_mask : Tx), .un] : P3.Ctx) (defBody s__law_dress) (r__law_dress p_word p_order p_mask) (fun _ : Unit => ([.un, .un, .un, .un] : P3.Ctx)) (fun _ : Unit => []) :=
  (sv_retR (er_v (ev_join (ev_str _ rfl (by decide) (by decide)) (EN.ev (en_lc (Γt := fun (i2 : Int) => ([.va (p_word : Tx), .va (p_order : (List Int)), .va (p_mask : Tx), .va (i2 : Int)] : P3.Ctx)) C.toCt [("k", 3)] (it_list (ev_var C.toCt0 1 rfl rfl rfl)) rfl (gok_name 3) (by decide) (fun sx1 Hx1 Dx1 clx1 fpx1 => (pg_nm (C.toCt.blk _ sx1 Hx1 Dx1 clx1 fpx1).toCt0 3 rfl rfl (.inr rfl))) (fun i2 sx1 Hx1 Dx1 clx1 fpx1 => (ev_idxT (ev_str _ rfl (by decide) (by decide)) (ev_intB (C.toCt.blk _ sx1 Hx1 Dx1 clx1 fpx1).toCt0 (ev_ne (ev_idxT (ev_var (C.toCt.blk _ sx1 Hx1 Dx1 clx1 fpx1).toCt0 0 rfl rfl rfl) (ev_var (C.toCt.blk _ sx1 Hx1 Dx1 clx1 fpx1).toCt0 3 rfl rfl rfl)) (ev_idxT (ev_var (C.toCt.blk _ sx1 Hx1 Dx1 clx1 fpx1).toCt0 2 rfl rfl rfl) (ev_var (C.toCt.blk _ sx1 Hx1 Dx1 clx1 fpx1).toCt0 3 rfl rfl rfl))) rfl G_int))))))))
theorem v__law_told_right {X : Cx} {W : XW} (C : Cd X N__law_told_right (defScope s__law_told_right) W) (hr : Room 7 X.A) (G_bool : X.mg "bool" = none) (G_isinstance : X.mg "isinstance" = none) (G_list : X.mg "list" = none) (F_first_bar : CalX X "first_bar" 6 ["ring", "window"] (spV X.K X.mg m_first_bar)) (F_held_words : CalX X "held_words" 6 ["ring", "window"] (spV X.K X.mg m_held_words)) (F_is_readable : CalX X "is_readable" 7 ["ring", "window"] (spV X.K X.mg m_is_readable)) (p_ring : (List Tx)) (p_window : Int) (p_held : (List Tx)) (p_bars : (List Tx)) : SV X W (rtV (R := Bool)) ([.va (p_ring : (List Tx)), .va (p_window : Int), .va (p_held : (List Tx)), .va (p_bars : (List Tx)), .un, .un, .un, .un] : P3.Ctx) (defBody s__law_told_right) (r__law_told_right p_ring p_window p_held p_bars) (fun _ : Unit => ([.un, .un, .un, .un, .un, .un, .un, .un] : P3.Ctx)) (fun _ : Unit => []) :=
  sv_asg 4 (av_ev C 4 (EN.ev (en_listOf C.toCt0 (ev_var C.toCt0 0 rfl rfl rfl) rfl G_list)) rfl rfl) (fun given1 => sv_asg 5 (av_ev C 5 (ev_callC C.toCt0 F_is_readable (hr.mono (by decide)) (evs_cons (ev_var C.toCt0 4 rfl rfl rfl) (fun x4 => (evs_cons (ev_var C.toCt0 1 rfl rfl rfl) (fun x5 => evs_nil)))) rfl) rfl rfl) (fun told3 => sv_if (Γj := fun j17 : Unit => ([.va (p_ring : (List Tx)), .va (p_window : Int), .va (p_held : (List Tx)), .va (p_bars : (List Tx)), .va (given1 : (List Tx)), .va (told3 : Bool), .un, .un] : P3.Ctx)) (et_w (ew_or (et_not (et_ev (ev_isi C.toCt0 (ev_var C.toCt0 5 rfl rfl rfl) (by intro x; rfl) rfl G_isinstance rfl G_bool rfl))) (ew_or1 (et_cmp (ev_ne (ev_var C.toCt0 5 rfl rfl rfl) (ev_notTru (ev_var C.toCt0 3 rfl rfl rfl))))))) ((sv_retR (er_v ev_bool))) (sv_nil (s := ()) (Wk.refl _)) (fun j17 => sv_asg 6 (av_ev C 6 (ev_callC C.toCt0 F_first_bar (hr.mono (by decide)) (evs_cons (ev_var C.toCt0 4 rfl rfl rfl) (fun x19 => (evs_cons (ev_var C.toCt0 1 rfl rfl rfl) (fun x20 => evs_nil)))) rfl) rfl rfl) (fun bar18 => sv_asg 7 (av_ev C 7 (ev_callC C.toCt0 F_held_words (hr.mono (by decide)) (evs_cons (ev_var C.toCt0 4 rfl rfl rfl) (fun x24 => (evs_cons (ev_var C.toCt0 1 rfl rfl rfl) (fun x25 => evs_nil)))) rfl) rfl rfl) (fun words23 => (sv_retR (er_v (ev_and (ev_eqD C.toCt0 (ev_var C.toCt0 6 rfl rfl rfl) (ev_idxL (EN.ev (en_catL (ev_mapSome (ev_var C.toCt0 3 rfl rfl rfl)) (EN.ev (en_list (els_cons (ev_no ev_none) els_nil))))) ev_int)) (ev_and (ev_isi C.toCt0 (ev_var C.toCt0 7 rfl rfl rfl) (by intro x; rfl) rfl G_isinstance rfl G_list rfl) (ev_and (ev_eqD C.toCt0 (ev_var C.toCt0 7 rfl rfl rfl) (ev_var C.toCt0 2 rfl rfl rfl)) (ev_and1 (ev_eqD C.toCt0 (ev_var C.toCt0 4 rfl rfl rfl) (ev_var C.toCt0 0 rfl rfl rfl)))))))))))))
theorem v__law_too_many {X : Cx} {W : XW} {A_ClockError A_TooMany : Addr} (C : Cd X N__law_too_many (defScope s__law_too_many) W) (hr : Room 7 X.A) (G_ValueError : X.mg "ValueError" = none) (G_isinstance : X.mg "isinstance" = none) (F_first_bar : CalX X "first_bar" 6 ["ring", "window"] (spV X.K X.mg m_first_bar)) (F_held_words : CalX X "held_words" 6 ["ring", "window"] (spV X.K X.mg m_held_words)) (F_is_readable : CalX X "is_readable" 7 ["ring", "window"] (spV X.K X.mg m_is_readable)) (N_ClockError : Names X "ClockError" (.ref A_ClockError)) (Q_ClockError : TabOk X.K X.mg (.ref A_ClockError) [("TooMany", true), ("BadRing", true)]) (G_cls_TooMany : X.mg "TooMany" = some (.ref A_TooMany)) (I_TooMany : IsOk X.K X.mg (.ref A_TooMany) [("TooMany", true), ("BadRing", false)]) (I_ValueError : IsOk X.K X.mg (.type "ValueError") [("TooMany", true), ("BadRing", true)]) (D_limit : FldOk X.K X.mg "limit" ["TooMany"]) (D_word : FldOk X.K X.mg "word" ["TooMany"]) (p_which : Int) (p_ring : (List Tx)) (p_window : Int) : SV X W (rtV (R := Bool)) ([.va (p_which : Int), .va (p_ring : (List Tx)), .va (p_window : Int), .un] : P3.Ctx) (defBody s__law_too_many) (r__law_too_many p_which p_ring p_window) (fun _ : Unit => ([.un, .un, .un, .un] : P3.Ctx)) (fun _ : Unit => []) :=
  sv_try (i := 3) (Γ0 := fun _ : Unit => ([.va (p_which : Int), .va (p_ring : (List Tx)), .va (p_window : Int), .un] : P3.Ctx)) (Γn1 := fun j38 : Unit => ([.un, .un, .un, .un] : P3.Ctx)) C rfl rfl N_ClockError Q_ClockError (tb_if (fun W pn xe tk => (et_cmp (ev_eq (ev_var (C.toCt.tr tk).toCt0 0 rfl rfl rfl) ev_int))) (tb_exprU (fun W pn xe tk => (ev_callC (C.toCt.tr tk).toCt0 F_held_words (hr.mono (by decide)) (evs_cons (ev_var (C.toCt.tr tk).toCt0 1 rfl rfl rfl) (fun x4 => (evs_cons (ev_var (C.toCt.tr tk).toCt0 2 rfl rfl rfl) (fun x5 => evs_nil)))) rfl))) (tb_if (fun W pn xe tk => (et_cmp (ev_eq (ev_var (C.toCt.tr tk).toCt0 0 rfl rfl rfl) ev_int))) (tb_exprU (fun W pn xe tk => (ev_callC (C.toCt.tr tk).toCt0 F_first_bar (hr.mono (by decide)) (evs_cons (ev_var (C.toCt.tr tk).toCt0 1 rfl rfl rfl) (fun x10 => (evs_cons (ev_var (C.toCt.tr tk).toCt0 2 rfl rfl rfl) (fun x11 => evs_nil)))) rfl))) (tb_exprU (fun W pn xe tk => (ev_callC (C.toCt.tr tk).toCt0 F_is_readable (hr.mono (by decide)) (evs_cons (ev_var (C.toCt.tr tk).toCt0 1 rfl rfl rfl) (fun x14 => (evs_cons (ev_var (C.toCt.tr tk).toCt0 2 rfl rfl rfl) (fun x15 => evs_nil)))) rfl))))) (fun c Ca oe pn hm hz hf => (sv_retR (er_v (ev_and (ev_isXo (C.toCt.su c.a _) 3 hm hz hf (G_cls_TooMany) I_TooMany rfl rfl rfl rfl rfl G_isinstance) (ev_and (ev_isXb (C.toCt.su c.a _) 3 hm hz hf G_ValueError rfl I_ValueError rfl rfl rfl rfl rfl G_isinstance) (ev_and (ev_eq (ev_fld (C.toCt.su c.a _) 3 hm hz hf D_word rfl rfl rfl) (ev_str _ rfl (by decide) (by decide))) (ev_and1 (ev_eq (ev_fld (C.toCt.su c.a _) 3 hm hz hf D_limit rfl rfl rfl) ev_int)))))))) (fun j38 => sv_stk) (fun _ => (sv_retR (er_v ev_bool)))
theorem v__law_open_right {X : Cx} {W : XW} (C : Cd X N__law_open_right (defScope s__law_open_right) W) (hr : Room 8 X.A) (G_enumerate : X.mg "enumerate" = none) (G_list : X.mg "list" = none) (G_range : X.mg "range" = none) (G_sorted : X.mg "sorted" = none) (F__law_cube : CalX X "_law_cube" 1 ["words"] (spV X.K X.mg m__law_cube)) (F__law_order : CalX X "_law_order" 2 ["cell", "count"] (spV X.K X.mg m__law_order)) (F__law_told_right : CalX X "_law_told_right" 8 ["ring", "window", "held", "bars"] (spV X.K X.mg m__law_told_right)) (F__law_too_many : CalX X "_law_too_many" 8 ["which", "ring", "window"] (spV X.K X.mg m__law_too_many)) (F__law_turned : CalX X "_law_turned" 1 ["word", "wire"] (spV X.K X.mg m__law_turned)) (F__law_word : CalX X "_law_word" 1 ["number", "wires"] (spV X.K X.mg m__law_word)) (F__law_words : CalX X "_law_words" 1 ["cube"] (spV X.K X.mg m__law_words)) (p_drawn : (List Int)) (p_wires : Int) (p_window : Int) : SV X W (rtV (R := Bool)) ([.va (p_drawn : (List Int)), .va (p_wires : Int), .va (p_window : Int), .un, .un, .un, .un, .un, .un] : P3.Ctx) (defBody s__law_open_right) (r__law_open_right p_drawn p_wires p_window) (fun _ : Unit => ([.un, .un, .un, .un, .un, .un, .un, .un, .un] : P3.Ctx)) (fun _ : Unit => []) :=
  sv_asg 3 (av_ev C 3 (ev_callC C.toCt0 F__law_word (hr.mono (by decide)) (evs_cons (ev_idxL (ev_var C.toCt0 0 rfl rfl rfl) ev_int) (fun x4 => (evs_cons (ev_var C.toCt0 1 rfl rfl rfl) (fun x5 => evs_nil)))) rfl) rfl rfl) (fun first1 => sv_asg 4 (av_ev C 4 (ev_var C.toCt0 3 rfl rfl rfl) rfl rfl) (fun second8 => sv_for (s0 := (second8, (none : (Option (List Tx))))) (Γb := fun s20 : Tx × (Option (List Tx)) => ([.va (p_drawn : (List Int)), .va (p_wires : Int), .va (p_window : Int), .va (first1 : Tx), .va (s20.1 : Tx), .un, .un, mbS (s20.2 : (Option (List Tx))), .un] : P3.Ctx)) (Γt := fun (s20 : Tx × (Option (List Tx))) (i21 : (P2 Int Int)) => ([.va (p_drawn : (List Int)), .va (p_wires : Int), .va (p_window : Int), .va (first1 : Tx), .va (s20.1 : Tx), .va (i21.a : Int), .va (i21.b : Int), mbS (s20.2 : (Option (List Tx))), .un] : P3.Ctx)) C (it_enum C.toCt0 (EN.ev (en_cut (ev_callC C.toCt0 F__law_order (hr.mono (by decide)) (evs_cons (ev_idxL (ev_var C.toCt0 0 rfl rfl rfl) ev_int) (fun x11 => (evs_cons (ev_var C.toCt0 1 rfl rfl rfl) (fun x12 => evs_nil)))) rfl) eo_none (eo_some ev_int))) rfl G_enumerate) (pg_t2n C.toCt (pg_nm C.toCt0 5 rfl rfl (.inl rfl)) (pg_nm C.toCt0 6 rfl rfl (.inl rfl))) (Wk.refl _) (fun _ => (gok_t2 (gok_name 5) (fun _ => (gok_name 6)))) (fun s20 i21 => sv_asg 4 (av_ev C 4 (ev_callC C.toCt0 F__law_turned (hr.mono (by decide)) (evs_cons (ev_var C.toCt0 4 rfl rfl rfl) (fun x23 => (evs_cons (ev_var C.toCt0 6 rfl rfl rfl) (fun x24 => evs_nil)))) rfl) rfl rfl) (fun second22 => sv_asg 7 (av_ev C 7 (EN.ev (en_list (els_cons (ev_var C.toCt0 3 rfl rfl rfl) (els_cons (ev_var C.toCt0 4 rfl rfl rfl) els_nil)))) rfl rfl) (fun ring27 => sv_if (Γj := fun j52 : Unit => ([.va (p_drawn : (List Int)), .va (p_wires : Int), .va (p_window : Int), .va (first1 : Tx), .va (second22 : Tx), .va (i21.a : Int), .va (i21.b : Int), .va (ring27 : (List Tx)), .un] : P3.Ctx)) (et_w (ew_and (et_cmp (ev_eq (ev_var C.toCt0 5 rfl rfl rfl) ev_int)) (ew_and1 (et_not (et_ev (ev_callC C.toCt0 F__law_told_right (hr.mono (by decide)) (evs_cons (ev_var C.toCt0 7 rfl rfl rfl) (fun x39 => (evs_cons (ev_var C.toCt0 2 rfl rfl rfl) (fun x40 => (evs_cons (EN.ev (en_sortTx C.toCt0 (ev_callC C.toCt0 F__law_words (hr.mono (by decide)) (evs_cons (ev_callC C.toCt0 F__law_cube (hr.mono (by decide)) (evs_cons (ev_var C.toCt0 7 rfl rfl rfl) (fun x34 => evs_nil)) rfl) (fun x36 => evs_nil)) rfl) rfl G_sorted)) (fun x41 => (evs_cons (EN.ev (en_list els_nil)) (fun x42 => evs_nil)))))))) rfl)))))) ((sv_retR (er_v ev_bool))) (sv_nil (s := ()) (Wk.refl _)) (fun j52 => sv_nil (s := (second22, (some ring27))) (.cons .same (.cons .same (.cons .same (.cons .same (.cons .same (.cons .un (.cons .un (.cons .same (.cons .same .nil))))))))))))) (fun s54 => (sv_mb 7 rfl (fun u55 => sv_if (Γj := fun j69 : Unit => ([.va (p_drawn : (List Int)), .va (p_wires : Int), .va (p_window : Int), .va (first1 : Tx), .va (s54.1 : Tx), .un, .un, .va (u55 : (List Tx)), .un] : P3.Ctx)) (et_not (et_ev (ev_callC C.toCt0 F__law_told_right (hr.mono (by decide)) (evs_cons (ev_var C.toCt0 7 rfl rfl rfl) (fun x57 => (evs_cons ev_int (fun x58 => (evs_cons (EN.ev (en_sortTx C.toCt0 (ev_var C.toCt0 7 rfl rfl rfl) rfl G_sorted)) (fun x59 => (evs_cons (EN.ev (en_list els_nil)) (fun x60 => evs_nil)))))))) rfl))) ((sv_retR (er_v ev_bool))) (sv_nil (s := ()) (Wk.refl _)) (fun j69 => sv_for (s0 := ()) (Γb := fun s71 : Unit => ([.va (p_drawn : (List Int)), .va (p_wires : Int), .va (p_window : Int), .va (first1 : Tx), .va (s54.1 : Tx), .un, .un, .va (u55 : (List Tx)), .un] : P3.Ctx)) (Γt := fun (s71 : Unit) (i72 : Int) => ([.va (p_drawn : (List Int)), .va (p_wires : Int), .va (p_window : Int), .va (first1 : Tx), .va (s54.1 : Tx), .un, .un, .va (u55 : (List Tx)), .va (i72 : Int)] : P3.Ctx)) C (it_range1 C.toCt0 ev_int rfl G_range) (pg_nm C.toCt0 8 rfl rfl (.inl rfl)) (Wk.refl _) (fun _ => (gok_name 8)) (fun s71 i72 => sv_if (Γj := fun j84 : Unit => ([.va (p_drawn : (List Int)), .va (p_wires : Int), .va (p_window : Int), .va (first1 : Tx), .va (s54.1 : Tx), .un, .un, .va (u55 : (List Tx)), .va (i72 : Int)] : P3.Ctx)) (et_not (et_ev (ev_callC C.toCt0 F__law_too_many (hr.mono (by decide)) (evs_cons (ev_var C.toCt0 8 rfl rfl rfl) (fun x74 => (evs_cons (EN.ev (en_listOf C.toCt0 (ev_var C.toCt0 7 rfl rfl rfl) rfl G_list)) (fun x75 => (evs_cons (ev_var C.toCt0 2 rfl rfl rfl) (fun x76 => evs_nil)))))) rfl))) ((sv_retR (er_v ev_bool))) (sv_nil (s := ()) (Wk.refl _)) (fun j84 => sv_nil (s := ()) (.cons .same (.cons .same (.cons .same (.cons .same (.cons .same (.cons .same (.cons .same (.cons .same (.cons .un .nil))))))))))) (fun s86 => (sv_retR (er_v ev_bool)))))))))
theorem v_law {X : Cx} {W : XW} (C : Cd X N_law (defScope s_law) W) (hr : Room 9 X.A) (G_bool : X.mg "bool" = none) (G_enumerate : X.mg "enumerate" = none) (G_int : X.mg "int" = none) (G_isinstance : X.mg "isinstance" = none) (G_len : X.mg "len" = none) (G_list : X.mg "list" = none) (G_sorted : X.mg "sorted" = none) (F__law_cell : CalX X "_law_cell" 1 ["script", "k"] (spV X.K X.mg m__law_cell)) (F__law_dress : CalX X "_law_dress" 1 ["word", "order", "mask"] (spV X.K X.mg m__law_dress)) (F__law_numbers : CalX X "_law_numbers" 1 ["cell", "base", "count"] (spV X.K X.mg m__law_numbers)) (F__law_open_right : CalX X "_law_open_right" 9 ["drawn", "wires", "window"] (spV X.K X.mg m__law_open_right)) (F__law_order : CalX X "_law_order" 2 ["cell", "count"] (spV X.K X.mg m__law_order)) (F__law_ring : CalX X "_law_ring" 2 ["cell", "window", "numbers"] (spV X.K X.mg m__law_ring)) (F__law_shared : CalX X "_law_shared" 3 ["ring", "window"] (spR (rtN (R := (Dc Tx (List Int)))) X.K X.mg m__law_shared)) (F__law_told_right : CalX X "_law_told_right" 8 ["ring", "window", "held", "bars"] (spV X.K X.mg m__law_told_right)) (F__law_word : CalX X "_law_word" 1 ["number", "wires"] (spV X.K X.mg m__law_word)) (F_first_bar : CalX X "first_bar" 6 ["ring", "window"] (spV X.K X.mg m_first_bar)) (F_is_readable : CalX X "is_readable" 7 ["ring", "window"] (spV X.K X.mg m_is_readable)) (p_script : (List Int)) : SV X W (rtV (R := Bool)) ([.va (p_script : (List Int)), .un, .un, .un, .un, .un, .un, .un, .un, .un, .un, .un, .un, .un, .un, .un, .un, .un, .un, .un, .un] : P3.Ctx) (defBody s_law) (r_law p_script) (fun _ : Unit => ([.un, .un, .un, .un, .un, .un, .un, .un, .un, .un, .un, .un, .un, .un, .un, .un, .un, .un, .un, .un, .un] : P3.Ctx)) (fun _ : Unit => []) :=
  sv_asg 1 (av_ev C 1 (ev_callC C.toCt0 F__law_numbers (hr.mono (by decide)) (evs_cons (ev_callC C.toCt0 F__law_cell (hr.mono (by decide)) (evs_cons (ev_var C.toCt0 0 rfl rfl rfl) (fun x2 => (evs_cons ev_int (fun x3 => evs_nil)))) rfl) (fun x6 => (evs_cons ev_int (fun x7 => (evs_cons ev_int (fun x8 => evs_nil)))))) rfl) rfl rfl) (fun numbers1 => sv_asg 2 (av_ev C 2 (ev_mod (ev_int1 C.toCt0 (ev_idxL (ev_var C.toCt0 1 rfl rfl rfl) ev_int) rfl G_int) ev_int) rfl rfl) (fun window12 => sv_asg 3 (av_ev C 3 (ev_callC C.toCt0 F__law_ring (hr.mono (by decide)) (evs_cons (ev_callC C.toCt0 F__law_cell (hr.mono (by decide)) (evs_cons (ev_var C.toCt0 0 rfl rfl rfl) (fun x19 => (evs_cons ev_int (fun x20 => evs_nil)))) rfl) (fun x23 => (evs_cons (ev_var C.toCt0 2 rfl rfl rfl) (fun x24 => (evs_cons (ev_var C.toCt0 1 rfl rfl rfl) (fun x25 => evs_nil)))))) rfl) rfl rfl) (fun ring18 => sv_asgR C 4 (er_callC C.toCt0 F__law_shared (hr.mono (by decide)) (evs_cons (ev_var C.toCt0 3 rfl rfl rfl) (fun x30 => (evs_cons (ev_var C.toCt0 2 rfl rfl rfl) (fun x31 => evs_nil)))) rfl) rfl rfl (fun shared34 => sv_wk (.cons .same (.cons .same (.cons .same (.cons .same (.cons .fz (.cons .same (.cons .same (.cons .same (.cons .same (.cons .same (.cons .same (.cons .same (.cons .same (.cons .same (.cons .same (.cons .same (.cons .same (.cons .same (.cons .same (.cons .same (.cons .same .nil))))))))))))))))))))) (sv_asg 5 (av_ev C 5 (EN.ev (en_sortK C.toCt (ev_var C.toCt0 4 rfl rfl rfl) rfl G_sorted)) rfl rfl) (fun held35 => sv_asg 6 (AN.av (an_lcIf (Γt := fun (i39 : Tx) => ([.va (p_script : (List Int)), .va (numbers1 : (List Int)), .va (window12 : Int), .va (ring18 : (List Tx)), .va (shared34 : (Dc Tx (List Int))), .va (held35 : (List Tx)), .un, .un, .un, .un, .un, .un, .un, .un, .un, .un, .un, .un, .un, .va (i39 : Tx), .un] : P3.Ctx)) C 6 [("word", 19)] (it_list (ev_var C.toCt0 5 rfl rfl rfl)) rfl (gok_name 19) (by decide) (fun sx38 Hx38 Dx38 clx38 fpx38 => (pg_nm (C.toCt.blk _ sx38 Hx38 Dx38 clx38 fpx38).toCt0 19 rfl rfl (.inr rfl))) (fun i39 sx38 Hx38 Dx38 clx38 fpx38 => (et_not (et_tru (ev_dgetN (C.toCt.blk _ sx38 Hx38 Dx38 clx38 fpx38).toCt0 4 (.inr rfl) rfl rfl (ev_var (C.toCt.blk _ sx38 Hx38 Dx38 clx38 fpx38).toCt0 19 rfl rfl rfl))))) (fun i39 sx38 Hx38 Dx38 clx38 fpx38 => (ev_var (C.toCt.blk _ sx38 Hx38 Dx38 clx38 fpx38).toCt0 19 rfl rfl rfl)) rfl rfl rfl)) (fun bars37 => sv_asg 7 (av_ev C 7 (ev_mod (ev_int1 C.toCt0 (ev_idxL (ev_var C.toCt0 1 rfl rfl rfl) ev_int) rfl G_int) (ev_len C.toCt0 (ev_var C.toCt0 3 rfl rfl rfl) rfl G_len)) rfl rfl) (fun at44 => sv_asg 8 (av_ev C 8 (EN.ev (en_catL (EN.ev (en_cut (ev_var C.toCt0 3 rfl rfl rfl) (eo_some (ev_var C.toCt0 7 rfl rfl rfl)) eo_none)) (EN.ev (en_cut (ev_var C.toCt0 3 rfl rfl rfl) eo_none (eo_some (ev_var C.toCt0 7 rfl rfl rfl)))))) rfl rfl) (fun turned51 => sv_if (Γj := fun j74 : (List Tx) => ([.va (p_script : (List Int)), .va (numbers1 : (List Int)), .va (window12 : Int), .va (ring18 : (List Tx)), .va (shared34 : (Dc Tx (List Int))), .va (held35 : (List Tx)), .va (bars37 : (List Tx)), .va (at44 : Int), .va (j74 : (List Tx)), .un, .un, .un, .un, .un, .un, .un, .un, .un, .un, .un, .un] : P3.Ctx)) (et_cmp (ev_eq (ev_mod (ev_int1 C.toCt0 (ev_idxL (ev_var C.toCt0 1 rfl rfl rfl) ev_int) rfl G_int) ev_int) ev_int)) (sv_asg 8 (av_ev C 8 (EN.ev (en_rev (ev_var C.toCt0 8 rfl rfl rfl))) rfl rfl) (fun turned71 => sv_nil (s := (turned71)) (Wk.refl _))) (sv_nil (s := (turned51)) (Wk.refl _)) (fun j74 => sv_if (Γj := fun j87 : Unit => ([.va (p_script : (List Int)), .va (numbers1 : (List Int)), .va (window12 : Int), .va (ring18 : (List Tx)), .va (shared34 : (Dc Tx (List Int))), .va (held35 : (List Tx)), .va (bars37 : (List Tx)), .va (at44 : Int), .va (j74 : (List Tx)), .un, .un, .un, .un, .un, .un, .un, .un, .un, .un, .un, .un] : P3.Ctx)) (et_not (et_ev (ev_callC C.toCt0 F__law_told_right (hr.mono (by decide)) (evs_cons (ev_var C.toCt0 8 rfl rfl rfl) (fun x75 => (evs_cons (ev_var C.toCt0 2 rfl rfl rfl) (fun x76 => (evs_cons (ev_var C.toCt0 5 rfl rfl rfl) (fun x77 => (evs_cons (ev_var C.toCt0 6 rfl rfl rfl) (fun x78 => evs_nil)))))))) rfl))) ((sv_retR (er_v ev_bool))) (sv_nil (s := ()) (Wk.refl _)) (fun j87 => sv_asg 9 (av_ev C 9 (ev_callC C.toCt0 F__law_order (hr.mono (by decide)) (evs_cons (ev_callC C.toCt0 F__law_cell (hr.mono (by decide)) (evs_cons (ev_var C.toCt0 0 rfl rfl rfl) (fun x89 => (evs_cons ev_int (fun x90 => evs_nil)))) rfl) (fun x96 => (evs_cons (ev_lenT C.toCt0 (ev_idxL (ev_var C.toCt0 3 rfl rfl rfl) ev_int) rfl G_len) (fun x97 => evs_nil)))) rfl) rfl rfl) (fun order88 => sv_asg 10 (av_ev C 10 (ev_callC C.toCt0 F__law_word (hr.mono (by decide)) (evs_cons (ev_idxL (ev_var C.toCt0 1 rfl rfl rfl) ev_int) (fun x106 => (evs_cons (ev_lenT C.toCt0 (ev_idxL (ev_var C.toCt0 3 rfl rfl rfl) ev_int) rfl G_len) (fun x107 => evs_nil)))) rfl) rfl rfl) (fun mask100 => sv_asg 11 (AN.av (an_lc (Γt := fun (i112 : Tx) => ([.va (p_script : (List Int)), .va (numbers1 : (List Int)), .va (window12 : Int), .va (ring18 : (List Tx)), .va (shared34 : (Dc Tx (List Int))), .va (held35 : (List Tx)), .va (bars37 : (List Tx)), .va (at44 : Int), .va (j74 : (List Tx)), .va (order88 : (List Int)), .va (mask100 : Tx), .un, .un, .un, .un, .un, .un, .un, .un, .va (i112 : Tx), .un] : P3.Ctx)) C 11 [("word", 19)] (it_list (ev_var C.toCt0 3 rfl rfl rfl)) rfl (gok_name 19) (by decide) (fun sx111 Hx111 Dx111 clx111 fpx111 => (pg_nm (C.toCt.blk _ sx111 Hx111 Dx111 clx111 fpx111).toCt0 19 rfl rfl (.inr rfl))) (fun i112 sx111 Hx111 Dx111 clx111 fpx111 => (ev_callC (C.toCt.blk _ sx111 Hx111 Dx111 clx111 fpx111).toCt0 F__law_dress (hr.mono (by decide)) (evs_cons (ev_var (C.toCt.blk _ sx111 Hx111 Dx111 clx111 fpx111).toCt0 19 rfl rfl rfl) (fun x113 => (evs_cons (ev_var (C.toCt.blk _ sx111 Hx111 Dx111 clx111 fpx111).toCt0 9 rfl rfl rfl) (fun x114 => (evs_cons (ev_var (C.toCt.blk _ sx111 Hx111 Dx111 clx111 fpx111).toCt0 10 rfl rfl rfl) (fun x115 => evs_nil)))))) rfl)) rfl rfl rfl)) (fun other110 => sv_asg 12 (av_ev C 12 (EN.ev (en_sortTx C.toCt0 (EN.ev (en_lc (Γt := fun (i122 : Tx) => ([.va (p_script : (List Int)), .va (numbers1 : (List Int)), .va (window12 : Int), .va (ring18 : (List Tx)), .va (shared34 : (Dc Tx (List Int))), .va (held35 : (List Tx)), .va (bars37 : (List Tx)), .va (at44 : Int), .va (j74 : (List Tx)), .va (order88 : (List Int)), .va (mask100 : Tx), .va (other110 : (List Tx)), .un, .un, .un, .un, .un, .un, .un, .va (i122 : Tx), .un] : P3.Ctx)) C.toCt [("word", 19)] (it_list (ev_var C.toCt0 5 rfl rfl rfl)) rfl (gok_name 19) (by decide) (fun sx121 Hx121 Dx121 clx121 fpx121 => (pg_nm (C.toCt.blk _ sx121 Hx121 Dx121 clx121 fpx121).toCt0 19 rfl rfl (.inr rfl))) (fun i122 sx121 Hx121 Dx121 clx121 fpx121 => (ev_callC (C.toCt.blk _ sx121 Hx121 Dx121 clx121 fpx121).toCt0 F__law_dress (hr.mono (by decide)) (evs_cons (ev_var (C.toCt.blk _ sx121 Hx121 Dx121 clx121 fpx121).toCt0 19 rfl rfl rfl) (fun x123 => (evs_cons (ev_var (C.toCt.blk _ sx121 Hx121 Dx121 clx121 fpx121).toCt0 9 rfl rfl rfl) (fun x124 => (evs_cons (ev_var (C.toCt.blk _ sx121 Hx121 Dx121 clx121 fpx121).toCt0 10 rfl rfl rfl) (fun x125 => evs_nil)))))) rfl)))) rfl G_sorted)) rfl rfl) (fun due120 => sv_if (Γj := fun j153 : Unit => ([.va (p_script : (List Int)), .va (numbers1 : (List Int)), .va (window12 : Int), .va (ring18 : (List Tx)), .va (shared34 : (Dc Tx (List Int))), .va (held35 : (List Tx)), .va (bars37 : (List Tx)), .va (at44 : Int), .va (j74 : (List Tx)), .va (order88 : (List Int)), .va (mask100 : Tx), .va (other110 : (List Tx)), .va (due120 : (List Tx)), .un, .un, .un, .un, .un, .un, .un, .un] : P3.Ctx)) (et_not (et_ev (ev_callC C.toCt0 F__law_told_right (hr.mono (by decide)) (evs_cons (ev_var C.toCt0 11 rfl rfl rfl) (fun x141 => (evs_cons (ev_var C.toCt0 2 rfl rfl rfl) (fun x142 => (evs_cons (ev_var C.toCt0 12 rfl rfl rfl) (fun x143 => (evs_cons (EN.ev (en_sortTx C.toCt0 (EN.ev (en_lc (Γt := fun (i132 : Tx) => ([.va (p_script : (List Int)), .va (numbers1 : (List Int)), .va (window12 : Int), .va (ring18 : (List Tx)), .va (shared34 : (Dc Tx (List Int))), .va (held35 : (List Tx)), .va (bars37 : (List Tx)), .va (at44 : Int), .va (j74 : (List Tx)), .va (order88 : (List Int)), .va (mask100 : Tx), .va (other110 : (List Tx)), .va (due120 : (List Tx)), .un, .un, .un, .un, .un, .un, .va (i132 : Tx), .un] : P3.Ctx)) C.toCt [("word", 19)] (it_list (ev_var C.toCt0 6 rfl rfl rfl)) rfl (gok_name 19) (by decide) (fun sx131 Hx131 Dx131 clx131 fpx131 => (pg_nm (C.toCt.blk _ sx131 Hx131 Dx131 clx131 fpx131).toCt0 19 rfl rfl (.inr rfl))) (fun i132 sx131 Hx131 Dx131 clx131 fpx131 => (ev_callC (C.toCt.blk _ sx131 Hx131 Dx131 clx131 fpx131).toCt0 F__law_dress (hr.mono (by decide)) (evs_cons (ev_var (C.toCt.blk _ sx131 Hx131 Dx131 clx131 fpx131).toCt0 19 rfl rfl rfl) (fun x133 => (evs_cons (ev_var (C.toCt.blk _ sx131 Hx131 Dx131 clx131 fpx131).toCt0 9 rfl rfl rfl) (fun x134 => (evs_cons (ev_var (C.toCt.blk _ sx131 Hx131 Dx131 clx131 fpx131).toCt0 10 rfl rfl rfl) (fun x135 => evs_nil)))))) rfl)))) rfl G_sorted)) (fun x144 => evs_nil)))))))) rfl))) ((sv_retR (er_v ev_bool))) (sv_nil (s := ()) (Wk.refl _)) (fun j153 => sv_asg 13 (av_ev C 13 (ev_callC C.toCt0 F__law_word (hr.mono (by decide)) (evs_cons (ev_add (ev_mul (ev_idxL (ev_var C.toCt0 1 rfl rfl rfl) ev_int) ev_int) (ev_idxL (ev_var C.toCt0 1 rfl rfl rfl) ev_int)) (fun x163 => (evs_cons ev_int (fun x164 => evs_nil)))) rfl) rfl rfl) (fun more154 => sv_if (Γj := fun j367 : Unit => ([.va (p_script : (List Int)), .va (numbers1 : (List Int)), .va (window12 : Int), .va (ring18 : (List Tx)), .va (shared34 : (Dc Tx (List Int))), .va (held35 : (List Tx)), .va (bars37 : (List Tx)), .va (at44 : Int), .va (j74 : (List Tx)), .va (order88 : (List Int)), .va (mask100 : Tx), .va (other110 : (List Tx)), .va (due120 : (List Tx)), .va (more154 : Tx), .un, .un, .un, .un, .un, .un, .un] : P3.Ctx)) (et_cmp (ev_eq (ev_mod (ev_int1 C.toCt0 (ev_idxL (ev_var C.toCt0 1 rfl rfl rfl) ev_int) rfl G_int) ev_int) ev_int)) (sv_asg 14 (av_ev C 14 (ev_idxT (ev_var C.toCt0 13 rfl rfl rfl) ev_int) rfl rfl) (fun sign270 => sv_asg 15 (AN.av (an_lc (Γt := fun (i275 : Tx) => ([.va (p_script : (List Int)), .va (numbers1 : (List Int)), .va (window12 : Int), .va (ring18 : (List Tx)), .va (shared34 : (Dc Tx (List Int))), .va (held35 : (List Tx)), .va (bars37 : (List Tx)), .va (at44 : Int), .va (j74 : (List Tx)), .va (order88 : (List Int)), .va (mask100 : Tx), .va (other110 : (List Tx)), .va (due120 : (List Tx)), .va (more154 : Tx), .va (sign270 : Tx), .un, .un, .un, .un, .va (i275 : Tx), .un] : P3.Ctx)) C 15 [("word", 19)] (it_list (ev_var C.toCt0 3 rfl rfl rfl)) rfl (gok_name 19) (by decide) (fun sx274 Hx274 Dx274 clx274 fpx274 => (pg_nm (C.toCt.blk _ sx274 Hx274 Dx274 clx274 fpx274).toCt0 19 rfl rfl (.inr rfl))) (fun i275 sx274 Hx274 Dx274 clx274 fpx274 => (ev_catT (ev_var (C.toCt.blk _ sx274 Hx274 Dx274 clx274 fpx274).toCt0 19 rfl rfl rfl) (ev_var (C.toCt.blk _ sx274 Hx274 Dx274 clx274 fpx274).toCt0 14 rfl rfl rfl))) rfl rfl rfl)) (fun wider273 => sv_if (Γj := fun j301 : Unit => ([.va (p_script : (List Int)), .va (numbers1 : (List Int)), .va (window12 : Int), .va (ring18 : (List Tx)), .va (shared34 : (Dc Tx (List Int))), .va (held35 : (List Tx)), .va (bars37 : (List Tx)), .va (at44 : Int), .va (j74 : (List Tx)), .va (order88 : (List Int)), .va (mask100 : Tx), .va (other110 : (List Tx)), .va (due120 : (List Tx)), .va (more154 : Tx), .va (sign270 : Tx), .va (wider273 : (List Tx)), .un, .un, .un, .un, .un] : P3.Ctx)) (et_not (et_ev (ev_callC C.toCt0 F__law_told_right (hr.mono (by decide)) (evs_cons (ev_var C.toCt0 15 rfl rfl rfl) (fun x289 => (evs_cons (ev_var C.toCt0 2 rfl rfl rfl) (fun x290 => (evs_cons (EN.ev (en_lc (Γt := fun (i280 : Tx) => ([.va (p_script : (List Int)), .va (numbers1 : (List Int)), .va (window12 : Int), .va (ring18 : (List Tx)), .va (shared34 : (Dc Tx (List Int))), .va (held35 : (List Tx)), .va (bars37 : (List Tx)), .va (at44 : Int), .va (j74 : (List Tx)), .va (order88 : (List Int)), .va (mask100 : Tx), .va (other110 : (List Tx)), .va (due120 : (List Tx)), .va (more154 : Tx), .va (sign270 : Tx), .va (wider273 : (List Tx)), .un, .un, .un, .va (i280 : Tx), .un] : P3.Ctx)) C.toCt [("word", 19)] (it_list (ev_var C.toCt0 5 rfl rfl rfl)) rfl (gok_name 19) (by decide) (fun sx279 Hx279 Dx279 clx279 fpx279 => (pg_nm (C.toCt.blk _ sx279 Hx279 Dx279 clx279 fpx279).toCt0 19 rfl rfl (.inr rfl))) (fun i280 sx279 Hx279 Dx279 clx279 fpx279 => (ev_catT (ev_var (C.toCt.blk _ sx279 Hx279 Dx279 clx279 fpx279).toCt0 19 rfl rfl rfl) (ev_var (C.toCt.blk _ sx279 Hx279 Dx279 clx279 fpx279).toCt0 14 rfl rfl rfl))))) (fun x291 => (evs_cons (EN.ev (en_lc (Γt := fun (i285 : Tx) => ([.va (p_script : (List Int)), .va (numbers1 : (List Int)), .va (window12 : Int), .va (ring18 : (List Tx)), .va (shared34 : (Dc Tx (List Int))), .va (held35 : (List Tx)), .va (bars37 : (List Tx)), .va (at44 : Int), .va (j74 : (List Tx)), .va (order88 : (List Int)), .va (mask100 : Tx), .va (other110 : (List Tx)), .va (due120 : (List Tx)), .va (more154 : Tx), .va (sign270 : Tx), .va (wider273 : (List Tx)), .un, .un, .un, .va (i285 : Tx), .un] : P3.Ctx)) C.toCt [("word", 19)] (it_list (ev_var C.toCt0 6 rfl rfl rfl)) rfl (gok_name 19) (by decide) (fun sx284 Hx284 Dx284 clx284 fpx284 => (pg_nm (C.toCt.blk _ sx284 Hx284 Dx284 clx284 fpx284).toCt0 19 rfl rfl (.inr rfl))) (fun i285 sx284 Hx284 Dx284 clx284 fpx284 => (ev_catT (ev_var (C.toCt.blk _ sx284 Hx284 Dx284 clx284 fpx284).toCt0 19 rfl rfl rfl) (ev_var (C.toCt.blk _ sx284 Hx284 Dx284 clx284 fpx284).toCt0 14 rfl rfl rfl))))) (fun x292 => evs_nil)))))))) rfl))) ((sv_retR (er_v ev_bool))) (sv_nil (s := ()) (Wk.refl _)) (fun j301 => sv_nil (s := ()) (.cons .same (.cons .same (.cons .same (.cons .same (.cons .same (.cons .same (.cons .same (.cons .same (.cons .same (.cons .same (.cons .same (.cons .same (.cons .same (.cons .same (.cons .un (.cons .un (.cons .same (.cons .same (.cons .same (.cons .same (.cons .same .nil))))))))))))))))))))))))) (sv_if (Γj := fun j365 : Unit => ([.va (p_script : (List Int)), .va (numbers1 : (List Int)), .va (window12 : Int), .va (ring18 : (List Tx)), .va (shared34 : (Dc Tx (List Int))), .va (held35 : (List Tx)), .va (bars37 : (List Tx)), .va (at44 : Int), .va (j74 : (List Tx)), .va (order88 : (List Int)), .va (mask100 : Tx), .va (other110 : (List Tx)), .va (due120 : (List Tx)), .va (more154 : Tx), .un, .un, .un, .un, .un, .un, .un] : P3.Ctx)) (et_not (et_tru (ev_var C.toCt0 6 rfl rfl rfl))) (sv_asg 15 (AN.av (an_lc (Γt := fun (i337 : (P2 Int Tx)) => ([.va (p_script : (List Int)), .va (numbers1 : (List Int)), .va (window12 : Int), .va (ring18 : (List Tx)), .va (shared34 : (Dc Tx (List Int))), .va (held35 : (List Tx)), .va (bars37 : (List Tx)), .va (at44 : Int), .va (j74 : (List Tx)), .va (order88 : (List Int)), .va (mask100 : Tx), .va (other110 : (List Tx)), .va (due120 : (List Tx)), .va (more154 : Tx), .un, .un, .un, .un, .un, .va (i337.b : Tx), .va (i337.a : Int)] : P3.Ctx)) C 15 [("k", 20), ("word", 19)] (it_enum C.toCt0 (ev_var C.toCt0 3 rfl rfl rfl) rfl G_enumerate) rfl (gok_t2 (gok_name 20) (fun _ => (gok_name 19))) (by decide) (fun sx336 Hx336 Dx336 clx336 fpx336 => (pg_t2n (C.toCt.blk _ sx336 Hx336 Dx336 clx336 fpx336) (pg_nm (C.toCt.blk _ sx336 Hx336 Dx336 clx336 fpx336).toCt0 20 rfl rfl (.inr rfl)) (pg_nm (C.toCt.blk _ sx336 Hx336 Dx336 clx336 fpx336).toCt0 19 rfl rfl (.inr rfl)))) (fun i337 sx336 Hx336 Dx336 clx336 fpx336 => (ev_catT (ev_var (C.toCt.blk _ sx336 Hx336 Dx336 clx336 fpx336).toCt0 19 rfl rfl rfl) (ev_idxT (ev_var (C.toCt.blk _ sx336 Hx336 Dx336 clx336 fpx336).toCt0 13 rfl rfl rfl) (ev_var (C.toCt.blk _ sx336 Hx336 Dx336 clx336 fpx336).toCt0 20 rfl rfl rfl)))) rfl rfl rfl)) (fun wider334 => sv_asg 16 (av_ev C 16 (ev_callC C.toCt0 F_is_readable (hr.mono (by decide)) (evs_cons (EN.ev (en_listOf C.toCt0 (ev_var C.toCt0 15 rfl rfl rfl) rfl G_list)) (fun x345 => (evs_cons (ev_var C.toCt0 2 rfl rfl rfl) (fun x346 => evs_nil)))) rfl) rfl rfl) (fun told343 => sv_if (Γj := fun j363 : Unit => ([.va (p_script : (List Int)), .va (numbers1 : (List Int)), .va (window12 : Int), .va (ring18 : (List Tx)), .va (shared34 : (Dc Tx (List Int))), .va (held35 : (List Tx)), .va (bars37 : (List Tx)), .va (at44 : Int), .va (j74 : (List Tx)), .va (order88 : (List Int)), .va (mask100 : Tx), .va (other110 : (List Tx)), .va (due120 : (List Tx)), .va (more154 : Tx), .un, .va (wider334 : (List Tx)), .va (told343 : Bool), .un, .un, .un, .un] : P3.Ctx)) (et_w (ew_or (et_not (et_ev (ev_isi C.toCt0 (ev_var C.toCt0 16 rfl rfl rfl) (by intro x; rfl) rfl G_isinstance rfl G_bool rfl))) (ew_or (et_not (et_ev (ev_var C.toCt0 16 rfl rfl rfl))) (ew_or1 (et_cmp (ev_notN (ev_callC C.toCt0 F_first_bar (hr.mono (by decide)) (evs_cons (EN.ev (en_listOf C.toCt0 (ev_var C.toCt0 15 rfl rfl rfl) rfl G_list)) (fun x353 => (evs_cons (ev_var C.toCt0 2 rfl rfl rfl) (fun x354 => evs_nil)))) rfl))))))) ((sv_retR (er_v ev_bool))) (sv_nil (s := ()) (Wk.refl _)) (fun j363 => sv_nil (s := ()) (.cons .same (.cons .same (.cons .same (.cons .same (.cons .same (.cons .same (.cons .same (.cons .same (.cons .same (.cons .same (.cons .same (.cons .same (.cons .same (.cons .same (.cons .same (.cons .un (.cons .un (.cons .same (.cons .same (.cons .same (.cons .same .nil))))))))))))))))))))))))) (sv_nil (s := ()) (Wk.refl _)) (fun j365 => sv_nil (s := ()) (Wk.refl _))) (fun j367 => sv_asg 17 (av_ev C 17 (ev_mod (ev_int1 C.toCt0 (ev_idxL (ev_var C.toCt0 1 rfl rfl rfl) ev_int) rfl G_int) (ev_add (ev_var C.toCt0 2 rfl rfl rfl) ev_int)) rfl rfl) (fun smaller368 => sv_asgR C 18 (er_callC C.toCt0 F__law_shared (hr.mono (by decide)) (evs_cons (ev_var C.toCt0 3 rfl rfl rfl) (fun x377 => (evs_cons (ev_var C.toCt0 17 rfl rfl rfl) (fun x378 => evs_nil)))) rfl) rfl rfl (fun near381 => sv_wk (.cons .same (.cons .same (.cons .same (.cons .same (.cons .same (.cons .same (.cons .same (.cons .same (.cons .same (.cons .same (.cons .same (.cons .same (.cons .same (.cons .same (.cons .same (.cons .same (.cons .same (.cons .same (.cons .fz (.cons .same (.cons .same .nil))))))))))))))))))))) (sv_asg 12 (AN.av (an_lcIf (Γt := fun (i385 : Tx) => ([.va (p_script : (List Int)), .va (numbers1 : (List Int)), .va (window12 : Int), .va (ring18 : (List Tx)), .va (shared34 : (Dc Tx (List Int))), .va (held35 : (List Tx)), .va (bars37 : (List Tx)), .va (at44 : Int), .va (j74 : (List Tx)), .va (order88 : (List Int)), .va (mask100 : Tx), .va (other110 : (List Tx)), .va (due120 : (List Tx)), .va (more154 : Tx), .un, .un, .un, .va (smaller368 : Int), .va (near381 : (Dc Tx (List Int))), .va (i385 : Tx), .un] : P3.Ctx)) C 12 [("word", 19)] (it_list (EN.ev (en_sortK C.toCt (ev_var C.toCt0 18 rfl rfl rfl) rfl G_sorted))) rfl (gok_name 19) (by decide) (fun sx384 Hx384 Dx384 clx384 fpx384 => (pg_nm (C.toCt.blk _ sx384 Hx384 Dx384 clx384 fpx384).toCt0 19 rfl rfl (.inr rfl))) (fun i385 sx384 Hx384 Dx384 clx384 fpx384 => (et_not (et_tru (ev_dgetN (C.toCt.blk _ sx384 Hx384 Dx384 clx384 fpx384).toCt0 18 (.inr rfl) rfl rfl (ev_var (C.toCt.blk _ sx384 Hx384 Dx384 clx384 fpx384).toCt0 19 rfl rfl rfl))))) (fun i385 sx384 Hx384 Dx384 clx384 fpx384 => (ev_var (C.toCt.blk _ sx384 Hx384 Dx384 clx384 fpx384).toCt0 19 rfl rfl rfl)) rfl rfl rfl)) (fun due382 => sv_if (Γj := fun j408 : Unit => ([.va (p_script : (List Int)), .va (numbers1 : (List Int)), .va (window12 : Int), .va (ring18 : (List Tx)), .va (shared34 : (Dc Tx (List Int))), .va (held35 : (List Tx)), .va (bars37 : (List Tx)), .va (at44 : Int), .va (j74 : (List Tx)), .va (order88 : (List Int)), .va (mask100 : Tx), .va (other110 : (List Tx)), .va (due382 : (List Tx)), .va (more154 : Tx), .un, .un, .un, .va (smaller368 : Int), .va (near381 : (Dc Tx (List Int))), .un, .un] : P3.Ctx)) (et_w (ew_or (et_w (ew_and (et_tru (ev_var C.toCt0 12 rfl rfl rfl)) (ew_and1 (et_not (et_tru (ev_var C.toCt0 6 rfl rfl rfl)))))) (ew_or1 (et_not (et_ev (ev_callC C.toCt0 F__law_told_right (hr.mono (by decide)) (evs_cons (ev_var C.toCt0 3 rfl rfl rfl) (fun x395 => (evs_cons (ev_var C.toCt0 17 rfl rfl rfl) (fun x396 => (evs_cons (EN.ev (en_sortK C.toCt (ev_var C.toCt0 18 rfl rfl rfl) rfl G_sorted)) (fun x397 => (evs_cons (ev_var C.toCt0 12 rfl rfl rfl) (fun x398 => evs_nil)))))))) rfl)))))) ((sv_retR (er_v ev_bool))) (sv_nil (s := ()) (Wk.refl _)) (fun j408 => (sv_retR (er_v (ev_callC C.toCt0 F__law_open_right (hr.mono (by decide)) (evs_cons (ev_callC C.toCt0 F__law_numbers (hr.mono (by decide)) (evs_cons (ev_callC C.toCt0 F__law_cell (hr.mono (by decide)) (evs_cons (ev_var C.toCt0 0 rfl rfl rfl) (fun x409 => (evs_cons ev_int (fun x410 => evs_nil)))) rfl) (fun x413 => (evs_cons ev_int (fun x414 => (evs_cons ev_int (fun x415 => evs_nil)))))) rfl) (fun x433 => (evs_cons (ev_add ev_int (ev_mod (ev_int1 C.toCt0 (ev_idxL (ev_var C.toCt0 1 rfl rfl rfl) ev_int) rfl G_int) ev_int)) (fun x434 => (evs_cons (ev_add ev_int (ev_mod (ev_int1 C.toCt0 (ev_idxL (ev_var C.toCt0 1 rfl rfl rfl) ev_int) rfl G_int) ev_int)) (fun x435 => evs_nil)))))) rfl))))))))))))))))))))))))))
abbrev i_BadRing : Stmt := (match topS 9 with | .ClassDef (body := b) .. => b | _ => []).getD 0 (.Pass ⟨0, 0, 0, 0⟩)
abbrev i_TooMany : Stmt := (match topS 2 with | .ClassDef (body := b) .. => b | _ => []).getD 0 (.Pass ⟨0, 0, 0, 0⟩)
theorem all_mk {w : World} {K : PySem.W.Frag} {h : Heap} {mg : Str → Option Value} {fa : Addr} (X : K.In h) (G : h.Ns mainGlobals mg) (hfa : mg "law" = some (.ref fa))
    {f_0 : Addr} {od_0 an_0 : Option Addr} {sl_0 : Array (Option Value)} {oc_0 kV_0 dc_0 pm_0 cd_0 ct_0 : Value} {f_1 : Addr} {od_1 an_1 : Option Addr} {sl_1 : Array (Option Value)} {oc_1 kV_1 dc_1 pm_1 cd_1 ct_1 : Value} {f_2 : Addr} {od_2 an_2 : Option Addr} {sl_2 : Array (Option Value)} {oc_2 kV_2 dc_2 pm_2 cd_2 ct_2 : Value} {f_3 : Addr} {od_3 an_3 : Option Addr} {sl_3 : Array (Option Value)} {oc_3 kV_3 dc_3 pm_3 cd_3 ct_3 : Value} {f_4 : Addr} {od_4 an_4 : Option Addr} {sl_4 : Array (Option Value)} {oc_4 kV_4 dc_4 pm_4 cd_4 ct_4 : Value} {f_5 : Addr} {od_5 an_5 : Option Addr} {sl_5 : Array (Option Value)} {oc_5 kV_5 dc_5 pm_5 cd_5 ct_5 : Value} {f_6 : Addr} {od_6 an_6 : Option Addr} {sl_6 : Array (Option Value)} {oc_6 kV_6 dc_6 pm_6 cd_6 ct_6 : Value} {f_7 : Addr} {od_7 an_7 : Option Addr} {sl_7 : Array (Option Value)} {oc_7 kV_7 dc_7 pm_7 cd_7 ct_7 : Value} {f_8 : Addr} {od_8 an_8 : Option Addr} {sl_8 : Array (Option Value)} {oc_8 kV_8 dc_8 pm_8 cd_8 ct_8 : Value} {f_9 : Addr} {od_9 an_9 : Option Addr} {sl_9 : Array (Option Value)} {oc_9 kV_9 dc_9 pm_9 cd_9 ct_9 : Value} {f_10 : Addr} {od_10 an_10 : Option Addr} {sl_10 : Array (Option Value)} {oc_10 kV_10 dc_10 pm_10 cd_10 ct_10 : Value} {f_11 : Addr} {od_11 an_11 : Option Addr} {sl_11 : Array (Option Value)} {oc_11 kV_11 dc_11 pm_11 cd_11 ct_11 : Value} {f_12 : Addr} {od_12 an_12 : Option Addr} {sl_12 : Array (Option Value)} {oc_12 kV_12 dc_12 pm_12 cd_12 ct_12 : Value} {f_13 : Addr} {od_13 an_13 : Option Addr} {sl_13 : Array (Option Value)} {oc_13 kV_13 dc_13 pm_13 cd_13 ct_13 : Value} {f_14 : Addr} {od_14 an_14 : Option Addr} {sl_14 : Array (Option Value)} {oc_14 kV_14 dc_14 pm_14 cd_14 ct_14 : Value} {f_15 : Addr} {od_15 an_15 : Option Addr} {sl_15 : Array (Option Value)} {oc_15 kV_15 dc_15 pm_15 cd_15 ct_15 : Value} {f_16 : Addr} {od_16 an_16 : Option Addr} {sl_16 : Array (Option Value)} {oc_16 kV_16 dc_16 pm_16 cd_16 ct_16 : Value} {f_17 : Addr} {od_17 an_17 : Option Addr} {sl_17 : Array (Option Value)} {oc_17 kV_17 dc_17 pm_17 cd_17 ct_17 : Value} {f_18 : Addr} {od_18 an_18 : Option Addr} {sl_18 : Array (Option Value)} {oc_18 kV_18 dc_18 pm_18 cd_18 ct_18 : Value} {f_19 : Addr} {od_19 an_19 : Option Addr} {sl_19 : Array (Option Value)} {oc_19 kV_19 dc_19 pm_19 cd_19 ct_19 : Value} {f_20 : Addr} {od_20 an_20 : Option Addr} {sl_20 : Array (Option Value)} {oc_20 kV_20 dc_20 pm_20 cd_20 ct_20 : Value} {f_21 : Addr} {od_21 an_21 : Option Addr} {sl_21 : Array (Option Value)} {oc_21 kV_21 dc_21 pm_21 cd_21 ct_21 : Value} {f_22 : Addr} {od_22 an_22 : Option Addr} {sl_22 : Array (Option Value)} {oc_22 kV_22 dc_22 pm_22 cd_22 ct_22 : Value} {f_23 : Addr} {od_23 an_23 : Option Addr} {sl_23 : Array (Option Value)} {oc_23 kV_23 dc_23 pm_23 cd_23 ct_23 : Value} {f_24 : Addr} {od_24 an_24 : Option Addr} {sl_24 : Array (Option Value)} {oc_24 kV_24 dc_24 pm_24 cd_24 ct_24 : Value} {f_25 : Addr} {od_25 an_25 : Option Addr} {sl_25 : Array (Option Value)} {oc_25 kV_25 dc_25 pm_25 cd_25 ct_25 : Value} {t_MOST_OPEN : Value} {t_MOST_WORDS : Value} {C_BadRing : Addr} {C_ClockError : Addr} {C_TooMany : Addr} {N_BadRing f_BadRing cc_BadRing cd_BadRing : Addr} {nm_BadRing q_BadRing : Str} {bs_BadRing : List Value} {sn_BadRing : List Str} {sub_BadRing : List Value} {ab_BadRing : Bool} {col_BadRing : Option Bool} {dd_BadRing od_BadRing an_BadRing cdd_BadRing cld_BadRing : Option Addr} {m0_BadRing m1_BadRing m2_BadRing m3_BadRing m5_BadRing : Option Value} {sl_BadRing ccs_BadRing csl_BadRing : Array (Option Value)} {oc_BadRing kV_BadRing dc_BadRing pm_BadRing ct_BadRing ccl_BadRing cl_BadRing : Value} {vs_BadRing : Array Value} {file_BadRing : Str} {tf_BadRing : Tok} {N_TooMany f_TooMany cc_TooMany cd_TooMany : Addr} {nm_TooMany q_TooMany : Str} {bs_TooMany : List Value} {sn_TooMany : List Str} {sub_TooMany : List Value} {ab_TooMany : Bool} {col_TooMany : Option Bool} {dd_TooMany od_TooMany an_TooMany cdd_TooMany cld_TooMany : Option Addr} {m0_TooMany m1_TooMany m2_TooMany m3_TooMany m5_TooMany : Option Value} {sl_TooMany ccs_TooMany csl_TooMany : Array (Option Value)} {oc_TooMany kV_TooMany dc_TooMany pm_TooMany ct_TooMany ccl_TooMany cl_TooMany : Value} {vs_TooMany : Array Value} {file_TooMany : Str} {tf_TooMany : Tok}
    (a_0 : PySem.W.nsIn K mainGlobals "hull" = some (some (.ref f_0)))
    (l_0 : K.lookup f_0 = some ⟨oc_0, od_0, .func (PySem.W.fnOf "hull" "hull" (defArgs s_hull) (defBody s_hull) (defScope s_hull) .none kV_0 dc_0 pm_0 an_0 cd_0 ct_0), sl_0⟩)
    (c_0 : PySem.W.codeIn K cd_0 "hull" = true)
    (k_0 : PySem.W.keepIn K (.ref f_0) = true)
    (a_1 : PySem.W.nsIn K mainGlobals "words_of" = some (some (.ref f_1)))
    (l_1 : K.lookup f_1 = some ⟨oc_1, od_1, .func (PySem.W.fnOf "words_of" "words_of" (defArgs s_words_of) (defBody s_words_of) (defScope s_words_of) .none kV_1 dc_1 pm_1 an_1 cd_1 ct_1), sl_1⟩)
    (c_1 : PySem.W.codeIn K cd_1 "words_of" = true)
    (k_1 : PySem.W.keepIn K (.ref f_1) = true)
    (a_2 : PySem.W.nsIn K mainGlobals "check_ring" = some (some (.ref f_2)))
    (l_2 : K.lookup f_2 = some ⟨oc_2, od_2, .func (PySem.W.fnOf "check_ring" "check_ring" (defArgs s_check_ring) (defBody s_check_ring) (defScope s_check_ring) .none kV_2 dc_2 pm_2 an_2 cd_2 ct_2), sl_2⟩)
    (c_2 : PySem.W.codeIn K cd_2 "check_ring" = true)
    (k_2 : PySem.W.keepIn K (.ref f_2) = true)
    (a_3 : PySem.W.nsIn K mainGlobals "run_places" = some (some (.ref f_3)))
    (l_3 : K.lookup f_3 = some ⟨oc_3, od_3, .func (PySem.W.fnOf "run_places" "run_places" (defArgs s_run_places) (defBody s_run_places) (defScope s_run_places) .none kV_3 dc_3 pm_3 an_3 cd_3 ct_3), sl_3⟩)
    (c_3 : PySem.W.codeIn K cd_3 "run_places" = true)
    (k_3 : PySem.W.keepIn K (.ref f_3) = true)
    (a_4 : PySem.W.nsIn K mainGlobals "run_hull" = some (some (.ref f_4)))
    (l_4 : K.lookup f_4 = some ⟨oc_4, od_4, .func (PySem.W.fnOf "run_hull" "run_hull" (defArgs s_run_hull) (defBody s_run_hull) (defScope s_run_hull) .none kV_4 dc_4 pm_4 an_4 cd_4 ct_4), sl_4⟩)
    (c_4 : PySem.W.codeIn K cd_4 "run_hull" = true)
    (k_4 : PySem.W.keepIn K (.ref f_4) = true)
    (a_5 : PySem.W.nsIn K mainGlobals "runs" = some (some (.ref f_5)))
    (l_5 : K.lookup f_5 = some ⟨oc_5, od_5, .func (PySem.W.fnOf "runs" "runs" (defArgs s_runs) (defBody s_runs) (defScope s_runs) .none kV_5 dc_5 pm_5 an_5 cd_5 ct_5), sl_5⟩)
    (c_5 : PySem.W.codeIn K cd_5 "runs" = true)
    (k_5 : PySem.W.keepIn K (.ref f_5) = true)
    (a_6 : PySem.W.nsIn K mainGlobals "held_words" = some (some (.ref f_6)))
    (l_6 : K.lookup f_6 = some ⟨oc_6, od_6, .func (PySem.W.fnOf "held_words" "held_words" (defArgs s_held_words) (defBody s_held_words) (defScope s_held_words) .none kV_6 dc_6 pm_6 an_6 cd_6 ct_6), sl_6⟩)
    (c_6 : PySem.W.codeIn K cd_6 "held_words" = true)
    (k_6 : PySem.W.keepIn K (.ref f_6) = true)
    (a_7 : PySem.W.nsIn K mainGlobals "first_bar" = some (some (.ref f_7)))
    (l_7 : K.lookup f_7 = some ⟨oc_7, od_7, .func (PySem.W.fnOf "first_bar" "first_bar" (defArgs s_first_bar) (defBody s_first_bar) (defScope s_first_bar) .none kV_7 dc_7 pm_7 an_7 cd_7 ct_7), sl_7⟩)
    (c_7 : PySem.W.codeIn K cd_7 "first_bar" = true)
    (k_7 : PySem.W.keepIn K (.ref f_7) = true)
    (a_8 : PySem.W.nsIn K mainGlobals "is_readable" = some (some (.ref f_8)))
    (l_8 : K.lookup f_8 = some ⟨oc_8, od_8, .func (PySem.W.fnOf "is_readable" "is_readable" (defArgs s_is_readable) (defBody s_is_readable) (defScope s_is_readable) .none kV_8 dc_8 pm_8 an_8 cd_8 ct_8), sl_8⟩)
    (c_8 : PySem.W.codeIn K cd_8 "is_readable" = true)
    (k_8 : PySem.W.keepIn K (.ref f_8) = true)
    (a_9 : PySem.W.nsIn K mainGlobals "_law_cell" = some (some (.ref f_9)))
    (l_9 : K.lookup f_9 = some ⟨oc_9, od_9, .func (PySem.W.fnOf "_law_cell" "_law_cell" (defArgs s__law_cell) (defBody s__law_cell) (defScope s__law_cell) .none kV_9 dc_9 pm_9 an_9 cd_9 ct_9), sl_9⟩)
    (c_9 : PySem.W.codeIn K cd_9 "_law_cell" = true)
    (k_9 : PySem.W.keepIn K (.ref f_9) = true)
    (a_10 : PySem.W.nsIn K mainGlobals "_law_numbers" = some (some (.ref f_10)))
    (l_10 : K.lookup f_10 = some ⟨oc_10, od_10, .func (PySem.W.fnOf "_law_numbers" "_law_numbers" (defArgs s__law_numbers) (defBody s__law_numbers) (defScope s__law_numbers) .none kV_10 dc_10 pm_10 an_10 cd_10 ct_10), sl_10⟩)
    (c_10 : PySem.W.codeIn K cd_10 "_law_numbers" = true)
    (k_10 : PySem.W.keepIn K (.ref f_10) = true)
    (a_11 : PySem.W.nsIn K mainGlobals "_law_word" = some (some (.ref f_11)))
    (l_11 : K.lookup f_11 = some ⟨oc_11, od_11, .func (PySem.W.fnOf "_law_word" "_law_word" (defArgs s__law_word) (defBody s__law_word) (defScope s__law_word) .none kV_11 dc_11 pm_11 an_11 cd_11 ct_11), sl_11⟩)
    (c_11 : PySem.W.codeIn K cd_11 "_law_word" = true)
    (k_11 : PySem.W.keepIn K (.ref f_11) = true)
    (a_12 : PySem.W.nsIn K mainGlobals "_law_turned" = some (some (.ref f_12)))
    (l_12 : K.lookup f_12 = some ⟨oc_12, od_12, .func (PySem.W.fnOf "_law_turned" "_law_turned" (defArgs s__law_turned) (defBody s__law_turned) (defScope s__law_turned) .none kV_12 dc_12 pm_12 an_12 cd_12 ct_12), sl_12⟩)
    (c_12 : PySem.W.codeIn K cd_12 "_law_turned" = true)
    (k_12 : PySem.W.keepIn K (.ref f_12) = true)
    (a_13 : PySem.W.nsIn K mainGlobals "_law_stretch" = some (some (.ref f_13)))
    (l_13 : K.lookup f_13 = some ⟨oc_13, od_13, .func (PySem.W.fnOf "_law_stretch" "_law_stretch" (defArgs s__law_stretch) (defBody s__law_stretch) (defScope s__law_stretch) .none kV_13 dc_13 pm_13 an_13 cd_13 ct_13), sl_13⟩)
    (c_13 : PySem.W.codeIn K cd_13 "_law_stretch" = true)
    (k_13 : PySem.W.keepIn K (.ref f_13) = true)
    (a_14 : PySem.W.nsIn K mainGlobals "_law_places" = some (some (.ref f_14)))
    (l_14 : K.lookup f_14 = some ⟨oc_14, od_14, .func (PySem.W.fnOf "_law_places" "_law_places" (defArgs s__law_places) (defBody s__law_places) (defScope s__law_places) .none kV_14 dc_14 pm_14 an_14 cd_14 ct_14), sl_14⟩)
    (c_14 : PySem.W.codeIn K cd_14 "_law_places" = true)
    (k_14 : PySem.W.keepIn K (.ref f_14) = true)
    (a_15 : PySem.W.nsIn K mainGlobals "_law_cube" = some (some (.ref f_15)))
    (l_15 : K.lookup f_15 = some ⟨oc_15, od_15, .func (PySem.W.fnOf "_law_cube" "_law_cube" (defArgs s__law_cube) (defBody s__law_cube) (defScope s__law_cube) .none kV_15 dc_15 pm_15 an_15 cd_15 ct_15), sl_15⟩)
    (c_15 : PySem.W.codeIn K cd_15 "_law_cube" = true)
    (k_15 : PySem.W.keepIn K (.ref f_15) = true)
    (a_16 : PySem.W.nsIn K mainGlobals "_law_hull" = some (some (.ref f_16)))
    (l_16 : K.lookup f_16 = some ⟨oc_16, od_16, .func (PySem.W.fnOf "_law_hull" "_law_hull" (defArgs s__law_hull) (defBody s__law_hull) (defScope s__law_hull) .none kV_16 dc_16 pm_16 an_16 cd_16 ct_16), sl_16⟩)
    (c_16 : PySem.W.codeIn K cd_16 "_law_hull" = true)
    (k_16 : PySem.W.keepIn K (.ref f_16) = true)
    (a_17 : PySem.W.nsIn K mainGlobals "_law_words" = some (some (.ref f_17)))
    (l_17 : K.lookup f_17 = some ⟨oc_17, od_17, .func (PySem.W.fnOf "_law_words" "_law_words" (defArgs s__law_words) (defBody s__law_words) (defScope s__law_words) .none kV_17 dc_17 pm_17 an_17 cd_17 ct_17), sl_17⟩)
    (c_17 : PySem.W.codeIn K cd_17 "_law_words" = true)
    (k_17 : PySem.W.keepIn K (.ref f_17) = true)
    (a_18 : PySem.W.nsIn K mainGlobals "_law_shared" = some (some (.ref f_18)))
    (l_18 : K.lookup f_18 = some ⟨oc_18, od_18, .func (PySem.W.fnOf "_law_shared" "_law_shared" (defArgs s__law_shared) (defBody s__law_shared) (defScope s__law_shared) .none kV_18 dc_18 pm_18 an_18 cd_18 ct_18), sl_18⟩)
    (c_18 : PySem.W.codeIn K cd_18 "_law_shared" = true)
    (k_18 : PySem.W.keepIn K (.ref f_18) = true)
    (a_19 : PySem.W.nsIn K mainGlobals "_law_order" = some (some (.ref f_19)))
    (l_19 : K.lookup f_19 = some ⟨oc_19, od_19, .func (PySem.W.fnOf "_law_order" "_law_order" (defArgs s__law_order) (defBody s__law_order) (defScope s__law_order) .none kV_19 dc_19 pm_19 an_19 cd_19 ct_19), sl_19⟩)
    (c_19 : PySem.W.codeIn K cd_19 "_law_order" = true)
    (k_19 : PySem.W.keepIn K (.ref f_19) = true)
    (a_20 : PySem.W.nsIn K mainGlobals "_law_ring" = some (some (.ref f_20)))
    (l_20 : K.lookup f_20 = some ⟨oc_20, od_20, .func (PySem.W.fnOf "_law_ring" "_law_ring" (defArgs s__law_ring) (defBody s__law_ring) (defScope s__law_ring) .none kV_20 dc_20 pm_20 an_20 cd_20 ct_20), sl_20⟩)
    (c_20 : PySem.W.codeIn K cd_20 "_law_ring" = true)
    (k_20 : PySem.W.keepIn K (.ref f_20) = true)
    (a_21 : PySem.W.nsIn K mainGlobals "_law_dress" = some (some (.ref f_21)))
    (l_21 : K.lookup f_21 = some ⟨oc_21, od_21, .func (PySem.W.fnOf "_law_dress" "_law_dress" (defArgs s__law_dress) (defBody s__law_dress) (defScope s__law_dress) .none kV_21 dc_21 pm_21 an_21 cd_21 ct_21), sl_21⟩)
    (c_21 : PySem.W.codeIn K cd_21 "_law_dress" = true)
    (k_21 : PySem.W.keepIn K (.ref f_21) = true)
    (a_22 : PySem.W.nsIn K mainGlobals "_law_told_right" = some (some (.ref f_22)))
    (l_22 : K.lookup f_22 = some ⟨oc_22, od_22, .func (PySem.W.fnOf "_law_told_right" "_law_told_right" (defArgs s__law_told_right) (defBody s__law_told_right) (defScope s__law_told_right) .none kV_22 dc_22 pm_22 an_22 cd_22 ct_22), sl_22⟩)
    (c_22 : PySem.W.codeIn K cd_22 "_law_told_right" = true)
    (k_22 : PySem.W.keepIn K (.ref f_22) = true)
    (a_23 : PySem.W.nsIn K mainGlobals "_law_too_many" = some (some (.ref f_23)))
    (l_23 : K.lookup f_23 = some ⟨oc_23, od_23, .func (PySem.W.fnOf "_law_too_many" "_law_too_many" (defArgs s__law_too_many) (defBody s__law_too_many) (defScope s__law_too_many) .none kV_23 dc_23 pm_23 an_23 cd_23 ct_23), sl_23⟩)
    (c_23 : PySem.W.codeIn K cd_23 "_law_too_many" = true)
    (k_23 : PySem.W.keepIn K (.ref f_23) = true)
    (a_24 : PySem.W.nsIn K mainGlobals "_law_open_right" = some (some (.ref f_24)))
    (l_24 : K.lookup f_24 = some ⟨oc_24, od_24, .func (PySem.W.fnOf "_law_open_right" "_law_open_right" (defArgs s__law_open_right) (defBody s__law_open_right) (defScope s__law_open_right) .none kV_24 dc_24 pm_24 an_24 cd_24 ct_24), sl_24⟩)
    (c_24 : PySem.W.codeIn K cd_24 "_law_open_right" = true)
    (k_24 : PySem.W.keepIn K (.ref f_24) = true)
    (a_25 : PySem.W.nsIn K mainGlobals "law" = some (some (.ref f_25)))
    (l_25 : K.lookup f_25 = some ⟨oc_25, od_25, .func (PySem.W.fnOf "law" "law" (defArgs s_law) (defBody s_law) (defScope s_law) .none kV_25 dc_25 pm_25 an_25 cd_25 ct_25), sl_25⟩)
    (c_25 : PySem.W.codeIn K cd_25 "law" = true)
    (k_25 : PySem.W.keepIn K (.ref f_25) = true)
    (z_ValueError : PySem.W.nsIn K mainGlobals "ValueError" = some none)
    (z_bool : PySem.W.nsIn K mainGlobals "bool" = some none)
    (z_enumerate : PySem.W.nsIn K mainGlobals "enumerate" = some none)
    (z_int : PySem.W.nsIn K mainGlobals "int" = some none)
    (z_isinstance : PySem.W.nsIn K mainGlobals "isinstance" = some none)
    (z_len : PySem.W.nsIn K mainGlobals "len" = some none)
    (z_list : PySem.W.nsIn K mainGlobals "list" = some none)
    (z_min : PySem.W.nsIn K mainGlobals "min" = some none)
    (z_range : PySem.W.nsIn K mainGlobals "range" = some none)
    (z_sorted : PySem.W.nsIn K mainGlobals "sorted" = some none)
    (z_zip : PySem.W.nsIn K mainGlobals "zip" = some none)
    (u_MOST_OPEN : PySem.W.nsIn K mainGlobals "MOST_OPEN" = some (some t_MOST_OPEN))
    (v_MOST_OPEN : RelV (.int 8) t_MOST_OPEN)
    (u_MOST_WORDS : PySem.W.nsIn K mainGlobals "MOST_WORDS" = some (some t_MOST_WORDS))
    (v_MOST_WORDS : RelV (.int 256) t_MOST_WORDS)
    (aC_BadRing : PySem.W.nsIn K mainGlobals "BadRing" = some (some (.ref C_BadRing)))
    (aC_ClockError : PySem.W.nsIn K mainGlobals "ClockError" = some (some (.ref C_ClockError)))
    (aC_TooMany : PySem.W.nsIn K mainGlobals "TooMany" = some (some (.ref C_TooMany)))
    (xL_BadRing : K.lookup C_BadRing = some (excClassObj nm_BadRing q_BadRing C_BadRing N_BadRing bs_BadRing [.ref C_ClockError, .type "ValueError", .type "Exception", .type "BaseException", .type "object"] true sn_BadRing sub_BadRing ab_BadRing col_BadRing dd_BadRing m0_BadRing m1_BadRing m2_BadRing m3_BadRing m5_BadRing "ValueError.__new__"))
    (sa_BadRing : PySem.W.findIn K (.ref C_BadRing) "__setattr__" = some (some (.builtin "object.__setattr__")))
    (eC_BadRing : PySem.W.subIn K (.ref C_BadRing) (.type "BaseException") = some true)
    (tC_BadRing : PySem.W.typeIn K (.ref C_BadRing) = some (.type "type"))
    (kC_BadRing : PySem.W.keepIn K (.ref C_BadRing) = true)
    (iC_BadRing : PySem.W.findIn K (.ref C_BadRing) "__init__" = some (some (.ref f_BadRing)))
    (tI_BadRing : PySem.W.typeIn K (.ref f_BadRing) = some (.type "function"))
    (lI_BadRing : K.lookup f_BadRing = some ⟨oc_BadRing, od_BadRing, .func (PySem.W.fnX "__init__" "BadRing.__init__" (defArgs i_BadRing) (defBody i_BadRing) (defScope i_BadRing) [("__class__", cc_BadRing)] .none kV_BadRing dc_BadRing pm_BadRing an_BadRing (.ref cd_BadRing) ct_BadRing), sl_BadRing⟩)
    (cI_BadRing : PySem.W.codeIn K (.ref cd_BadRing) "BadRing.__init__" = true)
    (lc_BadRing : K.lookup cd_BadRing = some ⟨ccl_BadRing, cdd_BadRing, .fields vs_BadRing, ccs_BadRing⟩)
    (v2_BadRing : vs_BadRing[2]? = some (.str file_BadRing tf_BadRing))
    (fi_BadRing : ((PySem.Challenge.rw_betweentwoclocks_k46_rings_in_another_dr.prog.main.file : Str) == file_BadRing) = true)
    (le_BadRing : K.lookup cc_BadRing = some ⟨cl_BadRing, cld_BadRing, .cell (some (.ref C_BadRing)), csl_BadRing⟩)
    (mr_BadRing : PySem.W.mroIn K C_BadRing (.ref C_BadRing) = some true)
    (su_BadRing : PySem.W.nsIn K mainGlobals "super" = some none)
    (tp_BadRing : PySem.W.nsIn K cStatics "thirdparty.any" = some none)
    (si_BadRing : PySem.W.ks_superIn K C_BadRing C_BadRing "__init__" = some (some (.builtin "ValueError.__init__")))
    (ve_BadRing : PySem.W.subIn K (.ref C_BadRing) (.type "ValueError") = some true)
    (no_BadRing_index : PySem.W.findIn K (.ref C_BadRing) "index" = some none)
    (ga_BadRing : PySem.W.findIn K (.ref C_BadRing) "__getattribute__" = some (some (.builtin "BaseException.__getattribute__")))
    (gg_BadRing : PySem.W.findIn K (.ref C_BadRing) "__getattr__" = some none)
    (hd_BadRing : PySem.W.hasDictIn K C_BadRing = true)
    (ha_BadRing : PySem.W.findIn K (.ref C_BadRing) "__class__" = some (some (.builtin "object.__class__")))
    (hn_BadRing : PySem.W.specialIn K (.builtin "object.__class__") "__get__" = some (some (.builtin "getset_descriptor.__get__")))
    (ht_BadRing : PySem.W.takesIn K (.builtin "object.__class__") = some true)
    (hm_BadRing : PySem.W.mroIn K C_BadRing (.type "object") = some true)
    (ki_BadRing_TooMany : PySem.W.kitOne K (.ref C_BadRing) (.ref C_TooMany) = some false)
    (ki_BadRing_ValueError : PySem.W.kitOne K (.ref C_BadRing) (.type "ValueError") = some true)
    (ex_BadRing_ClockError : PySem.W.exmOne K (.ref C_BadRing) (.ref C_ClockError) = some true)
    (xL_TooMany : K.lookup C_TooMany = some (excClassObj nm_TooMany q_TooMany C_TooMany N_TooMany bs_TooMany [.ref C_ClockError, .type "ValueError", .type "Exception", .type "BaseException", .type "object"] true sn_TooMany sub_TooMany ab_TooMany col_TooMany dd_TooMany m0_TooMany m1_TooMany m2_TooMany m3_TooMany m5_TooMany "ValueError.__new__"))
    (sa_TooMany : PySem.W.findIn K (.ref C_TooMany) "__setattr__" = some (some (.builtin "object.__setattr__")))
    (eC_TooMany : PySem.W.subIn K (.ref C_TooMany) (.type "BaseException") = some true)
    (tC_TooMany : PySem.W.typeIn K (.ref C_TooMany) = some (.type "type"))
    (kC_TooMany : PySem.W.keepIn K (.ref C_TooMany) = true)
    (iC_TooMany : PySem.W.findIn K (.ref C_TooMany) "__init__" = some (some (.ref f_TooMany)))
    (tI_TooMany : PySem.W.typeIn K (.ref f_TooMany) = some (.type "function"))
    (lI_TooMany : K.lookup f_TooMany = some ⟨oc_TooMany, od_TooMany, .func (PySem.W.fnX "__init__" "TooMany.__init__" (defArgs i_TooMany) (defBody i_TooMany) (defScope i_TooMany) [("__class__", cc_TooMany)] .none kV_TooMany dc_TooMany pm_TooMany an_TooMany (.ref cd_TooMany) ct_TooMany), sl_TooMany⟩)
    (cI_TooMany : PySem.W.codeIn K (.ref cd_TooMany) "TooMany.__init__" = true)
    (lc_TooMany : K.lookup cd_TooMany = some ⟨ccl_TooMany, cdd_TooMany, .fields vs_TooMany, ccs_TooMany⟩)
    (v2_TooMany : vs_TooMany[2]? = some (.str file_TooMany tf_TooMany))
    (fi_TooMany : ((PySem.Challenge.rw_betweentwoclocks_k46_rings_in_another_dr.prog.main.file : Str) == file_TooMany) = true)
    (le_TooMany : K.lookup cc_TooMany = some ⟨cl_TooMany, cld_TooMany, .cell (some (.ref C_TooMany)), csl_TooMany⟩)
    (mr_TooMany : PySem.W.mroIn K C_TooMany (.ref C_TooMany) = some true)
    (su_TooMany : PySem.W.nsIn K mainGlobals "super" = some none)
    (tp_TooMany : PySem.W.nsIn K cStatics "thirdparty.any" = some none)
    (si_TooMany : PySem.W.ks_superIn K C_TooMany C_TooMany "__init__" = some (some (.builtin "ValueError.__init__")))
    (ve_TooMany : PySem.W.subIn K (.ref C_TooMany) (.type "ValueError") = some true)
    (no_TooMany_word : PySem.W.findIn K (.ref C_TooMany) "word" = some none)
    (no_TooMany_limit : PySem.W.findIn K (.ref C_TooMany) "limit" = some none)
    (ga_TooMany : PySem.W.findIn K (.ref C_TooMany) "__getattribute__" = some (some (.builtin "BaseException.__getattribute__")))
    (gg_TooMany : PySem.W.findIn K (.ref C_TooMany) "__getattr__" = some none)
    (hd_TooMany : PySem.W.hasDictIn K C_TooMany = true)
    (ha_TooMany : PySem.W.findIn K (.ref C_TooMany) "__class__" = some (some (.builtin "object.__class__")))
    (hn_TooMany : PySem.W.specialIn K (.builtin "object.__class__") "__get__" = some (some (.builtin "getset_descriptor.__get__")))
    (ht_TooMany : PySem.W.takesIn K (.builtin "object.__class__") = some true)
    (hm_TooMany : PySem.W.mroIn K C_TooMany (.type "object") = some true)
    (ki_TooMany_TooMany : PySem.W.kitOne K (.ref C_TooMany) (.ref C_TooMany) = some true)
    (ki_TooMany_ValueError : PySem.W.kitOne K (.ref C_TooMany) (.type "ValueError") = some true)
    (ex_TooMany_ClockError : PySem.W.exmOne K (.ref C_TooMany) (.ref C_ClockError) = some true) :
    ∃ fd : FuncData, (∀ (s : Shared) (v : Value), BindsTo s fd ⟨[v], []⟩ [("script", v)]) ∧ ∀ base : Heap, K.In base → base.Ns mainGlobals mg → FnOk PySem.Challenge.rw_betweentwoclocks_k46_rings_in_another_dr.prog w K mg base (L2.CX PySem.Challenge.rw_betweentwoclocks_k46_rings_in_another_dr.prog w) 10 fa fd ["script"] (spL K m_law) := by
  have e := hfa.symm.trans (PySem.W.mg_of X G a_25)
  cases e
  have F_0 := fun_mk (st := s_hull) l_0 c_0 k_0
  have b_0 := F_0.binds (ps := ["words"]) fun _ _ _ _ _ _ us hl => match us, hl with | [_], _ => rfl
  have F_1 := fun_mk (st := s_words_of) l_1 c_1 k_1
  have b_1 := F_1.binds (ps := ["cube"]) fun _ _ _ _ _ _ us hl => match us, hl with | [_], _ => rfl
  have F_2 := fun_mk (st := s_check_ring) l_2 c_2 k_2
  have b_2 := F_2.binds (ps := ["ring"]) fun _ _ _ _ _ _ us hl => match us, hl with | [_], _ => rfl
  have F_3 := fun_mk (st := s_run_places) l_3 c_3 k_3
  have b_3 := F_3.binds (ps := ["ring", "start", "steps"]) fun _ _ _ _ _ _ us hl => match us, hl with | [_, _, _], _ => rfl
  have F_4 := fun_mk (st := s_run_hull) l_4 c_4 k_4
  have b_4 := F_4.binds (ps := ["ring", "start", "steps"]) fun _ _ _ _ _ _ us hl => match us, hl with | [_, _, _], _ => rfl
  have F_5 := fun_mk (st := s_runs) l_5 c_5 k_5
  have b_5 := F_5.binds (ps := ["ring", "window"]) fun _ _ _ _ _ _ us hl => match us, hl with | [_, _], _ => rfl
  have F_6 := fun_mk (st := s_held_words) l_6 c_6 k_6
  have b_6 := F_6.binds (ps := ["ring", "window"]) fun _ _ _ _ _ _ us hl => match us, hl with | [_, _], _ => rfl
  have F_7 := fun_mk (st := s_first_bar) l_7 c_7 k_7
  have b_7 := F_7.binds (ps := ["ring", "window"]) fun _ _ _ _ _ _ us hl => match us, hl with | [_, _], _ => rfl
  have F_8 := fun_mk (st := s_is_readable) l_8 c_8 k_8
  have b_8 := F_8.binds (ps := ["ring", "window"]) fun _ _ _ _ _ _ us hl => match us, hl with | [_, _], _ => rfl
  have F_9 := fun_mk (st := s__law_cell) l_9 c_9 k_9
  have b_9 := F_9.binds (ps := ["script", "k"]) fun _ _ _ _ _ _ us hl => match us, hl with | [_, _], _ => rfl
  have F_10 := fun_mk (st := s__law_numbers) l_10 c_10 k_10
  have b_10 := F_10.binds (ps := ["cell", "base", "count"]) fun _ _ _ _ _ _ us hl => match us, hl with | [_, _, _], _ => rfl
  have F_11 := fun_mk (st := s__law_word) l_11 c_11 k_11
  have b_11 := F_11.binds (ps := ["number", "wires"]) fun _ _ _ _ _ _ us hl => match us, hl with | [_, _], _ => rfl
  have F_12 := fun_mk (st := s__law_turned) l_12 c_12 k_12
  have b_12 := F_12.binds (ps := ["word", "wire"]) fun _ _ _ _ _ _ us hl => match us, hl with | [_, _], _ => rfl
  have F_13 := fun_mk (st := s__law_stretch) l_13 c_13 k_13
  have b_13 := F_13.binds (ps := ["size"]) fun _ _ _ _ _ _ us hl => match us, hl with | [_], _ => rfl
  have F_14 := fun_mk (st := s__law_places) l_14 c_14 k_14
  have b_14 := F_14.binds (ps := ["size", "start", "steps"]) fun _ _ _ _ _ _ us hl => match us, hl with | [_, _, _], _ => rfl
  have F_15 := fun_mk (st := s__law_cube) l_15 c_15 k_15
  have b_15 := F_15.binds (ps := ["words"]) fun _ _ _ _ _ _ us hl => match us, hl with | [_], _ => rfl
  have F_16 := fun_mk (st := s__law_hull) l_16 c_16 k_16
  have b_16 := F_16.binds (ps := ["ring", "start", "steps"]) fun _ _ _ _ _ _ us hl => match us, hl with | [_, _, _], _ => rfl
  have F_17 := fun_mk (st := s__law_words) l_17 c_17 k_17
  have b_17 := F_17.binds (ps := ["cube"]) fun _ _ _ _ _ _ us hl => match us, hl with | [_], _ => rfl
  have F_18 := fun_mk (st := s__law_shared) l_18 c_18 k_18
  have b_18 := F_18.binds (ps := ["ring", "window"]) fun _ _ _ _ _ _ us hl => match us, hl with | [_, _], _ => rfl
  have F_19 := fun_mk (st := s__law_order) l_19 c_19 k_19
  have b_19 := F_19.binds (ps := ["cell", "count"]) fun _ _ _ _ _ _ us hl => match us, hl with | [_, _], _ => rfl
  have F_20 := fun_mk (st := s__law_ring) l_20 c_20 k_20
  have b_20 := F_20.binds (ps := ["cell", "window", "numbers"]) fun _ _ _ _ _ _ us hl => match us, hl with | [_, _, _], _ => rfl
  have F_21 := fun_mk (st := s__law_dress) l_21 c_21 k_21
  have b_21 := F_21.binds (ps := ["word", "order", "mask"]) fun _ _ _ _ _ _ us hl => match us, hl with | [_, _, _], _ => rfl
  have F_22 := fun_mk (st := s__law_told_right) l_22 c_22 k_22
  have b_22 := F_22.binds (ps := ["ring", "window", "held", "bars"]) fun _ _ _ _ _ _ us hl => match us, hl with | [_, _, _, _], _ => rfl
  have F_23 := fun_mk (st := s__law_too_many) l_23 c_23 k_23
  have b_23 := F_23.binds (ps := ["which", "ring", "window"]) fun _ _ _ _ _ _ us hl => match us, hl with | [_, _, _], _ => rfl
  have F_24 := fun_mk (st := s__law_open_right) l_24 c_24 k_24
  have b_24 := F_24.binds (ps := ["drawn", "wires", "window"]) fun _ _ _ _ _ _ us hl => match us, hl with | [_, _, _], _ => rfl
  have F_25 := fun_mk (st := s_law) l_25 c_25 k_25
  have b_25 := F_25.binds (ps := ["script"]) fun _ _ _ _ _ _ us hl => match us, hl with | [_], _ => rfl
  refine ⟨PySem.W.fnOf "law" "law" (defArgs s_law) (defBody s_law) (defScope s_law) .none kV_25 dc_25 pm_25 an_25 cd_25 ct_25, fun s v => .of_eq rfl, fun base _ _ => ?_⟩
  have T_BadRing : OexC K C_BadRing := ⟨⟨nm_BadRing, q_BadRing, N_BadRing, bs_BadRing, _, sn_BadRing, sub_BadRing, ab_BadRing, col_BadRing, dd_BadRing, m0_BadRing, m1_BadRing, m2_BadRing, m3_BadRing, m5_BadRing, xL_BadRing, by rfl⟩, sa_BadRing, eC_BadRing, tC_BadRing, kC_BadRing⟩
  have I_BadRing : ExI PySem.Challenge.rw_betweentwoclocks_k46_rings_in_another_dr.prog K C_BadRing f_BadRing cc_BadRing cd_BadRing "BadRing.__init__" (defArgs i_BadRing) (defBody i_BadRing) (defScope i_BadRing) (PySem.W.fnX "__init__" "BadRing.__init__" (defArgs i_BadRing) (defBody i_BadRing) (defScope i_BadRing) [("__class__", cc_BadRing)] .none kV_BadRing dc_BadRing pm_BadRing an_BadRing (.ref cd_BadRing) ct_BadRing) := { ox := T_BadRing, lk := ⟨oc_BadRing, od_BadRing, kV_BadRing, dc_BadRing, pm_BadRing, ct_BadRing, an_BadRing, sl_BadRing, rfl, lI_BadRing⟩, cd := cI_BadRing, code := ⟨ccl_BadRing, cdd_BadRing, vs_BadRing, ccs_BadRing, file_BadRing, tf_BadRing, lc_BadRing, v2_BadRing, fi_BadRing⟩, cell := ⟨cl_BadRing, cld_BadRing, csl_BadRing, le_BadRing⟩, mro := mr_BadRing, sup := su_BadRing, tp := tp_BadRing, si := si_BadRing, ve := ve_BadRing, top := by decide +kernel }
  have E_BadRing : FnOk PySem.Challenge.rw_betweentwoclocks_k46_rings_in_another_dr.prog w K mg base (L2.CX PySem.Challenge.rw_betweentwoclocks_k46_rings_in_another_dr.prog w) 1 f_BadRing _ ["self", "index"] (exSp C_BadRing ["index"]) := exfn1 (k := 0) I_BadRing (nscope_by (by decide +kernel)) rfl rfl rfl rfl (fun env => ⟨_, rfl⟩) no_BadRing_index (fun _ => rfl) (by decide) (by decide) (by decide) (by decide)
  have X_BadRing : Exc PySem.Challenge.rw_betweentwoclocks_k46_rings_in_another_dr.prog w K mg base "BadRing" 1 ["index"] := exc_mk T_BadRing iC_BadRing tI_BadRing E_BadRing (.all fun us hl => match us, hl with | [_, _], _ => rfl) (PySem.W.mg_of X G aC_BadRing)
  have T_TooMany : OexC K C_TooMany := ⟨⟨nm_TooMany, q_TooMany, N_TooMany, bs_TooMany, _, sn_TooMany, sub_TooMany, ab_TooMany, col_TooMany, dd_TooMany, m0_TooMany, m1_TooMany, m2_TooMany, m3_TooMany, m5_TooMany, xL_TooMany, by rfl⟩, sa_TooMany, eC_TooMany, tC_TooMany, kC_TooMany⟩
  have I_TooMany : ExI PySem.Challenge.rw_betweentwoclocks_k46_rings_in_another_dr.prog K C_TooMany f_TooMany cc_TooMany cd_TooMany "TooMany.__init__" (defArgs i_TooMany) (defBody i_TooMany) (defScope i_TooMany) (PySem.W.fnX "__init__" "TooMany.__init__" (defArgs i_TooMany) (defBody i_TooMany) (defScope i_TooMany) [("__class__", cc_TooMany)] .none kV_TooMany dc_TooMany pm_TooMany an_TooMany (.ref cd_TooMany) ct_TooMany) := { ox := T_TooMany, lk := ⟨oc_TooMany, od_TooMany, kV_TooMany, dc_TooMany, pm_TooMany, ct_TooMany, an_TooMany, sl_TooMany, rfl, lI_TooMany⟩, cd := cI_TooMany, code := ⟨ccl_TooMany, cdd_TooMany, vs_TooMany, ccs_TooMany, file_TooMany, tf_TooMany, lc_TooMany, v2_TooMany, fi_TooMany⟩, cell := ⟨cl_TooMany, cld_TooMany, csl_TooMany, le_TooMany⟩, mro := mr_TooMany, sup := su_TooMany, tp := tp_TooMany, si := si_TooMany, ve := ve_TooMany, top := by decide +kernel }
  have E_TooMany : FnOk PySem.Challenge.rw_betweentwoclocks_k46_rings_in_another_dr.prog w K mg base (L2.CX PySem.Challenge.rw_betweentwoclocks_k46_rings_in_another_dr.prog w) 1 f_TooMany _ ["self", "word", "limit"] (exSp C_TooMany ["word", "limit"]) := exfn2 (k := 0) I_TooMany (nscope_by (by decide +kernel)) rfl rfl rfl rfl (fun env => ⟨_, rfl⟩) no_TooMany_word no_TooMany_limit (fun _ => rfl) (fun _ => rfl) (by decide) (by decide) (by decide) (by decide) (by decide) (by decide)
  have X_TooMany : Exc PySem.Challenge.rw_betweentwoclocks_k46_rings_in_another_dr.prog w K mg base "TooMany" 1 ["word", "limit"] := exc_mk T_TooMany iC_TooMany tI_TooMany E_TooMany (.all fun us hl => match us, hl with | [_, _, _], _ => rfl) (PySem.W.mg_of X G aC_TooMany)
  have Q_ClockError : TabOk K mg (.ref C_ClockError) [("TooMany", true), ("BadRing", true)] := (tabOk_cons (PySem.W.mg_of X G aC_TooMany) ex_TooMany_ClockError (tabOk_cons (PySem.W.mg_of X G aC_BadRing) ex_BadRing_ClockError tabOk_nil))
  have J_TooMany : IsOk K mg (.ref C_TooMany) [("TooMany", true), ("BadRing", false)] := (isOk_cons (PySem.W.mg_of X G aC_TooMany) ⟨ga_TooMany, gg_TooMany, eC_TooMany, hd_TooMany, ha_TooMany, hn_TooMany, ht_TooMany, hm_TooMany⟩ ki_TooMany_TooMany (isOk_cons (PySem.W.mg_of X G aC_BadRing) ⟨ga_BadRing, gg_BadRing, eC_BadRing, hd_BadRing, ha_BadRing, hn_BadRing, ht_BadRing, hm_BadRing⟩ ki_BadRing_TooMany isOk_nil))
  have J_ValueError : IsOk K mg (.type "ValueError") [("TooMany", true), ("BadRing", true)] := (isOk_cons (PySem.W.mg_of X G aC_TooMany) ⟨ga_TooMany, gg_TooMany, eC_TooMany, hd_TooMany, ha_TooMany, hn_TooMany, ht_TooMany, hm_TooMany⟩ ki_TooMany_ValueError (isOk_cons (PySem.W.mg_of X G aC_BadRing) ⟨ga_BadRing, gg_BadRing, eC_BadRing, hd_BadRing, ha_BadRing, hn_BadRing, ht_BadRing, hm_BadRing⟩ ki_BadRing_ValueError isOk_nil))
  have D_limit : FldOk K mg "limit" ["TooMany"] := (fldOk_cons (PySem.W.mg_of X G aC_TooMany) ⟨ga_TooMany, gg_TooMany, eC_TooMany, hd_TooMany⟩ no_TooMany_limit fldOk_nil)
  have D_word : FldOk K mg "word" ["TooMany"] := (fldOk_cons (PySem.W.mg_of X G aC_TooMany) ⟨ga_TooMany, gg_TooMany, eC_TooMany, hd_TooMany⟩ no_TooMany_word fldOk_nil)
  have K_MOST_OPEN : GloI mg "MOST_OPEN" 8 := glo_mk (PySem.W.mg_of X G u_MOST_OPEN) v_MOST_OPEN
  have K_MOST_WORDS : GloI mg "MOST_WORDS" 256 := glo_mk (PySem.W.mg_of X G u_MOST_WORDS) v_MOST_WORDS
  have O_hull := fnV (P := PySem.Challenge.rw_betweentwoclocks_k46_rings_in_another_dr.prog) (w := w) (base := base) (mg := mg) (k := 0) (Fm := m_hull) F_0 sc_hull rfl (fun _ => rfl) (fun cdv Ar outer s H E C hr a => v_hull C hr (PySem.W.mg_none_of X G z_zip) a.1)
  have W_hull : Cal PySem.Challenge.rw_betweentwoclocks_k46_rings_in_another_dr.prog w K mg base "hull" 1 ["words"] (spV K mg m_hull) := cal_mk F_0 O_hull (PySem.W.mg_of X G a_0) b_0
  have O__law_cell := fnV (P := PySem.Challenge.rw_betweentwoclocks_k46_rings_in_another_dr.prog) (w := w) (base := base) (mg := mg) (k := 0) (Fm := m__law_cell) F_9 sc__law_cell rfl (fun _ => rfl) (fun cdv Ar outer s H E C hr a => v__law_cell C hr (PySem.W.mg_none_of X G z_len) a.1 a.2.1)
  have W__law_cell : Cal PySem.Challenge.rw_betweentwoclocks_k46_rings_in_another_dr.prog w K mg base "_law_cell" 1 ["script", "k"] (spV K mg m__law_cell) := cal_mk F_9 O__law_cell (PySem.W.mg_of X G a_9) b_9
  have O__law_numbers := fnV (P := PySem.Challenge.rw_betweentwoclocks_k46_rings_in_another_dr.prog) (w := w) (base := base) (mg := mg) (k := 0) (Fm := m__law_numbers) F_10 sc__law_numbers rfl (fun _ => rfl) (fun cdv Ar outer s H E C hr a => v__law_numbers C hr (PySem.W.mg_none_of X G z_int) (PySem.W.mg_none_of X G z_range) a.1 a.2.1 a.2.2.1)
  have W__law_numbers : Cal PySem.Challenge.rw_betweentwoclocks_k46_rings_in_another_dr.prog w K mg base "_law_numbers" 1 ["cell", "base", "count"] (spV K mg m__law_numbers) := cal_mk F_10 O__law_numbers (PySem.W.mg_of X G a_10) b_10
  have O__law_word := fnV (P := PySem.Challenge.rw_betweentwoclocks_k46_rings_in_another_dr.prog) (w := w) (base := base) (mg := mg) (k := 0) (Fm := m__law_word) F_11 sc__law_word rfl (fun _ => rfl) (fun cdv Ar outer s H E C hr a => v__law_word C hr (PySem.W.mg_none_of X G z_int) (PySem.W.mg_none_of X G z_range) a.1 a.2.1)
  have W__law_word : Cal PySem.Challenge.rw_betweentwoclocks_k46_rings_in_another_dr.prog w K mg base "_law_word" 1 ["number", "wires"] (spV K mg m__law_word) := cal_mk F_11 O__law_word (PySem.W.mg_of X G a_11) b_11
  have O__law_turned := fnV (P := PySem.Challenge.rw_betweentwoclocks_k46_rings_in_another_dr.prog) (w := w) (base := base) (mg := mg) (k := 0) (Fm := m__law_turned) F_12 sc__law_turned rfl (fun _ => rfl) (fun cdv Ar outer s H E C hr a => v__law_turned C hr (PySem.W.mg_none_of X G z_int) (PySem.W.mg_none_of X G z_len) a.1 a.2.1)
  have W__law_turned : Cal PySem.Challenge.rw_betweentwoclocks_k46_rings_in_another_dr.prog w K mg base "_law_turned" 1 ["word", "wire"] (spV K mg m__law_turned) := cal_mk F_12 O__law_turned (PySem.W.mg_of X G a_12) b_12
  have O__law_stretch := fnR (P := PySem.Challenge.rw_betweentwoclocks_k46_rings_in_another_dr.prog) (w := w) (base := base) (mg := mg) (k := 0) (Fm := m__law_stretch) F_13 sc__law_stretch rfl (fun _ => rfl) (fun cdv Ar outer s H E C hr a => v__law_stretch C hr (PySem.W.mg_none_of X G z_range) a.1)
  have W__law_stretch : Cal PySem.Challenge.rw_betweentwoclocks_k46_rings_in_another_dr.prog w K mg base "_law_stretch" 1 ["size"] (spR (rtN (R := (List Tx))) K mg m__law_stretch) := cal_mk F_13 O__law_stretch (PySem.W.mg_of X G a_13) b_13
  have O__law_places := fnV (P := PySem.Challenge.rw_betweentwoclocks_k46_rings_in_another_dr.prog) (w := w) (base := base) (mg := mg) (k := 0) (Fm := m__law_places) F_14 sc__law_places rfl (fun _ => rfl) (fun cdv Ar outer s H E C hr a => v__law_places C hr (PySem.W.mg_none_of X G z_int) (PySem.W.mg_none_of X G z_range) a.1 a.2.1 a.2.2.1)
  have W__law_places : Cal PySem.Challenge.rw_betweentwoclocks_k46_rings_in_another_dr.prog w K mg base "_law_places" 1 ["size", "start", "steps"] (spV K mg m__law_places) := cal_mk F_14 O__law_places (PySem.W.mg_of X G a_14) b_14
  have O__law_cube := fnV (P := PySem.Challenge.rw_betweentwoclocks_k46_rings_in_another_dr.prog) (w := w) (base := base) (mg := mg) (k := 0) (Fm := m__law_cube) F_15 sc__law_cube rfl (fun _ => rfl) (fun cdv Ar outer s H E C hr a => v__law_cube C hr (PySem.W.mg_none_of X G z_len) (PySem.W.mg_none_of X G z_range) a.1)
  have W__law_cube : Cal PySem.Challenge.rw_betweentwoclocks_k46_rings_in_another_dr.prog w K mg base "_law_cube" 1 ["words"] (spV K mg m__law_cube) := cal_mk F_15 O__law_cube (PySem.W.mg_of X G a_15) b_15
  have O__law_words := fnV (P := PySem.Challenge.rw_betweentwoclocks_k46_rings_in_another_dr.prog) (w := w) (base := base) (mg := mg) (k := 0) (Fm := m__law_words) F_17 sc__law_words rfl (fun _ => rfl) (fun cdv Ar outer s H E C hr a => v__law_words C hr  a.1)
  have W__law_words : Cal PySem.Challenge.rw_betweentwoclocks_k46_rings_in_another_dr.prog w K mg base "_law_words" 1 ["cube"] (spV K mg m__law_words) := cal_mk F_17 O__law_words (PySem.W.mg_of X G a_17) b_17
  have O__law_dress := fnV (P := PySem.Challenge.rw_betweentwoclocks_k46_rings_in_another_dr.prog) (w := w) (base := base) (mg := mg) (k := 0) (Fm := m__law_dress) F_21 sc__law_dress rfl (fun _ => rfl) (fun cdv Ar outer s H E C hr a => v__law_dress C hr (PySem.W.mg_none_of X G z_int) a.1 a.2.1 a.2.2.1)
  have W__law_dress : Cal PySem.Challenge.rw_betweentwoclocks_k46_rings_in_another_dr.prog w K mg base "_law_dress" 1 ["word", "order", "mask"] (spV K mg m__law_dress) := cal_mk F_21 O__law_dress (PySem.W.mg_of X G a_21) b_21
  have O__law_hull := fnV (P := PySem.Challenge.rw_betweentwoclocks_k46_rings_in_another_dr.prog) (w := w) (base := base) (mg := mg) (k := 1) (Fm := m__law_hull) F_16 sc__law_hull rfl (fun _ => rfl) (fun cdv Ar outer s H E C hr a => v__law_hull C hr (PySem.W.mg_none_of X G z_len) W__law_cube W__law_places a.1 a.2.1 a.2.2.1)
  have W__law_hull : Cal PySem.Challenge.rw_betweentwoclocks_k46_rings_in_another_dr.prog w K mg base "_law_hull" 2 ["ring", "start", "steps"] (spV K mg m__law_hull) := cal_mk F_16 O__law_hull (PySem.W.mg_of X G a_16) b_16
  have O__law_order := fnV (P := PySem.Challenge.rw_betweentwoclocks_k46_rings_in_another_dr.prog) (w := w) (base := base) (mg := mg) (k := 1) (Fm := m__law_order) F_19 sc__law_order rfl (fun _ => rfl) (fun cdv Ar outer s H E C hr a => v__law_order C hr (PySem.W.mg_none_of X G z_int) (PySem.W.mg_none_of X G z_len) (PySem.W.mg_none_of X G z_list) (PySem.W.mg_none_of X G z_range) W__law_numbers a.1 a.2.1)
  have W__law_order : Cal PySem.Challenge.rw_betweentwoclocks_k46_rings_in_another_dr.prog w K mg base "_law_order" 2 ["cell", "count"] (spV K mg m__law_order) := cal_mk F_19 O__law_order (PySem.W.mg_of X G a_19) b_19
  have O__law_ring := fnV (P := PySem.Challenge.rw_betweentwoclocks_k46_rings_in_another_dr.prog) (w := w) (base := base) (mg := mg) (k := 1) (Fm := m__law_ring) F_20 sc__law_ring rfl (fun _ => rfl) (fun cdv Ar outer s H E C hr a => v__law_ring C hr (PySem.W.mg_none_of X G z_int) (PySem.W.mg_none_of X G z_min) (PySem.W.mg_none_of X G z_range) W__law_numbers W__law_stretch W__law_turned W__law_word a.1 a.2.1 a.2.2.1)
  have W__law_ring : Cal PySem.Challenge.rw_betweentwoclocks_k46_rings_in_another_dr.prog w K mg base "_law_ring" 2 ["cell", "window", "numbers"] (spV K mg m__law_ring) := cal_mk F_20 O__law_ring (PySem.W.mg_of X G a_20) b_20
  have O_words_of := fnR (P := PySem.Challenge.rw_betweentwoclocks_k46_rings_in_another_dr.prog) (w := w) (base := base) (mg := mg) (k := 2) (Fm := m_words_of) F_1 sc_words_of rfl (fun _ => rfl) (fun cdv Ar outer s H E C hr a => v_words_of C hr K_MOST_OPEN K_MOST_WORDS X_TooMany a.1)
  have W_words_of : Cal PySem.Challenge.rw_betweentwoclocks_k46_rings_in_another_dr.prog w K mg base "words_of" 3 ["cube"] (spR (rtN (R := (List Tx))) K mg m_words_of) := cal_mk F_1 O_words_of (PySem.W.mg_of X G a_1) b_1
  have O_check_ring := fnU (P := PySem.Challenge.rw_betweentwoclocks_k46_rings_in_another_dr.prog) (w := w) (base := base) (mg := mg) (k := 2) (Fm := m_check_ring) F_2 sc_check_ring rfl (fun _ => rfl) (fun cdv Ar outer s H E C hr a => v_check_ring C hr (PySem.W.mg_none_of X G z_enumerate) (PySem.W.mg_none_of X G z_len) X_BadRing a.1)
  have W_check_ring : Cal PySem.Challenge.rw_betweentwoclocks_k46_rings_in_another_dr.prog w K mg base "check_ring" 3 ["ring"] (spV K mg m_check_ring) := cal_mk F_2 O_check_ring (PySem.W.mg_of X G a_2) b_2
  have O__law_shared := fnR (P := PySem.Challenge.rw_betweentwoclocks_k46_rings_in_another_dr.prog) (w := w) (base := base) (mg := mg) (k := 2) (Fm := m__law_shared) F_18 sc__law_shared rfl (fun _ => rfl) (fun cdv Ar outer s H E C hr a => v__law_shared C hr (PySem.W.mg_none_of X G z_len) (PySem.W.mg_none_of X G z_range) W__law_hull W__law_places W__law_words a.1 a.2.1)
  have W__law_shared : Cal PySem.Challenge.rw_betweentwoclocks_k46_rings_in_another_dr.prog w K mg base "_law_shared" 3 ["ring", "window"] (spR (rtN (R := (Dc Tx (List Int)))) K mg m__law_shared) := cal_mk F_18 O__law_shared (PySem.W.mg_of X G a_18) b_18
  have O_run_places := fnV (P := PySem.Challenge.rw_betweentwoclocks_k46_rings_in_another_dr.prog) (w := w) (base := base) (mg := mg) (k := 3) (Fm := m_run_places) F_3 sc_run_places rfl (fun _ => rfl) (fun cdv Ar outer s H E C hr a => v_run_places C hr (PySem.W.mg_none_of X G z_len) (PySem.W.mg_none_of X G z_range) (PySem.W.mg_none_of X G z_sorted) W_check_ring a.1 a.2.1 a.2.2.1)
  have W_run_places : Cal PySem.Challenge.rw_betweentwoclocks_k46_rings_in_another_dr.prog w K mg base "run_places" 4 ["ring", "start", "steps"] (spV K mg m_run_places) := cal_mk F_3 O_run_places (PySem.W.mg_of X G a_3) b_3
  have O_runs := fnV (P := PySem.Challenge.rw_betweentwoclocks_k46_rings_in_another_dr.prog) (w := w) (base := base) (mg := mg) (k := 3) (Fm := m_runs) F_5 sc_runs rfl (fun _ => rfl) (fun cdv Ar outer s H E C hr a => v_runs C hr (PySem.W.mg_none_of X G z_len) (PySem.W.mg_none_of X G z_range) W_check_ring a.1 a.2.1)
  have W_runs : Cal PySem.Challenge.rw_betweentwoclocks_k46_rings_in_another_dr.prog w K mg base "runs" 4 ["ring", "window"] (spV K mg m_runs) := cal_mk F_5 O_runs (PySem.W.mg_of X G a_5) b_5
  have O_run_hull := fnV (P := PySem.Challenge.rw_betweentwoclocks_k46_rings_in_another_dr.prog) (w := w) (base := base) (mg := mg) (k := 4) (Fm := m_run_hull) F_4 sc_run_hull rfl (fun _ => rfl) (fun cdv Ar outer s H E C hr a => v_run_hull C hr W_hull W_run_places a.1 a.2.1 a.2.2.1)
  have W_run_hull : Cal PySem.Challenge.rw_betweentwoclocks_k46_rings_in_another_dr.prog w K mg base "run_hull" 5 ["ring", "start", "steps"] (spV K mg m_run_hull) := cal_mk F_4 O_run_hull (PySem.W.mg_of X G a_4) b_4
  have O_held_words := fnV (P := PySem.Challenge.rw_betweentwoclocks_k46_rings_in_another_dr.prog) (w := w) (base := base) (mg := mg) (k := 5) (Fm := m_held_words) F_6 sc_held_words rfl (fun _ => rfl) (fun cdv Ar outer s H E C hr a => v_held_words C hr (PySem.W.mg_none_of X G z_sorted) W_run_hull W_runs W_words_of a.1 a.2.1)
  have W_held_words : Cal PySem.Challenge.rw_betweentwoclocks_k46_rings_in_another_dr.prog w K mg base "held_words" 6 ["ring", "window"] (spV K mg m_held_words) := cal_mk F_6 O_held_words (PySem.W.mg_of X G a_6) b_6
  have O_first_bar := fnV (P := PySem.Challenge.rw_betweentwoclocks_k46_rings_in_another_dr.prog) (w := w) (base := base) (mg := mg) (k := 5) (Fm := m_first_bar) F_7 sc_first_bar rfl (fun _ => rfl) (fun cdv Ar outer s H E C hr a => v_first_bar C hr (PySem.W.mg_none_of X G z_sorted) W_run_hull W_run_places W_runs W_words_of a.1 a.2.1)
  have W_first_bar : Cal PySem.Challenge.rw_betweentwoclocks_k46_rings_in_another_dr.prog w K mg base "first_bar" 6 ["ring", "window"] (spV K mg m_first_bar) := cal_mk F_7 O_first_bar (PySem.W.mg_of X G a_7) b_7
  have O_is_readable := fnV (P := PySem.Challenge.rw_betweentwoclocks_k46_rings_in_another_dr.prog) (w := w) (base := base) (mg := mg) (k := 6) (Fm := m_is_readable) F_8 sc_is_readable rfl (fun _ => rfl) (fun cdv Ar outer s H E C hr a => v_is_readable C hr W_first_bar a.1 a.2.1)
  have W_is_readable : Cal PySem.Challenge.rw_betweentwoclocks_k46_rings_in_another_dr.prog w K mg base "is_readable" 7 ["ring", "window"] (spV K mg m_is_readable) := cal_mk F_8 O_is_readable (PySem.W.mg_of X G a_8) b_8
  have O__law_told_right := fnV (P := PySem.Challenge.rw_betweentwoclocks_k46_rings_in_another_dr.prog) (w := w) (base := base) (mg := mg) (k := 7) (Fm := m__law_told_right) F_22 sc__law_told_right rfl (fun _ => rfl) (fun cdv Ar outer s H E C hr a => v__law_told_right C hr (PySem.W.mg_none_of X G z_bool) (PySem.W.mg_none_of X G z_isinstance) (PySem.W.mg_none_of X G z_list) W_first_bar W_held_words W_is_readable a.1 a.2.1 a.2.2.1 a.2.2.2.1)
  have W__law_told_right : Cal PySem.Challenge.rw_betweentwoclocks_k46_rings_in_another_dr.prog w K mg base "_law_told_right" 8 ["ring", "window", "held", "bars"] (spV K mg m__law_told_right) := cal_mk F_22 O__law_told_right (PySem.W.mg_of X G a_22) b_22
  have O__law_too_many := fnV (P := PySem.Challenge.rw_betweentwoclocks_k46_rings_in_another_dr.prog) (w := w) (base := base) (mg := mg) (k := 7) (Fm := m__law_too_many) F_23 sc__law_too_many rfl (fun _ => rfl) (fun cdv Ar outer s H E C hr a => v__law_too_many C hr (PySem.W.mg_none_of X G z_ValueError) (PySem.W.mg_none_of X G z_isinstance) W_first_bar W_held_words W_is_readable ⟨rfl, by decide, .inl (PySem.W.mg_of X G aC_ClockError)⟩ Q_ClockError (PySem.W.mg_of X G aC_TooMany) J_TooMany J_ValueError D_limit D_word a.1 a.2.1 a.2.2.1)
  have W__law_too_many : Cal PySem.Challenge.rw_betweentwoclocks_k46_rings_in_another_dr.prog w K mg base "_law_too_many" 8 ["which", "ring", "window"] (spV K mg m__law_too_many) := cal_mk F_23 O__law_too_many (PySem.W.mg_of X G a_23) b_23
  have O__law_open_right := fnV (P := PySem.Challenge.rw_betweentwoclocks_k46_rings_in_another_dr.prog) (w := w) (base := base) (mg := mg) (k := 8) (Fm := m__law_open_right) F_24 sc__law_open_right rfl (fun _ => rfl) (fun cdv Ar outer s H E C hr a => v__law_open_right C hr (PySem.W.mg_none_of X G z_enumerate) (PySem.W.mg_none_of X G z_list) (PySem.W.mg_none_of X G z_range) (PySem.W.mg_none_of X G z_sorted) W__law_cube W__law_order W__law_told_right W__law_too_many W__law_turned W__law_word W__law_words a.1 a.2.1 a.2.2.1)
  have W__law_open_right : Cal PySem.Challenge.rw_betweentwoclocks_k46_rings_in_another_dr.prog w K mg base "_law_open_right" 9 ["drawn", "wires", "window"] (spV K mg m__law_open_right) := cal_mk F_24 O__law_open_right (PySem.W.mg_of X G a_24) b_24
  have O_law := fnV (P := PySem.Challenge.rw_betweentwoclocks_k46_rings_in_another_dr.prog) (w := w) (base := base) (mg := mg) (k := 9) (Fm := m_law) F_25 sc_law rfl (fun _ => rfl) (fun cdv Ar outer s H E C hr a => v_law C hr (PySem.W.mg_none_of X G z_bool) (PySem.W.mg_none_of X G z_enumerate) (PySem.W.mg_none_of X G z_int) (PySem.W.mg_none_of X G z_isinstance) (PySem.W.mg_none_of X G z_len) (PySem.W.mg_none_of X G z_list) (PySem.W.mg_none_of X G z_sorted) W__law_cell W__law_dress W__law_numbers W__law_open_right W__law_order W__law_ring W__law_shared W__law_told_right W__law_word W_first_bar W_is_readable a.1)
  exact O_law.imp spL_imp
end K46
open PySem PySem.W PyProof.Rows K46 P3 RG RG
set_option maxHeartbeats 0 in
theorem PySem.Challenge.cw_betweentwoclocks_k46_rings_in_another_dr_holds : PySem.Challenge.rw_betweentwoclocks_k46_rings_in_another_dr.Holds := by
  w_on; o_law; k_head; (case hw => w_witness2)
  k_fill
  refine L2.walk_ofB (l := PySem.Challenge.rw_betweentwoclocks_k46_rings_in_another_dr) (n := 63) (k := 10) (x := "script") (CX := fun w => L2.CX PySem.Challenge.rw_betweentwoclocks_k46_rings_in_another_dr.prog w) (sp := fun w => spL _ m_law) rfl (by decide) rfl ⟨rfl, by decide, by decide⟩ (fun w h Y => PySem.W.kIn_of Y) ?F (fun w H a ns hl hb _ hS => ⟨a, ns, rfl, hS, Nat.le_trans hl (by decide), K46.plain ns hl hb, fun _ => rfl⟩) (fun w H s e s' h => cx_no h)
  case F =>
    intro w mg fa h KX G hmg
    refine' all_mk KX G hmg ?a_0 ?l_0 ?c_0 ?k_0 ?a_1 ?l_1 ?c_1 ?k_1 ?a_2 ?l_2 ?c_2 ?k_2 ?a_3 ?l_3 ?c_3 ?k_3 ?a_4 ?l_4 ?c_4 ?k_4 ?a_5 ?l_5 ?c_5 ?k_5 ?a_6 ?l_6 ?c_6 ?k_6 ?a_7 ?l_7 ?c_7 ?k_7 ?a_8 ?l_8 ?c_8 ?k_8 ?a_9 ?l_9 ?c_9 ?k_9 ?a_10 ?l_10 ?c_10 ?k_10 ?a_11 ?l_11 ?c_11 ?k_11 ?a_12 ?l_12 ?c_12 ?k_12 ?a_13 ?l_13 ?c_13 ?k_13 ?a_14 ?l_14 ?c_14 ?k_14 ?a_15 ?l_15 ?c_15 ?k_15 ?a_16 ?l_16 ?c_16 ?k_16 ?a_17 ?l_17 ?c_17 ?k_17 ?a_18 ?l_18 ?c_18 ?k_18 ?a_19 ?l_19 ?c_19 ?k_19 ?a_20 ?l_20 ?c_20 ?k_20 ?a_21 ?l_21 ?c_21 ?k_21 ?a_22 ?l_22 ?c_22 ?k_22 ?a_23 ?l_23 ?c_23 ?k_23 ?a_24 ?l_24 ?c_24 ?k_24 ?a_25 ?l_25 ?c_25 ?k_25 ?z_ValueError ?z_bool ?z_enumerate ?z_int ?z_isinstance ?z_len ?z_list ?z_min ?z_range ?z_sorted ?z_zip ?u_MOST_OPEN ?v_MOST_OPEN ?u_MOST_WORDS ?v_MOST_WORDS ?aC_BadRing ?aC_ClockError ?aC_TooMany ?xL_BadRing ?sa_BadRing ?eC_BadRing ?tC_BadRing ?kC_BadRing ?iC_BadRing ?tI_BadRing ?lI_BadRing ?cI_BadRing ?lc_BadRing ?v2_BadRing ?fi_BadRing ?le_BadRing ?mr_BadRing ?su_BadRing ?tp_BadRing ?si_BadRing ?ve_BadRing ?no_BadRing_index ?ga_BadRing ?gg_BadRing ?hd_BadRing ?ha_BadRing ?hn_BadRing ?ht_BadRing ?hm_BadRing ?ki_BadRing_TooMany ?ki_BadRing_ValueError ?ex_BadRing_ClockError ?xL_TooMany ?sa_TooMany ?eC_TooMany ?tC_TooMany ?kC_TooMany ?iC_TooMany ?tI_TooMany ?lI_TooMany ?cI_TooMany ?lc_TooMany ?v2_TooMany ?fi_TooMany ?le_TooMany ?mr_TooMany ?su_TooMany ?tp_TooMany ?si_TooMany ?ve_TooMany ?no_TooMany_word ?no_TooMany_limit ?ga_TooMany ?gg_TooMany ?hd_TooMany ?ha_TooMany ?hn_TooMany ?ht_TooMany ?hm_TooMany ?ki_TooMany_TooMany ?ki_TooMany_ValueError ?ex_TooMany_ClockError
    (case a_0 => first | k_is | rfl | decide +kernel)
    (case l_0 => first | k_is | rfl | decide +kernel)
    (case c_0 => first | k_is | rfl | decide +kernel)
    (case k_0 => first | k_is | rfl | decide +kernel)
    (case a_1 => first | k_is | rfl | decide +kernel)
    (case l_1 => first | k_is | rfl | decide +kernel)
    (case c_1 => first | k_is | rfl | decide +kernel)
    (case k_1 => first | k_is | rfl | decide +kernel)
    (case a_2 => first | k_is | rfl | decide +kernel)
    (case l_2 => first | k_is | rfl | decide +kernel)
    (case c_2 => first | k_is | rfl | decide +kernel)
    (case k_2 => first | k_is | rfl | decide +kernel)
    (case a_3 => first | k_is | rfl | decide +kernel)
    (case l_3 => first | k_is | rfl | decide +kernel)
    (case c_3 => first | k_is | rfl | decide +kernel)
    (case k_3 => first | k_is | rfl | decide +kernel)
    (case a_4 => first | k_is | rfl | decide +kernel)
    (case l_4 => first | k_is | rfl | decide +kernel)
    (case c_4 => first | k_is | rfl | decide +kernel)
    (case k_4 => first | k_is | rfl | decide +kernel)
    (case a_5 => first | k_is | rfl | decide +kernel)
    (case l_5 => first | k_is | rfl | decide +kernel)
    (case c_5 => first | k_is | rfl | decide +kernel)
    (case k_5 => first | k_is | rfl | decide +kernel)
    (case a_6 => first | k_is | rfl | decide +kernel)
    (case l_6 => first | k_is | rfl | decide +kernel)
    (case c_6 => first | k_is | rfl | decide +kernel)
    (case k_6 => first | k_is | rfl | decide +kernel)
    (case a_7 => first | k_is | rfl | decide +kernel)
    (case l_7 => first | k_is | rfl | decide +kernel)
    (case c_7 => first | k_is | rfl | decide +kernel)
    (case k_7 => first | k_is | rfl | decide +kernel)
    (case a_8 => first | k_is | rfl | decide +kernel)
    (case l_8 => first | k_is | rfl | decide +kernel)
    (case c_8 => first | k_is | rfl | decide +kernel)
    (case k_8 => first | k_is | rfl | decide +kernel)
    (case a_9 => first | k_is | rfl | decide +kernel)
    (case l_9 => first | k_is | rfl | decide +kernel)
    (case c_9 => first | k_is | rfl | decide +kernel)
    (case k_9 => first | k_is | rfl | decide +kernel)
    (case a_10 => first | k_is | rfl | decide +kernel)
    (case l_10 => first | k_is | rfl | decide +kernel)
    (case c_10 => first | k_is | rfl | decide +kernel)
    (case k_10 => first | k_is | rfl | decide +kernel)
    (case a_11 => first | k_is | rfl | decide +kernel)
    (case l_11 => first | k_is | rfl | decide +kernel)
    (case c_11 => first | k_is | rfl | decide +kernel)
    (case k_11 => first | k_is | rfl | decide +kernel)
    (case a_12 => first | k_is | rfl | decide +kernel)
    (case l_12 => first | k_is | rfl | decide +kernel)
    (case c_12 => first | k_is | rfl | decide +kernel)
    (case k_12 => first | k_is | rfl | decide +kernel)
    (case a_13 => first | k_is | rfl | decide +kernel)
    (case l_13 => first | k_is | rfl | decide +kernel)
    (case c_13 => first | k_is | rfl | decide +kernel)
    (case k_13 => first | k_is | rfl | decide +kernel)
    (case a_14 => first | k_is | rfl | decide +kernel)
    (case l_14 => first | k_is | rfl | decide +kernel)
    (case c_14 => first | k_is | rfl | decide +kernel)
    (case k_14 => first | k_is | rfl | decide +kernel)
    (case a_15 => first | k_is | rfl | decide +kernel)
    (case l_15 => first | k_is | rfl | decide +kernel)
    (case c_15 => first | k_is | rfl | decide +kernel)
    (case k_15 => first | k_is | rfl | decide +kernel)
    (case a_16 => first | k_is | rfl | decide +kernel)
    (case l_16 => first | k_is | rfl | decide +kernel)
    (case c_16 => first | k_is | rfl | decide +kernel)
    (case k_16 => first | k_is | rfl | decide +kernel)
    (case a_17 => first | k_is | rfl | decide +kernel)
    (case l_17 => first | k_is | rfl | decide +kernel)
    (case c_17 => first | k_is | rfl | decide +kernel)
    (case k_17 => first | k_is | rfl | decide +kernel)
    (case a_18 => first | k_is | rfl | decide +kernel)
    (case l_18 => first | k_is | rfl | decide +kernel)
    (case c_18 => first | k_is | rfl | decide +kernel)
    (case k_18 => first | k_is | rfl | decide +kernel)
    (case a_19 => first | k_is | rfl | decide +kernel)
    (case l_19 => first | k_is | rfl | decide +kernel)
    (case c_19 => first | k_is | rfl | decide +kernel)
    (case k_19 => first | k_is | rfl | decide +kernel)
    (case a_20 => first | k_is | rfl | decide +kernel)
    (case l_20 => first | k_is | rfl | decide +kernel)
    (case c_20 => first | k_is | rfl | decide +kernel)
    (case k_20 => first | k_is | rfl | decide +kernel)
    (case a_21 => first | k_is | rfl | decide +kernel)
    (case l_21 => first | k_is | rfl | decide +kernel)
    (case c_21 => first | k_is | rfl | decide +kernel)
    (case k_21 => first | k_is | rfl | decide +kernel)
    (case a_22 => first | k_is | rfl | decide +kernel)
    (case l_22 => first | k_is | rfl | decide +kernel)
    (case c_22 => first | k_is | rfl | decide +kernel)
    (case k_22 => first | k_is | rfl | decide +kernel)
    (case a_23 => first | k_is | rfl | decide +kernel)
    (case l_23 => first | k_is | rfl | decide +kernel)
    (case c_23 => first | k_is | rfl | decide +kernel)
    (case k_23 => first | k_is | rfl | decide +kernel)
    (case a_24 => first | k_is | rfl | decide +kernel)
    (case l_24 => first | k_is | rfl | decide +kernel)
    (case c_24 => first | k_is | rfl | decide +kernel)
    (case k_24 => first | k_is | rfl | decide +kernel)
    (case a_25 => first | k_is | rfl | decide +kernel)
    (case l_25 => first | k_is | rfl | decide +kernel)
    (case c_25 => first | k_is | rfl | decide +kernel)
    (case k_25 => first | k_is | rfl | decide +kernel)
    (case z_ValueError => first | k_is | rfl | decide +kernel)
    (case z_bool => first | k_is | rfl | decide +kernel)
    (case z_enumerate => first | k_is | rfl | decide +kernel)
    (case z_int => first | k_is | rfl | decide +kernel)
    (case z_isinstance => first | k_is | rfl | decide +kernel)
    (case z_len => first | k_is | rfl | decide +kernel)
    (case z_list => first | k_is | rfl | decide +kernel)
    (case z_min => first | k_is | rfl | decide +kernel)
    (case z_range => first | k_is | rfl | decide +kernel)
    (case z_sorted => first | k_is | rfl | decide +kernel)
    (case z_zip => first | k_is | rfl | decide +kernel)
    (case u_MOST_OPEN => first | k_is | rfl | decide +kernel)
    (case v_MOST_OPEN => first | rfl | exact ⟨_, rfl⟩ | k_is)
    (case u_MOST_WORDS => first | k_is | rfl | decide +kernel)
    (case v_MOST_WORDS => first | rfl | exact ⟨_, rfl⟩ | k_is)
    (case aC_BadRing => first | k_is | rfl | decide +kernel)
    (case aC_ClockError => first | k_is | rfl | decide +kernel)
    (case aC_TooMany => first | k_is | rfl | decide +kernel)
    (case xL_BadRing => first | k_is | rfl | decide +kernel)
    (case sa_BadRing => first | k_is | rfl | decide +kernel)
    (case eC_BadRing => first | k_is | rfl | decide +kernel)
    (case tC_BadRing => first | k_is | rfl | decide +kernel)
    (case kC_BadRing => first | k_is | rfl | decide +kernel)
    (case iC_BadRing => first | k_is | rfl | decide +kernel)
    (case tI_BadRing => first | k_is | rfl | decide +kernel)
    (case lI_BadRing => first | k_is | rfl | decide +kernel)
    (case cI_BadRing => first | k_is | rfl | decide +kernel)
    (case lc_BadRing => first | k_is | rfl | decide +kernel)
    (case v2_BadRing => first | rfl | exact ⟨_, rfl⟩ | k_is)
    (case fi_BadRing => first | rfl | exact ⟨_, rfl⟩ | k_is)
    (case le_BadRing => first | k_is | rfl | decide +kernel)
    (case mr_BadRing => first | k_is | rfl | decide +kernel)
    (case su_BadRing => first | k_is | rfl | decide +kernel)
    (case tp_BadRing => first | k_is | rfl | decide +kernel)
    (case si_BadRing => first | k_is | rfl | decide +kernel)
    (case ve_BadRing => first | k_is | rfl | decide +kernel)
    (case no_BadRing_index => first | k_is | rfl | decide +kernel)
    (case ga_BadRing => first | k_is | rfl | decide +kernel)
    (case gg_BadRing => first | k_is | rfl | decide +kernel)
    (case hd_BadRing => first | k_is | rfl | decide +kernel)
    (case ha_BadRing => first | k_is | rfl | decide +kernel)
    (case hn_BadRing => first | k_is | rfl | decide +kernel)
    (case ht_BadRing => first | k_is | rfl | decide +kernel)
    (case hm_BadRing => first | k_is | rfl | decide +kernel)
    (case ki_BadRing_TooMany => first | k_is | rfl | decide +kernel)
    (case ki_BadRing_ValueError => first | k_is | rfl | decide +kernel)
    (case ex_BadRing_ClockError => first | k_is | rfl | decide +kernel)
    (case xL_TooMany => first | k_is | rfl | decide +kernel)
    (case sa_TooMany => first | k_is | rfl | decide +kernel)
    (case eC_TooMany => first | k_is | rfl | decide +kernel)
    (case tC_TooMany => first | k_is | rfl | decide +kernel)
    (case kC_TooMany => first | k_is | rfl | decide +kernel)
    (case iC_TooMany => first | k_is | rfl | decide +kernel)
    (case tI_TooMany => first | k_is | rfl | decide +kernel)
    (case lI_TooMany => first | k_is | rfl | decide +kernel)
    (case cI_TooMany => first | k_is | rfl | decide +kernel)
    (case lc_TooMany => first | k_is | rfl | decide +kernel)
    (case v2_TooMany => first | rfl | exact ⟨_, rfl⟩ | k_is)
    (case fi_TooMany => first | rfl | exact ⟨_, rfl⟩ | k_is)
    (case le_TooMany => first | k_is | rfl | decide +kernel)
    (case mr_TooMany => first | k_is | rfl | decide +kernel)
    (case su_TooMany => first | k_is | rfl | decide +kernel)
    (case tp_TooMany => first | k_is | rfl | decide +kernel)
    (case si_TooMany => first | k_is | rfl | decide +kernel)
    (case ve_TooMany => first | k_is | rfl | decide +kernel)
    (case no_TooMany_word => first | k_is | rfl | decide +kernel)
    (case no_TooMany_limit => first | k_is | rfl | decide +kernel)
    (case ga_TooMany => first | k_is | rfl | decide +kernel)
    (case gg_TooMany => first | k_is | rfl | decide +kernel)
    (case hd_TooMany => first | k_is | rfl | decide +kernel)
    (case ha_TooMany => first | k_is | rfl | decide +kernel)
    (case hn_TooMany => first | k_is | rfl | decide +kernel)
    (case ht_TooMany => first | k_is | rfl | decide +kernel)
    (case hm_TooMany => first | k_is | rfl | decide +kernel)
    (case ki_TooMany_TooMany => first | k_is | rfl | decide +kernel)
    (case ki_TooMany_ValueError => first | k_is | rfl | decide +kernel)
    (case ex_TooMany_ClockError => first | k_is | rfl | decide +kernel)

