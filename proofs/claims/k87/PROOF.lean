import PyProof.Rows.All
import Wide.All
import OpenK.AllK
import Wide.FinOn
import HandS.ForMost
import HandS.ForExc
import HandS.Wide
import HandS.SortInts
import HandS.SortRule
import HandS.IsInst
import HandS.ExcIs
import HandS.Flow
import HandS.Style
import HandS.Conv
import HandS.More
import HandS.Evl
import HandS.ForDict
import HandS.Strs
import HandS.SetFor
import HandS.TupSets
import HandS.Text
import HandS.Steps
import HandS.Iter
import PySem.Challenge.RW_meshworks_k87_words
set_option Elab.async false
set_option linter.all false
set_option maxRecDepth 100000
set_option maxHeartbeats 2000000
/-! Mw, part A: data by their types, what represents them; the monad of the mirrors; what an expression tells. -/
namespace Mw
open PySem L2
abbrev Ex (H H' : Hp) : Prop := ∀ a o, H a = some o → H' a = some o
theorem Ex.rf (H : Hp) : Ex H H := fun _ _ h => h
theorem Ex.tr {H H1 H2 : Hp} (a : Ex H H1) (b : Ex H1 H2) : Ex H H2 := fun x o h => b x o (a x o h)
theorem Ex.nw {H : Hp} {p : Addr} {o : HO} (h : H p = none) : Ex H (upd H p o) := fun a u e => by
  rw [upd_ne (ne_of_none e h)]
  exact e
theorem ex_rd {H H' : Hp} {a : Addr} {u : HO} (e : Ex H H') (h : Rd H a u) : Rd H' a u := by
  rcases h with h | ⟨o, h⟩
  · exact Or.inl (e a _ h)
  · exact Or.inr ⟨o, e a _ h⟩
theorem ex_l {K : PySem.W.Frag} {H H' : Hp} {a : Addr} {xs : List V} (e : Ex H H') (h : SqL K H a xs) : SqL K H' a xs := by
  rcases h with h | h
  · exact Or.inl (ex_rd e h)
  · exact Or.inr h
theorem ex_t {K : PySem.W.Frag} {H H' : Hp} {a : Addr} {xs : List V} (e : Ex H H') (h : SqT K H a xs) : SqT K H' a xs := by
  rcases h with h | h
  · exact Or.inl (ex_rd e h)
  · exact Or.inr h

/-! ### what the frame may lean on (F), and all that is tracked (H): both grow -/
structure Gr (F H F' H' : Hp) : Prop where
  ff : Ex F F'
  fh : Ex F' H'
  hh : Ex H H'
  nw : ∀ b, F b = none → H b ≠ none → F' b = none
theorem Gr.rf {F H : Hp} (h : Ex F H) : Gr F H F H := ⟨Ex.rf _, h, Ex.rf _, fun _ a _ => a⟩
theorem Ex.ne {H H' : Hp} (h : Ex H H') {b : Addr} (n : H b ≠ none) : H' b ≠ none := by
  cases e : H b with
  | none => exact absurd e n
  | some o => rw [h b o e]; exact fun z => by cases z
theorem Gr.tr {F H F1 H1 F2 H2 : Hp} (a : Gr F H F1 H1) (b : Gr F1 H1 F2 H2) : Gr F H F2 H2 :=
  ⟨a.ff.tr b.ff, b.fh, a.hh.tr b.hh, fun c h1 h2 => b.nw c (a.nw c h1 h2) (a.hh.ne h2)⟩
/-- a new object that all may lean on -/
theorem Gr.new {F H : Hp} {p : Addr} {o : HO} (h : Ex F H) (n : H p = none) : Gr F H (upd F p o) (upd H p o) where
  ff := fun a u e => by
    have : a ≠ p := fun z => by subst z; rw [h a u e] at n; cases n
    rw [upd_ne this]; exact e
  fh := fun a u e => by
    by_cases z : a = p
    · subst z; rw [upd_same] at e ⊢; exact e
    · rw [upd_ne z] at e ⊢; exact h a u e
  hh := Ex.nw n
  nw := fun b h1 h2 => by
    have : b ≠ p := fun z => by subst z; exact h2 n
    rw [upd_ne this]; exact h1
/-- a new object of one's own -/
theorem Gr.own {F H : Hp} {p : Addr} {o : HO} (h : Ex F H) (n : H p = none) : Gr F H F (upd H p o) where
  ff := Ex.rf _
  fh := fun a u e => by
    have : a ≠ p := fun z => by subst z; rw [h a u e] at n; cases n
    rw [upd_ne this]; exact h a u e
  hh := Ex.nw n
  nw := fun b h1 _ => h1
/-- one's own object is changed -/
theorem Gr.mut {F0 H0 F H : Hp} {p : Addr} {o : HO} (g : Gr F0 H0 F H) (n0 : H0 p = none) (nf : F p = none) : Gr F0 H0 F (upd H p o) where
  ff := g.ff
  fh := fun a u e => by
    have : a ≠ p := fun z => by subst z; rw [e] at nf; cases nf
    rw [upd_ne this]; exact g.fh a u e
  hh := fun a u e => by
    have : a ≠ p := fun z => by subst z; rw [e] at n0; cases n0
    rw [upd_ne this]; exact g.hh a u e
  nw := g.nw
theorem ex_back {H H' : Hp} {p : Addr} (e : Ex H H') (h : H' p = none) : H p = none := by
  cases h1 : H p with
  | none => rfl
  | some o => rw [e p o h1] at h; cases h

/-! ### data -/
class Rep (α : Type) where
  rp : PySem.W.Frag → Hp → V → α → Prop
  mo : ∀ {K : PySem.W.Frag} {H H' : Hp} {v : V} {x : α}, Ex H H' → rp K H v x → rp K H' v x
open Rep (rp)
theorem paired_mo {α : Type} [Rep α] {K : PySem.W.Frag} {H H' : Hp} (e : Ex H H') : ∀ {vs : List V} {xs : List α}, Paired (rp K H) vs xs → Paired (rp K H') vs xs
  | _, _, .nil => .nil
  | _, _, .cons h t => .cons (Rep.mo e h) (paired_mo e t)
structure T3 (α β γ : Type) where
  a : α
  b : β
  c : γ
  deriving DecidableEq
structure T4 (α β γ δ : Type) where
  a : α
  b : β
  c : γ
  d : δ
  deriving DecidableEq
instance : Rep Int := ⟨fun _ _ v x => v = .int x, fun _ h => h⟩
instance : Rep Bool := ⟨fun _ _ v x => v = .bl x, fun _ h => h⟩
instance : Rep Str := ⟨fun _ _ v x => v = .str x, fun _ h => h⟩
instance : Rep Unit := ⟨fun _ _ v _ => v = .non, fun _ h => h⟩
instance {α : Type} [Rep α] : Rep (Option α) := ⟨fun K H v x => match x with
  | none => v = .non
  | some y => rp K H v y ∧ v ≠ .non, fun {K H H' v x} e h => by
    cases x with
    | none => exact h
    | some y => exact ⟨Rep.mo e h.1, h.2⟩⟩
instance {α β : Type} [Rep α] [Rep β] : Rep (α × β) := ⟨fun K H v x => ∃ a u w, v = .ref a ∧ SqT K H a [u, w] ∧ rp K H u x.1 ∧ rp K H w x.2,
  fun e ⟨a, u, w, h1, h2, h3, h4⟩ => ⟨a, u, w, h1, ex_t e h2, Rep.mo e h3, Rep.mo e h4⟩⟩
instance {α β γ : Type} [Rep α] [Rep β] [Rep γ] : Rep (T3 α β γ) := ⟨fun K H v x => ∃ a u w z, v = .ref a ∧ SqT K H a [u, w, z] ∧ rp K H u x.a ∧ rp K H w x.b ∧ rp K H z x.c,
  fun e ⟨a, u, w, z, h1, h2, h3, h4, h5⟩ => ⟨a, u, w, z, h1, ex_t e h2, Rep.mo e h3, Rep.mo e h4, Rep.mo e h5⟩⟩
instance {α β γ δ : Type} [Rep α] [Rep β] [Rep γ] [Rep δ] : Rep (T4 α β γ δ) := ⟨fun K H v x => ∃ a u w z y, v = .ref a ∧ SqT K H a [u, w, z, y] ∧ rp K H u x.a ∧ rp K H w x.b ∧ rp K H z x.c ∧ rp K H y x.d,
  fun e ⟨a, u, w, z, y, h1, h2, h3, h4, h5, h6⟩ => ⟨a, u, w, z, y, h1, ex_t e h2, Rep.mo e h3, Rep.mo e h4, Rep.mo e h5, Rep.mo e h6⟩⟩
instance {α : Type} [Rep α] : Rep (List α) := ⟨fun K H v x => ∃ a vs, v = .ref a ∧ H a = some (.lst vs) ∧ Paired (rp K H) vs x,
  fun e ⟨a, vs, h1, h2, h3⟩ => ⟨a, vs, h1, e _ _ h2, paired_mo e h3⟩⟩
/-- the script: read alone -/
structure Scr where
  l : List Int
instance : Rep Scr := ⟨fun K H v x => ∃ a, v = .ref a ∧ SqL K H a (x.l.map V.int), fun e ⟨a, h1, h2⟩ => ⟨a, h1, ex_l e h2⟩⟩
theorem paired_map {α β : Type} {F : α → β → Prop} {f : β → α} (h : ∀ b, F (f b) b) : ∀ xs : List β, Paired F (xs.map f) xs
  | [] => .nil
  | x :: r => .cons (h x) (paired_map h r)
theorem paired_int {K : PySem.W.Frag} {H : Hp} : ∀ {vs : List V} {xs : List Int}, Paired (rp K H) vs xs → vs = xs.map V.int
  | _, _, .nil => rfl
  | _, _, .cons h t => by
    rw [List.map_cons, ← paired_int t]
    exact congrArg (· :: _) h
theorem paired_bl {K : PySem.W.Frag} {H : Hp} : ∀ {vs : List V} {xs : List Bool}, Paired (rp K H) vs xs → vs = xs.map V.bl
  | _, _, .nil => rfl
  | _, _, .cons h t => by
    rw [List.map_cons, ← paired_bl t]
    exact congrArg (· :: _) h
theorem rep_int {K : PySem.W.Frag} {H : Hp} (xs : List Int) : Paired (rp K H) (xs.map V.int) xs := paired_map (F := rp K H) (f := V.int) (fun _ => rfl) xs
theorem paired_get {α β : Type} {F : α → β → Prop} : ∀ {vs : List α} {xs : List β} {i : Nat} {x : β}, Paired F vs xs → xs[i]? = some x → ∃ v, vs[i]? = some v ∧ F v x
  | _, _, _, _, .nil, e => by simp at e
  | _, _, 0, _, .cons r _, e => by simp at e; subst e; exact ⟨_, rfl, r⟩
  | _, _, i + 1, x, .cons _ t, e => by
    obtain ⟨u, h1, h2⟩ := paired_get (i := i) (x := x) t (by simpa using e)
    exact ⟨u, by simpa using h1, h2⟩
theorem paired_get' {α β : Type} {F : α → β → Prop} : ∀ {vs : List α} {xs : List β} {i : Nat} {v : α}, Paired F vs xs → vs[i]? = some v → ∃ x, xs[i]? = some x ∧ F v x
  | _, _, _, _, .nil, e => by simp at e
  | _, _, 0, _, .cons r _, e => by simp at e; subst e; exact ⟨_, rfl, r⟩
  | _, _, i + 1, x, .cons _ t, e => by
    obtain ⟨u, h1, h2⟩ := paired_get' (i := i) (v := x) t (by simpa using e)
    exact ⟨u, by simpa using h1, h2⟩
theorem paired_app {α β : Type} {F : α → β → Prop} : ∀ {vs ws : List α} {xs ys : List β}, Paired F vs xs → Paired F ws ys → Paired F (vs ++ ws) (xs ++ ys)
  | _, _, _, _, .nil, s => s
  | _, _, _, _, .cons r t, s => .cons r (paired_app t s)
theorem paired_take {α β : Type} {F : α → β → Prop} : ∀ {vs : List α} {xs : List β} (n : Nat), Paired F vs xs → Paired F (vs.take n) (xs.take n)
  | _, _, 0, _ => .nil
  | _, _, _ + 1, .nil => .nil
  | _, _, n + 1, .cons r t => .cons r (paired_take n t)
theorem paired_drop {α β : Type} {F : α → β → Prop} : ∀ {vs : List α} {xs : List β} (n : Nat), Paired F vs xs → Paired F (vs.drop n) (xs.drop n)
  | _, _, 0, r => r
  | _, _, _ + 1, .nil => .nil
  | _, _, n + 1, .cons _ t => paired_drop n t
theorem paired_rev {α β : Type} {F : α → β → Prop} : ∀ {vs : List α} {xs : List β}, Paired F vs xs → Paired F vs.reverse xs.reverse
  | _, _, .nil => .nil
  | _, _, .cons r t => by
    rw [List.reverse_cons, List.reverse_cons]
    exact paired_app (paired_rev t) (.cons r .nil)
theorem paired_set {α β : Type} {F : α → β → Prop} {v : α} {x : β} (r : F v x) : ∀ {vs : List α} {xs : List β} (i : Nat), Paired F vs xs → Paired F (vs.set i v) (xs.set i x)
  | _, _, _, .nil => .nil
  | _, _, 0, .cons _ t => .cons r t
  | _, _, i + 1, .cons q t => .cons q (paired_set r i t)
theorem paired_rep {α β : Type} {F : α → β → Prop} {v : α} {x : β} (r : F v x) : ∀ n : Nat, Paired F (List.replicate n v) (List.replicate n x)
  | 0 => .nil
  | n + 1 => .cons r (paired_rep r n)

/-! ### data that lean on no list -/
def TupEx (F F' : Hp) : Prop := ∀ a xs, Rd F a (.tup xs) → Rd F' a (.tup xs)
class Flat (α : Type) [Rep α] : Prop where
  fl : ∀ {K : PySem.W.Frag} {F F' : Hp} {v : V} {x : α}, TupEx F F' → rp K F v x → rp K F' v x
theorem tup_t {K : PySem.W.Frag} {H H' : Hp} {a : Addr} {xs : List V} (e : TupEx H H') (h : SqT K H a xs) : SqT K H' a xs := by
  rcases h with h | h
  · exact Or.inl (e a xs h)
  · exact Or.inr h
instance : Flat Int := ⟨fun _ h => h⟩
instance : Flat Bool := ⟨fun _ h => h⟩
instance : Flat Str := ⟨fun _ h => h⟩
instance : Flat Unit := ⟨fun _ h => h⟩
instance {α : Type} [Rep α] [Flat α] : Flat (Option α) := ⟨fun {K F F' v x} e h => by
  cases x with
  | none => exact h
  | some y => exact ⟨Flat.fl e h.1, h.2⟩⟩
instance {α β : Type} [Rep α] [Rep β] [Flat α] [Flat β] : Flat (α × β) := ⟨fun e ⟨a, u, w, h1, h2, h3, h4⟩ => ⟨a, u, w, h1, tup_t e h2, Flat.fl e h3, Flat.fl e h4⟩⟩
instance {α β γ : Type} [Rep α] [Rep β] [Rep γ] [Flat α] [Flat β] [Flat γ] : Flat (T3 α β γ) := ⟨fun e ⟨a, u, w, z, h1, h2, h3, h4, h5⟩ => ⟨a, u, w, z, h1, tup_t e h2, Flat.fl e h3, Flat.fl e h4, Flat.fl e h5⟩⟩
instance {α β γ δ : Type} [Rep α] [Rep β] [Rep γ] [Rep δ] [Flat α] [Flat β] [Flat γ] [Flat δ] : Flat (T4 α β γ δ) := ⟨fun e ⟨a, u, w, z, y, h1, h2, h3, h4, h5, h6⟩ => ⟨a, u, w, z, y, h1, tup_t e h2, Flat.fl e h3, Flat.fl e h4, Flat.fl e h5, Flat.fl e h6⟩⟩
theorem paired_fl {α : Type} [Rep α] [Flat α] {K : PySem.W.Frag} {F F' : Hp} (e : TupEx F F') : ∀ {vs : List V} {xs : List α}, Paired (rp K F) vs xs → Paired (rp K F') vs xs
  | _, _, .nil => .nil
  | _, _, .cons h t => .cons (Flat.fl e h) (paired_fl e t)

/-! ### the mirrors' monad -/
structure Err where
  name : String
  deriving DecidableEq
inductive M (α : Type) where
  | ok (a : α)
  | er (c : Err)
  | bad
  deriving DecidableEq
def M.bind {α β : Type} : M α → (α → M β) → M β
  | .ok a, f => f a
  | .er c, _ => .er c
  | .bad, _ => .bad
@[simp] theorem M.ok_bind {α β : Type} (a : α) (f : α → M β) : (M.ok a).bind f = f a := (rfl)
@[simp] theorem M.er_bind {α β : Type} (c : Err) (f : α → M β) : (M.er c : M α).bind f = .er c := (rfl)
@[simp] theorem M.bad_bind {α β : Type} (f : α → M β) : (M.bad : M α).bind f = .bad := (rfl)

/-! ### what comes of a run -/
abbrev Md (ρ : Type) := Hp → Hp → Hp → Hp → V → ρ → Prop
/-- any value that represents it -/
def rv (K : PySem.W.Frag) {ρ : Type} [Rep ρ] : Md ρ := fun _ _ F' _ v r => rp K F' v r
/-- a new list of one's own -/
def rn (K : PySem.W.Frag) {α : Type} [Rep α] : Md (List α) := fun _ H F' H' v r => ∃ p vs, v = .ref p ∧ H p = none ∧ F' p = none ∧ H' p = some (.lst vs) ∧ Paired (rp K F') vs r
/-- the classes of errors by their names -/
abbrev Ce := String → Addr
def Post {ρ : Type} (ce : Ce) (md : Md ρ) (m : M ρ) (F H : Hp) (Q : VK) (E : XK) : Prop :=
  match m with
  | .ok r => ∀ F' H' v, Gr F H F' H' → md F H F' H' v r → Q v H'
  | .er c => ∀ H', Ex H H' → E (.ref (ce c.name)) none H'
  | .bad => False
class MdMo {ρ : Type} (md : Md ρ) : Prop where
  mo : ∀ {F H F1 H1 F2 H2 v r}, Gr F H F1 H1 → md F1 H1 F2 H2 v r → md F H F2 H2 v r
instance {K : PySem.W.Frag} {ρ : Type} [Rep ρ] : MdMo (rv K (ρ := ρ)) := ⟨fun _ h => h⟩
instance {K : PySem.W.Frag} {α : Type} [Rep α] : MdMo (rn K (α := α)) := ⟨fun g ⟨p, vs, h1, h2, h3⟩ => ⟨p, vs, h1, ex_back g.hh h2, h3⟩⟩
theorem Post.mo {ρ : Type} {ce : Ce} {md : Md ρ} [MdMo md] {m : M ρ} {F H F1 H1 : Hp} {Q : VK} {E : XK} (g : Gr F H F1 H1) (h : Post ce md m F H Q E) : Post ce md m F1 H1 Q E := by
  cases m with
  | ok r => exact fun F' H' v g' hm => h F' H' v (g.tr g') (MdMo.mo g hm)
  | er c => exact fun H' e => h H' (g.hh.tr e)
  | bad => exact h
/-- what an expression tells, whatever has been done meanwhile -/
def Ev {ρ : Type} (ce : Ce) (E : XK) (te : TE) (σ : L2.St) (F H : Hp) (md : Md ρ) (m : M ρ) : Prop := ∀ F1 H1, Gr F H F1 H1 → ∀ Q : VK, Post ce md m F1 H1 Q E → te σ H1 Q
/-- a test -/
def PostT (ce : Ce) (m : M Bool) (F H : Hp) (Q : Bool → Hp → Prop) (E : XK) : Prop :=
  match m with
  | .ok r => ∀ F' H', Gr F H F' H' → Q r H'
  | .er c => ∀ H', Ex H H' → E (.ref (ce c.name)) none H'
  | .bad => False
def EvT (ce : Ce) (E : XK) (tt : TT) (σ : L2.St) (F H : Hp) (m : M Bool) : Prop := ∀ F1 H1, Gr F H F1 H1 → ∀ Q : Bool → Hp → Prop, PostT ce m F1 H1 Q E → tt σ H1 Q
theorem PostT.mo {ce : Ce} {m : M Bool} {F H F1 H1 : Hp} {Q : Bool → Hp → Prop} {E : XK} (g : Gr F H F1 H1) (h : PostT ce m F H Q E) : PostT ce m F1 H1 Q E := by
  cases m with
  | ok r => exact fun F' H' g' => h F' H' (g.tr g')
  | er c => exact fun H' e => h H' (g.hh.tr e)
  | bad => exact h
section
variable {ρ α β γ : Type} [Rep α] [Rep β] [Rep γ] {ce : Ce} {E : XK} {K : PySem.W.Frag} {σ : L2.St} {F H F' H' : Hp} {te ta tb tc : TE} {tt tu : TT} {md : Md ρ} {m : M ρ}
theorem Ev.mo (g : Gr F H F' H') (h : Ev ce E te σ F H md m) : Ev ce E te σ F' H' md m := fun F1 H1 g1 Q q => h F1 H1 (g.tr g1) Q q
theorem EvT.mo {m : M Bool} (g : Gr F H F' H') (h : EvT ce E tt σ F H m) : EvT ce E tt σ F' H' m := fun F1 H1 g1 Q q => h F1 H1 (g.tr g1) Q q
/-- run a part, then what follows (F0, H0: the entry) -/
theorem Ev.run {m1 : M α} {k : α → M ρ} {Q Q' : VK} {F0 H0 : Hp} (h : Ev ce E ta σ F H (rv K) m1) (G : Gr F0 H0 F H) (q : Post ce md (m1.bind k) F0 H0 Q E)
    (c : ∀ x F1 H1 v, m1 = .ok x → Gr F H F1 H1 → rp K F1 v x → Post ce md (k x) F0 H0 Q E → Q' v H1) : ta σ H Q' := by
  refine h F H (Gr.rf G.fh) Q' ?_
  cases m1 with
  | ok x => exact fun F1 H1 v g r => c x F1 H1 v rfl g r q
  | er cc => exact fun H' e => q H' (G.hh.tr e)
  | bad => exact q
theorem Ev.runN {m1 : M (List α)} {k : List α → M ρ} {Q Q' : VK} {F0 H0 : Hp} (h : Ev ce E ta σ F H (rn K) m1) (G : Gr F0 H0 F H) (q : Post ce md (m1.bind k) F0 H0 Q E)
    (c : ∀ x F1 H1 p vs, m1 = .ok x → Gr F H F1 H1 → H p = none → F1 p = none → H1 p = some (.lst vs) → Paired (rp K F1) vs x → Post ce md (k x) F0 H0 Q E → Q' (.ref p) H1) : ta σ H Q' := by
  refine h F H (Gr.rf G.fh) Q' ?_
  cases m1 with
  | ok x =>
    rintro F1 H1 v g ⟨p, vs, rfl, h1, h2, h3, h4⟩
    exact c x F1 H1 p vs rfl g h1 h2 h3 h4 q
  | er cc => exact fun H' e => q H' (G.hh.tr e)
  | bad => exact q
theorem EvT.run {m1 : M Bool} {k : Bool → M ρ} {Q : VK} {Q' : Bool → Hp → Prop} {F0 H0 : Hp} (h : EvT ce E tt σ F H m1) (G : Gr F0 H0 F H) (q : Post ce md (m1.bind k) F0 H0 Q E)
    (c : ∀ x F1 H1, m1 = .ok x → Gr F H F1 H1 → Post ce md (k x) F0 H0 Q E → Q' x H1) : tt σ H Q' := by
  refine h F H (Gr.rf G.fh) Q' ?_
  cases m1 with
  | ok x => exact fun F1 H1 g => c x F1 H1 rfl g q
  | er cc => exact fun H' e => q H' (G.hh.tr e)
  | bad => exact q
/-- a new list may be leant on -/
theorem Ev.nv {m : M (List α)} (h : Ev ce E te σ F H (rn K) m) : Ev ce E te σ F H (rv K) m := by
  intro F1 H1 g Q q
  refine h F1 H1 g Q ?_
  cases m with
  | ok x =>
    rintro F2 H2 v g2 ⟨p, vs, rfl, h1, h2, h3, h4⟩
    refine q (upd F2 p (.lst vs)) H2 (.ref p) ⟨g2.ff.tr (Ex.nw h2), ?_, g2.hh, fun b a1 a2 => ?_⟩ ⟨p, vs, rfl, upd_same, paired_mo (Ex.nw h2) h4⟩
    · intro a u e
      by_cases z : a = p
      · subst z; rw [upd_same] at e; rw [h3]; exact e
      · rw [upd_ne z] at e; exact g2.fh a u e
    · have : b ≠ p := fun z => by subst z; exact a2 h1
      rw [upd_ne this]; exact g2.nw b a1 a2
  | er c => exact q
  | bad => exact q
/-! ### names, constants, operators -/
theorem em_var {i : Nat} {v : V} {x : α} (h : σ[i]? = some (some v)) (r : rp K F v x) : Ev ce E (tVar i) σ F H (rv K) (.ok x) :=
  fun F1 H1 g Q q => ⟨v, h, q F1 H1 v (Gr.rf g.fh) (Rep.mo g.ff r)⟩
theorem em_int {i : Int} : Ev ce E (tC (.int i)) σ F H (rv K) (.ok i) := fun F1 H1 g Q q => q F1 H1 _ (Gr.rf g.fh) rfl
theorem em_bl {b : Bool} : Ev ce E (tC (.bl b)) σ F H (rv K) (.ok b) := fun F1 H1 g Q q => q F1 H1 _ (Gr.rf g.fh) rfl
theorem em_str {s : Str} : Ev ce E (tC (.str s)) σ F H (rv K) (.ok s) := fun F1 H1 g Q q => q F1 H1 _ (Gr.rf g.fh) rfl
theorem em_unit : Ev ce E (tC .non) σ F H (rv K) (.ok ()) := fun F1 H1 g Q q => q F1 H1 _ (Gr.rf g.fh) rfl
theorem em_none : Ev ce E (tC .non) σ F H (rv K) (.ok (none : Option α)) := fun F1 H1 g Q q => q F1 H1 _ (Gr.rf g.fh) rfl
def Op1 (ce : Ce) (E : XK) (K : PySem.W.Frag) (r : V → Hp → VK → Prop) (md : Md ρ) (x : α) (m : M ρ) : Prop := ∀ F1 H1 vx, Ex F1 H1 → rp K F1 vx x → ∀ Q, Post ce md m F1 H1 Q E → r vx H1 Q
def Op2 (ce : Ce) (E : XK) (K : PySem.W.Frag) (r : R2) (md : Md ρ) (x : α) (y : β) (m : M ρ) : Prop := ∀ F1 H1 vx vy, Ex F1 H1 → rp K F1 vx x → rp K F1 vy y → ∀ Q, Post ce md m F1 H1 Q E → r vx vy H1 Q
theorem em_op [MdMo md] {r : R2} {m1 : M α} {m2 : M β} {g : α → β → M ρ} (ha : Ev ce E ta σ F H (rv K) m1) (hb : Ev ce E tb σ F H (rv K) m2) (hr : ∀ x y, Op2 ce E K r md x y (g x y)) :
    Ev ce E (tOp r ta tb) σ F H md (m1.bind fun x => m2.bind fun y => g x y) := by
  intro F1 H1 g1 Q q
  refine ha F1 H1 g1 _ ?_
  cases m1 with
  | ok x =>
    intro F2 H2 vx g2 rx
    refine hb F2 H2 (g1.tr g2) _ ?_
    cases m2 with
    | ok y => exact fun F3 H3 vy g3 ry => hr x y F3 H3 vx vy g3.fh (Rep.mo g3.ff rx) ry Q (Post.mo (g2.tr g3) q)
    | er c => exact fun H' e => q H' (g2.hh.tr e)
    | bad => exact q
  | er c => exact q
  | bad => exact q
theorem em_un [MdMo md] {r : V → Hp → VK → Prop} {m1 : M α} {g : α → M ρ} (ha : Ev ce E ta σ F H (rv K) m1) (hr : ∀ x, Op1 ce E K r md x (g x)) :
    Ev ce E (tUn r ta) σ F H md (m1.bind g) := by
  intro F1 H1 g1 Q q
  refine ha F1 H1 g1 _ ?_
  cases m1 with
  | ok x => exact fun F2 H2 vx g2 rx => hr x F2 H2 vx g2.fh rx Q (Post.mo g2 q)
  | er c => exact q
  | bad => exact q
theorem o_I0 {x y : Int} {g : Int → Int → V} {z : α} (h : ∀ F, rp K F (g x y) z) : Op2 ce E K (rI0 g) (rv K) x y (.ok z) := fun F1 H1 vx vy e rx ry Q q => by
  cases rx; cases ry
  exact ⟨x, y, rfl, rfl, q F1 H1 _ (Gr.rf e) (h F1)⟩
theorem o_I {C : Int → Int → Prop} {x y : Int} {g : Int → Int → V} {z : α} (hc : C x y) (h : ∀ F, rp K F (g x y) z) : Op2 ce E K (rI C g) (rv K) x y (.ok z) := fun F1 H1 vx vy e rx ry Q q => by
  cases rx; cases ry
  exact ⟨x, y, rfl, rfl, hc, q F1 H1 _ (Gr.rf e) (h F1)⟩
/-- (decided classically: so that no kernel sets out to reckon the test) -/
noncomputable def chk {α : Type} (c : Prop) (x : α) : M α := @ite _ c (Classical.propDecidable c) (.ok x) .bad
theorem o_Ic {C : Int → Int → Prop} [∀ i j, Decidable (C i j)] {x y : Int} {g : Int → Int → V} {z : α} (h : ∀ F, rp K F (g x y) z) : Op2 ce E K (rI C g) (rv K) x y (chk (C x y) z) := fun F1 H1 vx vy e rx ry Q q => by
  unfold chk at q
  split at q
  · rename_i hc
    exact o_I hc h F1 H1 vx vy e rx ry Q q
  · exact q.elim
end
end Mw

set_option Elab.async false
set_option linter.all false
set_option maxRecDepth 100000
set_option maxHeartbeats 2000000
/-! Mw, part B: the readings of expressions. -/
namespace Mw
open PySem L2
open Rep (rp)
/-! ### numbers with bounds -/
def CDivZ (_ j : Int) : Prop := j ≠ 0 ∧ j.natAbs.log2 < 9000
instance : ∀ i j, Decidable (CMulW i j) := fun i j => by unfold CMulW; infer_instance
instance : ∀ i j, Decidable (CDivW i j) := fun i j => by unfold CDivW; infer_instance
instance : ∀ i j, Decidable (CDivZ i j) := fun i j => by unfold CDivZ; infer_instance
instance : ∀ i j, Decidable (CPow i j) := fun i j => by unfold CPow; infer_instance
section
variable {X : Cx}
theorem op_fdivZ : OpR X (binaryOp .FloorDiv) (rI CDivZ fun i j => .int (i.fdiv j)) := by
  intro pins s σ H x y v u Q I rx ry h
  obtain ⟨i, j, rfl, rfl, hc, q⟩ := h
  obtain ⟨t, rfl⟩ := rx
  obtain ⟨t', rfl⟩ := ry
  exact PyProof.Rows.floordiv_int hc.1 ⟨.int _, H, I.tok _, ⟨_, rfl⟩, q⟩ (.inl (PyProof.noPylong_of_log2 hc.2))
end
noncomputable def mulM (x y : Int) : M Int := chk (CMulW x y) (x * y)
noncomputable def fdivM (x y : Int) : M Int := chk (CDivW x y) (x / y)
noncomputable def fdivZ (x y : Int) : M Int := chk (CDivZ x y) (x.fdiv y)
noncomputable def modM (x y : Int) : M Int := chk (0 < y) (x % y)
noncomputable def powM (x y : Int) : M Int := chk (CPow x y) (x ^ y.toNat)
section
variable {ρ α β γ δ : Type} [Rep α] [Rep β] [Rep γ] [Rep δ] {ce : Ce} {E : XK} {K : PySem.W.Frag} {σ : L2.St} {F H F' H' : Hp} {te ta tb tc td : TE} {tt tu : TT} {md : Md ρ} {m : M ρ}
theorem o_add {x y : Int} : Op2 ce E K (rI0 fun i j => .int (i + j)) (rv K) x y (.ok (x + y)) := o_I0 fun _ => rfl
theorem o_sub {x y : Int} : Op2 ce E K (rI0 fun i j => .int (i - j)) (rv K) x y (.ok (x - y)) := o_I0 fun _ => rfl
theorem o_mul {x y : Int} : Op2 ce E K (rI CMulW fun i j => .int (i * j)) (rv K) x y (mulM x y) := o_Ic fun _ => rfl
theorem o_fdivM {x y : Int} : Op2 ce E K (rI CDivW fun i j => .int (i / j)) (rv K) x y (fdivM x y) := o_Ic fun _ => rfl
theorem o_fdivZ {x y : Int} : Op2 ce E K (rI CDivZ fun i j => .int (i.fdiv j)) (rv K) x y (fdivZ x y) := o_Ic fun _ => rfl
theorem o_modM {x y : Int} : Op2 ce E K (rI (fun _ j => 0 < j) fun i j => .int (i % j)) (rv K) x y (modM x y) := o_Ic fun _ => rfl
theorem o_powM {x y : Int} : Op2 ce E K (rI CPow fun i j => .int (i ^ j.toNat)) (rv K) x y (powM x y) := o_Ic fun _ => rfl
theorem o_lt {x y : Int} : Op2 ce E K (rI0 fun i j => .bl (decide (i < j))) (rv K) x y (.ok (decide (x < y))) := o_I0 fun _ => rfl
theorem o_le {x y : Int} : Op2 ce E K (rI0 fun i j => .bl (decide (i ≤ j))) (rv K) x y (.ok (decide (x ≤ y))) := o_I0 fun _ => rfl
theorem o_gt {x y : Int} : Op2 ce E K (rI0 fun i j => .bl (decide (j < i))) (rv K) x y (.ok (decide (y < x))) := o_I0 fun _ => rfl
theorem o_ge {x y : Int} : Op2 ce E K (rI0 fun i j => .bl (decide (j ≤ i))) (rv K) x y (.ok (decide (y ≤ x))) := o_I0 fun _ => rfl
/-- both sides plain: one rule for the operators on ints -/
theorem e2 {r : R2} {x : α} {y : β} {z : ρ} [MdMo md] (ha : Ev ce E ta σ F H (rv K) (.ok x)) (hb : Ev ce E tb σ F H (rv K) (.ok y)) (hr : Op2 ce E K r md x y (.ok z)) : Ev ce E (tOp r ta tb) σ F H md (.ok z) := by
  intro F1 H1 g1 Q q
  refine ha F1 H1 g1 _ fun F2 H2 vx g2 rx => hb F2 H2 (g1.tr g2) _ fun F3 H3 vy g3 ry => ?_
  exact hr F3 H3 vx vy g3.fh (Rep.mo g3.ff rx) ry Q (Post.mo (m := .ok z) (g2.tr g3) q)
theorem e_neg {x : Int} (ha : Ev ce E ta σ F H (rv K) (.ok x)) : Ev ce E (tUn (rU fun i => .int (-i)) ta) σ F H (rv K) (.ok (-x)) := by
  intro F1 H1 g1 Q q
  refine ha F1 H1 g1 _ fun F2 H2 vx g2 rx => ?_
  cases rx
  exact ⟨x, rfl, q F2 H2 _ g2 rfl⟩
theorem o_neg {x : Int} : Op1 ce E K (rU fun i => .int (-i)) (rv K) x (.ok (-x)) := fun F1 H1 vx e rx Q q => by
  cases rx
  exact ⟨x, rfl, q F1 H1 _ (Gr.rf e) rfl⟩
/-- a product, one factor written: below 2 ^ 64 -/
theorem o_mulL {x y : Int} (h : CMul x y) : Op2 ce E K (rI CMul fun i j => .int (i * j)) (rv K) x y (.ok (x * y)) := o_I h fun _ => rfl
theorem o_fdiv {x y : Int} (h : CDiv x y) : Op2 ce E K (rI CDiv fun i j => .int (i / j)) (rv K) x y (.ok (x / y)) := o_I h fun _ => rfl
theorem o_fdivW {x y : Int} (h : CDivW x y) : Op2 ce E K (rI CDivW fun i j => .int (i / j)) (rv K) x y (.ok (x / y)) := o_I h fun _ => rfl
theorem o_mod {x y : Int} (h : 0 < y) : Op2 ce E K (rI (fun _ j => 0 < j) fun i j => .int (i % j)) (rv K) x y (.ok (x % y)) := o_I h fun _ => rfl
theorem o_pow {x y : Int} (h : CPow x y) : Op2 ce E K (rI CPow fun i j => .int (i ^ j.toNat)) (rv K) x y (.ok (x ^ y.toNat)) := o_I h fun _ => rfl
/-- what is told in other words -/
theorem e_is {x y : ρ} (h : Ev ce E te σ F H md (.ok x)) (e : x = y) : Ev ce E te σ F H md (.ok y) := by rw [← e]; exact h
theorem em_is {m m' : M ρ} (h : Ev ce E te σ F H md m) (e : m = m') : Ev ce E te σ F H md m' := by rw [← e]; exact h

/-! ### tests -/
theorem t_of {m : M Bool} (h : Ev ce E te σ F H (rv K) m) : EvT ce E (tTest te) σ F H m := fun F1 H1 g1 Q q => by
  refine h F1 H1 g1 _ ?_
  cases m with
  | ok b => exact fun F2 H2 v g2 r => ⟨b, r, q F2 H2 g2⟩
  | er c => exact q
  | bad => exact q
theorem t_B {m : M Bool} (h : Ev ce E te σ F H (rv K) m) : EvT ce E (tB te) σ F H m := fun F1 H1 g1 Q q => by
  refine h F1 H1 g1 _ ?_
  cases m with
  | ok b => exact fun F2 H2 v g2 r => ⟨b, r, q F2 H2 g2⟩
  | er c => exact q
  | bad => exact q
theorem t_and {a b : Bool} (ha : EvT ce E tt σ F H (.ok a)) (hb : EvT ce E tu σ F H (.ok b)) : EvT ce E (tAnd tt tu) σ F H (.ok (a && b)) := fun F1 H1 g1 Q q => by
  refine ha F1 H1 g1 _ fun F2 H2 g2 => ?_
  cases a with
  | true => exact hb F2 H2 (g1.tr g2) _ fun F3 H3 g3 => q F3 H3 (g2.tr g3)
  | false => exact q F2 H2 g2
theorem t_or {a b : Bool} (ha : EvT ce E tt σ F H (.ok a)) (hb : EvT ce E tu σ F H (.ok b)) : EvT ce E (tOr tt tu) σ F H (.ok (a || b)) := fun F1 H1 g1 Q q => by
  refine ha F1 H1 g1 _ fun F2 H2 g2 => ?_
  cases a with
  | false => exact hb F2 H2 (g1.tr g2) _ fun F3 H3 g3 => q F3 H3 (g2.tr g3)
  | true => exact q F2 H2 g2
def andM (m : M Bool) (k : M Bool) : M Bool := m.bind fun a => if a then k else .ok false
def orM (m : M Bool) (k : M Bool) : M Bool := m.bind fun a => if a then .ok true else k
def notM (m : M Bool) : M Bool := m.bind fun a => .ok (!a)
@[simp] theorem andM_t (k : M Bool) : andM (.ok true) k = k := rfl
@[simp] theorem andM_f (k : M Bool) : andM (.ok false) k = .ok false := rfl
@[simp] theorem orM_t (k : M Bool) : orM (.ok true) k = .ok true := rfl
@[simp] theorem orM_f (k : M Bool) : orM (.ok false) k = k := rfl
@[simp] theorem notM_ok (a : Bool) : notM (.ok a) = .ok (!a) := rfl
theorem tm_and {m k : M Bool} (ha : EvT ce E tt σ F H m) (hb : EvT ce E tu σ F H k) : EvT ce E (tAnd tt tu) σ F H (andM m k) := fun F1 H1 g1 Q q => by
  refine ha F1 H1 g1 _ ?_
  cases m with
  | ok a =>
    intro F2 H2 g2
    cases a with
    | true => exact hb F2 H2 (g1.tr g2) _ (PostT.mo g2 q)
    | false => exact q F2 H2 g2
  | er c => exact q
  | bad => exact q
theorem tm_or {m k : M Bool} (ha : EvT ce E tt σ F H m) (hb : EvT ce E tu σ F H k) : EvT ce E (tOr tt tu) σ F H (orM m k) := fun F1 H1 g1 Q q => by
  refine ha F1 H1 g1 _ ?_
  cases m with
  | ok a =>
    intro F2 H2 g2
    cases a with
    | false => exact hb F2 H2 (g1.tr g2) _ (PostT.mo g2 q)
    | true => exact q F2 H2 g2
  | er c => exact q
  | bad => exact q
theorem t_not {a : Bool} (ha : EvT ce E tt σ F H (.ok a)) : EvT ce E (tNot tt) σ F H (.ok (!a)) := fun F1 H1 g1 Q q => ha F1 H1 g1 _ fun F2 H2 g2 => q F2 H2 g2
theorem tm_not {m : M Bool} (ha : EvT ce E tt σ F H m) : EvT ce E (tNot tt) σ F H (notM m) := fun F1 H1 g1 Q q => by
  refine ha F1 H1 g1 _ ?_
  cases m with
  | ok a => exact fun F2 H2 g2 => q F2 H2 g2
  | er c => exact q
  | bad => exact q
theorem e_andV {a b : Bool} (ha : Ev ce E ta σ F H (rv K) (.ok a)) (hb : Ev ce E tb σ F H (rv K) (.ok b)) : Ev ce E (tAndV ta tb) σ F H (rv K) (.ok (a && b)) := fun F1 H1 g1 Q q => by
  refine ha F1 H1 g1 _ fun F2 H2 v g2 r => ⟨a, r, ?_⟩
  cases a with
  | true => exact hb F2 H2 (g1.tr g2) _ fun F3 H3 v' g3 => q F3 H3 v' (g2.tr g3)
  | false => exact q F2 H2 _ g2 rfl
theorem e_orV {a b : Bool} (ha : Ev ce E ta σ F H (rv K) (.ok a)) (hb : Ev ce E tb σ F H (rv K) (.ok b)) : Ev ce E (tOrV ta tb) σ F H (rv K) (.ok (a || b)) := fun F1 H1 g1 Q q => by
  refine ha F1 H1 g1 _ fun F2 H2 v g2 r => ⟨a, r, ?_⟩
  cases a with
  | false => exact hb F2 H2 (g1.tr g2) _ fun F3 H3 v' g3 => q F3 H3 v' (g2.tr g3)
  | true => exact q F2 H2 _ g2 rfl
theorem em_andV {m k : M Bool} (ha : Ev ce E ta σ F H (rv K) m) (hb : Ev ce E tb σ F H (rv K) k) : Ev ce E (tAndV ta tb) σ F H (rv K) (andM m k) := fun F1 H1 g1 Q q => by
  refine ha F1 H1 g1 _ ?_
  cases m with
  | ok a =>
    refine fun F2 H2 v g2 r => ⟨a, r, ?_⟩
    cases a with
    | true => exact hb F2 H2 (g1.tr g2) _ (Post.mo g2 q)
    | false => exact q F2 H2 _ g2 rfl
  | er c => exact q
  | bad => exact q
theorem em_orV {m k : M Bool} (ha : Ev ce E ta σ F H (rv K) m) (hb : Ev ce E tb σ F H (rv K) k) : Ev ce E (tOrV ta tb) σ F H (rv K) (orM m k) := fun F1 H1 g1 Q q => by
  refine ha F1 H1 g1 _ ?_
  cases m with
  | ok a =>
    refine fun F2 H2 v g2 r => ⟨a, r, ?_⟩
    cases a with
    | false => exact hb F2 H2 (g1.tr g2) _ (Post.mo g2 q)
    | true => exact q F2 H2 _ g2 rfl
  | er c => exact q
  | bad => exact q
theorem e_notV {a : Bool} (ha : Ev ce E ta σ F H (rv K) (.ok a)) : Ev ce E (tNotV ta) σ F H (rv K) (.ok (!a)) := fun F1 H1 g1 Q q => ha F1 H1 g1 _ fun F2 H2 v g2 r => ⟨a, r, q F2 H2 _ g2 rfl⟩
theorem em_notV {m : M Bool} (ha : Ev ce E ta σ F H (rv K) m) : Ev ce E (tNotV ta) σ F H (rv K) (notM m) := fun F1 H1 g1 Q q => by
  refine ha F1 H1 g1 _ ?_
  cases m with
  | ok a => exact fun F2 H2 v g2 r => ⟨a, r, q F2 H2 _ g2 rfl⟩
  | er c => exact q
  | bad => exact q
theorem em_if [MdMo md] {b : M Bool} {m k : M ρ} (h : EvT ce E tt σ F H b) (ha : Ev ce E ta σ F H md m) (hb : Ev ce E tb σ F H md k) : Ev ce E (tIf tt ta tb) σ F H md (b.bind fun c => if c then m else k) := fun F1 H1 g1 Q q => by
  refine h F1 H1 g1 _ ?_
  cases b with
  | ok b =>
    refine fun F2 H2 g2 => ?_
    cases b with
    | true => exact ha F2 H2 (g1.tr g2) _ (Post.mo g2 q)
    | false => exact hb F2 H2 (g1.tr g2) _ (Post.mo g2 q)
  | er c => exact q
  | bad => exact q
/-- x < y < z and its like -/
theorem em_chain {r r' : R2} {m1 : M α} {m2 : M β} {m3 : M γ} {p : α → β → Bool} {p' : β → γ → Bool} (ha : Ev ce E ta σ F H (rv K) m1) (hb : Ev ce E tb σ F H (rv K) m2) (hc : Ev ce E tc σ F H (rv K) m3)
    (h : ∀ x y, Op2 ce E K r (rv K) x y (.ok (p x y))) (h' : ∀ x y, Op2 ce E K r' (rv K) x y (.ok (p' x y))) :
    Ev ce E (tChain r r' ta tb tc) σ F H (rv K) (m1.bind fun x => m2.bind fun y => if p x y then m3.bind fun z => .ok (p' y z) else .ok false) := fun F1 H1 g1 Q q => by
  refine ha F1 H1 g1 _ ?_
  cases m1 with
  | ok x =>
    intro F2 H2 vx g2 rx
    refine hb F2 H2 (g1.tr g2) _ ?_
    cases m2 with
    | ok y =>
      intro F3 H3 vy g3 ry
      refine h x y F3 H3 vx vy g3.fh (Rep.mo g3.ff rx) ry _ fun F4 H4 v4 g4 r4 => ⟨p x y, r4, ?_⟩
      have q' : Post ce (rv K) (if p x y then m3.bind fun z => .ok (p' y z) else .ok false) F1 H1 Q E := q
      cases e : p x y with
      | true =>
        rw [e] at q'
        refine hc F4 H4 (((g1.tr g2).tr g3).tr g4) _ ?_
        cases m3 with
        | ok z => exact fun F5 H5 vz g5 rz => h' y z F5 H5 vy vz g5.fh (Rep.mo (g4.ff.tr g5.ff) ry) rz Q (Post.mo (m := .ok (p' y z)) (((g2.tr g3).tr g4).tr g5) q')
        | er c => exact fun H' e => q' H' (((g2.tr g3).tr g4).hh.tr e)
        | bad => exact q'
      | false =>
        rw [e] at q'
        exact q' F4 H4 _ ((g2.tr g3).tr g4) rfl
    | er c => exact fun H' e => q H' (g2.hh.tr e)
    | bad => exact q
  | er c => exact q
  | bad => exact q

/-! ### argument lists: what stands for each -/
/-- RA tells that the values stand for the data -/
inductive RA (K : PySem.W.Frag) (F : Hp) : List V → List ((V → Prop)) → Prop
/-- the arguments are told one by one: k runs with all of them -/
def EvA (ce : Ce) (E : XK) (ta : TA) (σ : L2.St) (F H : Hp) (R : Hp → List V → Prop) : Prop := ∀ F1 H1, Gr F H F1 H1 → ∀ Q : List V → Hp → Prop, (∀ F2 H2 vs, Gr F1 H1 F2 H2 → R F2 vs → Q vs H2) → ta σ H1 Q
/-- .. with effects -/
def EvAM (ce : Ce) (E : XK) (ta : TA) (σ : L2.St) (F H : Hp) (m : M α) (R : Hp → List V → α → Prop) : Prop := ∀ F1 H1, Gr F H F1 H1 → ∀ Q : List V → Hp → Prop,
  (match m with
    | .ok x => ∀ F2 H2 vs, Gr F1 H1 F2 H2 → R F2 vs x → Q vs H2
    | .er c => ∀ H', Ex H1 H' → E (.ref (ce c.name)) none H'
    | .bad => False) → ta σ H1 Q
def R0 : Hp → List V → Unit → Prop := fun _ vs _ => vs = []
def RC (K : PySem.W.Frag) {α β : Type} [Rep α] (R : Hp → List V → β → Prop) : Hp → List V → α × β → Prop := fun F vs x => ∃ v r, vs = v :: r ∧ rp K F v x.1 ∧ R F r x.2
class RMo {α : Type} (R : Hp → List V → α → Prop) : Prop where
  mo : ∀ {F F' vs x}, Ex F F' → R F vs x → R F' vs x
instance : RMo R0 := ⟨fun _ h => h⟩
instance {K : PySem.W.Frag} {α β : Type} [Rep α] {R : Hp → List V → β → Prop} [RMo R] : RMo (RC K (α := α) R) := ⟨fun e ⟨v, r, h1, h2, h3⟩ => ⟨v, r, h1, Rep.mo e h2, RMo.mo e h3⟩⟩
theorem ea_nil : EvAM ce E tNil σ F H (.ok ()) R0 := fun F1 H1 g1 Q q => q F1 H1 [] (Gr.rf g1.fh) rfl
theorem ea_cons {tr : TA} {m1 : M α} {m2 : M β} {R : Hp → List V → β → Prop} (ha : Ev ce E ta σ F H (rv K) m1) (hr : EvAM ce E tr σ F H m2 R) :
    EvAM ce E (tCons ta tr) σ F H (m1.bind fun x => m2.bind fun y => .ok (x, y)) (RC K R) := fun F1 H1 g1 Q q => by
  refine ha F1 H1 g1 _ ?_
  cases m1 with
  | ok x =>
    intro F2 H2 vx g2 rx
    refine hr F2 H2 (g1.tr g2) _ ?_
    cases m2 with
    | ok y => exact fun F3 H3 vs g3 r3 => q F3 H3 (vx :: vs) (g2.tr g3) ⟨vx, vs, rfl, Rep.mo g3.ff rx, r3⟩
    | er c => exact fun H' e => q H' (g2.hh.tr e)
    | bad => exact q
  | er c => exact q
  | bad => exact q
theorem e_cons {tr : TA} {x : α} {y : β} {R : Hp → List V → β → Prop} (ha : Ev ce E ta σ F H (rv K) (.ok x)) (hr : EvAM ce E tr σ F H (.ok y) R) : EvAM ce E (tCons ta tr) σ F H (.ok (x, y)) (RC K R) := ea_cons (m1 := .ok x) (m2 := .ok y) ha hr
/-- a call of values that are known: r what it asks, m what comes of it -/
def OpA (ce : Ce) (E : XK) (R : Hp → List V → α → Prop) (r : List V → Hp → VK → Prop) (md : Md ρ) (x : α) (m : M ρ) : Prop := ∀ F1 H1 vs, Ex F1 H1 → R F1 vs x → ∀ Q, Post ce md m F1 H1 Q E → r vs H1 Q
theorem em_cb [MdMo md] {ta : TA} {r : List V → Hp → VK → Prop} {m1 : M α} {R : Hp → List V → α → Prop} {g : α → M ρ} (ha : EvAM ce E ta σ F H m1 R) (hr : ∀ x, OpA ce E R r md x (g x)) : Ev ce E (tCB r ta) σ F H md (m1.bind g) := fun F1 H1 g1 Q q => by
  refine ha F1 H1 g1 _ ?_
  cases m1 with
  | ok x => exact fun F2 H2 vs g2 r2 => hr x F2 H2 vs g2.fh r2 Q (Post.mo g2 q)
  | er c => exact q
  | bad => exact q
theorem e_cb [MdMo md] {ta : TA} {r : List V → Hp → VK → Prop} {x : α} {R : Hp → List V → α → Prop} {z : ρ} (ha : EvAM ce E ta σ F H (.ok x) R) (hr : OpA ce E R r md x (.ok z)) : Ev ce E (tCB r ta) σ F H md (.ok z) := fun F1 H1 g1 Q q =>
  ha F1 H1 g1 _ fun F2 H2 vs g2 r2 => hr F2 H2 vs g2.fh r2 Q (Post.mo (m := .ok z) g2 q)
/-- a call of a def by its promise -/
def SpA (ce : Ce) (R : Hp → List V → α → Prop) (sp : Sp) (md : Md ρ) (x : α) (m : M ρ) : Prop := ∀ F1 H1 vs, Ex F1 H1 → R F1 vs x → ∀ Q (E : XK), Post ce md m F1 H1 Q E → sp vs H1 Q E
theorem em_call [MdMo md] {ta : TA} {sp : Sp} {m1 : M α} {R : Hp → List V → α → Prop} {g : α → M ρ} (ha : EvAM ce E ta σ F H m1 R) (hr : ∀ x, SpA ce R sp md x (g x)) : Ev ce E (tCall sp [] E ta) σ F H md (m1.bind g) := fun F1 H1 g1 Q q => by
  refine ha F1 H1 g1 _ ?_
  cases m1 with
  | ok x =>
    intro F2 H2 vs g2 r2
    show sp (vs ++ []) H2 Q E
    rw [List.append_nil]
    exact hr x F2 H2 vs g2.fh r2 Q E (Post.mo g2 q)
  | er c => exact q
  | bad => exact q
theorem e_call [MdMo md] {ta : TA} {sp : Sp} {x : α} {R : Hp → List V → α → Prop} {m : M ρ} (ha : EvAM ce E ta σ F H (.ok x) R) (hr : SpA ce R sp md x m) : Ev ce E (tCall sp [] E ta) σ F H md m := fun F1 H1 g1 Q q =>
  ha F1 H1 g1 _ fun F2 H2 vs g2 r2 => by
    show sp (vs ++ []) H2 Q E
    rw [List.append_nil]
    exact hr F2 H2 vs g2.fh r2 Q E (Post.mo g2 q)

/-! ### displays -/
theorem gr_new {o : HO} {p : Addr} (h : Ex F H) (n : H p = none) : F p = none := ex_back h n
theorem em_tup {ta : TA} {m1 : M α} {R : Hp → List V → α → Prop} [RMo R] {g : α → ρ} [Rep ρ] (ha : EvAM ce E ta σ F H m1 R) (hs : ∀ F vs x, R F vs x → vs.length ≤ sizeLine)
    (hg : ∀ F p vs x, R F vs x → F p = some (.tup vs) → rp K F (.ref p) (g x)) : Ev ce E (tTup ta) σ F H (rv K) (m1.bind fun x => .ok (g x)) := fun F1 H1 g1 Q q => by
  refine ha F1 H1 g1 _ ?_
  cases m1 with
  | ok x =>
    refine fun F2 H2 vs g2 r2 => ⟨hs F2 vs x r2, fun p np => ?_⟩
    refine q (upd F2 p (.tup vs)) _ _ (g2.tr (Gr.new g2.fh np)) (hg _ p vs x (RMo.mo (Ex.nw (ex_back g2.fh np)) r2) upd_same)
  | er c => exact q
  | bad => exact q
theorem r2_len {F : Hp} {vs : List V} {x : α × β × Unit} (h : RC K (RC K R0) F vs x) : vs.length ≤ sizeLine := by
  obtain ⟨v, r, rfl, _, v', r', rfl, _, rfl⟩ := h
  show 2 ≤ sizeLine
  decide
theorem em_tup2 {m1 : M α} {m2 : M β} (ha : Ev ce E ta σ F H (rv K) m1) (hb : Ev ce E tb σ F H (rv K) m2) : Ev ce E (tTup (tCons ta (tCons tb tNil))) σ F H (rv K) (m1.bind fun x => m2.bind fun y => .ok (x, y)) := fun F1 H1 g1 Q q => by
  refine ha F1 H1 g1 _ ?_
  cases m1 with
  | ok x =>
    intro F2 H2 v2 g2 q2
    refine hb F2 H2 (g1.tr g2) _ ?_
    cases m2 with
    | ok y =>
      refine fun F3 H3 v3 g3 q3 => ⟨by show 2 ≤ sizeLine; decide, fun p np => ?_⟩
      have e := Ex.nw (o := .tup [v2, v3]) (ex_back g3.fh np)
      exact q _ _ _ ((g2.tr g3).tr (Gr.new g3.fh np)) ⟨p, v2, v3, rfl, SqT.of upd_same, Rep.mo (g3.ff.tr e) q2, Rep.mo e q3⟩
    | er c => exact fun H' e => q H' (g2.hh.tr e)
    | bad => exact q
  | er c => exact q
  | bad => exact q
theorem em_tup3 {m1 : M α} {m2 : M β} {m3 : M γ} (ha : Ev ce E ta σ F H (rv K) m1) (hb : Ev ce E tb σ F H (rv K) m2) (hc : Ev ce E tc σ F H (rv K) m3) :
    Ev ce E (tTup (tCons ta (tCons tb (tCons tc tNil)))) σ F H (rv K) (m1.bind fun x => m2.bind fun y => m3.bind fun z => .ok (T3.mk x y z)) := fun F1 H1 g1 Q q => by
  refine ha F1 H1 g1 _ ?_
  cases m1 with
  | ok x =>
    intro F2 H2 v2 g2 q2
    refine hb F2 H2 (g1.tr g2) _ ?_
    cases m2 with
    | ok y =>
      intro F3 H3 v3 g3 q3
      refine hc F3 H3 ((g1.tr g2).tr g3) _ ?_
      cases m3 with
      | ok z =>
        refine fun F4 H4 v4 g4 q4 => ⟨by show 3 ≤ sizeLine; decide, fun p np => ?_⟩
        have e := Ex.nw (o := .tup [v2, v3, v4]) (ex_back g4.fh np)
        exact q _ _ _ (((g2.tr g3).tr g4).tr (Gr.new g4.fh np)) ⟨p, v2, v3, v4, rfl, SqT.of upd_same, Rep.mo ((g3.ff.tr g4.ff).tr e) q2, Rep.mo (g4.ff.tr e) q3, Rep.mo e q4⟩
      | er c => exact fun H' e => q H' ((g2.tr g3).hh.tr e)
      | bad => exact q
    | er c => exact fun H' e => q H' (g2.hh.tr e)
    | bad => exact q
  | er c => exact q
  | bad => exact q
/-- a written list: its items one by one -/
def EvL (ce : Ce) (E : XK) (K : PySem.W.Frag) (ta : TA) (σ : L2.St) (F H : Hp) (m : M (List α)) : Prop := EvAM ce E ta σ F H m (fun F vs x => Paired (rp K F) vs x)
theorem el_nil : EvL ce E K tNil σ F H (.ok ([] : List α)) := fun F1 H1 g1 Q q => q F1 H1 [] (Gr.rf g1.fh) .nil
theorem el_cons {tr : TA} {m1 : M α} {m2 : M (List α)} (ha : Ev ce E ta σ F H (rv K) m1) (hr : EvL ce E K tr σ F H m2) : EvL ce E K (tCons ta tr) σ F H (m1.bind fun x => m2.bind fun y => .ok (x :: y)) := fun F1 H1 g1 Q q => by
  refine ha F1 H1 g1 _ ?_
  cases m1 with
  | ok x =>
    intro F2 H2 vx g2 rx
    refine hr F2 H2 (g1.tr g2) _ ?_
    cases m2 with
    | ok y => exact fun F3 H3 vs g3 r3 => q F3 H3 (vx :: vs) (g2.tr g3) (.cons (Rep.mo g3.ff rx) r3)
    | er c => exact fun H' e => q H' (g2.hh.tr e)
    | bad => exact q
  | er c => exact q
  | bad => exact q
theorem em_lst {ta : TA} {m : M (List α)} (ha : EvL ce E K ta σ F H m) (hs : ∀ x, m = .ok x → x.length ≤ 1000) : Ev ce E (tLst ta) σ F H (rn K) m := fun F1 H1 g1 Q q => by
  refine ha F1 H1 g1 _ ?_
  cases m with
  | ok x =>
    refine fun F2 H2 vs g2 r2 => ⟨Nat.le_of_lt (small1000 (by rw [Paired.length r2]; exact hs x rfl)), fun p np => ?_⟩
    exact q F2 _ _ (g2.tr (Gr.own g2.fh np)) ⟨p, vs, rfl, ex_back g2.hh np, ex_back g2.fh np, upd_same, r2⟩
  | er c => exact q
  | bad => exact q

/-! ### places, lengths, slices -/
def ixM (xs : List α) (i : Int) : M α := match atI xs i with
  | some x => .ok x
  | none => .bad
theorem atI_pair {F : V → α → Prop} {vs : List V} {xs : List α} {i : Int} {x : α} (h : Paired F vs xs) (e : atI xs i = some x) : ∃ v, atI vs i = some v ∧ F v x := by
  unfold atI at e ⊢
  rw [Paired.length h]
  cases q : ixN xs.length i with
  | none => rw [q] at e; cases e
  | some j =>
    rw [q] at e
    exact paired_get h e
theorem o_ixL {xs : List α} {i : Int} : Op2 ce E K (rIxL K) (rv K) xs i (ixM xs i) := fun F1 H1 vx vy e rx ry Q q => by
  obtain ⟨a, vs, rfl, h2, h3⟩ := rx
  cases ry
  unfold ixM at q
  split at q
  · rename_i x hx
    obtain ⟨v, hv, rv'⟩ := atI_pair h3 hx
    exact ⟨a, vs, i, v, rfl, rfl, SqL.of (e _ _ h2), hv, q F1 H1 v (Gr.rf e) rv'⟩
  · exact q.elim
theorem o_ixS {xs : Scr} {i : Int} : Op2 ce E K (rIxL K) (rv K) xs i (ixM xs.l i) := fun F1 H1 vx vy e rx ry Q q => by
  obtain ⟨a, rfl, h2⟩ := rx
  cases ry
  unfold ixM at q
  split at q
  · rename_i x hx
    obtain ⟨v, hv, rv'⟩ := atI_pair (rep_int (K := K) (H := F1) xs.l) hx
    exact ⟨a, _, i, v, rfl, rfl, ex_l e h2, hv, q F1 H1 v (Gr.rf e) rv'⟩
  · exact q.elim
/-- places of tuples -/
theorem e_fst {x : α × β} (ha : Ev ce E ta σ F H (rv K) (.ok x)) : Ev ce E (tOp (rIxT K) ta (tC (.int 0))) σ F H (rv K) (.ok x.1) := fun F1 H1 g1 Q q => by
  refine ha F1 H1 g1 _ fun F2 H2 vx g2 ⟨a, u, w, e1, e2, e3, e4⟩ => ?_
  subst e1
  exact ⟨a, [u, w], 0, u, rfl, rfl, ex_t g2.fh e2, rfl, q F2 H2 u g2 e3⟩
theorem e_snd {x : α × β} (ha : Ev ce E ta σ F H (rv K) (.ok x)) : Ev ce E (tOp (rIxT K) ta (tC (.int 1))) σ F H (rv K) (.ok x.2) := fun F1 H1 g1 Q q => by
  refine ha F1 H1 g1 _ fun F2 H2 vx g2 ⟨a, u, w, e1, e2, e3, e4⟩ => ?_
  subst e1
  exact ⟨a, [u, w], 1, w, rfl, rfl, ex_t g2.fh e2, rfl, q F2 H2 w g2 e4⟩
theorem o_fst {x : α × β} {i : Int} (hi : i = 0) : Op2 ce E K (rIxT K) (rv K) x i (.ok x.1) := fun F1 H1 vx vy e ⟨a, u, w, e1, e2, e3, e4⟩ ry Q q => by
  subst e1 hi
  cases ry
  exact ⟨a, [u, w], 0, u, rfl, rfl, ex_t e e2, rfl, q F1 H1 u (Gr.rf e) e3⟩
theorem o_snd {x : α × β} {i : Int} (hi : i = 1) : Op2 ce E K (rIxT K) (rv K) x i (.ok x.2) := fun F1 H1 vx vy e ⟨a, u, w, e1, e2, e3, e4⟩ ry Q q => by
  subst e1 hi
  cases ry
  exact ⟨a, [u, w], 1, w, rfl, rfl, ex_t e e2, rfl, q F1 H1 w (Gr.rf e) e4⟩
theorem o_a3 {x : T3 α β γ} {i : Int} (hi : i = 0) : Op2 ce E K (rIxT K) (rv K) x i (.ok x.a) := fun F1 H1 vx vy e ⟨a, u, w, z, e1, e2, e3, e4, e5⟩ ry Q q => by
  subst e1 hi
  cases ry
  exact ⟨a, [u, w, z], 0, u, rfl, rfl, ex_t e e2, rfl, q F1 H1 u (Gr.rf e) e3⟩
theorem o_b3 {x : T3 α β γ} {i : Int} (hi : i = 1) : Op2 ce E K (rIxT K) (rv K) x i (.ok x.b) := fun F1 H1 vx vy e ⟨a, u, w, z, e1, e2, e3, e4, e5⟩ ry Q q => by
  subst e1 hi
  cases ry
  exact ⟨a, [u, w, z], 1, w, rfl, rfl, ex_t e e2, rfl, q F1 H1 w (Gr.rf e) e4⟩
theorem o_c3 {x : T3 α β γ} {i : Int} (hi : i = 2) : Op2 ce E K (rIxT K) (rv K) x i (.ok x.c) := fun F1 H1 vx vy e ⟨a, u, w, z, e1, e2, e3, e4, e5⟩ ry Q q => by
  subst e1 hi
  cases ry
  exact ⟨a, [u, w, z], 2, z, rfl, rfl, ex_t e e2, rfl, q F1 H1 z (Gr.rf e) e5⟩
/-- len -/
def rLenS (K : PySem.W.Frag) : List V → Hp → VK → Prop := fun xs H Q => ∃ p ys, xs = [.ref p] ∧ (SqL K H p ys ∨ SqT K H p ys) ∧ Q (.int ys.length) H
theorem a_len {xs : List α} : OpA ce E (RC K R0) (rLenS K) (rv K) (xs, ()) (.ok (xs.length : Int)) := fun F1 H1 vs e ⟨v, r, e1, ⟨a, us, h1, h2, h3⟩, e3⟩ Q q => by
  cases e3
  subst e1 h1
  refine ⟨a, us, rfl, .inl (SqL.of (e _ _ h2)), ?_⟩
  rw [Paired.length h3]
  exact q F1 H1 _ (Gr.rf e) rfl
theorem a_lenS {xs : Scr} : OpA ce E (RC K R0) (rLenS K) (rv K) (xs, ()) (.ok (xs.l.length : Int)) := fun F1 H1 vs e ⟨v, r, e1, ⟨a, h1, h2⟩, e3⟩ Q q => by
  cases e3
  subst e1 h1
  refine ⟨a, _, rfl, .inl (ex_l e h2), ?_⟩
  rw [List.length_map]
  exact q F1 H1 _ (Gr.rf e) rfl
theorem a_len2 {x : α × β} : OpA ce E (RC K R0) (rLenS K) (rv K) (x, ()) (.ok (2 : Int)) := fun F1 H1 vs e ⟨v, r, e1, ⟨a, u, w, h1, h2, h3, h4⟩, e3⟩ Q q => by
  cases e3
  subst e1 h1
  exact ⟨a, _, rfl, .inr (ex_t e h2), q F1 H1 _ (Gr.rf e) rfl⟩
theorem a_len3 {x : T3 α β γ} : OpA ce E (RC K R0) (rLenS K) (rv K) (x, ()) (.ok (3 : Int)) := fun F1 H1 vs e ⟨v, r, e1, ⟨a, u, w, z, h1, h2, h3, h4, h5⟩, e3⟩ Q q => by
  cases e3
  subst e1 h1
  exact ⟨a, _, rfl, .inr (ex_t e h2), q F1 H1 _ (Gr.rf e) rfl⟩
/-- list(xs): a new one -/
def rListS (K : PySem.W.Frag) : List V → Hp → VK → Prop := fun xs H Q => ∃ p ys, xs = [.ref p] ∧ (SqL K H p ys ∨ SqT K H p ys) ∧ ∀ l, H l = none → Q (.ref l) (upd H l (.lst ys))
theorem a_list {xs : List α} : OpA ce E (RC K R0) (rListS K) (rn K) (xs, ()) (.ok xs) := fun F1 H1 vs e ⟨v, r, e1, ⟨a, us, h1, h2, h3⟩, e3⟩ Q q => by
  cases e3
  subst e1 h1
  exact ⟨a, us, rfl, .inl (SqL.of (e _ _ h2)), fun l nl => q F1 _ _ (Gr.own e nl) ⟨l, us, rfl, nl, ex_back e nl, upd_same, h3⟩⟩
theorem a_listS {xs : Scr} : OpA ce E (RC K R0) (rListS K) (rn K) (xs, ()) (.ok xs.l) := fun F1 H1 vs e ⟨v, r, e1, ⟨a, h1, h2⟩, e3⟩ Q q => by
  cases e3
  subst e1 h1
  exact ⟨a, _, rfl, .inl (ex_l e h2), fun l nl => q F1 _ _ (Gr.own e nl) ⟨l, _, rfl, nl, ex_back e nl, upd_same, rep_int _⟩⟩
/-- abs, max, min, int of what is known -/
theorem a_abs {x : Int} : OpA ce E (RC K R0) (fun xs H Q => ∃ i, xs = [.int i] ∧ Q (.int (if i < 0 then -i else i)) H) (rv K) (x, ()) (.ok (if x < 0 then -x else x)) := fun F1 H1 vs e ⟨v, r, e1, h1, e3⟩ Q q => by
  cases e3
  cases h1
  subst e1
  exact ⟨x, rfl, q F1 H1 _ (Gr.rf e) rfl⟩
theorem a_max2 {x y : Int} : OpA ce E (RC K (RC K R0)) (fun xs H Q => ∃ i j, xs = [.int i, .int j] ∧ Q (.int (if j > i then j else i)) H) (rv K) (x, y, ()) (.ok (if y > x then y else x)) := fun F1 H1 vs e ⟨v, r, e1, h1, v', r', e2, h2, e3⟩ Q q => by
  cases e3
  cases h1
  cases h2
  subst e2
  subst e1
  exact ⟨x, y, rfl, q F1 H1 _ (Gr.rf e) rfl⟩
theorem a_min2 {x y : Int} : OpA ce E (RC K (RC K R0)) (fun xs H Q => ∃ i j, xs = [.int i, .int j] ∧ Q (.int (if j < i then j else i)) H) (rv K) (x, y, ()) (.ok (if y < x then y else x)) := fun F1 H1 vs e ⟨v, r, e1, h1, v', r', e2, h2, e3⟩ Q q => by
  cases e3
  cases h1
  cases h2
  subst e2
  subst e1
  exact ⟨x, y, rfl, q F1 H1 _ (Gr.rf e) rfl⟩
theorem a_intB {x : Bool} : OpA ce E (RC K R0) (fun xs H Q => (∃ i, xs = [.int i] ∧ Q (.int i) H) ∨ ∃ k, xs = [.bl k] ∧ Q (.int (if k then 1 else 0)) H) (rv K) (x, ()) (.ok (if x then (1 : Int) else 0)) := fun F1 H1 vs e ⟨v, r, e1, h1, e3⟩ Q q => by
  cases e3
  cases h1
  subst e1
  exact .inr ⟨x, rfl, q F1 H1 _ (Gr.rf e) rfl⟩
/-- sum of ints -/
theorem a_sum {xs : List Int} : OpA ce E (RC K R0) (rSum K) (rv K) (xs, ()) (.ok xs.sum) := fun F1 H1 vs e ⟨v, r, e1, ⟨a, us, h1, h2, h3⟩, e3⟩ Q q => by
  cases e3
  subst e1 h1
  have := paired_int h3
  subst this
  exact ⟨a, xs, rfl, SqL.of (e _ _ h2), q F1 H1 _ (Gr.rf e) rfl⟩
/-- the greatest, the least of a list of ints -/
def maxL : List Int → Int
  | [] => 0
  | [x] => x
  | x :: r => max x (maxL r)
def minL : List Int → Int
  | [] => 0
  | [x] => x
  | x :: r => min x (minL r)
theorem maxL_mem : ∀ {xs : List Int}, xs ≠ [] → maxL xs ∈ xs ∧ ∀ y ∈ xs, y ≤ maxL xs
  | [], h => absurd rfl h
  | [x], _ => ⟨List.mem_singleton.mpr rfl, fun y hy => by rw [List.mem_singleton.mp hy]; exact Int.le_refl _⟩
  | x :: y :: r, _ => by
    obtain ⟨h1, h2⟩ := maxL_mem (xs := y :: r) (by simp)
    show max x (maxL (y :: r)) ∈ _ ∧ ∀ z ∈ _, z ≤ max x (maxL (y :: r))
    refine ⟨?_, fun z hz => ?_⟩
    · by_cases c : x ≤ maxL (y :: r)
      · rw [Int.max_eq_right c]; exact List.mem_cons_of_mem _ h1
      · rw [Int.max_eq_left (by omega)]; exact List.mem_cons_self
    · rcases List.mem_cons.mp hz with rfl | hz
      · exact Int.le_max_left _ _
      · exact Int.le_trans (h2 z hz) (Int.le_max_right _ _)
theorem minL_mem : ∀ {xs : List Int}, xs ≠ [] → minL xs ∈ xs ∧ ∀ y ∈ xs, minL xs ≤ y
  | [], h => absurd rfl h
  | [x], _ => ⟨List.mem_singleton.mpr rfl, fun y hy => by rw [List.mem_singleton.mp hy]; exact Int.le_refl _⟩
  | x :: y :: r, _ => by
    obtain ⟨h1, h2⟩ := minL_mem (xs := y :: r) (by simp)
    show min x (minL (y :: r)) ∈ _ ∧ ∀ z ∈ _, min x (minL (y :: r)) ≤ z
    refine ⟨?_, fun z hz => ?_⟩
    · by_cases c : x ≤ minL (y :: r)
      · rw [Int.min_eq_left c]; exact List.mem_cons_self
      · rw [Int.min_eq_right (by omega)]; exact List.mem_cons_of_mem _ h1
    · rcases List.mem_cons.mp hz with rfl | hz
      · exact Int.min_le_left _ _
      · exact Int.le_trans (Int.min_le_right _ _) (h2 z hz)
noncomputable def maxM (xs : List Int) : M Int := chk (xs ≠ []) (maxL xs)
noncomputable def minM (xs : List Int) : M Int := chk (xs ≠ []) (minL xs)
theorem a_max {xs : List Int} : OpA ce E (RC K R0) (rMax K) (rv K) (xs, ()) (maxM xs) := fun F1 H1 vs e ⟨v, r, e1, ⟨a, us, h1, h2, h3⟩, e3⟩ Q q => by
  cases e3
  subst e1 h1
  have := paired_int h3
  subst this
  unfold maxM chk at q
  split at q
  · rename_i hne
    refine ⟨a, xs, rfl, SqL.of (e _ _ h2), List.length_pos_iff.mpr hne, fun m hm hle => ?_⟩
    obtain ⟨k1, k2⟩ := maxL_mem hne
    have : m = maxL xs := Int.le_antisymm (k2 m hm) (hle _ k1)
    subst this
    exact q F1 H1 _ (Gr.rf e) rfl
  · exact q.elim
theorem a_min {xs : List Int} : OpA ce E (RC K R0) (rMin K) (rv K) (xs, ()) (minM xs) := fun F1 H1 vs e ⟨v, r, e1, ⟨a, us, h1, h2, h3⟩, e3⟩ Q q => by
  cases e3
  subst e1 h1
  have := paired_int h3
  subst this
  unfold minM chk at q
  split at q
  · rename_i hne
    refine ⟨a, xs, rfl, SqL.of (e _ _ h2), List.length_pos_iff.mpr hne, fun m hm hle => ?_⟩
    obtain ⟨k1, k2⟩ := minL_mem hne
    have : m = minL xs := Int.le_antisymm (hle _ k1) (k2 m hm)
    subst this
    exact q F1 H1 _ (Gr.rf e) rfl
  · exact q.elim
end
end Mw

set_option Elab.async false
set_option linter.all false
set_option maxRecDepth 100000
set_option maxHeartbeats 2000000
/-! Mw, part C: slices, sums of lists, comparisons of data, sorts, comprehensions. -/
namespace Mw
open PySem L2
open Rep (rp)
/-! ### slices, list + list, list * int -/
def cut {α : Type} (xs : List α) (lo hi : Option Int) : List α := (xs.drop (HT.sIx xs.length 0 lo)).take (HT.sIx xs.length xs.length hi - HT.sIx xs.length 0 lo)
theorem cutV_is (xs : List V) (lo hi : Option Int) : cutV xs lo hi = cut xs lo hi := rfl
theorem paired_cut {α β : Type} {F : α → β → Prop} {vs : List α} {xs : List β} (h : Paired F vs xs) (lo hi : Option Int) : Paired F (cut vs lo hi) (cut xs lo hi) := by
  unfold cut
  rw [Paired.length h]
  exact paired_take _ (paired_drop _ h)
section
variable {ρ α β γ δ : Type} [Rep α] [Rep β] [Rep γ] [Rep δ] {ce : Ce} {E : XK} {K : PySem.W.Frag} {σ : L2.St} {F H F' H' : Hp} {te ta tb tc td : TE} {tt tu : TT} {md : Md ρ} {m : M ρ}
def EvO (ce : Ce) (E : XK) (to : TO) (σ : L2.St) (F H : Hp) (m : M (Option Int)) : Prop := ∀ F1 H1, Gr F H F1 H1 → ∀ Q : Option Int → Hp → Prop,
  (match m with
    | .ok x => ∀ F2 H2, Gr F1 H1 F2 H2 → Q x H2
    | .er c => ∀ H', Ex H1 H' → E (.ref (ce c.name)) none H'
    | .bad => False) → to σ H1 Q
theorem eo_none : EvO ce E tNoPart σ F H (.ok none) := fun F1 H1 g1 Q q => q F1 H1 (Gr.rf g1.fh)
theorem eo_some {m : M Int} (h : Ev ce E te σ F H (rv K) m) : EvO ce E (tPart te) σ F H (m.bind fun i => .ok (some i)) := fun F1 H1 g1 Q q => by
  refine h F1 H1 g1 _ ?_
  cases m with
  | ok i => exact fun F2 H2 v g2 r => ⟨i, r, q F2 H2 g2⟩
  | er c => exact q
  | bad => exact q
theorem eo_some' {i : Int} (h : Ev ce E te σ F H (rv K) (.ok i)) : EvO ce E (tPart te) σ F H (.ok (some i)) := eo_some (m := .ok i) h
theorem em_sl {tl th : TO} {m1 : M (List α)} {m2 m3 : M (Option Int)} (ha : Ev ce E ta σ F H (rv K) m1) (hl : EvO ce E tl σ F H m2) (hh : EvO ce E th σ F H m3) :
    Ev ce E (tSl (rSlL K) ta tl th) σ F H (rn K) (m1.bind fun x => m2.bind fun lo => m3.bind fun hi => .ok (cut x lo hi)) := fun F1 H1 g1 Q q => by
  refine ha F1 H1 g1 _ ?_
  cases m1 with
  | ok x =>
    rintro F2 H2 vx g2 ⟨a, vs, e1, e2, e3⟩
    refine hl F2 H2 (g1.tr g2) _ ?_
    cases m2 with
    | ok lo =>
      intro F3 H3 g3
      refine hh F3 H3 ((g1.tr g2).tr g3) _ ?_
      cases m3 with
      | ok hi =>
        intro F4 H4 g4
        refine ⟨a, vs, e1, SqL.of (g4.hh _ _ (g3.hh _ _ (g2.fh _ _ e2))), fun p np => ?_⟩
        exact q F4 _ _ (((g2.tr g3).tr g4).tr (Gr.own g4.fh np)) ⟨p, _, rfl, ex_back ((g2.hh.tr g3.hh).tr g4.hh) np, ex_back g4.fh np, upd_same, paired_cut (paired_mo (g3.ff.tr g4.ff) e3) lo hi⟩
      | er c => exact fun H' e => q H' ((g2.tr g3).hh.tr e)
      | bad => exact q
    | er c => exact fun H' e => q H' (g2.hh.tr e)
    | bad => exact q
  | er c => exact q
  | bad => exact q
/-- a slice of the script -/
theorem em_slS {tl th : TO} {x : Scr} {m2 m3 : M (Option Int)} (ha : Ev ce E ta σ F H (rv K) (.ok x)) (hl : EvO ce E tl σ F H m2) (hh : EvO ce E th σ F H m3) :
    Ev ce E (tSl (rSlL K) ta tl th) σ F H (rn K) (m2.bind fun lo => m3.bind fun hi => .ok (cut x.l lo hi)) := fun F1 H1 g1 Q q => by
  refine ha F1 H1 g1 _ ?_
  rintro F2 H2 vx g2 ⟨a, e1, e2⟩
  refine hl F2 H2 (g1.tr g2) _ ?_
  cases m2 with
  | ok lo =>
    intro F3 H3 g3
    refine hh F3 H3 ((g1.tr g2).tr g3) _ ?_
    cases m3 with
    | ok hi =>
      intro F4 H4 g4
      refine ⟨a, _, e1, ex_l ((g2.fh.tr g3.hh).tr g4.hh) e2, fun p np => ?_⟩
      exact q F4 _ _ (((g2.tr g3).tr g4).tr (Gr.own g4.fh np)) ⟨p, _, rfl, ex_back ((g2.hh.tr g3.hh).tr g4.hh) np, ex_back g4.fh np, upd_same, paired_cut (rep_int x.l) lo hi⟩
    | er c => exact fun H' e => q H' ((g2.tr g3).hh.tr e)
    | bad => exact q
  | er c => exact fun H' e => q H' (g2.hh.tr e)
  | bad => exact q
theorem em_rev {m1 : M (List α)} (ha : Ev ce E ta σ F H (rv K) m1) : Ev ce E (tRevL K ta) σ F H (rn K) (m1.bind fun x => .ok x.reverse) := fun F1 H1 g1 Q q => by
  refine ha F1 H1 g1 _ ?_
  cases m1 with
  | ok x =>
    rintro F2 H2 vx g2 ⟨a, vs, e1, e2, e3⟩
    refine ⟨a, vs, e1, SqL.of (g2.fh _ _ e2), fun p np => ?_⟩
    exact q F2 _ _ (g2.tr (Gr.own g2.fh np)) ⟨p, _, rfl, ex_back g2.hh np, ex_back g2.fh np, upd_same, paired_rev e3⟩
  | er c => exact q
  | bad => exact q
noncomputable def catM {α : Type} (xs ys : List α) : M (List α) := chk (xs.length + ys.length ≤ 16000000) (xs ++ ys)
theorem o_cat {xs ys : List α} : Op2 ce E K rCat (rn K) xs ys (catM xs ys) := fun F1 H1 vx vy e ⟨a, vs, h1, h2, h3⟩ ⟨b, ws, k1, k2, k3⟩ Q q => by
  unfold catM chk at q
  split at q
  · rename_i hc
    refine ⟨a, b, vs, ws, h1, k1, e _ _ h2, e _ _ k2, ?_, fun p np => ?_⟩
    · rw [Paired.length h3, Paired.length k3, sizeLine_eq]; omega
    · exact q F1 _ _ (Gr.own e np) ⟨p, _, rfl, np, ex_back e np, upd_same, paired_app h3 k3⟩
  · exact q.elim
theorem paired_flat {F : V → α → Prop} {vs : List V} {xs : List α} (h : Paired F vs xs) : ∀ n : Nat, Paired F (List.replicate n vs).flatten (List.replicate n xs).flatten
  | 0 => .nil
  | n + 1 => by
    rw [List.replicate_succ, List.replicate_succ, List.flatten_cons, List.flatten_cons]
    exact paired_app h (paired_flat h n)
noncomputable def repM {α : Type} (xs : List α) (k : Int) : M (List α) := chk (-(2 ^ 63) ≤ k ∧ k < 2 ^ 63 ∧ xs.length * k.toNat ≤ 16000000) (List.replicate k.toNat xs).flatten
theorem o_rep {xs : List α} {k : Int} : Op2 ce E K rRep (rn K) xs k (repM xs k) := fun F1 H1 vx vy e ⟨a, vs, h1, h2, h3⟩ ry Q q => by
  cases ry
  unfold repM chk at q
  split at q
  · rename_i hc
    refine ⟨a, k, vs, h1, rfl, e _ _ h2, hc.1, hc.2.1, ?_, fun p np => ?_⟩
    · rw [Paired.length h3, sizeLine_eq]; omega
    · exact q F1 _ _ (Gr.own e np) ⟨p, _, rfl, np, ex_back e np, upd_same, paired_flat h3 _⟩
  · exact q.elim

/-! ### == of data -/
class Dat (α : Type) [Rep α] [DecidableEq α] where
  dat : α → PyData
  deep : Nat
  dp : ∀ {K : PySem.W.Frag} {H : Hp} {v : V} {x : α}, rp K H v x → Dp K H v (dat x)
  cl : ∀ x, (dat x).canLay0 = true
  de : ∀ x, (dat x).depth ≤ deep
  eq : ∀ x y, PyData.eqv (dat x) (dat y) = decide (x = y)
end
instance : Dat Int := ⟨fun i => .int i, 0, fun {K H v x} h => by cases h; exact .int x, fun _ => rfl, fun _ => Nat.le_refl _, fun x y => by simp only [PyData.eqv]; rw [Bool.eq_iff_iff]; simp⟩
instance : Dat Bool := ⟨fun i => .bool i, 0, fun {K H v x} h => by cases h; exact .bl x, fun _ => rfl, fun _ => Nat.le_refl _, fun x y => by simp only [PyData.eqv]; rw [Bool.eq_iff_iff]; simp⟩
/-- what is told apart from None -/
class NotN (α : Type) [Rep α] [DecidableEq α] [Dat α] : Prop where
  nn : ∀ x : α, PyData.eqv .none (Dat.dat x) = false ∧ PyData.eqv (Dat.dat x) .none = false
instance : NotN Int := ⟨fun x => ⟨by show PyData.eqv .none (.int x) = false; simp [PyData.eqv], by show PyData.eqv (.int x) .none = false; simp [PyData.eqv]⟩⟩
instance : NotN Bool := ⟨fun x => ⟨by show PyData.eqv .none (.bool x) = false; simp [PyData.eqv], by show PyData.eqv (.bool x) .none = false; simp [PyData.eqv]⟩⟩
instance {α : Type} [Rep α] [DecidableEq α] [Dat α] [NotN α] : Dat (Option α) where
  dat := fun x => match x with
    | none => .none
    | some y => Dat.dat y
  deep := Dat.deep α
  dp := fun {K H v x} h => by
    cases x with
    | none => cases h; exact .non
    | some y => exact Dat.dp h.1
  cl := fun x => by cases x with
    | none => rfl
    | some y => exact Dat.cl y
  de := fun x => by cases x with
    | none => exact Nat.zero_le _
    | some y => exact Dat.de y
  eq := fun x y => by
    cases x with
    | none => cases y with
      | none => simp [PyData.eqv]
      | some b => simpa using (NotN.nn b).1
    | some a => cases y with
      | none => simpa using (NotN.nn a).2
      | some b => simpa using Dat.eq a b
theorem dpAll_of {α : Type} [Rep α] [DecidableEq α] [Dat α] {K : PySem.W.Frag} {H : Hp} : ∀ {vs : List V} {xs : List α}, Paired (rp K H) vs xs → DpAll K H vs (xs.map Dat.dat)
  | _, _, .nil => .nil
  | _, _, .cons h t => .cons (Dat.dp h) (dpAll_of t)
theorem clAll {α : Type} [Rep α] [DecidableEq α] [Dat α] : ∀ xs : List α, PyData.canLayAll0 (xs.map Dat.dat) = true
  | [] => by simp [PyData.canLayAll0]
  | x :: r => by simp [PyData.canLayAll0, Dat.cl x, clAll r]
theorem deAll {α : Type} [Rep α] [DecidableEq α] [Dat α] : ∀ xs : List α, PyData.depthAll (xs.map Dat.dat) ≤ Dat.deep α
  | [] => Nat.zero_le _
  | x :: r => by
    show max (PyData.depth (Dat.dat x)) (PyData.depthAll (r.map Dat.dat)) ≤ _
    exact Nat.max_le.mpr ⟨Dat.de x, deAll r⟩
theorem eqAll {α : Type} [Rep α] [DecidableEq α] [Dat α] : ∀ xs ys : List α, PyData.eqvAll (xs.map Dat.dat) (ys.map Dat.dat) = decide (xs = ys)
  | [], [] => by simp [PyData.eqvAll]
  | [], _ :: _ => by simp [PyData.eqvAll]
  | _ :: _, [] => by simp [PyData.eqvAll]
  | x :: r, y :: s => by
    simp only [List.map_cons, PyData.eqvAll, Dat.eq x y, eqAll r s, List.cons.injEq]
    simp
instance {α : Type} [Rep α] [DecidableEq α] [Dat α] : Dat (List α) where
  dat := fun xs => .list (xs.map Dat.dat)
  deep := Dat.deep α + 1
  dp := fun {K H v x} ⟨a, vs, h1, h2, h3⟩ => by subst h1; exact .lst (SqL.of h2) (dpAll_of h3)
  cl := fun xs => by simpa [PyData.canLay0] using clAll xs
  de := fun xs => by
    show PyData.depthAll (xs.map Dat.dat) + 1 ≤ _
    exact Nat.succ_le_succ (deAll xs)
  eq := fun xs ys => by simpa [PyData.eqv] using eqAll xs ys
instance {α : Type} [Rep α] [DecidableEq α] [Dat α] : NotN (List α) := ⟨fun x => ⟨by show PyData.eqv .none (.list _) = false; simp [PyData.eqv], by show PyData.eqv (.list _) .none = false; simp [PyData.eqv]⟩⟩
instance {α β : Type} [Rep α] [Rep β] [DecidableEq α] [DecidableEq β] [Dat α] [Dat β] : Dat (α × β) where
  dat := fun x => .tuple [Dat.dat x.1, Dat.dat x.2]
  deep := max (Dat.deep α) (Dat.deep β) + 1
  dp := fun {K H v x} ⟨a, u, w, h1, h2, h3, h4⟩ => by subst h1; exact .tup h2 (.cons (Dat.dp h3) (.cons (Dat.dp h4) .nil))
  cl := fun x => by simp [PyData.canLay0, PyData.canLayAll0, Dat.cl]
  de := fun x => by
    show max (PyData.depth _) (max (PyData.depth _) 0) + 1 ≤ _
    have h1 := Dat.de x.1
    have h2 := Dat.de x.2
    omega
  eq := fun x y => by
    obtain ⟨x1, x2⟩ := x
    obtain ⟨y1, y2⟩ := y
    simp only [PyData.eqv, PyData.eqvAll, Dat.eq, Bool.and_true, Prod.mk.injEq]
    simp
instance {α β : Type} [Rep α] [Rep β] [DecidableEq α] [DecidableEq β] [Dat α] [Dat β] : NotN (α × β) := ⟨fun x => ⟨by show PyData.eqv .none (.tuple _) = false; simp [PyData.eqv], by show PyData.eqv (.tuple _) .none = false; simp [PyData.eqv]⟩⟩
instance {α β γ : Type} [Rep α] [Rep β] [Rep γ] [DecidableEq α] [DecidableEq β] [DecidableEq γ] [Dat α] [Dat β] [Dat γ] : Dat (T3 α β γ) where
  dat := fun x => .tuple [Dat.dat x.a, Dat.dat x.b, Dat.dat x.c]
  deep := max (Dat.deep α) (max (Dat.deep β) (Dat.deep γ)) + 1
  dp := fun {K H v x} ⟨a, u, w, z, h1, h2, h3, h4, h5⟩ => by subst h1; exact .tup h2 (.cons (Dat.dp h3) (.cons (Dat.dp h4) (.cons (Dat.dp h5) .nil)))
  cl := fun x => by simp [PyData.canLay0, PyData.canLayAll0, Dat.cl]
  de := fun x => by
    show max (PyData.depth _) (max (PyData.depth _) (max (PyData.depth _) 0)) + 1 ≤ _
    have h1 := Dat.de x.a
    have h2 := Dat.de x.b
    have h3 := Dat.de x.c
    omega
  eq := fun x y => by
    obtain ⟨x1, x2, x3⟩ := x
    obtain ⟨y1, y2, y3⟩ := y
    simp only [PyData.eqv, PyData.eqvAll, Dat.eq, Bool.and_true, T3.mk.injEq]
    simp
instance {α β γ : Type} [Rep α] [Rep β] [Rep γ] [DecidableEq α] [DecidableEq β] [DecidableEq γ] [Dat α] [Dat β] [Dat γ] : NotN (T3 α β γ) := ⟨fun x => ⟨by show PyData.eqv .none (.tuple _) = false; simp [PyData.eqv], by show PyData.eqv (.tuple _) .none = false; simp [PyData.eqv]⟩⟩
section
variable {ρ α β γ δ : Type} [Rep α] [Rep β] [Rep γ] [Rep δ] {ce : Ce} {E : XK} {K : PySem.W.Frag} {σ : L2.St} {F H F' H' : Hp} {te ta tb tc td : TE} {tt tu : TT} {md : Md ρ} {m : M ρ}
theorem shaped_of [DecidableEq α] [Dat α] (h : Dat.deep α ≤ 64) (x : α) : SeqAt.shaped (Dat.dat x) = true := by
  unfold SeqAt.shaped
  rw [Dat.cl x]
  exact decide_eq_true (Nat.le_trans (Dat.de x) h)
theorem o_eqD [DecidableEq α] [Dat α] {x y : α} (h : Dat.deep α ≤ 64) : Op2 ce E K (rEqD K) (rv K) x y (.ok (decide (x = y))) := fun F1 H1 vx vy e rx ry Q q => by
  refine ⟨Dat.dat x, Dat.dat y, Dat.dp (Rep.mo e rx), Dat.dp (Rep.mo e ry), shaped_of h x, shaped_of h y, ?_⟩
  rw [Dat.eq]
  exact q F1 H1 _ (Gr.rf e) rfl
theorem o_neD [DecidableEq α] [Dat α] {x y : α} (h : Dat.deep α ≤ 64) : Op2 ce E K (rNeD K) (rv K) x y (.ok (!decide (x = y))) := fun F1 H1 vx vy e rx ry Q q => by
  refine ⟨Dat.dat x, Dat.dat y, Dat.dp (Rep.mo e rx), Dat.dp (Rep.mo e ry), shaped_of h x, shaped_of h y, ?_⟩
  rw [Dat.eq]
  exact q F1 H1 _ (Gr.rf e) rfl
/-- x == y where the one may be None -/
theorem o_eqDo [DecidableEq α] [Dat α] [NotN α] {x : Option α} {y : α} (h : Dat.deep α ≤ 64) : Op2 ce E K (rEqD K) (rv K) x y (.ok (decide (x = some y))) := fun F1 H1 vx vy e rx ry Q q => by
  refine ⟨Dat.dat x, Dat.dat y, Dat.dp (Rep.mo e rx), Dat.dp (Rep.mo e ry), shaped_of (α := Option α) h x, shaped_of h y, ?_⟩
  rw [show PyData.eqv (Dat.dat x) (Dat.dat y) = decide (x = some y) from Dat.eq x (some y)]
  exact q F1 H1 _ (Gr.rf e) rfl
theorem o_neDo [DecidableEq α] [Dat α] [NotN α] {x : Option α} {y : α} (h : Dat.deep α ≤ 64) : Op2 ce E K (rNeD K) (rv K) x y (.ok (!decide (x = some y))) := fun F1 H1 vx vy e rx ry Q q => by
  refine ⟨Dat.dat x, Dat.dat y, Dat.dp (Rep.mo e rx), Dat.dp (Rep.mo e ry), shaped_of (α := Option α) h x, shaped_of h y, ?_⟩
  rw [show PyData.eqv (Dat.dat x) (Dat.dat y) = decide (x = some y) from Dat.eq x (some y)]
  exact q F1 H1 _ (Gr.rf e) rfl
theorem o_eqI {x y : Int} : Op2 ce E K rEq (rv K) x y (.ok (decide (x = y))) := fun F1 H1 vx vy e rx ry Q q => by
  cases rx; cases ry
  refine ⟨rfl, ?_⟩
  have : decide (V.int x = V.int y) = decide (x = y) := by rw [Bool.eq_iff_iff]; simp
  rw [this]
  exact q F1 H1 _ (Gr.rf e) rfl
theorem o_neI {x y : Int} : Op2 ce E K rNe (rv K) x y (.ok (!decide (x = y))) := fun F1 H1 vx vy e rx ry Q q => by
  cases rx; cases ry
  refine ⟨rfl, ?_⟩
  have : decide (V.int x = V.int y) = decide (x = y) := by rw [Bool.eq_iff_iff]; simp
  rw [this]
  exact q F1 H1 _ (Gr.rf e) rfl
theorem o_eqB {x y : Bool} : Op2 ce E K rEq (rv K) x y (.ok (decide (x = y))) := fun F1 H1 vx vy e rx ry Q q => by
  cases rx; cases ry
  refine ⟨rfl, ?_⟩
  have : decide (V.bl x = V.bl y) = decide (x = y) := by rw [Bool.eq_iff_iff]; simp
  rw [this]
  exact q F1 H1 _ (Gr.rf e) rfl
theorem o_neB {x y : Bool} : Op2 ce E K rNe (rv K) x y (.ok (!decide (x = y))) := fun F1 H1 vx vy e rx ry Q q => by
  cases rx; cases ry
  refine ⟨rfl, ?_⟩
  have : decide (V.bl x = V.bl y) = decide (x = y) := by rw [Bool.eq_iff_iff]; simp
  rw [this]
  exact q F1 H1 _ (Gr.rf e) rfl
theorem o_eqS {x y : Str} : Op2 ce E K rEq (rv K) x y (.ok (decide (x = y))) := fun F1 H1 vx vy e rx ry Q q => by
  cases rx; cases ry
  refine ⟨rfl, ?_⟩
  have : decide (V.str x = V.str y) = decide (x = y) := by rw [Bool.eq_iff_iff]; simp
  rw [this]
  exact q F1 H1 _ (Gr.rf e) rfl
theorem o_neS {x y : Str} : Op2 ce E K rNe (rv K) x y (.ok (!decide (x = y))) := fun F1 H1 vx vy e rx ry Q q => by
  cases rx; cases ry
  refine ⟨rfl, ?_⟩
  have : decide (V.str x = V.str y) = decide (x = y) := by rw [Bool.eq_iff_iff]; simp
  rw [this]
  exact q F1 H1 _ (Gr.rf e) rfl
/-- x is None, x is not None -/
def rIsN : R2 := fun x y H Q => y = .non ∧ Q (.bl (decide (x = .non))) H
def rNotN : R2 := fun x y H Q => y = .non ∧ Q (.bl (!decide (x = .non))) H
theorem o_isN {x : Option α} : Op2 ce E K rIsN (rv K) x () (.ok (!x.isSome)) := fun F1 H1 vx vy e rx ry Q q => by
  cases ry
  refine ⟨rfl, ?_⟩
  have : decide (vx = V.non) = !x.isSome := by
    cases x with
    | none => cases rx; rfl
    | some y => exact decide_eq_false rx.2
  rw [this]
  exact q F1 H1 _ (Gr.rf e) rfl
theorem o_notN {x : Option α} : Op2 ce E K rNotN (rv K) x () (.ok x.isSome) := fun F1 H1 vx vy e rx ry Q q => by
  cases ry
  refine ⟨rfl, ?_⟩
  have : (!decide (vx = V.non)) = x.isSome := by
    cases x with
    | none => cases rx; rfl
    | some y => rw [decide_eq_false rx.2] <;> rfl
  rw [this]
  exact q F1 H1 _ (Gr.rf e) rfl
theorem o_isU {x : Unit} : Op2 ce E K rIsN (rv K) x () (.ok true) := fun F1 H1 vx vy e rx ry Q q => by
  cases ry; cases rx
  exact ⟨rfl, q F1 H1 _ (Gr.rf e) rfl⟩
theorem o_notU {x : Unit} : Op2 ce E K rNotN (rv K) x () (.ok false) := fun F1 H1 vx vy e rx ry Q q => by
  cases ry; cases rx
  exact ⟨rfl, q F1 H1 _ (Gr.rf e) rfl⟩
/-- a value that may be None -/
class NN (α : Type) [Rep α] : Prop where
  nn : ∀ {K : PySem.W.Frag} {H : Hp} {v : V} {x : α}, rp K H v x → v ≠ .non
instance : NN Int := ⟨fun h => by cases h; exact fun z => nomatch z⟩
instance : NN Bool := ⟨fun h => by cases h; exact fun z => nomatch z⟩
instance : NN Str := ⟨fun h => by cases h; exact fun z => nomatch z⟩
instance : NN (List α) := ⟨fun ⟨a, vs, h1, _⟩ => by subst h1; exact fun z => nomatch z⟩
instance : NN (α × β) := ⟨fun ⟨a, u, w, h1, _⟩ => by subst h1; exact fun z => nomatch z⟩
instance : NN (T3 α β γ) := ⟨fun ⟨a, u, w, z, h1, _⟩ => by subst h1; exact fun z => nomatch z⟩
instance : NN (T4 α β γ δ) := ⟨fun ⟨a, u, w, z, y, h1, _⟩ => by subst h1; exact fun z => nomatch z⟩
theorem em_some [NN α] {m : M α} (h : Ev ce E te σ F H (rv K) m) : Ev ce E te σ F H (rv K) (m.bind fun x => .ok (some x)) := fun F1 H1 g1 Q q => by
  refine h F1 H1 g1 _ ?_
  cases m with
  | ok x => exact fun F2 H2 v g2 r => q F2 H2 v g2 ⟨r, NN.nn r⟩
  | er c => exact q
  | bad => exact q
/-- what is not None -/
def getM {α : Type} (x : Option α) : M α := match x with
  | some y => .ok y
  | none => .bad
theorem em_get {m : M (Option α)} (h : Ev ce E te σ F H (rv K) m) : Ev ce E te σ F H (rv K) (m.bind getM) := fun F1 H1 g1 Q q => by
  refine h F1 H1 g1 _ ?_
  cases m with
  | ok x =>
    cases x with
    | none => exact q.elim
    | some y => exact fun F2 H2 v g2 r => q F2 H2 v g2 r.1
  | er c => exact q
  | bad => exact q

/-! ### in a list -/
theorem inV_int (x : Int) : ∀ xs : List Int, inV (.int x) (xs.map V.int) = decide (x ∈ xs)
  | [] => by simp [inV]
  | y :: r => by
    have ih := inV_int x r
    unfold inV at ih ⊢
    rw [List.map_cons, List.any_cons, ih]
    have : eqV (V.int y) (V.int x) = decide (x = y) := by
      show (y == x) = decide (x = y)
      rw [Bool.eq_iff_iff, beq_iff_eq, decide_eq_true_eq]
      exact ⟨Eq.symm, Eq.symm⟩
    rw [this, Bool.eq_iff_iff]
    simp
theorem flat_ints : ∀ xs : List Int, (xs.map V.int).all flatV = true
  | [] => rfl
  | _ :: r => by rw [List.map_cons, List.all_cons, flat_ints r] <;> rfl
theorem o_in {x : Int} {xs : List Int} : Op2 ce E K (rIn K false) (rv K) x xs (.ok (decide (x ∈ xs))) := fun F1 H1 vx vy e rx ⟨a, vs, h1, h2, h3⟩ Q q => by
  cases rx
  have := paired_int h3
  subst this
  subst h1
  refine ⟨a, _, rfl, .inl (SqL.of (e _ _ h2)), rfl, flat_ints _, ?_⟩
  show Q (V.bl (if false = true then _ else _)) H1
  rw [if_neg Bool.false_ne_true, inV_int]
  exact q F1 H1 _ (Gr.rf e) rfl
theorem o_notIn {x : Int} {xs : List Int} : Op2 ce E K (rIn K true) (rv K) x xs (.ok (!decide (x ∈ xs))) := fun F1 H1 vx vy e rx ⟨a, vs, h1, h2, h3⟩ Q q => by
  cases rx
  have := paired_int h3
  subst this
  subst h1
  refine ⟨a, _, rfl, .inl (SqL.of (e _ _ h2)), rfl, flat_ints _, ?_⟩
  show Q (V.bl (if true = true then _ else _)) H1
  rw [if_pos rfl, inV_int]
  exact q F1 H1 _ (Gr.rf e) rfl

/-! ### sorted ints -/
def insI (x : Int) : List Int → List Int
  | [] => [x]
  | y :: r => if x ≤ y then x :: y :: r else y :: insI x r
def sortI : List Int → List Int
  | [] => []
  | x :: r => insI x (sortI r)
theorem insI_perm (x : Int) : ∀ xs, (insI x xs).Perm (x :: xs)
  | [] => List.Perm.refl _
  | y :: r => by
    unfold insI
    split
    · exact List.Perm.refl _
    · exact (List.Perm.cons y (insI_perm x r)).trans (List.Perm.swap x y r)
theorem sortI_perm : ∀ xs, (sortI xs).Perm xs
  | [] => List.Perm.refl _
  | x :: r => (insI_perm x _).trans (List.Perm.cons x (sortI_perm r))
theorem insI_sorted (x : Int) : ∀ {xs : List Int}, xs.Pairwise (· ≤ ·) → (insI x xs).Pairwise (· ≤ ·)
  | [], _ => List.pairwise_singleton _ _
  | y :: r, h => by
    unfold insI
    have hy := List.pairwise_cons.mp h
    split
    · rename_i c
      refine List.pairwise_cons.mpr ⟨fun z hz => ?_, h⟩
      rcases List.mem_cons.mp hz with rfl | hz
      · exact c
      · exact Int.le_trans c (hy.1 z hz)
    · rename_i c
      refine List.pairwise_cons.mpr ⟨fun z hz => ?_, insI_sorted x hy.2⟩
      rcases List.mem_cons.mp ((insI_perm x r).mem_iff.mp hz) with rfl | hz
      · omega
      · exact hy.1 z hz
theorem sortI_sorted : ∀ xs : List Int, (sortI xs).Pairwise (· ≤ ·)
  | [] => List.Pairwise.nil
  | x :: r => insI_sorted x (sortI_sorted r)
theorem sorted_same : ∀ {xs ys : List Int}, xs.Perm ys → xs.Pairwise (· ≤ ·) → ys.Pairwise (· ≤ ·) → xs = ys
  | [], ys, p, _, _ => (List.Perm.nil_eq p)
  | x :: r, [], p, _, _ => absurd p.length_eq (by simp)
  | x :: r, y :: s, p, h1, h2 => by
    have a1 := List.pairwise_cons.mp h1
    have a2 := List.pairwise_cons.mp h2
    have e : x = y := by
      have m1 : x ∈ y :: s := p.mem_iff.mp List.mem_cons_self
      have m2 : y ∈ x :: r := p.mem_iff.mpr List.mem_cons_self
      rcases List.mem_cons.mp m1 with rfl | m1
      · rfl
      · rcases List.mem_cons.mp m2 with rfl | m2
        · rfl
        · have := a1.1 y m2
          have := a2.1 x m1
          omega
    subst e
    rw [sorted_same (List.Perm.cons_inv p) a1.2 a2.2]
theorem a_sorted {xs : List Int} : OpA ce E (RC K R0) (rSortedI K) (rn K) (xs, ()) (.ok (sortI xs)) := fun F1 H1 vs e ⟨v, r, e1, ⟨a, us, h1, h2, h3⟩, e3⟩ Q q => by
  cases e3
  subst e1 h1
  have := paired_int h3
  subst this
  refine ⟨a, xs, rfl, SqL.of (e _ _ h2), fun ns p hp hs np => ?_⟩
  have : ns = sortI xs := sorted_same (hp.trans (sortI_perm xs).symm) hs (sortI_sorted xs)
  subst this
  exact q F1 _ _ (Gr.own e np) ⟨p, _, rfl, np, ex_back e np, upd_same, rep_int _⟩

/-! ### isinstance, by the types -/
theorem a_isI {n : String} {b : Bool} {x : Int} (hb : PySem.W.kitOne K (.type "int") (.type n) = some b) : OpA ce E (fun F vs (x : Int) => vs = [.int x, .ty n]) (rIsi K) (rv K) x (.ok b) := fun F1 H1 vs e h Q q => by
  subst h
  exact ⟨.int x, .ty n, _, _, b, rfl, .ty n, .base (.int x), hb, q F1 H1 _ (Gr.rf e) rfl⟩
end
end Mw

set_option Elab.async false
set_option linter.all false
set_option maxRecDepth 100000
set_option maxHeartbeats 2000000
/-! Mw, part D: statements, loops, comprehensions, defs. -/
namespace Mw
open PySem L2
open Rep (rp)
/-! ### what is left to be done -/
def Wp {τ : Type} (ce : Ce) (E : XK) (H0 : Hp) (m : M τ) (P : τ → Prop) : Prop :=
  match m with
  | .ok r => P r
  | .er c => ∀ H', Ex H0 H' → E (.ref (ce c.name)) none H'
  | .bad => False
def Fin {ρ : Type} (md : Md ρ) (F0 H0 : Hp) (Q : VK) : ρ → Prop := fun r => ∀ F' H' v, Gr F0 H0 F' H' → md F0 H0 F' H' v r → Q v H'
theorem wp_post {ρ : Type} {ce : Ce} {md : Md ρ} {m : M ρ} {F H : Hp} {Q : VK} {E : XK} (h : Post ce md m F H Q E) : Wp ce E H m (Fin md F H Q) := by
  cases m with
  | ok r => exact h
  | er c => exact h
  | bad => exact h
inductive Ctl (S τ : Type) where
  | nx (s : S)
  | br (s : S)
  | rt (r : τ)
def forM {α S τ : Type} (f : α → S → M (Ctl S τ)) (k : S → M τ) : List α → S → M τ
  | [], s => k s
  | x :: r, s => (f x s).bind fun c => match c with
    | .nx s' => forM f k r s'
    | .br s' => k s'
    | .rt r => .ok r
def whM {S τ : Type} (c : S → M Bool) (f : S → M (Ctl S τ)) (k : S → M τ) : Nat → S → M τ
  | 0, _ => .bad
  | n + 1, s => (c s).bind fun b => if b then (f s).bind fun z => match z with
    | .nx s' => whM c f k n s'
    | .br s' => k s'
    | .rt r => .ok r else k s
theorem forM_nil {α S τ : Type} (f : α → S → M (Ctl S τ)) (k : S → M τ) (s : S) : forM f k [] s = k s := rfl
theorem forM_cons {α S τ : Type} (f : α → S → M (Ctl S τ)) (k : S → M τ) (x : α) (r : List α) (s : S) : forM f k (x :: r) s = (f x s).bind fun c => match c with
    | .nx s' => forM f k r s'
    | .br s' => k s'
    | .rt r => .ok r := rfl
/-! ### comprehensions -/
def M.ne {α : Type} : M α → M α
  | .ok a => .ok a
  | _ => .bad
@[simp] theorem ne_ok {α : Type} (a : α) : (M.ok a).ne = .ok a := (rfl)
def compM {α β : Type} (c : α → M Bool) (e : α → M β) : List α → M (List β)
  | [] => .ok []
  | x :: r => (c x).ne.bind fun b => if b then (e x).ne.bind fun y => (compM c e r).bind fun ys => .ok (y :: ys) else compM c e r
noncomputable def lcM {α β : Type} (c : α → M Bool) (e : α → M β) (xs : List α) : M (List β) := @ite _ (xs.length ≤ 16000000) (Classical.propDecidable _) (compM c e xs) .bad
theorem compM_ok {α β : Type} (c : α → Bool) (e : α → β) : ∀ xs : List α, compM (fun x => .ok (c x)) (fun x => .ok (e x)) xs = .ok ((xs.filter c).map e)
  | [] => rfl
  | x :: r => by
    show (if c x = true then ((compM _ _ r).bind fun ys => M.ok (e x :: ys)) else compM _ _ r) = _
    rw [compM_ok c e r, List.filter_cons]
    split
    · rfl
    · rfl
theorem compM_all {α β : Type} (e : α → β) : ∀ xs : List α, compM (fun _ => .ok true) (fun x => .ok (e x)) xs = .ok (xs.map e)
  | [] => rfl
  | x :: r => by
    show ((compM _ _ r).bind fun ys => M.ok (e x :: ys)) = _
    rw [compM_all e r]
    rfl
theorem compM_congr {α β : Type} {c c' : α → M Bool} {e e' : α → M β} : ∀ {xs : List α}, (∀ x ∈ xs, c x = c' x) → (∀ x ∈ xs, c x = .ok true → e x = e' x) → compM c e xs = compM c' e' xs
  | [], _, _ => rfl
  | x :: r, h1, h2 => by
    have ih := compM_congr (xs := r) (fun y hy => h1 y (List.mem_cons_of_mem _ hy)) (fun y hy => h2 y (List.mem_cons_of_mem _ hy))
    unfold compM
    rw [ih, ← h1 x List.mem_cons_self]
    have h2' := h2 x List.mem_cons_self
    cases q : c x with
    | ok b =>
      cases b with
      | true => rw [h2' q]
      | false => rfl
    | er _ => rfl
    | bad => rfl
/-! ### what is walked -/
def Sq (K : PySem.W.Frag) {α : Type} [Rep α] (F : Hp) (J : It) (xs : List α) : Prop := ∀ i H, Ex F H →
  (∀ x, xs[i]? = some x → J.go i H ∧ ∀ v H', J.yld i H v H' → ∀ F1, Ex F F1 → Ex F1 H → ∃ F2, Gr F1 H F2 H' ∧ rp K F2 v x) ∧ (xs.length ≤ i → J.stop i H)
def EvI (ce : Ce) (E : XK) (K : PySem.W.Frag) {α : Type} [Rep α] (wi : TI) (σ : L2.St) (F H : Hp) (m : M (List α)) : Prop := ∀ F1 H1, Gr F H F1 H1 → ∀ R : It → Hp → Prop,
  Wp ce E H1 m (fun xs => ∀ F2 H2 J, Gr F1 H1 F2 H2 → Sq K F2 J xs → R J H2) → wi σ H1 R
section
variable {ρ α β γ δ S τ : Type} [Rep α] [Rep β] [Rep γ] [Rep δ] {ce : Ce} {E : XK} {K : PySem.W.Frag} {σ : L2.St} {F H F' H' F0 H0 : Hp} {te ta tb tc td : TE} {tt tu : TT} {md : Md ρ} {m : M ρ} {D : Ends} {ts tw : TS} {g : TG} {wi : TI} {P : τ → Prop}
theorem sq_list {a : Addr} {vs : List V} {xs : List α} (h : SqL K F a vs) (p : Paired (rp K F) vs xs) : Sq K F (Itl K a) xs := fun i H e => by
  have hl := Paired.length p
  refine ⟨fun x hx => ?_, fun hi => ⟨vs, ex_l e h, by omega⟩⟩
  obtain ⟨v, hv, rv'⟩ := paired_get p hx
  refine ⟨⟨vs, v, ex_l e h, hv⟩, fun w H' ⟨e1, e2⟩ F1 f1 f2 => ?_⟩
  subst e1
  have : some v = some w := hv.symm.trans (e2 vs (ex_l e h))
  cases this
  exact ⟨F1, Gr.rf f2, Rep.mo f1 rv'⟩
theorem ei_list {m : M (List α)} (h : Ev ce E te σ F H (rv K) m) : EvI ce E K (iList K te) σ F H m := fun F1 H1 g1 R q => by
  refine h F1 H1 g1 _ ?_
  cases m with
  | ok xs =>
    rintro F2 H2 v g2 ⟨a, vs, rfl, h2, h3⟩
    exact ⟨a, rfl, ⟨vs, SqL.of (g2.fh _ _ h2)⟩, q F2 H2 _ g2 (sq_list (SqL.of h2) h3)⟩
  | er c => exact q
  | bad => exact q
theorem ei_scr {x : Scr} (h : Ev ce E te σ F H (rv K) (.ok x)) : EvI ce E K (iList K te) σ F H (.ok x.l) := fun F1 H1 g1 R q => by
  refine h F1 H1 g1 _ ?_
  rintro F2 H2 v g2 ⟨a, rfl, h2⟩
  exact ⟨a, rfl, ⟨_, ex_l g2.fh h2⟩, q F2 H2 _ g2 (sq_list h2 (rep_int _))⟩
/-- range -/
def rng (lo hi : Int) : List Int := (List.range (hi - lo).toNat).map fun (k : Nat) => lo + (k : Int)
theorem rng_len (lo hi : Int) : (rng lo hi).length = (hi - lo).toNat := by unfold rng; rw [List.length_map, List.length_range]
theorem rng_get (lo hi : Int) (i : Nat) (h : i < (hi - lo).toNat) : (rng lo hi)[i]? = some (lo + (i : Int)) := by
  unfold rng
  rw [List.getElem?_map, List.getElem?_range h]
  rfl
theorem sq_rng {lo hi : Int} : Sq K F (Itr lo (hi - lo).toNat) (rng lo hi) := fun i H e => by
  refine ⟨fun x hx => ?_, fun h => ?_⟩
  · have hi' : i < (hi - lo).toNat := by
      have := (List.getElem?_eq_some_iff.mp hx).1
      rw [rng_len] at this
      exact this
    rw [rng_get _ _ _ hi'] at hx
    cases hx
    refine ⟨hi', fun v H' ⟨e1, e2⟩ F1 f1 f2 => ?_⟩
    subst e1 e2
    exact ⟨F1, Gr.rf f2, rfl⟩
  · rw [rng_len] at h
    exact h
noncomputable def rng1M (hi : Int) : M (List Int) := chk (-(2 ^ 62) ≤ hi ∧ hi < 2 ^ 62) (rng 0 hi)
noncomputable def rng2M (lo hi : Int) : M (List Int) := chk (-(2 ^ 62) ≤ lo ∧ lo < 2 ^ 62 ∧ -(2 ^ 62) ≤ hi ∧ hi < 2 ^ 62) (rng lo hi)
theorem ei_rng1 {m : M Int} (h : Ev ce E ta σ F H (rv K) m) : EvI ce E K (iRng1 (tCons ta tNil)) σ F H (m.bind rng1M) := fun F1 H1 g1 R q => by
  refine h F1 H1 g1 _ ?_
  cases m with
  | ok n =>
    intro F2 H2 v g2 r
    cases r
    have q' : Wp ce E H1 (rng1M n) (fun xs => ∀ F2 H2 J, Gr F1 H1 F2 H2 → Sq K F2 J xs → R J H2) := q
    unfold rng1M chk at q'
    by_cases hc : -(2 ^ 62) ≤ n ∧ n < 2 ^ 62
    · rw [if_pos hc] at q'
      refine ⟨n, rfl, hc.1, hc.2, q' F2 H2 _ g2 ?_⟩
      have := sq_rng (K := K) (F := F2) (lo := 0) (hi := n)
      rw [Int.sub_zero] at this
      exact this
    · rw [if_neg hc] at q'
      exact q'.elim
  | er c => exact q
  | bad => exact q
theorem ei_rng2 {m m2 : M Int} (h : Ev ce E ta σ F H (rv K) m) (h2 : Ev ce E tb σ F H (rv K) m2) : EvI ce E K (iRng2 (tCons ta (tCons tb tNil))) σ F H (m.bind fun lo => m2.bind fun hi => rng2M lo hi) := fun F1 H1 g1 R q => by
  refine h F1 H1 g1 _ ?_
  cases m with
  | ok lo =>
    intro F2 H2 v g2 r
    cases r
    refine h2 F2 H2 (g1.tr g2) _ ?_
    cases m2 with
    | ok n =>
      intro F3 H3 v g3 r
      cases r
      have q' : Wp ce E H1 (rng2M lo n) (fun xs => ∀ F2 H2 J, Gr F1 H1 F2 H2 → Sq K F2 J xs → R J H2) := q
      unfold rng2M chk at q'
      by_cases hc : -(2 ^ 62) ≤ lo ∧ lo < 2 ^ 62 ∧ -(2 ^ 62) ≤ n ∧ n < 2 ^ 62
      · rw [if_pos hc] at q'
        exact ⟨lo, n, rfl, hc, q' F3 H3 _ (g2.tr g3) sq_rng⟩
      · rw [if_neg hc] at q'
        exact q'.elim
    | er c => exact fun H' e => q H' (g2.hh.tr e)
    | bad => exact q
  | er c => exact q
  | bad => exact q

/-! ### targets -/
/-- behind the target's store of what x is, from the slots σ0 -/
def Tg (K : PySem.W.Frag) {α : Type} [Rep α] (g : TG) (R : L2.St → Hp → L2.St → α → Prop) : Prop := ∀ σ0 F H v x, Ex F H → rp K F v x → ∀ Q : L2.St → Hp → Prop, (∀ σ2, R σ0 F σ2 x → Q σ2 H) → g v σ0 H Q
def RName (K : PySem.W.Frag) {α : Type} [Rep α] (i : Nat) : L2.St → Hp → L2.St → α → Prop := fun σ0 F σ2 x => ∃ v, σ2 = σ0.set i (some v) ∧ rp K F v x
def RTup2 (K : PySem.W.Frag) {α β : Type} [Rep α] [Rep β] (i j : Nat) : L2.St → Hp → L2.St → α × β → Prop := fun σ0 F σ2 x => ∃ u w, σ2 = (σ0.set i (some u)).set j (some w) ∧ rp K F u x.1 ∧ rp K F w x.2
def RTup3 (K : PySem.W.Frag) {α β γ : Type} [Rep α] [Rep β] [Rep γ] (i j l : Nat) : L2.St → Hp → L2.St → T3 α β γ → Prop := fun σ0 F σ2 x => ∃ u w z, σ2 = ((σ0.set i (some u)).set j (some w)).set l (some z) ∧ rp K F u x.a ∧ rp K F w x.b ∧ rp K F z x.c
theorem tg_name {i : Nat} : Tg K (α := α) (gName i) (RName K i) := fun σ0 F H v x e r Q q => q _ ⟨v, rfl, r⟩
theorem tg_tup2 {i j : Nat} : Tg K (α := α × β) (gTup K 2 (gCons (gName i) (gCons (gName j) gNil))) (RTup2 K i j) := fun σ0 F H v x e ⟨a, u, w, h1, h2, h3, h4⟩ Q q =>
  ⟨a, [u, w], h1, ex_t e h2, rfl, u, [w], rfl, w, [], rfl, rfl, q _ ⟨u, w, rfl, h3, h4⟩⟩
theorem tg_tup3 {i j l : Nat} : Tg K (α := T3 α β γ) (gTup K 3 (gCons (gName i) (gCons (gName j) (gCons (gName l) gNil)))) (RTup3 K i j l) := fun σ0 F H v x e ⟨a, u, w, z, h1, h2, h3, h4, h5⟩ Q q =>
  ⟨a, [u, w, z], h1, ex_t e h2, rfl, u, [w, z], rfl, w, [z], rfl, z, [], rfl, rfl, q _ ⟨u, w, z, rfl, h3, h4, h5⟩⟩
theorem set_set_ne {σ : L2.St} {i j : Nat} {a b : Option V} (h : i ≠ j) : (σ.set i a).set j b = (σ.set j b).set i a := List.set_comm _ _ h
theorem wipe1 {σ : L2.St} {i : Nat} {v : Option V} : wipe ((wipe σ [i]).set i v) [i] = wipe σ [i] := by
  show ((σ.set i none).set i v).set i none = σ.set i none
  rw [List.set_set, List.set_set]
theorem wipe2 {σ : L2.St} {i j : Nat} {v w : Option V} : wipe (((wipe σ [i, j]).set i v).set j w) [i, j] = wipe σ [i, j] := by
  show (((((σ.set j none).set i none).set i v).set j w).set j none).set i none = (σ.set j none).set i none
  apply List.ext_getElem?
  intro n
  simp only [List.getElem?_set, List.length_set]
  by_cases a : i = n
  · subst a; simp
  · by_cases b : j = n
    · subst b; simp [a]
    · simp [a, b]
theorem wipe3 {σ : L2.St} {i j l : Nat} {u v w : Option V} : wipe ((((wipe σ [i, j, l]).set i u).set j v).set l w) [i, j, l] = wipe σ [i, j, l] := by
  show ((((((((σ.set l none).set j none).set i none).set i u).set j v).set l w).set l none).set j none).set i none = ((σ.set l none).set j none).set i none
  apply List.ext_getElem?
  intro n
  simp only [List.getElem?_set, List.length_set]
  by_cases a : i = n
  · subst a; simp
  · by_cases b : j = n
    · subst b; simp [a]
    · by_cases c : l = n
      · subst c; simp [a, b]
      · simp [a, b, c]
/-- [e for x in xs if c] -/
theorem em_lc {vs : List Nat} {m : M (List α)} {c : α → M Bool} {e : α → M β} {R : L2.St → Hp → L2.St → α → Prop} (hi : EvI ce E K wi σ F H m) (hg : Tg K g R)
    (hw : ∀ F σ2 (x : α), R (wipe σ vs) F σ2 x → wipe σ2 vs = wipe σ vs)
    (hc : ∀ x F1 H1 σ2, Gr F H F1 H1 → R (wipe σ vs) F1 σ2 x → EvT ce E0 tt σ2 F1 H1 (c x)) (he : ∀ x F1 H1 σ2, Gr F H F1 H1 → R (wipe σ vs) F1 σ2 x → Ev ce E0 te σ2 F1 H1 (rv K) (e x)) :
    Ev ce E (tLc wi g tt te vs) σ F H (rn K) (m.bind fun xs => lcM c e xs) := fun F1 H1 g1 Q q => by
  refine hi F1 H1 g1 _ ?_
  cases m with
  | er c => exact q
  | bad => exact q
  | ok xs =>
    intro F2 H2 J g2 sq Dl nd
    have q' : Post ce (rn K) (lcM c e xs) F1 H1 Q E := q
    unfold lcM at q'
    have hlen : xs.length ≤ 16000000 := by
      by_cases hlen : xs.length ≤ 16000000
      · exact hlen
      · rw [if_neg hlen] at q'
        exact q'.elim
    rw [if_pos hlen] at q'
    have nf : F2 Dl = none := ex_back g2.fh nd
    have gD : Gr F2 H2 F2 (upd H2 Dl (.lst [])) := Gr.own g2.fh nd
    -- the word: done so far, and what is left
    refine ⟨fun i m H' => m = xs.length - i ∧ i ≤ xs.length ∧ ∃ F' acc ys, Gr F2 H2 F' H' ∧ F' Dl = none ∧ H' Dl = some (.lst acc) ∧ acc.length ≤ i ∧ Paired (rp K F') acc ys ∧
      Post ce (rn K) ((compM c e (xs.drop i)).bind fun zs => .ok (ys ++ zs)) F1 H1 Q E, ⟨xs.length, by omega, Nat.zero_le _, F2, [], [], gD, nf, upd_same, Nat.zero_le _, .nil, ?_⟩, ?_⟩
    · rw [List.drop_zero]
      have : (compM c e xs).bind (fun zs => M.ok ([] ++ zs)) = compM c e xs := by
        cases compM c e xs <;> rfl
      rw [this]
      exact q'
    · rintro i mm H3 ⟨rfl, hi3, F3, acc, ys, g3, nf3, h3, hl3, p3, q3⟩
      have e3 : Ex F2 H3 := g3.ff.tr g3.fh
      by_cases hlt : i < xs.length
      · obtain ⟨x, hx⟩ : ∃ x, xs[i]? = some x := ⟨xs[i], List.getElem?_eq_getElem hlt⟩
        obtain ⟨go, yl⟩ := (sq i H3 e3).1 x hx
        have hd : xs.drop i = x :: xs.drop (i + 1) := by
          rw [List.drop_eq_getElem_cons hlt]
          rw [List.getElem?_eq_getElem hlt] at hx
          cases hx
          rfl
        rw [hd] at q3
        refine .inr ⟨go, fun H' => ∃ F' acc ys, Gr F2 H2 F' H' ∧ F' Dl = none ∧ H' Dl = some (.lst acc) ∧ acc.length ≤ i + 1 ∧ Paired (rp K F') acc ys ∧
          Post ce (rn K) ((compM c e (xs.drop (i + 1))).bind fun zs => .ok (ys ++ zs)) F1 H1 Q E, fun H' h' => ⟨xs.length - (i + 1), by omega, rfl, hlt, h'⟩, fun v H4 hy => ?_⟩
        obtain ⟨F4, g4, r4⟩ := yl v H4 hy F3 g3.ff g3.fh
        have g24 := g3.tr g4
        have gF : Gr F H F4 H4 := (g1.tr g2).tr g24
        refine hg _ F4 H4 v x g4.fh r4 _ fun σ2 hr => ⟨hw F4 σ2 x hr, ?_⟩
        -- the test
        have nf4 : F4 Dl = none := g4.nw Dl nf3 (by rw [h3]; exact fun z => nomatch z)
        have h4 : H4 Dl = some (.lst acc) := g4.hh _ _ h3
        refine hc x F4 H4 σ2 gF hr F4 H4 (Gr.rf g4.fh) _ ?_
        cases qc : c x with
        | er cc => exact (by
            have q3' := q3
            unfold compM at q3'
            rw [qc] at q3'
            exact q3'.elim)
        | bad => exact (by
            have q3' := q3
            unfold compM at q3'
            rw [qc] at q3'
            exact q3'.elim)
        | ok b =>
          intro F5 H5 g5
          have nf5 : F5 Dl = none := g5.nw Dl nf4 (by rw [h4]; exact fun z => nomatch z)
          have h5 : H5 Dl = some (.lst acc) := g5.hh _ _ h4
          cases b with
          | false =>
            show ∃ F' acc ys, _
            refine ⟨F5, acc, ys, g24.tr g5, nf5, h5, by omega, paired_mo (g4.ff.tr g5.ff) p3, ?_⟩
            have q3' := q3
            unfold compM at q3'
            rw [qc] at q3'
            exact q3'
          | true =>
            show te σ2 H5 _
            refine he x F4 H4 σ2 gF hr F5 H5 g5 _ ?_
            cases qe : e x with
            | er cc => exact (by
                have q3' := q3
                unfold compM at q3'
                rw [qc, qe] at q3'
                exact q3'.elim)
            | bad => exact (by
                have q3' := q3
                unfold compM at q3'
                rw [qc, qe] at q3'
                exact q3'.elim)
            | ok y =>
              intro F6 H6 v6 g6 r6
              have nf6 : F6 Dl = none := g6.nw Dl nf5 (by rw [h5]; exact fun z => nomatch z)
              have h6 : H6 Dl = some (.lst acc) := g6.hh _ _ h5
              refine ⟨acc, h6, ?_, F6, acc ++ [v6], ys ++ [y], Gr.mut ((g24.tr g5).tr g6) nd nf6, nf6, upd_same, ?_, paired_app (paired_mo ((g4.ff.tr g5.ff).tr g6.ff) p3) (.cons r6 .nil), ?_⟩
              · rw [sizeLine_eq]; omega
              · rw [List.length_append]
                show acc.length + 1 ≤ i + 1
                omega
              · have q3' := q3
                unfold compM at q3'
                rw [qc, qe] at q3'
                have ea : ((compM c e (xs.drop (i + 1))).bind fun zs => M.ok ((ys ++ [y]) ++ zs)) = (((compM c e (xs.drop (i + 1))).bind fun ys' => M.ok (y :: ys')).bind fun zs => M.ok (ys ++ zs)) := by
                  cases compM c e (xs.drop (i + 1)) with
                  | ok zs => show M.ok _ = M.ok _; rw [List.append_assoc]; rfl
                  | er _ => rfl
                  | bad => rfl
                rw [ea]
                exact q3'
      · have ei : i = xs.length := by omega
        refine .inl ⟨(sq i H3 e3).2 (by omega), ?_⟩
        rw [ei, List.drop_length] at q3
        have q3' : Post ce (rn K) (.ok (ys ++ [])) F1 H1 Q E := q3
        rw [List.append_nil] at q3'
        exact q3' F3 H3 _ (g2.tr g3) ⟨Dl, acc, rfl, ex_back g2.hh nd, nf3, h3, p3⟩
end
end Mw

set_option Elab.async false
set_option linter.all false
set_option maxRecDepth 100000
set_option maxHeartbeats 2000000
/-! Mw, part E: statements. -/
namespace Mw
open PySem L2
open Rep (rp)
/-! ### one's own lists lent out, and taken back -/
def fz (F H : Hp) (A : List Addr) : Hp := fun b => if b ∈ A then H b else F b
def th (F : Hp) (A : List Addr) : Hp := fun b => if b ∈ A then none else F b
theorem fz_ex {F H : Hp} {A : List Addr} (h : Ex F H) : Ex F (fz F H A) := fun a o e => by
  unfold fz
  split
  · exact h a o e
  · exact e
theorem fz_h {F H : Hp} {A : List Addr} (h : Ex F H) : Ex (fz F H A) H := fun a o e => by
  unfold fz at e
  split at e
  · exact e
  · exact h a o e
theorem fz_at {F H : Hp} {A : List Addr} {p : Addr} {o : HO} (m : p ∈ A) (h : H p = some o) : fz F H A p = some o := by
  unfold fz
  rw [if_pos m]
  exact h
theorem th_at {F : Hp} {A : List Addr} {p : Addr} (m : p ∈ A) : th F A p = none := by
  unfold th
  rw [if_pos m]
/-- the run went on from what was lent; now it is one's own again -/
theorem gr_th {F H F1 H1 : Hp} {A : List Addr} (hF : ∀ p ∈ A, F p = none) (hA : ∀ p ∈ A, H p ≠ none) (e : Ex F H) (g : Gr (fz F H A) H F1 H1) : Gr F H (th F1 A) H1 where
  ff := fun a o h => by
    have : a ∉ A := fun m => by rw [hF a m] at h; cases h
    unfold th
    rw [if_neg this]
    exact g.ff a o (fz_ex e a o h)
  fh := fun a o h => by
    unfold th at h
    split at h
    · cases h
    · exact g.fh a o h
  hh := g.hh
  nw := fun b h1 h2 => by
    unfold th
    split
    · rfl
    · rename_i hb
      refine g.nw b ?_ h2
      unfold fz
      rw [if_neg hb]
      exact h1
theorem th_tup {F : Hp} {A : List Addr} (h : ∀ p ∈ A, ∀ xs, ¬ Rd F p (.tup xs)) : TupEx F (th F A) := fun a xs r => by
  have : a ∉ A := fun m => h a m xs r
  rcases r with r | ⟨o, r⟩
  · refine .inl ?_
    unfold th
    rw [if_neg this]
    exact r
  · refine .inr ⟨o, ?_⟩
    unfold th
    rw [if_neg this]
    exact r
/-- no tuple -/
def NoTup (o : HO) : Prop := (∀ xs, o ≠ .tup xs) ∧ ∀ u xs, o ≠ .frz u (.tup xs)
/-- data that stand for one object -/
class Obj (T : Type) [Rep T] where
  ho : PySem.W.Frag → Hp → HO → T → Prop
  mo : ∀ {K : PySem.W.Frag} {H H' : Hp} {o : HO} {x : T}, Ex H H' → ho K H o x → ho K H' o x
  rep : ∀ {K : PySem.W.Frag} {H : Hp} {p : Addr} {o : HO} {x : T}, H p = some o → ho K H o x → rp K H (.ref p) x
  nt : ∀ {K : PySem.W.Frag} {H : Hp} {o : HO} {x : T}, ho K H o x → NoTup o
instance {α : Type} [Rep α] : Obj (List α) where
  ho := fun K H o x => ∃ vs, o = .lst vs ∧ Paired (rp K H) vs x
  mo := fun e ⟨vs, h1, h2⟩ => ⟨vs, h1, paired_mo e h2⟩
  rep := fun {K H p o x} e ⟨vs, h1, h2⟩ => by subst h1; exact ⟨p, vs, rfl, e, h2⟩
  nt := fun {K H o x} ⟨vs, h1, _⟩ => by subst h1; exact ⟨(fun _ z => nomatch z), (fun _ _ z => nomatch z)⟩
/-- p is one's own, an object that stands for x -/
structure Own (K : PySem.W.Frag) {T : Type} [Rep T] [Obj T] (F H : Hp) (p : Addr) (x : T) : Prop where
  h : ∃ o, H p = some o ∧ Obj.ho K F o x
  f : F p = none
theorem th_of {F H F1 H1 : Hp} {A : List Addr} (hA : ∀ p ∈ A, ∃ o, H p = some o ∧ NoTup o) (g : Gr (fz F H A) H F1 H1) : TupEx F1 (th F1 A) := th_tup fun p m xs r' => by
  obtain ⟨o, e, n1, n2⟩ := hA p m
  have e1 : F1 p = some o := g.ff _ _ (fz_at m e)
  rcases r' with r' | ⟨u, r'⟩
  · rw [e1] at r'
    exact n1 xs (Option.some.inj r')
  · rw [e1] at r'
    exact n2 u xs (Option.some.inj r')
section
variable {ρ α β γ δ S τ : Type} [Rep α] [Rep β] [Rep γ] [Rep δ] {ce : Ce} {E : XK} {K : PySem.W.Frag} {σ : L2.St} {F H F' H' F0 H0 : Hp} {te ta tb tc td : TE} {tt tu : TT} {md : Md ρ} {m : M ρ} {D : Ends} {ts tw : TS} {g : TG} {wi : TI} {P : τ → Prop}
variable {T : Type} [Rep T] [Obj T]
theorem Own.mo {p : Addr} {x : T} (o : Own K F H p x) (g : Gr F H F' H') : Own K F' H' p x := by
  obtain ⟨⟨u, h1, h2⟩, h3⟩ := o
  exact ⟨⟨u, g.hh _ _ h1, Obj.mo g.ff h2⟩, g.nw p h3 (by rw [h1]; exact fun z => nomatch z)⟩
theorem Own.ne {p : Addr} {x : T} (o : Own K F H p x) : H p ≠ none := by
  obtain ⟨⟨u, h1, h2⟩, h3⟩ := o
  rw [h1]; exact fun z => nomatch z
theorem Own.upd {p q : Addr} {x : T} {u : HO} (o : Own K F H p x) (h : p ≠ q) : Own K F (upd H q u) p x := by
  obtain ⟨⟨w, h1, h2⟩, h3⟩ := o
  exact ⟨⟨w, by rw [upd_ne h]; exact h1, h2⟩, h3⟩
theorem Own.lent {p : Addr} {x : T} {A : List Addr} (o : Own K F H p x) (e : Ex F H) (m : p ∈ A) : rp K (fz F H A) (.ref p) x := by
  obtain ⟨⟨u, h1, h2⟩, h3⟩ := o
  exact Obj.rep (fz_at m h1) (Obj.mo (fz_ex e) h2)
theorem own_new {p : Addr} {vs : List V} {xs : List α} (h1 : F p = none) (h2 : H p = some (.lst vs)) (h3 : Paired (rp K F) vs xs) : Own K F H p xs := ⟨⟨_, h2, vs, rfl, h3⟩, h1⟩
theorem Own.lst {p : Addr} {xs : List α} (o : Own K F H p xs) : ∃ vs, H p = some (.lst vs) ∧ Paired (rp K F) vs xs := by
  obtain ⟨⟨u, h1, vs, h2, h3⟩, _⟩ := o
  subst h2
  exact ⟨vs, h1, h3⟩

/-! ### statements -/
theorem s_seq {t1 t2 : TS} (h : t1 { D with nx := t2 D } σ H) : tSeq t1 t2 D σ H := h
theorem Ev.go {m1 : M α} {k : α → M τ} {Q' : VK} (h : Ev ce E ta σ F H (rv K) m1) (G : Gr F0 H0 F H) (q : Wp ce E H0 (m1.bind k) P)
    (c : ∀ x F1 H1 v, Gr F H F1 H1 → rp K F1 v x → Wp ce E H0 (k x) P → Q' v H1) : ta σ H Q' := by
  refine h F H (Gr.rf G.fh) Q' ?_
  cases m1 with
  | ok x => exact fun F1 H1 v g r => c x F1 H1 v g r q
  | er cc => exact fun H' e => q H' (G.hh.tr e)
  | bad => exact q
theorem Ev.goN {m1 : M (List α)} {k : List α → M τ} {Q' : VK} (h : Ev ce E ta σ F H (rn K) m1) (G : Gr F0 H0 F H) (q : Wp ce E H0 (m1.bind k) P)
    (c : ∀ x F1 H1 p, Gr F H F1 H1 → H p = none → Own K F1 H1 p x → Wp ce E H0 (k x) P → Q' (.ref p) H1) : ta σ H Q' := by
  refine h F H (Gr.rf G.fh) Q' ?_
  cases m1 with
  | ok x =>
    rintro F1 H1 v g ⟨p, vs, rfl, h1, h2, h3, h4⟩
    exact c x F1 H1 p g h1 (own_new h2 h3 h4) q
  | er cc => exact fun H' e => q H' (G.hh.tr e)
  | bad => exact q
theorem EvT.go {m1 : M Bool} {k : Bool → M τ} {Q' : Bool → Hp → Prop} (h : EvT ce E tt σ F H m1) (G : Gr F0 H0 F H) (q : Wp ce E H0 (m1.bind k) P)
    (c : ∀ x F1 H1, Gr F H F1 H1 → Wp ce E H0 (k x) P → Q' x H1) : tt σ H Q' := by
  refine h F H (Gr.rf G.fh) Q' ?_
  cases m1 with
  | ok x => exact fun F1 H1 g => c x F1 H1 g q
  | er cc => exact fun H' e => q H' (G.hh.tr e)
  | bad => exact q
/-- x = e -/
theorem s_asg {i : Nat} {m1 : M α} {k : α → M τ} (G : Gr F0 H0 F H) (q : Wp ce E H0 (m1.bind k) P) (h : Ev ce E te σ F H (rv K) m1)
    (c : ∀ x F1 H1 v, Gr F H F1 H1 → rp K F1 v x → Wp ce E H0 (k x) P → D.nx (σ.set i (some v)) H1) : tAsg te (gName i) D σ H := h.go G q fun x F1 H1 v g r w => c x F1 H1 v g r w
/-- x = a new list of one's own -/
theorem s_asgN {i : Nat} {m1 : M (List α)} {k : List α → M τ} (G : Gr F0 H0 F H) (q : Wp ce E H0 (m1.bind k) P) (h : Ev ce E te σ F H (rn K) m1)
    (c : ∀ x F1 H1 p, Gr F H F1 H1 → H p = none → Own K F1 H1 p x → Wp ce E H0 (k x) P → D.nx (σ.set i (some (.ref p))) H1) : tAsg te (gName i) D σ H := h.goN G q fun x F1 H1 p g n o w => c x F1 H1 p g n o w
/-- x = e, where e reads lists of one's own -/
theorem s_asgA (A : List Addr) {i : Nat} {m1 : M α} {k : α → M τ} [Flat α] (G : Gr F0 H0 F H) (q : Wp ce E H0 (m1.bind k) P) (hF : ∀ p ∈ A, F p = none) (hA : ∀ p ∈ A, ∃ o, H p = some o ∧ NoTup o) (h0 : ∀ p ∈ A, H0 p = none)
    (h : Ev ce E te σ (fz F H A) H (rv K) m1) (c : ∀ x F1 H1 v, Gr F H F1 H1 → rp K F1 v x → Wp ce E H0 (k x) P → D.nx (σ.set i (some v)) H1) : tAsg te (gName i) D σ H := by
  refine h _ H (Gr.rf (fz_h G.fh)) _ ?_
  have hA' : ∀ p ∈ A, H p ≠ none := fun p m => by obtain ⟨o, e, _⟩ := hA p m; rw [e]; exact fun z => nomatch z
  cases m1 with
  | ok x =>
    intro F1 H1 v g r
    exact c x (th F1 A) H1 v (gr_th hF hA' G.fh g) (Flat.fl (th_of hA g) r) q
  | er cc => exact fun H' e => q H' (G.hh.tr e)
  | bad => exact q
/-- if, where the test reads lists of one's own -/
theorem s_ifA (A : List Addr) {m1 : M Bool} {k : Bool → M τ} (G : Gr F0 H0 F H) (q : Wp ce E H0 (m1.bind k) P) (hF : ∀ p ∈ A, F p = none) (hA : ∀ p ∈ A, ∃ o, H p = some o ∧ NoTup o)
    (h : EvT ce E tt σ (fz F H A) H m1) (h1 : ∀ F1 H1, Gr F H F1 H1 → Wp ce E H0 (k true) P → ts D σ H1) (h2 : ∀ F1 H1, Gr F H F1 H1 → Wp ce E H0 (k false) P → tw D σ H1) : tIfS tt ts tw D σ H := by
  refine h _ H (Gr.rf (fz_h G.fh)) _ ?_
  have hA' : ∀ p ∈ A, H p ≠ none := fun p m => by obtain ⟨o, e, _⟩ := hA p m; rw [e]; exact fun z => nomatch z
  cases m1 with
  | ok b =>
    intro F1 H1 g
    cases b with
    | true => exact h1 _ H1 (gr_th hF hA' G.fh g) q
    | false => exact h2 _ H1 (gr_th hF hA' G.fh g) q
  | er cc => exact fun H' e => q H' (G.hh.tr e)
  | bad => exact q
theorem s_if {m1 : M Bool} {k : Bool → M τ} (G : Gr F0 H0 F H) (q : Wp ce E H0 (m1.bind k) P) (h : EvT ce E tt σ F H m1)
    (h1 : ∀ F1 H1, Gr F H F1 H1 → Wp ce E H0 (k true) P → ts D σ H1) (h2 : ∀ F1 H1, Gr F H F1 H1 → Wp ce E H0 (k false) P → tw D σ H1) : tIfS tt ts tw D σ H :=
  h.go G q fun b F1 H1 g w => by
    cases b with
    | true => exact h1 F1 H1 g w
    | false => exact h2 F1 H1 g w
/-- what follows is shown once -/
theorem s_cut {t : TS} (I : L2.St → Hp → Prop) (h1 : ∀ σ1 H1, I σ1 H1 → D.nx σ1 H1) (h2 : (∀ σ1 H1, I σ1 H1 → D.nx σ1 H1) → t D σ H) : t D σ H := h2 h1
/-- return e -/
theorem s_ret {m1 : M ρ} {k : ρ → M τ} [Rep ρ] (G : Gr F0 H0 F H) (q : Wp ce E H0 (m1.bind k) P) (h : Ev ce E te σ F H (rv K) m1)
    (hD : ∀ r F1 H1 v, Gr F0 H0 F1 H1 → rp K F1 v r → Wp ce E H0 (k r) P → D.rt v H1) : tRet te D σ H := h.go G q fun x F1 H1 v g r w => hD x F1 H1 v (G.tr g) r w
theorem s_retN {m1 : M (List α)} {k : List α → M τ} (G : Gr F0 H0 F H) (q : Wp ce E H0 (m1.bind k) P) (h : Ev ce E te σ F H (rn K) m1)
    (hD : ∀ r F1 H1 v, Gr F0 H0 F1 H1 → rn K F0 H0 F1 H1 v r → Wp ce E H0 (k r) P → D.rt v H1) : tRet te D σ H := h.goN G q fun x F1 H1 p g n o w => by
  obtain ⟨vs, h1, h2⟩ := o.lst
  exact hD x F1 H1 _ (G.tr g) ⟨p, vs, rfl, ex_back G.hh n, o.f, h1, h2⟩ w
theorem s_ret0 {m1 : M τ} [Rep τ] (G : Gr F0 H0 F H) (q : Wp ce E H0 m1 P) (h : Ev ce E te σ F H (rv K) m1) (hD : ∀ r F1 H1 v, Gr F0 H0 F1 H1 → rp K F1 v r → P r → D.rt v H1) : tRet te D σ H := by
  refine h F H (Gr.rf G.fh) _ ?_
  cases m1 with
  | ok x => exact fun F1 H1 v g r => hD x F1 H1 v (G.tr g) r q
  | er cc => exact fun H' e => q H' (G.hh.tr e)
  | bad => exact q
theorem s_retN0 {m1 : M (List α)} {P : List α → Prop} (G : Gr F0 H0 F H) (q : Wp ce E H0 m1 P) (h : Ev ce E te σ F H (rn K) m1) (hD : ∀ r F1 H1 v, Gr F0 H0 F1 H1 → rn K F0 H0 F1 H1 v r → P r → D.rt v H1) : tRet te D σ H := by
  refine h F H (Gr.rf G.fh) _ ?_
  cases m1 with
  | ok x =>
    intro F1 H1 v g r
    exact hD x F1 H1 v (G.tr g) (MdMo.mo G r) q
  | er cc => exact fun H' e => q H' (G.hh.tr e)
  | bad => exact q
/-- the lent heap is reached from the entry, too -/
theorem gr_fz {A : List Addr} (G : Gr F0 H0 F H) (h0 : ∀ p ∈ A, H0 p = none) : Gr F0 H0 (fz F H A) H :=
  ⟨G.ff.tr (fz_ex G.fh), fz_h G.fh, G.hh, fun b h1 h2 => by
    unfold fz
    split
    · rename_i hm
      exact absurd (h0 b hm) h2
    · exact G.nw b h1 h2⟩
/-- return p, a list of one's own -/
theorem rn_own {p : Addr} {xs : List α} (o : Own K F H p xs) (h0 : H0 p = none) : rn K F0 H0 F H (.ref p) xs := by
  obtain ⟨vs, h1, h2⟩ := o.lst
  exact ⟨p, vs, rfl, h0, o.f, h1, h2⟩
/-- e, alone -/
theorem s_drop {m1 : M α} {k : α → M τ} (G : Gr F0 H0 F H) (q : Wp ce E H0 (m1.bind k) P) (h : Ev ce E te σ F H (rv K) m1)
    (c : ∀ x F1 H1, Gr F H F1 H1 → Wp ce E H0 (k x) P → D.nx σ H1) : tDrop te D σ H := h.go G q fun x F1 H1 v g r w => c x F1 H1 g w
theorem s_raise {c : Err} {cls : Value} (G : Gr F0 H0 F H) (q : Wp ce E H0 (.er c : M τ) P) (hc : cls = .ref (ce c.name)) : E cls none H := by
  subst hc
  exact q H G.hh
/-! ### one's own lists change -/
noncomputable def appM {α : Type} (xs : List α) (x : α) : M (List α) := chk (xs.length < 16000000) (xs ++ [x])
/-- xs.append(e) -/
theorem s_app {i : Nat} {p : Addr} {xs : List α} {m1 : M α} {k : List α → M τ} (hp : σ[i]? = some (some (.ref p))) (o : Own K F H p xs) (n0 : H0 p = none) (G : Gr F0 H0 F H)
    (q : Wp ce E H0 (m1.bind fun x => (appM xs x).bind k) P) (h : Ev ce E te σ F H (rv K) m1)
    (c : ∀ ys F1 H1, Ex F F1 → Gr F0 H0 F1 H1 → Own K F1 H1 p ys → (∀ (T : Type) [Rep T] [Obj T] (q : Addr) (z : T), q ≠ p → Own K F H q z → Own K F1 H1 q z) → Wp ce E H0 (k ys) P → D.nx σ H1) :
    tDrop (tBM K "list" rAppend (tVar i) (tCons te tNil)) D σ H := by
  obtain ⟨vs, h1, h2⟩ := o.lst
  have h3 := o.f
  refine ⟨.ref p, hp, .inl ⟨rfl, vs, SqL.of h1⟩, h.go G q fun x F1 H1 v g r w => ?_⟩
  have w' : Wp ce E H0 ((appM xs x).bind k) P := w
  unfold appM chk at w'
  split at w'
  · rename_i hl
    refine ⟨p, vs, v, rfl, rfl, g.hh _ _ h1, ?_, ?_⟩
    · rw [Paired.length h2, sizeLine_eq]; omega
    · have hf1 : F1 p = none := g.nw p h3 (by rw [h1]; exact fun z => nomatch z)
      exact c (xs ++ [x]) F1 _ g.ff (Gr.mut (G.tr g) n0 hf1) (own_new hf1 upd_same (paired_app (paired_mo g.ff h2) (.cons r .nil))) (fun T _ _ q z hq o => (o.mo g).upd hq) w'
  · exact w'.elim
/-- xs.append(e), e reads lists of one's own -/
theorem s_appA (A : List Addr) {i : Nat} {p : Addr} {xs : List α} {m1 : M α} {k : List α → M τ} [Flat α] (hp : σ[i]? = some (some (.ref p))) (o : Own K F H p xs) (n0 : H0 p = none) (G : Gr F0 H0 F H)
    (q : Wp ce E H0 (m1.bind fun x => (appM xs x).bind k) P) (hF : ∀ p ∈ A, F p = none) (hA : ∀ p ∈ A, ∃ o, H p = some o ∧ NoTup o) (h : Ev ce E te σ (fz F H A) H (rv K) m1)
    (c : ∀ ys F1 H1, Ex F F1 → Gr F0 H0 F1 H1 → Own K F1 H1 p ys → (∀ (T : Type) [Rep T] [Obj T] (q : Addr) (z : T), q ≠ p → Own K F H q z → Own K F1 H1 q z) → Wp ce E H0 (k ys) P → D.nx σ H1) :
    tDrop (tBM K "list" rAppend (tVar i) (tCons te tNil)) D σ H := by
  obtain ⟨vs, h1, h2⟩ := o.lst
  have h3 := o.f
  refine ⟨.ref p, hp, .inl ⟨rfl, vs, SqL.of h1⟩, ?_⟩
  have hA' : ∀ p ∈ A, H p ≠ none := fun p m => by obtain ⟨o, e, _⟩ := hA p m; rw [e]; exact fun z => nomatch z
  refine h _ H (Gr.rf (fz_h G.fh)) _ ?_
  cases m1 with
  | ok x =>
    intro F1 H1 v g0 r0
    have g := gr_th hF hA' G.fh g0
    have r : rp K (th F1 A) v x := Flat.fl (th_of hA g0) r0
    have w' : Wp ce E H0 ((appM xs x).bind k) P := q
    unfold appM chk at w'
    split at w'
    · rename_i hl
      refine ⟨p, vs, v, rfl, rfl, g.hh _ _ h1, ?_, ?_⟩
      · rw [Paired.length h2, sizeLine_eq]; omega
      · have hf1 : th F1 A p = none := g.nw p h3 (by rw [h1]; exact fun z => nomatch z)
        exact c (xs ++ [x]) _ _ g.ff (Gr.mut (G.tr g) n0 hf1) (own_new hf1 upd_same (paired_app (paired_mo g.ff h2) (.cons r .nil))) (fun T _ _ q z hq o => (o.mo g).upd hq) w'
    · exact w'.elim
  | er cc => exact fun H' e => q H' (G.hh.tr e)
  | bad => exact q
/-! ### loops -/
theorem s_for {f : α → S → M (Ctl S τ)} {k : S → M τ} {s0 : S} {m : M (List α)} {R : L2.St → Hp → L2.St → α → Prop} (I : S → Hp → Hp → L2.St → Prop) (G : Gr F0 H0 F H) (hi : EvI ce E K wi σ F H m) (hg : Tg K g R)
    (q : Wp ce E H0 (m.bind fun xs => forM f k xs s0) P) (h0 : ∀ F1 H1, Gr F H F1 H1 → I s0 F1 H1 σ) (hG : ∀ s F' H' σ', I s F' H' σ' → Gr F0 H0 F' H')
    (turn : ∀ x s F1 H1 σ1, I s F1 H1 σ1 → ∀ F2 H2 σ2, Gr F1 H1 F2 H2 → R σ1 F2 σ2 x → ∀ (D' : Ends) (P' : Ctl S τ → Prop), D'.rt = D.rt →
      (∀ s', P' (.nx s') → ∀ F3 H3 σ3, Ex F2 F3 → I s' F3 H3 σ3 → D'.nx σ3 H3) → (∀ s', P' (.nx s') → ∀ F3 H3 σ3, Ex F2 F3 → I s' F3 H3 σ3 → D'.ct σ3 H3) →
      (∀ s', P' (.br s') → ∀ F3 H3 σ3, Ex F2 F3 → I s' F3 H3 σ3 → D'.bk σ3 H3) → (∀ r, P' (.rt r) → P r) → Wp ce E H0 (f x s) P' → ts D' σ2 H2)
    (after : ∀ s F1 H1 σ1, Ex F F1 → I s F1 H1 σ1 → Wp ce E H0 (k s) P → D.nx σ1 H1) : tFor wi g ts D σ H := by
  refine hi F H (Gr.rf G.fh) _ ?_
  cases m with
  | er c => exact fun H' e => q H' (G.hh.tr e)
  | bad => exact q
  | ok xs =>
    intro F2 H2 J g2 sq
    have q' : Wp ce E H0 (forM f k xs s0) P := q
    refine ⟨fun i m σ' H' => m = xs.length - i ∧ i ≤ xs.length ∧ ∃ s F', Ex F2 F' ∧ I s F' H' σ' ∧ Wp ce E H0 (forM f k (xs.drop i) s) P, ⟨xs.length, by omega, Nat.zero_le _, s0, F2, Ex.rf _, h0 F2 H2 g2, q'⟩, ?_⟩
    rintro i mm σ' H' ⟨rfl, hi', s, F', f2, I', q2⟩
    have G' := hG s F' H' σ' I'
    by_cases hlt : i < xs.length
    · obtain ⟨x, hx⟩ : ∃ x, xs[i]? = some x := ⟨xs[i], List.getElem?_eq_getElem hlt⟩
      have hd : xs.drop i = x :: xs.drop (i + 1) := by
        rw [List.drop_eq_getElem_cons hlt]
        rw [List.getElem?_eq_getElem hlt] at hx
        cases hx
        rfl
      rw [hd, forM_cons] at q2
      obtain ⟨go, yl⟩ := (sq i H' (f2.tr G'.fh)).1 x hx
      refine .inr ⟨go, fun σ' H' => ∃ s F', Ex F2 F' ∧ I s F' H' σ' ∧ Wp ce E H0 (forM f k (xs.drop (i + 1)) s) P, fun σ' H' h => ⟨xs.length - (i + 1), by omega, rfl, hlt, h⟩, fun v H3 hy => ?_⟩
      obtain ⟨F3, g3, r3⟩ := yl v H3 hy F' f2 G'.fh
      refine hg σ' F3 H3 v x g3.fh r3 _ fun σ2 hr => ?_
      refine turn x s F' H' σ' I' F3 H3 σ2 g3 hr _ (fun c => match c with
        | .nx s' => Wp ce E H0 (forM f k (xs.drop (i + 1)) s') P
        | .br s' => Wp ce E H0 (k s') P
        | .rt r => P r) rfl (fun s' p F4 H4 σ4 f4 I4 => ⟨s', F4, (f2.tr g3.ff).tr f4, I4, p⟩) (fun s' p F4 H4 σ4 f4 I4 => ⟨s', F4, (f2.tr g3.ff).tr f4, I4, p⟩)
        (fun s' p F4 H4 σ4 f4 I4 => after s' F4 H4 σ4 (g2.ff.tr ((f2.tr g3.ff).tr f4)) I4 p) (fun r p => p) ?_
      cases qf : f x s with
      | ok c =>
        rw [qf] at q2
        cases c with
        | nx s' => exact q2
        | br s' => exact q2
        | rt r => exact q2
      | er c => rw [qf] at q2; exact q2
      | bad => rw [qf] at q2; exact q2
    · have ei : i = xs.length := by omega
      rw [ei, List.drop_length] at q2
      exact .inl ⟨(sq i H' (f2.tr G'.fh)).2 (by omega), after s F' H' σ' (g2.ff.tr f2) I' q2⟩
theorem s_while {c : S → M Bool} {f : S → M (Ctl S τ)} {k : S → M τ} {s0 : S} {n : Nat} (I : S → Hp → Hp → L2.St → Prop) (h0 : I s0 F H σ) (hG : ∀ s F' H' σ', I s F' H' σ' → Gr F0 H0 F' H')
    (q : Wp ce E H0 (whM c f k n s0) P) (hc : ∀ s F1 H1 σ1, I s F1 H1 σ1 → EvT ce E tt σ1 F1 H1 (c s)) (hI : ∀ s F1 H1 F2 H2 σ1, I s F1 H1 σ1 → Gr F1 H1 F2 H2 → I s F2 H2 σ1)
    (turn : ∀ s F1 H1 σ1, I s F1 H1 σ1 → ∀ (D' : Ends) (P' : Ctl S τ → Prop), D'.rt = D.rt →
      (∀ s', P' (.nx s') → ∀ F3 H3 σ3, I s' F3 H3 σ3 → D'.nx σ3 H3) → (∀ s', P' (.nx s') → ∀ F3 H3 σ3, I s' F3 H3 σ3 → D'.ct σ3 H3) →
      (∀ s', P' (.br s') → ∀ F3 H3 σ3, I s' F3 H3 σ3 → D'.bk σ3 H3) → (∀ r, P' (.rt r) → P r) → Wp ce E H0 (f s) P' → ts D' σ1 H1)
    (after : ∀ s F1 H1 σ1, I s F1 H1 σ1 → Wp ce E H0 (k s) P → D.nx σ1 H1) : tWhile tt ts D σ H := by
  refine ⟨fun m σ' H' => ∃ s F', I s F' H' σ' ∧ Wp ce E H0 (whM c f k m s) P, ⟨n, s0, F, h0, q⟩, ?_⟩
  rintro m σ' H' ⟨s, F', I', q'⟩
  have G' := hG s F' H' σ' I'
  cases m with
  | zero => exact False.elim q'
  | succ m =>
    unfold whM at q'
    refine (hc s F' H' σ' I').go G' q' fun b F1 H1 g w => ?_
    have I1 := hI s F' H' F1 H1 σ' I' g
    cases b with
    | false => exact after s F1 H1 σ' I1 w
    | true =>
      refine ⟨fun σ' H' => ∃ s F', I s F' H' σ' ∧ Wp ce E H0 (whM c f k m s) P, fun σ' H' h => ⟨m, Nat.lt_succ_self m, h⟩, ?_⟩
      refine turn s F1 H1 σ' I1 _ (fun c' => match c' with
        | .nx s' => Wp ce E H0 (whM c f k m s') P
        | .br s' => Wp ce E H0 (k s') P
        | .rt r => P r) rfl (fun s' p F4 H4 σ4 I4 => ⟨s', F4, I4, p⟩) (fun s' p F4 H4 σ4 I4 => ⟨s', F4, I4, p⟩) (fun s' p F4 H4 σ4 I4 => after s' F4 H4 σ4 I4 p) (fun r p => p) ?_
      have w' : Wp ce E H0 ((f s).bind fun z => match z with
        | .nx s' => whM c f k m s'
        | .br s' => k s'
        | .rt r => .ok r) P := w
      cases qf : f s with
      | ok z =>
        rw [qf] at w'
        cases z with
        | nx s' => exact w'
        | br s' => exact w'
        | rt r => exact w'
      | er c => rw [qf] at w'; exact w'
      | bad => rw [qf] at w'; exact w'
end
/-! ### defs -/
def SpF (ce : Ce) {α ρ : Type} (R : Hp → List V → α → Prop) (md : Md ρ) (f : α → M ρ) : Sp := fun vs H Q E => ∃ F x, Ex F H ∧ R F vs x ∧ Post ce md (f x) F H Q E
theorem spa {ce : Ce} {α ρ : Type} {R : Hp → List V → α → Prop} {md : Md ρ} {f : α → M ρ} (x : α) : SpA ce R (SpF ce R md f) md x (f x) := fun F1 H1 vs e r Q E q => ⟨F1, x, e, r, q⟩
end Mw

set_option Elab.async false
set_option linter.all false
set_option maxRecDepth 100000
set_option maxHeartbeats 2000000
/-! Mw, part F: calls of defs that raise nothing, isinstance, what else the printed walks use. -/
namespace Mw
open PySem L2
open Rep (rp)
@[simp] theorem bind_assoc {α β γ : Type} (m : M α) (f : α → M β) (g : β → M γ) : (m.bind f).bind g = m.bind fun x => (f x).bind g := by cases m <;> rfl
theorem wp_bind {τ α : Type} {ce : Ce} {E : XK} {H0 : Hp} {m : M α} {k : α → M τ} {P : τ → Prop} (h : Wp ce E H0 (m.bind k) P) : Wp ce E H0 m (fun x => Wp ce E H0 (k x) P) := by
  cases m with
  | ok x => exact h
  | er c => exact h
  | bad => exact h
/-- a def that raises nothing -/
def SpF0 (ce : Ce) {α ρ : Type} (R : Hp → List V → α → Prop) (md : Md ρ) (f : α → M ρ) : Sp := fun vs H Q _ => ∃ F x, Ex F H ∧ R F vs x ∧ Post ce md (f x) F H Q E0
theorem post_ne {ρ : Type} {ce : Ce} {md : Md ρ} {m : M ρ} {F H : Hp} {Q : VK} {E E' : XK} (h : Post ce md m.ne F H Q E) : Post ce md m F H Q E' := by
  cases m with
  | ok r => exact h
  | er c => exact h.elim
  | bad => exact h
section
variable {ρ α β γ δ W τ : Type} [Rep α] [Rep β] [Rep γ] [Rep δ] {ce : Ce} {E : XK} {K : PySem.W.Frag} {σ : L2.St} {F H F' H' F0 H0 : Hp} {te ta tb tc td : TE} {tt tu : TT} {md : Md ρ} {m : M ρ} {D : Ends} {ts tw : TS} {P : τ → Prop}
theorem e_call0 [MdMo md] {ta : TA} {x : α} {R : Hp → List V → α → Prop} {f : α → M ρ} (ha : EvAM ce E ta σ F H (.ok x) R) : Ev ce E (tCall (SpF0 ce R md f) [] E0 ta) σ F H md (f x).ne := fun F1 H1 g1 Q q =>
  ha F1 H1 g1 _ fun F2 H2 vs g2 r2 => by
    show SpF0 ce R md f (vs ++ []) H2 Q E0
    rw [List.append_nil]
    exact ⟨F2, x, g2.fh, r2, post_ne (Post.mo g2 q)⟩
theorem em_call0 [MdMo md] {ta : TA} {m1 : M α} {R : Hp → List V → α → Prop} {f : α → M ρ} (ha : EvAM ce E ta σ F H m1 R) : Ev ce E (tCall (SpF0 ce R md f) [] E0 ta) σ F H md (m1.bind fun x => (f x).ne) := fun F1 H1 g1 Q q => by
  refine ha F1 H1 g1 _ ?_
  cases m1 with
  | ok x =>
    intro F2 H2 vs g2 r2
    show SpF0 ce R md f (vs ++ []) H2 Q E0
    rw [List.append_nil]
    exact ⟨F2, x, g2.fh, r2, post_ne (Post.mo g2 q)⟩
  | er c => exact q
  | bad => exact q
theorem e_callX [MdMo md] {ta : TA} {x : α} {R : Hp → List V → α → Prop} {f : α → M ρ} (ha : EvAM ce E ta σ F H (.ok x) R) : Ev ce E (tCall (SpF ce R md f) [] E ta) σ F H md (f x) := e_call ha (spa x)
theorem em_callX [MdMo md] {ta : TA} {m1 : M α} {R : Hp → List V → α → Prop} {f : α → M ρ} (ha : EvAM ce E ta σ F H m1 R) : Ev ce E (tCall (SpF ce R md f) [] E ta) σ F H md (m1.bind fun x => f x) := em_call ha fun x => spa x
theorem e_some [NN α] {x : α} (h : Ev ce E te σ F H (rv K) (.ok x)) : Ev ce E te σ F H (rv K) (.ok (some x)) := em_some (m := .ok x) h
theorem e_neg' {x : Int} (ha : Ev ce E ta σ F H (rv K) (.ok x)) : Ev ce E (tUn (rU fun i => .int (-i)) ta) σ F H (rv K) (.ok (-x)) := e_neg ha
theorem em_neg {m1 : M Int} (ha : Ev ce E ta σ F H (rv K) m1) : Ev ce E (tUn (rU fun i => .int (-i)) ta) σ F H (rv K) (m1.bind fun x => .ok (-x)) := em_un ha fun x => o_neg
/-- x < y < z, plain -/
theorem e_chain {r r' : R2} {x : α} {y : β} {z : γ} {b b' : Bool} (ha : Ev ce E ta σ F H (rv K) (.ok x)) (hb : Ev ce E tb σ F H (rv K) (.ok y)) (hc : Ev ce E tc σ F H (rv K) (.ok z))
    (h : Op2 ce E K r (rv K) x y (.ok b)) (h' : Op2 ce E K r' (rv K) y z (.ok b')) : Ev ce E (tChain r r' ta tb tc) σ F H (rv K) (.ok (b && b')) := fun F1 H1 g1 Q q => by
  refine ha F1 H1 g1 _ fun F2 H2 vx g2 rx => hb F2 H2 (g1.tr g2) _ fun F3 H3 vy g3 ry => ?_
  refine h F3 H3 vx vy g3.fh (Rep.mo g3.ff rx) ry _ fun F4 H4 v4 g4 r4 => ⟨b, r4, ?_⟩
  cases b with
  | true => exact hc F4 H4 (((g1.tr g2).tr g3).tr g4) _ fun F5 H5 vz g5 rz => h' F5 H5 vy vz g5.fh (Rep.mo (g4.ff.tr g5.ff) ry) rz Q (Post.mo (m := .ok b') (((g2.tr g3).tr g4).tr g5) q)
  | false => exact q F4 H4 _ ((g2.tr g3).tr g4) rfl
theorem e_if {b : Bool} {x y : ρ} [MdMo md] (h : EvT ce E tt σ F H (.ok b)) (ha : Ev ce E ta σ F H md (.ok x)) (hb : Ev ce E tb σ F H md (.ok y)) : Ev ce E (tIf tt ta tb) σ F H md (.ok (if b then x else y)) := fun F1 H1 g1 Q q => by
  refine h F1 H1 g1 _ fun F2 H2 g2 => ?_
  cases b with
  | true => exact ha F2 H2 (g1.tr g2) _ (Post.mo (m := .ok x) g2 q)
  | false => exact hb F2 H2 (g1.tr g2) _ (Post.mo (m := .ok y) g2 q)
theorem e_tup2 {x : α} {y : β} (ha : Ev ce E ta σ F H (rv K) (.ok x)) (hb : Ev ce E tb σ F H (rv K) (.ok y)) : Ev ce E (tTup (tCons ta (tCons tb tNil))) σ F H (rv K) (.ok (x, y)) := em_tup2 (m1 := .ok x) (m2 := .ok y) ha hb
theorem e_tup3 {x : α} {y : β} {z : γ} (ha : Ev ce E ta σ F H (rv K) (.ok x)) (hb : Ev ce E tb σ F H (rv K) (.ok y)) (hc : Ev ce E tc σ F H (rv K) (.ok z)) : Ev ce E (tTup (tCons ta (tCons tb (tCons tc tNil)))) σ F H (rv K) (.ok (T3.mk x y z)) := em_tup3 (m1 := .ok x) (m2 := .ok y) (m3 := .ok z) ha hb hc
theorem e_lcons {tr : TA} {x : α} {y : List α} (ha : Ev ce E ta σ F H (rv K) (.ok x)) (hr : EvL ce E K tr σ F H (.ok y)) : EvL ce E K (tCons ta tr) σ F H (.ok (x :: y)) := el_cons (m1 := .ok x) (m2 := .ok y) ha hr
theorem e_lst {ta : TA} {x : List α} (ha : EvL ce E K ta σ F H (.ok x)) (hs : x.length ≤ 1000) : Ev ce E (tLst ta) σ F H (rn K) (.ok x) := em_lst ha fun y e => by cases e; exact hs
/-- a written list whose items are reckoned: its length is looked at -/
theorem em_lst' {ta : TA} {m : M (List α)} (ha : EvL ce E K ta σ F H m) : Ev ce E (tLst ta) σ F H (rn K) (m.bind fun x => chk (x.length ≤ 1000) x) := fun F1 H1 g1 Q q => by
  cases m with
  | ok x =>
    have q' : Post ce (rn K) (chk (x.length ≤ 1000) x) F1 H1 Q E := q
    unfold chk at q'
    by_cases hx : x.length ≤ 1000
    · rw [if_pos hx] at q'
      exact em_lst ha (fun y e => by cases e; exact hx) F1 H1 g1 Q q'
    · rw [if_neg hx] at q'
      exact q'.elim
  | er c => exact em_lst ha (fun y e => nomatch e) F1 H1 g1 Q q
  | bad => exact q.elim
theorem em_rev' {x : List α} (ha : Ev ce E ta σ F H (rv K) (.ok x)) : Ev ce E (tRevL K ta) σ F H (rn K) (.ok x.reverse) := em_rev (m1 := .ok x) ha
theorem e_sl {tl th : TO} {x : List α} {lo hi : Option Int} (ha : Ev ce E ta σ F H (rv K) (.ok x)) (hl : EvO ce E tl σ F H (.ok lo)) (hh : EvO ce E th σ F H (.ok hi)) : Ev ce E (tSl (rSlL K) ta tl th) σ F H (rn K) (.ok (cut x lo hi)) := em_sl (m1 := .ok x) (m2 := .ok lo) (m3 := .ok hi) ha hl hh
theorem e_slS {tl th : TO} {x : Scr} {lo hi : Option Int} (ha : Ev ce E ta σ F H (rv K) (.ok x)) (hl : EvO ce E tl σ F H (.ok lo)) (hh : EvO ce E th σ F H (.ok hi)) : Ev ce E (tSl (rSlL K) ta tl th) σ F H (rn K) (.ok (cut x.l lo hi)) := em_slS (m2 := .ok lo) (m3 := .ok hi) ha hl hh
/-! ### isinstance -/
class Ty (α : Type) [Rep α] where
  nm : String
  ty : ∀ {K : PySem.W.Frag} {F H : Hp} {v : V} {x : α}, Ex F H → rp K F v x → TyX K H v (.type nm)
instance : Ty Int := ⟨"int", fun {K F H v x} _ h => by cases h; exact .base (.int x)⟩
instance : Ty Bool := ⟨"bool", fun {K F H v x} _ h => by cases h; exact .base (.bl x)⟩
instance : Ty Str := ⟨"str", fun {K F H v x} _ h => by cases h; exact .base (.str x)⟩
instance : Ty Unit := ⟨"NoneType", fun {K F H v x} _ h => by cases h; exact .base .non⟩
instance : Ty (List α) := ⟨"list", fun {K F H v x} e ⟨a, vs, h1, h2, h3⟩ => by subst h1; exact .base (.lst (e _ _ h2))⟩
theorem tyx_tup {a : Addr} {xs : List V} (e : Ex F H) (h : SqT K F a xs) : TyX K H (.ref a) (.type "tuple") := by
  rcases h with (h | ⟨o, h⟩) | ⟨o, its, n, hk, hc, _⟩
  · exact .base (.tup (e _ _ h))
  · exact .fTuple (e _ _ h)
  · exact .kTuple hk hc
instance : Ty (α × β) := ⟨"tuple", fun {K F H v x} e ⟨a, u, w, h1, h2, _⟩ => by subst h1; exact tyx_tup e h2⟩
instance : Ty (T3 α β γ) := ⟨"tuple", fun {K F H v x} e ⟨a, u, w, z, h1, h2, _⟩ => by subst h1; exact tyx_tup e h2⟩
instance : Ty (T4 α β γ δ) := ⟨"tuple", fun {K F H v x} e ⟨a, u, w, z, y, h1, h2, _⟩ => by subst h1; exact tyx_tup e h2⟩
theorem e_isi [Ty α] {x : α} {n : String} {b : Bool} (ha : Ev ce E ta σ F H (rv K) (.ok x)) (hb : PySem.W.kitOne K (.type (Ty.nm α)) (.type n) = some b) : Ev ce E (tCB (rIsi K) (tCons ta (tCons (tC (.ty n)) tNil))) σ F H (rv K) (.ok b) := fun F1 H1 g1 Q q =>
  ha F1 H1 g1 _ fun F2 H2 v g2 r => ⟨v, .ty n, _, _, b, rfl, .ty n, Ty.ty g2.fh r, hb, q F2 H2 _ g2 rfl⟩
/-- isinstance(x, T) where x may be None -/
theorem e_isiO [Ty α] {x : Option α} {n : String} {b : Bool} (ha : Ev ce E ta σ F H (rv K) (.ok x)) (hn : PySem.W.kitOne K (.type "NoneType") (.type n) = some false) (hb : PySem.W.kitOne K (.type (Ty.nm α)) (.type n) = some b) :
    Ev ce E (tCB (rIsi K) (tCons ta (tCons (tC (.ty n)) tNil))) σ F H (rv K) (.ok (x.isSome && b)) := fun F1 H1 g1 Q q =>
  ha F1 H1 g1 _ fun F2 H2 v g2 r => by
    cases x with
    | none => cases r; exact ⟨_, .ty n, _, _, false, rfl, .ty n, .base .non, hn, q F2 H2 _ g2 rfl⟩
    | some y => exact ⟨v, .ty n, _, _, b, rfl, .ty n, Ty.ty g2.fh r.1, hb, q F2 H2 _ g2 rfl⟩
theorem em_isi [Ty α] {m : M α} {n : String} {b : Bool} (ha : Ev ce E ta σ F H (rv K) m) (hb : PySem.W.kitOne K (.type (Ty.nm α)) (.type n) = some b) : Ev ce E (tCB (rIsi K) (tCons ta (tCons (tC (.ty n)) tNil))) σ F H (rv K) (m.bind fun _ => .ok b) := fun F1 H1 g1 Q q => by
  refine ha F1 H1 g1 _ ?_
  cases m with
  | ok x => exact fun F2 H2 v g2 r => ⟨v, .ty n, _, _, b, rfl, .ty n, Ty.ty g2.fh r, hb, q F2 H2 _ g2 rfl⟩
  | er c => exact q
  | bad => exact q
theorem em_isiO [Ty α] {m : M (Option α)} {n : String} {b : Bool} (ha : Ev ce E ta σ F H (rv K) m) (hn : PySem.W.kitOne K (.type "NoneType") (.type n) = some false) (hb : PySem.W.kitOne K (.type (Ty.nm α)) (.type n) = some b) :
    Ev ce E (tCB (rIsi K) (tCons ta (tCons (tC (.ty n)) tNil))) σ F H (rv K) (m.bind fun x => .ok (x.isSome && b)) := fun F1 H1 g1 Q q => by
  refine ha F1 H1 g1 _ ?_
  cases m with
  | ok x =>
    intro F2 H2 v g2 r
    cases x with
    | none => cases r; exact ⟨_, .ty n, _, _, false, rfl, .ty n, .base .non, hn, q F2 H2 _ g2 rfl⟩
    | some y => exact ⟨v, .ty n, _, _, b, rfl, .ty n, Ty.ty g2.fh r.1, hb, q F2 H2 _ g2 rfl⟩
  | er c => exact q
  | bad => exact q
/-! ### ifs -/
theorem s_if2 {m1 : M Bool} {k1 k2 : M τ} (G : Gr F0 H0 F H) (q : Wp ce E H0 (m1.bind fun b => if b then k1 else k2) P) (h : EvT ce E tt σ F H m1)
    (h1 : ∀ F1 H1, Gr F H F1 H1 → Wp ce E H0 k1 P → ts D σ H1) (h2 : ∀ F1 H1, Gr F H F1 H1 → Wp ce E H0 k2 P → tw D σ H1) : tIfS tt ts tw D σ H := s_if G q h h1 h2
theorem s_if2A (A : List Addr) {m1 : M Bool} {k1 k2 : M τ} (G : Gr F0 H0 F H) (q : Wp ce E H0 (m1.bind fun b => if b then k1 else k2) P) (hF : ∀ p ∈ A, F p = none) (hA : ∀ p ∈ A, ∃ o, H p = some o ∧ NoTup o)
    (h : EvT ce E tt σ (fz F H A) H m1) (h1 : ∀ F1 H1, Gr F H F1 H1 → Wp ce E H0 k1 P → ts D σ H1) (h2 : ∀ F1 H1, Gr F H F1 H1 → Wp ce E H0 k2 P → tw D σ H1) : tIfS tt ts tw D σ H := s_ifA A G q hF hA h h1 h2
theorem s_join {t : TS} {m1 : M W} {k : W → M τ} (J : W → Hp → Hp → L2.St → Prop) (q : Wp ce E H0 (m1.bind k) P)
    (h1 : ∀ w F1 H1 σ1, J w F1 H1 σ1 → Wp ce E H0 (k w) P → D.nx σ1 H1)
    (h2 : ∀ (P' : W → Prop), (∀ w, P' w → ∀ F1 H1 σ1, J w F1 H1 σ1 → D.nx σ1 H1) → Wp ce E H0 m1 P' → t D σ H) : t D σ H :=
  h2 (fun w => Wp ce E H0 (k w) P) (fun w p F1 H1 σ1 j => h1 w F1 H1 σ1 j p) (wp_bind q)
theorem own1 {Pp : Addr → Prop} {p : Addr} (h : Pp p) : ∀ q ∈ [p], Pp q := fun q m => by rw [List.mem_singleton.mp m]; exact h
theorem own2 {Pp : Addr → Prop} {p p' : Addr} (h : Pp p) (h' : Pp p') : ∀ q ∈ [p, p'], Pp q := fun q m => by
  rcases List.mem_cons.mp m with rfl | m
  · exact h
  · rw [List.mem_singleton.mp m]; exact h'
theorem own3 {Pp : Addr → Prop} {p p' p'' : Addr} (h : Pp p) (h' : Pp p') (h'' : Pp p'') : ∀ q ∈ [p, p', p''], Pp q := fun q m => by
  rcases List.mem_cons.mp m with rfl | m
  · exact h
  · exact own2 h' h'' q m
variable {T : Type} [Rep T] [Obj T]
theorem Own.ls {p : Addr} {x : T} (o : Own K F H p x) : ∃ o, H p = some o ∧ NoTup o := let ⟨⟨u, h, h2⟩, _⟩ := o; ⟨u, h, Obj.nt h2⟩
/-- a list of one's own from now on stays as it is -/
theorem own_fix {p : Addr} {x : T} (G : Gr F0 H0 F H) (o : Own K F H p x) (n0 : H0 p = none) : ∃ F', Gr F0 H0 F' H ∧ Ex F F' ∧ rp K F' (.ref p) x ∧ ∀ q, q ≠ p → F' q = F q := by
  obtain ⟨⟨u, h1, h2⟩, h3⟩ := o
  refine ⟨upd F p u, ⟨G.ff.tr (Ex.nw h3), fun a w e => ?_, G.hh, fun b a1 a2 => ?_⟩, Ex.nw h3, Obj.rep upd_same (Obj.mo (Ex.nw h3) h2), fun q hq => upd_ne hq⟩
  · by_cases z : a = p
    · subst z; rw [upd_same] at e; rw [h1]; exact e
    · rw [upd_ne z] at e; exact G.fh a w e
  · have : b ≠ p := fun z => by subst z; exact a2 n0
    rw [upd_ne this]; exact G.nw b a1 a2
/-- x += e -/
theorem s_aug {i : Nat} {v : V} {a : Int} {f : Int → Int → Int} {m1 : M Int} {k : Int → M τ} (hv : σ[i]? = some (some v)) (r : rp K F v a) (G : Gr F0 H0 F H) (q : Wp ce E H0 (m1.bind fun y => k (f a y)) P) (h : Ev ce E te σ F H (rv K) m1)
    (c : ∀ x F1 H1 v, Gr F H F1 H1 → rp K F1 v x → Wp ce E H0 (k x) P → D.nx (σ.set i (some v)) H1) : tAug i te (ipI f) D σ H := by
  cases r
  exact ⟨.int a, hv, h.go G q fun x F1 H1 v g r w => by cases r; exact ⟨a, x, rfl, rfl, c (f a x) F1 H1 _ g rfl w⟩⟩
end
end Mw
namespace Mw
open PySem L2
/-- an error class of one's own over ValueError, as the top has written it -/
structure ErrC (K : PySem.W.Frag) (mg : Str → Option Value) (C : Addr) (nm : Str) : Prop where
  g : mg nm = some (.ref C)
  x : PySem.W.excIn K C [.type "ValueError", .type "Exception", .type "BaseException", .type "object"] "ValueError.__new__" = true
  k : PySem.W.keepIn K (.ref C) = true
  b : PySem.W.subIn K (.ref C) (.type "BaseException") = some true
  t : PySem.W.typeIn K (.ref C) = some (.type "type")
section
variable {ρ α β γ δ W τ : Type} [Rep α] [Rep β] [Rep γ] [Rep δ] {ce : Ce} {E : XK} {K : PySem.W.Frag} {σ : L2.St} {F H F' H' F0 H0 : Hp} {te ta tb tc td : TE} {tt tu : TT} {md : Md ρ} {m : M ρ} {D : Ends} {ts tw : TS} {P : τ → Prop}
theorem t_yes : EvT ce E tYes σ F H (.ok true) := fun F1 H1 g Q q => q F1 H1 (Gr.rf g.fh)
/-- one plain operand's place, of a reckoned thing -/
theorem em_ix {r : R2} {m1 : M α} {y : β} {g : α → γ} (ha : Ev ce E ta σ F H (rv K) m1) (hb : Ev ce E tb σ F H (rv K) (.ok y)) (hr : ∀ x, Op2 ce E K r (rv K) x y (.ok (g x))) : Ev ce E (tOp r ta tb) σ F H (rv K) (m1.bind fun x => .ok (g x)) := fun F1 H1 g1 Q q => by
  refine ha F1 H1 g1 _ ?_
  cases m1 with
  | ok x => exact fun F2 H2 vx g2 rx => hb F2 H2 (g1.tr g2) _ fun F3 H3 vy g3 ry => hr x F3 H3 vx vy g3.fh (Rep.mo g3.ff rx) ry Q (Post.mo (m := .ok (g x)) (g2.tr g3) q)
  | er c => exact q
  | bad => exact q
theorem em_cb1 [MdMo md] {ta : TA} {r : List V → Hp → VK → Prop} {x : α} {R : Hp → List V → α → Prop} {m : M ρ} (ha : EvAM ce E ta σ F H (.ok x) R) (hr : OpA ce E R r md x m) : Ev ce E (tCB r ta) σ F H md m := fun F1 H1 g1 Q q =>
  ha F1 H1 g1 _ fun F2 H2 vs g2 r2 => hr F2 H2 vs g2.fh r2 Q (Post.mo g2 q)
/-- a, b = e -/
theorem s_asgT {g : TG} {R : L2.St → Hp → L2.St → α → Prop} (hg : Tg K g R) {m1 : M α} {k : α → M τ} (G : Gr F0 H0 F H) (q : Wp ce E H0 (m1.bind k) P) (h : Ev ce E te σ F H (rv K) m1)
    (c : ∀ x F1 H1 σ1, Gr F H F1 H1 → R σ F1 σ1 x → Wp ce E H0 (k x) P → D.nx σ1 H1) : tAsg te g D σ H := h.go G q fun x F1 H1 v g r w => hg σ F1 H1 v x g.fh r _ fun σ2 hr => c x F1 H1 σ2 g hr w
/-- x = a new list, where e reads lists of one's own -/
theorem s_asgNA (A : List Addr) {i : Nat} {m1 : M (List α)} {k : List α → M τ} [Flat α] (G : Gr F0 H0 F H) (q : Wp ce E H0 (m1.bind k) P) (hF : ∀ p ∈ A, F p = none) (hA : ∀ p ∈ A, ∃ o, H p = some o ∧ NoTup o) (h0 : ∀ p ∈ A, H0 p = none)
    (h : Ev ce E te σ (fz F H A) H (rn K) m1) (c : ∀ x F1 H1 p, Gr F H F1 H1 → H p = none → Own K F1 H1 p x → Wp ce E H0 (k x) P → D.nx (σ.set i (some (.ref p))) H1) : tAsg te (gName i) D σ H := by
  refine h _ H (Gr.rf (fz_h G.fh)) _ ?_
  have hA' : ∀ p ∈ A, H p ≠ none := fun p m => by obtain ⟨o, e, _⟩ := hA p m; rw [e]; exact fun z => nomatch z
  cases m1 with
  | ok x =>
    rintro F1 H1 v g ⟨p, vs, rfl, h1, h2, h3, h4⟩
    refine c x (th F1 A) H1 p (gr_th hF hA' G.fh g) h1 (own_new ?_ h3 (paired_fl (th_of hA g) h4)) q
    · unfold th
      split
      · rfl
      · exact h2
  | er cc => exact fun H' e => q H' (G.hh.tr e)
  | bad => exact q
theorem Own.other {T : Type} [Rep T] [Obj T] {q : Addr} {x : T} (o : Own K F H q x) (e : Ex F F') (h : F' q = F q) : Own K F' H q x := by
  obtain ⟨⟨u, h1, h2⟩, h3⟩ := o
  exact ⟨⟨u, h1, Obj.mo e h2⟩, by rw [h]; exact h3⟩
end
end Mw
/-! ### the same with a rest -/
namespace Mw
open PySem L2
open Rep (rp)
section
variable {ρ α β γ δ S W τ : Type} [Rep α] [Rep β] [Rep γ] [Rep δ] {ce : Ce} {E : XK} {K : PySem.W.Frag} {σ : L2.St} {F H F' H' F0 H0 : Hp} {te ta tb tc td : TE} {tt tu : TT} {md : Md ρ} {m : M ρ} {D : Ends} {ts tw : TS} {g : TG} {wi : TI} {P : τ → Prop}
theorem s_next (h : D.nx σ H) : tNext D σ H := h
theorem s_nx {X : L2.St → Hp → Prop} {R : VK} {B C : L2.St → Hp → Prop} (h : X σ H) : (Ends.mk X R B C).nx σ H := h
theorem q_asg {t2 : TS} {i : Nat} {m1 : M α} {k : α → M τ} (G : Gr F0 H0 F H) (q : Wp ce E H0 (m1.bind k) P) (h : Ev ce E te σ F H (rv K) m1)
    (c : ∀ x F1 H1 v, Gr F H F1 H1 → rp K F1 v x → Wp ce E H0 (k x) P → t2 D (σ.set i (some v)) H1) : tSeq (tAsg te (gName i)) t2 D σ H := s_asg (D := { D with nx := t2 D }) G q h c
theorem q_asgN {t2 : TS} {i : Nat} {m1 : M (List α)} {k : List α → M τ} (G : Gr F0 H0 F H) (q : Wp ce E H0 (m1.bind k) P) (h : Ev ce E te σ F H (rn K) m1)
    (c : ∀ x F1 H1 p, Gr F H F1 H1 → H p = none → Own K F1 H1 p x → Wp ce E H0 (k x) P → t2 D (σ.set i (some (.ref p))) H1) : tSeq (tAsg te (gName i)) t2 D σ H := s_asgN (D := { D with nx := t2 D }) G q h c
theorem q_asgA {t2 : TS} (A : List Addr) {i : Nat} {m1 : M α} {k : α → M τ} [Flat α] (G : Gr F0 H0 F H) (q : Wp ce E H0 (m1.bind k) P) (hF : ∀ p ∈ A, F p = none) (hA : ∀ p ∈ A, ∃ o, H p = some o ∧ NoTup o) (h0 : ∀ p ∈ A, H0 p = none)
    (h : Ev ce E te σ (fz F H A) H (rv K) m1) (c : ∀ x F1 H1 v, Gr F H F1 H1 → rp K F1 v x → Wp ce E H0 (k x) P → t2 D (σ.set i (some v)) H1) : tSeq (tAsg te (gName i)) t2 D σ H := s_asgA (D := { D with nx := t2 D }) A G q hF hA h0 h c
theorem q_drop {t2 : TS} {m1 : M α} {k : α → M τ} (G : Gr F0 H0 F H) (q : Wp ce E H0 (m1.bind k) P) (h : Ev ce E te σ F H (rv K) m1)
    (c : ∀ x F1 H1, Gr F H F1 H1 → Wp ce E H0 (k x) P → t2 D σ H1) : tSeq (tDrop te) t2 D σ H := s_drop (D := { D with nx := t2 D }) G q h c
theorem q_app {t2 : TS} {i : Nat} {p : Addr} {xs : List α} {m1 : M α} {k : List α → M τ} (hp : σ[i]? = some (some (.ref p))) (o : Own K F H p xs) (n0 : H0 p = none) (G : Gr F0 H0 F H)
    (q : Wp ce E H0 (m1.bind fun x => (appM xs x).bind k) P) (h : Ev ce E te σ F H (rv K) m1)
    (c : ∀ ys F1 H1, Ex F F1 → Gr F0 H0 F1 H1 → Own K F1 H1 p ys → (∀ (T : Type) [Rep T] [Obj T] (q : Addr) (z : T), q ≠ p → Own K F H q z → Own K F1 H1 q z) → Wp ce E H0 (k ys) P → t2 D σ H1) : tSeq (tDrop (tBM K "list" rAppend (tVar i) (tCons te tNil))) t2 D σ H := s_app (D := { D with nx := t2 D }) hp o n0 G q h c
theorem q_appA {t2 : TS} (A : List Addr) {i : Nat} {p : Addr} {xs : List α} {m1 : M α} {k : List α → M τ} [Flat α] (hp : σ[i]? = some (some (.ref p))) (o : Own K F H p xs) (n0 : H0 p = none) (G : Gr F0 H0 F H)
    (q : Wp ce E H0 (m1.bind fun x => (appM xs x).bind k) P) (hF : ∀ p ∈ A, F p = none) (hA : ∀ p ∈ A, ∃ o, H p = some o ∧ NoTup o) (h : Ev ce E te σ (fz F H A) H (rv K) m1)
    (c : ∀ ys F1 H1, Ex F F1 → Gr F0 H0 F1 H1 → Own K F1 H1 p ys → (∀ (T : Type) [Rep T] [Obj T] (q : Addr) (z : T), q ≠ p → Own K F H q z → Own K F1 H1 q z) → Wp ce E H0 (k ys) P → t2 D σ H1) : tSeq (tDrop (tBM K "list" rAppend (tVar i) (tCons te tNil))) t2 D σ H := s_appA (D := { D with nx := t2 D }) A hp o n0 G q hF hA h c
theorem q_for {t2 : TS} {f : α → S → M (Ctl S τ)} {k : S → M τ} {s0 : S} {m : M (List α)} {R : L2.St → Hp → L2.St → α → Prop} (I : S → Hp → Hp → L2.St → Prop) (G : Gr F0 H0 F H) (hi : EvI ce E K wi σ F H m) (hg : Tg K g R)
    (q : Wp ce E H0 (m.bind fun xs => forM f k xs s0) P) (h0 : ∀ F1 H1, Gr F H F1 H1 → I s0 F1 H1 σ) (hG : ∀ s F' H' σ', I s F' H' σ' → Gr F0 H0 F' H')
    (turn : ∀ x s F1 H1 σ1, I s F1 H1 σ1 → ∀ F2 H2 σ2, Gr F1 H1 F2 H2 → R σ1 F2 σ2 x → ∀ (D' : Ends) (P' : Ctl S τ → Prop), D'.rt = D.rt →
      (∀ s', P' (.nx s') → ∀ F3 H3 σ3, Ex F2 F3 → I s' F3 H3 σ3 → D'.nx σ3 H3) → (∀ s', P' (.nx s') → ∀ F3 H3 σ3, Ex F2 F3 → I s' F3 H3 σ3 → D'.ct σ3 H3) →
      (∀ s', P' (.br s') → ∀ F3 H3 σ3, Ex F2 F3 → I s' F3 H3 σ3 → D'.bk σ3 H3) → (∀ r, P' (.rt r) → P r) → Wp ce E H0 (f x s) P' → ts D' σ2 H2)
    (after : ∀ s F1 H1 σ1, Ex F F1 → I s F1 H1 σ1 → Wp ce E H0 (k s) P → t2 D σ1 H1) : tSeq (tFor wi g ts) t2 D σ H := s_for (D := { D with nx := t2 D }) I G hi hg q h0 hG turn after
theorem q_while {t2 : TS} {c : S → M Bool} {f : S → M (Ctl S τ)} {k : S → M τ} {s0 : S} {n : Nat} (I : S → Hp → Hp → L2.St → Prop) (h0 : I s0 F H σ) (hG : ∀ s F' H' σ', I s F' H' σ' → Gr F0 H0 F' H')
    (q : Wp ce E H0 (whM c f k n s0) P) (hc : ∀ s F1 H1 σ1, I s F1 H1 σ1 → EvT ce E tt σ1 F1 H1 (c s)) (hI : ∀ s F1 H1 F2 H2 σ1, I s F1 H1 σ1 → Gr F1 H1 F2 H2 → I s F2 H2 σ1)
    (turn : ∀ s F1 H1 σ1, I s F1 H1 σ1 → ∀ (D' : Ends) (P' : Ctl S τ → Prop), D'.rt = D.rt →
      (∀ s', P' (.nx s') → ∀ F3 H3 σ3, I s' F3 H3 σ3 → D'.nx σ3 H3) → (∀ s', P' (.nx s') → ∀ F3 H3 σ3, I s' F3 H3 σ3 → D'.ct σ3 H3) →
      (∀ s', P' (.br s') → ∀ F3 H3 σ3, I s' F3 H3 σ3 → D'.bk σ3 H3) → (∀ r, P' (.rt r) → P r) → Wp ce E H0 (f s) P' → ts D' σ1 H1)
    (after : ∀ s F1 H1 σ1, I s F1 H1 σ1 → Wp ce E H0 (k s) P → t2 D σ1 H1) : tSeq (tWhile tt ts) t2 D σ H := s_while (D := { D with nx := t2 D }) I h0 hG q hc hI turn after
theorem q_asgNA {t2 : TS} (A : List Addr) {i : Nat} {m1 : M (List α)} {k : List α → M τ} [Flat α] (G : Gr F0 H0 F H) (q : Wp ce E H0 (m1.bind k) P) (hF : ∀ p ∈ A, F p = none) (hA : ∀ p ∈ A, ∃ o, H p = some o ∧ NoTup o) (h0 : ∀ p ∈ A, H0 p = none)
    (h : Ev ce E te σ (fz F H A) H (rn K) m1) (c : ∀ x F1 H1 p, Gr F H F1 H1 → H p = none → Own K F1 H1 p x → Wp ce E H0 (k x) P → t2 D (σ.set i (some (.ref p))) H1) : tSeq (tAsg te (gName i)) t2 D σ H := s_asgNA (D := { D with nx := t2 D }) A G q hF hA h0 h c
theorem q_asgT {t2 : TS} {g : TG} {R : L2.St → Hp → L2.St → α → Prop} (hg : Tg K g R) {m1 : M α} {k : α → M τ} (G : Gr F0 H0 F H) (q : Wp ce E H0 (m1.bind k) P) (h : Ev ce E te σ F H (rv K) m1)
    (c : ∀ x F1 H1 σ1, Gr F H F1 H1 → R σ F1 σ1 x → Wp ce E H0 (k x) P → t2 D σ1 H1) : tSeq (tAsg te g) t2 D σ H := s_asgT (D := { D with nx := t2 D }) hg G q h c
theorem q_if2 {t2 : TS} {m1 : M Bool} {k1 k2 : M τ} (G : Gr F0 H0 F H) (q : Wp ce E H0 (m1.bind fun b => if b then k1 else k2) P) (h : EvT ce E tt σ F H m1)
    (h1 : ∀ F1 H1, Gr F H F1 H1 → Wp ce E H0 k1 P → ts { D with nx := t2 D } σ H1) (h2 : ∀ F1 H1, Gr F H F1 H1 → Wp ce E H0 k2 P → tw { D with nx := t2 D } σ H1) : tSeq (tIfS tt ts tw) t2 D σ H := s_if2 (D := { D with nx := t2 D }) G q h h1 h2
theorem q_if2A {t2 : TS} (A : List Addr) {m1 : M Bool} {k1 k2 : M τ} (G : Gr F0 H0 F H) (q : Wp ce E H0 (m1.bind fun b => if b then k1 else k2) P) (hF : ∀ p ∈ A, F p = none) (hA : ∀ p ∈ A, ∃ o, H p = some o ∧ NoTup o)
    (h : EvT ce E tt σ (fz F H A) H m1) (h1 : ∀ F1 H1, Gr F H F1 H1 → Wp ce E H0 k1 P → ts { D with nx := t2 D } σ H1) (h2 : ∀ F1 H1, Gr F H F1 H1 → Wp ce E H0 k2 P → tw { D with nx := t2 D } σ H1) : tSeq (tIfS tt ts tw) t2 D σ H := s_if2A (D := { D with nx := t2 D }) A G q hF hA h h1 h2
theorem q_aug {t2 : TS} {i : Nat} {v : V} {a : Int} {f : Int → Int → Int} {m1 : M Int} {k : Int → M τ} (hv : σ[i]? = some (some v)) (r : rp K F v a) (G : Gr F0 H0 F H) (q : Wp ce E H0 (m1.bind fun y => k (f a y)) P) (h : Ev ce E te σ F H (rv K) m1)
    (c : ∀ x F1 H1 v, Gr F H F1 H1 → rp K F1 v x → Wp ce E H0 (k x) P → t2 D (σ.set i (some v)) H1) : tSeq (tAug i te (ipI f)) t2 D σ H := s_aug (D := { D with nx := t2 D }) hv r G q h c
theorem q_join {t2 : TS} {t : TS} {m1 : M W} {k : W → M τ} (J : W → Hp → Hp → L2.St → Prop) (q : Wp ce E H0 (m1.bind k) P)
    (h1 : ∀ w F1 H1 σ1, J w F1 H1 σ1 → Wp ce E H0 (k w) P → t2 D σ1 H1)
    (h2 : ∀ (P' : W → Prop), (∀ w, P' w → ∀ F1 H1 σ1, J w F1 H1 σ1 → t2 D σ1 H1) → Wp ce E H0 m1 P' → t { D with nx := t2 D } σ H) : tSeq (t) t2 D σ H := s_join (D := { D with nx := t2 D }) J q h1 h2
end
end Mw

set_option Elab.async false
set_option linter.all false
set_option maxRecDepth 100000
set_option maxHeartbeats 2000000
/-! Mw, part G: plain laws that serve several mirrors. -/
namespace Mw
open PySem L2
theorem chk_pos {α : Type} {c : Prop} (h : c) (x : α) : chk c x = .ok x := if_pos h
theorem mulM_ok {x y : Int} (hx : x.natAbs < 2 ^ 10000) (hy : y.natAbs < 2 ^ 10000) : mulM x y = .ok (x * y) := chk_pos (wide_mul hx hy (by decide) (by decide) (by decide)) _
theorem modM_ok {x y : Int} (h : 0 < y) : modM x y = .ok (x % y) := chk_pos h _
theorem fdivM_ok {x y : Int} (h : 0 < y) (hy : y.natAbs < 2 ^ 8000) : fdivM x y = .ok (x / y) := chk_pos (wide_div h hy (by decide) (by decide)) _
theorem fdivZ_ok {x y : Int} (h : y ≠ 0) (hy : y.natAbs < 2 ^ 8000) : fdivZ x y = .ok (x.fdiv y) := chk_pos ⟨h, Nat.lt_of_lt_of_le (PySem.Flt.log2_lt_of (by decide) hy) (by decide)⟩ _
theorem ixM_of {α : Type} [Rep α] {xs : List α} {i : Nat} {x : α} (h : xs[i]? = some x) : ixM xs (i : Int) = .ok x := by
  unfold ixM
  rw [atI_nat h]
theorem catM_ok {α : Type} {xs ys : List α} (h : xs.length + ys.length ≤ 16000000) : catM xs ys = .ok (xs ++ ys) := chk_pos h _
theorem appM_ok {α : Type} {xs : List α} {x : α} (h : xs.length < 16000000) : appM xs x = .ok (xs ++ [x]) := chk_pos h _
theorem rng1M_ok {n : Int} (h : -(2 ^ 62) ≤ n ∧ n < 2 ^ 62) : rng1M n = .ok (rng 0 n) := by
  unfold rng1M
  exact chk_pos h _
theorem lcM_ok {α β : Type} (c : α → Bool) (e : α → β) {xs : List α} (h : xs.length ≤ 16000000) : lcM (fun x => .ok (c x)) (fun x => .ok (e x)) xs = .ok ((xs.filter c).map e) := by
  unfold lcM
  rw [if_pos h, compM_ok]
theorem lcM_all {α β : Type} (e : α → β) {xs : List α} (h : xs.length ≤ 16000000) : lcM (fun _ => .ok true) (fun x => .ok (e x)) xs = .ok (xs.map e) := by
  unfold lcM
  rw [if_pos h, compM_all]
theorem lcM_congr {α β : Type} {c c' : α → M Bool} {e e' : α → M β} {xs : List α} (h1 : ∀ x ∈ xs, c x = c' x) (h2 : ∀ x ∈ xs, c x = .ok true → e x = e' x) : lcM c e xs = lcM c' e' xs := by
  unfold lcM
  rw [compM_congr h1 h2]
/-- a loop without a state that only looks -/
theorem forM_all {α τ : Type} {f : α → Unit → M (Ctl Unit τ)} {k : Unit → M τ} : ∀ {xs : List α}, (∀ x ∈ xs, f x () = .ok (.nx ())) → forM f k xs () = k ()
  | [], _ => rfl
  | x :: r, h => by
    rw [forM_cons, h x List.mem_cons_self]
    exact forM_all fun y hy => h y (List.mem_cons_of_mem _ hy)
/-- a loop that always goes on -/
theorem forM_fold {α S τ : Type} {f : α → S → M (Ctl S τ)} {k : S → M τ} {g : S → α → S} (I : S → Prop) : ∀ {xs : List α} {s : S}, I s → (∀ x ∈ xs, ∀ s, I s → f x s = .ok (.nx (g s x)) ∧ I (g s x)) → forM f k xs s = k (xs.foldl g s)
  | [], _, _, _ => rfl
  | x :: r, s, hs, h => by
    rw [forM_cons, (h x List.mem_cons_self s hs).1]
    exact forM_fold I (h x List.mem_cons_self s hs).2 fun y hy => h y (List.mem_cons_of_mem _ hy)
theorem gcd_step (a b : Int) (ha : 0 ≤ a) (hb : 0 ≤ b) : Int.gcd b (a % b) = Int.gcd a b := by
  obtain ⟨m, rfl⟩ := Int.eq_ofNat_of_zero_le ha
  obtain ⟨k, rfl⟩ := Int.eq_ofNat_of_zero_le hb
  show Nat.gcd k (m % k) = Nat.gcd m k
  rw [Nat.gcd_comm m k, Nat.gcd_rec k m, Nat.gcd_comm]
/-- a loop that always goes on: what is told of what it has met -/
theorem forM_ex {α S τ : Type} {f : α → S → M (Ctl S τ)} {k : S → M τ} (J : List α → S → Prop) : ∀ (xs pre : List α) (s : S), J pre s →
    (∀ p x s, (p ++ [x]) <+: (pre ++ xs) → J p s → ∃ s', f x s = .ok (.nx s') ∧ J (p ++ [x]) s') → ∃ s', J (pre ++ xs) s' ∧ forM f k xs s = k s'
  | [], pre, s, h, _ => ⟨s, by rw [List.append_nil]; exact h, rfl⟩
  | x :: r, pre, s, h, hs => by
    have e0 : pre ++ x :: r = (pre ++ [x]) ++ r := by simp
    obtain ⟨s', e1, h1⟩ := hs pre x s (by rw [e0]; exact List.prefix_append _ _) h
    obtain ⟨s2, h2, e2⟩ := forM_ex (k := k) J r (pre ++ [x]) s' h1 (by rw [← e0]; exact hs)
    rw [e0]
    exact ⟨s2, h2, by rw [forM_cons, e1]; exact e2⟩
theorem pre_mem {α : Type} {p xs : List α} {x : α} (h : (p ++ [x]) <+: xs) : x ∈ xs := h.subset (List.mem_append_right p (List.mem_singleton.mpr rfl))
theorem pre_len {α : Type} {p xs : List α} {x : α} (h : (p ++ [x]) <+: xs) : p.length < xs.length := by
  have := h.length_le
  simp at this
  omega
theorem cut_sub {α : Type} {xs : List α} {lo hi : Option Int} {x : α} (h : x ∈ cut xs lo hi) : x ∈ xs := List.mem_of_mem_drop (List.mem_of_mem_take h)
theorem cut_len {α : Type} (xs : List α) (lo hi : Option Int) : (cut xs lo hi).length ≤ xs.length := by
  unfold cut
  rw [List.length_take, List.length_drop]
  omega
theorem six_nat {n d : Nat} {i : Nat} (h : i ≤ n) : HT.sIx n d (some (i : Int)) = i := by
  unfold HT.sIx
  dsimp only
  split <;> omega
theorem cut_take {α : Type} (xs : List α) {i : Nat} (h : i ≤ xs.length) : cut xs none (some (i : Int)) = xs.take i := by
  unfold cut
  rw [six_nat h]
  rfl
theorem cut_drop {α : Type} (xs : List α) {i : Nat} (h : i ≤ xs.length) : cut xs (some (i : Int)) none = xs.drop i := by
  unfold cut
  rw [six_nat h]
  show (xs.drop i).take (xs.length - i) = _
  rw [List.take_of_length_le (by rw [List.length_drop]; omega)]
theorem compM_ex {α β : Type} {e : α → M β} {Q : α → β → Prop} : ∀ {xs : List α}, (∀ x ∈ xs, ∃ v, e x = .ok v ∧ Q x v) → ∃ ys, compM (fun _ => .ok true) e xs = .ok ys ∧ ys.length = xs.length ∧ ∀ y ∈ ys, ∃ x ∈ xs, Q x y
  | [], _ => ⟨[], rfl, rfl, fun _ z => nomatch z⟩
  | x :: r, h => by
    obtain ⟨v, ev, hv⟩ := h x List.mem_cons_self
    obtain ⟨ys, e1, e2, e3⟩ := compM_ex fun y hy => h y (List.mem_cons_of_mem x hy)
    refine ⟨v :: ys, ?_, by simp [e2], fun y hy => ?_⟩
    · unfold compM
      rw [ev, e1]
      rfl
    · rcases List.mem_cons.mp hy with z | z
      · exact ⟨x, List.mem_cons_self, z ▸ hv⟩
      · obtain ⟨w, hw, q⟩ := e3 y z
        exact ⟨w, List.mem_cons_of_mem _ hw, q⟩
theorem lcM_ex {α β : Type} {e : α → M β} {Q : α → β → Prop} {xs : List α} (hl : xs.length ≤ 16000000) (h : ∀ x ∈ xs, ∃ v, e x = .ok v ∧ Q x v) : ∃ ys, lcM (fun _ => .ok true) e xs = .ok ys ∧ ys.length = xs.length ∧ ∀ y ∈ ys, ∃ x ∈ xs, Q x y := by
  unfold lcM
  rw [if_pos hl]
  exact compM_ex h
theorem rng_pre {p : List Int} {x : Int} {n : Nat} (h : (p ++ [x]) <+: rng 0 (n : Int)) : x = (p.length : Int) ∧ p.length < n := by
  have hl := pre_len h
  have e : (rng 0 (n : Int)).length = n := by unfold rng; simp
  rw [e] at hl
  refine ⟨?_, hl⟩
  obtain ⟨t, ht⟩ := h
  have h2 : (rng 0 (n : Int))[p.length]? = some x := by rw [← ht]; simp
  unfold rng at h2
  rw [List.getElem?_map] at h2
  obtain ⟨j, hj, e2⟩ := Option.map_eq_some_iff.mp h2
  have hj2 : p.length < (List.range ((n : Int) - 0).toNat).length := (List.getElem?_eq_some_iff.mp hj).1
  rw [List.getElem?_range (by simpa using hl)] at hj
  cases hj
  rw [← e2]
  omega
theorem ixM_last {α : Type} [Rep α] (k : List α) (m : α) : ixM (k ++ [m]) (-1) = .ok m := by
  unfold ixM
  have : atI (k ++ [m]) (-1) = some m := by
    have e : ixN (k ++ [m]).length (-1) = some k.length := by
      unfold ixN
      rw [if_neg (by decide), List.length_append, List.length_singleton]
      rw [if_pos (by omega)]
      congr 1
      omega
    unfold atI
    rw [e]
    simp
  rw [this]
end Mw

set_option Elab.async false
set_option linter.all false
set_option maxRecDepth 100000
set_option maxHeartbeats 2000000
/-! Mw, part H: dicts whose keys are whole numbers. -/
namespace Mw
open PySem L2
open Rep (rp)
structure Dc (α : Type) where
  kvs : List (Int × α)
def dlook {α : Type} (k : Int) (d : List (Int × α)) : Option α := (d.find? fun p => decide (p.1 = k)).map (·.2)
def dput {α : Type} (d : List (Int × α)) (k : Int) (x : α) : List (Int × α) := if (d.any fun p => decide (p.1 = k)) = true then d.map (fun p => if p.1 = k then (p.1, x) else p) else d ++ [(k, x)]
def dmerge {α : Type} (d more : List (Int × α)) : List (Int × α) := more.foldl (fun a p => dput a p.1 p.2) d
abbrev DRel (K : PySem.W.Frag) {α : Type} [Rep α] (H : Hp) : List (Key × V) → List (Int × α) → Prop := Paired fun q p => q.1 = Sum.inl p.1 ∧ rp K H q.2 p.2
theorem drel_mo {K : PySem.W.Frag} {α : Type} [Rep α] {H H' : Hp} (e : Ex H H') : ∀ {vs : List (Key × V)} {d : List (Int × α)}, DRel K H vs d → DRel K H' vs d
  | _, _, .nil => .nil
  | _, _, .cons h t => .cons ⟨h.1, Rep.mo e h.2⟩ (drel_mo e t)
instance {α : Type} [Rep α] : Rep (Dc α) := ⟨fun K H v x => ∃ a vs, v = .ref a ∧ H a = some (.dK vs) ∧ DRel K H vs x.kvs, fun e ⟨a, vs, h1, h2, h3⟩ => ⟨a, vs, h1, e _ _ h2, drel_mo e h3⟩⟩
instance {α : Type} [Rep α] : Obj (Dc α) where
  ho := fun K H o x => ∃ vs, o = .dK vs ∧ DRel K H vs x.kvs
  mo := fun e ⟨vs, h1, h2⟩ => ⟨vs, h1, drel_mo e h2⟩
  rep := fun {K H p o x} e ⟨vs, h1, h2⟩ => by subst h1; exact ⟨p, vs, rfl, e, h2⟩
  nt := fun {K H o x} ⟨vs, h1, _⟩ => by subst h1; exact ⟨(fun _ z => nomatch z), (fun _ _ z => nomatch z)⟩
section
variable {K : PySem.W.Frag} {α : Type} [Rep α] {H : Hp}
theorem key_dec {q : Key × V} {p : Int × α} (h : q.1 = Sum.inl p.1) (k : Int) : decide (q.1 = Sum.inl k) = decide (p.1 = k) := by
  rw [h, key_ll, Bool.eq_iff_iff]
  simp
theorem drel_any (k : Int) : ∀ {vs : List (Key × V)} {d : List (Int × α)}, DRel K H vs d → (vs.any fun q => decide (q.1 = Sum.inl k)) = d.any fun p => decide (p.1 = k)
  | _, _, .nil => rfl
  | _, _, .cons h t => by
    rw [List.any_cons, List.any_cons, drel_any k t, key_dec h.1]
theorem drel_look (k : Int) : ∀ {vs : List (Key × V)} {d : List (Int × α)}, DRel K H vs d → (∀ x, dlook k d = some x → ∃ v, valV vs (Sum.inl k) = some v ∧ rp K H v x) ∧ (dlook k d = none → valV vs (Sum.inl k) = none)
  | _, _, .nil => ⟨(fun x e => nomatch e), (fun _ => rfl)⟩
  | _, _, .cons (a := q) (b := p) (l₁ := vs) (l₂ := d) h t => by
    by_cases e : p.1 = k
    · have e1 : q.1 = Sum.inl k := by rw [h.1, e]
      have e2 : dlook k (p :: d) = some p.2 := by unfold dlook; rw [List.find?_cons, decide_eq_true e] <;> rfl
      rw [e2, valV_pos e1]
      exact ⟨fun x z => ⟨q.2, rfl, by cases z; exact h.2⟩, fun z => nomatch z⟩
    · have e1 : ¬ q.1 = Sum.inl k := by rw [h.1]; exact fun z => e (Sum.inl.inj z)
      have e2 : dlook k (p :: d) = dlook k d := by unfold dlook; rw [List.find?_cons, decide_eq_false e]
      rw [e2, valV_neg e1]
      exact drel_look k t
theorem drel_map {k : Int} {v : V} {x : α} (r : rp K H v x) : ∀ {vs : List (Key × V)} {d : List (Int × α)}, DRel K H vs d → DRel K H (vs.map fun q => if q.1 = Sum.inl k then (q.1, v) else q) (d.map fun p => if p.1 = k then (p.1, x) else p)
  | _, _, .nil => .nil
  | _, _, .cons (a := q) (b := p) h t => by
    refine .cons ?_ (drel_map r t)
    by_cases e : p.1 = k
    · have e1 : q.1 = Sum.inl k := by rw [h.1, e]
      dsimp only
      rw [if_pos e, if_pos e1]
      exact ⟨h.1, r⟩
    · have e1 : ¬ q.1 = Sum.inl k := by rw [h.1]; exact fun z => e (Sum.inl.inj z)
      dsimp only
      rw [if_neg e, if_neg e1]
      exact h
theorem drel_put {k : Int} {v : V} {x : α} {vs : List (Key × V)} {d : List (Int × α)} (h : DRel K H vs d) (r : rp K H v x) : DRel K H (putK vs (Sum.inl k) v) (dput d k x) := by
  unfold putK dput
  rw [drel_any k h]
  split
  · exact drel_map r h
  · exact paired_app h (.cons ⟨rfl, r⟩ .nil)
theorem drel_merge : ∀ {ws : List (Key × V)} {e : List (Int × α)} {vs : List (Key × V)} {d : List (Int × α)}, DRel K H ws e → DRel K H vs d → DRel K H (mergeK vs ws) (dmerge d e)
  | _, _, _, _, .nil, h => h
  | _, _, _, _, .cons (a := q) (b := p) g t, h => by
    show DRel K H (mergeK (putK _ q.1 q.2) _) (dmerge (dput _ p.1 p.2) _)
    rw [g.1]
    exact drel_merge t (drel_put h g.2)
theorem drel_len {vs : List (Key × V)} {d : List (Int × α)} (h : DRel K H vs d) : vs.length = d.length := Paired.length h
theorem drel_keys : ∀ {vs : List (Key × V)} {d : List (Int × α)}, DRel K H vs d → vs.map (·.1) = (d.map (·.1)).map Sum.inl
  | _, _, .nil => rfl
  | _, _, .cons h t => by rw [List.map_cons, List.map_cons, List.map_cons, drel_keys t, h.1]
theorem drel_keyV : ∀ {vs : List (Key × V)} {d : List (Int × α)}, DRel K H vs d → (vs.map fun q => kV q.1) = (d.map (·.1)).map V.int
  | _, _, .nil => rfl
  | _, _, .cons h t => by rw [List.map_cons, List.map_cons, List.map_cons, drel_keyV t, h.1] <;> rfl
theorem pairs_split : ∀ {vs : List V} {xs : List (Int × α)}, Paired (rp K H) vs xs → ∃ ps ws, vs = ps.map V.ref ∧ Paired (fun p kv => SqT K H p [kV kv.1, kv.2]) ps ws ∧ DRel K H ws xs
  | _, _, .nil => ⟨[], [], rfl, .nil, .nil⟩
  | _, _, .cons (b := x) ⟨a, u, w, h1, h2, h3, h4⟩ t => by
    obtain ⟨ps, ws, e, p, d⟩ := pairs_split t
    cases h3
    subst h1 e
    exact ⟨a :: ps, (Sum.inl x.1, w) :: ws, rfl, .cons h2 p, .cons ⟨rfl, h4⟩ d⟩
end
/-- a new object of one's own -/
def ro (K : PySem.W.Frag) {T : Type} [Rep T] [Obj T] : Md T := fun _ H F' H' v r => ∃ p, v = .ref p ∧ H p = none ∧ Own K F' H' p r
instance {K : PySem.W.Frag} {T : Type} [Rep T] [Obj T] : MdMo (ro K (T := T)) := ⟨fun g ⟨p, h1, h2, h3⟩ => ⟨p, h1, ex_back g.hh h2, h3⟩⟩
section
variable {ρ α β γ δ S W τ T : Type} [Rep α] [Rep β] [Rep γ] [Rep δ] [Rep T] [Obj T] {ce : Ce} {E : XK} {K : PySem.W.Frag} {σ : L2.St} {F H F' H' F0 H0 : Hp} {te ta tb tc td ty tx : TE} {tt tu : TT} {md : Md ρ} {m : M ρ} {D : Ends} {ts tw : TS} {g : TG} {wi : TI} {P : τ → Prop}
/-- a new object may be leant on -/
theorem Ev.ov {m : M T} (h : Ev ce E te σ F H (ro K) m) : Ev ce E te σ F H (rv K) m := by
  intro F1 H1 g Q q
  refine h F1 H1 g Q ?_
  cases m with
  | ok x =>
    rintro F2 H2 v g2 ⟨p, rfl, h1, ⟨u, h3, h4⟩, h2⟩
    refine q (upd F2 p u) H2 (.ref p) ⟨g2.ff.tr (Ex.nw h2), ?_, g2.hh, fun b a1 a2 => ?_⟩ (Obj.rep upd_same (Obj.mo (Ex.nw h2) h4))
    · intro a w e
      by_cases z : a = p
      · subst z; rw [upd_same] at e; rw [h3]; exact e
      · rw [upd_ne z] at e; exact g2.fh a w e
    · have : b ≠ p := fun z => by subst z; exact a2 h1
      rw [upd_ne this]; exact g2.nw b a1 a2
  | er c => exact q
  | bad => exact q
/-- x = a new object of one's own -/
theorem s_asgO {i : Nat} {m1 : M T} {k : T → M τ} (G : Gr F0 H0 F H) (q : Wp ce E H0 (m1.bind k) P) (h : Ev ce E te σ F H (ro K) m1)
    (c : ∀ x F1 H1 p, Gr F H F1 H1 → H p = none → Own K F1 H1 p x → Wp ce E H0 (k x) P → D.nx (σ.set i (some (.ref p))) H1) : tAsg te (gName i) D σ H := by
  refine h F H (Gr.rf G.fh) _ ?_
  cases m1 with
  | ok x =>
    rintro F1 H1 v g ⟨p, rfl, h1, o⟩
    exact c x F1 H1 p g h1 o q
  | er cc => exact fun H' e => q H' (G.hh.tr e)
  | bad => exact q
theorem em_dnew : Ev ce E tDNewK σ F H (ro K) (.ok (⟨[]⟩ : Dc α)) := fun F1 H1 g1 Q q p np =>
  q F1 _ _ (Gr.own g1.fh np) ⟨p, rfl, np, ⟨_, upd_same, [], rfl, .nil⟩, ex_back g1.fh np⟩
theorem a_dictP {xs : List (Int × α)} : OpA ce E (RC K R0) (fun xs H Q => ∃ (a : Addr) (ps : List Addr) (kvs : List (Key × V)), xs = [.ref a] ∧ SqL K H a (ps.map V.ref) ∧ Paired (fun p kv => SqT K H p [kV kv.1, kv.2]) ps kvs ∧
    ∀ p, H p = none → Q (.ref p) (upd H p (.dK (mergeK [] kvs)))) (ro K) (xs, ()) (.ok (⟨dmerge [] xs⟩ : Dc α)) := fun F1 H1 vs e ⟨v, r, e1, ⟨a, us, h1, h2, h3⟩, e3⟩ Q q => by
  cases e3
  subst e1 h1
  obtain ⟨ps, ws, rfl, hp, hd⟩ := pairs_split h3
  refine ⟨a, ps, ws, rfl, SqL.of (e _ _ h2), Paired.mapP hp fun p kv h => ex_t e h, fun p np => ?_⟩
  exact q F1 _ _ (Gr.own e np) ⟨p, rfl, np, ⟨_, upd_same, _, rfl, drel_merge hd .nil⟩, ex_back e np⟩
theorem a_dictD {d : Dc α} : OpA ce E (RC K R0) (fun xs H Q => ∃ (a : Addr) (kvs : List (Key × V)), xs = [.ref a] ∧ Rd H a (.dK kvs) ∧ ∀ p, H p = none → Q (.ref p) (upd H p (.dK kvs))) (ro K) (d, ()) (.ok d) := fun F1 H1 vs e ⟨v, r, e1, ⟨a, us, h1, h2, h3⟩, e3⟩ Q q => by
  cases e3
  subst e1 h1
  exact ⟨a, us, rfl, .inl (e _ _ h2), fun p np => q F1 _ _ (Gr.own e np) ⟨p, rfl, np, ⟨_, upd_same, _, rfl, h3⟩, ex_back e np⟩⟩
theorem a_listD {d : Dc α} : OpA ce E (RC K R0) (fun xs H Q => ∃ (a : Addr) (kvs : List (Key × V)), xs = [.ref a] ∧ Rd H a (.dK kvs) ∧ ∀ p, H p = none → Q (.ref p) (upd H p (.lst (kvs.map fun kv => kV kv.1)))) (rn K) (d, ()) (.ok (d.kvs.map (·.1))) := fun F1 H1 vs e ⟨v, r, e1, ⟨a, us, h1, h2, h3⟩, e3⟩ Q q => by
  cases e3
  subst e1 h1
  refine ⟨a, us, rfl, .inl (e _ _ h2), fun p np => ?_⟩
  rw [drel_keyV h3]
  exact q F1 _ _ (Gr.own e np) ⟨p, _, rfl, np, ex_back e np, upd_same, rep_int _⟩
noncomputable def sortDM {α : Type} (d : Dc α) : M (List Int) := chk (d.kvs.length < 64) (sortI (d.kvs.map (·.1)))
theorem a_sortedD {d : Dc α} : OpA ce E (RC K R0) (fun xs H Q => ∃ (a : Addr) (kvs : List (Key × V)) (ks : List Int), xs = [.ref a] ∧ Rd H a (.dK kvs) ∧ kvs.map (·.1) = ks.map Sum.inl ∧ ks.length < 64 ∧
    ∀ (ys : List Int) (p : Addr), ys.Perm ks → ys.Pairwise (· ≤ ·) → H p = none → Q (.ref p) (upd H p (.lst (ys.map V.int)))) (rn K) (d, ()) (sortDM d) := fun F1 H1 vs e ⟨v, r, e1, ⟨a, us, h1, h2, h3⟩, e3⟩ Q q => by
  cases e3
  subst e1 h1
  unfold sortDM chk at q
  split at q
  · rename_i hl
    refine ⟨a, us, d.kvs.map (·.1), rfl, .inl (e _ _ h2), drel_keys h3, by rw [List.length_map]; exact hl, fun ys p hp hs np => ?_⟩
    have : ys = sortI (d.kvs.map (·.1)) := sorted_same (hp.trans (sortI_perm _).symm) hs (sortI_sorted _)
    subst this
    exact q F1 _ _ (Gr.own e np) ⟨p, _, rfl, np, ex_back e np, upd_same, rep_int _⟩
  · exact q.elim
theorem a_lenD {d : Dc α} : OpA ce E (RC K R0) (fun xs H Q => ∃ a kvs, xs = [V.ref a] ∧ H a = some (.dK kvs) ∧ Q (.int kvs.length) H) (rv K) (d, ()) (.ok (d.kvs.length : Int)) := fun F1 H1 vs e ⟨v, r, e1, ⟨a, us, h1, h2, h3⟩, e3⟩ Q q => by
  cases e3
  subst e1 h1
  refine ⟨a, us, rfl, e _ _ h2, ?_⟩
  rw [drel_len h3]
  exact q F1 H1 _ (Gr.rf e) rfl
def dgetM {α : Type} (d : Dc α) (k : Int) : M α := match dlook k d.kvs with
  | some x => .ok x
  | none => .bad
/-- d[k] -/
theorem em_dget {m1 : M (Dc α)} {m2 : M Int} (ha : Ev ce E td σ F H (rv K) m1) (hb : Ev ce E ty σ F H (rv K) m2) : Ev ce E (tDGet td ty) σ F H (rv K) (m1.bind fun d => m2.bind fun k => dgetM d k) := fun F1 H1 g1 Q q => by
  refine ha F1 H1 g1 _ ?_
  cases m1 with
  | ok d =>
    rintro F2 H2 vx g2 ⟨a, vs, e1, e2, e3⟩
    refine hb F2 H2 (g1.tr g2) _ ?_
    cases m2 with
    | ok k =>
      rintro F3 H3 vk g3 rfl
      have q' : Post ce (rv K) (dgetM d k) F1 H1 Q E := q
      unfold dgetM at q'
      split at q'
      · rename_i x hx
        obtain ⟨v, hv, r⟩ := (drel_look k (drel_mo g3.ff e3)).1 x hx
        refine ⟨a, v, e1, ?_, q' F3 H3 v (g2.tr g3) r⟩
        have := DGet.k (k := Sum.inl k) (g3.hh _ _ (g2.fh _ _ e2))
        rw [hv] at this
        exact this
      · exact q'.elim
    | er c => exact fun H' e => q H' (g2.hh.tr e)
    | bad => exact q
  | er c => exact q
  | bad => exact q
/-- d.get(k, x) -/
theorem em_dget2 {m1 : M (Dc α)} {m2 : M Int} {m3 : M α} (ha : Ev ce E td σ F H (rv K) m1) (hb : Ev ce E ty σ F H (rv K) m2) (hc : Ev ce E tx σ F H (rv K) m3) :
    Ev ce E (tDGet2 td ty tx) σ F H (rv K) (m1.bind fun d => m2.bind fun k => m3.bind fun x => .ok ((dlook k d.kvs).getD x)) := fun F1 H1 g1 Q q => by
  refine ha F1 H1 g1 _ ?_
  cases m1 with
  | ok d =>
    rintro F2 H2 vx g2 ⟨a, vs, e1, e2, e3⟩
    refine ⟨a, e1, .inl ⟨vs, .inl (g2.fh _ _ e2)⟩, hb F2 H2 (g1.tr g2) _ ?_⟩
    cases m2 with
    | ok k =>
      rintro F3 H3 vk g3 rfl
      refine hc F3 H3 ((g1.tr g2).tr g3) _ ?_
      cases m3 with
      | ok x =>
        intro F4 H4 v4 g4 r4
        refine ⟨_, DGet.k (k := Sum.inl k) (g4.hh _ _ (g3.hh _ _ (g2.fh _ _ e2))), ?_⟩
        have hl := drel_look k (drel_mo (g3.ff.tr g4.ff) e3)
        cases hd : dlook k d.kvs with
        | some y =>
          obtain ⟨v, hv, r⟩ := hl.1 y hd
          rw [hv]
          refine q F4 H4 v ((g2.tr g3).tr g4) ?_
          rw [hd]
          exact r
        | none =>
          rw [hl.2 hd]
          refine q F4 H4 v4 ((g2.tr g3).tr g4) ?_
          rw [hd]
          exact r4
      | er c => exact fun H' e => q H' ((g2.tr g3).hh.tr e)
      | bad => exact q
    | er c => exact fun H' e => q H' (g2.hh.tr e)
    | bad => exact q
  | er c => exact q
  | bad => exact q
/-- k in d, k not in d -/
theorem em_din {m1 : M (Dc α)} {m2 : M Int} (hb : Ev ce E ty σ F H (rv K) m2) (ha : Ev ce E td σ F H (rv K) m1) : Ev ce E (tDIn ty td) σ F H (rv K) (m2.bind fun k => m1.bind fun d => .ok (dlook k d.kvs).isSome) := fun F1 H1 g1 Q q => by
  refine hb F1 H1 g1 _ ?_
  cases m2 with
  | ok k =>
    rintro F2 H2 vk g2 rfl
    refine ha F2 H2 (g1.tr g2) _ ?_
    cases m1 with
    | ok d =>
      rintro F3 H3 vx g3 ⟨a, vs, e1, e2, e3⟩
      refine ⟨a, _, e1, DGet.k (k := Sum.inl k) (g3.fh _ _ e2), ?_⟩
      have hl := drel_look k e3
      refine q F3 H3 _ (g2.tr g3) ?_
      show V.bl _ = V.bl _
      cases hd : dlook k d.kvs with
      | some y =>
        obtain ⟨v, hv, r⟩ := hl.1 y hd
        rw [hv] <;> rfl
      | none => rw [hl.2 hd] <;> rfl
    | er c => exact fun H' e => q H' (g2.hh.tr e)
    | bad => exact q
  | er c => exact q
  | bad => exact q
theorem em_dnotin {m1 : M (Dc α)} {m2 : M Int} (hb : Ev ce E ty σ F H (rv K) m2) (ha : Ev ce E td σ F H (rv K) m1) : Ev ce E (tDNotIn ty td) σ F H (rv K) (m2.bind fun k => m1.bind fun d => .ok (!(dlook k d.kvs).isSome)) := fun F1 H1 g1 Q q => by
  refine hb F1 H1 g1 _ ?_
  cases m2 with
  | ok k =>
    rintro F2 H2 vk g2 rfl
    refine ha F2 H2 (g1.tr g2) _ ?_
    cases m1 with
    | ok d =>
      rintro F3 H3 vx g3 ⟨a, vs, e1, e2, e3⟩
      refine ⟨a, _, e1, DGet.k (k := Sum.inl k) (g3.fh _ _ e2), ?_⟩
      have hl := drel_look k e3
      refine q F3 H3 _ (g2.tr g3) ?_
      show V.bl _ = V.bl _
      cases hd : dlook k d.kvs with
      | some y =>
        obtain ⟨v, hv, r⟩ := hl.1 y hd
        rw [hv] <;> rfl
      | none => rw [hl.2 hd] <;> rfl
    | er c => exact fun H' e => q H' (g2.hh.tr e)
    | bad => exact q
  | er c => exact q
  | bad => exact q
noncomputable def dputM {α : Type} (d : Dc α) (k : Int) (x : α) : M (Dc α) := chk (d.kvs.length < 16000000) ⟨dput d.kvs k x⟩
/-- d[k] = e: the value first, then the key; both may read what is one's own -/
theorem s_dput (A : List Addr) {i : Nat} {p : Addr} {d : Dc α} {m1 : M α} {m2 : M Int} {k : Dc α → M τ} [Flat α] (hp : σ[i]? = some (some (.ref p))) (o : Own K F H p d) (n0 : H0 p = none) (G : Gr F0 H0 F H)
    (q : Wp ce E H0 (m1.bind fun x => m2.bind fun y => (dputM d y x).bind k) P) (hF : ∀ p ∈ A, F p = none) (hA : ∀ p ∈ A, ∃ o, H p = some o ∧ NoTup o) (h : Ev ce E te σ (fz F H A) H (rv K) m1) (hk : Ev ce E ty σ (fz F H A) H (rv K) m2)
    (c : ∀ d' F1 H1, Ex F F1 → Gr F0 H0 F1 H1 → Own K F1 H1 p d' → (∀ (T : Type) [Rep T] [Obj T] (q : Addr) (z : T), q ≠ p → Own K F H q z → Own K F1 H1 q z) → Wp ce E H0 (k d') P → D.nx σ H1) :
    sDPut (tVar i) ty te D σ H := by
  obtain ⟨⟨u, h1, vs, h2, h3⟩, hf⟩ := o
  subst h2
  have hA' : ∀ p ∈ A, H p ≠ none := fun p m => by obtain ⟨o, e, _⟩ := hA p m; rw [e]; exact fun z => nomatch z
  refine h _ H (Gr.rf (fz_h G.fh)) _ ?_
  cases m1 with
  | ok x =>
    intro F1 H1 v g0 r0
    refine ⟨.ref p, hp, hk F1 H1 g0 _ ?_⟩
    have q2 : Wp ce E H0 (m2.bind fun y => (dputM d y x).bind k) P := q
    cases m2 with
    | ok y =>
      rintro F2 H2 vy g1 rfl
      have gg := g0.tr g1
      have g := gr_th hF hA' G.fh gg
      have r : rp K (th F2 A) v x := Flat.fl (th_of hA gg) (Rep.mo g1.ff r0)
      have w' : Wp ce E H0 ((dputM d y x).bind k) P := q2
      unfold dputM chk at w'
      split at w'
      · rename_i hl
        refine ⟨p, _, rfl, DPut.k (k := Sum.inl y) (g.hh _ _ h1) ?_, ?_⟩
        · rw [drel_len h3, sizeLine_eq]; omega
        · have hf1 : th F2 A p = none := g.nw p hf (by rw [h1]; exact fun z => nomatch z)
          exact c _ _ _ g.ff (Gr.mut (G.tr g) n0 hf1) ⟨⟨_, upd_same, _, rfl, drel_put (drel_mo g.ff h3) r⟩, hf1⟩ (fun T _ _ q z hq o => (o.mo g).upd hq) w'
      · exact w'.elim
    | er cc => exact fun H' e => q2 H' ((G.hh.tr g0.hh).tr e)
    | bad => exact q2
  | er cc => exact fun H' e => q H' (G.hh.tr e)
  | bad => exact q
theorem q_asgO {t2 : TS} {i : Nat} {m1 : M T} {k : T → M τ} (G : Gr F0 H0 F H) (q : Wp ce E H0 (m1.bind k) P) (h : Ev ce E te σ F H (ro K) m1)
    (c : ∀ x F1 H1 p, Gr F H F1 H1 → H p = none → Own K F1 H1 p x → Wp ce E H0 (k x) P → t2 D (σ.set i (some (.ref p))) H1) : tSeq (tAsg te (gName i)) t2 D σ H := s_asgO (D := { D with nx := t2 D }) G q h c
theorem q_dput {t2 : TS} (A : List Addr) {i : Nat} {p : Addr} {d : Dc α} {m1 : M α} {m2 : M Int} {k : Dc α → M τ} [Flat α] (hp : σ[i]? = some (some (.ref p))) (o : Own K F H p d) (n0 : H0 p = none) (G : Gr F0 H0 F H)
    (q : Wp ce E H0 (m1.bind fun x => m2.bind fun y => (dputM d y x).bind k) P) (hF : ∀ p ∈ A, F p = none) (hA : ∀ p ∈ A, ∃ o, H p = some o ∧ NoTup o) (h : Ev ce E te σ (fz F H A) H (rv K) m1) (hk : Ev ce E ty σ (fz F H A) H (rv K) m2)
    (c : ∀ d' F1 H1, Ex F F1 → Gr F0 H0 F1 H1 → Own K F1 H1 p d' → (∀ (T : Type) [Rep T] [Obj T] (q : Addr) (z : T), q ≠ p → Own K F H q z → Own K F1 H1 q z) → Wp ce E H0 (k d') P → t2 D σ H1) :
    tSeq (sDPut (tVar i) ty te) t2 D σ H := s_dput (D := { D with nx := t2 D }) A hp o n0 G q hF hA h hk c
end
end Mw

set_option Elab.async false
set_option linter.all false
set_option maxRecDepth 100000
set_option maxHeartbeats 2000000
/-! Mw, part I: enumerate, zip, reversed; try and what a suite asks of the error. -/
namespace Mw
open PySem L2
open Rep (rp)
abbrev ixS (x : Scr) (i : Int) : M Int := ixM x.l i
def enumL {α : Type} (xs : List α) : List (Int × α) := xs.zipIdx.map fun p => ((p.2 : Int), p.1)
theorem enumL_get {α : Type} (xs : List α) (i : Nat) (p : Int × α) (h : (enumL xs)[i]? = some p) : p.1 = (i : Int) ∧ xs[i]? = some p.2 := by
  unfold enumL at h
  rw [List.getElem?_map, List.getElem?_zipIdx] at h
  cases e : xs[i]? with
  | none => rw [e] at h; cases h
  | some x =>
    rw [e] at h
    cases h
    exact ⟨by simp, rfl⟩
theorem enumL_len {α : Type} (xs : List α) : (enumL xs).length = xs.length := by unfold enumL; simp
theorem zip_get {α β : Type} (xs : List α) (ys : List β) (i : Nat) (p : α × β) (h : (xs.zip ys)[i]? = some p) : xs[i]? = some p.1 ∧ ys[i]? = some p.2 := by
  rw [List.getElem?_zip_eq_some] at h
  exact h
section
variable {ρ α β γ δ S τ : Type} [Rep α] [Rep β] [Rep γ] [Rep δ] {ce : Ce} {E : XK} {K : PySem.W.Frag} {σ : L2.St} {F H F' H' F0 H0 : Hp} {te ta tb tc td : TE} {tt tu : TT} {md : Md ρ} {m : M ρ} {D : Ends} {ts tw : TS} {g : TG} {wi : TI} {P : τ → Prop}
theorem ei_enum {m : M (List α)} (h : Ev ce E te σ F H (rv K) m) : EvI ce E K (iEnum K (tCons te tNil)) σ F H (m.bind fun x => .ok (enumL x)) := fun F1 H1 g1 R q => by
  refine h F1 H1 g1 _ ?_
  cases m with
  | ok xs =>
    rintro F2 H2 v g2 ⟨a, vs, rfl, h2, h3⟩
    refine ⟨a, vs, rfl, SqL.of (g2.fh _ _ h2), q F2 H2 _ g2 fun i H e => ?_⟩
    have hl := Paired.length h3
    refine ⟨fun x hx => ?_, fun hi => ⟨vs, SqL.of (e _ _ h2), by rw [enumL_len] at hi; omega⟩⟩
    obtain ⟨e1, e2⟩ := enumL_get xs i x hx
    obtain ⟨w, hw, rw'⟩ := paired_get h3 e2
    refine ⟨⟨vs, w, SqL.of (e _ _ h2), hw⟩, fun v H' ⟨T, y, ev, nT, eH, hy⟩ F1' f1 f2 => ?_⟩
    have : some w = some y := hw.symm.trans (hy vs (SqL.of (e _ _ h2)))
    cases this
    subst ev eH
    refine ⟨_, Gr.new f2 nT, T, .int (i : Nat), w, rfl, SqT.of upd_same, ?_, Rep.mo (f1.tr (Ex.nw (ex_back f2 nT))) rw'⟩
    show V.int _ = V.int _
    rw [e1]
  | er c => exact q
  | bad => exact q
theorem ei_zip {m : M (List α)} {m2 : M (List β)} (h : Ev ce E ta σ F H (rv K) m) (h' : Ev ce E tb σ F H (rv K) m2) : EvI ce E K (iZip K (tCons ta (tCons tb tNil))) σ F H (m.bind fun x => m2.bind fun y => .ok (x.zip y)) := fun F1 H1 g1 R q => by
  refine h F1 H1 g1 _ ?_
  cases m with
  | ok xs =>
    rintro F2 H2 v g2 ⟨a, vs, rfl, h2, h3⟩
    refine h' F2 H2 (g1.tr g2) _ ?_
    cases m2 with
    | ok ys =>
      rintro F3 H3 v g3 ⟨b, ws, rfl, k2, k3⟩
      have h2' := g3.ff _ _ h2
      refine ⟨a, b, vs, ws, rfl, SqL.of (g3.fh _ _ h2'), SqL.of (g3.fh _ _ k2), q F3 H3 _ (g2.tr g3) fun i H e => ?_⟩
      have hl := Paired.length h3
      have hl2 := Paired.length k3
      refine ⟨fun x hx => ?_, fun hi => ⟨vs, ws, SqL.of (e _ _ h2'), SqL.of (e _ _ k2), by rw [List.length_zip] at hi; omega⟩⟩
      obtain ⟨e1, e2⟩ := zip_get xs ys i x hx
      obtain ⟨w1, hw1, r1⟩ := paired_get h3 e1
      obtain ⟨w2, hw2, r2⟩ := paired_get k3 e2
      refine ⟨⟨vs, ws, w1, w2, SqL.of (e _ _ h2'), SqL.of (e _ _ k2), hw1, hw2⟩, fun v H' ⟨T, y1, y2, ev, nT, eH, hy1, hy2⟩ F1' f1 f2 => ?_⟩
      have z1 : some w1 = some y1 := hw1.symm.trans (hy1 vs (SqL.of (e _ _ h2')))
      have z2 : some w2 = some y2 := hw2.symm.trans (hy2 ws (SqL.of (e _ _ k2)))
      cases z1
      cases z2
      subst ev eH
      have ee := Ex.nw (o := .tup [w1, w2]) (ex_back f2 nT)
      exact ⟨_, Gr.new f2 nT, T, w1, w2, rfl, SqT.of upd_same, Rep.mo ((g3.ff.tr f1).tr ee) r1, Rep.mo (f1.tr ee) r2⟩
    | er c => exact fun H' e => q H' (g2.hh.tr e)
    | bad => exact q
  | er c => exact q
  | bad => exact q
theorem ei_rev {m : M (List α)} (h : Ev ce E te σ F H (rv K) m) : EvI ce E K (iRev K (tCons te tNil)) σ F H (m.bind fun x => .ok x.reverse) := fun F1 H1 g1 R q => by
  refine h F1 H1 g1 _ ?_
  cases m with
  | ok xs =>
    rintro F2 H2 v g2 ⟨a, vs, rfl, h2, h3⟩
    refine ⟨a, vs, rfl, SqL.of (g2.fh _ _ h2), q F2 H2 _ g2 fun i H e => ?_⟩
    have hl := Paired.length h3
    refine ⟨fun x hx => ?_, fun hi => by rw [List.length_reverse] at hi; show vs.length ≤ i; omega⟩
    have hi : i < xs.length := by
      have := (List.getElem?_eq_some_iff.mp hx).1
      rw [List.length_reverse] at this
      exact this
    rw [List.getElem?_reverse hi] at hx
    obtain ⟨w, hw, rw'⟩ := paired_get h3 hx
    have hw' : vs[vs.length - 1 - i]? = some w := by rw [hl]; exact hw
    refine ⟨⟨by omega, vs, w, SqL.of (e _ _ h2), hw'⟩, fun v H' ⟨eH, hy⟩ F1' f1 f2 => ?_⟩
    have : some w = some v := hw'.symm.trans (hy vs (SqL.of (e _ _ h2)))
    cases this
    subst eH
    exact ⟨_, Gr.rf f2, Rep.mo f1 rw'⟩
  | er c => exact q
  | bad => exact q

/-! ### try -/
def catchM {α τ : Type} (m : M α) (h : Err → M τ) (k : α → M τ) : M τ := match m with
  | .ok x => k x
  | .er c => h c
  | .bad => .bad
@[simp] theorem catch_ok {α τ : Type} (x : α) (h : Err → M τ) (k : α → M τ) : catchM (.ok x) h k = k x := rfl
@[simp] theorem catch_er {α τ : Type} (c : Err) (h : Err → M τ) (k : α → M τ) : catchM (.er c) h k = h c := rfl
theorem s_try {W : WX} {tb : WX → TS} {m : M α} {h : Err → M τ} {k : α → M τ} (q : Wp ce E H0 (catchM m h k) P) (hh : ∀ c H', Ex H H' → Wp ce E H0 (h c) P → W (.ref (ce c.name)) none σ H')
    (hb : ∀ P' : α → Prop, (∀ x, P' x → Wp ce E H0 (k x) P) → Wp ce (WE W σ) H m P' → tb W D σ H) : tb W D σ H := by
  refine hb (fun x => Wp ce E H0 (k x) P) (fun x p => p) ?_
  cases m with
  | ok x => exact q
  | er c => exact fun H' e => hh c H' e q
  | bad => exact q
/-- a call within a try's body -/
theorem e_callT [MdMo md] {W : WX} {ta : TA} {x : α} {R : Hp → List V → α → Prop} {f : α → M ρ} (ha : EvAM ce (WE W σ) ta σ F H (.ok x) R) : Ev ce (WE W σ) (tCallS (SpF ce R md f) (WE W) ta) σ F H md (f x) := fun F1 H1 g1 Q q =>
  ha F1 H1 g1 _ fun F2 H2 vs g2 r2 => ⟨F2, x, g2.fh, r2, Post.mo g2 q⟩
theorem em_callT [MdMo md] {W : WX} {ta : TA} {m1 : M α} {R : Hp → List V → α → Prop} {f : α → M ρ} (ha : EvAM ce (WE W σ) ta σ F H m1 R) : Ev ce (WE W σ) (tCallS (SpF ce R md f) (WE W) ta) σ F H md (m1.bind fun x => f x) := fun F1 H1 g1 Q q => by
  refine ha F1 H1 g1 _ ?_
  cases m1 with
  | ok x => exact fun F2 H2 vs g2 r2 => ⟨F2, x, g2.fh, r2, Post.mo g2 q⟩
  | er c => exact q
  | bad => exact q
/-- the suite's reading, for an error of a class C that isinstance may be asked of -/
def tsOf (K : PySem.W.Frag) (t1 : Addr → Addr → TS) : Addr → Value → Option Addr → TS := fun a cls d D σ H => ∃ C, cls = .ref C ∧ d = none ∧ ExcC K C ∧ t1 C a D σ H
theorem suite_by {X : Cx} {suite : List Stmt} {t1 : Addr → Addr → TS} (h : ∀ (C a : Addr) (oe : PySem.Obj) (pn : List (Addr × PySem.Obj)), ExcC X.K C → Zc (.ref C) none oe → (∃ vs, oe.data = .fields vs) → PSs (X.suite a ((a, oe) :: pn)) suite (t1 C a))
    (a : Addr) (oe : PySem.Obj) (cls : Value) (d : Option Addr) (pn : List (Addr × PySem.Obj)) (hz : Zc cls d oe) (hf : ∃ vs, oe.data = .fields vs) : PSs (X.suite a ((a, oe) :: pn)) suite (tsOf X.K t1 a cls d) := by
  refine ⟨fun pins s σ H D I hh => ?_⟩
  obtain ⟨C, rfl, rfl, ex, hh⟩ := hh
  exact (h C a oe pn ex hz hf).run pins s σ H D I hh
theorem e_isE {i : Nat} {C a : Addr} {c : V} {cv : Value} {b : Bool} (hs : σ[i]? = some (some (.ref a))) (hc : ∀ u, RelV c u → u = cv) (hk : PySem.W.kitOne K (.ref C) cv = some b) : Ev ce E (tCB (rIsE K C a) (tCons (tVar i) (tCons (tC c) tNil))) σ F H (rv K) (.ok b) := fun F1 H1 g1 Q q =>
  ⟨.ref a, hs, c, cv, b, rfl, hc, hk, q F1 H1 _ (Gr.rf g1.fh) rfl⟩
/-- isinstance(e, (c1, c2, ..)) -/
def rIsET (K : PySem.W.Frag) (D a : Addr) : List V → Hp → VK → Prop := fun xs H Q => ∃ (tp : Addr) (cs : List V) (us : List Value) (b : Bool), xs = [.ref a, .ref tp] ∧ H tp = some (.tup cs) ∧ Paired ClsV cs us ∧ PySem.W.kitAny K (.ref D) us = some b ∧ Q (.bl b) H
theorem call_isET {X : Cx} {a D : Addr} {oe : PySem.Obj} {pn : List (Addr × PySem.Obj)} (C : ExcC X.K D) (hz : Zc (.ref D) none oe) (hf : ∃ vs, oe.data = .fields vs) : CallR (X.suite a ((a, oe) :: pn)) (.builtin "isinstance") (rIsET X.K D a) := by
  intro pins s σ H xs us Q I r h
  obtain ⟨tp, cs, ws, b, rfl, hT, k, e, q⟩ := h
  obtain ⟨u1, u2, rfl, r1, r2⟩ := vals2 r
  cases (show u1 = Value.ref a from r1)
  cases (show u2 = Value.ref tp from r2)
  obtain ⟨hget, _⟩ := I.pin (a, oe) (List.mem_append.mpr (.inl List.mem_cons_self))
  obtain ⟨vs, hv⟩ := hf
  have J : PySem.W.InstAt s.heap a oe D none := by
    obtain ⟨oc, od, oda, osl⟩ := oe
    obtain ⟨h1, h2⟩ := hz
    dsimp only at h1 h2 hv
    subst h1 h2 hv
    exact ⟨hget, rfl, rfl, trivial⟩
  obtain ⟨_, its, rv, o, h1, h2, n, h3⟩ := (show ObjOk X.prog X.w H s.heap tp (.tup cs) from I.hok tp _ hT)
  have e3 := ClsV.all k rv
  subst e3
  obtain ⟨oc, od, dt, sl⟩ := o
  simp only at h2 h3
  subst h2 h3
  exact PySem.W.kia_tup (PySem.W.handS_kitx_exc C.hg C.hk C.hs C.hd C.ha C.hn C.ht C.hm) I.kIn J h1 e (fun z => nomatch z) fun tk => ⟨.bl b, H, I.kept (t' := tk) fun _ _ z => z, rfl, q⟩
theorem e_isE2 {i : Nat} {C a : Addr} {c c' : V} {cv cv' : Value} {b : Bool} (hs : σ[i]? = some (some (.ref a))) (h1 : ClsV c cv) (h2 : ClsV c' cv') (hk : PySem.W.kitAny K (.ref C) [cv, cv'] = some b) : Ev ce E (tCB (rIsET K C a) (tCons (tVar i) (tCons (tTup (tCons (tC c) (tCons (tC c') tNil))) tNil))) σ F H (rv K) (.ok b) := fun F1 H1 g1 Q q =>
  ⟨.ref a, hs, by show 2 ≤ sizeLine; decide, fun tp np => ⟨tp, [c, c'], [cv, cv'], b, rfl, upd_same, .cons h1 (.cons h2 .nil), hk, q _ _ _ (Gr.new g1.fh np) rfl⟩⟩
theorem e_isE3 {i : Nat} {C a : Addr} {c c' c2 : V} {cv cv' cv2 : Value} {b : Bool} (hs : σ[i]? = some (some (.ref a))) (h1 : ClsV c cv) (h2 : ClsV c' cv') (h3 : ClsV c2 cv2) (hk : PySem.W.kitAny K (.ref C) [cv, cv', cv2] = some b) : Ev ce E (tCB (rIsET K C a) (tCons (tVar i) (tCons (tTup (tCons (tC c) (tCons (tC c') (tCons (tC c2) tNil)))) tNil))) σ F H (rv K) (.ok b) := fun F1 H1 g1 Q q =>
  ⟨.ref a, hs, by show 3 ≤ sizeLine; decide, fun tp np => ⟨tp, [c, c', c2], [cv, cv', cv2], b, rfl, upd_same, .cons h1 (.cons h2 (.cons h3 .nil)), hk, q _ _ _ (Gr.new g1.fh np) rfl⟩⟩
end
/-- a def that may raise, where what it computes raises nothing -/
theorem fn_quiet {P : Program} {w : World} {K : PySem.W.Frag} {mg : Str → Option Value} {base : Heap} {k : Nat} {f : Addr} {fd : FuncData} {ps : List Str} {sp sp' : Sp} (F : FnOk P w K mg base (L2.CX P w) k f fd ps sp)
    (h : ∀ vs H Q E, sp' vs H Q E → sp vs H Q E0) : FnOk P w K mg base CX0 k f fd ps sp' :=
  ⟨fun vs H Q E q => F.len vs H Q E0 (h _ _ _ _ q), fun A outer s H args us vs Q E hr he hb hv hs => codeAny_mono (F.run A outer s H args us vs Q E0 hr he hb hv (h _ _ _ _ hs)) fun r s' x => by
    cases r with
    | error e =>
      obtain ⟨_, _, _, _, _, _, _, _, _, _, _, _, z⟩ := x
      exact z.elim
    | ok v => cases v <;> exact x⟩
end Mw

set_option Elab.async false
set_option linter.all false
set_option maxRecDepth 100000
set_option maxHeartbeats 2000000
/-! Mw, part J: slices with a step. -/
namespace L2
open PySem PySem.Spec PyProof.Rows
/-- the items of xs[lo:hi:st] -/
def pickV {α : Type} (xs : List α) (lo hi : Option Int) (st : Int) : List α :=
  (sliceRange (PySem.sliceBounds lo hi (some st) xs.length).1 (PySem.sliceBounds lo hi (some st) xs.length).2.1 (PySem.sliceBounds lo hi (some st) xs.length).2.2).filterMap (xs[·]?)
def rSlP (K : PySem.W.Frag) (st : Int) : V → Option Int → Option Int → Hp → VK → Prop := fun x lo hi H Q => ∃ a xs, x = .ref a ∧ SqL K H a xs ∧ ∀ p, H p = none → Q (.ref p) (upd H p (.lst (pickV xs lo hi st)))
theorem vals_pick {xs : List V} {its : List Value} (r : Vals xs its) : ∀ l : List Nat, Vals (l.filterMap (xs[·]?)) (l.filterMap (its[·]?))
  | [] => .nil
  | i :: l => by
    rw [List.filterMap_cons, List.filterMap_cons]
    have h : (xs[i]? = none ∧ its[i]? = none) ∨ ∃ x v, xs[i]? = some x ∧ its[i]? = some v ∧ RelV x v := by
      induction r generalizing i with
      | nil => exact .inl ⟨rfl, rfl⟩
      | cons h t ih =>
        cases i with
        | zero => exact .inr ⟨_, _, rfl, rfl, h⟩
        | succ j => exact ih j
    rcases h with ⟨h1, h2⟩ | ⟨x, v, h1, h2, h3⟩
    · rw [h1, h2]; exact vals_pick r l
    · rw [h1, h2]; exact .cons h3 (vals_pick r l)
section
variable {X : Cx} {e : Expr} {lo hi : Option Expr} {te : TE} {tl th : TO}
theorem pe_sliceS {st : Int} {k : Nat} {p1 p3 pos : Pos} (h0 : st ≠ 0) (he : PE X e te) (hl : PO X lo tl) (hu : PO X hi th) : PE X (.Subscript e (.Slice lo hi (some (.Constant (.int st) k p1)) p3) pos) (tSl (rSlP X.K st) te tl th) := by
  refine ⟨fun pins s σ H Q I h => ?_⟩
  refine Subscript_ (thn (he.run pins s σ H _ I h) fun v s1 ⟨x, H1, I1, r1, q1⟩ => ?_)
  have hst : PO X (some (.Constant (.int st) k p1)) (tPart (tC (.int st))) := po_some pe_int
  refine wpAny_Slice (thn (hl.run pins s1 σ H1 _ I1 q1) fun vl s2 ⟨l, H2, I2, pl, q2⟩ => thn (hu.run pins s2 σ H2 _ I2 q2) fun vu s3 ⟨u, H3, I3, pu, q3⟩ => ?_)
  obtain ⟨a, xs, ex, hx, q⟩ := q3
  subst ex
  cases r1
  refine thn (hst.run pins s3 σ H3 (fun o H4 => o = some st ∧ H4 = H3) I3 ⟨st, rfl, rfl, rfl⟩) fun vs s4 ⟨o, H4, I4, ps, eo, e4⟩ => ?_
  subst eo e4
  have I5 : Inv X pins σ H4 { s4 with heap := s4.heap.push { cls := .type "slice", data := .fields #[vl, vu, vs] } } := I4.kept (t' := s4.toks) fun b ob q => Heap.get?_push_of_some _ q
  obtain ⟨its, r, ht, hz⟩ := I5.list hx
  have hlen := r.length
  show wpAny (model X.prog X.w) X.A (subscriptTail e (.Slice lo hi (some (.Constant (.int st) k p1)) p3) (.ref a) (.ref s4.heap.objs.size)) (EP X pins σ Q) X.xe { s4 with heap := s4.heap.push { cls := .type "slice", data := .fields #[vl, vu, vs] } }
  refine tail_any (ops := [.ref a, .ref s4.heap.objs.size]) ht.isList.typeIs (PySem.slot_list_getitem.lookup) ?_ (by with_unfolding_all rfl)
  refine wpAny_getItem_list_slice ht.isList (Heap.IsSliceOf.new _ vl vu vs) pl pu ps (fun z => h0 (Option.some.inj z)) ?_ (by rw [List.size_toArray]; omega)
  have e1 : slicePick its.toArray l u (some st) = (pickV its l u st).toArray := by
    unfold slicePick pickV
    simp
  rw [e1]
  have r2 : Vals (pickV xs l u st) (pickV its l u st) := by
    unfold pickV
    rw [hlen]
    exact vals_pick r _
  have hle : (pickV xs l u st).length ≤ sizeLine := by
    have := slicePick_size_le its.toArray l u (some st)
    rw [e1, List.size_toArray, List.size_toArray, ← r2.length] at this
    omega
  exact ⟨.ref _, _, I5.laid (t' := s4.toks) (o := .lst (pickV xs l u st)) (fun b ob q => Heap.get?_push_of_some _ q) (Nat.le_refl _) ⟨hle, _, 0, r2, Heap.get?_push_size _ rfl⟩, rfl, q _ (I5.hok.fresh (Nat.le_refl _))⟩
end
end L2
namespace Mw
open PySem L2
open Rep (rp)
theorem paired_pick {α β : Type} {F : α → β → Prop} {vs : List α} {xs : List β} (r : Paired F vs xs) (lo hi : Option Int) (st : Int) : Paired F (pickV vs lo hi st) (pickV xs lo hi st) := by
  unfold pickV
  rw [Paired.length r]
  have go : ∀ l : List Nat, Paired F (l.filterMap (vs[·]?)) (l.filterMap (xs[·]?)) := by
    intro l
    induction l with
    | nil => exact .nil
    | cons i l ih =>
      rw [List.filterMap_cons, List.filterMap_cons]
      cases e : xs[i]? with
      | some x =>
        obtain ⟨w, hw, rw'⟩ := paired_get r e
        rw [hw]
        exact .cons rw' ih
      | none =>
        have : vs[i]? = none := by
          rw [List.getElem?_eq_none_iff] at e ⊢
          have := Paired.length r
          omega
        rw [this]
        exact ih
  exact go _
section
variable {ρ α β γ δ S τ : Type} [Rep α] [Rep β] [Rep γ] [Rep δ] {ce : Ce} {E : XK} {K : PySem.W.Frag} {σ : L2.St} {F H F' H' F0 H0 : Hp} {te ta tb tc td : TE} {md : Md ρ} {m : M ρ}
theorem em_pk {tl th : TO} {st : Int} {m1 : M (List α)} {m2 m3 : M (Option Int)} (ha : Ev ce E ta σ F H (rv K) m1) (hl : EvO ce E tl σ F H m2) (hh : EvO ce E th σ F H m3) :
    Ev ce E (tSl (rSlP K st) ta tl th) σ F H (rn K) (m1.bind fun x => m2.bind fun lo => m3.bind fun hi => .ok (pickV x lo hi st)) := fun F1 H1 g1 Q q => by
  refine ha F1 H1 g1 _ ?_
  cases m1 with
  | ok x =>
    rintro F2 H2 vx g2 ⟨a, vs, e1, e2, e3⟩
    refine hl F2 H2 (g1.tr g2) _ ?_
    cases m2 with
    | ok lo =>
      intro F3 H3 g3
      refine hh F3 H3 ((g1.tr g2).tr g3) _ ?_
      cases m3 with
      | ok hi =>
        intro F4 H4 g4
        refine ⟨a, vs, e1, SqL.of (g4.hh _ _ (g3.hh _ _ (g2.fh _ _ e2))), fun p np => ?_⟩
        exact q F4 _ _ (((g2.tr g3).tr g4).tr (Gr.own g4.fh np)) ⟨p, _, rfl, ex_back ((g2.hh.tr g3.hh).tr g4.hh) np, ex_back g4.fh np, upd_same, paired_pick (paired_mo (g3.ff.tr g4.ff) e3) lo hi st⟩
      | er c => exact fun H' e => q H' ((g2.tr g3).hh.tr e)
      | bad => exact q
    | er c => exact fun H' e => q H' (g2.hh.tr e)
    | bad => exact q
  | er c => exact q
  | bad => exact q
theorem em_pkS {tl th : TO} {st : Int} {x : Scr} {m2 m3 : M (Option Int)} (ha : Ev ce E ta σ F H (rv K) (.ok x)) (hl : EvO ce E tl σ F H m2) (hh : EvO ce E th σ F H m3) :
    Ev ce E (tSl (rSlP K st) ta tl th) σ F H (rn K) (m2.bind fun lo => m3.bind fun hi => .ok (pickV x.l lo hi st)) := fun F1 H1 g1 Q q => by
  refine ha F1 H1 g1 _ ?_
  rintro F2 H2 vx g2 ⟨a, e1, e2⟩
  refine hl F2 H2 (g1.tr g2) _ ?_
  cases m2 with
  | ok lo =>
    intro F3 H3 g3
    refine hh F3 H3 ((g1.tr g2).tr g3) _ ?_
    cases m3 with
    | ok hi =>
      intro F4 H4 g4
      refine ⟨a, _, e1, ex_l ((g2.fh.tr g3.hh).tr g4.hh) e2, fun p np => ?_⟩
      exact q F4 _ _ (((g2.tr g3).tr g4).tr (Gr.own g4.fh np)) ⟨p, _, rfl, ex_back ((g2.hh.tr g3.hh).tr g4.hh) np, ex_back g4.fh np, upd_same, paired_pick (rep_int x.l) lo hi st⟩
    | er c => exact fun H' e => q H' ((g2.tr g3).hh.tr e)
    | bad => exact q
  | er c => exact fun H' e => q H' (g2.hh.tr e)
  | bad => exact q
theorem pick_sub {α : Type} {xs : List α} {lo hi : Option Int} {st : Int} {x : α} (h : x ∈ pickV xs lo hi st) : x ∈ xs := by
  unfold pickV at h
  obtain ⟨i, _, hi⟩ := List.mem_filterMap.mp h
  exact List.mem_of_getElem? hi
end
end Mw

set_option Elab.async false
set_option linter.all false
set_option maxRecDepth 100000
set_option maxHeartbeats 2000000
/-! Mw, part K: try, as statements of the walk. -/
namespace Mw
open PySem L2
open Rep (rp)
def tTryAs (tb : WX → TS) (K : PySem.W.Frag) (c : Value) (i : Nat) (ts : Addr → Value → Option Addr → TS) (Wout : WX) : TS := fun D σ H => tb (wAs K c i ts Wout D) D σ H
def tTryOn (tb : WX → TS) (K : PySem.W.Frag) (c : Value) (ts : Addr → Value → Option Addr → TS) (Wout : WX) : TS := fun D σ H => tb (wOnly K c ts Wout D) D σ H
section
variable {X : Cx} {x n : Str} {c : Value} {i : Nat} {body suite : List Stmt} {b₀ : Stmt} {np pos pos' : Pos} {tb : WX → TS} {ts : Addr → Value → Option Addr → TS} {Wout : WX}
theorem ps_tryA (hs : X.stack = X.env :: X.outer) (hf : X.env.frame = some X.env.locals) (hN : X.N.Nodup) (hi : X.N[i]? = some n) (hln : X.env.kindOf n = some .local) (hc : Names X x c) (tk : Takes X Wout)
    (hb : ∀ (W : WX) (pn : List (Addr × PySem.Obj)) (xe : Value → Shared → Prop), Takes (X.tr pn xe) W → PassesOwn (model X.prog X.w) X.A X.env xe → PSs (X.tr pn xe) body (tb W))
    (hsu : ∀ (a : Addr) (oe : PySem.Obj) (cls : Value) (d : Option Addr) (pn : List (Addr × PySem.Obj)), Zc cls d oe → (∃ vs, oe.data = .fields vs) → PSs (X.suite a ((a, oe) :: pn)) (b₀ :: suite) (ts a cls d)) :
    PS X (.Try body [.ExceptHandler (some (.Name x np)) (some n) (b₀ :: suite) pos'] [] [] pos) (tTryAs tb X.K c i ts Wout) := ps_try_as hs hf hN hi hln hc tk hb hsu
theorem ps_tryO (hs : X.stack = X.env :: X.outer) (hf : X.env.frame = some X.env.locals) (hc : Names X x c) (tk : Takes X Wout)
    (hb : ∀ (W : WX) (pn : List (Addr × PySem.Obj)) (xe : Value → Shared → Prop), Takes (X.tr pn xe) W → PassesOwn (model X.prog X.w) X.A X.env xe → PSs (X.tr pn xe) body (tb W))
    (hsu : ∀ (a : Addr) (oe : PySem.Obj) (cls : Value) (d : Option Addr) (pn : List (Addr × PySem.Obj)), Zc cls d oe → (∃ vs, oe.data = .fields vs) → PSs (X.suite a ((a, oe) :: pn)) (b₀ :: suite) (ts a cls d)) :
    PS X (.Try body [.ExceptHandler (some (.Name x np)) none (b₀ :: suite) pos'] [] [] pos) (tTryOn tb X.K c ts Wout) := ps_try_only hs hf hc tk hb hsu
end
section
variable {ρ α β S τ Z : Type} [Rep α] {ce : Ce} {E : XK} {K : PySem.W.Frag} {σ : L2.St} {F H F0 H0 : Hp} {md : Md ρ} {D : Ends} {P : τ → Prop} {tb : WX → TS} {t1 : Addr → Addr → TS} {ts : Addr → Value → Option Addr → TS} {cv : Value} {i : Nat} {Wout : WX}
theorem Gr.er {F H F' H' H2 : Hp} (g : Gr F H F' H') (e : Ex H' H2) : Gr F H F' H2 := ⟨g.ff, g.fh.tr e, g.hh.tr e, fun b a c => g.nw b a c⟩
theorem Own.er {T : Type} [Rep T] [Obj T] {H2 : Hp} {p : Addr} {x : T} (o : Own K F H p x) (e : Ex H H2) : Own K F H2 p x := by
  obtain ⟨⟨u, h1, h2⟩, f⟩ := o
  exact ⟨⟨u, e _ _ h1, h2⟩, f⟩
theorem rn_up {α : Type} [Rep α] {F F1 H1 : Hp} {v : V} {r : List α} (hh : Ex H0 H) (m : rn K F H F1 H1 v r) : rn K F0 H0 F1 H1 v r := by
  obtain ⟨p, vs, h1, h2, h3⟩ := m
  exact ⟨p, vs, h1, ex_back hh h2, h3⟩
theorem s_tryAs {α : Type} (sl : Z → L2.St) (J : α → Hp → Hp → L2.St → Prop) {m : M α} {h : Err → M τ} {k : α → M τ} (q : Wp ce E H0 (catchM m h k) P)
    (hh : ∀ c H' z, Ex H H' → Wp ce E H0 (h c) P → wAs K cv i (tsOf K t1) Wout D (.ref (ce c.name)) none (sl z) H')
    (h1 : ∀ x F1 H1 σ1, J x F1 H1 σ1 → Wp ce E H0 (k x) P → D.nx σ1 H1)
    (hb : ∀ (E' : XK) (P' : α → Prop), (∀ cls d H', E' cls d H' → ∀ z, wAs K cv i (tsOf K t1) Wout D cls d (sl z) H') → (∀ x, P' x → Wp ce E H0 (k x) P) → (∀ x, P' x → ∀ F1 H1 σ1, J x F1 H1 σ1 → D.nx σ1 H1) → Wp ce E' H m P' →
      tb (wAs K cv i (tsOf K t1) Wout D) D σ H) : tTryAs tb K cv i (tsOf K t1) Wout D σ H := by
  refine hb (fun cls d H' => ∀ z, wAs K cv i (tsOf K t1) Wout D cls d (sl z) H') (fun x => Wp ce E H0 (k x) P) (fun _ _ _ e => e) (fun _ p => p) (fun x p F1 H1 σ1 j => h1 x F1 H1 σ1 j p) ?_
  cases m with
  | ok x => exact q
  | er c => exact fun H' e z => hh c H' z e q
  | bad => exact q
theorem s_tryOn {α : Type} (sl : Z → L2.St) (J : α → Hp → Hp → L2.St → Prop) {m : M α} {h : Err → M τ} {k : α → M τ} (q : Wp ce E H0 (catchM m h k) P)
    (hh : ∀ c H' z, Ex H H' → Wp ce E H0 (h c) P → wOnly K cv ts Wout D (.ref (ce c.name)) none (sl z) H')
    (h1 : ∀ x F1 H1 σ1, J x F1 H1 σ1 → Wp ce E H0 (k x) P → D.nx σ1 H1)
    (hb : ∀ (E' : XK) (P' : α → Prop), (∀ cls d H', E' cls d H' → ∀ z, wOnly K cv ts Wout D cls d (sl z) H') → (∀ x, P' x → Wp ce E H0 (k x) P) → (∀ x, P' x → ∀ F1 H1 σ1, J x F1 H1 σ1 → D.nx σ1 H1) → Wp ce E' H m P' →
      tb (wOnly K cv ts Wout D) D σ H) : tTryOn tb K cv ts Wout D σ H := by
  refine hb (fun cls d H' => ∀ z, wOnly K cv ts Wout D cls d (sl z) H') (fun x => Wp ce E H0 (k x) P) (fun _ _ _ e => e) (fun _ p => p) (fun x p F1 H1 σ1 j => h1 x F1 H1 σ1 j p) ?_
  cases m with
  | ok x => exact q
  | er c => exact fun H' e z => hh c H' z e q
  | bad => exact q
theorem q_tryAs {t2 : TS} {α : Type} (sl : Z → L2.St) (J : α → Hp → Hp → L2.St → Prop) {m : M α} {h : Err → M τ} {k : α → M τ} (q : Wp ce E H0 (catchM m h k) P)
    (hh : ∀ c H' z, Ex H H' → Wp ce E H0 (h c) P → wAs K cv i (tsOf K t1) Wout { D with nx := t2 D } (.ref (ce c.name)) none (sl z) H')
    (h1 : ∀ x F1 H1 σ1, J x F1 H1 σ1 → Wp ce E H0 (k x) P → t2 D σ1 H1)
    (hb : ∀ (E' : XK) (P' : α → Prop), (∀ cls d H', E' cls d H' → ∀ z, wAs K cv i (tsOf K t1) Wout { D with nx := t2 D } cls d (sl z) H') → (∀ x, P' x → Wp ce E H0 (k x) P) → (∀ x, P' x → ∀ F1 H1 σ1, J x F1 H1 σ1 → t2 D σ1 H1) → Wp ce E' H m P' →
      tb (wAs K cv i (tsOf K t1) Wout { D with nx := t2 D }) { D with nx := t2 D } σ H) : tSeq (tTryAs tb K cv i (tsOf K t1) Wout) t2 D σ H := s_tryAs (D := { D with nx := t2 D }) sl J q hh h1 hb
theorem q_tryOn {t2 : TS} {α : Type} (sl : Z → L2.St) (J : α → Hp → Hp → L2.St → Prop) {m : M α} {h : Err → M τ} {k : α → M τ} (q : Wp ce E H0 (catchM m h k) P)
    (hh : ∀ c H' z, Ex H H' → Wp ce E H0 (h c) P → wOnly K cv ts Wout { D with nx := t2 D } (.ref (ce c.name)) none (sl z) H')
    (h1 : ∀ x F1 H1 σ1, J x F1 H1 σ1 → Wp ce E H0 (k x) P → t2 D σ1 H1)
    (hb : ∀ (E' : XK) (P' : α → Prop), (∀ cls d H', E' cls d H' → ∀ z, wOnly K cv ts Wout { D with nx := t2 D } cls d (sl z) H') → (∀ x, P' x → Wp ce E H0 (k x) P) → (∀ x, P' x → ∀ F1 H1 σ1, J x F1 H1 σ1 → t2 D σ1 H1) → Wp ce E' H m P' →
      tb (wOnly K cv ts Wout { D with nx := t2 D }) { D with nx := t2 D } σ H) : tSeq (tTryOn tb K cv ts Wout) t2 D σ H := s_tryOn (D := { D with nx := t2 D }) sl J q hh h1 hb
theorem was_yes {A : Addr} (hx : PySem.W.exmOne K (.ref A) cv = some true) (hc : ExcC K A)
    (h : ∀ a, H a = none → t1 A a { nx := fun σ' H' => D.nx (σ'.set i none) H', rt := D.rt, bk := fun σ' H' => D.bk (σ'.set i none) H', ct := fun σ' H' => D.ct (σ'.set i none) H' } (σ.set i (some (.ref a))) H) :
    wAs K cv i (tsOf K t1) Wout D (.ref A) none σ H := ⟨true, hx, fun _ a na => ⟨A, rfl, rfl, hc, h a na⟩, fun z => nomatch z⟩
theorem wonly_yes {A : Addr} {t : TS} (hx : PySem.W.exmOne K (.ref A) cv = some true) (h : t D σ H) : wOnly K cv (fun _ _ _ => t) Wout D (.ref A) none σ H := ⟨true, hx, fun _ a na => h, fun z => nomatch z⟩
/-- a call that may raise, within a try -/
theorem e_callU [MdMo md] {α : Type} {E' : XK} {W : WX} {ta : TA} {x : α} {R : Hp → List V → α → Prop} {f : α → M ρ} (hE : ∀ cls d H', E' cls d H' → W cls d σ H') (ha : EvAM ce E' ta σ F H (.ok x) R) : Ev ce E' (tCallS (SpF ce R md f) (WE W) ta) σ F H md (f x) := fun F1 H1 g1 Q q =>
  ha F1 H1 g1 _ fun F2 H2 vs g2 r2 => ⟨F2, x, g2.fh, r2, by
    have q' := Post.mo g2 q
    cases hm : f x with
    | ok r => rw [hm] at q'; exact q'
    | er c => rw [hm] at q'; exact fun H' e => hE _ _ _ (q' H' e)
    | bad => rw [hm] at q'; exact q'⟩
theorem em_callU [MdMo md] {α : Type} {E' : XK} {W : WX} {ta : TA} {m1 : M α} {R : Hp → List V → α → Prop} {f : α → M ρ} (hE : ∀ cls d H', E' cls d H' → W cls d σ H') (ha : EvAM ce E' ta σ F H m1 R) : Ev ce E' (tCallS (SpF ce R md f) (WE W) ta) σ F H md (m1.bind fun x => f x) := fun F1 H1 g1 Q q => by
  refine ha F1 H1 g1 _ ?_
  cases m1 with
  | ok x =>
    exact fun F2 H2 vs g2 r2 => ⟨F2, x, g2.fh, r2, by
      have q' := Post.mo g2 q
      cases hm : f x with
      | ok r => have e : (M.ok x : M α).bind (fun x => f x) = .ok r := hm; rw [e] at q'; exact q'
      | er c => have e : (M.ok x : M α).bind (fun x => f x) = .er c := hm; rw [e] at q'; exact fun H' e => hE _ _ _ (q' H' e)
      | bad => have e : (M.ok x : M α).bind (fun x => f x) = .bad := hm; rw [e] at q'; exact q'⟩
  | er c => exact q
  | bad => exact q
theorem wp_pos {c : Prop} [Decidable c] {m1 m2 : M τ} (h : c) (w : Wp ce E H0 (if c then m1 else m2) P) : Wp ce E H0 m1 P := by rwa [if_pos h] at w
theorem wp_neg {c : Prop} [Decidable c] {m1 m2 : M τ} (h : ¬ c) (w : Wp ce E H0 (if c then m1 else m2) P) : Wp ce E H0 m2 P := by rwa [if_neg h] at w
end
/-! ### what isinstance and except ask of classes -/
theorem kit_own {K : PySem.W.Frag} {A T : Addr} {b : Bool} (hd : PySem.W.hasDictIn K T = true) (ht : PySem.W.typeIn K (.ref T) = some (.type "type")) (hs : PySem.W.subIn K (.ref A) (.ref T) = some b) (hb : (A == T) = true → b = true) : PySem.W.kitOne K (.ref A) (.ref T) = some b := by
  obtain ⟨cd, hc, _⟩ := PySem.W.any_some hd
  unfold PySem.W.kitOne
  by_cases e : (Value.ref A == Value.ref T) = true
  · rw [if_pos e, hb (by
      have := beq_iff_eq.mp e
      cases this
      exact beq_self_eq_true A)]
  · rw [if_neg e]
    show (if ((PySem.W.clsIn K T).isSome && PySem.W.typeIn K (.ref T) == some (.type "type")) = true then PySem.W.subIn K (.ref A) (.ref T) else none) = some b
    rw [if_pos (by rw [hc, ht]; rfl)]
    exact hs
theorem kit_bt {K : PySem.W.Frag} {A : Addr} {T : String} {b : Bool} (hm : PySem.W.kitMeta T = true) (hs : PySem.W.subIn K (.ref A) (.type T) = some b) : PySem.W.kitOne K (.ref A) (.type T) = some b := by
  unfold PySem.W.kitOne
  have e : ¬ (Value.ref A == Value.type T) = true := fun z => by
    have := beq_iff_eq.mp z
    cases this
  rw [if_neg e]
  show (if PySem.W.kitMeta T = true then PySem.W.subIn K (.ref A) (.type T) else none) = some b
  rw [if_pos hm]
  exact hs
end Mw

set_option Elab.async false
set_option linter.all false
set_option maxRecDepth 100000
set_option maxHeartbeats 2000000
/-! Mw, part L: all, any. -/
namespace Mw
open PySem L2
open Rep (rp)
section
variable {ρ α β : Type} [Rep α] {ce : Ce} {E : XK} {K : PySem.W.Frag}
theorem paired_bool {H : Hp} : ∀ {vs : List V} {xs : List Bool}, Paired (rp K H) vs xs → vs = xs.map V.bl
  | _, _, .nil => rfl
  | _, _, .cons h t => by
    cases h
    rw [paired_bool t]
    rfl
theorem a_all {xs : List Bool} : OpA ce E (RC K R0) (rAll K) (rv K) (xs, ()) (.ok (xs.all id)) := fun F1 H1 vs e ⟨v, r, e1, ⟨a, us, h1, h2, h3⟩, e3⟩ Q q => by
  cases e3
  subst e1 h1
  have := paired_bool h3
  subst this
  exact ⟨a, xs, rfl, SqL.of (e _ _ h2), q _ _ _ (Gr.rf e) rfl⟩
theorem a_any {xs : List Bool} : OpA ce E (RC K R0) (rAny K) (rv K) (xs, ()) (.ok (xs.any id)) := fun F1 H1 vs e ⟨v, r, e1, ⟨a, us, h1, h2, h3⟩, e3⟩ Q q => by
  cases e3
  subst e1 h1
  have := paired_bool h3
  subst this
  exact ⟨a, xs, rfl, SqL.of (e _ _ h2), q _ _ _ (Gr.rf e) rfl⟩
end
noncomputable def setM {α : Type} (xs : List α) (i : Int) (x : α) : M (List α) := match ixN xs.length i with
  | some j => .ok (xs.set j x)
  | none => .bad
noncomputable def insM {α : Type} (xs : List α) (i : Int) (x : α) : M (List α) := chk (xs.length < 16000000 ∧ 0 ≤ i ∧ i < 2 ^ 63) (xs.take i.toNat ++ [x] ++ xs.drop i.toNat)
noncomputable def popAtM {α : Type} (xs : List α) (i : Int) : M (List α) := match seqIndex? i xs.length with
  | some j => chk (-(2 ^ 63) ≤ i ∧ i < 2 ^ 63 ∧ j < xs.length) (xs.eraseIdx j)
  | none => .bad
theorem paired_setA {α β : Type} {F : α → β → Prop} {v : α} {x : β} (h : F v x) : ∀ {vs : List α} {xs : List β} (j : Nat), Paired F vs xs → Paired F (vs.set j v) (xs.set j x)
  | _, _, _, .nil => .nil
  | _, _, 0, .cons _ t => .cons h t
  | _, _, j + 1, .cons a t => .cons a (paired_setA h j t)
theorem paired_erase {α β : Type} {F : α → β → Prop} : ∀ {vs : List α} {xs : List β} (j : Nat), Paired F vs xs → Paired F (vs.eraseIdx j) (xs.eraseIdx j)
  | _, _, _, .nil => .nil
  | _, _, 0, .cons _ t => t
  | _, _, j + 1, .cons a t => .cons a (paired_erase j t)
def rIns : V → List V → Hp → VK → Prop := fun x vs H Q => ∃ (l : Addr) (xs : List V) (i : Int) (y : V), x = .ref l ∧ vs = [.int i, y] ∧ H l = some (.lst xs) ∧ xs.length < sizeLine ∧ 0 ≤ i ∧ i < 2 ^ 63 ∧ Q .non (upd H l (.lst (xs.take i.toNat ++ [y] ++ xs.drop i.toNat)))
section
variable {τ α : Type} [Rep α] {ce : Ce} {E : XK} {K : PySem.W.Frag} {σ : L2.St} {F H F0 H0 : Hp} {te ti : TE} {D : Ends} {P : τ → Prop}
theorem s_setl (A : List Addr) {i : Nat} {p : Addr} {xs : List α} {m1 : M α} {m2 : M Int} {k : List α → M τ} [Flat α] (hp : σ[i]? = some (some (.ref p))) (o : Own K F H p xs) (n0 : H0 p = none) (G : Gr F0 H0 F H)
    (q : Wp ce E H0 (m1.bind fun x => m2.bind fun y => (setM xs y x).bind k) P) (hF : ∀ p ∈ A, F p = none) (hA : ∀ p ∈ A, ∃ o, H p = some o ∧ NoTup o) (h : Ev ce E te σ (fz F H A) H (rv K) m1) (hk : Ev ce E ti σ (fz F H A) H (rv K) m2)
    (c : ∀ ys F1 H1, Ex F F1 → Gr F0 H0 F1 H1 → Own K F1 H1 p ys → (∀ (T : Type) [Rep T] [Obj T] (q : Addr) (z : T), q ≠ p → Own K F H q z → Own K F1 H1 q z) → Wp ce E H0 (k ys) P → D.nx σ H1) :
    tAsg te (gSub (tVar i) ti rSetL) D σ H := by
  obtain ⟨vs, h1, h2⟩ := o.lst
  have hf := o.f
  have hA' : ∀ p ∈ A, H p ≠ none := fun p m => by obtain ⟨o, e, _⟩ := hA p m; rw [e]; exact fun z => nomatch z
  refine h _ H (Gr.rf (fz_h G.fh)) _ ?_
  cases m1 with
  | ok x =>
    intro F1 H1 v g0 r0
    refine ⟨.ref p, hp, hk F1 H1 g0 _ ?_⟩
    have q2 : Wp ce E H0 (m2.bind fun y => (setM xs y x).bind k) P := q
    cases m2 with
    | ok y =>
      rintro F2 H2 vy g1 rfl
      have gg := g0.tr g1
      have g := gr_th hF hA' G.fh gg
      have r : rp K (th F2 A) v x := Flat.fl (th_of hA gg) (Rep.mo g1.ff r0)
      have w' : Wp ce E H0 ((setM xs y x).bind k) P := q2
      unfold setM at w'
      split at w'
      · rename_i j hj
        rw [← Paired.length h2] at hj
        have hf1 : th F2 A p = none := g.nw p hf (by rw [h1]; exact fun z => nomatch z)
        exact ⟨p, vs, y, j, rfl, rfl, g.hh _ _ h1, hj, c _ _ _ g.ff (Gr.mut (G.tr g) n0 hf1) (own_new hf1 upd_same (paired_setA r j (paired_mo g.ff h2))) (fun T _ _ q z hq o => (o.mo g).upd hq) w'⟩
      · exact w'.elim
    | er cc => exact fun H' e => q2 H' ((G.hh.tr g0.hh).tr e)
    | bad => exact q2
  | er cc => exact fun H' e => q H' (G.hh.tr e)
  | bad => exact q
theorem s_insl (A : List Addr) {i : Nat} {p : Addr} {xs : List α} {m1 : M Int} {m2 : M α} {k : List α → M τ} [Flat α] (hp : σ[i]? = some (some (.ref p))) (o : Own K F H p xs) (n0 : H0 p = none) (G : Gr F0 H0 F H)
    (q : Wp ce E H0 (m1.bind fun y => m2.bind fun x => (insM xs y x).bind k) P) (hF : ∀ p ∈ A, F p = none) (hA : ∀ p ∈ A, ∃ o, H p = some o ∧ NoTup o) (hk : Ev ce E ti σ (fz F H A) H (rv K) m1) (h : Ev ce E te σ (fz F H A) H (rv K) m2)
    (c : ∀ ys F1 H1, Ex F F1 → Gr F0 H0 F1 H1 → Own K F1 H1 p ys → (∀ (T : Type) [Rep T] [Obj T] (q : Addr) (z : T), q ≠ p → Own K F H q z → Own K F1 H1 q z) → Wp ce E H0 (k ys) P → D.nx σ H1) :
    tDrop (tBM K "list" rIns (tVar i) (tCons ti (tCons te tNil))) D σ H := by
  obtain ⟨vs, h1, h2⟩ := o.lst
  have hf := o.f
  have hA' : ∀ p ∈ A, H p ≠ none := fun p m => by obtain ⟨o, e, _⟩ := hA p m; rw [e]; exact fun z => nomatch z
  refine ⟨.ref p, hp, .inl ⟨rfl, vs, SqL.of h1⟩, hk _ H (Gr.rf (fz_h G.fh)) _ ?_⟩
  cases m1 with
  | ok y =>
    rintro F1 H1 vy g0 rfl
    refine h F1 H1 g0 _ ?_
    have q2 : Wp ce E H0 (m2.bind fun x => (insM xs y x).bind k) P := q
    cases m2 with
    | ok x =>
      intro F2 H2 v g1 r0
      have gg := g0.tr g1
      have g := gr_th hF hA' G.fh gg
      have r : rp K (th F2 A) v x := Flat.fl (th_of hA gg) r0
      have w' : Wp ce E H0 ((insM xs y x).bind k) P := q2
      unfold insM chk at w'
      split at w'
      · rename_i hc
        have hf1 : th F2 A p = none := g.nw p hf (by rw [h1]; exact fun z => nomatch z)
        refine ⟨p, vs, y, v, rfl, rfl, g.hh _ _ h1, by rw [Paired.length h2, sizeLine_eq]; omega, hc.2.1, hc.2.2, ?_⟩
        have pm := paired_mo (K := K) g.ff h2
        exact c _ _ _ g.ff (Gr.mut (G.tr g) n0 hf1) (own_new hf1 upd_same (paired_app (paired_app (paired_take _ pm) (.cons r .nil)) (paired_drop _ pm))) (fun T _ _ q z hq o => (o.mo g).upd hq) w'
      · exact w'.elim
    | er cc => exact fun H' e => q2 H' ((G.hh.tr g0.hh).tr e)
    | bad => exact q2
  | er cc => exact fun H' e => q H' (G.hh.tr e)
  | bad => exact q
theorem s_popl (A : List Addr) {i : Nat} {p : Addr} {xs : List α} {m1 : M Int} {k : List α → M τ} (hp : σ[i]? = some (some (.ref p))) (o : Own K F H p xs) (n0 : H0 p = none) (G : Gr F0 H0 F H)
    (q : Wp ce E H0 (m1.bind fun y => (popAtM xs y).bind k) P) (hF : ∀ p ∈ A, F p = none) (hA : ∀ p ∈ A, ∃ o, H p = some o ∧ NoTup o) (hk : Ev ce E ti σ (fz F H A) H (rv K) m1)
    (c : ∀ ys F1 H1, Ex F F1 → Gr F0 H0 F1 H1 → Own K F1 H1 p ys → (∀ (T : Type) [Rep T] [Obj T] (q : Addr) (z : T), q ≠ p → Own K F H q z → Own K F1 H1 q z) → Wp ce E H0 (k ys) P → D.nx σ H1) :
    tDrop (tBM K "list" rPopAt (tVar i) (tCons ti tNil)) D σ H := by
  obtain ⟨vs, h1, h2⟩ := o.lst
  have hf := o.f
  have hA' : ∀ p ∈ A, H p ≠ none := fun p m => by obtain ⟨o, e, _⟩ := hA p m; rw [e]; exact fun z => nomatch z
  refine ⟨.ref p, hp, .inl ⟨rfl, vs, SqL.of h1⟩, hk _ H (Gr.rf (fz_h G.fh)) _ ?_⟩
  cases m1 with
  | ok y =>
    rintro F1 H1 vy g0 rfl
    have g := gr_th hF hA' G.fh g0
    have w' : Wp ce E H0 ((popAtM xs y).bind k) P := q
    unfold popAtM at w'
    split at w'
    · rename_i j hj
      unfold chk at w'
      split at w'
      · rename_i hc
        rw [← Paired.length h2] at hj
        have hl : j < vs.length := by rw [Paired.length h2]; exact hc.2.2
        have hf1 : th F1 A p = none := g.nw p hf (by rw [h1]; exact fun z => nomatch z)
        exact ⟨p, vs, y, j, _, rfl, rfl, g.hh _ _ h1, hc.1, hc.2.1, hj, List.getElem?_eq_getElem hl, c _ _ _ g.ff (Gr.mut (G.tr g) n0 hf1) (own_new hf1 upd_same (paired_erase j (paired_mo g.ff h2))) (fun T _ _ q z hq o => (o.mo g).upd hq) w'⟩
      · exact w'.elim
    · exact w'.elim
  | er cc => exact fun H' e => q H' (G.hh.tr e)
  | bad => exact q
variable {t2 : TS}
theorem q_setl (A : List Addr) {i : Nat} {p : Addr} {xs : List α} {m1 : M α} {m2 : M Int} {k : List α → M τ} [Flat α] (hp : σ[i]? = some (some (.ref p))) (o : Own K F H p xs) (n0 : H0 p = none) (G : Gr F0 H0 F H)
    (q : Wp ce E H0 (m1.bind fun x => m2.bind fun y => (setM xs y x).bind k) P) (hF : ∀ p ∈ A, F p = none) (hA : ∀ p ∈ A, ∃ o, H p = some o ∧ NoTup o) (h : Ev ce E te σ (fz F H A) H (rv K) m1) (hk : Ev ce E ti σ (fz F H A) H (rv K) m2)
    (c : ∀ ys F1 H1, Ex F F1 → Gr F0 H0 F1 H1 → Own K F1 H1 p ys → (∀ (T : Type) [Rep T] [Obj T] (q : Addr) (z : T), q ≠ p → Own K F H q z → Own K F1 H1 q z) → Wp ce E H0 (k ys) P → t2 D σ H1) :
    tSeq (tAsg te (gSub (tVar i) ti rSetL)) t2 D σ H := s_setl (D := { D with nx := t2 D }) A hp o n0 G q hF hA h hk c
theorem q_insl (A : List Addr) {i : Nat} {p : Addr} {xs : List α} {m1 : M Int} {m2 : M α} {k : List α → M τ} [Flat α] (hp : σ[i]? = some (some (.ref p))) (o : Own K F H p xs) (n0 : H0 p = none) (G : Gr F0 H0 F H)
    (q : Wp ce E H0 (m1.bind fun y => m2.bind fun x => (insM xs y x).bind k) P) (hF : ∀ p ∈ A, F p = none) (hA : ∀ p ∈ A, ∃ o, H p = some o ∧ NoTup o) (hk : Ev ce E ti σ (fz F H A) H (rv K) m1) (h : Ev ce E te σ (fz F H A) H (rv K) m2)
    (c : ∀ ys F1 H1, Ex F F1 → Gr F0 H0 F1 H1 → Own K F1 H1 p ys → (∀ (T : Type) [Rep T] [Obj T] (q : Addr) (z : T), q ≠ p → Own K F H q z → Own K F1 H1 q z) → Wp ce E H0 (k ys) P → t2 D σ H1) :
    tSeq (tDrop (tBM K "list" rIns (tVar i) (tCons ti (tCons te tNil)))) t2 D σ H := s_insl (D := { D with nx := t2 D }) A hp o n0 G q hF hA hk h c
theorem q_popl (A : List Addr) {i : Nat} {p : Addr} {xs : List α} {m1 : M Int} {k : List α → M τ} (hp : σ[i]? = some (some (.ref p))) (o : Own K F H p xs) (n0 : H0 p = none) (G : Gr F0 H0 F H)
    (q : Wp ce E H0 (m1.bind fun y => (popAtM xs y).bind k) P) (hF : ∀ p ∈ A, F p = none) (hA : ∀ p ∈ A, ∃ o, H p = some o ∧ NoTup o) (hk : Ev ce E ti σ (fz F H A) H (rv K) m1)
    (c : ∀ ys F1 H1, Ex F F1 → Gr F0 H0 F1 H1 → Own K F1 H1 p ys → (∀ (T : Type) [Rep T] [Obj T] (q : Addr) (z : T), q ≠ p → Own K F H q z → Own K F1 H1 q z) → Wp ce E H0 (k ys) P → t2 D σ H1) :
    tSeq (tDrop (tBM K "list" rPopAt (tVar i) (tCons ti tNil))) t2 D σ H := s_popl (D := { D with nx := t2 D }) A hp o n0 G q hF hA hk c
end
end Mw

set_option Elab.async false
set_option linter.all false
set_option maxRecDepth 100000
set_option maxHeartbeats 2000000
/-! Mw, part M: lists of two unlike things. -/
namespace Mw
open PySem L2
open Rep (rp)
/-- a word: a text that may stand in data that is compared -/
structure Wd where
  s : Str
  ok : PyData.canLay0 (.str s) = true
  deriving DecidableEq
def wd (x : Str) : Wd := if h : PyData.canLay0 (.str x) = true then ⟨x, h⟩ else ⟨Str.ofString "", by decide +kernel⟩
instance : Rep Wd := ⟨fun _ _ v x => v = .str x.s, fun _ h => h⟩
instance : Dat Wd := ⟨fun w => .str w.s, 0, fun {K H v x} h => by cases h; exact .str x.s, fun x => x.ok, fun _ => Nat.le_refl _, fun x y => by
  obtain ⟨x, hx⟩ := x
  obtain ⟨y, hy⟩ := y
  simp only [PyData.eqv, Wd.mk.injEq]
  rw [Bool.eq_iff_iff]; simp⟩
instance : NotN Wd := ⟨fun x => ⟨by show PyData.eqv .none (.str x.s) = false; simp [PyData.eqv], by show PyData.eqv (.str x.s) .none = false; simp [PyData.eqv]⟩⟩
instance : NN Wd := ⟨fun h => by cases h; exact fun z => nomatch z⟩
theorem wd_s {x : Str} (h : PyData.canLay0 (.str x) = true) : (wd x).s = x := by unfold wd; rw [dif_pos h]
structure H2 (α β : Type) where
  a : α
  b : β
  deriving DecidableEq
instance {α β : Type} [Rep α] [Rep β] : Rep (H2 α β) := ⟨fun K H v x => ∃ p u w, v = .ref p ∧ H p = some (.lst [u, w]) ∧ rp K H u x.a ∧ rp K H w x.b, fun e ⟨p, u, w, h1, h2, h3, h4⟩ => ⟨p, u, w, h1, e _ _ h2, Rep.mo e h3, Rep.mo e h4⟩⟩
instance {α β : Type} [Rep α] [Rep β] [DecidableEq α] [DecidableEq β] [Dat α] [Dat β] : Dat (H2 α β) where
  dat := fun x => .list [Dat.dat x.a, Dat.dat x.b]
  deep := max (Dat.deep α) (Dat.deep β) + 1
  dp := fun {K H v x} ⟨a, u, w, h1, h2, h3, h4⟩ => by subst h1; exact .lst (SqL.of h2) (.cons (Dat.dp h3) (.cons (Dat.dp h4) .nil))
  cl := fun x => by simp [PyData.canLay0, PyData.canLayAll0, Dat.cl]
  de := fun x => by
    show max (PyData.depth _) (max (PyData.depth _) 0) + 1 ≤ _
    have h1 := Dat.de x.a
    have h2 := Dat.de x.b
    omega
  eq := fun x y => by
    obtain ⟨x1, x2⟩ := x
    obtain ⟨y1, y2⟩ := y
    simp only [PyData.eqv, PyData.eqvAll, Dat.eq, Bool.and_true, H2.mk.injEq]
    simp
section
variable {α β : Type} [Rep α] [Rep β] {ce : Ce} {E : XK} {K : PySem.W.Frag} {σ : L2.St} {F H : Hp} {ta tb : TE}
theorem em_h2 {m1 : M α} {m2 : M β} (ha : Ev ce E ta σ F H (rv K) m1) (hb : Ev ce E tb σ F H (rv K) m2) : Ev ce E (tLst (tCons ta (tCons tb tNil))) σ F H (rv K) (m1.bind fun x => m2.bind fun y => .ok (H2.mk x y)) := fun F1 H1 g1 Q q => by
  refine ha F1 H1 g1 _ ?_
  cases m1 with
  | ok x =>
    intro F2 H2 v2 g2 q2
    refine hb F2 H2 (g1.tr g2) _ ?_
    cases m2 with
    | ok y =>
      refine fun F3 H3 v3 g3 q3 => ⟨by show 2 ≤ sizeLine; decide, fun p np => ?_⟩
      have e := Ex.nw (o := .lst [v2, v3]) (ex_back g3.fh np)
      exact q _ _ _ ((g2.tr g3).tr (Gr.new g3.fh np)) ⟨p, v2, v3, rfl, upd_same, Rep.mo (g3.ff.tr e) q2, Rep.mo e q3⟩
    | er c => exact fun H' e => q H' (g2.hh.tr e)
    | bad => exact q
  | er c => exact q
  | bad => exact q
theorem e_h2 {x : α} {y : β} (ha : Ev ce E ta σ F H (rv K) (.ok x)) (hb : Ev ce E tb σ F H (rv K) (.ok y)) : Ev ce E (tLst (tCons ta (tCons tb tNil))) σ F H (rv K) (.ok (H2.mk x y)) := em_h2 (m1 := .ok x) (m2 := .ok y) ha hb
theorem o_h2a {x : H2 α β} {i : Int} (hi : i = 0) : Op2 ce E K (rIxL K) (rv K) x i (.ok x.a) := fun F1 H1 vx vy e rx ry Q q => by
  obtain ⟨p, u, w, rfl, h2, h3, h4⟩ := rx
  cases ry
  subst hi
  exact ⟨p, [u, w], 0, u, rfl, rfl, SqL.of (e _ _ h2), rfl, q F1 H1 u (Gr.rf e) h3⟩
theorem o_h2b {x : H2 α β} {i : Int} (hi : i = 1) : Op2 ce E K (rIxL K) (rv K) x i (.ok x.b) := fun F1 H1 vx vy e rx ry Q q => by
  obtain ⟨p, u, w, rfl, h2, h3, h4⟩ := rx
  cases ry
  subst hi
  exact ⟨p, [u, w], 1, w, rfl, rfl, SqL.of (e _ _ h2), rfl, q F1 H1 w (Gr.rf e) h4⟩
theorem em_wd {x : Str} (h : PyData.canLay0 (.str x) = true) : Ev ce E (tC (.str x)) σ F H (rv K) (.ok (wd x)) := fun F1 H1 g Q q => q F1 H1 _ (Gr.rf g.fh) (by show V.str x = V.str (wd x).s; rw [wd_s h])
theorem wd_eq {x y : Wd} : decide (V.str x.s = V.str y.s) = decide (x = y) := by
  obtain ⟨x, hx⟩ := x
  obtain ⟨y, hy⟩ := y
  rw [Bool.eq_iff_iff]
  simp
theorem o_eqW {x y : Wd} : Op2 ce E K rEq (rv K) x y (.ok (decide (x = y))) := fun F1 H1 vx vy e rx ry Q q => by
  cases rx; cases ry
  refine ⟨rfl, ?_⟩
  rw [wd_eq]
  exact q F1 H1 _ (Gr.rf e) rfl
theorem o_neW {x y : Wd} : Op2 ce E K rNe (rv K) x y (.ok (!decide (x = y))) := fun F1 H1 vx vy e rx ry Q q => by
  cases rx; cases ry
  refine ⟨rfl, ?_⟩
  rw [wd_eq]
  exact q F1 H1 _ (Gr.rf e) rfl
end
end Mw

set_option Elab.async false
set_option linter.all false
set_option maxRecDepth 100000
set_option maxHeartbeats 2000000
/-! Mw, part N: quadruples; trees of triples over ints. -/
namespace Mw
open PySem L2
open Rep (rp)
instance {α β γ δ : Type} [Rep α] [Rep β] [Rep γ] [Rep δ] [DecidableEq α] [DecidableEq β] [DecidableEq γ] [DecidableEq δ] [Dat α] [Dat β] [Dat γ] [Dat δ] : Dat (T4 α β γ δ) where
  dat := fun x => .tuple [Dat.dat x.a, Dat.dat x.b, Dat.dat x.c, Dat.dat x.d]
  deep := max (Dat.deep α) (max (Dat.deep β) (max (Dat.deep γ) (Dat.deep δ))) + 1
  dp := fun {K H v x} ⟨a, u, w, z, y, h1, h2, h3, h4, h5, h6⟩ => by subst h1; exact .tup h2 (.cons (Dat.dp h3) (.cons (Dat.dp h4) (.cons (Dat.dp h5) (.cons (Dat.dp h6) .nil))))
  cl := fun x => by simp [PyData.canLay0, PyData.canLayAll0, Dat.cl]
  de := fun x => by
    show max (PyData.depth _) (max (PyData.depth _) (max (PyData.depth _) (max (PyData.depth _) 0))) + 1 ≤ _
    have h1 := Dat.de x.a
    have h2 := Dat.de x.b
    have h3 := Dat.de x.c
    have h4 := Dat.de x.d
    omega
  eq := fun x y => by
    obtain ⟨x1, x2, x3, x4⟩ := x
    obtain ⟨y1, y2, y3, y4⟩ := y
    simp only [PyData.eqv, PyData.eqvAll, Dat.eq, Bool.and_true, T4.mk.injEq]
    simp
instance {α β γ δ : Type} [Rep α] [Rep β] [Rep γ] [Rep δ] [DecidableEq α] [DecidableEq β] [DecidableEq γ] [DecidableEq δ] [Dat α] [Dat β] [Dat γ] [Dat δ] : NotN (T4 α β γ δ) := ⟨fun x => ⟨by show PyData.eqv .none (.tuple _) = false; simp [PyData.eqv], by show PyData.eqv (.tuple _) .none = false; simp [PyData.eqv]⟩⟩
section
variable {ρ α β γ δ W τ : Type} [Rep α] [Rep β] [Rep γ] [Rep δ] {ce : Ce} {E : XK} {K : PySem.W.Frag} {σ : L2.St} {F H F' H' F0 H0 : Hp} {te ta tb tc td : TE} {tt tu : TT} {md : Md ρ} {m : M ρ}
theorem em_tup4 {m1 : M α} {m2 : M β} {m3 : M γ} {m4 : M δ} (ha : Ev ce E ta σ F H (rv K) m1) (hb : Ev ce E tb σ F H (rv K) m2) (hc : Ev ce E tc σ F H (rv K) m3) (hd : Ev ce E td σ F H (rv K) m4) :
    Ev ce E (tTup (tCons ta (tCons tb (tCons tc (tCons td tNil))))) σ F H (rv K) (m1.bind fun x => m2.bind fun y => m3.bind fun z => m4.bind fun u => .ok (T4.mk x y z u)) := fun F1 H1 g1 Q q => by
  refine ha F1 H1 g1 _ ?_
  cases m1 with
  | ok x =>
    intro F2 H2 v2 g2 q2
    refine hb F2 H2 (g1.tr g2) _ ?_
    cases m2 with
    | ok y =>
      intro F3 H3 v3 g3 q3
      refine hc F3 H3 ((g1.tr g2).tr g3) _ ?_
      cases m3 with
      | ok z =>
        intro F4 H4 v4 g4 q4
        refine hd F4 H4 (((g1.tr g2).tr g3).tr g4) _ ?_
        cases m4 with
        | ok u =>
          refine fun F5 H5 v5 g5 q5 => ⟨by show 4 ≤ sizeLine; decide, fun p np => ?_⟩
          have e := Ex.nw (o := .tup [v2, v3, v4, v5]) (ex_back g5.fh np)
          exact q _ _ _ ((((g2.tr g3).tr g4).tr g5).tr (Gr.new g5.fh np)) ⟨p, v2, v3, v4, v5, rfl, SqT.of upd_same, Rep.mo (((g3.ff.tr g4.ff).tr g5.ff).tr e) q2, Rep.mo ((g4.ff.tr g5.ff).tr e) q3, Rep.mo (g5.ff.tr e) q4, Rep.mo e q5⟩
        | er c => exact fun H' e => q H' (((g2.tr g3).tr g4).hh.tr e)
        | bad => exact q
      | er c => exact fun H' e => q H' ((g2.tr g3).hh.tr e)
      | bad => exact q
    | er c => exact fun H' e => q H' (g2.hh.tr e)
    | bad => exact q
  | er c => exact q
  | bad => exact q
theorem e_tup4 {x : α} {y : β} {z : γ} {u : δ} (ha : Ev ce E ta σ F H (rv K) (.ok x)) (hb : Ev ce E tb σ F H (rv K) (.ok y)) (hc : Ev ce E tc σ F H (rv K) (.ok z)) (hd : Ev ce E td σ F H (rv K) (.ok u)) : Ev ce E (tTup (tCons ta (tCons tb (tCons tc (tCons td tNil))))) σ F H (rv K) (.ok (T4.mk x y z u)) := em_tup4 (m1 := .ok x) (m2 := .ok y) (m3 := .ok z) (m4 := .ok u) ha hb hc hd
theorem o_a4 {x : T4 α β γ δ} {i : Int} (hi : i = 0) : Op2 ce E K (rIxT K) (rv K) x i (.ok x.a) := fun F1 H1 vx vy e ⟨a, u, w, z, y, e1, e2, e3, e4, e5, e6⟩ ry Q q => by
  subst e1 hi
  cases ry
  exact ⟨a, [u, w, z, y], 0, u, rfl, rfl, ex_t e e2, rfl, q F1 H1 u (Gr.rf e) e3⟩
theorem o_b4 {x : T4 α β γ δ} {i : Int} (hi : i = 1) : Op2 ce E K (rIxT K) (rv K) x i (.ok x.b) := fun F1 H1 vx vy e ⟨a, u, w, z, y, e1, e2, e3, e4, e5, e6⟩ ry Q q => by
  subst e1 hi
  cases ry
  exact ⟨a, [u, w, z, y], 1, w, rfl, rfl, ex_t e e2, rfl, q F1 H1 w (Gr.rf e) e4⟩
theorem o_c4 {x : T4 α β γ δ} {i : Int} (hi : i = 2) : Op2 ce E K (rIxT K) (rv K) x i (.ok x.c) := fun F1 H1 vx vy e ⟨a, u, w, z, y, e1, e2, e3, e4, e5, e6⟩ ry Q q => by
  subst e1 hi
  cases ry
  exact ⟨a, [u, w, z, y], 2, z, rfl, rfl, ex_t e e2, rfl, q F1 H1 z (Gr.rf e) e5⟩
theorem o_d4 {x : T4 α β γ δ} {i : Int} (hi : i = 3) : Op2 ce E K (rIxT K) (rv K) x i (.ok x.d) := fun F1 H1 vx vy e ⟨a, u, w, z, y, e1, e2, e3, e4, e5, e6⟩ ry Q q => by
  subst e1 hi
  cases ry
  exact ⟨a, [u, w, z, y], 3, y, rfl, rfl, ex_t e e2, rfl, q F1 H1 y (Gr.rf e) e6⟩
theorem a_len4 {x : T4 α β γ δ} : OpA ce E (RC K R0) (rLenS K) (rv K) (x, ()) (.ok (4 : Int)) := fun F1 H1 vs e ⟨v, r, e1, ⟨a, u, w, z, y, h1, h2, h3, h4, h5, h6⟩, e3⟩ Q q => by
  cases e3
  subst e1 h1
  exact ⟨a, _, rfl, .inr (ex_t e h2), q F1 H1 _ (Gr.rf e) rfl⟩
def RTup4 (K : PySem.W.Frag) {α β γ δ : Type} [Rep α] [Rep β] [Rep γ] [Rep δ] (i j l n : Nat) : L2.St → Hp → L2.St → T4 α β γ δ → Prop := fun σ0 F σ2 x => ∃ u w z y, σ2 = (((σ0.set i (some u)).set j (some w)).set l (some z)).set n (some y) ∧ rp K F u x.a ∧ rp K F w x.b ∧ rp K F z x.c ∧ rp K F y x.d
theorem tg_tup4 {i j l n : Nat} : Tg K (α := T4 α β γ δ) (gTup K 4 (gCons (gName i) (gCons (gName j) (gCons (gName l) (gCons (gName n) gNil))))) (RTup4 K i j l n) := fun σ0 F H v x e ⟨a, u, w, z, y, h1, h2, h3, h4, h5, h6⟩ Q q =>
  ⟨a, [u, w, z, y], h1, ex_t e h2, rfl, u, [w, z, y], rfl, w, [z, y], rfl, z, [y], rfl, y, [], rfl, rfl, q _ ⟨u, w, z, y, rfl, h3, h4, h5, h6⟩⟩
theorem wipe4 {σ : L2.St} {i j l m : Nat} {u v w x : Option V} : wipe (((((wipe σ [i, j, l, m]).set i u).set j v).set l w).set m x) [i, j, l, m] = wipe σ [i, j, l, m] := by
  show (((((((((((σ.set m none).set l none).set j none).set i none).set i u).set j v).set l w).set m x).set m none).set l none).set j none).set i none = (((σ.set m none).set l none).set j none).set i none
  apply List.ext_getElem?
  intro n
  simp only [List.getElem?_set, List.length_set]
  by_cases a : i = n
  · subst a; simp
  · by_cases b : j = n
    · subst b; simp [a]
    · by_cases c : l = n
      · subst c; simp [a, b]
      · by_cases d : m = n
        · subst d; simp [a, b, c]
        · simp [a, b, c, d]
end
/-! ### a list of one's own is walked: lent to the loop, taken back behind it -/
section
variable {K : PySem.W.Frag} {F H F' H' F0 H0 F1 H1 : Hp} {T : Type} [Rep T] [Obj T]
theorem own_lend {p : Addr} {x : T} (G : Gr F0 H0 F H) (o : Own K F H p x) (n0 : H0 p = none) : ∃ F', Gr F0 H0 F' H ∧ Ex F F' ∧ rp K F' (.ref p) x ∧ (∀ q, q ≠ p → F' q = F q) ∧ F' p = H p := by
  obtain ⟨⟨u, h1, h2⟩, h3⟩ := o
  refine ⟨upd F p u, ⟨G.ff.tr (Ex.nw h3), fun a w e => ?_, G.hh, fun b a1 a2 => ?_⟩, Ex.nw h3, Obj.rep upd_same (Obj.mo (Ex.nw h3) h2), fun q hq => upd_ne hq, by rw [upd_same, h1]⟩
  · by_cases z : a = p
    · subst z; rw [upd_same] at e; rw [h1]; exact e
    · rw [upd_ne z] at e; exact G.fh a w e
  · have : b ≠ p := fun z => by subst z; exact a2 n0
    rw [upd_ne this]; exact G.nw b a1 a2
theorem own_back {p : Addr} {x : T} (o : Own K F H p x) (n0 : F0 p = none) (e : Ex F F') (hp : F' p = H p) (e1 : Ex F' F1) (G : Gr F0 H0 F1 H1) : ∃ Fu, Gr F0 H0 Fu H1 ∧ Ex F Fu ∧ Own K Fu H1 p x ∧ TupEx F1 Fu ∧ (∀ q, q ≠ p → Fu q = F1 q) := by
  obtain ⟨⟨u, h1, h2⟩, h3⟩ := o
  have a1 : F1 p = some u := e1 _ _ (by rw [hp]; exact h1)
  have a2 : H1 p = some u := G.fh _ _ a1
  have aq : ∀ q, q ≠ p → th F1 [p] q = F1 q := fun q hq => by unfold th; rw [if_neg (by simpa using hq)]
  have ap : th F1 [p] p = none := by unfold th; rw [if_pos (by simp)]
  have ee : Ex F (th F1 [p]) := fun a w h => by
    have : a ≠ p := fun z => by subst z; rw [h3] at h; cases h
    rw [aq a this]; exact e1 _ _ (e _ _ h)
  refine ⟨th F1 [p], ⟨fun a w h => ?_, fun a w h => ?_, G.hh, fun b b1 b2 => ?_⟩, ee, ⟨⟨u, a2, Obj.mo ee h2⟩, ap⟩, ?_, aq⟩
  · have : a ≠ p := fun z => by subst z; rw [n0] at h; cases h
    rw [aq a this]; exact G.ff a w h
  · have : a ≠ p := fun z => by subst z; rw [ap] at h; cases h
    rw [aq a this] at h; exact G.fh a w h
  · by_cases z : b = p
    · subst z; exact ap
    · rw [aq b z]; exact G.nw b b1 b2
  · refine th_tup fun q m xs r => ?_
    rw [List.mem_singleton.mp m] at r
    have nt := Obj.nt h2
    rcases r with r | ⟨w, r⟩
    · rw [a1] at r; exact nt.1 xs (Option.some.inj r)
    · rw [a1] at r; exact nt.2 w xs (Option.some.inj r)
theorem own_fl {α : Type} [Rep α] [Flat α] {q : Addr} {x : List α} (o : Own K F H q x) (e : TupEx F F') (h : F' q = F q) : Own K F' H q x := by
  obtain ⟨⟨u, h1, vs, h2, h4⟩, h3⟩ := o
  exact ⟨⟨u, h1, vs, h2, paired_fl e h4⟩, by rw [h]; exact h3⟩
end
/-! ### trees -/
inductive Tr where
  | lf (n : Int)
  | nd (s : Int) (a b : Tr)
  deriving DecidableEq
def Tr.isN : Tr → Bool
  | .lf _ => false
  | .nd _ _ _ => true
def rTr (K : PySem.W.Frag) (H : Hp) : Tr → V → Prop
  | .lf n, v => v = .int n
  | .nd s a b, v => ∃ p w z, v = .ref p ∧ SqT K H p [.int s, w, z] ∧ rTr K H a w ∧ rTr K H b z
theorem rTr_mo {K : PySem.W.Frag} {H H' : Hp} (e : Ex H H') : ∀ {x : Tr} {v : V}, rTr K H x v → rTr K H' x v
  | .lf _, _, h => h
  | .nd _ _ _, _, ⟨p, w, z, h1, h2, h3, h4⟩ => ⟨p, w, z, h1, ex_t e h2, rTr_mo e h3, rTr_mo e h4⟩
instance : Rep Tr := ⟨fun K H v x => rTr K H x v, fun e h => rTr_mo e h⟩
theorem rTr_fl {K : PySem.W.Frag} {H H' : Hp} (e : TupEx H H') : ∀ {x : Tr} {v : V}, rTr K H x v → rTr K H' x v
  | .lf _, _, h => h
  | .nd _ _ _, _, ⟨p, w, z, h1, h2, h3, h4⟩ => ⟨p, w, z, h1, tup_t e h2, rTr_fl e h3, rTr_fl e h4⟩
instance : Flat Tr := ⟨fun e h => rTr_fl e h⟩
instance : NN Tr := ⟨fun {K F v x} h => by
  cases x with
  | lf n => rw [show v = .int n from h]; exact fun z => nomatch z
  | nd s a b => obtain ⟨p, w, z, h1, _⟩ := h; rw [h1]; exact fun z => nomatch z⟩
def trI : Tr → M Int
  | .lf n => .ok n
  | .nd _ _ _ => .bad
def trA : Tr → M Int
  | .nd s _ _ => .ok s
  | .lf _ => .bad
def trK : Tr → Int → M Tr
  | .nd s a b, i => if i = 0 then .ok (.lf s) else if i = 1 then .ok a else if i = 2 then .ok b else .bad
  | .lf _, _ => .bad
section
variable {ρ : Type} {ce : Ce} {E : XK} {K : PySem.W.Frag} {σ : L2.St} {F H F' H' F0 H0 : Hp} {te ta tb tc td : TE} {tt tu : TT}
theorem em_trl {m : M Int} (h : Ev ce E te σ F H (rv K) m) : Ev ce E te σ F H (rv K) (m.bind fun x => .ok (Tr.lf x)) := fun F1 H1 g1 Q q => by
  refine h F1 H1 g1 _ ?_
  cases m with
  | ok x => exact fun F2 H2 v g2 r => q F2 H2 v g2 r
  | er c => exact q
  | bad => exact q
theorem e_trl {x : Int} (h : Ev ce E te σ F H (rv K) (.ok x)) : Ev ce E te σ F H (rv K) (.ok (Tr.lf x)) := em_trl (m := .ok x) h
theorem em_trn {m : M (T3 Int Tr Tr)} (h : Ev ce E te σ F H (rv K) m) : Ev ce E te σ F H (rv K) (m.bind fun x => .ok (Tr.nd x.a x.b x.c)) := fun F1 H1 g1 Q q => by
  refine h F1 H1 g1 _ ?_
  cases m with
  | ok x =>
    intro F2 H2 v g2 ⟨a, u, w, z, h1, h2, h3, h4, h5⟩
    have h3' : u = .int x.a := h3
    exact q F2 H2 v g2 ⟨a, w, z, h1, by rw [← h3']; exact h2, h4, h5⟩
  | er c => exact q
  | bad => exact q
theorem e_trn {x : T3 Int Tr Tr} (h : Ev ce E te σ F H (rv K) (.ok x)) : Ev ce E te σ F H (rv K) (.ok (Tr.nd x.a x.b x.c)) := em_trn (m := .ok x) h
theorem em_trI {m : M Tr} (h : Ev ce E te σ F H (rv K) m) : Ev ce E te σ F H (rv K) (m.bind trI) := fun F1 H1 g1 Q q => by
  refine h F1 H1 g1 _ ?_
  cases m with
  | ok x =>
    cases x with
    | lf n => exact fun F2 H2 v g2 r => q F2 H2 v g2 r
    | nd s a b => exact q.elim
  | er c => exact q
  | bad => exact q
theorem o_trA {x : Tr} {i : Int} (hi : i = 0) : Op2 ce E K (rIxT K) (rv K) x i (trA x) := fun F1 H1 vx vy e rx ry Q q => by
  subst hi
  cases ry
  cases x with
  | lf n => exact q.elim
  | nd s a b =>
    obtain ⟨p, w, z, h1, h2, h3, h4⟩ := rx
    subst h1
    exact ⟨p, [.int s, w, z], 0, .int s, rfl, rfl, ex_t e h2, rfl, q F1 H1 _ (Gr.rf e) rfl⟩
theorem o_trK {x : Tr} {i : Int} : Op2 ce E K (rIxT K) (rv K) x i (trK x i) := fun F1 H1 vx vy e rx ry Q q => by
  cases ry
  cases x with
  | lf n => exact q.elim
  | nd s a b =>
    obtain ⟨p, w, z, h1, h2, h3, h4⟩ := rx
    subst h1
    by_cases c0 : i = 0
    · subst c0
      exact ⟨p, [.int s, w, z], 0, .int s, rfl, rfl, ex_t e h2, rfl, q F1 H1 _ (Gr.rf e) rfl⟩
    · by_cases c1 : i = 1
      · subst c1
        exact ⟨p, [.int s, w, z], 1, w, rfl, rfl, ex_t e h2, rfl, q F1 H1 _ (Gr.rf e) h3⟩
      · by_cases c2 : i = 2
        · subst c2
          exact ⟨p, [.int s, w, z], 2, z, rfl, rfl, ex_t e h2, rfl, q F1 H1 _ (Gr.rf e) h4⟩
        · rw [show trK (.nd s a b) i = .bad from by unfold trK; dsimp only; rw [if_neg c0, if_neg c1, if_neg c2]] at q
          exact q.elim
/-- one plain operand's place, that may fail -/
theorem em_ixm {α β γ : Type} [Rep α] [Rep β] [Rep γ] {r : R2} {m1 : M α} {y : β} {g : α → M γ} (ha : Ev ce E ta σ F H (rv K) m1) (hb : Ev ce E tb σ F H (rv K) (.ok y)) (hr : ∀ x, Op2 ce E K r (rv K) x y (g x)) : Ev ce E (tOp r ta tb) σ F H (rv K) (m1.bind g) := fun F1 H1 g1 Q q => by
  refine ha F1 H1 g1 _ ?_
  cases m1 with
  | ok x => exact fun F2 H2 vx g2 rx => hb F2 H2 (g1.tr g2) _ fun F3 H3 vy g3 ry => hr x F3 H3 vx vy g3.fh (Rep.mo g3.ff rx) ry Q (Post.mo (g2.tr g3) q)
  | er c => exact q
  | bad => exact q
theorem em_isiT {m : M Tr} {n : String} {b c : Bool} (ha : Ev ce E ta σ F H (rv K) m) (hn : PySem.W.kitOne K (.type "int") (.type n) = some c) (hb : PySem.W.kitOne K (.type "tuple") (.type n) = some b) :
    Ev ce E (tCB (rIsi K) (tCons ta (tCons (tC (.ty n)) tNil))) σ F H (rv K) (m.bind fun x => .ok (if x.isN then b else c)) := fun F1 H1 g1 Q q => by
  refine ha F1 H1 g1 _ ?_
  cases m with
  | ok x =>
    intro F2 H2 v g2 r
    cases x with
    | lf i => cases (show v = .int i from r); exact ⟨_, .ty n, _, _, c, rfl, .ty n, .base (.int i), hn, q F2 H2 _ g2 rfl⟩
    | nd s a d =>
      obtain ⟨p, w, z, h1, h2, h3, h4⟩ := r
      subst h1
      exact ⟨_, .ty n, _, _, b, rfl, .ty n, tyx_tup g2.fh h2, hb, q F2 H2 _ g2 rfl⟩
  | er c => exact q
  | bad => exact q
end
end Mw

set_option Elab.async false
set_option linter.all false
set_option maxRecDepth 100000
set_option maxHeartbeats 2000000
/-! Mw, part O: script + [..]. -/
namespace Mw
open PySem L2
open Rep (rp)
def rCatL (K : PySem.W.Frag) : R2 := fun x y H Q => ∃ l b xs zs, x = V.ref l ∧ y = V.ref b ∧ SqL K H l xs ∧ SqL K H b zs ∧ xs.length + zs.length ≤ sizeLine ∧ ∀ p, H p = none → Q (V.ref p) (upd H p (HO.lst (xs ++ zs)))
theorem op_catL {X : Cx} : OpR X (binaryOp .Add) (rCatL X.K) := by
  intro pins s σ H x y v u Q I rx ry h
  obtain ⟨l, b, xs, zs, rfl, rfl, h1, h2, hz, q⟩ := h
  cases rx
  cases ry
  obtain ⟨i1, r1, p1, l1⟩ := I.list h1
  obtain ⟨i2, r2, p2, l2⟩ := I.list h2
  obtain ⟨⟨c1, d1, a1, s1⟩, n1, g1, hc1, hd1, ha1⟩ := p1
  obtain ⟨⟨c2, d2, a2, s2⟩, n2, g2, hc2, hd2, ha2⟩ := p2
  dsimp only at hc1 hd1 ha1 hc2 hd2 ha2
  subst hc1 ha1 hc2 ha2
  have e1 := r1.length
  have e2 := r2.length
  refine concat_meets ⟨_, g1, rfl⟩ ⟨_, g2, rfl⟩ noFill_list_add seq_list_add PySem.F.slot_list_add PySem.F.entry_list_add (PySem.F.args_list_add_2 (Value.ref l) (Value.ref b)) (PyProof.Rows.list_addW l b i1.toArray i2.toArray n1 n2 d1 d2 s1 s2 (by simp; omega)) ⟨g1, g2, ?_⟩
  rw [List.append_toArray]
  exact ⟨V.ref s.heap.objs.size, upd H s.heap.objs.size (HO.lst (xs ++ zs)), I.lnew (r1.append r2) (by rw [List.length_append]; exact hz), rfl, q s.heap.objs.size I.fresh⟩
section
variable {ce : Ce} {E : XK} {K : PySem.W.Frag}
theorem o_catS {xs : Scr} {ys : List Int} : Op2 ce E K (rCatL K) (rn K) xs ys (catM xs.l ys) := fun F1 H1 vx vy e ⟨a, h1, h2⟩ ⟨b, ws, k1, k2, k3⟩ Q q => by
  unfold catM chk at q
  split at q
  · rename_i hc
    refine ⟨a, b, _, ws, h1, k1, ex_l e h2, SqL.of (e _ _ k2), ?_, fun p np => ?_⟩
    · rw [Paired.length k3, List.length_map, sizeLine_eq]; omega
    · exact q F1 _ _ (Gr.own e np) ⟨p, _, rfl, np, ex_back e np, upd_same, paired_app (rep_int xs.l) k3⟩
  · exact q.elim
end
/-- a loop by what is known behind each turn -/
theorem forM_by {α S τ : Type} {f : α → S → M (Ctl S τ)} {k : S → M τ} {P : M τ → Prop} (J : List α → S → Prop) {xs : List α} {s : S} (h0 : J [] s)
    (hs : ∀ p x s, (p ++ [x]) <+: xs → J p s → ∃ s', f x s = .ok (.nx s') ∧ J (p ++ [x]) s') (hk : ∀ s', J xs s' → P (k s')) : P (forM f k xs s) := by
  obtain ⟨s', h1, e⟩ := forM_ex (f := f) (k := k) J xs [] s h0 hs
  rw [e]
  exact hk s' h1
/-! ### a list of three unlike things -/
structure H3 (α β γ : Type) where
  a : α
  b : β
  c : γ
  deriving DecidableEq
instance {α β γ : Type} [Rep α] [Rep β] [Rep γ] : Rep (H3 α β γ) := ⟨fun K H v x => ∃ p u w z, v = .ref p ∧ H p = some (.lst [u, w, z]) ∧ rp K H u x.a ∧ rp K H w x.b ∧ rp K H z x.c, fun e ⟨p, u, w, z, h1, h2, h3, h4, h5⟩ => ⟨p, u, w, z, h1, e _ _ h2, Rep.mo e h3, Rep.mo e h4, Rep.mo e h5⟩⟩
instance {α β γ : Type} [Rep α] [Rep β] [Rep γ] [DecidableEq α] [DecidableEq β] [DecidableEq γ] [Dat α] [Dat β] [Dat γ] : Dat (H3 α β γ) where
  dat := fun x => .list [Dat.dat x.a, Dat.dat x.b, Dat.dat x.c]
  deep := max (Dat.deep α) (max (Dat.deep β) (Dat.deep γ)) + 1
  dp := fun {K H v x} ⟨a, u, w, z, h1, h2, h3, h4, h5⟩ => by subst h1; exact .lst (SqL.of h2) (.cons (Dat.dp h3) (.cons (Dat.dp h4) (.cons (Dat.dp h5) .nil)))
  cl := fun x => by simp [PyData.canLay0, PyData.canLayAll0, Dat.cl]
  de := fun x => by
    show max (PyData.depth _) (max (PyData.depth _) (max (PyData.depth _) 0)) + 1 ≤ _
    have h1 := Dat.de x.a
    have h2 := Dat.de x.b
    have h3 := Dat.de x.c
    omega
  eq := fun x y => by
    obtain ⟨x1, x2, x3⟩ := x
    obtain ⟨y1, y2, y3⟩ := y
    simp only [PyData.eqv, PyData.eqvAll, Dat.eq, Bool.and_true, H3.mk.injEq]
    simp
section
variable {α β γ : Type} [Rep α] [Rep β] [Rep γ] {ce : Ce} {E : XK} {K : PySem.W.Frag} {σ : L2.St} {F H : Hp} {ta tb tc : TE}
theorem em_h3 {m1 : M α} {m2 : M β} {m3 : M γ} (ha : Ev ce E ta σ F H (rv K) m1) (hb : Ev ce E tb σ F H (rv K) m2) (hc : Ev ce E tc σ F H (rv K) m3) : Ev ce E (tLst (tCons ta (tCons tb (tCons tc tNil)))) σ F H (rv K) (m1.bind fun x => m2.bind fun y => m3.bind fun z => .ok (H3.mk x y z)) := fun F1 H1 g1 Q q => by
  refine ha F1 H1 g1 _ ?_
  cases m1 with
  | ok x =>
    intro F2 H2 v2 g2 q2
    refine hb F2 H2 (g1.tr g2) _ ?_
    cases m2 with
    | ok y =>
      intro F3 H3 v3 g3 q3
      refine hc F3 H3 ((g1.tr g2).tr g3) _ ?_
      cases m3 with
      | ok z =>
        refine fun F4 H4 v4 g4 q4 => ⟨by show 3 ≤ sizeLine; decide, fun p np => ?_⟩
        have e := Ex.nw (o := .lst [v2, v3, v4]) (ex_back g4.fh np)
        exact q _ _ _ (((g2.tr g3).tr g4).tr (Gr.new g4.fh np)) ⟨p, v2, v3, v4, rfl, upd_same, Rep.mo ((g3.ff.tr g4.ff).tr e) q2, Rep.mo (g4.ff.tr e) q3, Rep.mo e q4⟩
      | er c => exact fun H' e => q H' ((g2.tr g3).hh.tr e)
      | bad => exact q
    | er c => exact fun H' e => q H' (g2.hh.tr e)
    | bad => exact q
  | er c => exact q
  | bad => exact q
theorem e_h3 {x : α} {y : β} {z : γ} (ha : Ev ce E ta σ F H (rv K) (.ok x)) (hb : Ev ce E tb σ F H (rv K) (.ok y)) (hc : Ev ce E tc σ F H (rv K) (.ok z)) : Ev ce E (tLst (tCons ta (tCons tb (tCons tc tNil)))) σ F H (rv K) (.ok (H3.mk x y z)) := em_h3 (m1 := .ok x) (m2 := .ok y) (m3 := .ok z) ha hb hc
theorem o_h3a {x : H3 α β γ} {i : Int} (hi : i = 0) : Op2 ce E K (rIxL K) (rv K) x i (.ok x.a) := fun F1 H1 vx vy e rx ry Q q => by
  obtain ⟨p, u, w, z, rfl, h2, h3, h4, h5⟩ := rx
  cases ry
  subst hi
  exact ⟨p, [u, w, z], 0, u, rfl, rfl, SqL.of (e _ _ h2), rfl, q F1 H1 u (Gr.rf e) h3⟩
theorem o_h3b {x : H3 α β γ} {i : Int} (hi : i = 1) : Op2 ce E K (rIxL K) (rv K) x i (.ok x.b) := fun F1 H1 vx vy e rx ry Q q => by
  obtain ⟨p, u, w, z, rfl, h2, h3, h4, h5⟩ := rx
  cases ry
  subst hi
  exact ⟨p, [u, w, z], 1, w, rfl, rfl, SqL.of (e _ _ h2), rfl, q F1 H1 w (Gr.rf e) h4⟩
theorem o_h3c {x : H3 α β γ} {i : Int} (hi : i = 2) : Op2 ce E K (rIxL K) (rv K) x i (.ok x.c) := fun F1 H1 vx vy e rx ry Q q => by
  obtain ⟨p, u, w, z, rfl, h2, h3, h4, h5⟩ := rx
  cases ry
  subst hi
  exact ⟨p, [u, w, z], 2, z, rfl, rfl, SqL.of (e _ _ h2), rfl, q F1 H1 z (Gr.rf e) h5⟩
end
end Mw

set_option Elab.async false
set_option linter.all false
set_option maxRecDepth 100000
set_option maxHeartbeats 2000000
/-! Mw, part P: tests over one's own lists; rows of ints and words; a parameter of one's own; the object with parts and rows. -/
namespace Mw
open PySem L2
open Rep (rp)
section
variable {ce : Ce} {E : XK} {K : PySem.W.Frag} {σ : L2.St} {F H : Hp} {tt : TT}
/-- a test that reads lists of one's own -/
theorem t_lend (A : List Addr) {m : M Bool} (hF : ∀ p ∈ A, F p = none) (hA : ∀ p ∈ A, ∃ o, H p = some o ∧ NoTup o) (h : EvT ce E tt σ (fz F H A) H m) : EvT ce E tt σ F H m := fun F1 H1 g Q q => by
  have hA' : ∀ p ∈ A, H p ≠ none := fun p m => by obtain ⟨o, e, _⟩ := hA p m; rw [e]; exact fun z => nomatch z
  have hF1 : ∀ p ∈ A, F1 p = none := fun p m => g.nw p (hF p m) (hA' p m)
  have hA1 : ∀ p ∈ A, H1 p ≠ none := fun p m => g.hh.ne (hA' p m)
  have gz : Gr (fz F H A) H (fz F1 H1 A) H1 := ⟨fun a o e => by
    unfold fz at e ⊢
    split
    · rename_i c; rw [if_pos c] at e; exact g.hh a o e
    · rename_i c; rw [if_neg c] at e; exact g.ff a o e, fz_h g.fh, g.hh, fun b h1 h2 => by
    unfold fz at h1 ⊢
    split
    · rename_i c; rw [if_pos c] at h1; exact absurd h1 h2
    · rename_i c; rw [if_neg c] at h1; exact g.nw b h1 h2⟩
  refine h (fz F1 H1 A) H1 gz Q ?_
  cases m with
  | ok r => exact fun F2 H2 g2 => q (th F2 A) H2 (gr_th hF1 hA1 g.fh g2)
  | er c => exact q
  | bad => exact q
end
/-! ### cells and rows -/
inductive Cl where
  | i (n : Int)
  | w (s : Wd)
  deriving DecidableEq
def rCl : Cl → V → Prop
  | .i n, v => v = .int n
  | .w s, v => v = .str s.s
instance : Rep Cl := ⟨fun _ _ v x => rCl x v, fun _ h => h⟩
instance : Flat Cl := ⟨fun _ h => h⟩
instance : NN Cl := ⟨fun {K F v x} h => by
  cases x with
  | i n => rw [show v = .int n from h]; exact fun z => nomatch z
  | w s => rw [show v = .str s.s from h]; exact fun z => nomatch z⟩
instance : Dat Cl where
  dat := fun x => match x with
    | .i n => .int n
    | .w s => .str s.s
  deep := 0
  dp := fun {K H v x} h => by
    cases x with
    | i n => rw [show v = .int n from h]; exact .int n
    | w s => rw [show v = .str s.s from h]; exact .str s.s
  cl := fun x => by
    cases x with
    | i n => rfl
    | w s => exact s.ok
  de := fun x => by cases x <;> exact Nat.le_refl _
  eq := fun x y => by
    rw [Bool.eq_iff_iff]
    cases x with
    | i n => cases y <;> simp [PyData.eqv]
    | w s =>
      cases y with
      | i n => simp [PyData.eqv]
      | w t =>
        obtain ⟨s, hs⟩ := s
        obtain ⟨t, ht⟩ := t
        simp [PyData.eqv]
structure Row where
  cs : List Cl
  deriving DecidableEq
instance : Rep Row := ⟨fun K H v x => ∃ a vs, v = .ref a ∧ SqT K H a vs ∧ Paired (rp K H) vs x.cs, fun e ⟨a, vs, h1, h2, h3⟩ => ⟨a, vs, h1, ex_t e h2, paired_mo e h3⟩⟩
instance : Flat Row := ⟨fun e ⟨a, vs, h1, h2, h3⟩ => ⟨a, vs, h1, tup_t e h2, paired_fl e h3⟩⟩
instance : NN Row := ⟨fun ⟨a, vs, h1, _⟩ => by subst h1; exact fun z => nomatch z⟩
instance : Dat Row where
  dat := fun x => .tuple (x.cs.map Dat.dat)
  deep := 1
  dp := fun {K H v x} ⟨a, vs, h1, h2, h3⟩ => by subst h1; exact .tup h2 (dpAll_of h3)
  cl := fun x => by simpa [PyData.canLay0] using clAll x.cs
  de := fun x => by
    show PyData.depthAll (x.cs.map Dat.dat) + 1 ≤ _
    exact Nat.succ_le_succ (deAll x.cs)
  eq := fun x y => by
    obtain ⟨x⟩ := x
    obtain ⟨y⟩ := y
    simpa [PyData.eqv] using eqAll x y
instance : NotN Row := ⟨fun x => ⟨by show PyData.eqv .none (.tuple _) = false; simp [PyData.eqv], by show PyData.eqv (.tuple _) .none = false; simp [PyData.eqv]⟩⟩
def clI : Cl → M Int
  | .i n => .ok n
  | .w _ => .bad
section
variable {α β γ ρ : Type} [Rep α] [Rep β] [Rep γ] {ce : Ce} {E : XK} {K : PySem.W.Frag} {σ : L2.St} {F H F' H' F0 H0 : Hp} {te ta tb tc td : TE} {tt tu : TT}
instance : Ty Row := ⟨"tuple", fun {K F H v x} e ⟨a, vs, h1, h2, _⟩ => by subst h1; exact tyx_tup e h2⟩
theorem em_clI {m : M Cl} (h : Ev ce E te σ F H (rv K) m) : Ev ce E te σ F H (rv K) (m.bind clI) := fun F1 H1 g1 Q q => by
  refine h F1 H1 g1 _ ?_
  cases m with
  | ok x =>
    cases x with
    | i n => exact fun F2 H2 v g2 r => q F2 H2 v g2 r
    | w s => exact q.elim
  | er c => exact q
  | bad => exact q
theorem em_cli {m : M Int} (h : Ev ce E te σ F H (rv K) m) : Ev ce E te σ F H (rv K) (m.bind fun x => .ok (Cl.i x)) := fun F1 H1 g1 Q q => by
  refine h F1 H1 g1 _ ?_
  cases m with
  | ok x => exact fun F2 H2 v g2 r => q F2 H2 v g2 r
  | er c => exact q
  | bad => exact q
theorem e_cli {x : Int} (h : Ev ce E te σ F H (rv K) (.ok x)) : Ev ce E te σ F H (rv K) (.ok (Cl.i x)) := em_cli (m := .ok x) h
theorem em_clw {m : M Wd} (h : Ev ce E te σ F H (rv K) m) : Ev ce E te σ F H (rv K) (m.bind fun x => .ok (Cl.w x)) := fun F1 H1 g1 Q q => by
  refine h F1 H1 g1 _ ?_
  cases m with
  | ok x => exact fun F2 H2 v g2 r => q F2 H2 v g2 r
  | er c => exact q
  | bad => exact q
theorem e_clw {x : Wd} (h : Ev ce E te σ F H (rv K) (.ok x)) : Ev ce E te σ F H (rv K) (.ok (Cl.w x)) := em_clw (m := .ok x) h
theorem o_rowix {xs : Row} {i : Int} : Op2 ce E K (rIxT K) (rv K) xs i (ixM xs.cs i) := fun F1 H1 vx vy e ⟨a, vs, h1, h2, h3⟩ ry Q q => by
  subst h1
  cases ry
  unfold ixM at q
  split at q
  · rename_i x hx
    obtain ⟨v, hv, rv'⟩ := atI_pair h3 hx
    exact ⟨a, vs, i, v, rfl, rfl, ex_t e h2, hv, q F1 H1 v (Gr.rf e) rv'⟩
  · exact q.elim
theorem a_lenR {x : Row} : OpA ce E (RC K R0) (rLenS K) (rv K) (x, ()) (.ok (x.cs.length : Int)) := fun F1 H1 vs e ⟨v, r, e1, ⟨a, us, h1, h2, h3⟩, e3⟩ Q q => by
  cases e3
  subst e1 h1
  refine ⟨a, _, rfl, .inr (ex_t e h2), ?_⟩
  rw [Paired.length h3]
  exact q F1 H1 _ (Gr.rf e) rfl
theorem em_row {ta : TA} {m : M (List Cl)} (ha : EvL ce E K ta σ F H m) : Ev ce E (tTup ta) σ F H (rv K) (m.bind fun x => chk (x.length ≤ 1000) (Row.mk x)) := fun F1 H1 g1 Q q => by
  refine ha F1 H1 g1 _ ?_
  cases m with
  | ok x =>
    have q' : Post ce (rv K) (chk (x.length ≤ 1000) (Row.mk x)) F1 H1 Q E := q
    unfold chk at q'
    intro F2 H2 vs g2 r2
    by_cases hx : x.length ≤ 1000
    · rw [if_pos hx] at q'
      refine ⟨Nat.le_of_lt (small1000 (by rw [Paired.length r2]; exact hx)), fun p np => ?_⟩
      have e := Ex.nw (o := .tup vs) (ex_back g2.fh np)
      exact q' _ _ _ (g2.tr (Gr.new g2.fh np)) ⟨p, vs, rfl, SqT.of upd_same, paired_mo e r2⟩
    · rw [if_neg hx] at q'
      exact q'.elim
  | er c => exact q
  | bad => exact q
end
/-! ### a parameter of one's own: the first one -/
def SpO (ce : Ce) (K : PySem.W.Frag) {α β ρ : Type} [Rep α] (R : Hp → List V → β → Prop) (md : Md ρ) (f : List α × β → M ρ) : Sp := fun vs H Q E => ∃ F H0 p us x y r, vs = .ref p :: r ∧ Ex F H0 ∧ H0 p = none ∧ H = upd H0 p (.lst us) ∧ Paired (rp K F) us x ∧ R F r y ∧ Post ce md (f (x, y)) F H0 Q E
def SpO0 (ce : Ce) (K : PySem.W.Frag) {α β ρ : Type} [Rep α] (R : Hp → List V → β → Prop) (md : Md ρ) (f : List α × β → M ρ) : Sp := fun vs H Q _ => ∃ F H0 p us x y r, vs = .ref p :: r ∧ Ex F H0 ∧ H0 p = none ∧ H = upd H0 p (.lst us) ∧ Paired (rp K F) us x ∧ R F r y ∧ Post ce md (f (x, y)) F H0 Q E0
section
variable {α β ρ : Type} [Rep α] {ce : Ce} {E : XK} {K : PySem.W.Frag} {σ : L2.St} {F H : Hp} {ta : TE} {tr : TA} {md : Md ρ}
theorem own_start {p : Addr} {us : List V} {x : List α} (e : Ex F H) (h : H p = none) (r : Paired (rp K F) us x) : Gr F H F (upd H p (.lst us)) ∧ Own K F (upd H p (.lst us)) p x :=
  ⟨Gr.own e h, ⟨⟨.lst us, upd_same, us, rfl, r⟩, ex_back e h⟩⟩
theorem callO [MdMo md] {m1 : M (List α)} {m2 : M β} {R : Hp → List V → β → Prop} {f : List α × β → M ρ} {Ec : XK} {P : List V → Hp → VK → Prop}
    (hP : ∀ F1 H1 p us x y r (Q : VK), Ex F1 H1 → H1 p = none → Paired (rp K F1) us x → R F1 r y → Post ce md (f (x, y)) F1 H1 Q E → P (.ref p :: r) (upd H1 p (.lst us)) Q)
    (ha : Ev ce E ta σ F H (rn K) m1) (hb : EvAM ce E tr σ F H m2 R) : ∀ F1 H1, Gr F H F1 H1 → ∀ Q : VK, Post ce md (m1.bind fun x => m2.bind fun y => f (x, y)) F1 H1 Q E → tCons ta tr σ H1 fun vs H2 => P vs H2 Q := fun F1 H1 g1 Q q => by
  refine ha F1 H1 g1 _ ?_
  cases m1 with
  | ok x =>
    rintro F2 H2 v g2 ⟨p, us, rfl, p1, p2, p3, p4⟩
    refine hb F2 H2 (g1.tr g2) _ ?_
    cases m2 with
    | ok y =>
      intro F3 H3 vs g3 r3
      have n3 : F3 p = none := g3.nw p p2 (by rw [p3]; exact fun z => nomatch z)
      have h3 : H3 p = some (.lst us) := g3.hh _ _ p3
      have eH : H3 = upd (th H3 [p]) p (.lst us) := by
        funext b
        by_cases z : b = p
        · subst z; rw [upd_same, h3]
        · rw [upd_ne z]; unfold th; rw [if_neg (by simpa using z)]
      have tp : th H3 [p] p = none := by unfold th; rw [if_pos (by simp)]
      have tq : ∀ b, b ≠ p → th H3 [p] b = H3 b := fun b z => by unfold th; rw [if_neg (by simpa using z)]
      have e3 : Ex F3 (th H3 [p]) := fun a o h => by
        have : a ≠ p := fun z => by subst z; rw [n3] at h; cases h
        rw [tq a this]; exact g3.fh a o h
      have gg : Gr F1 H1 F3 (th H3 [p]) := ⟨(g2.tr g3).ff, e3, fun a o h => by
        have : a ≠ p := fun z => by subst z; rw [p1] at h; cases h
        rw [tq a this]; exact (g2.tr g3).hh a o h, (g2.tr g3).nw⟩
      rw [eH]
      exact hP F3 (th H3 [p]) p us x y vs Q e3 tp (paired_mo g3.ff p4) r3 (Post.mo gg q)
    | er c => exact fun H' e => q H' (g2.hh.tr e)
    | bad => exact q
  | er c => exact q
  | bad => exact q
theorem em_callO0 [MdMo md] {m1 : M (List α)} {m2 : M β} {R : Hp → List V → β → Prop} {f : List α × β → M ρ} (ha : Ev ce E ta σ F H (rn K) m1) (hb : EvAM ce E tr σ F H m2 R) :
    Ev ce E (tCall (SpO0 ce K R md f) [] E0 (tCons ta tr)) σ F H md (m1.bind fun x => m2.bind fun y => (f (x, y)).ne) := fun F1 H1 g1 Q q =>
  callO (md := md) (f := fun a => (f a).ne) (P := fun vs H Q => SpO0 ce K R md f (vs ++ []) H Q E0) (Ec := E) (fun F1 H1 p us x y r Q e n pr rr q => by
    rw [List.append_nil]
    exact ⟨F1, H1, p, us, x, y, r, rfl, e, n, rfl, pr, rr, post_ne q⟩) ha hb F1 H1 g1 Q q
theorem em_callOX [MdMo md] {m1 : M (List α)} {m2 : M β} {R : Hp → List V → β → Prop} {f : List α × β → M ρ} (ha : Ev ce E ta σ F H (rn K) m1) (hb : EvAM ce E tr σ F H m2 R) :
    Ev ce E (tCall (SpO ce K R md f) [] E (tCons ta tr)) σ F H md (m1.bind fun x => m2.bind fun y => f (x, y)) := fun F1 H1 g1 Q q =>
  callO (md := md) (f := f) (P := fun vs H Q => SpO ce K R md f (vs ++ []) H Q E) (Ec := E) (fun F1 H1 p us x y r Q e n pr rr q => by
    rw [List.append_nil]
    exact ⟨F1, H1, p, us, x, y, r, rfl, e, n, rfl, pr, rr, q⟩) ha hb F1 H1 g1 Q q
end
/-! ### an object that is being made; the works -/
structure RawO where
  C : Addr
  dx : Addr
  fs : List (Str × V)
instance : Rep RawO := ⟨fun _ H v x => ∃ p, v = .ref p ∧ H p = some (.ins x.C x.dx x.fs), fun e ⟨p, h1, h2⟩ => ⟨p, h1, e _ _ h2⟩⟩
instance : Obj RawO where
  ho := fun _ _ o x => o = .ins x.C x.dx x.fs
  mo := fun _ h => h
  rep := fun {K H p o x} e h => ⟨p, rfl, by rw [e, h]⟩
  nt := fun {K H o x} h => by subst h; exact ⟨(fun _ z => nomatch z), (fun _ _ z => nomatch z)⟩
structure Wk where
  parts : Int
  rows : List Row
instance : Rep Wk := ⟨fun K H v x => ∃ a C dx fs u w, v = .ref a ∧ H a = some (.ins C dx fs) ∧ Cls K C ∧ NoAttr K C "parts" ∧ NoAttr K C "rows" ∧ fs.lookup ("parts" : Str) = some u ∧ fs.lookup ("rows" : Str) = some w ∧ rp K H u x.parts ∧ rp K H w x.rows,
  fun e ⟨a, C, dx, fs, u, w, h1, h2, h3, h4, h5, h6, h7, h8, h9⟩ => ⟨a, C, dx, fs, u, w, h1, e _ _ h2, h3, h4, h5, h6, h7, Rep.mo e h8, Rep.mo e h9⟩⟩
instance : NN Wk := ⟨fun ⟨a, _, _, _, _, _, h1, _⟩ => by subst h1; exact fun z => nomatch z⟩
section
variable {ρ τ : Type} [Rep ρ] {ce : Ce} {E : XK} {K : PySem.W.Frag} {σ : L2.St} {F H F0 H0 : Hp} {te ta : TE} {md : Md ρ} {D : Ends} {P : τ → Prop}
theorem em_wkp {m : M Wk} (ha : Ev ce E ta σ F H (rv K) m) : Ev ce E (tFld K ta "parts") σ F H (rv K) (m.bind fun x => .ok x.parts) := fun F1 H1 g1 Q q => by
  refine ha F1 H1 g1 _ ?_
  cases m with
  | ok x =>
    rintro F2 H2 v g2 ⟨a, C, dx, fs, u, w, h1, h2, h3, h4, h5, h6, h7, h8, h9⟩
    exact ⟨a, C, dx, fs, u, h1, g2.fh _ _ h2, h3, h4, h6, q F2 H2 u g2 h8⟩
  | er c => exact q
  | bad => exact q
theorem em_wkr {m : M Wk} (ha : Ev ce E ta σ F H (rv K) m) : Ev ce E (tFld K ta "rows") σ F H (rv K) (m.bind fun x => .ok x.rows) := fun F1 H1 g1 Q q => by
  refine ha F1 H1 g1 _ ?_
  cases m with
  | ok x =>
    rintro F2 H2 v g2 ⟨a, C, dx, fs, u, w, h1, h2, h3, h4, h5, h6, h7, h8, h9⟩
    exact ⟨a, C, dx, fs, w, h1, g2.fh _ _ h2, h3, h5, h7, q F2 H2 w g2 h9⟩
  | er c => exact q
  | bad => exact q
theorem e_wkp {x : Wk} (ha : Ev ce E ta σ F H (rv K) (.ok x)) : Ev ce E (tFld K ta "parts") σ F H (rv K) (.ok x.parts) := em_wkp (m := .ok x) ha
theorem e_wkr {x : Wk} (ha : Ev ce E ta σ F H (rv K) (.ok x)) : Ev ce E (tFld K ta "rows") σ F H (rv K) (.ok x.rows) := em_wkr (m := .ok x) ha
/-- self.f = e, in __init__: the object is one's own -/
theorem s_setf {α : Type} [Rep α] {i : Nat} {p : Addr} {o : RawO} {f : Str} {m1 : M α} {k : α → M τ} (hp : σ[i]? = some (some (.ref p))) (c : Cls K o.C) (na : NoAttr K o.C f) (hl : o.fs.length < 1000) (ow : Own K F H p o) (n0 : H0 p = none) (G : Gr F0 H0 F H)
    (q : Wp ce E H0 (m1.bind k) P) (h : Ev ce E te σ F H (rv K) m1)
    (cc : ∀ x F1 H1 v, Ex F F1 → Gr F0 H0 F1 H1 → rp K F1 v x → Own K F1 H1 p (RawO.mk o.C o.dx (putF f v o.fs)) → Wp ce E H0 (k x) P → D.nx σ H1) : sFld K (tVar i) te f D σ H := by
  show te σ H fun y H1 => tVar i σ H1 fun x H2 => _
  refine h.go G q fun x F1 H1 v g r w => ?_
  refine ⟨.ref p, hp, ?_⟩
  have o1 := ow.mo g
  obtain ⟨⟨u, h1, h2⟩, h3⟩ := o1
  have h2' : u = .ins o.C o.dx o.fs := h2
  subst h2'
  refine ⟨p, o.C, o.dx, o.fs, rfl, h1, c, na, hl, ?_⟩
  exact cc x F1 _ v g.ff (Gr.mut (G.tr g) n0 h3) r ⟨⟨_, upd_same, rfl⟩, h3⟩ w
theorem q_setf {t2 : TS} {α : Type} [Rep α] {i : Nat} {p : Addr} {o : RawO} {f : Str} {m1 : M α} {k : α → M τ} (hp : σ[i]? = some (some (.ref p))) (c : Cls K o.C) (na : NoAttr K o.C f) (hl : o.fs.length < 1000) (ow : Own K F H p o) (n0 : H0 p = none) (G : Gr F0 H0 F H)
    (q : Wp ce E H0 (m1.bind k) P) (h : Ev ce E te σ F H (rv K) m1)
    (cc : ∀ x F1 H1 v, Ex F F1 → Gr F0 H0 F1 H1 → rp K F1 v x → Own K F1 H1 p (RawO.mk o.C o.dx (putF f v o.fs)) → Wp ce E H0 (k x) P → t2 D σ H1) : tSeq (sFld K (tVar i) te f) t2 D σ H := s_setf (D := { D with nx := t2 D }) hp c na hl ow n0 G q h cc
/-- the promise of __init__ -/
def SpI (ce : Ce) (K : PySem.W.Frag) (C : Addr) {α : Type} (R : Hp → List V → α → Prop) (f : α → M Wk) : Sp := fun vs H Q E => ∃ F H0 p dx x r, vs = .ref p :: r ∧ Ex F H0 ∧ H0 p = none ∧ H0 dx = none ∧ dx ≠ p ∧ H = upd (upd H0 dx (.own p)) p (.ins C dx []) ∧ R F r x ∧ Post ce (rv K) (f x) F H0 (fun v H' => v = .ref p → Q .non H') E
theorem raw_start {C p dx : Addr} (e : Ex F H) (h : H p = none) (hd : H dx = none) (ne : dx ≠ p) : Gr F H F (upd (upd H dx (.own p)) p (.ins C dx [])) ∧ Own K F (upd (upd H dx (.own p)) p (.ins C dx [])) p (RawO.mk C dx []) :=
  ⟨(Gr.own e hd).tr (Gr.own (Gr.own e hd).fh (by rw [upd_ne ne.symm]; exact h)), ⟨⟨_, upd_same, rfl⟩, ex_back e h⟩⟩
/-- the object is whole -/
theorem wk_done {C dx p : Addr} {u w : V} {pa : Int} {rs : List Row} (G : Gr F0 H0 F H) (n0 : H0 p = none) (o : Own K F H p (RawO.mk C dx (putF "rows" w (putF "parts" u [])))) (c : Cls K C) (n1 : NoAttr K C "parts") (n2 : NoAttr K C "rows") (r1 : rp K F u pa) (r2 : rp K F w rs) :
    ∃ F', Gr F0 H0 F' H ∧ rp K F' (.ref p) (Wk.mk pa rs) := by
  obtain ⟨F', g, e, ⟨p', h1, h2⟩, _⟩ := own_fix G o n0
  cases h1
  refine ⟨F', g, p, C, dx, _, u, w, rfl, h2, c, n1, n2, ?_, ?_, Rep.mo e r1, Rep.mo e r2⟩
  · rw [lookup_putF, if_neg (by decide +kernel), lookup_putF, if_pos rfl]
  · rw [lookup_putF, if_pos rfl]
theorem em_makeX {α : Type} {C : Addr} {ta : TA} {m1 : M α} {R : Hp → List V → α → Prop} {f : α → M Wk} (ha : EvAM ce E ta σ F H m1 R) : Ev ce E (tMake C (SpI ce K C R f) [] E ta) σ F H (rv K) (m1.bind fun x => f x) := fun F1 H1 g1 Q q => by
  refine ha F1 H1 g1 _ ?_
  cases m1 with
  | ok x =>
    intro F2 H2 vs g2 r2 p dx np nd ne
    rw [List.append_nil]
    refine ⟨F2, H2, p, dx, x, vs, rfl, g2.fh, np, nd, ne, rfl, r2, ?_⟩
    have q' := Post.mo g2 q
    have q'' : Post ce (rv K) (f x) F2 H2 Q E := q'
    revert q''
    cases f x with
    | ok r => exact fun z F3 H3 v g3 r3 e => ⟨rfl, by rw [← e]; exact z F3 H3 v g3 r3⟩
    | er c => exact fun z => z
    | bad => exact fun z => z
  | er c => exact q
  | bad => exact q
end
def trLen : Tr → M Int
  | .nd _ _ _ => .ok 3
  | .lf _ => .bad
theorem a_lenT {ce : Ce} {E : XK} {K : PySem.W.Frag} {x : Tr} : OpA ce E (RC K R0) (rLenS K) (rv K) (x, ()) (trLen x) := fun F1 H1 vs e ⟨v, r, e1, h, e3⟩ Q q => by
  cases e3
  cases x with
  | lf n => exact q.elim
  | nd s a b =>
    obtain ⟨p, w, z, h1, h2, h3, h4⟩ := h
    subst e1 h1
    exact ⟨p, _, rfl, .inr (ex_t e h2), q F1 H1 _ (Gr.rf e) rfl⟩
end Mw

set_option Elab.async false
set_option linter.all false
set_option maxRecDepth 100000
set_option maxHeartbeats 2000000
/-! Mw, part Q: told borders or trees. -/
namespace Mw
open PySem L2
open Rep (rp)
/-- ("shut", a pair) or ("tree", a tree) -/
inductive Sh where
  | shut (p : Int × Int)
  | tree (t : Tr)
  deriving DecidableEq
def wShut : Wd := wd (Str.ofString "shut")
def wTree : Wd := wd (Str.ofString "tree")
instance : Rep Sh := ⟨fun K H v x => match x with
  | .shut p => rp K H v (wShut, p)
  | .tree t => rp K H v (wTree, t), fun {K H H' v x} e h => by
    cases x with
    | shut p => exact Rep.mo (x := (wShut, p)) e h
    | tree t => exact Rep.mo (x := (wTree, t)) e h⟩
instance : Flat Wd := ⟨fun _ h => h⟩
instance : Flat Sh := ⟨fun {K H H' v x} e h => by
    cases x with
    | shut p => exact Flat.fl (x := (wShut, p)) e h
    | tree t => exact Flat.fl (x := (wTree, t)) e h⟩
instance : NN Sh := ⟨fun {K F v x} h => by
    cases x with
    | shut p => obtain ⟨a, u, w, h1, _⟩ := h; rw [h1]; exact fun z => nomatch z
    | tree t => obtain ⟨a, u, w, h1, _⟩ := h; rw [h1]; exact fun z => nomatch z⟩
instance : Ty Sh := ⟨"tuple", fun {K F H v x} e h => by
    cases x with
    | shut p => obtain ⟨a, u, w, h1, h2, _⟩ := h; subst h1; exact tyx_tup e h2
    | tree t => obtain ⟨a, u, w, h1, h2, _⟩ := h; subst h1; exact tyx_tup e h2⟩
noncomputable def shS (x : Wd × (Int × Int)) : M Sh := if x.1 = wShut then .ok (.shut x.2) else .bad
noncomputable def shT (x : Wd × Tr) : M Sh := if x.1 = wTree then .ok (.tree x.2) else .bad
def shW : Sh → Wd
  | .shut _ => wShut
  | .tree _ => wTree
def shV : Sh → M Tr
  | .shut _ => .bad
  | .tree t => .ok t
def shNe : Sh → Sh → M Bool
  | .shut p, .shut q => .ok (!decide (p = q))
  | _, _ => .bad
section
variable {ρ : Type} {ce : Ce} {E : XK} {K : PySem.W.Frag} {σ : L2.St} {F H F' H' F0 H0 : Hp} {te ta tb tc td : TE} {tt tu : TT}
theorem em_shS {m : M (Wd × (Int × Int))} (h : Ev ce E te σ F H (rv K) m) : Ev ce E te σ F H (rv K) (m.bind shS) := fun F1 H1 g1 Q q => by
  refine h F1 H1 g1 _ ?_
  cases m with
  | ok x =>
    intro F2 H2 v g2 r
    have q' : Post ce (rv K) (shS x) F1 H1 Q E := q
    unfold shS at q'
    split at q'
    · rename_i c
      refine q' F2 H2 v g2 ?_
      show rp K F2 v (wShut, x.2)
      rw [← c]
      exact r
    · exact q'.elim
  | er c => exact q
  | bad => exact q
theorem em_shT {m : M (Wd × Tr)} (h : Ev ce E te σ F H (rv K) m) : Ev ce E te σ F H (rv K) (m.bind shT) := fun F1 H1 g1 Q q => by
  refine h F1 H1 g1 _ ?_
  cases m with
  | ok x =>
    intro F2 H2 v g2 r
    have q' : Post ce (rv K) (shT x) F1 H1 Q E := q
    unfold shT at q'
    split at q'
    · rename_i c
      refine q' F2 H2 v g2 ?_
      show rp K F2 v (wTree, x.2)
      rw [← c]
      exact r
    · exact q'.elim
  | er c => exact q
  | bad => exact q
theorem o_shA {x : Sh} {i : Int} (hi : i = 0) : Op2 ce E K (rIxT K) (rv K) x i (.ok (shW x)) := fun F1 H1 vx vy e rx ry Q q => by
  cases x with
  | shut p => exact o_fst (x := (wShut, p)) hi F1 H1 vx vy e rx ry Q q
  | tree t => exact o_fst (x := (wTree, t)) hi F1 H1 vx vy e rx ry Q q
theorem o_shB {x : Sh} {i : Int} (hi : i = 1) : Op2 ce E K (rIxT K) (rv K) x i (shV x) := fun F1 H1 vx vy e rx ry Q q => by
  cases x with
  | shut p => exact q.elim
  | tree t => exact o_snd (x := (wTree, t)) hi F1 H1 vx vy e rx ry Q q
theorem a_lenSh {x : Sh} : OpA ce E (RC K R0) (rLenS K) (rv K) (x, ()) (.ok (2 : Int)) := fun F1 H1 vs e ⟨v, r, e1, h, e3⟩ Q q => by
  cases x with
  | shut p => exact a_len2 (x := (wShut, p)) F1 H1 vs e ⟨v, r, e1, h, e3⟩ Q q
  | tree t => exact a_len2 (x := (wTree, t)) F1 H1 vs e ⟨v, r, e1, h, e3⟩ Q q
theorem o_shNe {x y : Sh} : Op2 ce E K (rNeD K) (rv K) x y (shNe x y) := fun F1 H1 vx vy e rx ry Q q => by
  cases x with
  | tree t => cases y <;> exact q.elim
  | shut p =>
    cases y with
    | tree t => exact q.elim
    | shut r =>
      have ee : decide (p = r) = decide ((wShut, p) = (wShut, r)) := by
        rw [Bool.eq_iff_iff]; simp
      have q' : Post ce (rv K) (.ok (!decide (p = r))) F1 H1 Q E := q
      rw [ee] at q'
      exact o_neD (x := (wShut, p)) (y := (wShut, r)) (by decide) F1 H1 vx vy e rx ry Q q'
noncomputable def shlM (x y : Int) : M Int := chk (CPow x y) (x * 2 ^ y.toNat)
theorem o_shl {x y : Int} : Op2 ce E K (rI CPow fun i j => .int (i * 2 ^ j.toNat)) (rv K) x y (shlM x y) := o_Ic fun _ => rfl
end
end Mw
/-! ### xs.count(y), xs.index(y), len(set(xs)) -/
namespace Mw
open PySem L2
open Rep (rp)
section
variable {ρ α β : Type} [Rep α] [Rep β] {ce : Ce} {E : XK} {K : PySem.W.Frag} {σ : L2.St} {F H F' H' F0 H0 : Hp} {te ta tb tc td : TE} {tt tu : TT} {md : Md ρ}
def OpB (ce : Ce) (E : XK) (K : PySem.W.Frag) (r : V → List V → Hp → VK → Prop) (md : Md ρ) (xs : List Int) (y : Int) (m : M ρ) : Prop :=
  ∀ F1 H1 p, Ex F1 H1 → F1 p = some (.lst (xs.map V.int)) → ∀ Q, Post ce md m F1 H1 Q E → r (.ref p) [.int y] H1 Q
theorem em_bmi [MdMo md] {r : V → List V → Hp → VK → Prop} {m1 : M (List Int)} {m2 : M Int} {g : List Int → Int → M ρ} (ha : Ev ce E ta σ F H (rv K) m1) (hb : Ev ce E tb σ F H (rv K) m2) (hr : ∀ x y, OpB ce E K r md x y (g x y)) :
    Ev ce E (tBM K "list" r ta (tCons tb tNil)) σ F H md (m1.bind fun x => m2.bind fun y => g x y) := fun F1 H1 g1 Q q => by
  refine ha F1 H1 g1 _ ?_
  cases m1 with
  | er c => exact q
  | bad => exact q
  | ok x =>
    rintro F2 H2 v g2 ⟨p, vs, rfl, h2, h3⟩
    have e3 := paired_int h3
    subst e3
    refine ⟨.inl ⟨rfl, _, SqL.of (g2.fh _ _ h2)⟩, hb F2 H2 (g1.tr g2) _ ?_⟩
    cases m2 with
    | er c => exact fun H' e => q H' (g2.hh.tr e)
    | bad => exact q
    | ok y =>
      intro F3 H3 w g3 r3
      cases (show w = .int y from r3)
      exact hr x y F3 H3 p g3.fh (g3.ff _ _ h2) Q (Post.mo (g2.tr g3) q)
theorem o_cnt {xs : List Int} {y : Int} : OpB ce E K (rCntI K) (rv K) xs y (.ok ((xs.count y : Nat) : Int)) := fun F1 H1 p e h Q q =>
  ⟨p, xs, y, rfl, rfl, SqL.of (e _ _ h), q F1 H1 _ (Gr.rf e) rfl⟩
noncomputable def idxM (xs : List Int) (y : Int) : M Int := chk (y ∈ xs) ((xs.idxOf y : Nat) : Int)
theorem eqV_int (a b : Int) : eqV (.int a) (.int b) = decide (a = b) := by
  show (a == b) = _
  rw [Bool.eq_iff_iff]; simp
theorem o_idx {xs : List Int} {y : Int} : OpB ce E K (rIndex K) (rv K) xs y (idxM xs y) := fun F1 H1 p e h Q q => by
  unfold idxM chk at q
  split at q
  · rename_i hy
    have hl := List.idxOf_lt_length_of_mem hy
    refine ⟨p, xs.map V.int, .int y, xs.idxOf y, .int y, rfl, rfl, SqL.of (e _ _ h), rfl, ?_, ?_, ?_, ?_, q F1 H1 _ (Gr.rf e) rfl⟩
    · rw [List.all_eq_true]
      intro v hv
      obtain ⟨k, _, rfl⟩ := List.mem_map.mp hv
      rfl
    · rw [List.getElem?_map, List.getElem?_eq_getElem hl, List.getElem_idxOf hl]; rfl
    · rw [eqV_int]; exact decide_eq_true rfl
    · intro m z hm hz
      rw [List.getElem?_map, List.getElem?_eq_getElem (Nat.lt_trans hm hl)] at hz
      cases Option.some.inj hz
      rw [eqV_int]
      refine decide_eq_false fun z => ?_
      have := List.not_of_lt_findIdx (p := fun k => k == y) (xs := xs) (i := m) hm
      rw [z] at this
      simp at this
  · exact q.elim
/-- the unlike ones, as they are met -/
def met (xs : List Int) : List Int := PyProof.Rows.firstMet (fun i => xs.getD i 0) xs.length
noncomputable def lenSet (xs : List Int) : M Int := chk (xs.length < 64) ((met xs).length : Int)
def tLS (K : PySem.W.Frag) (ta : TE) : TE := fun σ H Q => ta σ H fun x H1 => ∃ p ns, x = V.ref p ∧ SqL K H1 p (ns.map V.int) ∧ List.length ns < 64 ∧ Q (.int (met ns).length) H1
theorem pe_lenSetZ {X : Cx} {a : Expr} {ta : TE} {p1 p2 p3 p4 : Pos} (calm : X.calm = true) (g1 : Gl X "len") (n1 : X.mg "len" = none) (g2 : Gl X "set") (n2 : X.mg "set" = none) (h : PE X a ta)
    (hs : starEach [a] X.env = (false, eval a X.env) :: starEach [] X.env := by rfl) : PE X (.Call (.Name "len" p1) [.Call (.Name "set" p2) [a] [] p3] [] p4) (tLS X.K ta) where
  run := fun pins s σ H Q I q =>
    PyProof.Rows.Call_ (ld_blt I g1 n1 PySem.boot_len (PyProof.Rows.callWith_builtin1 (PyProof.Rows.args_cons (PyProof.Rows.Call_ (ld_blt I g2 n2 PyProof.Rows.boot_set (PyProof.Rows.callWith_type1
      (PyProof.Rows.args_cons (thn (h.run pins s σ H _ I q) fun v s1 ⟨x, H1, I1, r1, p, ns, ex, sq, lt, q1⟩ => PyProof.Rows.args_nil (by
        subst ex
        cases r1
        obtain ⟨its, vals, plain, _⟩ := I1.list sq
        have size : its.toArray.size = ns.length := by rw [List.size_toArray, ← vals.length, List.length_map]
        refine call_set_list (ns := ns) (I1.ok.hd calm) plain.isList (by simpa using vals.ints) (by unfold scanBound; omega) fun heap toks made kept => ?_
        rw [size] at made
        have le := PyProof.Rows.firstMet_length_le (fun i => ns.getD i 0) ns.length
        obtain ⟨o, es, ep, t, at_, exact_, data, _, _, _, fits, many⟩ := made
        have I2 : Inv X pins σ H1 { s1 with heap := heap, toks := toks } := I1.kept fun b u e => kept b u (Heap.lt_size e) e
        exact PyProof.Rows.args_nil (call_len_set at_ exact_ data fits (by omega) ⟨.int (met ns).length, H1, I2.tok _, ⟨_, by rw [many]; rfl⟩, q1⟩))) hs) hs rfl))) rfl) rfl rfl))
theorem em_lenSet {m : M (List Int)} (ha : Ev ce E ta σ F H (rv K) m) : Ev ce E (tLS K ta) σ F H (rv K) (m.bind lenSet) := fun F1 H1 g1 Q q => by
  refine ha F1 H1 g1 _ ?_
  cases m with
  | er c => exact q
  | bad => exact q
  | ok x =>
    rintro F2 H2 v g2 ⟨p, vs, rfl, h2, h3⟩
    have e3 := paired_int h3
    subst e3
    have q' : Post ce (rv K) (lenSet x) F1 H1 Q E := q
    unfold lenSet chk at q'
    split at q'
    · rename_i hl
      exact ⟨p, x, rfl, SqL.of (g2.fh _ _ h2), hl, q' F2 H2 _ g2 rfl⟩
    · exact q'.elim
end
end Mw

set_option Elab.async false
set_option linter.all false
set_option maxRecDepth 100000
set_option maxHeartbeats 2000000
/-! Mw, part R: told pairs whose list is new, and is changed later. -/
namespace Mw
open PySem L2
open Rep (rp)
section
variable {ρ α β τ : Type} [Rep α] [Rep β] {ce : Ce} {E : XK} {K : PySem.W.Frag} {σ : L2.St} {F H F' H' F0 H0 F1 H1 Fb Hb : Hp} {te ta tb tc td : TE} {tt tu : TT} {md : Md ρ} {D : Ends} {P : τ → Prop}
/-- None, or a pair whose second part is a list that was not there in H -/
def Nu1 (K : PySem.W.Frag) (F H : Hp) (v : V) (x : Option (α × List β)) : Prop := match x with
  | none => v = .non
  | some y => ∃ a u q vs, v = .ref a ∧ SqT K F a [u, .ref q] ∧ rp K F u y.1 ∧ F q = some (.lst vs) ∧ Paired (rp K F) vs y.2 ∧ H q = none
theorem Nu1.rp {v : V} {x : Option (α × List β)} (h : Nu1 K F H v x) : rp K F v x := by
  cases x with
  | none => exact h
  | some y =>
    obtain ⟨a, u, q, vs, h1, h2, h3, h4, h5, _⟩ := h
    exact ⟨⟨a, u, .ref q, h1, h2, h3, ⟨q, vs, rfl, h4, h5⟩⟩, by rw [h1]; exact fun z => nomatch z⟩
def rf1 (K : PySem.W.Frag) : Md (Option (α × List β)) := fun _ H F' _ v r => Nu1 K F' H v r
instance : MdMo (rf1 K (α := α) (β := β)) := ⟨fun {F H F1 H1 F2 H2 v r} g h => by
  cases r with
  | none => exact h
  | some y =>
    obtain ⟨a, u, q, vs, h1, h2, h3, h4, h5, h6⟩ := h
    exact ⟨a, u, q, vs, h1, h2, h3, h4, h5, ex_back g.hh h6⟩⟩
theorem Ev.fv {m : M (Option (α × List β))} (h : Ev ce E te σ F H (rf1 K) m) : Ev ce E te σ F H (rv K) m := fun F1 H1 g1 Q q => by
  refine h F1 H1 g1 _ ?_
  cases m with
  | ok x => exact fun F2 H2 v g2 r => q F2 H2 v g2 r.rp
  | er c => exact q
  | bad => exact q
/-- x = e, e tells such a pair -/
theorem s_asgF {i : Nat} {m1 : M (Option (α × List β))} {k : Option (α × List β) → M τ} (G : Gr F0 H0 F H) (q : Wp ce E H0 (m1.bind k) P) (h : Ev ce E te σ F H (rf1 K) m1)
    (c : ∀ x F1 H1 v, Gr F H F1 H1 → Nu1 K F1 H v x → Wp ce E H0 (k x) P → D.nx (σ.set i (some v)) H1) : tAsg te (gName i) D σ H := by
  refine h F H (Gr.rf G.fh) _ ?_
  cases m1 with
  | ok x => exact fun F1 H1 v g r => c x F1 H1 v g r q
  | er cc => exact fun H' e => q H' (G.hh.tr e)
  | bad => exact q
theorem q_asgF {t2 : TS} {i : Nat} {m1 : M (Option (α × List β))} {k : Option (α × List β) → M τ} (G : Gr F0 H0 F H) (q : Wp ce E H0 (m1.bind k) P) (h : Ev ce E te σ F H (rf1 K) m1)
    (c : ∀ x F1 H1 v, Gr F H F1 H1 → Nu1 K F1 H v x → Wp ce E H0 (k x) P → t2 D (σ.set i (some v)) H1) : tSeq (tAsg te (gName i)) t2 D σ H := s_asgF (D := { D with nx := t2 D }) G q h c
/-- return (e, x), x a list of one's own -/
theorem s_retF {i : Nat} {p : Addr} {xs : List β} {m1 : M α} {k : Option (α × List β) → M τ} (hp : σ[i]? = some (some (.ref p))) (o : Own K F H p xs) (n0 : H0 p = none) (G : Gr F0 H0 F H) (q : Wp ce E H0 (m1.bind fun x => k (some (x, xs))) P)
    (h : Ev ce E te σ F H (rv K) m1) (hD : ∀ r F1 H1 v, Gr F0 H0 F1 H1 → rf1 K F0 H0 F1 H1 v r → Wp ce E H0 (k r) P → D.rt v H1) : tRet (tTup (tCons te (tCons (tVar i) tNil))) D σ H := by
  refine h F H (Gr.rf G.fh) _ ?_
  cases m1 with
  | er cc => exact fun H' e => q H' (G.hh.tr e)
  | bad => exact q
  | ok x =>
    intro F2 H2 v g r
    refine ⟨.ref p, hp, by show 2 ≤ sizeLine; decide, fun a na => ?_⟩
    have G2 := G.tr g
    obtain ⟨F3, G3, e3, ⟨q', vs, ez, h1, h2⟩, _⟩ := own_fix G2 (o.mo g) n0
    cases ez
    have gn := Gr.new (p := a) (o := .tup [v, .ref p]) G3.fh na
    exact hD (some (x, xs)) _ _ _ (G3.tr gn) ⟨a, v, p, vs, rfl, SqT.of upd_same, Rep.mo gn.ff (Rep.mo e3 r), gn.ff _ _ h1, paired_mo gn.ff h2, n0⟩ q
/-- back to what stood ahead of the call -/
theorem gr_back {q : Addr} {u : HO} (Gb : Gr F0 H0 Fb Hb) (n : Hb q = none) (e : Ex Fb H) (G : Ex H0 H) : Gr F0 H0 Fb (upd H q u) where
  ff := Gb.ff
  fh := fun a o h => by
    have : a ≠ q := fun z => by subst z; rw [Gb.fh a o h] at n; cases n
    rw [upd_ne this]; exact e a o h
  hh := fun a o h => by
    have : a ≠ q := fun z => by subst z; rw [Gb.hh a o h] at n; cases n
    rw [upd_ne this]; exact G a o h
  nw := Gb.nw
/-- x[1].append(e) -/
theorem s_appF {i : Nat} {v : V} {x : Option (α × List β)} {m1 : M β} {k : M τ} (hp : σ[i]? = some (some v)) (nu : Nu1 K F1 Hb v x) (e1 : Ex F1 F) (Gb : Gr F0 H0 Fb Hb) (eb : Ex Fb F1) (G : Gr F0 H0 F H)
    (q : Wp ce E H0 ((getM x).bind fun y => m1.bind fun z => (appM y.2 z).bind fun _ => k) P) (h : Ev ce E te σ F H (rv K) m1)
    (c : ∀ H2, Gr F0 H0 Fb H2 → Wp ce E H0 k P → D.nx σ H2) : tDrop (tBM K "list" rAppend (tOp (rIxT K) (tVar i) (tC (.int 1))) (tCons te tNil)) D σ H := by
  cases x with
  | none => exact q.elim
  | some y =>
    obtain ⟨a, u, p, vs, rfl, h2, h3, h4, h5, h6⟩ := nu
    have hF : H p = some (.lst vs) := G.fh _ _ (e1 _ _ h4)
    refine ⟨.ref a, hp, a, [u, .ref p], 1, .ref p, rfl, rfl, ex_t (e1.tr G.fh) h2, rfl, .inl ⟨rfl, vs, SqL.of hF⟩, ?_⟩
    have q1 : Wp ce E H0 (m1.bind fun z => (appM y.2 z).bind fun _ => k) P := q
    refine h F H (Gr.rf G.fh) _ ?_
    cases m1 with
    | er cc => exact fun H' e => q1 H' (G.hh.tr e)
    | bad => exact q1
    | ok z =>
      intro F2 H2 w g r
      have q2 : Wp ce E H0 ((appM y.2 z).bind fun _ => k) P := q1
      unfold appM chk at q2
      split at q2
      · rename_i hl
        refine ⟨p, vs, w, rfl, rfl, g.hh _ _ hF, ?_, ?_⟩
        · rw [Paired.length h5, sizeLine_eq]; omega
        · exact c _ (gr_back Gb h6 (((eb.tr e1).tr g.ff).tr g.fh) (G.tr g).hh) q2
      · exact q2.elim
theorem q_appF {t2 : TS} {i : Nat} {v : V} {x : Option (α × List β)} {m1 : M β} {k : M τ} (hp : σ[i]? = some (some v)) (nu : Nu1 K F1 Hb v x) (e1 : Ex F1 F) (Gb : Gr F0 H0 Fb Hb) (eb : Ex Fb F1) (G : Gr F0 H0 F H)
    (q : Wp ce E H0 ((getM x).bind fun y => m1.bind fun z => (appM y.2 z).bind fun _ => k) P) (h : Ev ce E te σ F H (rv K) m1)
    (c : ∀ H2, Gr F0 H0 Fb H2 → Wp ce E H0 k P → t2 D σ H2) : tSeq (tDrop (tBM K "list" rAppend (tOp (rIxT K) (tVar i) (tC (.int 1))) (tCons te tNil))) t2 D σ H := s_appF (D := { D with nx := t2 D }) hp nu e1 Gb eb G q h c
/-- x.append(e): x was new when it was told, nothing leans on it but what is forgotten now -/
theorem s_appT {i : Nat} {p : Addr} {xs : List α} {m1 : M α} {k : List α → M τ} (hp : σ[i]? = some (some (.ref p))) (rx : rp K F (.ref p) xs) (n0 : H0 p = none) (e0 : Ex F0 H0) (G : Gr F0 H0 F H)
    (q : Wp ce E H0 (m1.bind fun x => (appM xs x).bind k) P) (h : Ev ce E te σ F H (rv K) m1)
    (c : ∀ ys Fu Hu, Gr F0 H0 Fu Hu → (∀ Fb, Ex Fb F → Fb p = none → Ex Fb Fu) → (∀ (γ : Type) [Rep γ] [Flat γ] (r : Addr) (z : List γ), r ≠ p → Own K F H r z → Own K Fu Hu r z) → Wp ce E H0 (k ys) P → D.nx σ Hu) :
    tDrop (tBM K "list" rAppend (tVar i) (tCons te tNil)) D σ H := by
  obtain ⟨a, vs, ea, h1, h2⟩ := rx
  cases ea
  refine ⟨.ref p, hp, .inl ⟨rfl, vs, SqL.of (G.fh _ _ h1)⟩, h F H (Gr.rf G.fh) _ ?_⟩
  cases m1 with
  | er cc => exact fun H' e => q H' (G.hh.tr e)
  | bad => exact q
  | ok x =>
    intro F1 H1 v g r
    have w' : Wp ce E H0 ((appM xs x).bind k) P := q
    unfold appM chk at w'
    split at w'
    · rename_i hl
      have l1 := g.ff _ _ h1
      have f0 : F0 p = none := ex_back e0 n0
      have aq : ∀ b, b ≠ p → th F1 [p] b = F1 b := fun b hb => by unfold th; rw [if_neg (by simpa using hb)]
      have ap : th F1 [p] p = none := by unfold th; rw [if_pos (by simp)]
      have G1 := G.tr g
      have te1 : TupEx F1 (th F1 [p]) := th_tup fun b m ys rd => by
        rw [List.mem_singleton.mp m] at rd
        rcases rd with rd | ⟨o, rd⟩ <;> (rw [l1] at rd; cases rd)
      refine ⟨p, vs, v, rfl, rfl, g.fh _ _ l1, by rw [Paired.length h2, sizeLine_eq]; omega, c (xs ++ [x]) (th F1 [p]) _ ⟨fun b o e => ?_, fun b o e => ?_, fun b o e => ?_, fun b b1 b2 => ?_⟩ (fun Fb eb nb b o e => ?_) (fun γ _ _ r z hr o => ?_) w'⟩
      · have : b ≠ p := fun z => by subst z; rw [f0] at e; cases e
        rw [aq b this]; exact G1.ff b o e
      · have : b ≠ p := fun z => by subst z; rw [ap] at e; cases e
        rw [aq b this] at e
        rw [upd_ne this]; exact G1.fh b o e
      · have : b ≠ p := fun z => by subst z; rw [n0] at e; cases e
        rw [upd_ne this]; exact G1.hh b o e
      · by_cases z : b = p
        · subst z; exact ap
        · rw [aq b z]; exact G1.nw b b1 b2
      · have : b ≠ p := fun z => by subst z; rw [nb] at e; cases e
        rw [aq b this]; exact g.ff b o (eb b o e)
      · exact (own_fl (o.mo g) te1 (aq r hr)).upd hr
    · exact w'.elim
theorem q_appT {t2 : TS} {i : Nat} {p : Addr} {xs : List α} {m1 : M α} {k : List α → M τ} (hp : σ[i]? = some (some (.ref p))) (rx : rp K F (.ref p) xs) (n0 : H0 p = none) (e0 : Ex F0 H0) (G : Gr F0 H0 F H)
    (q : Wp ce E H0 (m1.bind fun x => (appM xs x).bind k) P) (h : Ev ce E te σ F H (rv K) m1)
    (c : ∀ ys Fu Hu, Gr F0 H0 Fu Hu → (∀ Fb, Ex Fb F → Fb p = none → Ex Fb Fu) → (∀ (γ : Type) [Rep γ] [Flat γ] (r : Addr) (z : List γ), r ≠ p → Own K F H r z → Own K Fu Hu r z) → Wp ce E H0 (k ys) P → t2 D σ Hu) :
    tSeq (tDrop (tBM K "list" rAppend (tVar i) (tCons te tNil))) t2 D σ H := s_appT (D := { D with nx := t2 D }) hp rx n0 e0 G q h c
end
end Mw
/-! ### words.count(word) -/
namespace L2
open PySem PyProof.Rows
theorem cntU {x : V} : ∀ {xs : List V} {us : List Value}, Vals xs us → xs.all flatV = true → us.countP (eqU x) = xs.countP fun y => eqV y x
  | _, _, .nil, _ => rfl
  | y :: xs, u :: us, .cons r t, f => by
    rw [List.all_cons, Bool.and_eq_true] at f
    rw [List.countP_cons, List.countP_cons, eqU_of r f.1, cntU t f.2]
def rCntF (K : PySem.W.Frag) : V → List V → Hp → VK → Prop := fun x xs H Q => ∃ p ys y, x = V.ref p ∧ xs = [y] ∧ SqL K H p ys ∧ flatV y = true ∧ ys.all flatV = true ∧ Q (.int ((ys.countP fun z => eqV z y : Nat) : Int)) H
theorem mt_cntF {X : Cx} : MtR X "list.count" (rCntF X.K) := by
  intro pins s σ H x xs v us Q I rx rxs h
  obtain ⟨p, ys, y, rfl, rfl, sq, fy, fys, q⟩ := h
  cases rx
  obtain ⟨u, rfl, ru⟩ := rxs.one
  obtain ⟨its, vals, ⟨⟨cls, dict, data, slots⟩, n, at_, c1, dn, d1⟩, len⟩ := I.list sq
  simp only at c1 d1
  subst c1 d1
  have same : its.toArray.toList.countP (eqU y) = ys.countP fun z => eqV z y := cntU vals fys
  refine call_meets PySem.F.slot_list_count ⟨_, at_, rfl⟩ PySem.F.entry_list_count (PySem.F.args_list_count_2 _ _) (SeqAt.list_countAt p its.toArray n dict slots u (eqU y))
    ⟨at_, fun w hw => mem_eqAt ru fy vals fys w (by simpa using hw), .int ((ys.countP fun z => eqV z y : Nat) : Int), H, I.tok _, ⟨s.toks, ?_⟩, q⟩
  show Value.int ((its.toArray.toList.countP (eqU y) : Nat) : Int) s.toks = _
  rw [same]
end L2
namespace Mw
open PySem L2
open Rep (rp)
def clV : Cl → V
  | .i n => .int n
  | .w s => .str s.s
theorem paired_cl {K : PySem.W.Frag} {H : Hp} : ∀ {vs : List V} {xs : List Cl}, Paired (rp K H) vs xs → vs = xs.map clV
  | _, _, .nil => rfl
  | _, x :: _, .cons h t => by
    rw [List.map_cons, ← paired_cl t]
    refine congrArg (· :: _) ?_
    cases x with
    | i n => exact h
    | w s => exact h
theorem eqV_cl (x y : Cl) : eqV (clV x) (clV y) = decide (x = y) := by
  rw [Bool.eq_iff_iff, decide_eq_true_eq]
  cases x with
  | i n =>
    cases y with
    | i m => show (n == m) = true ↔ _; simp
    | w t => exact ⟨(fun z => nomatch z), (fun z => nomatch z)⟩
  | w s =>
    cases y with
    | i m => exact ⟨(fun z => nomatch z), (fun z => nomatch z)⟩
    | w t =>
      obtain ⟨s, hs⟩ := s
      obtain ⟨t, ht⟩ := t
      show (s == t) = true ↔ _
      simp
theorem flat_cl (x : Cl) : flatV (clV x) = true := by cases x <;> rfl
section
variable {ce : Ce} {E : XK} {K : PySem.W.Frag} {σ : L2.St} {F H : Hp} {ta tb : TE}
theorem em_cntC {m1 : M (List Cl)} {m2 : M Cl} (ha : Ev ce E ta σ F H (rv K) m1) (hb : Ev ce E tb σ F H (rv K) m2) :
    Ev ce E (tBM K "list" (rCntF K) ta (tCons tb tNil)) σ F H (rv K) (m1.bind fun x => m2.bind fun y => .ok ((List.count y x : Nat) : Int)) := fun F1 H1 g1 Q q => by
  refine ha F1 H1 g1 _ ?_
  cases m1 with
  | er c => exact q
  | bad => exact q
  | ok x =>
    rintro F2 H2 v g2 ⟨p, vs, rfl, h2, h3⟩
    have e3 := paired_cl h3
    subst e3
    refine ⟨.inl ⟨rfl, _, SqL.of (g2.fh _ _ h2)⟩, hb F2 H2 (g1.tr g2) _ ?_⟩
    cases m2 with
    | er c => exact fun H' e => q H' (g2.hh.tr e)
    | bad => exact q
    | ok y =>
      intro F3 H3 w g3 r3
      have ew : w = clV y := by
        cases y with
        | i n => exact r3
        | w s => exact r3
      subst ew
      refine ⟨p, x.map clV, clV y, rfl, rfl, SqL.of (g3.fh _ _ (g3.ff _ _ h2)), flat_cl y, List.all_eq_true.mpr fun z hz => ?_, ?_⟩
      · obtain ⟨c, _, rfl⟩ := List.mem_map.mp hz
        exact flat_cl c
      · have en : (x.map clV).countP (fun z => eqV z (clV y)) = List.count y x := by
          rw [List.countP_map]
          show x.countP (fun z => eqV (clV z) (clV y)) = x.countP (· == y)
          refine congrArg (fun f => x.countP f) (funext fun z => ?_)
          rw [eqV_cl]
          rw [Bool.eq_iff_iff]; simp
        rw [en]
        exact (Post.mo (g2.tr g3) q) F3 H3 _ (Gr.rf g3.fh) rfl
end
end Mw

set_option Elab.async false
set_option linter.all false
set_option maxRecDepth 100000
set_option maxHeartbeats 2000000
/-! Mw, part Zb: texts. -/
namespace Mw
open PySem L2
open Rep (rp)
/-- one sign: a text of one place -/
structure Sg where
  c : Nat
  deriving DecidableEq
def gx (s : Sg) : Str := ⟨#[s.c]⟩
instance : Rep Sg := ⟨fun _ _ v x => v = .str (gx x), fun _ h => h⟩
instance : Flat Str := ⟨fun _ h => h⟩
instance : Flat Sg := ⟨fun _ h => h⟩
noncomputable def catX (x y : Str) : M Str := chk (x.length + y.length ≤ 16000000) (x ++ y)
noncomputable def ixX (x : Str) (i : Int) : M Sg := match atI x.cps.toList i with
  | some c => chk (x.length ≤ 16000000) ⟨c⟩
  | none => .bad
noncomputable def cutX (x : Str) (lo hi : Option Int) : M Str := chk (x.length ≤ 16000000) (cutS x lo hi)
noncomputable def lenX (x : Str) : M Int := chk (x.length ≤ 16000000) (x.length : Int)
noncomputable def strX (i : Int) : M Str := chk (i.natAbs.log2 < 1920) (toString i)
noncomputable def intX (x : Str) : M Int := match PySem.intText? x with
  | some n => chk (x.length ≤ 640) n
  | none => .bad
section
variable {ρ α β γ δ S τ : Type} [Rep α] [Rep β] [Rep γ] [Rep δ] {ce : Ce} {E : XK} {K : PySem.W.Frag} {σ : L2.St} {F H F' H' F0 H0 : Hp} {te ta tb tc td ty : TE} {tt tu : TT} {md : Md ρ} {D : Ends} {ts tw : TS} {g : TG} {wi : TI} {P : τ → Prop}
theorem sl_le {n : Nat} (h : n ≤ 16000000) : n ≤ sizeLine := by rw [sizeLine_eq]; omega
theorem em_tx {x : Str} : Ev ce E (tC (.str x)) σ F H (rv K) (.ok x) := fun F1 H1 g Q q => q F1 H1 _ (Gr.rf g.fh) rfl
theorem em_gx {m : M Sg} (h : Ev ce E te σ F H (rv K) m) : Ev ce E te σ F H (rv K) (m.bind fun s => .ok (gx s)) := fun F1 H1 g1 Q q => by
  refine h F1 H1 g1 _ ?_
  cases m with
  | ok x => exact fun F2 H2 v g2 r => q F2 H2 v g2 r
  | er c => exact q
  | bad => exact q
theorem o_addX {x y : Str} : Op2 ce E K (fun x y H Q => ∃ i j, x = V.str i ∧ y = V.str j ∧ i.length + j.length ≤ sizeLine ∧ Q (.str (i ++ j)) H) (rv K) x y (catX x y) := fun F1 H1 vx vy e rx ry Q q => by
  cases rx; cases ry
  unfold catX chk at q
  split at q
  · rename_i h
    exact ⟨x, y, rfl, rfl, sl_le h, q F1 H1 _ (Gr.rf e) rfl⟩
  · exact q.elim
theorem o_ixX {x : Str} {i : Int} : Op2 ce E K rIxS (rv K) x i (ixX x i) := fun F1 H1 vx vy e rx ry Q q => by
  cases rx; cases ry
  unfold ixX at q
  split at q
  · rename_i c hc
    unfold chk at q
    split at q
    · rename_i h
      exact ⟨x, i, c, rfl, rfl, sl_le h, hc, q F1 H1 _ (Gr.rf e) rfl⟩
    · exact q.elim
  · exact q.elim
theorem o_inX {x : Sg} {y : Str} : Op2 ce E K rInS (rv K) x y (.ok (decide (x.c ∈ y.cps.toList))) := fun F1 H1 vx vy e rx ry Q q => by
  cases rx; cases ry
  exact ⟨x.c, y, rfl, rfl, q F1 H1 _ (Gr.rf e) rfl⟩
theorem o_notInX {x : Sg} {y : Str} : Op2 ce E K rNotInS (rv K) x y (.ok (!decide (x.c ∈ y.cps.toList))) := fun F1 H1 vx vy e rx ry Q q => by
  cases rx; cases ry
  exact ⟨x.c, y, rfl, rfl, q F1 H1 _ (Gr.rf e) rfl⟩
theorem ei_str {m : M Str} (h : Ev ce E te σ F H (rv K) m) : EvI ce E K (iStr te) σ F H (m.bind fun x => .ok (x.cps.toList.map Sg.mk)) := fun F1 H1 g1 R q => by
  refine h F1 H1 g1 _ ?_
  cases m with
  | ok x =>
    rintro F2 H2 v g2 rfl
    refine ⟨x, rfl, q F2 H2 _ g2 fun i H e => ⟨fun s hs => ?_, fun hi => ?_⟩⟩
    · rw [List.getElem?_map] at hs
      obtain ⟨c, hc, rfl⟩ := Option.map_eq_some_iff.mp hs
      rw [Array.getElem?_toList] at hc
      refine ⟨(Array.getElem?_eq_some_iff.mp hc).1, ?_⟩
      rintro v H' ⟨rfl, c', hc', rfl⟩ F1 f1 f2
      rw [hc] at hc'
      cases hc'
      exact ⟨F1, Gr.rf f2, rfl⟩
    · rw [List.length_map, Array.length_toList] at hi
      exact hi
  | er c => exact q
  | bad => exact q
theorem em_slX {tl th : TO} {m1 : M Str} {m2 m3 : M (Option Int)} (ha : Ev ce E ta σ F H (rv K) m1) (hl : EvO ce E tl σ F H m2) (hh : EvO ce E th σ F H m3) :
    Ev ce E (tSl rSlS ta tl th) σ F H (rv K) (m1.bind fun x => m2.bind fun lo => m3.bind fun hi => cutX x lo hi) := fun F1 H1 g1 Q q => by
  refine ha F1 H1 g1 _ ?_
  cases m1 with
  | ok x =>
    rintro F2 H2 vx g2 rfl
    refine hl F2 H2 (g1.tr g2) _ ?_
    cases m2 with
    | ok lo =>
      intro F3 H3 g3
      refine hh F3 H3 ((g1.tr g2).tr g3) _ ?_
      cases m3 with
      | ok hi =>
        intro F4 H4 g4
        have q' : Post ce (rv K) (cutX x lo hi) F1 H1 Q E := q
        unfold cutX chk at q'
        split at q'
        · rename_i h
          exact ⟨x, rfl, sl_le h, q' F4 H4 _ ((g2.tr g3).tr g4) rfl⟩
        · exact q'.elim
      | er c => exact fun H' e => q H' ((g2.tr g3).hh.tr e)
      | bad => exact q
    | er c => exact fun H' e => q H' (g2.hh.tr e)
    | bad => exact q
  | er c => exact q
  | bad => exact q
theorem a_lenX {x : Str} : OpA ce E (RC K R0) (fun xs H Q => ∃ z, xs = [V.str z] ∧ z.length ≤ sizeLine ∧ Q (.int z.length) H) (rv K) (x, ()) (lenX x) := fun F1 H1 vs e ⟨v, r, e1, h, e3⟩ Q q => by
  cases e3
  subst e1
  cases h
  unfold lenX chk at q
  split at q
  · rename_i hl
    exact ⟨x, rfl, sl_le hl, q F1 H1 _ (Gr.rf e) rfl⟩
  · exact q.elim
theorem a_strX {i : Int} : OpA ce E (RC K R0) (fun xs H Q => ∃ i, xs = [V.int i] ∧ i.natAbs.log2 < 1920 ∧ Q (.str (toString i)) H) (rv K) (i, ()) (strX i) := fun F1 H1 vs e ⟨v, r, e1, h, e3⟩ Q q => by
  cases e3
  subst e1
  cases h
  unfold strX chk at q
  split at q
  · rename_i hl
    exact ⟨i, rfl, hl, q F1 H1 _ (Gr.rf e) rfl⟩
  · exact q.elim
theorem a_intX {x : Str} : OpA ce E (RC K R0) (fun xs H Q => ∃ a n, xs = [V.str a] ∧ PySem.intText? a = some n ∧ a.length ≤ 640 ∧ Q (.int n) H) (rv K) (x, ()) (intX x) := fun F1 H1 vs e ⟨v, r, e1, h, e3⟩ Q q => by
  cases e3
  subst e1
  cases h
  unfold intX at q
  split at q
  · rename_i n hn
    unfold chk at q
    split at q
    · rename_i hl
      exact ⟨x, n, rfl, hn, hl, q F1 H1 _ (Gr.rf e) rfl⟩
    · exact q.elim
  · exact q.elim
theorem em_findX {m1 m2 : M Str} (ha : Ev ce E ta σ F H (rv K) m1) (hb : Ev ce E tb σ F H (rv K) m2) :
    Ev ce E (tM1 (fun x xs H Q => ∃ a b, x = V.str a ∧ xs = [V.str b] ∧ Q (.int (Txt.find a b)) H) ta tb) σ F H (rv K) (m1.bind fun x => m2.bind fun y => .ok (Txt.find x y)) := fun F1 H1 g1 Q q => by
  refine ha F1 H1 g1 _ ?_
  cases m1 with
  | ok x =>
    rintro F2 H2 vx g2 rfl
    refine ⟨⟨x, rfl⟩, hb F2 H2 (g1.tr g2) _ ?_⟩
    cases m2 with
    | ok y =>
      rintro F3 H3 vy g3 rfl
      exact ⟨x, y, rfl, rfl, q F3 H3 _ (g2.tr g3) rfl⟩
    | er c => exact fun H' e => q H' (g2.hh.tr e)
    | bad => exact q
  | er c => exact q
  | bad => exact q
end
end Mw

set_option Elab.async false
set_option linter.all false
set_option maxRecDepth 100000
set_option maxHeartbeats 4000000
noncomputable section
namespace Kx
open PySem L2 Mw
open Rep (rp)
def FUEL : Nat := 1000000
theorem pow_10_60 : (10 : Int) ^ (60 : Int).toNat = 1000000000000000000000000000000000000000000000000000000000000 := by decide +kernel
theorem pow_10_61 : (10 : Int) ^ (61 : Int).toNat = 10000000000000000000000000000000000000000000000000000000000000 := by decide +kernel
theorem pow_10_64 : (10 : Int) ^ (64 : Int).toNat = 10000000000000000000000000000000000000000000000000000000000000000 := by decide +kernel
/-! ### _law_word -/
@[irreducible] def m_law_word_b1 (rest_229 : Int) (x_390 : Int) (s_389 : Str) : M (Ctl Str Str) :=
  (((((M.ok (rest_229 / (15 : Int))).bind fun x_411 => (M.ok (x_390 + (1 : Int))).bind fun y_412 => mulM x_411 y_412).bind fun x_415 => ((M.ok x_390).bind fun x_413 => (M.ok x_390).bind fun y_414 => mulM x_413 y_414).bind fun y_416 => .ok (x_415 + y_416)).bind fun x_417 => (M.ok (26 : Int)).bind fun y_418 => modM x_417 y_418).bind fun at_419 => (((M.ok s_389).bind fun x_428 => (((M.ok (Str.ofString "abcdefghijklmnopqrstuvwxyz")).bind fun x_425 => (M.ok at_419).bind fun y_426 => ixX x_425 y_426).bind fun x_427 => .ok (gx x_427)).bind fun y_429 => catX x_428 y_429).bind fun word_430 => (M.ok (.nx word_430))))
@[irreducible] def m_law_word (a0_cell : Int) : M Str :=
  ((M.ok (a0_cell % (4 : Int))).bind fun sort_223 => ((M.ok (a0_cell / (8 : Int))).bind fun rest_229 => ((strX (rest_229 % (10000000000000000000000000000000000000000000000000000000000000 : Int))).bind fun word_236 => (M.bind ((M.ok (decide (sort_223 = (0 : Int)))).bind fun b => if b then ((M.ok (Str.ofString "")).bind fun word_380 => (((M.ok (rest_229 % (15 : Int))).bind rng1M).bind fun xs_444 => forM (m_law_word_b1 rest_229) (fun s_439 => (M.ok s_439)) xs_444 word_380)) else (M.ok word_236)) fun s_245 => (M.bind ((M.ok (decide (sort_223 = (1 : Int)))).bind fun b => if b then (((M.ok (Str.ofString "0")).bind fun x_369 => (M.ok s_245).bind fun y_370 => catX x_369 y_370).bind fun word_371 => (M.ok word_371)) else (M.ok s_245)) fun s_257 => (M.bind ((M.ok ((decide (sort_223 = (2 : Int))) && (decide ((rest_229 % (3 : Int)) = (0 : Int))))).bind fun b => if b then ((strX ((10000000000000000000000000000000000000000000000000000000000000 : Int) + (rest_229 % (10000000000000000000000000000000000000000000000000000000000000 : Int)))).bind fun word_360 => (M.ok word_360)) else (M.ok s_257)) fun s_267 => (M.bind ((M.ok ((decide (sort_223 = (2 : Int))) && (decide ((rest_229 % (3 : Int)) = (1 : Int))))).bind fun b => if b then ((strX ((1000000000000000000000000000000000000000000000000000000000000 : Int) + (rest_229 % (1000000000000000000000000000000000000000000000000000000000000 : Int)))).bind fun word_350 => (M.ok word_350)) else (M.ok s_267)) fun s_277 => (M.bind ((M.ok (decide (((a0_cell / (4 : Int)) % (2 : Int)) = (1 : Int)))).bind fun b => if b then ((M.ok (Str.ofString " \t\nAZaz09-+_.`{/")).bind fun odd_300 => (((M.ok rest_229).bind fun x_309 => ((lenX s_277).bind fun x_307 => (M.ok (1 : Int)).bind fun y_308 => .ok (x_307 + y_308)).bind fun y_310 => modM x_309 y_310).bind fun at_311 => (((M.ok odd_300).bind fun x_320 => ((M.ok (rest_229 / (7 : Int))).bind fun x_318 => (lenX odd_300).bind fun y_319 => modM x_318 y_319).bind fun y_321 => ixX x_320 y_321).bind fun sign_322 => (((((M.ok s_277).bind fun x_329 => (M.ok (none : Option Int)).bind fun lo_330 => ((M.ok at_311).bind fun x_328 => .ok (some x_328)).bind fun hi_331 => cutX x_329 lo_330 hi_331).bind fun x_332 => (M.ok (gx sign_322)).bind fun y_333 => catX x_332 y_333).bind fun x_338 => ((M.ok s_277).bind fun x_335 => ((M.ok (at_311 + (1 : Int))).bind fun x_334 => .ok (some x_334)).bind fun lo_336 => (M.ok (none : Option Int)).bind fun hi_337 => cutX x_335 lo_336 hi_337).bind fun y_339 => catX x_338 y_339).bind fun word_340 => (M.ok word_340))))) else (M.ok s_277)) fun s_287 => (M.ok s_287)))))))))
/-! ### made_of -/
@[irreducible] def m_made_of_b1 (a1_signs : Str) (x_485 : Sg) (s_484 : Unit) : M (Ctl Unit Bool) :=
  ((M.ok (!decide (x_485.c ∈ a1_signs.cps.toList))).bind fun b => if b then ((M.ok false).bind fun r_508 => .ok (.rt r_508)) else (M.ok (.nx ())))
@[irreducible] def m_made_of (a0_word : Str) (a1_signs : Str) (a2_most : Int) : M Bool :=
  (((M.ok a0_word).bind fun x => .ok (x.cps.toList.map Sg.mk)).bind fun xs_520 => forM (m_made_of_b1 a1_signs) (fun s_511 => ((M.ok (1 : Int)).bind fun x_516 => (lenX a0_word).bind fun y_517 => if decide (x_516 ≤ y_517) then (M.ok a2_most).bind fun z_518 => .ok (decide (y_517 ≤ z_518)) else .ok false)) xs_520 ())
/-! ### is_name -/
@[irreducible] def m_is_name (a0_word : Str) : M Bool :=
  (m_made_of a0_word (Str.ofString "abcdefghijklmnopqrstuvwxyz") (12)).ne
/-! ### _law_all -/
@[irreducible] def m_law_all_b1 (a1_signs : Str) (x_561 : Sg) (s_560 : Unit) : M (Ctl Unit Bool) :=
  ((M.ok (!decide (x_561.c ∈ a1_signs.cps.toList))).bind fun b => if b then ((M.ok false).bind fun r_584 => .ok (.rt r_584)) else (M.ok (.nx ())))
@[irreducible] def m_law_all (a0_word : Str) (a1_signs : Str) (a2_most : Int) : M Bool :=
  (((M.ok a0_word).bind fun x => .ok (x.cps.toList.map Sg.mk)).bind fun xs_596 => forM (m_law_all_b1 a1_signs) (fun s_587 => ((M.ok (0 : Int)).bind fun x_592 => (lenX a0_word).bind fun y_593 => if decide (x_592 < y_593) then (M.ok a2_most).bind fun z_594 => .ok (decide (y_593 ≤ z_594)) else .ok false)) xs_596 ())
/-! ### _law_number -/
@[irreducible] def m_law_number_b1  (x_671 : Sg) (s_670 : Int) : M (Ctl Int (Option Int)) :=
  (((M.ok ((10 : Int) * s_670)).bind fun x_694 => ((M.ok (Str.ofString "0123456789")).bind fun x_692 => (M.ok (gx x_671)).bind fun y_693 => .ok (Txt.find x_692 y_693)).bind fun y_695 => .ok (x_694 + y_695)).bind fun whole_696 => (M.ok (.nx whole_696)))
@[irreducible] def m_law_number (a0_word : Str) : M (Option Int) :=
  ((orM (notM (m_law_all a0_word (Str.ofString "0123456789") (61 : Int)).ne) (andM ((((M.ok a0_word).bind fun x_654 => (M.ok (0 : Int)).bind fun y_655 => ixX x_654 y_655).bind fun x_656 => .ok (gx x_656)).bind fun x_657 => (M.ok (Str.ofString "0")).bind fun y_658 => .ok (decide (x_657 = y_658))) (M.ok (!decide (a0_word = (Str.ofString "0")))))).bind fun b => if b then (M.ok (none : (Option Int))) else ((M.ok (0 : Int)).bind fun whole_662 => (((M.ok a0_word).bind fun x => .ok (x.cps.toList.map Sg.mk)).bind fun xs_710 => forM m_law_number_b1 (fun s_705 => (M.ok (some s_705))) xs_710 whole_662)))
/-! ### number_in -/
@[irreducible] def m_number_in (a0_word : Str) : M (Option Int) :=
  ((notM (m_made_of a0_word (Str.ofString "0123456789") (61)).ne).bind fun b => if b then (M.ok (none : (Option Int))) else ((andM ((((M.ok a0_word).bind fun x_729 => (M.ok (0 : Int)).bind fun y_730 => ixX x_729 y_730).bind fun x_731 => .ok (gx x_731)).bind fun x_732 => (M.ok (Str.ofString "0")).bind fun y_733 => .ok (decide (x_732 = y_733))) ((lenX a0_word).bind fun x_735 => (M.ok (1 : Int)).bind fun y_736 => .ok (decide (y_736 < x_735)))).bind fun b => if b then (M.ok (none : (Option Int))) else ((intX a0_word).bind fun x_741 => .ok (some x_741))))
/-! ### _law_whole -/
@[irreducible] def m_law_whole (a0_found : Int) : M Bool :=
  (M.ok (true && (!false)))
/-! ### law -/
@[irreducible] def m_law_b1  (x_827 : Int) (s_826 : Unit) : M (Ctl Unit Bool) :=
  ((m_law_word (x_827 % (10000000000000000000000000000000000000000000000000000000000000000 : Int))).ne.bind fun word_847 => ((m_is_name word_847).ne.bind fun named_853 => ((orM (M.ok (!true)) ((M.ok named_853).bind fun x_859 => (m_law_all word_847 (Str.ofString "abcdefghijklmnopqrstuvwxyz") (12 : Int)).ne.bind fun y_860 => .ok (!decide (x_859 = y_860)))).bind fun b => if b then ((M.ok false).bind fun r_864 => .ok (.rt r_864)) else ((m_law_number word_847).ne.bind fun due_865 => ((m_number_in word_847).ne.bind fun found_871 => ((M.ok ((!Option.isSome due_865) && (Option.isSome found_871))).bind fun b => if b then ((M.ok false).bind fun r_880 => .ok (.rt r_880)) else ((andM (M.ok (Option.isSome due_865)) (orM (notM ((((M.ok found_871).bind getM).bind fun x_881 => (M.ok ()).bind fun y_882 => .ok (x_881, y_882)).bind fun a_883 => (m_law_whole a_883.1).ne)) (M.ok (!decide (found_871 = due_865))))).bind fun b => if b then ((M.ok false).bind fun r_887 => .ok (.rt r_887)) else (M.ok (.nx ())))))))))
@[irreducible] def m_law (a0_script : Scr) : M Bool :=
  (((M.ok a0_script).bind fun x_819 => (M.ok [(0 : Int)]).bind fun y_820 => catM x_819.l y_820).bind fun xs_895 => forM m_law_b1 (fun s_890 => (M.ok true)) xs_895 ())
/-! ### the plain law -/
theorem xl_app (x y : Str) : (x ++ y).length = x.length + y.length := by
  show (x.cps ++ y.cps).size = _
  rw [Array.size_append]
  rfl
theorem gx_len (s : Sg) : (gx s).length = 1 := rfl
theorem catX_ok {x y : Str} (h : x.length + y.length ≤ 1000) : catX x y = .ok (x ++ y) := chk_pos (by omega) _
theorem lenX_ok {x : Str} (h : x.length ≤ 1000) : lenX x = .ok (x.length : Int) := chk_pos (by omega) _
theorem cutX_ok {x : Str} (h : x.length ≤ 1000) (lo hi : Option Int) : cutX x lo hi = .ok (cutS x lo hi) := chk_pos (by omega) _
theorem tl_len (x : Str) : x.cps.toList.length = x.length := Array.length_toList
theorem ixX_ok {x : Str} (hl : x.length ≤ 1000) {i : Int} (h0 : 0 ≤ i) (h1 : i < (x.length : Int)) : ∃ s, ixX x i = .ok s := by
  obtain ⟨n, rfl⟩ := Int.eq_ofNat_of_zero_le h0
  have hn : n < x.cps.toList.length := by rw [tl_len]; omega
  have e := atI_nat (List.getElem?_eq_getElem hn)
  exact ⟨⟨x.cps.toList[n]⟩, by
    unfold ixX
    rw [e]
    exact chk_pos (by omega) _⟩
theorem strX_ok {i : Int} (h0 : 0 ≤ i) (h : i < 10 ^ 62) : ∃ w, strX i = .ok w ∧ w.length ≤ 62 := by
  obtain ⟨n, rfl⟩ := Int.eq_ofNat_of_zero_le h0
  have hn : n < 10 ^ 62 := by
    have e : ((10 : Int) ^ 62) = ((10 ^ 62 : Nat) : Int) := by decide +kernel
    rw [e] at h
    exact Int.ofNat_lt.mp h
  refine ⟨_, chk_pos ?_ _, ?_⟩
  · rw [Int.natAbs_natCast]
    by_cases z : n = 0
    · rw [z]; decide
    · exact (Nat.log2_lt z).mpr (Nat.lt_trans hn (by decide +kernel))
  · rw [TL.len_tl, TL.tl_num]
    exact TL.numL_len (by decide) hn
theorem abc_len : (Str.ofString "abcdefghijklmnopqrstuvwxyz").length = 26 := by decide +kernel
theorem odd_len : (Str.ofString " \t\nAZaz09-+_.`{/").length = 16 := by decide +kernel
theorem small_i {x : Int} (h0 : 0 ≤ x) (h : x ≤ 10 ^ 100) : x.natAbs < 2 ^ 10000 := by
  have e : (10 : Nat) ^ 100 < 2 ^ 10000 := by decide +kernel
  have : x.natAbs ≤ 10 ^ 100 := by
    have e : ((10 : Int) ^ 100) = ((10 ^ 100 : Nat) : Int) := by decide +kernel
    rw [e] at h
    omega
  omega
theorem word_ok (c : Int) (h0 : 0 ≤ c) (h1 : c < 10 ^ 64) : ∃ w, m_law_word c = .ok w ∧ w.length ≤ 1000 := by
  have h1' : c < 10000000000000000000000000000000000000000000000000000000000000000 := h1
  obtain ⟨w1, e1, l1⟩ := strX_ok (i := c / 8 % 10000000000000000000000000000000000000000000000000000000000000) (by omega) (by
    have : (10 : Int) ^ 62 = 100000000000000000000000000000000000000000000000000000000000000 := by decide +kernel
    omega)
  obtain ⟨w2, e2, l2⟩ := strX_ok (i := 10000000000000000000000000000000000000000000000000000000000000 + c / 8 % 10000000000000000000000000000000000000000000000000000000000000) (by omega) (by
    have : (10 : Int) ^ 62 = 100000000000000000000000000000000000000000000000000000000000000 := by decide +kernel
    omega)
  obtain ⟨w3, e3, l3⟩ := strX_ok (i := 1000000000000000000000000000000000000000000000000000000000000 + c / 8 % 1000000000000000000000000000000000000000000000000000000000000) (by omega) (by
    have : (10 : Int) ^ 62 = 100000000000000000000000000000000000000000000000000000000000000 := by decide +kernel
    omega)
  unfold m_law_word
  simp only [M.ok_bind, Mw.bind_assoc, ne_ok]
  rw [e1]
  simp only [M.ok_bind, Mw.bind_assoc, ne_ok]
  -- the drawn letters
  have s1 : ∃ w, (if decide (c % 4 = 0) = true then (rng1M (c / 8 % 15)).bind fun xs => forM (m_law_word_b1 (c / 8)) (fun s => M.ok s) xs (Str.ofString "") else M.ok w1) = .ok w ∧ w.length ≤ 70 := by
    by_cases c0 : c % 4 = 0
    · rw [if_pos (decide_eq_true c0), rng1M_ok (by omega)]
      simp only [M.ok_bind]
      obtain ⟨n, hn⟩ := Int.eq_ofNat_of_zero_le (show 0 ≤ c / 8 % 15 by omega)
      have n15 : n < 15 := by omega
      rw [hn]
      obtain ⟨s, q1, q2⟩ := forM_ex (f := m_law_word_b1 (c / 8)) (k := fun s => M.ok s) (fun pre (s : Str) => s.length ≤ pre.length) (rng 0 (n : Int)) [] (Str.ofString "") (by decide +kernel) (fun p x s hp hJ => by
        obtain ⟨ex, hx⟩ := rng_pre hp
        have b1 : (c / 8 / 15).natAbs < 2 ^ 10000 := small_i (by omega) (by
          have : (10 : Int) ^ 64 ≤ 10 ^ 100 := by decide +kernel
          have : c / 8 / 15 ≤ c := by omega
          omega)
        have b2 : (x + 1).natAbs < 2 ^ 10000 := small_i (by omega) (by
          have : (100 : Int) ≤ 10 ^ 100 := by decide +kernel
          omega)
        have b3 : x.natAbs < 2 ^ 10000 := small_i (by omega) (by
          have : (100 : Int) ≤ 10 ^ 100 := by decide +kernel
          omega)
        unfold m_law_word_b1
        simp only [M.ok_bind, Mw.bind_assoc, ne_ok]
        rw [mulM_ok b1 b2, mulM_ok b3 b3]
        simp only [M.ok_bind, Mw.bind_assoc, ne_ok]
        rw [modM_ok (by decide)]
        simp only [M.ok_bind, Mw.bind_assoc, ne_ok]
        obtain ⟨g, eg⟩ := ixX_ok (x := Str.ofString "abcdefghijklmnopqrstuvwxyz") (by rw [abc_len]; decide) (i := (c / 8 / 15 * (x + 1) + x * x) % 26) (Int.emod_nonneg _ (by decide)) (by rw [abc_len]; exact Int.emod_lt_of_pos _ (by decide))
        rw [eg]
        simp only [M.ok_bind, Mw.bind_assoc, ne_ok]
        rw [catX_ok (by rw [gx_len]; omega)]
        refine ⟨_, rfl, ?_⟩
        rw [xl_app, gx_len, List.length_append, List.length_singleton]
        omega)
      rw [List.nil_append] at q1
      have rl : (rng 0 (n : Int)).length = n := by unfold rng; simp
      rw [rl] at q1
      exact ⟨s, q2, by omega⟩
    · rw [if_neg (by simpa using c0)]
      exact ⟨_, rfl, by omega⟩
  obtain ⟨v1, f1, m1⟩ := s1
  rw [f1]
  simp only [M.ok_bind, Mw.bind_assoc, ne_ok]
  have z1 : (Str.ofString "0").length = 1 := by decide +kernel
  have s2 : ∃ w, (if decide (c % 4 = 1) = true then (catX (Str.ofString "0") v1).bind fun s => M.ok s else M.ok v1) = .ok w ∧ w.length ≤ 71 := by
    by_cases c0 : c % 4 = 1
    · rw [if_pos (decide_eq_true c0), catX_ok (by omega)]
      exact ⟨_, rfl, by rw [xl_app]; omega⟩
    · rw [if_neg (by simpa using c0)]
      exact ⟨_, rfl, by omega⟩
  obtain ⟨v2, f2, m2⟩ := s2
  rw [f2]
  simp only [M.ok_bind, Mw.bind_assoc, ne_ok]
  rw [e2]
  simp only [M.ok_bind, Mw.bind_assoc, ne_ok]
  have s3 : ∃ w, (if (decide (c % 4 = 2) && decide (c / 8 % 3 = 0)) = true then M.ok w2 else M.ok v2) = .ok w ∧ w.length ≤ 71 := by
    split
    · exact ⟨_, rfl, by omega⟩
    · exact ⟨_, rfl, by omega⟩
  obtain ⟨v3, f3, m3⟩ := s3
  rw [f3]
  simp only [M.ok_bind, Mw.bind_assoc, ne_ok]
  rw [e3]
  simp only [M.ok_bind, Mw.bind_assoc, ne_ok]
  have s4 : ∃ w, (if (decide (c % 4 = 2) && decide (c / 8 % 3 = 1)) = true then M.ok w3 else M.ok v3) = .ok w ∧ w.length ≤ 71 := by
    split
    · exact ⟨_, rfl, by omega⟩
    · exact ⟨_, rfl, by omega⟩
  obtain ⟨v4, f4, m4⟩ := s4
  rw [f4]
  simp only [M.ok_bind, Mw.bind_assoc, ne_ok]
  by_cases c0 : c / 4 % 2 = 1
  · rw [if_pos (decide_eq_true c0), lenX_ok (by omega), lenX_ok (by rw [odd_len]; decide)]
    simp only [M.ok_bind, Mw.bind_assoc, ne_ok]
    rw [modM_ok (by omega), odd_len]
    simp only [M.ok_bind, Mw.bind_assoc, ne_ok]
    rw [modM_ok (by decide)]
    simp only [M.ok_bind, Mw.bind_assoc, ne_ok]
    obtain ⟨g, eg⟩ := ixX_ok (x := Str.ofString " \t\nAZaz09-+_.`{/") (by rw [odd_len]; decide) (i := c / 8 / 7 % ((16 : Nat) : Int)) (Int.emod_nonneg _ (by decide)) (by rw [odd_len]; exact Int.emod_lt_of_pos _ (by decide))
    rw [eg]
    simp only [M.ok_bind, Mw.bind_assoc, ne_ok]
    rw [cutX_ok (by omega), cutX_ok (by omega)]
    have k1 := cutS_length v4 none (some (c / 8 % ((v4.length : Int) + 1)))
    have k2 := cutS_length v4 (some (c / 8 % ((v4.length : Int) + 1) + 1)) none
    simp only [M.ok_bind, Mw.bind_assoc, ne_ok]
    rw [catX_ok (by rw [gx_len]; omega)]
    simp only [M.ok_bind, Mw.bind_assoc, ne_ok]
    rw [catX_ok (by rw [xl_app, gx_len]; omega)]
    exact ⟨_, rfl, by rw [xl_app, xl_app, gx_len]; omega⟩
  · rw [if_neg (by simpa using c0)]
    exact ⟨_, rfl, by omega⟩
def mk (w signs : Str) (most : Int) : Bool := (w.cps.toList.all fun c => decide (c ∈ signs.cps.toList)) && decide (1 ≤ (w.length : Int)) && decide ((w.length : Int) ≤ most)
theorem made_is (w signs : Str) (most : Int) (h : w.length ≤ 1000) : m_made_of w signs most = .ok (mk w signs most) ∧ m_law_all w signs most = .ok (mk w signs most) := by
  have go1 : ∀ (k : Unit → M Bool) (l : List Nat), forM (m_made_of_b1 signs) k (l.map Sg.mk) () = if (l.all fun c => decide (c ∈ signs.cps.toList)) = true then k () else .ok false := fun k l => by
    induction l with
    | nil => rfl
    | cons c r ih =>
      have eb : m_made_of_b1 signs ⟨c⟩ () = if c ∈ signs.cps.toList then .ok (.nx ()) else .ok (.rt false) := by
        unfold m_made_of_b1
        simp only [M.ok_bind]
        by_cases z : c ∈ signs.cps.toList
        · rw [decide_eq_true z, if_pos z]; rfl
        · rw [decide_eq_false z, if_neg z]; rfl
      rw [List.map_cons, forM_cons, eb, List.all_cons]
      by_cases z : c ∈ signs.cps.toList
      · rw [if_pos z, decide_eq_true z, Bool.true_and]; exact ih
      · rw [if_neg z, decide_eq_false z, Bool.false_and, if_neg (by decide)]; rfl
  have go2 : ∀ (k : Unit → M Bool) (l : List Nat), forM (m_law_all_b1 signs) k (l.map Sg.mk) () = if (l.all fun c => decide (c ∈ signs.cps.toList)) = true then k () else .ok false := fun k l => by
    induction l with
    | nil => rfl
    | cons c r ih =>
      have eb : m_law_all_b1 signs ⟨c⟩ () = if c ∈ signs.cps.toList then .ok (.nx ()) else .ok (.rt false) := by
        unfold m_law_all_b1
        simp only [M.ok_bind]
        by_cases z : c ∈ signs.cps.toList
        · rw [decide_eq_true z, if_pos z]; rfl
        · rw [decide_eq_false z, if_neg z]; rfl
      rw [List.map_cons, forM_cons, eb, List.all_cons]
      by_cases z : c ∈ signs.cps.toList
      · rw [if_pos z, decide_eq_true z, Bool.true_and]; exact ih
      · rw [if_neg z, decide_eq_false z, Bool.false_and, if_neg (by decide)]; rfl
  constructor
  · unfold m_made_of mk
    simp only [M.ok_bind, Mw.bind_assoc, ne_ok]
    rw [go1]
    by_cases z : (w.cps.toList.all fun c => decide (c ∈ signs.cps.toList)) = true
    · rw [if_pos z, z, Bool.true_and, lenX_ok h]
      simp only [M.ok_bind]
      by_cases y : (1 : Int) ≤ (w.length : Int)
      · rw [decide_eq_true y, if_pos rfl, Bool.true_and]
      · rw [decide_eq_false y, if_neg (by decide), Bool.false_and]
    · rw [if_neg z]
      rw [Bool.not_eq_true] at z
      rw [z]
      rfl
  · unfold m_law_all mk
    simp only [M.ok_bind, Mw.bind_assoc, ne_ok]
    rw [go2]
    by_cases z : (w.cps.toList.all fun c => decide (c ∈ signs.cps.toList)) = true
    · rw [if_pos z, z, Bool.true_and, lenX_ok h]
      simp only [M.ok_bind]
      by_cases y : (1 : Int) ≤ (w.length : Int)
      · rw [decide_eq_true y, decide_eq_true (by omega : (0 : Int) < (w.length : Int)), if_pos rfl, Bool.true_and]
      · rw [decide_eq_false y, decide_eq_false (by omega : ¬ (0 : Int) < (w.length : Int)), if_neg (by decide), Bool.false_and]
    · rw [if_neg z]
      rw [Bool.not_eq_true] at z
      rw [z]
      rfl
theorem figs : (Str.ofString "0123456789").cps.toList = [48, 49, 50, 51, 52, 53, 54, 55, 56, 57] := by decide +kernel
theorem find_dig {c : Nat} (h : c ∈ (Str.ofString "0123456789").cps.toList) : Txt.find (Str.ofString "0123456789") (gx ⟨c⟩) = ((c - 48 : Nat) : Int) ∧ 48 ≤ c ∧ c ≤ 57 := by
  rw [figs] at h
  simp only [List.mem_cons, List.not_mem_nil, or_false] at h
  rcases h with rfl | rfl | rfl | rfl | rfl | rfl | rfl | rfl | rfl | rfl <;> exact ⟨by decide +kernel, by decide, by decide⟩
theorem zero_x : Str.ofString "0" = gx ⟨48⟩ := by decide +kernel
theorem sg_inj {a b : Nat} : gx ⟨a⟩ = gx ⟨b⟩ ↔ a = b := by
  unfold gx
  simp
theorem number_is (w : Str) (h : w.length ≤ 1000) : ∃ v, m_law_number w = .ok v ∧ m_number_in w = .ok v := by
  unfold m_law_number m_number_in
  simp only [M.ok_bind, Mw.bind_assoc, ne_ok]
  rw [(made_is w _ 61 h).1, (made_is w _ 61 h).2]
  simp only [M.ok_bind, Mw.bind_assoc, ne_ok, notM_ok]
  by_cases c : mk w (Str.ofString "0123456789") 61 = true
  · rw [c]
    have c' := c
    unfold mk at c'
    rw [Bool.and_eq_true, Bool.and_eq_true, decide_eq_true_eq, decide_eq_true_eq, List.all_eq_true] at c'
    obtain ⟨⟨d1, d2⟩, d3⟩ := c'
    have dig : ∀ x ∈ w.cps.toList, x ∈ (Str.ofString "0123456789").cps.toList := fun x hx => of_decide_eq_true (d1 x hx)
    have ad : NumText.AllDigits w.cps.toList := fun x hx => (find_dig (dig x hx)).2
    have hl : 0 < w.cps.toList.length := by rw [tl_len]; omega
    have ne : w.cps.toList ≠ [] := List.length_pos_iff.mp hl
    have e0 : ixX w 0 = .ok ⟨w.cps.toList[0]⟩ := by
      unfold ixX
      rw [show (0 : Int) = ((0 : Nat) : Int) from rfl, atI_nat (List.getElem?_eq_getElem hl)]
      exact chk_pos (by omega) _
    rw [show (!true) = false from rfl, orM_f, e0]
    simp only [M.ok_bind, Mw.bind_assoc, ne_ok]
    rw [lenX_ok h]
    simp only [M.ok_bind, Mw.bind_assoc, ne_ok]
    have tail : ∃ v, forM m_law_number_b1 (fun s => M.ok (some s)) (w.cps.toList.map Sg.mk) (0 : Int) = .ok v ∧ ((intX w).bind fun x => M.ok (some x)) = .ok v := by
      have go : ∀ (l : List Nat) (a : Nat), (∀ x ∈ l, x ∈ (Str.ofString "0123456789").cps.toList) → forM m_law_number_b1 (fun s => M.ok (some s)) (l.map Sg.mk) (a : Int) = .ok (some ((l.foldl (fun acc c => acc * 10 + (c - 48)) a : Nat) : Int)) := fun l => by
        induction l with
        | nil => intro a _; rfl
        | cons x r ih =>
          intro a hx
          have f := find_dig (hx x List.mem_cons_self)
          have eb : m_law_number_b1 ⟨x⟩ (a : Int) = .ok (.nx ((a * 10 + (x - 48) : Nat) : Int)) := by
            unfold m_law_number_b1
            simp only [M.ok_bind]
            rw [f.1]
            congr 2
            push_cast
            omega
          rw [List.map_cons, forM_cons, eb, List.foldl_cons]
          exact ih _ fun y hy => hx y (List.mem_cons_of_mem _ hy)
      refine ⟨_, go w.cps.toList 0 dig, ?_⟩
      unfold intX
      rw [intText_digits ad ne (by omega)]
      show (chk (w.length ≤ 640) _).bind _ = _
      rw [chk_pos (by omega : w.length ≤ 640)]
      rfl
    obtain ⟨v, t1, t2⟩ := tail
    by_cases z : w.cps.toList[0] = 48
    · have g0 : gx ⟨w.cps.toList[0]⟩ = Str.ofString "0" := by rw [z, zero_x]
      rw [decide_eq_true g0, andM_t, andM_t]
      simp only [M.ok_bind]
      have iff : w = Str.ofString "0" ↔ ¬ (1 : Int) < (w.length : Int) := by
        constructor
        · intro e
          rw [e]
          decide +kernel
        · intro e
          have l1 : w.cps.toList.length = 1 := by rw [tl_len]; omega
          obtain ⟨x, hx⟩ := List.length_eq_one_iff.mp l1
          have : x = 48 := by
            have := z
            simp only [hx, List.getElem_cons_zero] at this
            exact this
          rw [zero_x]
          unfold gx
          cases w with
          | mk cps =>
            congr 1
            apply Array.toList_inj.mp
            rw [show (Str.mk cps).cps.toList = cps.toList from rfl] at hx
            rw [hx, this]
      by_cases y : (1 : Int) < (w.length : Int)
      · rw [decide_eq_true y, decide_eq_false (fun e => iff.mp e y)]
        exact ⟨none, rfl, rfl⟩
      · rw [decide_eq_false y, decide_eq_true (iff.mpr y)]
        exact ⟨v, t1, t2⟩
    · have g0 : ¬ gx ⟨w.cps.toList[0]⟩ = Str.ofString "0" := by
        rw [zero_x, sg_inj]
        exact z
      rw [decide_eq_false g0, andM_f, andM_f]
      exact ⟨v, t1, t2⟩
  · rw [Bool.not_eq_true] at c
    rw [c]
    exact ⟨none, rfl, rfl⟩
theorem law_true (ns : List Int) (h : ns.length ≤ 63) : m_law ⟨ns⟩ = .ok true := by
  unfold m_law
  simp only [M.ok_bind, Mw.bind_assoc, ne_ok]
  rw [catM_ok (by simp; omega)]
  simp only [M.ok_bind, Mw.bind_assoc, ne_ok]
  refine forM_all fun x _ => ?_
  obtain ⟨w, ew, lw⟩ := word_ok (x % 10000000000000000000000000000000000000000000000000000000000000000) (Int.emod_nonneg _ (by decide)) (Int.emod_lt_of_pos _ (by decide))
  obtain ⟨v, n1, n2⟩ := number_is w lw
  unfold m_law_b1 m_is_name m_law_whole
  simp only [M.ok_bind, Mw.bind_assoc, ne_ok]
  rw [ew]
  simp only [M.ok_bind, Mw.bind_assoc, ne_ok]
  rw [(made_is w _ 12 lw).1, (made_is w _ 12 lw).2, n1, n2]
  cases v with
  | none => simp
  | some v => simp [getM]

def topS (i : Nat) : Stmt := PySem.Challenge.pw_meshworks_k87_words.main.body.getD i (.Pass ⟨0, 0, 0, 0⟩)
section
variable {P : Program} {w : World} {K : PySem.W.Frag} {mg : Str → Option Value} {base : Heap} {ce : Ce}
/-! ### _law_word -/
abbrev s_law_word : Stmt := topS 10
abbrev N_law_word : List Str := ["cell", "sort", "rest", "word", "k", "at", "odd", "sign"]
theorem sc_law_word : FnScope N_law_word ["cell"] (defScope s_law_word) := ⟨rfl, rfl, rfl, by decide +kernel, rfl, by decide +kernel, by decide +kernel⟩
abbrev sp_law_word (K : PySem.W.Frag) (ce : Ce) : Sp := SpF0 ce (RC K (α := Int) R0) (rv K (ρ := Str)) (fun a : (Int × Unit) => m_law_word a.1)
theorem ok_law_word {f : Addr} {fd : FuncData} (FF : Fun K "_law_word" "_law_word" s_law_word f fd) (z_len : mg "len" = none) (z_range : mg "range" = none) (z_str : mg "str" = none) : FnOk P w K mg base CX0 1 f fd ["cell"] (sp_law_word K ce) := by
  refine FF.ok sc_law_word (fun vs H0 Q E h => ?_) (fun cdv A outer s H0 vs Q E hr h => ?_)
  · obtain ⟨F0, ⟨a0_cell, _⟩, e0, ⟨v0, _, rfl, r0, rfl⟩, w⟩ := h
    rfl
  · obtain ⟨F0, ⟨a0_cell, _⟩, e0, ⟨v0, _, rfl, r0, rfl⟩, w⟩ := h
    have w := wp_post w
    have G := Gr.rf e0
    have nd := sc_law_word.nd
    have hQ : ∀ r F1 H1 v, Gr F0 H0 F1 H1 → (rv K (ρ := Str)) F0 H0 F1 H1 v r → Fin (rv K (ρ := Str)) F0 H0 Q r → Q v H1 := fun r F1 H1 v g m p => p F1 H1 v g m
    refine ⟨_, (pss_cons (ps_set (i := 1) nd rfl (by first | exact Or.inl rfl | exact Or.inr rfl) (pe_op op_mod (pv 0) pe_int))
      (pss_cons (ps_set (i := 2) nd rfl (by first | exact Or.inl rfl | exact Or.inr rfl) (pe_op op_fdiv (pv 0) pe_int))
      (pss_cons (ps_set (i := 3) nd rfl (by first | exact Or.inl rfl | exact Or.inr rfl) (pe_callTy call_str_int (by rfl) z_str (by decide +kernel) (pa_cons (pe_op op_mod (pv 2) (pe_op op_pow pe_int pe_int)) pa_nil)))
      (pss_cons (ps_if (pt_cmpR op_eq (pv 1) pe_int (nomark _)) (pss_cons (ps_set (i := 3) nd rfl (by first | exact Or.inl rfl | exact Or.inr rfl) pe_str)
      (pss_one (ps_for (by first | exact PassesOwn.never | exact passes_of rfl) rfl (pi_range1 rfl z_range (pa_cons (pe_op op_mod (pv 2) pe_int) pa_nil)) (pg_name (i := 4) nd rfl (by first | exact Or.inl rfl | exact Or.inr rfl)) (pss_cons (ps_set (i := 5) nd rfl (by first | exact Or.inl rfl | exact Or.inr rfl) (pe_op op_mod (pe_op op_add (pe_op op_mulW (pe_op op_fdiv (pv 2) pe_int) (pe_op op_add (pv 4) pe_int)) (pe_op op_mulW (pv 4) (pv 4))) pe_int))
      (pss_one (ps_set (i := 3) nd rfl (by first | exact Or.inl rfl | exact Or.inr rfl) (pe_op op_add_str (pv 3) (pe_ix (r := rIxS) ix_str pe_str (pv 5) (fun _ _ => rfl))))))))) pss_nil)
      (pss_cons (ps_if (pt_cmpR op_eq (pv 1) pe_int (nomark _)) (pss_one (ps_set (i := 3) nd rfl (by first | exact Or.inl rfl | exact Or.inr rfl) (pe_op op_add_str pe_str (pv 3)))) pss_nil)
      (pss_cons (ps_if (PW.pt (pw_and (pt_cmpR op_eq (pv 1) pe_int (nomark _)) (pw_and1 (pt_cmpR op_eq (pe_op op_mod (pv 2) pe_int) pe_int (nomark _))))) (pss_one (ps_set (i := 3) nd rfl (by first | exact Or.inl rfl | exact Or.inr rfl) (pe_callTy call_str_int (by rfl) z_str (by decide +kernel) (pa_cons (pe_op op_add (pe_op op_pow pe_int pe_int) (pe_op op_mod (pv 2) (pe_op op_pow pe_int pe_int))) pa_nil)))) pss_nil)
      (pss_cons (ps_if (PW.pt (pw_and (pt_cmpR op_eq (pv 1) pe_int (nomark _)) (pw_and1 (pt_cmpR op_eq (pe_op op_mod (pv 2) pe_int) pe_int (nomark _))))) (pss_one (ps_set (i := 3) nd rfl (by first | exact Or.inl rfl | exact Or.inr rfl) (pe_callTy call_str_int (by rfl) z_str (by decide +kernel) (pa_cons (pe_op op_add (pe_op op_pow pe_int pe_int) (pe_op op_mod (pv 2) (pe_op op_pow pe_int pe_int))) pa_nil)))) pss_nil)
      (pss_cons (ps_if (pt_cmpR op_eq (pe_op op_mod (pe_op op_fdiv (pv 0) pe_int) pe_int) pe_int (nomark _)) (pss_cons (ps_set (i := 6) nd rfl (by first | exact Or.inl rfl | exact Or.inr rfl) pe_str)
      (pss_cons (ps_set (i := 5) nd rfl (by first | exact Or.inl rfl | exact Or.inr rfl) (pe_op op_mod (pv 2) (pe_op op_add (pe_callB call_len_str (by rfl) z_len (by decide +kernel) (pa_cons (pv 3) pa_nil)) pe_int)))
      (pss_cons (ps_set (i := 7) nd rfl (by first | exact Or.inl rfl | exact Or.inr rfl) (pe_ix (r := rIxS) ix_str (pv 6) (pe_op op_mod (pe_op op_fdiv (pv 2) pe_int) (pe_callB call_len_str (by rfl) z_len (by decide +kernel) (pa_cons (pv 6) pa_nil))) (fun _ _ => rfl)))
      (pss_one (ps_set (i := 3) nd rfl (by first | exact Or.inl rfl | exact Or.inr rfl) (pe_op op_add_str (pe_op op_add_str (pe_slice (r := rSlS) sl_str (pv 3) po_none (po_some (pv 5))) (pv 7)) (pe_slice (r := rSlS) sl_str (pv 3) (po_some (pe_op op_add (pv 5) pe_int)) po_none))))))) pss_nil)
      (pss_one (ps_ret (pv 3))))))))))), ?_⟩
    have w := show Wp ce E0 H0 (m_law_word a0_cell) _ from w
    unfold m_law_word at w
    refine q_asg (K := K) G w (e2 (em_var rfl r0) em_int (o_mod (by decide))) fun sort_223 F_224 H_225 v_227 g_226 r_228 w => ?_
    have G := G.tr g_226
    have r0 := Rep.mo (K := K) g_226.ff r0
    refine q_asg (K := K) G w (e2 (em_var rfl r0) em_int (o_fdiv ⟨by decide, by decide⟩)) fun rest_229 F_230 H_231 v_233 g_232 r_234 w => ?_
    have G := G.tr g_232
    have r0 := Rep.mo (K := K) g_232.ff r0
    have r_228 := Rep.mo (K := K) g_232.ff r_228
    refine q_asg (K := K) G w (em_cb1 (e_cons (e2 (em_var rfl r_234) (e_is (e2 em_int em_int (o_pow (by decide))) pow_10_61) (o_mod (by decide))) ea_nil) a_strX) fun word_236 F_237 H_238 v_240 g_239 r_241 w => ?_
    have G := G.tr g_239
    have r0 := Rep.mo (K := K) g_239.ff r0
    have r_228 := Rep.mo (K := K) g_239.ff r_228
    have r_234 := Rep.mo (K := K) g_239.ff r_234
    refine q_join (W := Str) (fun s F' H' σ' => ∃ (v_246 : V) (z_247 : Option V) (z_248 : Option V), σ' = [some v0, some v_227, some v_233, some v_246, z_247, z_248, none, none] ∧ Gr F0 H0 F' H' ∧ Ex F_237 F' ∧ rp (α := Str) K F' v_246 s) w ?_ ?_
    · rintro s_245 F_252 H_253 σs_245 ⟨v_246, z_247, z_248, hs_249, G, e_250, r_251⟩ w
      subst hs_249
      have r0 := Rep.mo (K := K) e_250 r0
      have r_228 := Rep.mo (K := K) e_250 r_228
      have r_234 := Rep.mo (K := K) e_250 r_234
      refine q_join (W := Str) (fun s F' H' σ' => ∃ (v_258 : V), σ' = [some v0, some v_227, some v_233, some v_258, z_247, z_248, none, none] ∧ Gr F0 H0 F' H' ∧ Ex F_252 F' ∧ rp (α := Str) K F' v_258 s) w ?_ ?_
      · rintro s_257 F_262 H_263 σs_257 ⟨v_258, hs_259, G, e_260, r_261⟩ w
        subst hs_259
        have r0 := Rep.mo (K := K) e_260 r0
        have r_228 := Rep.mo (K := K) e_260 r_228
        have r_234 := Rep.mo (K := K) e_260 r_234
        refine q_join (W := Str) (fun s F' H' σ' => ∃ (v_268 : V), σ' = [some v0, some v_227, some v_233, some v_268, z_247, z_248, none, none] ∧ Gr F0 H0 F' H' ∧ Ex F_262 F' ∧ rp (α := Str) K F' v_268 s) w ?_ ?_
        · rintro s_267 F_272 H_273 σs_267 ⟨v_268, hs_269, G, e_270, r_271⟩ w
          subst hs_269
          have r0 := Rep.mo (K := K) e_270 r0
          have r_228 := Rep.mo (K := K) e_270 r_228
          have r_234 := Rep.mo (K := K) e_270 r_234
          refine q_join (W := Str) (fun s F' H' σ' => ∃ (v_278 : V), σ' = [some v0, some v_227, some v_233, some v_278, z_247, z_248, none, none] ∧ Gr F0 H0 F' H' ∧ Ex F_272 F' ∧ rp (α := Str) K F' v_278 s) w ?_ ?_
          · rintro s_277 F_282 H_283 σs_277 ⟨v_278, hs_279, G, e_280, r_281⟩ w
            subst hs_279
            have r0 := Rep.mo (K := K) e_280 r0
            have r_228 := Rep.mo (K := K) e_280 r_228
            have r_234 := Rep.mo (K := K) e_280 r_234
            refine q_join (W := Str) (fun s F' H' σ' => ∃ (v_288 : V) (z_289 : Option V) (z_290 : Option V) (z_291 : Option V), σ' = [some v0, some v_227, some v_233, some v_288, z_247, z_290, z_289, z_291] ∧ Gr F0 H0 F' H' ∧ Ex F_282 F' ∧ rp (α := Str) K F' v_288 s) w ?_ ?_
            · rintro s_287 F_295 H_296 σs_287 ⟨v_288, z_289, z_290, z_291, hs_292, G, e_293, r_294⟩ w
              subst hs_292
              have r0 := Rep.mo (K := K) e_293 r0
              have r_228 := Rep.mo (K := K) e_293 r_228
              have r_234 := Rep.mo (K := K) e_293 r_234
              exact s_ret0 G w (em_var rfl r_294) fun r F1 H1 v g m p => hQ r F1 H1 v g m p
            · intro P_298 hk_297 w
              refine s_if2 G w (t_of (e2 (e2 (e2 (em_var rfl r0) em_int (o_fdiv ⟨by decide, by decide⟩)) em_int (o_mod (by decide))) em_int o_eqI)) (fun F_284 H_285 g_286 w => ?_) (fun F_284 H_285 g_286 w => ?_)
              · have e_299 : Ex F_282 F_284 := g_286.ff
                have G := G.tr g_286
                have r0 := Rep.mo (K := K) g_286.ff r0
                have r_228 := Rep.mo (K := K) g_286.ff r_228
                have r_234 := Rep.mo (K := K) g_286.ff r_234
                have r_281 := Rep.mo (K := K) g_286.ff r_281
                refine q_asg (K := K) G w em_tx fun odd_300 F_301 H_302 v_304 g_303 r_305 w => ?_
                have G := G.tr g_303
                have r0 := Rep.mo (K := K) g_303.ff r0
                have r_228 := Rep.mo (K := K) g_303.ff r_228
                have r_234 := Rep.mo (K := K) g_303.ff r_234
                have r_281 := Rep.mo (K := K) g_303.ff r_281
                have e_299 := Ex.tr e_299 g_303.ff
                refine q_asg (K := K) G w (em_op (em_var rfl r_234) (em_op (em_cb1 (e_cons (em_var rfl r_281) ea_nil) a_lenX) em_int fun _ _ => o_add) fun _ _ => o_modM) fun at_311 F_312 H_313 v_315 g_314 r_316 w => ?_
                have G := G.tr g_314
                have r0 := Rep.mo (K := K) g_314.ff r0
                have r_228 := Rep.mo (K := K) g_314.ff r_228
                have r_234 := Rep.mo (K := K) g_314.ff r_234
                have r_281 := Rep.mo (K := K) g_314.ff r_281
                have r_305 := Rep.mo (K := K) g_314.ff r_305
                have e_299 := Ex.tr e_299 g_314.ff
                refine q_asg (K := K) G w (em_op (em_var rfl r_305) (em_op (e2 (em_var rfl r_234) em_int (o_fdiv ⟨by decide, by decide⟩)) (em_cb1 (e_cons (em_var rfl r_305) ea_nil) a_lenX) fun _ _ => o_modM) fun _ _ => o_ixX) fun sign_322 F_323 H_324 v_326 g_325 r_327 w => ?_
                have G := G.tr g_325
                have r0 := Rep.mo (K := K) g_325.ff r0
                have r_228 := Rep.mo (K := K) g_325.ff r_228
                have r_234 := Rep.mo (K := K) g_325.ff r_234
                have r_281 := Rep.mo (K := K) g_325.ff r_281
                have r_305 := Rep.mo (K := K) g_325.ff r_305
                have r_316 := Rep.mo (K := K) g_325.ff r_316
                have e_299 := Ex.tr e_299 g_325.ff
                refine s_asg (K := K) G w (em_op (em_op (em_slX (em_var rfl r_281) eo_none (eo_some (K := K) (em_var rfl r_316))) (em_gx (m := .ok sign_322) (em_var rfl r_327)) fun _ _ => o_addX) (em_slX (em_var rfl r_281) (eo_some (K := K) (e2 (em_var rfl r_316) em_int o_add)) eo_none) fun _ _ => o_addX) fun word_340 F_341 H_342 v_344 g_343 r_345 w => ?_
                have G := G.tr g_343
                have r0 := Rep.mo (K := K) g_343.ff r0
                have r_228 := Rep.mo (K := K) g_343.ff r_228
                have r_234 := Rep.mo (K := K) g_343.ff r_234
                have r_305 := Rep.mo (K := K) g_343.ff r_305
                have r_316 := Rep.mo (K := K) g_343.ff r_316
                have r_327 := Rep.mo (K := K) g_343.ff r_327
                have e_299 := Ex.tr e_299 g_343.ff
                exact hk_297 _ w _ _ _ ⟨_, _, _, _, rfl, G, e_299, r_345⟩
              · have e_299 : Ex F_282 F_284 := g_286.ff
                have G := G.tr g_286
                have r0 := Rep.mo (K := K) g_286.ff r0
                have r_228 := Rep.mo (K := K) g_286.ff r_228
                have r_234 := Rep.mo (K := K) g_286.ff r_234
                have r_281 := Rep.mo (K := K) g_286.ff r_281
                refine s_next ?_
                exact hk_297 _ w _ _ _ ⟨_, _, _, _, rfl, G, e_299, r_281⟩
          · intro P_347 hk_346 w
            refine s_if2 G w (t_and (t_of (e2 (em_var rfl r_228) em_int o_eqI)) (t_of (e2 (e2 (em_var rfl r_234) em_int (o_mod (by decide))) em_int o_eqI))) (fun F_274 H_275 g_276 w => ?_) (fun F_274 H_275 g_276 w => ?_)
            · have e_348 : Ex F_272 F_274 := g_276.ff
              have G := G.tr g_276
              have r0 := Rep.mo (K := K) g_276.ff r0
              have r_228 := Rep.mo (K := K) g_276.ff r_228
              have r_234 := Rep.mo (K := K) g_276.ff r_234
              have r_271 := Rep.mo (K := K) g_276.ff r_271
              refine s_asg (K := K) G w (em_cb1 (e_cons (e2 (e_is (e2 em_int em_int (o_pow (by decide))) pow_10_60) (e2 (em_var rfl r_234) (e_is (e2 em_int em_int (o_pow (by decide))) pow_10_60) (o_mod (by decide))) o_add) ea_nil) a_strX) fun word_350 F_351 H_352 v_354 g_353 r_355 w => ?_
              have G := G.tr g_353
              have r0 := Rep.mo (K := K) g_353.ff r0
              have r_228 := Rep.mo (K := K) g_353.ff r_228
              have r_234 := Rep.mo (K := K) g_353.ff r_234
              have e_348 := Ex.tr e_348 g_353.ff
              exact hk_346 _ w _ _ _ ⟨_, rfl, G, e_348, r_355⟩
            · have e_348 : Ex F_272 F_274 := g_276.ff
              have G := G.tr g_276
              have r0 := Rep.mo (K := K) g_276.ff r0
              have r_228 := Rep.mo (K := K) g_276.ff r_228
              have r_234 := Rep.mo (K := K) g_276.ff r_234
              have r_271 := Rep.mo (K := K) g_276.ff r_271
              refine s_next ?_
              exact hk_346 _ w _ _ _ ⟨_, rfl, G, e_348, r_271⟩
        · intro P_357 hk_356 w
          refine s_if2 G w (t_and (t_of (e2 (em_var rfl r_228) em_int o_eqI)) (t_of (e2 (e2 (em_var rfl r_234) em_int (o_mod (by decide))) em_int o_eqI))) (fun F_264 H_265 g_266 w => ?_) (fun F_264 H_265 g_266 w => ?_)
          · have e_358 : Ex F_262 F_264 := g_266.ff
            have G := G.tr g_266
            have r0 := Rep.mo (K := K) g_266.ff r0
            have r_228 := Rep.mo (K := K) g_266.ff r_228
            have r_234 := Rep.mo (K := K) g_266.ff r_234
            have r_261 := Rep.mo (K := K) g_266.ff r_261
            refine s_asg (K := K) G w (em_cb1 (e_cons (e2 (e_is (e2 em_int em_int (o_pow (by decide))) pow_10_61) (e2 (em_var rfl r_234) (e_is (e2 em_int em_int (o_pow (by decide))) pow_10_61) (o_mod (by decide))) o_add) ea_nil) a_strX) fun word_360 F_361 H_362 v_364 g_363 r_365 w => ?_
            have G := G.tr g_363
            have r0 := Rep.mo (K := K) g_363.ff r0
            have r_228 := Rep.mo (K := K) g_363.ff r_228
            have r_234 := Rep.mo (K := K) g_363.ff r_234
            have e_358 := Ex.tr e_358 g_363.ff
            exact hk_356 _ w _ _ _ ⟨_, rfl, G, e_358, r_365⟩
          · have e_358 : Ex F_262 F_264 := g_266.ff
            have G := G.tr g_266
            have r0 := Rep.mo (K := K) g_266.ff r0
            have r_228 := Rep.mo (K := K) g_266.ff r_228
            have r_234 := Rep.mo (K := K) g_266.ff r_234
            have r_261 := Rep.mo (K := K) g_266.ff r_261
            refine s_next ?_
            exact hk_356 _ w _ _ _ ⟨_, rfl, G, e_358, r_261⟩
      · intro P_367 hk_366 w
        refine s_if2 G w (t_of (e2 (em_var rfl r_228) em_int o_eqI)) (fun F_254 H_255 g_256 w => ?_) (fun F_254 H_255 g_256 w => ?_)
        · have e_368 : Ex F_252 F_254 := g_256.ff
          have G := G.tr g_256
          have r0 := Rep.mo (K := K) g_256.ff r0
          have r_228 := Rep.mo (K := K) g_256.ff r_228
          have r_234 := Rep.mo (K := K) g_256.ff r_234
          have r_251 := Rep.mo (K := K) g_256.ff r_251
          refine s_asg (K := K) G w (em_op em_tx (em_var rfl r_251) fun _ _ => o_addX) fun word_371 F_372 H_373 v_375 g_374 r_376 w => ?_
          have G := G.tr g_374
          have r0 := Rep.mo (K := K) g_374.ff r0
          have r_228 := Rep.mo (K := K) g_374.ff r_228
          have r_234 := Rep.mo (K := K) g_374.ff r_234
          have e_368 := Ex.tr e_368 g_374.ff
          exact hk_366 _ w _ _ _ ⟨_, rfl, G, e_368, r_376⟩
        · have e_368 : Ex F_252 F_254 := g_256.ff
          have G := G.tr g_256
          have r0 := Rep.mo (K := K) g_256.ff r0
          have r_228 := Rep.mo (K := K) g_256.ff r_228
          have r_234 := Rep.mo (K := K) g_256.ff r_234
          have r_251 := Rep.mo (K := K) g_256.ff r_251
          refine s_next ?_
          exact hk_366 _ w _ _ _ ⟨_, rfl, G, e_368, r_251⟩
    · intro P_378 hk_377 w
      refine s_if2 G w (t_of (e2 (em_var rfl r_228) em_int o_eqI)) (fun F_242 H_243 g_244 w => ?_) (fun F_242 H_243 g_244 w => ?_)
      · have e_379 : Ex F_237 F_242 := g_244.ff
        have G := G.tr g_244
        have r0 := Rep.mo (K := K) g_244.ff r0
        have r_228 := Rep.mo (K := K) g_244.ff r_228
        have r_234 := Rep.mo (K := K) g_244.ff r_234
        have r_241 := Rep.mo (K := K) g_244.ff r_241
        refine q_asg (K := K) G w em_tx fun word_380 F_381 H_382 v_384 g_383 r_385 w => ?_
        have G := G.tr g_383
        have r0 := Rep.mo (K := K) g_383.ff r0
        have r_228 := Rep.mo (K := K) g_383.ff r_228
        have r_234 := Rep.mo (K := K) g_383.ff r_234
        have e_379 := Ex.tr e_379 g_383.ff
        refine s_for (S := Str) (fun s F' H' σ' => ∃ (v_386 : V) (z_387 : Option V) (z_388 : Option V), σ' = [some v0, some v_227, some v_233, some v_386, z_387, z_388, none, none] ∧ Gr F0 H0 F' H' ∧ Ex F_381 F' ∧ rp (α := Str) K F' v_386 s) G (ei_rng1 (e2 (em_var rfl r_234) em_int (o_mod (by decide)))) (tg_name (K := K)) w (fun _ _ g_443 => ⟨_, _, _, rfl, G.tr g_443, g_443.ff, Rep.mo (K := K) g_443.ff r_385⟩) (fun _ _ _ _ ⟨_, _, _, _, G, _⟩ => G) ?_ ?_
        · rintro x_390 s_389 F_391 H_392 _ ⟨v_386, z_387, z_388, hs_393, G, e_394, r_395⟩ F_396 H_397 σ_398 g_399 ⟨v_407, h_409, r_408⟩ D_404 P_405 hrt_406 hN_400 hC_401 hB_402 hP_403 w
          subst hs_393
          subst h_409
          have r0 := Rep.mo (K := K) e_394 r0
          have r_228 := Rep.mo (K := K) e_394 r_228
          have r_234 := Rep.mo (K := K) e_394 r_234
          have e_379 := Ex.tr e_379 e_394
          have G := G.tr g_399
          have r0 := Rep.mo (K := K) g_399.ff r0
          have r_228 := Rep.mo (K := K) g_399.ff r_228
          have r_234 := Rep.mo (K := K) g_399.ff r_234
          have r_395 := Rep.mo (K := K) g_399.ff r_395
          have e_379 := Ex.tr e_379 g_399.ff
          have e_394 := Ex.tr e_394 g_399.ff
          have e_410 := Ex.rf F_396
          unfold m_law_word_b1 at w
          refine q_asg (K := K) G w (em_op (em_op (em_op (e2 (em_var rfl r_234) em_int (o_fdiv ⟨by decide, by decide⟩)) (e2 (em_var rfl r_408) em_int o_add) fun _ _ => o_mul) (em_op (em_var rfl r_408) (em_var rfl r_408) fun _ _ => o_mul) fun _ _ => o_add) em_int fun _ _ => o_modM) fun at_419 F_420 H_421 v_423 g_422 r_424 w => ?_
          have G := G.tr g_422
          have r0 := Rep.mo (K := K) g_422.ff r0
          have r_228 := Rep.mo (K := K) g_422.ff r_228
          have r_234 := Rep.mo (K := K) g_422.ff r_234
          have r_395 := Rep.mo (K := K) g_422.ff r_395
          have r_408 := Rep.mo (K := K) g_422.ff r_408
          have e_379 := Ex.tr e_379 g_422.ff
          have e_394 := Ex.tr e_394 g_422.ff
          have e_410 := Ex.tr e_410 g_422.ff
          refine s_asg (K := K) G w (em_op (em_var rfl r_395) (em_gx (em_op em_tx (em_var rfl r_424) fun _ _ => o_ixX)) fun _ _ => o_addX) fun word_430 F_431 H_432 v_434 g_433 r_435 w => ?_
          have G := G.tr g_433
          have r0 := Rep.mo (K := K) g_433.ff r0
          have r_228 := Rep.mo (K := K) g_433.ff r_228
          have r_234 := Rep.mo (K := K) g_433.ff r_234
          have r_408 := Rep.mo (K := K) g_433.ff r_408
          have r_424 := Rep.mo (K := K) g_433.ff r_424
          have e_379 := Ex.tr e_379 g_433.ff
          have e_394 := Ex.tr e_394 g_433.ff
          have e_410 := Ex.tr e_410 g_433.ff
          exact hN_400 _ w _ _ _ e_410 ⟨_, _, _, rfl, G, e_394, r_435⟩
        · rintro s_439 F_440 H_441 _ e_442 ⟨v_386, z_387, z_388, hs_436, G, e_437, r_438⟩ w
          subst hs_436
          have r0 := Rep.mo (K := K) e_437 r0
          have r_228 := Rep.mo (K := K) e_437 r_228
          have r_234 := Rep.mo (K := K) e_437 r_234
          have e_379 := Ex.tr e_379 e_437
          exact hk_377 _ w _ _ _ ⟨_, _, _, rfl, G, e_379, r_438⟩
      · have e_379 : Ex F_237 F_242 := g_244.ff
        have G := G.tr g_244
        have r0 := Rep.mo (K := K) g_244.ff r0
        have r_228 := Rep.mo (K := K) g_244.ff r_228
        have r_234 := Rep.mo (K := K) g_244.ff r_234
        have r_241 := Rep.mo (K := K) g_244.ff r_241
        refine s_next ?_
        exact hk_377 _ w _ _ _ ⟨_, _, _, rfl, G, e_379, r_241⟩
/-! ### made_of -/
abbrev s_made_of : Stmt := topS 5
abbrev N_made_of : List Str := ["word", "signs", "most", "sign"]
theorem sc_made_of : FnScope N_made_of ["word", "signs", "most"] (defScope s_made_of) := ⟨rfl, rfl, rfl, by decide +kernel, rfl, by decide +kernel, by decide +kernel⟩
abbrev sp_made_of (K : PySem.W.Frag) (ce : Ce) : Sp := SpF0 ce (RC K (α := Str) (RC K (α := Str) (RC K (α := Int) R0))) (rv K (ρ := Bool)) (fun a : (Str × Str × Int × Unit) => m_made_of a.1 a.2.1 a.2.2.1)
theorem ok_made_of {f : Addr} {fd : FuncData} (FF : Fun K "made_of" "made_of" s_made_of f fd) (z_len : mg "len" = none) : FnOk P w K mg base CX0 1 f fd ["word", "signs", "most"] (sp_made_of K ce) := by
  refine FF.ok sc_made_of (fun vs H0 Q E h => ?_) (fun cdv A outer s H0 vs Q E hr h => ?_)
  · obtain ⟨F0, ⟨a0_word, a1_signs, a2_most, _⟩, e0, ⟨v0, _, rfl, r0, ⟨v1, _, rfl, r1, ⟨v2, _, rfl, r2, rfl⟩⟩⟩, w⟩ := h
    rfl
  · obtain ⟨F0, ⟨a0_word, a1_signs, a2_most, _⟩, e0, ⟨v0, _, rfl, r0, ⟨v1, _, rfl, r1, ⟨v2, _, rfl, r2, rfl⟩⟩⟩, w⟩ := h
    have w := wp_post w
    have G := Gr.rf e0
    have nd := sc_made_of.nd
    have hQ : ∀ r F1 H1 v, Gr F0 H0 F1 H1 → (rv K (ρ := Bool)) F0 H0 F1 H1 v r → Fin (rv K (ρ := Bool)) F0 H0 Q r → Q v H1 := fun r F1 H1 v g m p => p F1 H1 v g m
    refine ⟨_, (pss_cons (ps_for (by first | exact PassesOwn.never | exact passes_of rfl) rfl (pi_str (pv 0)) (pg_name (i := 3) nd rfl (by first | exact Or.inl rfl | exact Or.inr rfl)) (pss_one (ps_if (pt_cmpR op_notInS (pv 3) (pv 1) (by first | exact nomark _ | rfl | with_unfolding_all rfl)) (pss_one (ps_ret pe_bl)) pss_nil)))
      (pss_one (ps_ret (pe_chain op_le op_le pe_int (pe_callB call_len_str (by rfl) z_len (by decide +kernel) (pa_cons (pv 0) pa_nil)) (pv 2))))), ?_⟩
    have w := show Wp ce E0 H0 (m_made_of a0_word a1_signs a2_most) _ from w
    unfold m_made_of at w
    refine q_for (S := Unit) (fun s F' H' σ' => ∃ (z_483 : Option V), σ' = [some v0, some v1, some v2, z_483] ∧ Gr F0 H0 F' H' ∧ Ex F0 F') G (ei_str (em_var rfl r0)) (tg_name (K := K)) w (fun _ _ g_519 => ⟨_, rfl, G.tr g_519, g_519.ff⟩) (fun _ _ _ _ ⟨_, _, G, _⟩ => G) ?_ ?_
    · rintro x_485 s_484 F_486 H_487 _ ⟨z_483, hs_488, G, e_489⟩ F_490 H_491 σ_492 g_493 ⟨v_501, h_503, r_502⟩ D_498 P_499 hrt_500 hN_494 hC_495 hB_496 hP_497 w
      subst hs_488
      subst h_503
      have r0 := Rep.mo (K := K) e_489 r0
      have r1 := Rep.mo (K := K) e_489 r1
      have r2 := Rep.mo (K := K) e_489 r2
      have G := G.tr g_493
      have r0 := Rep.mo (K := K) g_493.ff r0
      have r1 := Rep.mo (K := K) g_493.ff r1
      have r2 := Rep.mo (K := K) g_493.ff r2
      have e_489 := Ex.tr e_489 g_493.ff
      have e_504 := Ex.rf F_490
      have hQ : ∀ r F1 H1 v, Gr F0 H0 F1 H1 → (rv K (ρ := Bool)) F0 H0 F1 H1 v r → P_499 (.rt r) → D_498.rt v H1 := fun r F1 H1 v g m p => by rw [hrt_500]; exact hQ r F1 H1 v g m (hP_497 _ p)
      unfold m_made_of_b1 at w
      refine s_if2 G w (t_of (e2 (em_var rfl r_502) (em_var rfl r1) o_notInX)) (fun F_505 H_506 g_507 w => ?_) (fun F_505 H_506 g_507 w => ?_)
      · have G := G.tr g_507
        have r0 := Rep.mo (K := K) g_507.ff r0
        have r1 := Rep.mo (K := K) g_507.ff r1
        have r2 := Rep.mo (K := K) g_507.ff r2
        have r_502 := Rep.mo (K := K) g_507.ff r_502
        have e_489 := Ex.tr e_489 g_507.ff
        have e_504 := Ex.tr e_504 g_507.ff
        exact s_ret G w em_bl fun r F1 H1 v g m p => hQ r F1 H1 v g m p
      · have G := G.tr g_507
        have r0 := Rep.mo (K := K) g_507.ff r0
        have r1 := Rep.mo (K := K) g_507.ff r1
        have r2 := Rep.mo (K := K) g_507.ff r2
        have r_502 := Rep.mo (K := K) g_507.ff r_502
        have e_489 := Ex.tr e_489 g_507.ff
        have e_504 := Ex.tr e_504 g_507.ff
        refine s_next ?_
        exact hN_494 _ w _ _ _ e_504 ⟨_, rfl, G, e_489⟩
    · rintro s_511 F_512 H_513 _ e_514 ⟨z_483, hs_509, G, e_510⟩ w
      subst hs_509
      have r0 := Rep.mo (K := K) e_510 r0
      have r1 := Rep.mo (K := K) e_510 r1
      have r2 := Rep.mo (K := K) e_510 r2
      exact s_ret0 G w (em_chain (p := fun a b => decide (a ≤ b)) (p' := fun a b => decide (a ≤ b)) em_int (em_cb1 (e_cons (em_var rfl r0) ea_nil) a_lenX) (em_var rfl r2) (fun _ _ => o_le) (fun _ _ => o_le)) fun r F1 H1 v g m p => hQ r F1 H1 v g m p
/-! ### is_name -/
abbrev s_is_name : Stmt := topS 6
abbrev N_is_name : List Str := ["word"]
theorem sc_is_name : FnScope N_is_name ["word"] (defScope s_is_name) := ⟨rfl, rfl, rfl, by decide +kernel, rfl, by decide +kernel, by decide +kernel⟩
abbrev sp_is_name (K : PySem.W.Frag) (ce : Ce) : Sp := SpF0 ce (RC K (α := Str) R0) (rv K (ρ := Bool)) (fun a : (Str × Unit) => m_is_name a.1)
theorem ok_is_name {f : Addr} {fd : FuncData} (FF : Fun K "is_name" "is_name" s_is_name f fd) {t_LETTERS : Tok} (c_LETTERS : mg "LETTERS" = some (.str (Str.ofString "abcdefghijklmnopqrstuvwxyz") t_LETTERS)) {t_LONGEST_NAME : Tok} (c_LONGEST_NAME : mg "LONGEST_NAME" = some (.int 12 t_LONGEST_NAME)) {a_made_of : Addr} {d_made_of : FuncData} (G_made_of : FnOk P w K mg base CX0 1 a_made_of d_made_of ["word", "signs", "most"] (sp_made_of K ce)) (mg_made_of : mg "made_of" = some (.ref a_made_of)) (k_made_of : PySem.W.keepIn K (.ref a_made_of) = true) (b_made_of : Binds K d_made_of ["word", "signs", "most"] []) : FnOk P w K mg base CX0 2 f fd ["word"] (sp_is_name K ce) := by
  refine FF.ok sc_is_name (fun vs H0 Q E h => ?_) (fun cdv A outer s H0 vs Q E hr h => ?_)
  · obtain ⟨F0, ⟨a0_word, _⟩, e0, ⟨v0, _, rfl, r0, rfl⟩, w⟩ := h
    rfl
  · obtain ⟨F0, ⟨a0_word, _⟩, e0, ⟨v0, _, rfl, r0, rfl⟩, w⟩ := h
    have w := wp_post w
    have G := Gr.rf e0
    have nd := sc_is_name.nd
    have hQ : ∀ r F1 H1 v, Gr F0 H0 F1 H1 → (rv K (ρ := Bool)) F0 H0 F1 H1 v r → Fin (rv K (ρ := Bool)) F0 H0 Q r → Q v H1 := fun r F1 H1 v g m p => p F1 H1 v g m
    refine ⟨_, (pss_one (ps_ret (pe_call G_made_of (hr.mono (by decide)) rfl mg_made_of k_made_of b_made_of .nil pass0 (pa_cons (pv 0) (pa_cons (pe_glob (v := .str (Str.ofString "abcdefghijklmnopqrstuvwxyz")) rfl c_LETTERS ⟨_, rfl⟩) (pa_cons (pe_glob (v := .int 12) rfl c_LONGEST_NAME ⟨_, rfl⟩) pa_nil)))))), ?_⟩
    have w := show Wp ce E0 H0 (m_is_name a0_word) _ from w
    unfold m_is_name at w
    exact s_ret0 G w (e_call0 (f := (fun a : (Str × Str × Int × Unit) => m_made_of a.1 a.2.1 a.2.2.1)) (x := (a0_word, (Str.ofString "abcdefghijklmnopqrstuvwxyz"), (12), ())) (e_cons (em_var rfl r0) (e_cons em_tx (e_cons em_int ea_nil)))) fun r F1 H1 v g m p => hQ r F1 H1 v g m p
/-! ### _law_all -/
abbrev s_law_all : Stmt := topS 11
abbrev N_law_all : List Str := ["word", "signs", "most", "sign"]
theorem sc_law_all : FnScope N_law_all ["word", "signs", "most"] (defScope s_law_all) := ⟨rfl, rfl, rfl, by decide +kernel, rfl, by decide +kernel, by decide +kernel⟩
abbrev sp_law_all (K : PySem.W.Frag) (ce : Ce) : Sp := SpF0 ce (RC K (α := Str) (RC K (α := Str) (RC K (α := Int) R0))) (rv K (ρ := Bool)) (fun a : (Str × Str × Int × Unit) => m_law_all a.1 a.2.1 a.2.2.1)
theorem ok_law_all {f : Addr} {fd : FuncData} (FF : Fun K "_law_all" "_law_all" s_law_all f fd) (z_len : mg "len" = none) : FnOk P w K mg base CX0 1 f fd ["word", "signs", "most"] (sp_law_all K ce) := by
  refine FF.ok sc_law_all (fun vs H0 Q E h => ?_) (fun cdv A outer s H0 vs Q E hr h => ?_)
  · obtain ⟨F0, ⟨a0_word, a1_signs, a2_most, _⟩, e0, ⟨v0, _, rfl, r0, ⟨v1, _, rfl, r1, ⟨v2, _, rfl, r2, rfl⟩⟩⟩, w⟩ := h
    rfl
  · obtain ⟨F0, ⟨a0_word, a1_signs, a2_most, _⟩, e0, ⟨v0, _, rfl, r0, ⟨v1, _, rfl, r1, ⟨v2, _, rfl, r2, rfl⟩⟩⟩, w⟩ := h
    have w := wp_post w
    have G := Gr.rf e0
    have nd := sc_law_all.nd
    have hQ : ∀ r F1 H1 v, Gr F0 H0 F1 H1 → (rv K (ρ := Bool)) F0 H0 F1 H1 v r → Fin (rv K (ρ := Bool)) F0 H0 Q r → Q v H1 := fun r F1 H1 v g m p => p F1 H1 v g m
    refine ⟨_, (pss_cons (ps_for (by first | exact PassesOwn.never | exact passes_of rfl) rfl (pi_str (pv 0)) (pg_name (i := 3) nd rfl (by first | exact Or.inl rfl | exact Or.inr rfl)) (pss_one (ps_if (pt_cmpR op_notInS (pv 3) (pv 1) (by first | exact nomark _ | rfl | with_unfolding_all rfl)) (pss_one (ps_ret pe_bl)) pss_nil)))
      (pss_one (ps_ret (pe_chain op_lt op_le pe_int (pe_callB call_len_str (by rfl) z_len (by decide +kernel) (pa_cons (pv 0) pa_nil)) (pv 2))))), ?_⟩
    have w := show Wp ce E0 H0 (m_law_all a0_word a1_signs a2_most) _ from w
    unfold m_law_all at w
    refine q_for (S := Unit) (fun s F' H' σ' => ∃ (z_559 : Option V), σ' = [some v0, some v1, some v2, z_559] ∧ Gr F0 H0 F' H' ∧ Ex F0 F') G (ei_str (em_var rfl r0)) (tg_name (K := K)) w (fun _ _ g_595 => ⟨_, rfl, G.tr g_595, g_595.ff⟩) (fun _ _ _ _ ⟨_, _, G, _⟩ => G) ?_ ?_
    · rintro x_561 s_560 F_562 H_563 _ ⟨z_559, hs_564, G, e_565⟩ F_566 H_567 σ_568 g_569 ⟨v_577, h_579, r_578⟩ D_574 P_575 hrt_576 hN_570 hC_571 hB_572 hP_573 w
      subst hs_564
      subst h_579
      have r0 := Rep.mo (K := K) e_565 r0
      have r1 := Rep.mo (K := K) e_565 r1
      have r2 := Rep.mo (K := K) e_565 r2
      have G := G.tr g_569
      have r0 := Rep.mo (K := K) g_569.ff r0
      have r1 := Rep.mo (K := K) g_569.ff r1
      have r2 := Rep.mo (K := K) g_569.ff r2
      have e_565 := Ex.tr e_565 g_569.ff
      have e_580 := Ex.rf F_566
      have hQ : ∀ r F1 H1 v, Gr F0 H0 F1 H1 → (rv K (ρ := Bool)) F0 H0 F1 H1 v r → P_575 (.rt r) → D_574.rt v H1 := fun r F1 H1 v g m p => by rw [hrt_576]; exact hQ r F1 H1 v g m (hP_573 _ p)
      unfold m_law_all_b1 at w
      refine s_if2 G w (t_of (e2 (em_var rfl r_578) (em_var rfl r1) o_notInX)) (fun F_581 H_582 g_583 w => ?_) (fun F_581 H_582 g_583 w => ?_)
      · have G := G.tr g_583
        have r0 := Rep.mo (K := K) g_583.ff r0
        have r1 := Rep.mo (K := K) g_583.ff r1
        have r2 := Rep.mo (K := K) g_583.ff r2
        have r_578 := Rep.mo (K := K) g_583.ff r_578
        have e_565 := Ex.tr e_565 g_583.ff
        have e_580 := Ex.tr e_580 g_583.ff
        exact s_ret G w em_bl fun r F1 H1 v g m p => hQ r F1 H1 v g m p
      · have G := G.tr g_583
        have r0 := Rep.mo (K := K) g_583.ff r0
        have r1 := Rep.mo (K := K) g_583.ff r1
        have r2 := Rep.mo (K := K) g_583.ff r2
        have r_578 := Rep.mo (K := K) g_583.ff r_578
        have e_565 := Ex.tr e_565 g_583.ff
        have e_580 := Ex.tr e_580 g_583.ff
        refine s_next ?_
        exact hN_570 _ w _ _ _ e_580 ⟨_, rfl, G, e_565⟩
    · rintro s_587 F_588 H_589 _ e_590 ⟨z_559, hs_585, G, e_586⟩ w
      subst hs_585
      have r0 := Rep.mo (K := K) e_586 r0
      have r1 := Rep.mo (K := K) e_586 r1
      have r2 := Rep.mo (K := K) e_586 r2
      exact s_ret0 G w (em_chain (p := fun a b => decide (a < b)) (p' := fun a b => decide (a ≤ b)) em_int (em_cb1 (e_cons (em_var rfl r0) ea_nil) a_lenX) (em_var rfl r2) (fun _ _ => o_lt) (fun _ _ => o_le)) fun r F1 H1 v g m p => hQ r F1 H1 v g m p
/-! ### _law_number -/
abbrev s_law_number : Stmt := topS 12
abbrev N_law_number : List Str := ["word", "whole", "sign"]
theorem sc_law_number : FnScope N_law_number ["word"] (defScope s_law_number) := ⟨rfl, rfl, rfl, by decide +kernel, rfl, by decide +kernel, by decide +kernel⟩
abbrev sp_law_number (K : PySem.W.Frag) (ce : Ce) : Sp := SpF0 ce (RC K (α := Str) R0) (rv K (ρ := (Option Int))) (fun a : (Str × Unit) => m_law_number a.1)
theorem ok_law_number {f : Addr} {fd : FuncData} (FF : Fun K "_law_number" "_law_number" s_law_number f fd) {a__law_all : Addr} {d__law_all : FuncData} (G__law_all : FnOk P w K mg base CX0 1 a__law_all d__law_all ["word", "signs", "most"] (sp_law_all K ce)) (mg__law_all : mg "_law_all" = some (.ref a__law_all)) (k__law_all : PySem.W.keepIn K (.ref a__law_all) = true) (b__law_all : Binds K d__law_all ["word", "signs", "most"] []) : FnOk P w K mg base CX0 2 f fd ["word"] (sp_law_number K ce) := by
  refine FF.ok sc_law_number (fun vs H0 Q E h => ?_) (fun cdv A outer s H0 vs Q E hr h => ?_)
  · obtain ⟨F0, ⟨a0_word, _⟩, e0, ⟨v0, _, rfl, r0, rfl⟩, w⟩ := h
    rfl
  · obtain ⟨F0, ⟨a0_word, _⟩, e0, ⟨v0, _, rfl, r0, rfl⟩, w⟩ := h
    have w := wp_post w
    have G := Gr.rf e0
    have nd := sc_law_number.nd
    have hQ : ∀ r F1 H1 v, Gr F0 H0 F1 H1 → (rv K (ρ := (Option Int))) F0 H0 F1 H1 v r → Fin (rv K (ρ := (Option Int))) F0 H0 Q r → Q v H1 := fun r F1 H1 v g m p => p F1 H1 v g m
    refine ⟨_, (pss_cons (ps_if (PW.pt (pw_or (pt_not (pt_val (pe_call G__law_all (hr.mono (by decide)) rfl mg__law_all k__law_all b__law_all .nil pass0 (pa_cons (pv 0) (pa_cons pe_str (pa_cons pe_int pa_nil)))))) (pw_or1 (PW.pt (pw_and (pt_cmpR op_eq (pe_ix (r := rIxS) ix_str (pv 0) pe_int (fun _ _ => rfl)) pe_str (nomark _)) (pw_and1 (pt_cmpR op_ne (pv 0) pe_str (nomark _)))))))) (pss_one (ps_ret pe_non)) pss_nil)
      (pss_cons (ps_set (i := 1) nd rfl (by first | exact Or.inl rfl | exact Or.inr rfl) pe_int)
      (pss_cons (ps_for (by first | exact PassesOwn.never | exact passes_of rfl) rfl (pi_str (pv 0)) (pg_name (i := 2) nd rfl (by first | exact Or.inl rfl | exact Or.inr rfl)) (pss_one (ps_set (i := 1) nd rfl (by first | exact Or.inl rfl | exact Or.inr rfl) (pe_op op_add (pe_op op_mul pe_int (pv 1)) (pe_m1 PySem.F.slot_str_find PySem.F.type_str_find mt_find pe_str (pv 2))))))
      (pss_one (ps_ret (pv 1)))))), ?_⟩
    have w := show Wp ce E0 H0 (m_law_number a0_word) _ from w
    unfold m_law_number at w
    refine q_if2 G w (tm_or (tm_not (t_B (e_call0 (f := (fun a : (Str × Str × Int × Unit) => m_law_all a.1 a.2.1 a.2.2.1)) (x := (a0_word, (Str.ofString "0123456789"), (61 : Int), ())) (e_cons (em_var rfl r0) (e_cons em_tx (e_cons em_int ea_nil)))))) (tm_and (t_of (em_op (em_gx (em_op (em_var rfl r0) em_int fun _ _ => o_ixX)) em_tx fun _ _ => o_eqS)) (t_of (e2 (em_var rfl r0) em_tx o_neS)))) (fun F_659 H_660 g_661 w => ?_) (fun F_659 H_660 g_661 w => ?_)
    · have G := G.tr g_661
      have r0 := Rep.mo (K := K) g_661.ff r0
      exact s_ret0 G w (em_none (α := Int)) fun r F1 H1 v g m p => hQ r F1 H1 v g m p
    · have G := G.tr g_661
      have r0 := Rep.mo (K := K) g_661.ff r0
      refine s_next ?_
      refine s_nx ?_
      refine q_asg (K := K) G w em_int fun whole_662 F_663 H_664 v_666 g_665 r_667 w => ?_
      have G := G.tr g_665
      have r0 := Rep.mo (K := K) g_665.ff r0
      refine q_for (S := Int) (fun s F' H' σ' => ∃ (v_668 : V) (z_669 : Option V), σ' = [some v0, some v_668, z_669] ∧ Gr F0 H0 F' H' ∧ Ex F_663 F' ∧ rp (α := Int) K F' v_668 s) G (ei_str (em_var rfl r0)) (tg_name (K := K)) w (fun _ _ g_709 => ⟨_, _, rfl, G.tr g_709, g_709.ff, Rep.mo (K := K) g_709.ff r_667⟩) (fun _ _ _ _ ⟨_, _, _, G, _⟩ => G) ?_ ?_
      · rintro x_671 s_670 F_672 H_673 _ ⟨v_668, z_669, hs_674, G, e_675, r_676⟩ F_677 H_678 σ_679 g_680 ⟨v_688, h_690, r_689⟩ D_685 P_686 hrt_687 hN_681 hC_682 hB_683 hP_684 w
        subst hs_674
        subst h_690
        have r0 := Rep.mo (K := K) e_675 r0
        have G := G.tr g_680
        have r0 := Rep.mo (K := K) g_680.ff r0
        have r_676 := Rep.mo (K := K) g_680.ff r_676
        have e_675 := Ex.tr e_675 g_680.ff
        have e_691 := Ex.rf F_677
        have hQ : ∀ r F1 H1 v, Gr F0 H0 F1 H1 → (rv K (ρ := (Option Int))) F0 H0 F1 H1 v r → P_686 (.rt r) → D_685.rt v H1 := fun r F1 H1 v g m p => by rw [hrt_687]; exact hQ r F1 H1 v g m (hP_684 _ p)
        unfold m_law_number_b1 at w
        refine s_asg (K := K) G w (em_op (e2 em_int (em_var rfl r_676) (o_mulL (.inl ⟨by decide, by decide⟩))) (em_findX em_tx (em_gx (m := .ok x_671) (em_var rfl r_689))) fun _ _ => o_add) fun whole_696 F_697 H_698 v_700 g_699 r_701 w => ?_
        have G := G.tr g_699
        have r0 := Rep.mo (K := K) g_699.ff r0
        have r_689 := Rep.mo (K := K) g_699.ff r_689
        have e_675 := Ex.tr e_675 g_699.ff
        have e_691 := Ex.tr e_691 g_699.ff
        exact hN_681 _ w _ _ _ e_691 ⟨_, _, rfl, G, e_675, r_701⟩
      · rintro s_705 F_706 H_707 _ e_708 ⟨v_668, z_669, hs_702, G, e_703, r_704⟩ w
        subst hs_702
        have r0 := Rep.mo (K := K) e_703 r0
        exact s_ret0 G w (e_some (em_var rfl r_704)) fun r F1 H1 v g m p => hQ r F1 H1 v g m p
/-! ### number_in -/
abbrev s_number_in : Stmt := topS 7
abbrev N_number_in : List Str := ["word"]
theorem sc_number_in : FnScope N_number_in ["word"] (defScope s_number_in) := ⟨rfl, rfl, rfl, by decide +kernel, rfl, by decide +kernel, by decide +kernel⟩
abbrev sp_number_in (K : PySem.W.Frag) (ce : Ce) : Sp := SpF0 ce (RC K (α := Str) R0) (rv K (ρ := (Option Int))) (fun a : (Str × Unit) => m_number_in a.1)
theorem ok_number_in {f : Addr} {fd : FuncData} (FF : Fun K "number_in" "number_in" s_number_in f fd) {t_FIGURES : Tok} (c_FIGURES : mg "FIGURES" = some (.str (Str.ofString "0123456789") t_FIGURES)) {t_LONGEST_NUMBER : Tok} (c_LONGEST_NUMBER : mg "LONGEST_NUMBER" = some (.int 61 t_LONGEST_NUMBER)) {a_made_of : Addr} {d_made_of : FuncData} (G_made_of : FnOk P w K mg base CX0 1 a_made_of d_made_of ["word", "signs", "most"] (sp_made_of K ce)) (mg_made_of : mg "made_of" = some (.ref a_made_of)) (k_made_of : PySem.W.keepIn K (.ref a_made_of) = true) (b_made_of : Binds K d_made_of ["word", "signs", "most"] []) (z_int : mg "int" = none) (z_len : mg "len" = none) : FnOk P w K mg base CX0 2 f fd ["word"] (sp_number_in K ce) := by
  refine FF.ok sc_number_in (fun vs H0 Q E h => ?_) (fun cdv A outer s H0 vs Q E hr h => ?_)
  · obtain ⟨F0, ⟨a0_word, _⟩, e0, ⟨v0, _, rfl, r0, rfl⟩, w⟩ := h
    rfl
  · obtain ⟨F0, ⟨a0_word, _⟩, e0, ⟨v0, _, rfl, r0, rfl⟩, w⟩ := h
    have w := wp_post w
    have G := Gr.rf e0
    have nd := sc_number_in.nd
    have hQ : ∀ r F1 H1 v, Gr F0 H0 F1 H1 → (rv K (ρ := (Option Int))) F0 H0 F1 H1 v r → Fin (rv K (ρ := (Option Int))) F0 H0 Q r → Q v H1 := fun r F1 H1 v g m p => p F1 H1 v g m
    refine ⟨_, (pss_cons (ps_if (pt_not (pt_val (pe_call G_made_of (hr.mono (by decide)) rfl mg_made_of k_made_of b_made_of .nil pass0 (pa_cons (pv 0) (pa_cons (pe_glob (v := .str (Str.ofString "0123456789")) rfl c_FIGURES ⟨_, rfl⟩) (pa_cons (pe_glob (v := .int 61) rfl c_LONGEST_NUMBER ⟨_, rfl⟩) pa_nil)))))) (pss_one (ps_ret pe_non)) pss_nil)
      (pss_cons (ps_if (PW.pt (pw_and (pt_cmpR op_eq (pe_ix (r := rIxS) ix_str (pv 0) pe_int (fun _ _ => rfl)) pe_str (nomark _)) (pw_and1 (pt_cmpR op_gt (pe_callB call_len_str (by rfl) z_len (by decide +kernel) (pa_cons (pv 0) pa_nil)) pe_int (nomark _))))) (pss_one (ps_ret pe_non)) pss_nil)
      (pss_one (ps_ret (pe_callTy call_int_str (by rfl) z_int (by decide +kernel) (pa_cons (pv 0) pa_nil)))))), ?_⟩
    have w := show Wp ce E0 H0 (m_number_in a0_word) _ from w
    unfold m_number_in at w
    refine q_if2 G w (tm_not (t_B (e_call0 (f := (fun a : (Str × Str × Int × Unit) => m_made_of a.1 a.2.1 a.2.2.1)) (x := (a0_word, (Str.ofString "0123456789"), (61), ())) (e_cons (em_var rfl r0) (e_cons em_tx (e_cons em_int ea_nil)))))) (fun F_726 H_727 g_728 w => ?_) (fun F_726 H_727 g_728 w => ?_)
    · have G := G.tr g_728
      have r0 := Rep.mo (K := K) g_728.ff r0
      exact s_ret0 G w (em_none (α := Int)) fun r F1 H1 v g m p => hQ r F1 H1 v g m p
    · have G := G.tr g_728
      have r0 := Rep.mo (K := K) g_728.ff r0
      refine s_next ?_
      refine s_nx ?_
      refine q_if2 G w (tm_and (t_of (em_op (em_gx (em_op (em_var rfl r0) em_int fun _ _ => o_ixX)) em_tx fun _ _ => o_eqS)) (t_of (em_op (em_cb1 (e_cons (em_var rfl r0) ea_nil) a_lenX) em_int fun _ _ => o_gt))) (fun F_737 H_738 g_739 w => ?_) (fun F_737 H_738 g_739 w => ?_)
      · have G := G.tr g_739
        have r0 := Rep.mo (K := K) g_739.ff r0
        exact s_ret0 G w (em_none (α := Int)) fun r F1 H1 v g m p => hQ r F1 H1 v g m p
      · have G := G.tr g_739
        have r0 := Rep.mo (K := K) g_739.ff r0
        refine s_next ?_
        refine s_nx ?_
        exact s_ret0 G w (em_some (em_cb1 (e_cons (em_var rfl r0) ea_nil) a_intX)) fun r F1 H1 v g m p => hQ r F1 H1 v g m p
/-! ### _law_whole -/
abbrev s_law_whole : Stmt := topS 9
abbrev N_law_whole : List Str := ["found"]
theorem sc_law_whole : FnScope N_law_whole ["found"] (defScope s_law_whole) := ⟨rfl, rfl, rfl, by decide +kernel, rfl, by decide +kernel, by decide +kernel⟩
abbrev sp_law_whole (K : PySem.W.Frag) (ce : Ce) : Sp := SpF0 ce (RC K (α := Int) R0) (rv K (ρ := Bool)) (fun a : (Int × Unit) => m_law_whole a.1)
theorem ok_law_whole {f : Addr} {fd : FuncData} (FF : Fun K "_law_whole" "_law_whole" s_law_whole f fd) (z_bool : mg "bool" = none) (z_int : mg "int" = none) (z_isinstance : mg "isinstance" = none) : FnOk P w K mg base CX0 1 f fd ["found"] (sp_law_whole K ce) := by
  refine FF.ok sc_law_whole (fun vs H0 Q E h => ?_) (fun cdv A outer s H0 vs Q E hr h => ?_)
  · obtain ⟨F0, ⟨a0_found, _⟩, e0, ⟨v0, _, rfl, r0, rfl⟩, w⟩ := h
    rfl
  · obtain ⟨F0, ⟨a0_found, _⟩, e0, ⟨v0, _, rfl, r0, rfl⟩, w⟩ := h
    have w := wp_post w
    have G := Gr.rf e0
    have nd := sc_law_whole.nd
    have hQ : ∀ r F1 H1 v, Gr F0 H0 F1 H1 → (rv K (ρ := Bool)) F0 H0 F1 H1 v r → Fin (rv K (ρ := Bool)) F0 H0 Q r → Q v H1 := fun r F1 H1 v g m p => p F1 H1 v g m
    refine ⟨_, (pss_one (ps_ret (pe_and (pe_callB (r := rIsi K) call_isi (by rfl) z_isinstance (by decide +kernel) (pa_cons (pv 0) (pa_cons (pe_bltn (v := .ty "int") (by rfl) z_int (by decide +kernel) rfl) pa_nil))) (pe_one (pe_not (pe_callB (r := rIsi K) call_isi (by rfl) z_isinstance (by decide +kernel) (pa_cons (pv 0) (pa_cons (pe_bltn (v := .ty "bool") (by rfl) z_bool (by decide +kernel) rfl) pa_nil)))))))), ?_⟩
    have w := show Wp ce E0 H0 (m_law_whole a0_found) _ from w
    unfold m_law_whole at w
    exact s_ret0 G w (e_andV (e_isi (b := true) (em_var rfl r0) (kit_ty (by decide +kernel))) (e_notV (e_isi (b := false) (em_var rfl r0) (kit_ty (by decide +kernel))))) fun r F1 H1 v g m p => hQ r F1 H1 v g m p
/-! ### law -/
abbrev s_law : Stmt := topS 13
abbrev N_law : List Str := ["script", "cell", "word", "named", "due", "found"]
theorem sc_law : FnScope N_law ["script"] (defScope s_law) := ⟨rfl, rfl, rfl, by decide +kernel, rfl, by decide +kernel, by decide +kernel⟩
abbrev sp_law (K : PySem.W.Frag) (ce : Ce) : Sp := SpF0 ce (RC K (α := Scr) R0) (rv K (ρ := Bool)) (fun a : (Scr × Unit) => m_law a.1)
theorem ok_law {f : Addr} {fd : FuncData} (FF : Fun K "law" "law" s_law f fd) {a__law_all : Addr} {d__law_all : FuncData} (G__law_all : FnOk P w K mg base CX0 1 a__law_all d__law_all ["word", "signs", "most"] (sp_law_all K ce)) (mg__law_all : mg "_law_all" = some (.ref a__law_all)) (k__law_all : PySem.W.keepIn K (.ref a__law_all) = true) (b__law_all : Binds K d__law_all ["word", "signs", "most"] []) {a__law_number : Addr} {d__law_number : FuncData} (G__law_number : FnOk P w K mg base CX0 2 a__law_number d__law_number ["word"] (sp_law_number K ce)) (mg__law_number : mg "_law_number" = some (.ref a__law_number)) (k__law_number : PySem.W.keepIn K (.ref a__law_number) = true) (b__law_number : Binds K d__law_number ["word"] []) {a__law_whole : Addr} {d__law_whole : FuncData} (G__law_whole : FnOk P w K mg base CX0 1 a__law_whole d__law_whole ["found"] (sp_law_whole K ce)) (mg__law_whole : mg "_law_whole" = some (.ref a__law_whole)) (k__law_whole : PySem.W.keepIn K (.ref a__law_whole) = true) (b__law_whole : Binds K d__law_whole ["found"] []) {a__law_word : Addr} {d__law_word : FuncData} (G__law_word : FnOk P w K mg base CX0 1 a__law_word d__law_word ["cell"] (sp_law_word K ce)) (mg__law_word : mg "_law_word" = some (.ref a__law_word)) (k__law_word : PySem.W.keepIn K (.ref a__law_word) = true) (b__law_word : Binds K d__law_word ["cell"] []) {a_is_name : Addr} {d_is_name : FuncData} (G_is_name : FnOk P w K mg base CX0 2 a_is_name d_is_name ["word"] (sp_is_name K ce)) (mg_is_name : mg "is_name" = some (.ref a_is_name)) (k_is_name : PySem.W.keepIn K (.ref a_is_name) = true) (b_is_name : Binds K d_is_name ["word"] []) {a_number_in : Addr} {d_number_in : FuncData} (G_number_in : FnOk P w K mg base CX0 2 a_number_in d_number_in ["word"] (sp_number_in K ce)) (mg_number_in : mg "number_in" = some (.ref a_number_in)) (k_number_in : PySem.W.keepIn K (.ref a_number_in) = true) (b_number_in : Binds K d_number_in ["word"] []) (z_bool : mg "bool" = none) (z_isinstance : mg "isinstance" = none) : FnOk P w K mg base CX0 3 f fd ["script"] (sp_law K ce) := by
  refine FF.ok sc_law (fun vs H0 Q E h => ?_) (fun cdv A outer s H0 vs Q E hr h => ?_)
  · obtain ⟨F0, ⟨a0_script, _⟩, e0, ⟨v0, _, rfl, r0, rfl⟩, w⟩ := h
    rfl
  · obtain ⟨F0, ⟨a0_script, _⟩, e0, ⟨v0, _, rfl, r0, rfl⟩, w⟩ := h
    have w := wp_post w
    have G := Gr.rf e0
    have nd := sc_law.nd
    have hQ : ∀ r F1 H1 v, Gr F0 H0 F1 H1 → (rv K (ρ := Bool)) F0 H0 F1 H1 v r → Fin (rv K (ρ := Bool)) F0 H0 Q r → Q v H1 := fun r F1 H1 v g m p => p F1 H1 v g m
    refine ⟨_, (pss_cons (ps_for (by first | exact PassesOwn.never | exact passes_of rfl) rfl (pi_list (pe_op (r := rCatL K) op_catL (pv 0) (pe_lst (pa_cons pe_int pa_nil)))) (pg_name (i := 1) nd rfl (by first | exact Or.inl rfl | exact Or.inr rfl)) (pss_cons (ps_set (i := 2) nd rfl (by first | exact Or.inl rfl | exact Or.inr rfl) (pe_call G__law_word (hr.mono (by decide)) rfl mg__law_word k__law_word b__law_word .nil pass0 (pa_cons (pe_op op_mod (pv 1) (pe_op op_pow pe_int pe_int)) pa_nil)))
      (pss_cons (ps_set (i := 3) nd rfl (by first | exact Or.inl rfl | exact Or.inr rfl) (pe_call G_is_name (hr.mono (by decide)) rfl mg_is_name k_is_name b_is_name .nil pass0 (pa_cons (pv 2) pa_nil)))
      (pss_cons (ps_if (PW.pt (pw_or (pt_not (pt_val (pe_callB (r := rIsi K) call_isi (by rfl) z_isinstance (by decide +kernel) (pa_cons (pv 3) (pa_cons (pe_bltn (v := .ty "bool") (by rfl) z_bool (by decide +kernel) rfl) pa_nil))))) (pw_or1 (pt_cmpR op_ne (pv 3) (pe_call G__law_all (hr.mono (by decide)) rfl mg__law_all k__law_all b__law_all .nil pass0 (pa_cons (pv 2) (pa_cons pe_str (pa_cons pe_int pa_nil)))) (nomark _))))) (pss_one (ps_ret pe_bl)) pss_nil)
      (pss_cons (ps_set (i := 4) nd rfl (by first | exact Or.inl rfl | exact Or.inr rfl) (pe_call G__law_number (hr.mono (by decide)) rfl mg__law_number k__law_number b__law_number .nil pass0 (pa_cons (pv 2) pa_nil)))
      (pss_cons (ps_set (i := 5) nd rfl (by first | exact Or.inl rfl | exact Or.inr rfl) (pe_call G_number_in (hr.mono (by decide)) rfl mg_number_in k_number_in b_number_in .nil pass0 (pa_cons (pv 2) pa_nil)))
      (pss_cons (ps_if (PW.pt (pw_and (pt_cmpR op_isN (pv 4) pe_non (nomark _)) (pw_and1 (pt_cmpR op_notN (pv 5) pe_non (nomark _))))) (pss_one (ps_ret pe_bl)) pss_nil)
      (pss_one (ps_if (PW.pt (pw_and (pt_cmpR op_notN (pv 4) pe_non (nomark _)) (pw_and1 (PW.pt (pw_or (pt_not (pt_val (pe_call G__law_whole (hr.mono (by decide)) rfl mg__law_whole k__law_whole b__law_whole .nil pass0 (pa_cons (pv 5) pa_nil)))) (pw_or1 (pt_cmpR (r := rNeD K) (op_neD hr.units) (pv 5) (pv 4) (nomark _)))))))) (pss_one (ps_ret pe_bl)) pss_nil)))))))))
      (pss_one (ps_ret pe_bl))), ?_⟩
    have w := show Wp ce E0 H0 (m_law a0_script) _ from w
    unfold m_law at w
    refine q_for (S := Unit) (fun s F' H' σ' => ∃ (z_821 : Option V) (z_822 : Option V) (z_823 : Option V) (z_824 : Option V) (z_825 : Option V), σ' = [some v0, z_821, z_822, z_823, z_824, z_825] ∧ Gr F0 H0 F' H' ∧ Ex F0 F') G (ei_list (Ev.nv (em_op (em_var rfl r0) (Ev.nv (e_lst (e_lcons em_int (el_nil (α := Int))) (by simp))) fun _ _ => o_catS))) (tg_name (K := K)) w (fun _ _ g_894 => ⟨_, _, _, _, _, rfl, G.tr g_894, g_894.ff⟩) (fun _ _ _ _ ⟨_, _, _, _, _, _, G, _⟩ => G) ?_ ?_
    · rintro x_827 s_826 F_828 H_829 _ ⟨z_821, z_822, z_823, z_824, z_825, hs_830, G, e_831⟩ F_832 H_833 σ_834 g_835 ⟨v_843, h_845, r_844⟩ D_840 P_841 hrt_842 hN_836 hC_837 hB_838 hP_839 w
      subst hs_830
      subst h_845
      have r0 := Rep.mo (K := K) e_831 r0
      have G := G.tr g_835
      have r0 := Rep.mo (K := K) g_835.ff r0
      have e_831 := Ex.tr e_831 g_835.ff
      have e_846 := Ex.rf F_832
      have hQ : ∀ r F1 H1 v, Gr F0 H0 F1 H1 → (rv K (ρ := Bool)) F0 H0 F1 H1 v r → P_841 (.rt r) → D_840.rt v H1 := fun r F1 H1 v g m p => by rw [hrt_842]; exact hQ r F1 H1 v g m (hP_839 _ p)
      unfold m_law_b1 at w
      refine q_asg (K := K) G w (e_call0 (f := (fun a : (Int × Unit) => m_law_word a.1)) (x := ((x_827 % (10000000000000000000000000000000000000000000000000000000000000000 : Int)), ())) (e_cons (e2 (em_var rfl r_844) (e_is (e2 em_int em_int (o_pow (by decide))) pow_10_64) (o_mod (by decide))) ea_nil)) fun word_847 F_848 H_849 v_851 g_850 r_852 w => ?_
      have G := G.tr g_850
      have r0 := Rep.mo (K := K) g_850.ff r0
      have r_844 := Rep.mo (K := K) g_850.ff r_844
      have e_831 := Ex.tr e_831 g_850.ff
      have e_846 := Ex.tr e_846 g_850.ff
      refine q_asg (K := K) G w (e_call0 (f := (fun a : (Str × Unit) => m_is_name a.1)) (x := (word_847, ())) (e_cons (em_var rfl r_852) ea_nil)) fun named_853 F_854 H_855 v_857 g_856 r_858 w => ?_
      have G := G.tr g_856
      have r0 := Rep.mo (K := K) g_856.ff r0
      have r_844 := Rep.mo (K := K) g_856.ff r_844
      have r_852 := Rep.mo (K := K) g_856.ff r_852
      have e_831 := Ex.tr e_831 g_856.ff
      have e_846 := Ex.tr e_846 g_856.ff
      refine q_if2 G w (tm_or (t_not (t_B (e_isi (b := true) (em_var rfl r_858) (kit_ty (by decide +kernel))))) (t_of (em_op (em_var rfl r_858) (e_call0 (f := (fun a : (Str × Str × Int × Unit) => m_law_all a.1 a.2.1 a.2.2.1)) (x := (word_847, (Str.ofString "abcdefghijklmnopqrstuvwxyz"), (12 : Int), ())) (e_cons (em_var rfl r_852) (e_cons em_tx (e_cons em_int ea_nil)))) fun _ _ => o_neB))) (fun F_861 H_862 g_863 w => ?_) (fun F_861 H_862 g_863 w => ?_)
      · have G := G.tr g_863
        have r0 := Rep.mo (K := K) g_863.ff r0
        have r_844 := Rep.mo (K := K) g_863.ff r_844
        have r_852 := Rep.mo (K := K) g_863.ff r_852
        have r_858 := Rep.mo (K := K) g_863.ff r_858
        have e_831 := Ex.tr e_831 g_863.ff
        have e_846 := Ex.tr e_846 g_863.ff
        exact s_ret G w em_bl fun r F1 H1 v g m p => hQ r F1 H1 v g m p
      · have G := G.tr g_863
        have r0 := Rep.mo (K := K) g_863.ff r0
        have r_844 := Rep.mo (K := K) g_863.ff r_844
        have r_852 := Rep.mo (K := K) g_863.ff r_852
        have r_858 := Rep.mo (K := K) g_863.ff r_858
        have e_831 := Ex.tr e_831 g_863.ff
        have e_846 := Ex.tr e_846 g_863.ff
        refine s_next ?_
        refine s_nx ?_
        refine q_asg (K := K) G w (e_call0 (f := (fun a : (Str × Unit) => m_law_number a.1)) (x := (word_847, ())) (e_cons (em_var rfl r_852) ea_nil)) fun due_865 F_866 H_867 v_869 g_868 r_870 w => ?_
        have G := G.tr g_868
        have r0 := Rep.mo (K := K) g_868.ff r0
        have r_844 := Rep.mo (K := K) g_868.ff r_844
        have r_852 := Rep.mo (K := K) g_868.ff r_852
        have r_858 := Rep.mo (K := K) g_868.ff r_858
        have e_831 := Ex.tr e_831 g_868.ff
        have e_846 := Ex.tr e_846 g_868.ff
        refine q_asg (K := K) G w (e_call0 (f := (fun a : (Str × Unit) => m_number_in a.1)) (x := (word_847, ())) (e_cons (em_var rfl r_852) ea_nil)) fun found_871 F_872 H_873 v_875 g_874 r_876 w => ?_
        have G := G.tr g_874
        have r0 := Rep.mo (K := K) g_874.ff r0
        have r_844 := Rep.mo (K := K) g_874.ff r_844
        have r_852 := Rep.mo (K := K) g_874.ff r_852
        have r_858 := Rep.mo (K := K) g_874.ff r_858
        have r_870 := Rep.mo (K := K) g_874.ff r_870
        have e_831 := Ex.tr e_831 g_874.ff
        have e_846 := Ex.tr e_846 g_874.ff
        refine q_if2 G w (t_and (t_of (e2 (em_var rfl r_870) em_unit o_isN)) (t_of (e2 (em_var rfl r_876) em_unit o_notN))) (fun F_877 H_878 g_879 w => ?_) (fun F_877 H_878 g_879 w => ?_)
        · have G := G.tr g_879
          have r0 := Rep.mo (K := K) g_879.ff r0
          have r_844 := Rep.mo (K := K) g_879.ff r_844
          have r_852 := Rep.mo (K := K) g_879.ff r_852
          have r_858 := Rep.mo (K := K) g_879.ff r_858
          have r_870 := Rep.mo (K := K) g_879.ff r_870
          have r_876 := Rep.mo (K := K) g_879.ff r_876
          have e_831 := Ex.tr e_831 g_879.ff
          have e_846 := Ex.tr e_846 g_879.ff
          exact s_ret G w em_bl fun r F1 H1 v g m p => hQ r F1 H1 v g m p
        · have G := G.tr g_879
          have r0 := Rep.mo (K := K) g_879.ff r0
          have r_844 := Rep.mo (K := K) g_879.ff r_844
          have r_852 := Rep.mo (K := K) g_879.ff r_852
          have r_858 := Rep.mo (K := K) g_879.ff r_858
          have r_870 := Rep.mo (K := K) g_879.ff r_870
          have r_876 := Rep.mo (K := K) g_879.ff r_876
          have e_831 := Ex.tr e_831 g_879.ff
          have e_846 := Ex.tr e_846 g_879.ff
          refine s_next ?_
          refine s_nx ?_
          refine s_if2 G w (tm_and (t_of (e2 (em_var rfl r_870) em_unit o_notN)) (tm_or (tm_not (t_B (em_call0 (f := (fun a : (Int × Unit) => m_law_whole a.1)) (ea_cons (em_get (em_var rfl r_876)) ea_nil)))) (t_of (e2 (em_var rfl r_876) (em_var rfl r_870) (o_neD (by decide)))))) (fun F_884 H_885 g_886 w => ?_) (fun F_884 H_885 g_886 w => ?_)
          · have G := G.tr g_886
            have r0 := Rep.mo (K := K) g_886.ff r0
            have r_844 := Rep.mo (K := K) g_886.ff r_844
            have r_852 := Rep.mo (K := K) g_886.ff r_852
            have r_858 := Rep.mo (K := K) g_886.ff r_858
            have r_870 := Rep.mo (K := K) g_886.ff r_870
            have r_876 := Rep.mo (K := K) g_886.ff r_876
            have e_831 := Ex.tr e_831 g_886.ff
            have e_846 := Ex.tr e_846 g_886.ff
            exact s_ret G w em_bl fun r F1 H1 v g m p => hQ r F1 H1 v g m p
          · have G := G.tr g_886
            have r0 := Rep.mo (K := K) g_886.ff r0
            have r_844 := Rep.mo (K := K) g_886.ff r_844
            have r_852 := Rep.mo (K := K) g_886.ff r_852
            have r_858 := Rep.mo (K := K) g_886.ff r_858
            have r_870 := Rep.mo (K := K) g_886.ff r_870
            have r_876 := Rep.mo (K := K) g_886.ff r_876
            have e_831 := Ex.tr e_831 g_886.ff
            have e_846 := Ex.tr e_846 g_886.ff
            refine s_next ?_
            exact hN_836 _ w _ _ _ e_846 ⟨_, _, _, _, _, rfl, G, e_831⟩
    · rintro s_890 F_891 H_892 _ e_893 ⟨z_821, z_822, z_823, z_824, z_825, hs_888, G, e_889⟩ w
      subst hs_888
      have r0 := Rep.mo (K := K) e_889 r0
      exact s_ret0 G w em_bl fun r F1 H1 v g m p => hQ r F1 H1 v g m p
end
def spLaw (K : PySem.W.Frag) : Sp := fun vs H Q _ => ∃ (a : Addr) (ns : List Int), vs = [.ref a] ∧ SqL K H a (ns.map V.int) ∧ ns.length ≤ 63 ∧ ∀ H', Q (.bl true) H'
theorem law_of {P : Program} {w : World} {K : PySem.W.Frag} {mg : Str → Option Value} {base : Heap} {ce : Ce} {k : Nat} {f : Addr} {fd : FuncData} (F : FnOk P w K mg base CX0 k f fd ["script"] (sp_law K ce)) : FnOk P w K mg base CX0 k f fd ["script"] (spLaw K) :=
  F.imp fun vs H Q E ⟨a, ns, h1, h2, h3, h4⟩ => ⟨H, (⟨ns⟩, ()), Ex.rf _, ⟨.ref a, [], h1, ⟨a, rfl, h2⟩, rfl⟩, by
    show Post ce (rv K) (m_law ⟨ns⟩) H H Q E0
    rw [law_true ns h3]
    intro F' H' v g r
    cases r
    exact h4 H'⟩
theorem all_mk {l : PySem.W.OpenLaw} {w : World} {K : PySem.W.Frag} {h : Heap} {mg : Str → Option Value} {fa f0 f1 f2 f3 f4 f5 f6 f7 : Addr} {t_FIGURES : Tok} {t_LETTERS : Tok} {t_LONGEST_NAME : Tok} {t_LONGEST_NUMBER : Tok} (X : K.In h) (G : h.Ns mainGlobals mg) (hfa : mg "law" = some (.ref fa))
    {od0 an0 : Option Addr} {sl0 : Array (Option Value)} {oc0 kV0 dc0 pm0 cd0 ct0 : Value}
    {od1 an1 : Option Addr} {sl1 : Array (Option Value)} {oc1 kV1 dc1 pm1 cd1 ct1 : Value}
    {od2 an2 : Option Addr} {sl2 : Array (Option Value)} {oc2 kV2 dc2 pm2 cd2 ct2 : Value}
    {od3 an3 : Option Addr} {sl3 : Array (Option Value)} {oc3 kV3 dc3 pm3 cd3 ct3 : Value}
    {od4 an4 : Option Addr} {sl4 : Array (Option Value)} {oc4 kV4 dc4 pm4 cd4 ct4 : Value}
    {od5 an5 : Option Addr} {sl5 : Array (Option Value)} {oc5 kV5 dc5 pm5 cd5 ct5 : Value}
    {od6 an6 : Option Addr} {sl6 : Array (Option Value)} {oc6 kV6 dc6 pm6 cd6 ct6 : Value}
    {od7 an7 : Option Addr} {sl7 : Array (Option Value)} {oc7 kV7 dc7 pm7 cd7 ct7 : Value}
    (a0 : PySem.W.nsIn K mainGlobals "_law_word" = some (some (.ref f0))) (l0 : K.lookup f0 = some ⟨oc0, od0, .func (PySem.W.fnOf "_law_word" "_law_word" (defArgs s_law_word) (defBody s_law_word) (defScope s_law_word) .none kV0 dc0 pm0 an0 cd0 ct0), sl0⟩) (c0 : PySem.W.codeIn K cd0 "_law_word" = true) (k0 : PySem.W.keepIn K (.ref f0) = true)
    (a1 : PySem.W.nsIn K mainGlobals "made_of" = some (some (.ref f1))) (l1 : K.lookup f1 = some ⟨oc1, od1, .func (PySem.W.fnOf "made_of" "made_of" (defArgs s_made_of) (defBody s_made_of) (defScope s_made_of) .none kV1 dc1 pm1 an1 cd1 ct1), sl1⟩) (c1 : PySem.W.codeIn K cd1 "made_of" = true) (k1 : PySem.W.keepIn K (.ref f1) = true)
    (a2 : PySem.W.nsIn K mainGlobals "is_name" = some (some (.ref f2))) (l2 : K.lookup f2 = some ⟨oc2, od2, .func (PySem.W.fnOf "is_name" "is_name" (defArgs s_is_name) (defBody s_is_name) (defScope s_is_name) .none kV2 dc2 pm2 an2 cd2 ct2), sl2⟩) (c2 : PySem.W.codeIn K cd2 "is_name" = true) (k2 : PySem.W.keepIn K (.ref f2) = true)
    (a3 : PySem.W.nsIn K mainGlobals "_law_all" = some (some (.ref f3))) (l3 : K.lookup f3 = some ⟨oc3, od3, .func (PySem.W.fnOf "_law_all" "_law_all" (defArgs s_law_all) (defBody s_law_all) (defScope s_law_all) .none kV3 dc3 pm3 an3 cd3 ct3), sl3⟩) (c3 : PySem.W.codeIn K cd3 "_law_all" = true) (k3 : PySem.W.keepIn K (.ref f3) = true)
    (a4 : PySem.W.nsIn K mainGlobals "_law_number" = some (some (.ref f4))) (l4 : K.lookup f4 = some ⟨oc4, od4, .func (PySem.W.fnOf "_law_number" "_law_number" (defArgs s_law_number) (defBody s_law_number) (defScope s_law_number) .none kV4 dc4 pm4 an4 cd4 ct4), sl4⟩) (c4 : PySem.W.codeIn K cd4 "_law_number" = true) (k4 : PySem.W.keepIn K (.ref f4) = true)
    (a5 : PySem.W.nsIn K mainGlobals "number_in" = some (some (.ref f5))) (l5 : K.lookup f5 = some ⟨oc5, od5, .func (PySem.W.fnOf "number_in" "number_in" (defArgs s_number_in) (defBody s_number_in) (defScope s_number_in) .none kV5 dc5 pm5 an5 cd5 ct5), sl5⟩) (c5 : PySem.W.codeIn K cd5 "number_in" = true) (k5 : PySem.W.keepIn K (.ref f5) = true)
    (a6 : PySem.W.nsIn K mainGlobals "_law_whole" = some (some (.ref f6))) (l6 : K.lookup f6 = some ⟨oc6, od6, .func (PySem.W.fnOf "_law_whole" "_law_whole" (defArgs s_law_whole) (defBody s_law_whole) (defScope s_law_whole) .none kV6 dc6 pm6 an6 cd6 ct6), sl6⟩) (c6 : PySem.W.codeIn K cd6 "_law_whole" = true) (k6 : PySem.W.keepIn K (.ref f6) = true)
    (a7 : PySem.W.nsIn K mainGlobals "law" = some (some (.ref f7))) (l7 : K.lookup f7 = some ⟨oc7, od7, .func (PySem.W.fnOf "law" "law" (defArgs s_law) (defBody s_law) (defScope s_law) .none kV7 dc7 pm7 an7 cd7 ct7), sl7⟩) (c7 : PySem.W.codeIn K cd7 "law" = true) (k7 : PySem.W.keepIn K (.ref f7) = true)
    (n_FIGURES : PySem.W.nsIn K mainGlobals "FIGURES" = some (some (.str (Str.ofString "0123456789") t_FIGURES)))
    (n_LETTERS : PySem.W.nsIn K mainGlobals "LETTERS" = some (some (.str (Str.ofString "abcdefghijklmnopqrstuvwxyz") t_LETTERS)))
    (n_LONGEST_NAME : PySem.W.nsIn K mainGlobals "LONGEST_NAME" = some (some (.int 12 t_LONGEST_NAME)))
    (n_LONGEST_NUMBER : PySem.W.nsIn K mainGlobals "LONGEST_NUMBER" = some (some (.int 61 t_LONGEST_NUMBER)))
    (z_bool : PySem.W.nsIn K mainGlobals "bool" = some none)
    (z_int : PySem.W.nsIn K mainGlobals "int" = some none)
    (z_isinstance : PySem.W.nsIn K mainGlobals "isinstance" = some none)
    (z_len : PySem.W.nsIn K mainGlobals "len" = some none)
    (z_range : PySem.W.nsIn K mainGlobals "range" = some none)
    (z_str : PySem.W.nsIn K mainGlobals "str" = some none) :
    ∃ fd : FuncData, (∀ (s : Shared) (v : Value), BindsTo s fd ⟨[v], []⟩ [("script", v)]) ∧ ∀ base : Heap, K.In base → base.Ns mainGlobals mg → FnOk l.prog w K mg base CX0 3 fa fd ["script"] (spLaw K) := by
  have e := hfa.symm.trans (PySem.W.mg_of X G a7)
  cases e
  let ce : Ce := fun _ => 0
  have c_FIGURES := PySem.W.mg_of X G n_FIGURES
  have c_LETTERS := PySem.W.mg_of X G n_LETTERS
  have c_LONGEST_NAME := PySem.W.mg_of X G n_LONGEST_NAME
  have c_LONGEST_NUMBER := PySem.W.mg_of X G n_LONGEST_NUMBER
  have z_bool := PySem.W.mg_none_of X G z_bool
  have z_int := PySem.W.mg_none_of X G z_int
  have z_isinstance := PySem.W.mg_none_of X G z_isinstance
  have z_len := PySem.W.mg_none_of X G z_len
  have z_range := PySem.W.mg_none_of X G z_range
  have z_str := PySem.W.mg_none_of X G z_str
  have F0 := fun_mk (st := s_law_word) l0 c0 k0
  have b__law_word := F0.binds (ps := ["cell"]) fun _ _ _ _ _ _ us hl => match us, hl with | [_], _ => rfl
  have mg__law_word := PySem.W.mg_of X G a0
  have F1 := fun_mk (st := s_made_of) l1 c1 k1
  have b_made_of := F1.binds (ps := ["word", "signs", "most"]) fun _ _ _ _ _ _ us hl => match us, hl with | [_, _, _], _ => rfl
  have mg_made_of := PySem.W.mg_of X G a1
  have F2 := fun_mk (st := s_is_name) l2 c2 k2
  have b_is_name := F2.binds (ps := ["word"]) fun _ _ _ _ _ _ us hl => match us, hl with | [_], _ => rfl
  have mg_is_name := PySem.W.mg_of X G a2
  have F3 := fun_mk (st := s_law_all) l3 c3 k3
  have b__law_all := F3.binds (ps := ["word", "signs", "most"]) fun _ _ _ _ _ _ us hl => match us, hl with | [_, _, _], _ => rfl
  have mg__law_all := PySem.W.mg_of X G a3
  have F4 := fun_mk (st := s_law_number) l4 c4 k4
  have b__law_number := F4.binds (ps := ["word"]) fun _ _ _ _ _ _ us hl => match us, hl with | [_], _ => rfl
  have mg__law_number := PySem.W.mg_of X G a4
  have F5 := fun_mk (st := s_number_in) l5 c5 k5
  have b_number_in := F5.binds (ps := ["word"]) fun _ _ _ _ _ _ us hl => match us, hl with | [_], _ => rfl
  have mg_number_in := PySem.W.mg_of X G a5
  have F6 := fun_mk (st := s_law_whole) l6 c6 k6
  have b__law_whole := F6.binds (ps := ["found"]) fun _ _ _ _ _ _ us hl => match us, hl with | [_], _ => rfl
  have mg__law_whole := PySem.W.mg_of X G a6
  have F7 := fun_mk (st := s_law) l7 c7 k7
  refine ⟨PySem.W.fnOf "law" "law" (defArgs s_law) (defBody s_law) (defScope s_law) .none kV7 dc7 pm7 an7 cd7 ct7, fun s v => .of_eq rfl, fun base _ _ => ?_⟩
  have G__law_word := ok_law_word (P := l.prog) (w := w) (mg := mg) (base := base) (ce := ce) F0 z_len z_range z_str
  have G_made_of := ok_made_of (P := l.prog) (w := w) (mg := mg) (base := base) (ce := ce) F1 z_len
  have G_is_name := ok_is_name (P := l.prog) (w := w) (mg := mg) (base := base) (ce := ce) F2 c_LETTERS c_LONGEST_NAME G_made_of mg_made_of k1 b_made_of
  have G__law_all := ok_law_all (P := l.prog) (w := w) (mg := mg) (base := base) (ce := ce) F3 z_len
  have G__law_number := ok_law_number (P := l.prog) (w := w) (mg := mg) (base := base) (ce := ce) F4 G__law_all mg__law_all k3 b__law_all
  have G_number_in := ok_number_in (P := l.prog) (w := w) (mg := mg) (base := base) (ce := ce) F5 c_FIGURES c_LONGEST_NUMBER G_made_of mg_made_of k1 b_made_of z_int z_len
  have G__law_whole := ok_law_whole (P := l.prog) (w := w) (mg := mg) (base := base) (ce := ce) F6 z_bool z_int z_isinstance
  exact law_of (ok_law (mg := mg) (ce := ce) F7 G__law_all mg__law_all k3 b__law_all G__law_number mg__law_number k4 b__law_number G__law_whole mg__law_whole k6 b__law_whole G__law_word mg__law_word k0 b__law_word G_is_name mg_is_name k2 b_is_name G_number_in mg_number_in k5 b_number_in z_bool z_isinstance)
end Kx
open PySem PySem.W PyProof.Rows L2 Mw
set_option maxRecDepth 100000 in
set_option maxHeartbeats 0 in
theorem PySem.Challenge.cw_meshworks_k87_words_holds : PySem.Challenge.rw_meshworks_k87_words.Holds := by
  w_on; o_law; k_head; (case hw => w_witness2)
  k_fill
  refine L2.walk_of (l := PySem.Challenge.rw_meshworks_k87_words) (n := 63) (k := 3) (x := "script") (CX := fun _ => L2.CX0) (sp := fun w => Kx.spLaw _) rfl (by decide) rfl ⟨rfl, by decide, by decide⟩ (fun w h Y => PySem.W.kIn_of Y) ?F (fun _ _ a ns hl _ hS => ⟨a, ns, rfl, hS, hl, fun _ => rfl⟩) (fun _ _ _ _ _ h => h)
  case F =>
    intro w mg fa h KX G hmg
    refine' Kx.all_mk KX G hmg ?a0 ?l0 ?c0 ?k0 ?a1 ?l1 ?c1 ?k1 ?a2 ?l2 ?c2 ?k2 ?a3 ?l3 ?c3 ?k3 ?a4 ?l4 ?c4 ?k4 ?a5 ?l5 ?c5 ?k5 ?a6 ?l6 ?c6 ?k6 ?a7 ?l7 ?c7 ?k7 ?n_FIGURES ?n_LETTERS ?n_LONGEST_NAME ?n_LONGEST_NUMBER ?z_bool ?z_int ?z_isinstance ?z_len ?z_range ?z_str
    (case a0 => k_is)
    (case l0 => k_is)
    (case c0 => k_is)
    (case k0 => k_is)
    (case a1 => k_is)
    (case l1 => k_is)
    (case c1 => k_is)
    (case k1 => k_is)
    (case a2 => k_is)
    (case l2 => k_is)
    (case c2 => k_is)
    (case k2 => k_is)
    (case a3 => k_is)
    (case l3 => k_is)
    (case c3 => k_is)
    (case k3 => k_is)
    (case a4 => k_is)
    (case l4 => k_is)
    (case c4 => k_is)
    (case k4 => k_is)
    (case a5 => k_is)
    (case l5 => k_is)
    (case c5 => k_is)
    (case k5 => k_is)
    (case a6 => k_is)
    (case l6 => k_is)
    (case c6 => k_is)
    (case k6 => k_is)
    (case a7 => k_is)
    (case l7 => k_is)
    (case c7 => k_is)
    (case k7 => k_is)
    (case n_FIGURES => k_is)
    (case n_LETTERS => k_is)
    (case n_LONGEST_NAME => k_is)
    (case n_LONGEST_NUMBER => k_is)
    (case z_bool => k_is)
    (case z_int => k_is)
    (case z_isinstance => k_is)
    (case z_len => k_is)
    (case z_range => k_is)
    (case z_str => k_is)
