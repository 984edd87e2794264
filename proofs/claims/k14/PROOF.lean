import PyProof.Rows.All
import Wide.All
import OpenK.AllK
import Wide.FinOn
import HandS.ForMost
import HandS.ForExc
import HandS.Wide
import HandS.SortInts
import HandS.SortRule
import HandS.IsInst
import HandS.ExcIs
import HandS.Flow
import HandS.Style
import HandS.Conv
import HandS.More
import HandS.Evl
import HandS.ForDict
import PySem.Challenge.RW_meshworks_k14_stacks_parted
set_option Elab.async false
set_option linter.all false
set_option maxRecDepth 100000
set_option maxHeartbeats 2000000
/-! Mw, part A: data by their types, what represents them; the monad of the mirrors; what an expression tells. -/
namespace Mw
open PySem L2
abbrev Ex (H H' : Hp) : Prop := ∀ a o, H a = some o → H' a = some o
theorem Ex.rf (H : Hp) : Ex H H := fun _ _ h => h
theorem Ex.tr {H H1 H2 : Hp} (a : Ex H H1) (b : Ex H1 H2) : Ex H H2 := fun x o h => b x o (a x o h)
theorem Ex.nw {H : Hp} {p : Addr} {o : HO} (h : H p = none) : Ex H (upd H p o) := fun a u e => by
  rw [upd_ne (ne_of_none e h)]
  exact e
theorem ex_rd {H H' : Hp} {a : Addr} {u : HO} (e : Ex H H') (h : Rd H a u) : Rd H' a u := by
  rcases h with h | ⟨o, h⟩
  · exact Or.inl (e a _ h)
  · exact Or.inr ⟨o, e a _ h⟩
theorem ex_l {K : PySem.W.Frag} {H H' : Hp} {a : Addr} {xs : List V} (e : Ex H H') (h : SqL K H a xs) : SqL K H' a xs := by
  rcases h with h | h
  · exact Or.inl (ex_rd e h)
  · exact Or.inr h
theorem ex_t {K : PySem.W.Frag} {H H' : Hp} {a : Addr} {xs : List V} (e : Ex H H') (h : SqT K H a xs) : SqT K H' a xs := by
  rcases h with h | h
  · exact Or.inl (ex_rd e h)
  · exact Or.inr h

/-! ### what the frame may lean on (F), and all that is tracked (H): both grow -/
structure Gr (F H F' H' : Hp) : Prop where
  ff : Ex F F'
  fh : Ex F' H'
  hh : Ex H H'
  nw : ∀ b, F b = none → H b ≠ none → F' b = none
theorem Gr.rf {F H : Hp} (h : Ex F H) : Gr F H F H := ⟨Ex.rf _, h, Ex.rf _, fun _ a _ => a⟩
theorem Ex.ne {H H' : Hp} (h : Ex H H') {b : Addr} (n : H b ≠ none) : H' b ≠ none := by
  cases e : H b with
  | none => exact absurd e n
  | some o => rw [h b o e]; exact fun z => by cases z
theorem Gr.tr {F H F1 H1 F2 H2 : Hp} (a : Gr F H F1 H1) (b : Gr F1 H1 F2 H2) : Gr F H F2 H2 :=
  ⟨a.ff.tr b.ff, b.fh, a.hh.tr b.hh, fun c h1 h2 => b.nw c (a.nw c h1 h2) (a.hh.ne h2)⟩
/-- a new object that all may lean on -/
theorem Gr.new {F H : Hp} {p : Addr} {o : HO} (h : Ex F H) (n : H p = none) : Gr F H (upd F p o) (upd H p o) where
  ff := fun a u e => by
    have : a ≠ p := fun z => by subst z; rw [h a u e] at n; cases n
    rw [upd_ne this]; exact e
  fh := fun a u e => by
    by_cases z : a = p
    · subst z; rw [upd_same] at e ⊢; exact e
    · rw [upd_ne z] at e ⊢; exact h a u e
  hh := Ex.nw n
  nw := fun b h1 h2 => by
    have : b ≠ p := fun z => by subst z; exact h2 n
    rw [upd_ne this]; exact h1
/-- a new object of one's own -/
theorem Gr.own {F H : Hp} {p : Addr} {o : HO} (h : Ex F H) (n : H p = none) : Gr F H F (upd H p o) where
  ff := Ex.rf _
  fh := fun a u e => by
    have : a ≠ p := fun z => by subst z; rw [h a u e] at n; cases n
    rw [upd_ne this]; exact h a u e
  hh := Ex.nw n
  nw := fun b h1 _ => h1
/-- one's own object is changed -/
theorem Gr.mut {F0 H0 F H : Hp} {p : Addr} {o : HO} (g : Gr F0 H0 F H) (n0 : H0 p = none) (nf : F p = none) : Gr F0 H0 F (upd H p o) where
  ff := g.ff
  fh := fun a u e => by
    have : a ≠ p := fun z => by subst z; rw [e] at nf; cases nf
    rw [upd_ne this]; exact g.fh a u e
  hh := fun a u e => by
    have : a ≠ p := fun z => by subst z; rw [e] at n0; cases n0
    rw [upd_ne this]; exact g.hh a u e
  nw := g.nw
theorem ex_back {H H' : Hp} {p : Addr} (e : Ex H H') (h : H' p = none) : H p = none := by
  cases h1 : H p with
  | none => rfl
  | some o => rw [e p o h1] at h; cases h

/-! ### data -/
class Rep (α : Type) where
  rp : PySem.W.Frag → Hp → V → α → Prop
  mo : ∀ {K : PySem.W.Frag} {H H' : Hp} {v : V} {x : α}, Ex H H' → rp K H v x → rp K H' v x
open Rep (rp)
theorem paired_mo {α : Type} [Rep α] {K : PySem.W.Frag} {H H' : Hp} (e : Ex H H') : ∀ {vs : List V} {xs : List α}, Paired (rp K H) vs xs → Paired (rp K H') vs xs
  | _, _, .nil => .nil
  | _, _, .cons h t => .cons (Rep.mo e h) (paired_mo e t)
structure T3 (α β γ : Type) where
  a : α
  b : β
  c : γ
  deriving DecidableEq
structure T4 (α β γ δ : Type) where
  a : α
  b : β
  c : γ
  d : δ
  deriving DecidableEq
instance : Rep Int := ⟨fun _ _ v x => v = .int x, fun _ h => h⟩
instance : Rep Bool := ⟨fun _ _ v x => v = .bl x, fun _ h => h⟩
instance : Rep Str := ⟨fun _ _ v x => v = .str x, fun _ h => h⟩
instance : Rep Unit := ⟨fun _ _ v _ => v = .non, fun _ h => h⟩
instance {α : Type} [Rep α] : Rep (Option α) := ⟨fun K H v x => match x with
  | none => v = .non
  | some y => rp K H v y ∧ v ≠ .non, fun {K H H' v x} e h => by
    cases x with
    | none => exact h
    | some y => exact ⟨Rep.mo e h.1, h.2⟩⟩
instance {α β : Type} [Rep α] [Rep β] : Rep (α × β) := ⟨fun K H v x => ∃ a u w, v = .ref a ∧ SqT K H a [u, w] ∧ rp K H u x.1 ∧ rp K H w x.2,
  fun e ⟨a, u, w, h1, h2, h3, h4⟩ => ⟨a, u, w, h1, ex_t e h2, Rep.mo e h3, Rep.mo e h4⟩⟩
instance {α β γ : Type} [Rep α] [Rep β] [Rep γ] : Rep (T3 α β γ) := ⟨fun K H v x => ∃ a u w z, v = .ref a ∧ SqT K H a [u, w, z] ∧ rp K H u x.a ∧ rp K H w x.b ∧ rp K H z x.c,
  fun e ⟨a, u, w, z, h1, h2, h3, h4, h5⟩ => ⟨a, u, w, z, h1, ex_t e h2, Rep.mo e h3, Rep.mo e h4, Rep.mo e h5⟩⟩
instance {α β γ δ : Type} [Rep α] [Rep β] [Rep γ] [Rep δ] : Rep (T4 α β γ δ) := ⟨fun K H v x => ∃ a u w z y, v = .ref a ∧ SqT K H a [u, w, z, y] ∧ rp K H u x.a ∧ rp K H w x.b ∧ rp K H z x.c ∧ rp K H y x.d,
  fun e ⟨a, u, w, z, y, h1, h2, h3, h4, h5, h6⟩ => ⟨a, u, w, z, y, h1, ex_t e h2, Rep.mo e h3, Rep.mo e h4, Rep.mo e h5, Rep.mo e h6⟩⟩
instance {α : Type} [Rep α] : Rep (List α) := ⟨fun K H v x => ∃ a vs, v = .ref a ∧ H a = some (.lst vs) ∧ Paired (rp K H) vs x,
  fun e ⟨a, vs, h1, h2, h3⟩ => ⟨a, vs, h1, e _ _ h2, paired_mo e h3⟩⟩
/-- the script: read alone -/
structure Scr where
  l : List Int
instance : Rep Scr := ⟨fun K H v x => ∃ a, v = .ref a ∧ SqL K H a (x.l.map V.int), fun e ⟨a, h1, h2⟩ => ⟨a, h1, ex_l e h2⟩⟩
theorem paired_map {α β : Type} {F : α → β → Prop} {f : β → α} (h : ∀ b, F (f b) b) : ∀ xs : List β, Paired F (xs.map f) xs
  | [] => .nil
  | x :: r => .cons (h x) (paired_map h r)
theorem paired_int {K : PySem.W.Frag} {H : Hp} : ∀ {vs : List V} {xs : List Int}, Paired (rp K H) vs xs → vs = xs.map V.int
  | _, _, .nil => rfl
  | _, _, .cons h t => by
    rw [List.map_cons, ← paired_int t]
    exact congrArg (· :: _) h
theorem paired_bl {K : PySem.W.Frag} {H : Hp} : ∀ {vs : List V} {xs : List Bool}, Paired (rp K H) vs xs → vs = xs.map V.bl
  | _, _, .nil => rfl
  | _, _, .cons h t => by
    rw [List.map_cons, ← paired_bl t]
    exact congrArg (· :: _) h
theorem rep_int {K : PySem.W.Frag} {H : Hp} (xs : List Int) : Paired (rp K H) (xs.map V.int) xs := paired_map (F := rp K H) (f := V.int) (fun _ => rfl) xs
theorem paired_get {α β : Type} {F : α → β → Prop} : ∀ {vs : List α} {xs : List β} {i : Nat} {x : β}, Paired F vs xs → xs[i]? = some x → ∃ v, vs[i]? = some v ∧ F v x
  | _, _, _, _, .nil, e => by simp at e
  | _, _, 0, _, .cons r _, e => by simp at e; subst e; exact ⟨_, rfl, r⟩
  | _, _, i + 1, x, .cons _ t, e => by
    obtain ⟨u, h1, h2⟩ := paired_get (i := i) (x := x) t (by simpa using e)
    exact ⟨u, by simpa using h1, h2⟩
theorem paired_get' {α β : Type} {F : α → β → Prop} : ∀ {vs : List α} {xs : List β} {i : Nat} {v : α}, Paired F vs xs → vs[i]? = some v → ∃ x, xs[i]? = some x ∧ F v x
  | _, _, _, _, .nil, e => by simp at e
  | _, _, 0, _, .cons r _, e => by simp at e; subst e; exact ⟨_, rfl, r⟩
  | _, _, i + 1, x, .cons _ t, e => by
    obtain ⟨u, h1, h2⟩ := paired_get' (i := i) (v := x) t (by simpa using e)
    exact ⟨u, by simpa using h1, h2⟩
theorem paired_app {α β : Type} {F : α → β → Prop} : ∀ {vs ws : List α} {xs ys : List β}, Paired F vs xs → Paired F ws ys → Paired F (vs ++ ws) (xs ++ ys)
  | _, _, _, _, .nil, s => s
  | _, _, _, _, .cons r t, s => .cons r (paired_app t s)
theorem paired_take {α β : Type} {F : α → β → Prop} : ∀ {vs : List α} {xs : List β} (n : Nat), Paired F vs xs → Paired F (vs.take n) (xs.take n)
  | _, _, 0, _ => .nil
  | _, _, _ + 1, .nil => .nil
  | _, _, n + 1, .cons r t => .cons r (paired_take n t)
theorem paired_drop {α β : Type} {F : α → β → Prop} : ∀ {vs : List α} {xs : List β} (n : Nat), Paired F vs xs → Paired F (vs.drop n) (xs.drop n)
  | _, _, 0, r => r
  | _, _, _ + 1, .nil => .nil
  | _, _, n + 1, .cons _ t => paired_drop n t
theorem paired_rev {α β : Type} {F : α → β → Prop} : ∀ {vs : List α} {xs : List β}, Paired F vs xs → Paired F vs.reverse xs.reverse
  | _, _, .nil => .nil
  | _, _, .cons r t => by
    rw [List.reverse_cons, List.reverse_cons]
    exact paired_app (paired_rev t) (.cons r .nil)
theorem paired_set {α β : Type} {F : α → β → Prop} {v : α} {x : β} (r : F v x) : ∀ {vs : List α} {xs : List β} (i : Nat), Paired F vs xs → Paired F (vs.set i v) (xs.set i x)
  | _, _, _, .nil => .nil
  | _, _, 0, .cons _ t => .cons r t
  | _, _, i + 1, .cons q t => .cons q (paired_set r i t)
theorem paired_rep {α β : Type} {F : α → β → Prop} {v : α} {x : β} (r : F v x) : ∀ n : Nat, Paired F (List.replicate n v) (List.replicate n x)
  | 0 => .nil
  | n + 1 => .cons r (paired_rep r n)

/-! ### data that lean on no list -/
def TupEx (F F' : Hp) : Prop := ∀ a xs, Rd F a (.tup xs) → Rd F' a (.tup xs)
class Flat (α : Type) [Rep α] : Prop where
  fl : ∀ {K : PySem.W.Frag} {F F' : Hp} {v : V} {x : α}, TupEx F F' → rp K F v x → rp K F' v x
theorem tup_t {K : PySem.W.Frag} {H H' : Hp} {a : Addr} {xs : List V} (e : TupEx H H') (h : SqT K H a xs) : SqT K H' a xs := by
  rcases h with h | h
  · exact Or.inl (e a xs h)
  · exact Or.inr h
instance : Flat Int := ⟨fun _ h => h⟩
instance : Flat Bool := ⟨fun _ h => h⟩
instance : Flat Str := ⟨fun _ h => h⟩
instance : Flat Unit := ⟨fun _ h => h⟩
instance {α : Type} [Rep α] [Flat α] : Flat (Option α) := ⟨fun {K F F' v x} e h => by
  cases x with
  | none => exact h
  | some y => exact ⟨Flat.fl e h.1, h.2⟩⟩
instance {α β : Type} [Rep α] [Rep β] [Flat α] [Flat β] : Flat (α × β) := ⟨fun e ⟨a, u, w, h1, h2, h3, h4⟩ => ⟨a, u, w, h1, tup_t e h2, Flat.fl e h3, Flat.fl e h4⟩⟩
instance {α β γ : Type} [Rep α] [Rep β] [Rep γ] [Flat α] [Flat β] [Flat γ] : Flat (T3 α β γ) := ⟨fun e ⟨a, u, w, z, h1, h2, h3, h4, h5⟩ => ⟨a, u, w, z, h1, tup_t e h2, Flat.fl e h3, Flat.fl e h4, Flat.fl e h5⟩⟩
instance {α β γ δ : Type} [Rep α] [Rep β] [Rep γ] [Rep δ] [Flat α] [Flat β] [Flat γ] [Flat δ] : Flat (T4 α β γ δ) := ⟨fun e ⟨a, u, w, z, y, h1, h2, h3, h4, h5, h6⟩ => ⟨a, u, w, z, y, h1, tup_t e h2, Flat.fl e h3, Flat.fl e h4, Flat.fl e h5, Flat.fl e h6⟩⟩
theorem paired_fl {α : Type} [Rep α] [Flat α] {K : PySem.W.Frag} {F F' : Hp} (e : TupEx F F') : ∀ {vs : List V} {xs : List α}, Paired (rp K F) vs xs → Paired (rp K F') vs xs
  | _, _, .nil => .nil
  | _, _, .cons h t => .cons (Flat.fl e h) (paired_fl e t)

/-! ### the mirrors' monad -/
structure Err where
  name : String
  deriving DecidableEq
inductive M (α : Type) where
  | ok (a : α)
  | er (c : Err)
  | bad
  deriving DecidableEq
def M.bind {α β : Type} : M α → (α → M β) → M β
  | .ok a, f => f a
  | .er c, _ => .er c
  | .bad, _ => .bad
@[simp] theorem M.ok_bind {α β : Type} (a : α) (f : α → M β) : (M.ok a).bind f = f a := (rfl)
@[simp] theorem M.er_bind {α β : Type} (c : Err) (f : α → M β) : (M.er c : M α).bind f = .er c := (rfl)
@[simp] theorem M.bad_bind {α β : Type} (f : α → M β) : (M.bad : M α).bind f = .bad := (rfl)

/-! ### what comes of a run -/
abbrev Md (ρ : Type) := Hp → Hp → Hp → Hp → V → ρ → Prop
/-- any value that represents it -/
def rv (K : PySem.W.Frag) {ρ : Type} [Rep ρ] : Md ρ := fun _ _ F' _ v r => rp K F' v r
/-- a new list of one's own -/
def rn (K : PySem.W.Frag) {α : Type} [Rep α] : Md (List α) := fun _ H F' H' v r => ∃ p vs, v = .ref p ∧ H p = none ∧ F' p = none ∧ H' p = some (.lst vs) ∧ Paired (rp K F') vs r
/-- the classes of errors by their names -/
abbrev Ce := String → Addr
def Post {ρ : Type} (ce : Ce) (md : Md ρ) (m : M ρ) (F H : Hp) (Q : VK) (E : XK) : Prop :=
  match m with
  | .ok r => ∀ F' H' v, Gr F H F' H' → md F H F' H' v r → Q v H'
  | .er c => ∀ H', Ex H H' → E (.ref (ce c.name)) none H'
  | .bad => False
class MdMo {ρ : Type} (md : Md ρ) : Prop where
  mo : ∀ {F H F1 H1 F2 H2 v r}, Gr F H F1 H1 → md F1 H1 F2 H2 v r → md F H F2 H2 v r
instance {K : PySem.W.Frag} {ρ : Type} [Rep ρ] : MdMo (rv K (ρ := ρ)) := ⟨fun _ h => h⟩
instance {K : PySem.W.Frag} {α : Type} [Rep α] : MdMo (rn K (α := α)) := ⟨fun g ⟨p, vs, h1, h2, h3⟩ => ⟨p, vs, h1, ex_back g.hh h2, h3⟩⟩
theorem Post.mo {ρ : Type} {ce : Ce} {md : Md ρ} [MdMo md] {m : M ρ} {F H F1 H1 : Hp} {Q : VK} {E : XK} (g : Gr F H F1 H1) (h : Post ce md m F H Q E) : Post ce md m F1 H1 Q E := by
  cases m with
  | ok r => exact fun F' H' v g' hm => h F' H' v (g.tr g') (MdMo.mo g hm)
  | er c => exact fun H' e => h H' (g.hh.tr e)
  | bad => exact h
/-- what an expression tells, whatever has been done meanwhile -/
def Ev {ρ : Type} (ce : Ce) (E : XK) (te : TE) (σ : L2.St) (F H : Hp) (md : Md ρ) (m : M ρ) : Prop := ∀ F1 H1, Gr F H F1 H1 → ∀ Q : VK, Post ce md m F1 H1 Q E → te σ H1 Q
/-- a test -/
def PostT (ce : Ce) (m : M Bool) (F H : Hp) (Q : Bool → Hp → Prop) (E : XK) : Prop :=
  match m with
  | .ok r => ∀ F' H', Gr F H F' H' → Q r H'
  | .er c => ∀ H', Ex H H' → E (.ref (ce c.name)) none H'
  | .bad => False
def EvT (ce : Ce) (E : XK) (tt : TT) (σ : L2.St) (F H : Hp) (m : M Bool) : Prop := ∀ F1 H1, Gr F H F1 H1 → ∀ Q : Bool → Hp → Prop, PostT ce m F1 H1 Q E → tt σ H1 Q
theorem PostT.mo {ce : Ce} {m : M Bool} {F H F1 H1 : Hp} {Q : Bool → Hp → Prop} {E : XK} (g : Gr F H F1 H1) (h : PostT ce m F H Q E) : PostT ce m F1 H1 Q E := by
  cases m with
  | ok r => exact fun F' H' g' => h F' H' (g.tr g')
  | er c => exact fun H' e => h H' (g.hh.tr e)
  | bad => exact h
section
variable {ρ α β γ : Type} [Rep α] [Rep β] [Rep γ] {ce : Ce} {E : XK} {K : PySem.W.Frag} {σ : L2.St} {F H F' H' : Hp} {te ta tb tc : TE} {tt tu : TT} {md : Md ρ} {m : M ρ}
theorem Ev.mo (g : Gr F H F' H') (h : Ev ce E te σ F H md m) : Ev ce E te σ F' H' md m := fun F1 H1 g1 Q q => h F1 H1 (g.tr g1) Q q
theorem EvT.mo {m : M Bool} (g : Gr F H F' H') (h : EvT ce E tt σ F H m) : EvT ce E tt σ F' H' m := fun F1 H1 g1 Q q => h F1 H1 (g.tr g1) Q q
/-- run a part, then what follows (F0, H0: the entry) -/
theorem Ev.run {m1 : M α} {k : α → M ρ} {Q Q' : VK} {F0 H0 : Hp} (h : Ev ce E ta σ F H (rv K) m1) (G : Gr F0 H0 F H) (q : Post ce md (m1.bind k) F0 H0 Q E)
    (c : ∀ x F1 H1 v, m1 = .ok x → Gr F H F1 H1 → rp K F1 v x → Post ce md (k x) F0 H0 Q E → Q' v H1) : ta σ H Q' := by
  refine h F H (Gr.rf G.fh) Q' ?_
  cases m1 with
  | ok x => exact fun F1 H1 v g r => c x F1 H1 v rfl g r q
  | er cc => exact fun H' e => q H' (G.hh.tr e)
  | bad => exact q
theorem Ev.runN {m1 : M (List α)} {k : List α → M ρ} {Q Q' : VK} {F0 H0 : Hp} (h : Ev ce E ta σ F H (rn K) m1) (G : Gr F0 H0 F H) (q : Post ce md (m1.bind k) F0 H0 Q E)
    (c : ∀ x F1 H1 p vs, m1 = .ok x → Gr F H F1 H1 → H p = none → F1 p = none → H1 p = some (.lst vs) → Paired (rp K F1) vs x → Post ce md (k x) F0 H0 Q E → Q' (.ref p) H1) : ta σ H Q' := by
  refine h F H (Gr.rf G.fh) Q' ?_
  cases m1 with
  | ok x =>
    rintro F1 H1 v g ⟨p, vs, rfl, h1, h2, h3, h4⟩
    exact c x F1 H1 p vs rfl g h1 h2 h3 h4 q
  | er cc => exact fun H' e => q H' (G.hh.tr e)
  | bad => exact q
theorem EvT.run {m1 : M Bool} {k : Bool → M ρ} {Q : VK} {Q' : Bool → Hp → Prop} {F0 H0 : Hp} (h : EvT ce E tt σ F H m1) (G : Gr F0 H0 F H) (q : Post ce md (m1.bind k) F0 H0 Q E)
    (c : ∀ x F1 H1, m1 = .ok x → Gr F H F1 H1 → Post ce md (k x) F0 H0 Q E → Q' x H1) : tt σ H Q' := by
  refine h F H (Gr.rf G.fh) Q' ?_
  cases m1 with
  | ok x => exact fun F1 H1 g => c x F1 H1 rfl g q
  | er cc => exact fun H' e => q H' (G.hh.tr e)
  | bad => exact q
/-- a new list may be leant on -/
theorem Ev.nv {m : M (List α)} (h : Ev ce E te σ F H (rn K) m) : Ev ce E te σ F H (rv K) m := by
  intro F1 H1 g Q q
  refine h F1 H1 g Q ?_
  cases m with
  | ok x =>
    rintro F2 H2 v g2 ⟨p, vs, rfl, h1, h2, h3, h4⟩
    refine q (upd F2 p (.lst vs)) H2 (.ref p) ⟨g2.ff.tr (Ex.nw h2), ?_, g2.hh, fun b a1 a2 => ?_⟩ ⟨p, vs, rfl, upd_same, paired_mo (Ex.nw h2) h4⟩
    · intro a u e
      by_cases z : a = p
      · subst z; rw [upd_same] at e; rw [h3]; exact e
      · rw [upd_ne z] at e; exact g2.fh a u e
    · have : b ≠ p := fun z => by subst z; exact a2 h1
      rw [upd_ne this]; exact g2.nw b a1 a2
  | er c => exact q
  | bad => exact q
/-! ### names, constants, operators -/
theorem em_var {i : Nat} {v : V} {x : α} (h : σ[i]? = some (some v)) (r : rp K F v x) : Ev ce E (tVar i) σ F H (rv K) (.ok x) :=
  fun F1 H1 g Q q => ⟨v, h, q F1 H1 v (Gr.rf g.fh) (Rep.mo g.ff r)⟩
theorem em_int {i : Int} : Ev ce E (tC (.int i)) σ F H (rv K) (.ok i) := fun F1 H1 g Q q => q F1 H1 _ (Gr.rf g.fh) rfl
theorem em_bl {b : Bool} : Ev ce E (tC (.bl b)) σ F H (rv K) (.ok b) := fun F1 H1 g Q q => q F1 H1 _ (Gr.rf g.fh) rfl
theorem em_str {s : Str} : Ev ce E (tC (.str s)) σ F H (rv K) (.ok s) := fun F1 H1 g Q q => q F1 H1 _ (Gr.rf g.fh) rfl
theorem em_unit : Ev ce E (tC .non) σ F H (rv K) (.ok ()) := fun F1 H1 g Q q => q F1 H1 _ (Gr.rf g.fh) rfl
theorem em_none : Ev ce E (tC .non) σ F H (rv K) (.ok (none : Option α)) := fun F1 H1 g Q q => q F1 H1 _ (Gr.rf g.fh) rfl
def Op1 (ce : Ce) (E : XK) (K : PySem.W.Frag) (r : V → Hp → VK → Prop) (md : Md ρ) (x : α) (m : M ρ) : Prop := ∀ F1 H1 vx, Ex F1 H1 → rp K F1 vx x → ∀ Q, Post ce md m F1 H1 Q E → r vx H1 Q
def Op2 (ce : Ce) (E : XK) (K : PySem.W.Frag) (r : R2) (md : Md ρ) (x : α) (y : β) (m : M ρ) : Prop := ∀ F1 H1 vx vy, Ex F1 H1 → rp K F1 vx x → rp K F1 vy y → ∀ Q, Post ce md m F1 H1 Q E → r vx vy H1 Q
theorem em_op [MdMo md] {r : R2} {m1 : M α} {m2 : M β} {g : α → β → M ρ} (ha : Ev ce E ta σ F H (rv K) m1) (hb : Ev ce E tb σ F H (rv K) m2) (hr : ∀ x y, Op2 ce E K r md x y (g x y)) :
    Ev ce E (tOp r ta tb) σ F H md (m1.bind fun x => m2.bind fun y => g x y) := by
  intro F1 H1 g1 Q q
  refine ha F1 H1 g1 _ ?_
  cases m1 with
  | ok x =>
    intro F2 H2 vx g2 rx
    refine hb F2 H2 (g1.tr g2) _ ?_
    cases m2 with
    | ok y => exact fun F3 H3 vy g3 ry => hr x y F3 H3 vx vy g3.fh (Rep.mo g3.ff rx) ry Q (Post.mo (g2.tr g3) q)
    | er c => exact fun H' e => q H' (g2.hh.tr e)
    | bad => exact q
  | er c => exact q
  | bad => exact q
theorem em_un [MdMo md] {r : V → Hp → VK → Prop} {m1 : M α} {g : α → M ρ} (ha : Ev ce E ta σ F H (rv K) m1) (hr : ∀ x, Op1 ce E K r md x (g x)) :
    Ev ce E (tUn r ta) σ F H md (m1.bind g) := by
  intro F1 H1 g1 Q q
  refine ha F1 H1 g1 _ ?_
  cases m1 with
  | ok x => exact fun F2 H2 vx g2 rx => hr x F2 H2 vx g2.fh rx Q (Post.mo g2 q)
  | er c => exact q
  | bad => exact q
theorem o_I0 {x y : Int} {g : Int → Int → V} {z : α} (h : ∀ F, rp K F (g x y) z) : Op2 ce E K (rI0 g) (rv K) x y (.ok z) := fun F1 H1 vx vy e rx ry Q q => by
  cases rx; cases ry
  exact ⟨x, y, rfl, rfl, q F1 H1 _ (Gr.rf e) (h F1)⟩
theorem o_I {C : Int → Int → Prop} {x y : Int} {g : Int → Int → V} {z : α} (hc : C x y) (h : ∀ F, rp K F (g x y) z) : Op2 ce E K (rI C g) (rv K) x y (.ok z) := fun F1 H1 vx vy e rx ry Q q => by
  cases rx; cases ry
  exact ⟨x, y, rfl, rfl, hc, q F1 H1 _ (Gr.rf e) (h F1)⟩
/-- (decided classically: so that no kernel sets out to reckon the test) -/
noncomputable def chk {α : Type} (c : Prop) (x : α) : M α := @ite _ c (Classical.propDecidable c) (.ok x) .bad
theorem o_Ic {C : Int → Int → Prop} [∀ i j, Decidable (C i j)] {x y : Int} {g : Int → Int → V} {z : α} (h : ∀ F, rp K F (g x y) z) : Op2 ce E K (rI C g) (rv K) x y (chk (C x y) z) := fun F1 H1 vx vy e rx ry Q q => by
  unfold chk at q
  split at q
  · rename_i hc
    exact o_I hc h F1 H1 vx vy e rx ry Q q
  · exact q.elim
end
end Mw

set_option Elab.async false
set_option linter.all false
set_option maxRecDepth 100000
set_option maxHeartbeats 2000000
/-! Mw, part B: the readings of expressions. -/
namespace Mw
open PySem L2
open Rep (rp)
/-! ### numbers with bounds -/
def CDivZ (_ j : Int) : Prop := j ≠ 0 ∧ j.natAbs.log2 < 9000
instance : ∀ i j, Decidable (CMulW i j) := fun i j => by unfold CMulW; infer_instance
instance : ∀ i j, Decidable (CDivW i j) := fun i j => by unfold CDivW; infer_instance
instance : ∀ i j, Decidable (CDivZ i j) := fun i j => by unfold CDivZ; infer_instance
instance : ∀ i j, Decidable (CPow i j) := fun i j => by unfold CPow; infer_instance
section
variable {X : Cx}
theorem op_fdivZ : OpR X (binaryOp .FloorDiv) (rI CDivZ fun i j => .int (i.fdiv j)) := by
  intro pins s σ H x y v u Q I rx ry h
  obtain ⟨i, j, rfl, rfl, hc, q⟩ := h
  obtain ⟨t, rfl⟩ := rx
  obtain ⟨t', rfl⟩ := ry
  exact PyProof.Rows.floordiv_int hc.1 ⟨.int _, H, I.tok _, ⟨_, rfl⟩, q⟩ (.inl (PyProof.noPylong_of_log2 hc.2))
end
noncomputable def mulM (x y : Int) : M Int := chk (CMulW x y) (x * y)
noncomputable def fdivM (x y : Int) : M Int := chk (CDivW x y) (x / y)
noncomputable def fdivZ (x y : Int) : M Int := chk (CDivZ x y) (x.fdiv y)
noncomputable def modM (x y : Int) : M Int := chk (0 < y) (x % y)
noncomputable def powM (x y : Int) : M Int := chk (CPow x y) (x ^ y.toNat)
section
variable {ρ α β γ δ : Type} [Rep α] [Rep β] [Rep γ] [Rep δ] {ce : Ce} {E : XK} {K : PySem.W.Frag} {σ : L2.St} {F H F' H' : Hp} {te ta tb tc td : TE} {tt tu : TT} {md : Md ρ} {m : M ρ}
theorem o_add {x y : Int} : Op2 ce E K (rI0 fun i j => .int (i + j)) (rv K) x y (.ok (x + y)) := o_I0 fun _ => rfl
theorem o_sub {x y : Int} : Op2 ce E K (rI0 fun i j => .int (i - j)) (rv K) x y (.ok (x - y)) := o_I0 fun _ => rfl
theorem o_mul {x y : Int} : Op2 ce E K (rI CMulW fun i j => .int (i * j)) (rv K) x y (mulM x y) := o_Ic fun _ => rfl
theorem o_fdivM {x y : Int} : Op2 ce E K (rI CDivW fun i j => .int (i / j)) (rv K) x y (fdivM x y) := o_Ic fun _ => rfl
theorem o_fdivZ {x y : Int} : Op2 ce E K (rI CDivZ fun i j => .int (i.fdiv j)) (rv K) x y (fdivZ x y) := o_Ic fun _ => rfl
theorem o_modM {x y : Int} : Op2 ce E K (rI (fun _ j => 0 < j) fun i j => .int (i % j)) (rv K) x y (modM x y) := o_Ic fun _ => rfl
theorem o_powM {x y : Int} : Op2 ce E K (rI CPow fun i j => .int (i ^ j.toNat)) (rv K) x y (powM x y) := o_Ic fun _ => rfl
theorem o_lt {x y : Int} : Op2 ce E K (rI0 fun i j => .bl (decide (i < j))) (rv K) x y (.ok (decide (x < y))) := o_I0 fun _ => rfl
theorem o_le {x y : Int} : Op2 ce E K (rI0 fun i j => .bl (decide (i ≤ j))) (rv K) x y (.ok (decide (x ≤ y))) := o_I0 fun _ => rfl
theorem o_gt {x y : Int} : Op2 ce E K (rI0 fun i j => .bl (decide (j < i))) (rv K) x y (.ok (decide (y < x))) := o_I0 fun _ => rfl
theorem o_ge {x y : Int} : Op2 ce E K (rI0 fun i j => .bl (decide (j ≤ i))) (rv K) x y (.ok (decide (y ≤ x))) := o_I0 fun _ => rfl
/-- both sides plain: one rule for the operators on ints -/
theorem e2 {r : R2} {x : α} {y : β} {z : ρ} [MdMo md] (ha : Ev ce E ta σ F H (rv K) (.ok x)) (hb : Ev ce E tb σ F H (rv K) (.ok y)) (hr : Op2 ce E K r md x y (.ok z)) : Ev ce E (tOp r ta tb) σ F H md (.ok z) := by
  intro F1 H1 g1 Q q
  refine ha F1 H1 g1 _ fun F2 H2 vx g2 rx => hb F2 H2 (g1.tr g2) _ fun F3 H3 vy g3 ry => ?_
  exact hr F3 H3 vx vy g3.fh (Rep.mo g3.ff rx) ry Q (Post.mo (m := .ok z) (g2.tr g3) q)
theorem e_neg {x : Int} (ha : Ev ce E ta σ F H (rv K) (.ok x)) : Ev ce E (tUn (rU fun i => .int (-i)) ta) σ F H (rv K) (.ok (-x)) := by
  intro F1 H1 g1 Q q
  refine ha F1 H1 g1 _ fun F2 H2 vx g2 rx => ?_
  cases rx
  exact ⟨x, rfl, q F2 H2 _ g2 rfl⟩
theorem o_neg {x : Int} : Op1 ce E K (rU fun i => .int (-i)) (rv K) x (.ok (-x)) := fun F1 H1 vx e rx Q q => by
  cases rx
  exact ⟨x, rfl, q F1 H1 _ (Gr.rf e) rfl⟩
/-- a product, one factor written: below 2 ^ 64 -/
theorem o_mulL {x y : Int} (h : CMul x y) : Op2 ce E K (rI CMul fun i j => .int (i * j)) (rv K) x y (.ok (x * y)) := o_I h fun _ => rfl
theorem o_fdiv {x y : Int} (h : CDiv x y) : Op2 ce E K (rI CDiv fun i j => .int (i / j)) (rv K) x y (.ok (x / y)) := o_I h fun _ => rfl
theorem o_fdivW {x y : Int} (h : CDivW x y) : Op2 ce E K (rI CDivW fun i j => .int (i / j)) (rv K) x y (.ok (x / y)) := o_I h fun _ => rfl
theorem o_mod {x y : Int} (h : 0 < y) : Op2 ce E K (rI (fun _ j => 0 < j) fun i j => .int (i % j)) (rv K) x y (.ok (x % y)) := o_I h fun _ => rfl
theorem o_pow {x y : Int} (h : CPow x y) : Op2 ce E K (rI CPow fun i j => .int (i ^ j.toNat)) (rv K) x y (.ok (x ^ y.toNat)) := o_I h fun _ => rfl
/-- what is told in other words -/
theorem e_is {x y : ρ} (h : Ev ce E te σ F H md (.ok x)) (e : x = y) : Ev ce E te σ F H md (.ok y) := by rw [← e]; exact h
theorem em_is {m m' : M ρ} (h : Ev ce E te σ F H md m) (e : m = m') : Ev ce E te σ F H md m' := by rw [← e]; exact h

/-! ### tests -/
theorem t_of {m : M Bool} (h : Ev ce E te σ F H (rv K) m) : EvT ce E (tTest te) σ F H m := fun F1 H1 g1 Q q => by
  refine h F1 H1 g1 _ ?_
  cases m with
  | ok b => exact fun F2 H2 v g2 r => ⟨b, r, q F2 H2 g2⟩
  | er c => exact q
  | bad => exact q
theorem t_B {m : M Bool} (h : Ev ce E te σ F H (rv K) m) : EvT ce E (tB te) σ F H m := fun F1 H1 g1 Q q => by
  refine h F1 H1 g1 _ ?_
  cases m with
  | ok b => exact fun F2 H2 v g2 r => ⟨b, r, q F2 H2 g2⟩
  | er c => exact q
  | bad => exact q
theorem t_and {a b : Bool} (ha : EvT ce E tt σ F H (.ok a)) (hb : EvT ce E tu σ F H (.ok b)) : EvT ce E (tAnd tt tu) σ F H (.ok (a && b)) := fun F1 H1 g1 Q q => by
  refine ha F1 H1 g1 _ fun F2 H2 g2 => ?_
  cases a with
  | true => exact hb F2 H2 (g1.tr g2) _ fun F3 H3 g3 => q F3 H3 (g2.tr g3)
  | false => exact q F2 H2 g2
theorem t_or {a b : Bool} (ha : EvT ce E tt σ F H (.ok a)) (hb : EvT ce E tu σ F H (.ok b)) : EvT ce E (tOr tt tu) σ F H (.ok (a || b)) := fun F1 H1 g1 Q q => by
  refine ha F1 H1 g1 _ fun F2 H2 g2 => ?_
  cases a with
  | false => exact hb F2 H2 (g1.tr g2) _ fun F3 H3 g3 => q F3 H3 (g2.tr g3)
  | true => exact q F2 H2 g2
def andM (m : M Bool) (k : M Bool) : M Bool := m.bind fun a => if a then k else .ok false
def orM (m : M Bool) (k : M Bool) : M Bool := m.bind fun a => if a then .ok true else k
def notM (m : M Bool) : M Bool := m.bind fun a => .ok (!a)
@[simp] theorem andM_t (k : M Bool) : andM (.ok true) k = k := rfl
@[simp] theorem andM_f (k : M Bool) : andM (.ok false) k = .ok false := rfl
@[simp] theorem orM_t (k : M Bool) : orM (.ok true) k = .ok true := rfl
@[simp] theorem orM_f (k : M Bool) : orM (.ok false) k = k := rfl
@[simp] theorem notM_ok (a : Bool) : notM (.ok a) = .ok (!a) := rfl
theorem tm_and {m k : M Bool} (ha : EvT ce E tt σ F H m) (hb : EvT ce E tu σ F H k) : EvT ce E (tAnd tt tu) σ F H (andM m k) := fun F1 H1 g1 Q q => by
  refine ha F1 H1 g1 _ ?_
  cases m with
  | ok a =>
    intro F2 H2 g2
    cases a with
    | true => exact hb F2 H2 (g1.tr g2) _ (PostT.mo g2 q)
    | false => exact q F2 H2 g2
  | er c => exact q
  | bad => exact q
theorem tm_or {m k : M Bool} (ha : EvT ce E tt σ F H m) (hb : EvT ce E tu σ F H k) : EvT ce E (tOr tt tu) σ F H (orM m k) := fun F1 H1 g1 Q q => by
  refine ha F1 H1 g1 _ ?_
  cases m with
  | ok a =>
    intro F2 H2 g2
    cases a with
    | false => exact hb F2 H2 (g1.tr g2) _ (PostT.mo g2 q)
    | true => exact q F2 H2 g2
  | er c => exact q
  | bad => exact q
theorem t_not {a : Bool} (ha : EvT ce E tt σ F H (.ok a)) : EvT ce E (tNot tt) σ F H (.ok (!a)) := fun F1 H1 g1 Q q => ha F1 H1 g1 _ fun F2 H2 g2 => q F2 H2 g2
theorem tm_not {m : M Bool} (ha : EvT ce E tt σ F H m) : EvT ce E (tNot tt) σ F H (notM m) := fun F1 H1 g1 Q q => by
  refine ha F1 H1 g1 _ ?_
  cases m with
  | ok a => exact fun F2 H2 g2 => q F2 H2 g2
  | er c => exact q
  | bad => exact q
theorem e_andV {a b : Bool} (ha : Ev ce E ta σ F H (rv K) (.ok a)) (hb : Ev ce E tb σ F H (rv K) (.ok b)) : Ev ce E (tAndV ta tb) σ F H (rv K) (.ok (a && b)) := fun F1 H1 g1 Q q => by
  refine ha F1 H1 g1 _ fun F2 H2 v g2 r => ⟨a, r, ?_⟩
  cases a with
  | true => exact hb F2 H2 (g1.tr g2) _ fun F3 H3 v' g3 => q F3 H3 v' (g2.tr g3)
  | false => exact q F2 H2 _ g2 rfl
theorem e_orV {a b : Bool} (ha : Ev ce E ta σ F H (rv K) (.ok a)) (hb : Ev ce E tb σ F H (rv K) (.ok b)) : Ev ce E (tOrV ta tb) σ F H (rv K) (.ok (a || b)) := fun F1 H1 g1 Q q => by
  refine ha F1 H1 g1 _ fun F2 H2 v g2 r => ⟨a, r, ?_⟩
  cases a with
  | false => exact hb F2 H2 (g1.tr g2) _ fun F3 H3 v' g3 => q F3 H3 v' (g2.tr g3)
  | true => exact q F2 H2 _ g2 rfl
theorem em_andV {m k : M Bool} (ha : Ev ce E ta σ F H (rv K) m) (hb : Ev ce E tb σ F H (rv K) k) : Ev ce E (tAndV ta tb) σ F H (rv K) (andM m k) := fun F1 H1 g1 Q q => by
  refine ha F1 H1 g1 _ ?_
  cases m with
  | ok a =>
    refine fun F2 H2 v g2 r => ⟨a, r, ?_⟩
    cases a with
    | true => exact hb F2 H2 (g1.tr g2) _ (Post.mo g2 q)
    | false => exact q F2 H2 _ g2 rfl
  | er c => exact q
  | bad => exact q
theorem em_orV {m k : M Bool} (ha : Ev ce E ta σ F H (rv K) m) (hb : Ev ce E tb σ F H (rv K) k) : Ev ce E (tOrV ta tb) σ F H (rv K) (orM m k) := fun F1 H1 g1 Q q => by
  refine ha F1 H1 g1 _ ?_
  cases m with
  | ok a =>
    refine fun F2 H2 v g2 r => ⟨a, r, ?_⟩
    cases a with
    | false => exact hb F2 H2 (g1.tr g2) _ (Post.mo g2 q)
    | true => exact q F2 H2 _ g2 rfl
  | er c => exact q
  | bad => exact q
theorem e_notV {a : Bool} (ha : Ev ce E ta σ F H (rv K) (.ok a)) : Ev ce E (tNotV ta) σ F H (rv K) (.ok (!a)) := fun F1 H1 g1 Q q => ha F1 H1 g1 _ fun F2 H2 v g2 r => ⟨a, r, q F2 H2 _ g2 rfl⟩
theorem em_notV {m : M Bool} (ha : Ev ce E ta σ F H (rv K) m) : Ev ce E (tNotV ta) σ F H (rv K) (notM m) := fun F1 H1 g1 Q q => by
  refine ha F1 H1 g1 _ ?_
  cases m with
  | ok a => exact fun F2 H2 v g2 r => ⟨a, r, q F2 H2 _ g2 rfl⟩
  | er c => exact q
  | bad => exact q
theorem em_if [MdMo md] {b : M Bool} {m k : M ρ} (h : EvT ce E tt σ F H b) (ha : Ev ce E ta σ F H md m) (hb : Ev ce E tb σ F H md k) : Ev ce E (tIf tt ta tb) σ F H md (b.bind fun c => if c then m else k) := fun F1 H1 g1 Q q => by
  refine h F1 H1 g1 _ ?_
  cases b with
  | ok b =>
    refine fun F2 H2 g2 => ?_
    cases b with
    | true => exact ha F2 H2 (g1.tr g2) _ (Post.mo g2 q)
    | false => exact hb F2 H2 (g1.tr g2) _ (Post.mo g2 q)
  | er c => exact q
  | bad => exact q
/-- x < y < z and its like -/
theorem em_chain {r r' : R2} {m1 : M α} {m2 : M β} {m3 : M γ} {p : α → β → Bool} {p' : β → γ → Bool} (ha : Ev ce E ta σ F H (rv K) m1) (hb : Ev ce E tb σ F H (rv K) m2) (hc : Ev ce E tc σ F H (rv K) m3)
    (h : ∀ x y, Op2 ce E K r (rv K) x y (.ok (p x y))) (h' : ∀ x y, Op2 ce E K r' (rv K) x y (.ok (p' x y))) :
    Ev ce E (tChain r r' ta tb tc) σ F H (rv K) (m1.bind fun x => m2.bind fun y => if p x y then m3.bind fun z => .ok (p' y z) else .ok false) := fun F1 H1 g1 Q q => by
  refine ha F1 H1 g1 _ ?_
  cases m1 with
  | ok x =>
    intro F2 H2 vx g2 rx
    refine hb F2 H2 (g1.tr g2) _ ?_
    cases m2 with
    | ok y =>
      intro F3 H3 vy g3 ry
      refine h x y F3 H3 vx vy g3.fh (Rep.mo g3.ff rx) ry _ fun F4 H4 v4 g4 r4 => ⟨p x y, r4, ?_⟩
      have q' : Post ce (rv K) (if p x y then m3.bind fun z => .ok (p' y z) else .ok false) F1 H1 Q E := q
      cases e : p x y with
      | true =>
        rw [e] at q'
        refine hc F4 H4 (((g1.tr g2).tr g3).tr g4) _ ?_
        cases m3 with
        | ok z => exact fun F5 H5 vz g5 rz => h' y z F5 H5 vy vz g5.fh (Rep.mo (g4.ff.tr g5.ff) ry) rz Q (Post.mo (m := .ok (p' y z)) (((g2.tr g3).tr g4).tr g5) q')
        | er c => exact fun H' e => q' H' (((g2.tr g3).tr g4).hh.tr e)
        | bad => exact q'
      | false =>
        rw [e] at q'
        exact q' F4 H4 _ ((g2.tr g3).tr g4) rfl
    | er c => exact fun H' e => q H' (g2.hh.tr e)
    | bad => exact q
  | er c => exact q
  | bad => exact q

/-! ### argument lists: what stands for each -/
/-- RA tells that the values stand for the data -/
inductive RA (K : PySem.W.Frag) (F : Hp) : List V → List ((V → Prop)) → Prop
/-- the arguments are told one by one: k runs with all of them -/
def EvA (ce : Ce) (E : XK) (ta : TA) (σ : L2.St) (F H : Hp) (R : Hp → List V → Prop) : Prop := ∀ F1 H1, Gr F H F1 H1 → ∀ Q : List V → Hp → Prop, (∀ F2 H2 vs, Gr F1 H1 F2 H2 → R F2 vs → Q vs H2) → ta σ H1 Q
/-- .. with effects -/
def EvAM (ce : Ce) (E : XK) (ta : TA) (σ : L2.St) (F H : Hp) (m : M α) (R : Hp → List V → α → Prop) : Prop := ∀ F1 H1, Gr F H F1 H1 → ∀ Q : List V → Hp → Prop,
  (match m with
    | .ok x => ∀ F2 H2 vs, Gr F1 H1 F2 H2 → R F2 vs x → Q vs H2
    | .er c => ∀ H', Ex H1 H' → E (.ref (ce c.name)) none H'
    | .bad => False) → ta σ H1 Q
def R0 : Hp → List V → Unit → Prop := fun _ vs _ => vs = []
def RC (K : PySem.W.Frag) {α β : Type} [Rep α] (R : Hp → List V → β → Prop) : Hp → List V → α × β → Prop := fun F vs x => ∃ v r, vs = v :: r ∧ rp K F v x.1 ∧ R F r x.2
class RMo {α : Type} (R : Hp → List V → α → Prop) : Prop where
  mo : ∀ {F F' vs x}, Ex F F' → R F vs x → R F' vs x
instance : RMo R0 := ⟨fun _ h => h⟩
instance {K : PySem.W.Frag} {α β : Type} [Rep α] {R : Hp → List V → β → Prop} [RMo R] : RMo (RC K (α := α) R) := ⟨fun e ⟨v, r, h1, h2, h3⟩ => ⟨v, r, h1, Rep.mo e h2, RMo.mo e h3⟩⟩
theorem ea_nil : EvAM ce E tNil σ F H (.ok ()) R0 := fun F1 H1 g1 Q q => q F1 H1 [] (Gr.rf g1.fh) rfl
theorem ea_cons {tr : TA} {m1 : M α} {m2 : M β} {R : Hp → List V → β → Prop} (ha : Ev ce E ta σ F H (rv K) m1) (hr : EvAM ce E tr σ F H m2 R) :
    EvAM ce E (tCons ta tr) σ F H (m1.bind fun x => m2.bind fun y => .ok (x, y)) (RC K R) := fun F1 H1 g1 Q q => by
  refine ha F1 H1 g1 _ ?_
  cases m1 with
  | ok x =>
    intro F2 H2 vx g2 rx
    refine hr F2 H2 (g1.tr g2) _ ?_
    cases m2 with
    | ok y => exact fun F3 H3 vs g3 r3 => q F3 H3 (vx :: vs) (g2.tr g3) ⟨vx, vs, rfl, Rep.mo g3.ff rx, r3⟩
    | er c => exact fun H' e => q H' (g2.hh.tr e)
    | bad => exact q
  | er c => exact q
  | bad => exact q
theorem e_cons {tr : TA} {x : α} {y : β} {R : Hp → List V → β → Prop} (ha : Ev ce E ta σ F H (rv K) (.ok x)) (hr : EvAM ce E tr σ F H (.ok y) R) : EvAM ce E (tCons ta tr) σ F H (.ok (x, y)) (RC K R) := ea_cons (m1 := .ok x) (m2 := .ok y) ha hr
/-- a call of values that are known: r what it asks, m what comes of it -/
def OpA (ce : Ce) (E : XK) (R : Hp → List V → α → Prop) (r : List V → Hp → VK → Prop) (md : Md ρ) (x : α) (m : M ρ) : Prop := ∀ F1 H1 vs, Ex F1 H1 → R F1 vs x → ∀ Q, Post ce md m F1 H1 Q E → r vs H1 Q
theorem em_cb [MdMo md] {ta : TA} {r : List V → Hp → VK → Prop} {m1 : M α} {R : Hp → List V → α → Prop} {g : α → M ρ} (ha : EvAM ce E ta σ F H m1 R) (hr : ∀ x, OpA ce E R r md x (g x)) : Ev ce E (tCB r ta) σ F H md (m1.bind g) := fun F1 H1 g1 Q q => by
  refine ha F1 H1 g1 _ ?_
  cases m1 with
  | ok x => exact fun F2 H2 vs g2 r2 => hr x F2 H2 vs g2.fh r2 Q (Post.mo g2 q)
  | er c => exact q
  | bad => exact q
theorem e_cb [MdMo md] {ta : TA} {r : List V → Hp → VK → Prop} {x : α} {R : Hp → List V → α → Prop} {z : ρ} (ha : EvAM ce E ta σ F H (.ok x) R) (hr : OpA ce E R r md x (.ok z)) : Ev ce E (tCB r ta) σ F H md (.ok z) := fun F1 H1 g1 Q q =>
  ha F1 H1 g1 _ fun F2 H2 vs g2 r2 => hr F2 H2 vs g2.fh r2 Q (Post.mo (m := .ok z) g2 q)
/-- a call of a def by its promise -/
def SpA (ce : Ce) (R : Hp → List V → α → Prop) (sp : Sp) (md : Md ρ) (x : α) (m : M ρ) : Prop := ∀ F1 H1 vs, Ex F1 H1 → R F1 vs x → ∀ Q (E : XK), Post ce md m F1 H1 Q E → sp vs H1 Q E
theorem em_call [MdMo md] {ta : TA} {sp : Sp} {m1 : M α} {R : Hp → List V → α → Prop} {g : α → M ρ} (ha : EvAM ce E ta σ F H m1 R) (hr : ∀ x, SpA ce R sp md x (g x)) : Ev ce E (tCall sp [] E ta) σ F H md (m1.bind g) := fun F1 H1 g1 Q q => by
  refine ha F1 H1 g1 _ ?_
  cases m1 with
  | ok x =>
    intro F2 H2 vs g2 r2
    show sp (vs ++ []) H2 Q E
    rw [List.append_nil]
    exact hr x F2 H2 vs g2.fh r2 Q E (Post.mo g2 q)
  | er c => exact q
  | bad => exact q
theorem e_call [MdMo md] {ta : TA} {sp : Sp} {x : α} {R : Hp → List V → α → Prop} {m : M ρ} (ha : EvAM ce E ta σ F H (.ok x) R) (hr : SpA ce R sp md x m) : Ev ce E (tCall sp [] E ta) σ F H md m := fun F1 H1 g1 Q q =>
  ha F1 H1 g1 _ fun F2 H2 vs g2 r2 => by
    show sp (vs ++ []) H2 Q E
    rw [List.append_nil]
    exact hr F2 H2 vs g2.fh r2 Q E (Post.mo g2 q)

/-! ### displays -/
theorem gr_new {o : HO} {p : Addr} (h : Ex F H) (n : H p = none) : F p = none := ex_back h n
theorem em_tup {ta : TA} {m1 : M α} {R : Hp → List V → α → Prop} [RMo R] {g : α → ρ} [Rep ρ] (ha : EvAM ce E ta σ F H m1 R) (hs : ∀ F vs x, R F vs x → vs.length ≤ sizeLine)
    (hg : ∀ F p vs x, R F vs x → F p = some (.tup vs) → rp K F (.ref p) (g x)) : Ev ce E (tTup ta) σ F H (rv K) (m1.bind fun x => .ok (g x)) := fun F1 H1 g1 Q q => by
  refine ha F1 H1 g1 _ ?_
  cases m1 with
  | ok x =>
    refine fun F2 H2 vs g2 r2 => ⟨hs F2 vs x r2, fun p np => ?_⟩
    refine q (upd F2 p (.tup vs)) _ _ (g2.tr (Gr.new g2.fh np)) (hg _ p vs x (RMo.mo (Ex.nw (ex_back g2.fh np)) r2) upd_same)
  | er c => exact q
  | bad => exact q
theorem r2_len {F : Hp} {vs : List V} {x : α × β × Unit} (h : RC K (RC K R0) F vs x) : vs.length ≤ sizeLine := by
  obtain ⟨v, r, rfl, _, v', r', rfl, _, rfl⟩ := h
  show 2 ≤ sizeLine
  decide
theorem em_tup2 {m1 : M α} {m2 : M β} (ha : Ev ce E ta σ F H (rv K) m1) (hb : Ev ce E tb σ F H (rv K) m2) : Ev ce E (tTup (tCons ta (tCons tb tNil))) σ F H (rv K) (m1.bind fun x => m2.bind fun y => .ok (x, y)) := fun F1 H1 g1 Q q => by
  refine ha F1 H1 g1 _ ?_
  cases m1 with
  | ok x =>
    intro F2 H2 v2 g2 q2
    refine hb F2 H2 (g1.tr g2) _ ?_
    cases m2 with
    | ok y =>
      refine fun F3 H3 v3 g3 q3 => ⟨by show 2 ≤ sizeLine; decide, fun p np => ?_⟩
      have e := Ex.nw (o := .tup [v2, v3]) (ex_back g3.fh np)
      exact q _ _ _ ((g2.tr g3).tr (Gr.new g3.fh np)) ⟨p, v2, v3, rfl, SqT.of upd_same, Rep.mo (g3.ff.tr e) q2, Rep.mo e q3⟩
    | er c => exact fun H' e => q H' (g2.hh.tr e)
    | bad => exact q
  | er c => exact q
  | bad => exact q
theorem em_tup3 {m1 : M α} {m2 : M β} {m3 : M γ} (ha : Ev ce E ta σ F H (rv K) m1) (hb : Ev ce E tb σ F H (rv K) m2) (hc : Ev ce E tc σ F H (rv K) m3) :
    Ev ce E (tTup (tCons ta (tCons tb (tCons tc tNil)))) σ F H (rv K) (m1.bind fun x => m2.bind fun y => m3.bind fun z => .ok (T3.mk x y z)) := fun F1 H1 g1 Q q => by
  refine ha F1 H1 g1 _ ?_
  cases m1 with
  | ok x =>
    intro F2 H2 v2 g2 q2
    refine hb F2 H2 (g1.tr g2) _ ?_
    cases m2 with
    | ok y =>
      intro F3 H3 v3 g3 q3
      refine hc F3 H3 ((g1.tr g2).tr g3) _ ?_
      cases m3 with
      | ok z =>
        refine fun F4 H4 v4 g4 q4 => ⟨by show 3 ≤ sizeLine; decide, fun p np => ?_⟩
        have e := Ex.nw (o := .tup [v2, v3, v4]) (ex_back g4.fh np)
        exact q _ _ _ (((g2.tr g3).tr g4).tr (Gr.new g4.fh np)) ⟨p, v2, v3, v4, rfl, SqT.of upd_same, Rep.mo ((g3.ff.tr g4.ff).tr e) q2, Rep.mo (g4.ff.tr e) q3, Rep.mo e q4⟩
      | er c => exact fun H' e => q H' ((g2.tr g3).hh.tr e)
      | bad => exact q
    | er c => exact fun H' e => q H' (g2.hh.tr e)
    | bad => exact q
  | er c => exact q
  | bad => exact q
/-- a written list: its items one by one -/
def EvL (ce : Ce) (E : XK) (K : PySem.W.Frag) (ta : TA) (σ : L2.St) (F H : Hp) (m : M (List α)) : Prop := EvAM ce E ta σ F H m (fun F vs x => Paired (rp K F) vs x)
theorem el_nil : EvL ce E K tNil σ F H (.ok ([] : List α)) := fun F1 H1 g1 Q q => q F1 H1 [] (Gr.rf g1.fh) .nil
theorem el_cons {tr : TA} {m1 : M α} {m2 : M (List α)} (ha : Ev ce E ta σ F H (rv K) m1) (hr : EvL ce E K tr σ F H m2) : EvL ce E K (tCons ta tr) σ F H (m1.bind fun x => m2.bind fun y => .ok (x :: y)) := fun F1 H1 g1 Q q => by
  refine ha F1 H1 g1 _ ?_
  cases m1 with
  | ok x =>
    intro F2 H2 vx g2 rx
    refine hr F2 H2 (g1.tr g2) _ ?_
    cases m2 with
    | ok y => exact fun F3 H3 vs g3 r3 => q F3 H3 (vx :: vs) (g2.tr g3) (.cons (Rep.mo g3.ff rx) r3)
    | er c => exact fun H' e => q H' (g2.hh.tr e)
    | bad => exact q
  | er c => exact q
  | bad => exact q
theorem em_lst {ta : TA} {m : M (List α)} (ha : EvL ce E K ta σ F H m) (hs : ∀ x, m = .ok x → x.length ≤ 1000) : Ev ce E (tLst ta) σ F H (rn K) m := fun F1 H1 g1 Q q => by
  refine ha F1 H1 g1 _ ?_
  cases m with
  | ok x =>
    refine fun F2 H2 vs g2 r2 => ⟨Nat.le_of_lt (small1000 (by rw [Paired.length r2]; exact hs x rfl)), fun p np => ?_⟩
    exact q F2 _ _ (g2.tr (Gr.own g2.fh np)) ⟨p, vs, rfl, ex_back g2.hh np, ex_back g2.fh np, upd_same, r2⟩
  | er c => exact q
  | bad => exact q

/-! ### places, lengths, slices -/
def ixM (xs : List α) (i : Int) : M α := match atI xs i with
  | some x => .ok x
  | none => .bad
theorem atI_pair {F : V → α → Prop} {vs : List V} {xs : List α} {i : Int} {x : α} (h : Paired F vs xs) (e : atI xs i = some x) : ∃ v, atI vs i = some v ∧ F v x := by
  unfold atI at e ⊢
  rw [Paired.length h]
  cases q : ixN xs.length i with
  | none => rw [q] at e; cases e
  | some j =>
    rw [q] at e
    exact paired_get h e
theorem o_ixL {xs : List α} {i : Int} : Op2 ce E K (rIxL K) (rv K) xs i (ixM xs i) := fun F1 H1 vx vy e rx ry Q q => by
  obtain ⟨a, vs, rfl, h2, h3⟩ := rx
  cases ry
  unfold ixM at q
  split at q
  · rename_i x hx
    obtain ⟨v, hv, rv'⟩ := atI_pair h3 hx
    exact ⟨a, vs, i, v, rfl, rfl, SqL.of (e _ _ h2), hv, q F1 H1 v (Gr.rf e) rv'⟩
  · exact q.elim
theorem o_ixS {xs : Scr} {i : Int} : Op2 ce E K (rIxL K) (rv K) xs i (ixM xs.l i) := fun F1 H1 vx vy e rx ry Q q => by
  obtain ⟨a, rfl, h2⟩ := rx
  cases ry
  unfold ixM at q
  split at q
  · rename_i x hx
    obtain ⟨v, hv, rv'⟩ := atI_pair (rep_int (K := K) (H := F1) xs.l) hx
    exact ⟨a, _, i, v, rfl, rfl, ex_l e h2, hv, q F1 H1 v (Gr.rf e) rv'⟩
  · exact q.elim
/-- places of tuples -/
theorem e_fst {x : α × β} (ha : Ev ce E ta σ F H (rv K) (.ok x)) : Ev ce E (tOp (rIxT K) ta (tC (.int 0))) σ F H (rv K) (.ok x.1) := fun F1 H1 g1 Q q => by
  refine ha F1 H1 g1 _ fun F2 H2 vx g2 ⟨a, u, w, e1, e2, e3, e4⟩ => ?_
  subst e1
  exact ⟨a, [u, w], 0, u, rfl, rfl, ex_t g2.fh e2, rfl, q F2 H2 u g2 e3⟩
theorem e_snd {x : α × β} (ha : Ev ce E ta σ F H (rv K) (.ok x)) : Ev ce E (tOp (rIxT K) ta (tC (.int 1))) σ F H (rv K) (.ok x.2) := fun F1 H1 g1 Q q => by
  refine ha F1 H1 g1 _ fun F2 H2 vx g2 ⟨a, u, w, e1, e2, e3, e4⟩ => ?_
  subst e1
  exact ⟨a, [u, w], 1, w, rfl, rfl, ex_t g2.fh e2, rfl, q F2 H2 w g2 e4⟩
theorem o_fst {x : α × β} {i : Int} (hi : i = 0) : Op2 ce E K (rIxT K) (rv K) x i (.ok x.1) := fun F1 H1 vx vy e ⟨a, u, w, e1, e2, e3, e4⟩ ry Q q => by
  subst e1 hi
  cases ry
  exact ⟨a, [u, w], 0, u, rfl, rfl, ex_t e e2, rfl, q F1 H1 u (Gr.rf e) e3⟩
theorem o_snd {x : α × β} {i : Int} (hi : i = 1) : Op2 ce E K (rIxT K) (rv K) x i (.ok x.2) := fun F1 H1 vx vy e ⟨a, u, w, e1, e2, e3, e4⟩ ry Q q => by
  subst e1 hi
  cases ry
  exact ⟨a, [u, w], 1, w, rfl, rfl, ex_t e e2, rfl, q F1 H1 w (Gr.rf e) e4⟩
theorem o_a3 {x : T3 α β γ} {i : Int} (hi : i = 0) : Op2 ce E K (rIxT K) (rv K) x i (.ok x.a) := fun F1 H1 vx vy e ⟨a, u, w, z, e1, e2, e3, e4, e5⟩ ry Q q => by
  subst e1 hi
  cases ry
  exact ⟨a, [u, w, z], 0, u, rfl, rfl, ex_t e e2, rfl, q F1 H1 u (Gr.rf e) e3⟩
theorem o_b3 {x : T3 α β γ} {i : Int} (hi : i = 1) : Op2 ce E K (rIxT K) (rv K) x i (.ok x.b) := fun F1 H1 vx vy e ⟨a, u, w, z, e1, e2, e3, e4, e5⟩ ry Q q => by
  subst e1 hi
  cases ry
  exact ⟨a, [u, w, z], 1, w, rfl, rfl, ex_t e e2, rfl, q F1 H1 w (Gr.rf e) e4⟩
theorem o_c3 {x : T3 α β γ} {i : Int} (hi : i = 2) : Op2 ce E K (rIxT K) (rv K) x i (.ok x.c) := fun F1 H1 vx vy e ⟨a, u, w, z, e1, e2, e3, e4, e5⟩ ry Q q => by
  subst e1 hi
  cases ry
  exact ⟨a, [u, w, z], 2, z, rfl, rfl, ex_t e e2, rfl, q F1 H1 z (Gr.rf e) e5⟩
/-- len -/
def rLenS (K : PySem.W.Frag) : List V → Hp → VK → Prop := fun xs H Q => ∃ p ys, xs = [.ref p] ∧ (SqL K H p ys ∨ SqT K H p ys) ∧ Q (.int ys.length) H
theorem a_len {xs : List α} : OpA ce E (RC K R0) (rLenS K) (rv K) (xs, ()) (.ok (xs.length : Int)) := fun F1 H1 vs e ⟨v, r, e1, ⟨a, us, h1, h2, h3⟩, e3⟩ Q q => by
  cases e3
  subst e1 h1
  refine ⟨a, us, rfl, .inl (SqL.of (e _ _ h2)), ?_⟩
  rw [Paired.length h3]
  exact q F1 H1 _ (Gr.rf e) rfl
theorem a_lenS {xs : Scr} : OpA ce E (RC K R0) (rLenS K) (rv K) (xs, ()) (.ok (xs.l.length : Int)) := fun F1 H1 vs e ⟨v, r, e1, ⟨a, h1, h2⟩, e3⟩ Q q => by
  cases e3
  subst e1 h1
  refine ⟨a, _, rfl, .inl (ex_l e h2), ?_⟩
  rw [List.length_map]
  exact q F1 H1 _ (Gr.rf e) rfl
theorem a_len2 {x : α × β} : OpA ce E (RC K R0) (rLenS K) (rv K) (x, ()) (.ok (2 : Int)) := fun F1 H1 vs e ⟨v, r, e1, ⟨a, u, w, h1, h2, h3, h4⟩, e3⟩ Q q => by
  cases e3
  subst e1 h1
  exact ⟨a, _, rfl, .inr (ex_t e h2), q F1 H1 _ (Gr.rf e) rfl⟩
theorem a_len3 {x : T3 α β γ} : OpA ce E (RC K R0) (rLenS K) (rv K) (x, ()) (.ok (3 : Int)) := fun F1 H1 vs e ⟨v, r, e1, ⟨a, u, w, z, h1, h2, h3, h4, h5⟩, e3⟩ Q q => by
  cases e3
  subst e1 h1
  exact ⟨a, _, rfl, .inr (ex_t e h2), q F1 H1 _ (Gr.rf e) rfl⟩
/-- list(xs): a new one -/
def rListS (K : PySem.W.Frag) : List V → Hp → VK → Prop := fun xs H Q => ∃ p ys, xs = [.ref p] ∧ (SqL K H p ys ∨ SqT K H p ys) ∧ ∀ l, H l = none → Q (.ref l) (upd H l (.lst ys))
theorem a_list {xs : List α} : OpA ce E (RC K R0) (rListS K) (rn K) (xs, ()) (.ok xs) := fun F1 H1 vs e ⟨v, r, e1, ⟨a, us, h1, h2, h3⟩, e3⟩ Q q => by
  cases e3
  subst e1 h1
  exact ⟨a, us, rfl, .inl (SqL.of (e _ _ h2)), fun l nl => q F1 _ _ (Gr.own e nl) ⟨l, us, rfl, nl, ex_back e nl, upd_same, h3⟩⟩
theorem a_listS {xs : Scr} : OpA ce E (RC K R0) (rListS K) (rn K) (xs, ()) (.ok xs.l) := fun F1 H1 vs e ⟨v, r, e1, ⟨a, h1, h2⟩, e3⟩ Q q => by
  cases e3
  subst e1 h1
  exact ⟨a, _, rfl, .inl (ex_l e h2), fun l nl => q F1 _ _ (Gr.own e nl) ⟨l, _, rfl, nl, ex_back e nl, upd_same, rep_int _⟩⟩
/-- abs, max, min, int of what is known -/
theorem a_abs {x : Int} : OpA ce E (RC K R0) (fun xs H Q => ∃ i, xs = [.int i] ∧ Q (.int (if i < 0 then -i else i)) H) (rv K) (x, ()) (.ok (if x < 0 then -x else x)) := fun F1 H1 vs e ⟨v, r, e1, h1, e3⟩ Q q => by
  cases e3
  cases h1
  subst e1
  exact ⟨x, rfl, q F1 H1 _ (Gr.rf e) rfl⟩
theorem a_max2 {x y : Int} : OpA ce E (RC K (RC K R0)) (fun xs H Q => ∃ i j, xs = [.int i, .int j] ∧ Q (.int (if j > i then j else i)) H) (rv K) (x, y, ()) (.ok (if y > x then y else x)) := fun F1 H1 vs e ⟨v, r, e1, h1, v', r', e2, h2, e3⟩ Q q => by
  cases e3
  cases h1
  cases h2
  subst e2
  subst e1
  exact ⟨x, y, rfl, q F1 H1 _ (Gr.rf e) rfl⟩
theorem a_min2 {x y : Int} : OpA ce E (RC K (RC K R0)) (fun xs H Q => ∃ i j, xs = [.int i, .int j] ∧ Q (.int (if j < i then j else i)) H) (rv K) (x, y, ()) (.ok (if y < x then y else x)) := fun F1 H1 vs e ⟨v, r, e1, h1, v', r', e2, h2, e3⟩ Q q => by
  cases e3
  cases h1
  cases h2
  subst e2
  subst e1
  exact ⟨x, y, rfl, q F1 H1 _ (Gr.rf e) rfl⟩
theorem a_intB {x : Bool} : OpA ce E (RC K R0) (fun xs H Q => (∃ i, xs = [.int i] ∧ Q (.int i) H) ∨ ∃ k, xs = [.bl k] ∧ Q (.int (if k then 1 else 0)) H) (rv K) (x, ()) (.ok (if x then (1 : Int) else 0)) := fun F1 H1 vs e ⟨v, r, e1, h1, e3⟩ Q q => by
  cases e3
  cases h1
  subst e1
  exact .inr ⟨x, rfl, q F1 H1 _ (Gr.rf e) rfl⟩
/-- sum of ints -/
theorem a_sum {xs : List Int} : OpA ce E (RC K R0) (rSum K) (rv K) (xs, ()) (.ok xs.sum) := fun F1 H1 vs e ⟨v, r, e1, ⟨a, us, h1, h2, h3⟩, e3⟩ Q q => by
  cases e3
  subst e1 h1
  have := paired_int h3
  subst this
  exact ⟨a, xs, rfl, SqL.of (e _ _ h2), q F1 H1 _ (Gr.rf e) rfl⟩
/-- the greatest, the least of a list of ints -/
def maxL : List Int → Int
  | [] => 0
  | [x] => x
  | x :: r => max x (maxL r)
def minL : List Int → Int
  | [] => 0
  | [x] => x
  | x :: r => min x (minL r)
theorem maxL_mem : ∀ {xs : List Int}, xs ≠ [] → maxL xs ∈ xs ∧ ∀ y ∈ xs, y ≤ maxL xs
  | [], h => absurd rfl h
  | [x], _ => ⟨List.mem_singleton.mpr rfl, fun y hy => by rw [List.mem_singleton.mp hy]; exact Int.le_refl _⟩
  | x :: y :: r, _ => by
    obtain ⟨h1, h2⟩ := maxL_mem (xs := y :: r) (by simp)
    show max x (maxL (y :: r)) ∈ _ ∧ ∀ z ∈ _, z ≤ max x (maxL (y :: r))
    refine ⟨?_, fun z hz => ?_⟩
    · by_cases c : x ≤ maxL (y :: r)
      · rw [Int.max_eq_right c]; exact List.mem_cons_of_mem _ h1
      · rw [Int.max_eq_left (by omega)]; exact List.mem_cons_self
    · rcases List.mem_cons.mp hz with rfl | hz
      · exact Int.le_max_left _ _
      · exact Int.le_trans (h2 z hz) (Int.le_max_right _ _)
theorem minL_mem : ∀ {xs : List Int}, xs ≠ [] → minL xs ∈ xs ∧ ∀ y ∈ xs, minL xs ≤ y
  | [], h => absurd rfl h
  | [x], _ => ⟨List.mem_singleton.mpr rfl, fun y hy => by rw [List.mem_singleton.mp hy]; exact Int.le_refl _⟩
  | x :: y :: r, _ => by
    obtain ⟨h1, h2⟩ := minL_mem (xs := y :: r) (by simp)
    show min x (minL (y :: r)) ∈ _ ∧ ∀ z ∈ _, min x (minL (y :: r)) ≤ z
    refine ⟨?_, fun z hz => ?_⟩
    · by_cases c : x ≤ minL (y :: r)
      · rw [Int.min_eq_left c]; exact List.mem_cons_self
      · rw [Int.min_eq_right (by omega)]; exact List.mem_cons_of_mem _ h1
    · rcases List.mem_cons.mp hz with rfl | hz
      · exact Int.min_le_left _ _
      · exact Int.le_trans (Int.min_le_right _ _) (h2 z hz)
noncomputable def maxM (xs : List Int) : M Int := chk (xs ≠ []) (maxL xs)
noncomputable def minM (xs : List Int) : M Int := chk (xs ≠ []) (minL xs)
theorem a_max {xs : List Int} : OpA ce E (RC K R0) (rMax K) (rv K) (xs, ()) (maxM xs) := fun F1 H1 vs e ⟨v, r, e1, ⟨a, us, h1, h2, h3⟩, e3⟩ Q q => by
  cases e3
  subst e1 h1
  have := paired_int h3
  subst this
  unfold maxM chk at q
  split at q
  · rename_i hne
    refine ⟨a, xs, rfl, SqL.of (e _ _ h2), List.length_pos_iff.mpr hne, fun m hm hle => ?_⟩
    obtain ⟨k1, k2⟩ := maxL_mem hne
    have : m = maxL xs := Int.le_antisymm (k2 m hm) (hle _ k1)
    subst this
    exact q F1 H1 _ (Gr.rf e) rfl
  · exact q.elim
theorem a_min {xs : List Int} : OpA ce E (RC K R0) (rMin K) (rv K) (xs, ()) (minM xs) := fun F1 H1 vs e ⟨v, r, e1, ⟨a, us, h1, h2, h3⟩, e3⟩ Q q => by
  cases e3
  subst e1 h1
  have := paired_int h3
  subst this
  unfold minM chk at q
  split at q
  · rename_i hne
    refine ⟨a, xs, rfl, SqL.of (e _ _ h2), List.length_pos_iff.mpr hne, fun m hm hle => ?_⟩
    obtain ⟨k1, k2⟩ := minL_mem hne
    have : m = minL xs := Int.le_antisymm (hle _ k1) (k2 m hm)
    subst this
    exact q F1 H1 _ (Gr.rf e) rfl
  · exact q.elim
end
end Mw

set_option Elab.async false
set_option linter.all false
set_option maxRecDepth 100000
set_option maxHeartbeats 2000000
/-! Mw, part C: slices, sums of lists, comparisons of data, sorts, comprehensions. -/
namespace Mw
open PySem L2
open Rep (rp)
/-! ### slices, list + list, list * int -/
def cut {α : Type} (xs : List α) (lo hi : Option Int) : List α := (xs.drop (HT.sIx xs.length 0 lo)).take (HT.sIx xs.length xs.length hi - HT.sIx xs.length 0 lo)
theorem cutV_is (xs : List V) (lo hi : Option Int) : cutV xs lo hi = cut xs lo hi := rfl
theorem paired_cut {α β : Type} {F : α → β → Prop} {vs : List α} {xs : List β} (h : Paired F vs xs) (lo hi : Option Int) : Paired F (cut vs lo hi) (cut xs lo hi) := by
  unfold cut
  rw [Paired.length h]
  exact paired_take _ (paired_drop _ h)
section
variable {ρ α β γ δ : Type} [Rep α] [Rep β] [Rep γ] [Rep δ] {ce : Ce} {E : XK} {K : PySem.W.Frag} {σ : L2.St} {F H F' H' : Hp} {te ta tb tc td : TE} {tt tu : TT} {md : Md ρ} {m : M ρ}
def EvO (ce : Ce) (E : XK) (to : TO) (σ : L2.St) (F H : Hp) (m : M (Option Int)) : Prop := ∀ F1 H1, Gr F H F1 H1 → ∀ Q : Option Int → Hp → Prop,
  (match m with
    | .ok x => ∀ F2 H2, Gr F1 H1 F2 H2 → Q x H2
    | .er c => ∀ H', Ex H1 H' → E (.ref (ce c.name)) none H'
    | .bad => False) → to σ H1 Q
theorem eo_none : EvO ce E tNoPart σ F H (.ok none) := fun F1 H1 g1 Q q => q F1 H1 (Gr.rf g1.fh)
theorem eo_some {m : M Int} (h : Ev ce E te σ F H (rv K) m) : EvO ce E (tPart te) σ F H (m.bind fun i => .ok (some i)) := fun F1 H1 g1 Q q => by
  refine h F1 H1 g1 _ ?_
  cases m with
  | ok i => exact fun F2 H2 v g2 r => ⟨i, r, q F2 H2 g2⟩
  | er c => exact q
  | bad => exact q
theorem eo_some' {i : Int} (h : Ev ce E te σ F H (rv K) (.ok i)) : EvO ce E (tPart te) σ F H (.ok (some i)) := eo_some (m := .ok i) h
theorem em_sl {tl th : TO} {m1 : M (List α)} {m2 m3 : M (Option Int)} (ha : Ev ce E ta σ F H (rv K) m1) (hl : EvO ce E tl σ F H m2) (hh : EvO ce E th σ F H m3) :
    Ev ce E (tSl (rSlL K) ta tl th) σ F H (rn K) (m1.bind fun x => m2.bind fun lo => m3.bind fun hi => .ok (cut x lo hi)) := fun F1 H1 g1 Q q => by
  refine ha F1 H1 g1 _ ?_
  cases m1 with
  | ok x =>
    rintro F2 H2 vx g2 ⟨a, vs, e1, e2, e3⟩
    refine hl F2 H2 (g1.tr g2) _ ?_
    cases m2 with
    | ok lo =>
      intro F3 H3 g3
      refine hh F3 H3 ((g1.tr g2).tr g3) _ ?_
      cases m3 with
      | ok hi =>
        intro F4 H4 g4
        refine ⟨a, vs, e1, SqL.of (g4.hh _ _ (g3.hh _ _ (g2.fh _ _ e2))), fun p np => ?_⟩
        exact q F4 _ _ (((g2.tr g3).tr g4).tr (Gr.own g4.fh np)) ⟨p, _, rfl, ex_back ((g2.hh.tr g3.hh).tr g4.hh) np, ex_back g4.fh np, upd_same, paired_cut (paired_mo (g3.ff.tr g4.ff) e3) lo hi⟩
      | er c => exact fun H' e => q H' ((g2.tr g3).hh.tr e)
      | bad => exact q
    | er c => exact fun H' e => q H' (g2.hh.tr e)
    | bad => exact q
  | er c => exact q
  | bad => exact q
/-- a slice of the script -/
theorem em_slS {tl th : TO} {x : Scr} {m2 m3 : M (Option Int)} (ha : Ev ce E ta σ F H (rv K) (.ok x)) (hl : EvO ce E tl σ F H m2) (hh : EvO ce E th σ F H m3) :
    Ev ce E (tSl (rSlL K) ta tl th) σ F H (rn K) (m2.bind fun lo => m3.bind fun hi => .ok (cut x.l lo hi)) := fun F1 H1 g1 Q q => by
  refine ha F1 H1 g1 _ ?_
  rintro F2 H2 vx g2 ⟨a, e1, e2⟩
  refine hl F2 H2 (g1.tr g2) _ ?_
  cases m2 with
  | ok lo =>
    intro F3 H3 g3
    refine hh F3 H3 ((g1.tr g2).tr g3) _ ?_
    cases m3 with
    | ok hi =>
      intro F4 H4 g4
      refine ⟨a, _, e1, ex_l ((g2.fh.tr g3.hh).tr g4.hh) e2, fun p np => ?_⟩
      exact q F4 _ _ (((g2.tr g3).tr g4).tr (Gr.own g4.fh np)) ⟨p, _, rfl, ex_back ((g2.hh.tr g3.hh).tr g4.hh) np, ex_back g4.fh np, upd_same, paired_cut (rep_int x.l) lo hi⟩
    | er c => exact fun H' e => q H' ((g2.tr g3).hh.tr e)
    | bad => exact q
  | er c => exact fun H' e => q H' (g2.hh.tr e)
  | bad => exact q
theorem em_rev {m1 : M (List α)} (ha : Ev ce E ta σ F H (rv K) m1) : Ev ce E (tRevL K ta) σ F H (rn K) (m1.bind fun x => .ok x.reverse) := fun F1 H1 g1 Q q => by
  refine ha F1 H1 g1 _ ?_
  cases m1 with
  | ok x =>
    rintro F2 H2 vx g2 ⟨a, vs, e1, e2, e3⟩
    refine ⟨a, vs, e1, SqL.of (g2.fh _ _ e2), fun p np => ?_⟩
    exact q F2 _ _ (g2.tr (Gr.own g2.fh np)) ⟨p, _, rfl, ex_back g2.hh np, ex_back g2.fh np, upd_same, paired_rev e3⟩
  | er c => exact q
  | bad => exact q
noncomputable def catM {α : Type} (xs ys : List α) : M (List α) := chk (xs.length + ys.length ≤ 16000000) (xs ++ ys)
theorem o_cat {xs ys : List α} : Op2 ce E K rCat (rn K) xs ys (catM xs ys) := fun F1 H1 vx vy e ⟨a, vs, h1, h2, h3⟩ ⟨b, ws, k1, k2, k3⟩ Q q => by
  unfold catM chk at q
  split at q
  · rename_i hc
    refine ⟨a, b, vs, ws, h1, k1, e _ _ h2, e _ _ k2, ?_, fun p np => ?_⟩
    · rw [Paired.length h3, Paired.length k3, sizeLine_eq]; omega
    · exact q F1 _ _ (Gr.own e np) ⟨p, _, rfl, np, ex_back e np, upd_same, paired_app h3 k3⟩
  · exact q.elim
theorem paired_flat {F : V → α → Prop} {vs : List V} {xs : List α} (h : Paired F vs xs) : ∀ n : Nat, Paired F (List.replicate n vs).flatten (List.replicate n xs).flatten
  | 0 => .nil
  | n + 1 => by
    rw [List.replicate_succ, List.replicate_succ, List.flatten_cons, List.flatten_cons]
    exact paired_app h (paired_flat h n)
noncomputable def repM {α : Type} (xs : List α) (k : Int) : M (List α) := chk (-(2 ^ 63) ≤ k ∧ k < 2 ^ 63 ∧ xs.length * k.toNat ≤ 16000000) (List.replicate k.toNat xs).flatten
theorem o_rep {xs : List α} {k : Int} : Op2 ce E K rRep (rn K) xs k (repM xs k) := fun F1 H1 vx vy e ⟨a, vs, h1, h2, h3⟩ ry Q q => by
  cases ry
  unfold repM chk at q
  split at q
  · rename_i hc
    refine ⟨a, k, vs, h1, rfl, e _ _ h2, hc.1, hc.2.1, ?_, fun p np => ?_⟩
    · rw [Paired.length h3, sizeLine_eq]; omega
    · exact q F1 _ _ (Gr.own e np) ⟨p, _, rfl, np, ex_back e np, upd_same, paired_flat h3 _⟩
  · exact q.elim

/-! ### == of data -/
class Dat (α : Type) [Rep α] [DecidableEq α] where
  dat : α → PyData
  deep : Nat
  dp : ∀ {K : PySem.W.Frag} {H : Hp} {v : V} {x : α}, rp K H v x → Dp K H v (dat x)
  cl : ∀ x, (dat x).canLay0 = true
  de : ∀ x, (dat x).depth ≤ deep
  eq : ∀ x y, PyData.eqv (dat x) (dat y) = decide (x = y)
end
instance : Dat Int := ⟨fun i => .int i, 0, fun {K H v x} h => by cases h; exact .int x, fun _ => rfl, fun _ => Nat.le_refl _, fun x y => by simp only [PyData.eqv]; rw [Bool.eq_iff_iff]; simp⟩
instance : Dat Bool := ⟨fun i => .bool i, 0, fun {K H v x} h => by cases h; exact .bl x, fun _ => rfl, fun _ => Nat.le_refl _, fun x y => by simp only [PyData.eqv]; rw [Bool.eq_iff_iff]; simp⟩
/-- what is told apart from None -/
class NotN (α : Type) [Rep α] [DecidableEq α] [Dat α] : Prop where
  nn : ∀ x : α, PyData.eqv .none (Dat.dat x) = false ∧ PyData.eqv (Dat.dat x) .none = false
instance : NotN Int := ⟨fun x => ⟨by show PyData.eqv .none (.int x) = false; simp [PyData.eqv], by show PyData.eqv (.int x) .none = false; simp [PyData.eqv]⟩⟩
instance : NotN Bool := ⟨fun x => ⟨by show PyData.eqv .none (.bool x) = false; simp [PyData.eqv], by show PyData.eqv (.bool x) .none = false; simp [PyData.eqv]⟩⟩
instance {α : Type} [Rep α] [DecidableEq α] [Dat α] [NotN α] : Dat (Option α) where
  dat := fun x => match x with
    | none => .none
    | some y => Dat.dat y
  deep := Dat.deep α
  dp := fun {K H v x} h => by
    cases x with
    | none => cases h; exact .non
    | some y => exact Dat.dp h.1
  cl := fun x => by cases x with
    | none => rfl
    | some y => exact Dat.cl y
  de := fun x => by cases x with
    | none => exact Nat.zero_le _
    | some y => exact Dat.de y
  eq := fun x y => by
    cases x with
    | none => cases y with
      | none => simp [PyData.eqv]
      | some b => simpa using (NotN.nn b).1
    | some a => cases y with
      | none => simpa using (NotN.nn a).2
      | some b => simpa using Dat.eq a b
theorem dpAll_of {α : Type} [Rep α] [DecidableEq α] [Dat α] {K : PySem.W.Frag} {H : Hp} : ∀ {vs : List V} {xs : List α}, Paired (rp K H) vs xs → DpAll K H vs (xs.map Dat.dat)
  | _, _, .nil => .nil
  | _, _, .cons h t => .cons (Dat.dp h) (dpAll_of t)
theorem clAll {α : Type} [Rep α] [DecidableEq α] [Dat α] : ∀ xs : List α, PyData.canLayAll0 (xs.map Dat.dat) = true
  | [] => by simp [PyData.canLayAll0]
  | x :: r => by simp [PyData.canLayAll0, Dat.cl x, clAll r]
theorem deAll {α : Type} [Rep α] [DecidableEq α] [Dat α] : ∀ xs : List α, PyData.depthAll (xs.map Dat.dat) ≤ Dat.deep α
  | [] => Nat.zero_le _
  | x :: r => by
    show max (PyData.depth (Dat.dat x)) (PyData.depthAll (r.map Dat.dat)) ≤ _
    exact Nat.max_le.mpr ⟨Dat.de x, deAll r⟩
theorem eqAll {α : Type} [Rep α] [DecidableEq α] [Dat α] : ∀ xs ys : List α, PyData.eqvAll (xs.map Dat.dat) (ys.map Dat.dat) = decide (xs = ys)
  | [], [] => by simp [PyData.eqvAll]
  | [], _ :: _ => by simp [PyData.eqvAll]
  | _ :: _, [] => by simp [PyData.eqvAll]
  | x :: r, y :: s => by
    simp only [List.map_cons, PyData.eqvAll, Dat.eq x y, eqAll r s, List.cons.injEq]
    simp
instance {α : Type} [Rep α] [DecidableEq α] [Dat α] : Dat (List α) where
  dat := fun xs => .list (xs.map Dat.dat)
  deep := Dat.deep α + 1
  dp := fun {K H v x} ⟨a, vs, h1, h2, h3⟩ => by subst h1; exact .lst (SqL.of h2) (dpAll_of h3)
  cl := fun xs => by simpa [PyData.canLay0] using clAll xs
  de := fun xs => by
    show PyData.depthAll (xs.map Dat.dat) + 1 ≤ _
    exact Nat.succ_le_succ (deAll xs)
  eq := fun xs ys => by simpa [PyData.eqv] using eqAll xs ys
instance {α : Type} [Rep α] [DecidableEq α] [Dat α] : NotN (List α) := ⟨fun x => ⟨by show PyData.eqv .none (.list _) = false; simp [PyData.eqv], by show PyData.eqv (.list _) .none = false; simp [PyData.eqv]⟩⟩
instance {α β : Type} [Rep α] [Rep β] [DecidableEq α] [DecidableEq β] [Dat α] [Dat β] : Dat (α × β) where
  dat := fun x => .tuple [Dat.dat x.1, Dat.dat x.2]
  deep := max (Dat.deep α) (Dat.deep β) + 1
  dp := fun {K H v x} ⟨a, u, w, h1, h2, h3, h4⟩ => by subst h1; exact .tup h2 (.cons (Dat.dp h3) (.cons (Dat.dp h4) .nil))
  cl := fun x => by simp [PyData.canLay0, PyData.canLayAll0, Dat.cl]
  de := fun x => by
    show max (PyData.depth _) (max (PyData.depth _) 0) + 1 ≤ _
    have h1 := Dat.de x.1
    have h2 := Dat.de x.2
    omega
  eq := fun x y => by
    obtain ⟨x1, x2⟩ := x
    obtain ⟨y1, y2⟩ := y
    simp only [PyData.eqv, PyData.eqvAll, Dat.eq, Bool.and_true, Prod.mk.injEq]
    simp
instance {α β : Type} [Rep α] [Rep β] [DecidableEq α] [DecidableEq β] [Dat α] [Dat β] : NotN (α × β) := ⟨fun x => ⟨by show PyData.eqv .none (.tuple _) = false; simp [PyData.eqv], by show PyData.eqv (.tuple _) .none = false; simp [PyData.eqv]⟩⟩
instance {α β γ : Type} [Rep α] [Rep β] [Rep γ] [DecidableEq α] [DecidableEq β] [DecidableEq γ] [Dat α] [Dat β] [Dat γ] : Dat (T3 α β γ) where
  dat := fun x => .tuple [Dat.dat x.a, Dat.dat x.b, Dat.dat x.c]
  deep := max (Dat.deep α) (max (Dat.deep β) (Dat.deep γ)) + 1
  dp := fun {K H v x} ⟨a, u, w, z, h1, h2, h3, h4, h5⟩ => by subst h1; exact .tup h2 (.cons (Dat.dp h3) (.cons (Dat.dp h4) (.cons (Dat.dp h5) .nil)))
  cl := fun x => by simp [PyData.canLay0, PyData.canLayAll0, Dat.cl]
  de := fun x => by
    show max (PyData.depth _) (max (PyData.depth _) (max (PyData.depth _) 0)) + 1 ≤ _
    have h1 := Dat.de x.a
    have h2 := Dat.de x.b
    have h3 := Dat.de x.c
    omega
  eq := fun x y => by
    obtain ⟨x1, x2, x3⟩ := x
    obtain ⟨y1, y2, y3⟩ := y
    simp only [PyData.eqv, PyData.eqvAll, Dat.eq, Bool.and_true, T3.mk.injEq]
    simp
instance {α β γ : Type} [Rep α] [Rep β] [Rep γ] [DecidableEq α] [DecidableEq β] [DecidableEq γ] [Dat α] [Dat β] [Dat γ] : NotN (T3 α β γ) := ⟨fun x => ⟨by show PyData.eqv .none (.tuple _) = false; simp [PyData.eqv], by show PyData.eqv (.tuple _) .none = false; simp [PyData.eqv]⟩⟩
section
variable {ρ α β γ δ : Type} [Rep α] [Rep β] [Rep γ] [Rep δ] {ce : Ce} {E : XK} {K : PySem.W.Frag} {σ : L2.St} {F H F' H' : Hp} {te ta tb tc td : TE} {tt tu : TT} {md : Md ρ} {m : M ρ}
theorem shaped_of [DecidableEq α] [Dat α] (h : Dat.deep α ≤ 64) (x : α) : SeqAt.shaped (Dat.dat x) = true := by
  unfold SeqAt.shaped
  rw [Dat.cl x]
  exact decide_eq_true (Nat.le_trans (Dat.de x) h)
theorem o_eqD [DecidableEq α] [Dat α] {x y : α} (h : Dat.deep α ≤ 64) : Op2 ce E K (rEqD K) (rv K) x y (.ok (decide (x = y))) := fun F1 H1 vx vy e rx ry Q q => by
  refine ⟨Dat.dat x, Dat.dat y, Dat.dp (Rep.mo e rx), Dat.dp (Rep.mo e ry), shaped_of h x, shaped_of h y, ?_⟩
  rw [Dat.eq]
  exact q F1 H1 _ (Gr.rf e) rfl
theorem o_neD [DecidableEq α] [Dat α] {x y : α} (h : Dat.deep α ≤ 64) : Op2 ce E K (rNeD K) (rv K) x y (.ok (!decide (x = y))) := fun F1 H1 vx vy e rx ry Q q => by
  refine ⟨Dat.dat x, Dat.dat y, Dat.dp (Rep.mo e rx), Dat.dp (Rep.mo e ry), shaped_of h x, shaped_of h y, ?_⟩
  rw [Dat.eq]
  exact q F1 H1 _ (Gr.rf e) rfl
/-- x == y where the one may be None -/
theorem o_eqDo [DecidableEq α] [Dat α] [NotN α] {x : Option α} {y : α} (h : Dat.deep α ≤ 64) : Op2 ce E K (rEqD K) (rv K) x y (.ok (decide (x = some y))) := fun F1 H1 vx vy e rx ry Q q => by
  refine ⟨Dat.dat x, Dat.dat y, Dat.dp (Rep.mo e rx), Dat.dp (Rep.mo e ry), shaped_of (α := Option α) h x, shaped_of h y, ?_⟩
  rw [show PyData.eqv (Dat.dat x) (Dat.dat y) = decide (x = some y) from Dat.eq x (some y)]
  exact q F1 H1 _ (Gr.rf e) rfl
theorem o_neDo [DecidableEq α] [Dat α] [NotN α] {x : Option α} {y : α} (h : Dat.deep α ≤ 64) : Op2 ce E K (rNeD K) (rv K) x y (.ok (!decide (x = some y))) := fun F1 H1 vx vy e rx ry Q q => by
  refine ⟨Dat.dat x, Dat.dat y, Dat.dp (Rep.mo e rx), Dat.dp (Rep.mo e ry), shaped_of (α := Option α) h x, shaped_of h y, ?_⟩
  rw [show PyData.eqv (Dat.dat x) (Dat.dat y) = decide (x = some y) from Dat.eq x (some y)]
  exact q F1 H1 _ (Gr.rf e) rfl
theorem o_eqI {x y : Int} : Op2 ce E K rEq (rv K) x y (.ok (decide (x = y))) := fun F1 H1 vx vy e rx ry Q q => by
  cases rx; cases ry
  refine ⟨rfl, ?_⟩
  have : decide (V.int x = V.int y) = decide (x = y) := by rw [Bool.eq_iff_iff]; simp
  rw [this]
  exact q F1 H1 _ (Gr.rf e) rfl
theorem o_neI {x y : Int} : Op2 ce E K rNe (rv K) x y (.ok (!decide (x = y))) := fun F1 H1 vx vy e rx ry Q q => by
  cases rx; cases ry
  refine ⟨rfl, ?_⟩
  have : decide (V.int x = V.int y) = decide (x = y) := by rw [Bool.eq_iff_iff]; simp
  rw [this]
  exact q F1 H1 _ (Gr.rf e) rfl
theorem o_eqB {x y : Bool} : Op2 ce E K rEq (rv K) x y (.ok (decide (x = y))) := fun F1 H1 vx vy e rx ry Q q => by
  cases rx; cases ry
  refine ⟨rfl, ?_⟩
  have : decide (V.bl x = V.bl y) = decide (x = y) := by rw [Bool.eq_iff_iff]; simp
  rw [this]
  exact q F1 H1 _ (Gr.rf e) rfl
theorem o_neB {x y : Bool} : Op2 ce E K rNe (rv K) x y (.ok (!decide (x = y))) := fun F1 H1 vx vy e rx ry Q q => by
  cases rx; cases ry
  refine ⟨rfl, ?_⟩
  have : decide (V.bl x = V.bl y) = decide (x = y) := by rw [Bool.eq_iff_iff]; simp
  rw [this]
  exact q F1 H1 _ (Gr.rf e) rfl
theorem o_eqS {x y : Str} : Op2 ce E K rEq (rv K) x y (.ok (decide (x = y))) := fun F1 H1 vx vy e rx ry Q q => by
  cases rx; cases ry
  refine ⟨rfl, ?_⟩
  have : decide (V.str x = V.str y) = decide (x = y) := by rw [Bool.eq_iff_iff]; simp
  rw [this]
  exact q F1 H1 _ (Gr.rf e) rfl
theorem o_neS {x y : Str} : Op2 ce E K rNe (rv K) x y (.ok (!decide (x = y))) := fun F1 H1 vx vy e rx ry Q q => by
  cases rx; cases ry
  refine ⟨rfl, ?_⟩
  have : decide (V.str x = V.str y) = decide (x = y) := by rw [Bool.eq_iff_iff]; simp
  rw [this]
  exact q F1 H1 _ (Gr.rf e) rfl
/-- x is None, x is not None -/
def rIsN : R2 := fun x y H Q => y = .non ∧ Q (.bl (decide (x = .non))) H
def rNotN : R2 := fun x y H Q => y = .non ∧ Q (.bl (!decide (x = .non))) H
theorem o_isN {x : Option α} : Op2 ce E K rIsN (rv K) x () (.ok (!x.isSome)) := fun F1 H1 vx vy e rx ry Q q => by
  cases ry
  refine ⟨rfl, ?_⟩
  have : decide (vx = V.non) = !x.isSome := by
    cases x with
    | none => cases rx; rfl
    | some y => exact decide_eq_false rx.2
  rw [this]
  exact q F1 H1 _ (Gr.rf e) rfl
theorem o_notN {x : Option α} : Op2 ce E K rNotN (rv K) x () (.ok x.isSome) := fun F1 H1 vx vy e rx ry Q q => by
  cases ry
  refine ⟨rfl, ?_⟩
  have : (!decide (vx = V.non)) = x.isSome := by
    cases x with
    | none => cases rx; rfl
    | some y => rw [decide_eq_false rx.2] <;> rfl
  rw [this]
  exact q F1 H1 _ (Gr.rf e) rfl
theorem o_isU {x : Unit} : Op2 ce E K rIsN (rv K) x () (.ok true) := fun F1 H1 vx vy e rx ry Q q => by
  cases ry; cases rx
  exact ⟨rfl, q F1 H1 _ (Gr.rf e) rfl⟩
theorem o_notU {x : Unit} : Op2 ce E K rNotN (rv K) x () (.ok false) := fun F1 H1 vx vy e rx ry Q q => by
  cases ry; cases rx
  exact ⟨rfl, q F1 H1 _ (Gr.rf e) rfl⟩
/-- a value that may be None -/
class NN (α : Type) [Rep α] : Prop where
  nn : ∀ {K : PySem.W.Frag} {H : Hp} {v : V} {x : α}, rp K H v x → v ≠ .non
instance : NN Int := ⟨fun h => by cases h; exact fun z => nomatch z⟩
instance : NN Bool := ⟨fun h => by cases h; exact fun z => nomatch z⟩
instance : NN Str := ⟨fun h => by cases h; exact fun z => nomatch z⟩
instance : NN (List α) := ⟨fun ⟨a, vs, h1, _⟩ => by subst h1; exact fun z => nomatch z⟩
instance : NN (α × β) := ⟨fun ⟨a, u, w, h1, _⟩ => by subst h1; exact fun z => nomatch z⟩
instance : NN (T3 α β γ) := ⟨fun ⟨a, u, w, z, h1, _⟩ => by subst h1; exact fun z => nomatch z⟩
instance : NN (T4 α β γ δ) := ⟨fun ⟨a, u, w, z, y, h1, _⟩ => by subst h1; exact fun z => nomatch z⟩
theorem em_some [NN α] {m : M α} (h : Ev ce E te σ F H (rv K) m) : Ev ce E te σ F H (rv K) (m.bind fun x => .ok (some x)) := fun F1 H1 g1 Q q => by
  refine h F1 H1 g1 _ ?_
  cases m with
  | ok x => exact fun F2 H2 v g2 r => q F2 H2 v g2 ⟨r, NN.nn r⟩
  | er c => exact q
  | bad => exact q
/-- what is not None -/
def getM {α : Type} (x : Option α) : M α := match x with
  | some y => .ok y
  | none => .bad
theorem em_get {m : M (Option α)} (h : Ev ce E te σ F H (rv K) m) : Ev ce E te σ F H (rv K) (m.bind getM) := fun F1 H1 g1 Q q => by
  refine h F1 H1 g1 _ ?_
  cases m with
  | ok x =>
    cases x with
    | none => exact q.elim
    | some y => exact fun F2 H2 v g2 r => q F2 H2 v g2 r.1
  | er c => exact q
  | bad => exact q

/-! ### in a list -/
theorem inV_int (x : Int) : ∀ xs : List Int, inV (.int x) (xs.map V.int) = decide (x ∈ xs)
  | [] => by simp [inV]
  | y :: r => by
    have ih := inV_int x r
    unfold inV at ih ⊢
    rw [List.map_cons, List.any_cons, ih]
    have : eqV (V.int y) (V.int x) = decide (x = y) := by
      show (y == x) = decide (x = y)
      rw [Bool.eq_iff_iff, beq_iff_eq, decide_eq_true_eq]
      exact ⟨Eq.symm, Eq.symm⟩
    rw [this, Bool.eq_iff_iff]
    simp
theorem flat_ints : ∀ xs : List Int, (xs.map V.int).all flatV = true
  | [] => rfl
  | _ :: r => by rw [List.map_cons, List.all_cons, flat_ints r] <;> rfl
theorem o_in {x : Int} {xs : List Int} : Op2 ce E K (rIn K false) (rv K) x xs (.ok (decide (x ∈ xs))) := fun F1 H1 vx vy e rx ⟨a, vs, h1, h2, h3⟩ Q q => by
  cases rx
  have := paired_int h3
  subst this
  subst h1
  refine ⟨a, _, rfl, .inl (SqL.of (e _ _ h2)), rfl, flat_ints _, ?_⟩
  show Q (V.bl (if false = true then _ else _)) H1
  rw [if_neg Bool.false_ne_true, inV_int]
  exact q F1 H1 _ (Gr.rf e) rfl
theorem o_notIn {x : Int} {xs : List Int} : Op2 ce E K (rIn K true) (rv K) x xs (.ok (!decide (x ∈ xs))) := fun F1 H1 vx vy e rx ⟨a, vs, h1, h2, h3⟩ Q q => by
  cases rx
  have := paired_int h3
  subst this
  subst h1
  refine ⟨a, _, rfl, .inl (SqL.of (e _ _ h2)), rfl, flat_ints _, ?_⟩
  show Q (V.bl (if true = true then _ else _)) H1
  rw [if_pos rfl, inV_int]
  exact q F1 H1 _ (Gr.rf e) rfl

/-! ### sorted ints -/
def insI (x : Int) : List Int → List Int
  | [] => [x]
  | y :: r => if x ≤ y then x :: y :: r else y :: insI x r
def sortI : List Int → List Int
  | [] => []
  | x :: r => insI x (sortI r)
theorem insI_perm (x : Int) : ∀ xs, (insI x xs).Perm (x :: xs)
  | [] => List.Perm.refl _
  | y :: r => by
    unfold insI
    split
    · exact List.Perm.refl _
    · exact (List.Perm.cons y (insI_perm x r)).trans (List.Perm.swap x y r)
theorem sortI_perm : ∀ xs, (sortI xs).Perm xs
  | [] => List.Perm.refl _
  | x :: r => (insI_perm x _).trans (List.Perm.cons x (sortI_perm r))
theorem insI_sorted (x : Int) : ∀ {xs : List Int}, xs.Pairwise (· ≤ ·) → (insI x xs).Pairwise (· ≤ ·)
  | [], _ => List.pairwise_singleton _ _
  | y :: r, h => by
    unfold insI
    have hy := List.pairwise_cons.mp h
    split
    · rename_i c
      refine List.pairwise_cons.mpr ⟨fun z hz => ?_, h⟩
      rcases List.mem_cons.mp hz with rfl | hz
      · exact c
      · exact Int.le_trans c (hy.1 z hz)
    · rename_i c
      refine List.pairwise_cons.mpr ⟨fun z hz => ?_, insI_sorted x hy.2⟩
      rcases List.mem_cons.mp ((insI_perm x r).mem_iff.mp hz) with rfl | hz
      · omega
      · exact hy.1 z hz
theorem sortI_sorted : ∀ xs : List Int, (sortI xs).Pairwise (· ≤ ·)
  | [] => List.Pairwise.nil
  | x :: r => insI_sorted x (sortI_sorted r)
theorem sorted_same : ∀ {xs ys : List Int}, xs.Perm ys → xs.Pairwise (· ≤ ·) → ys.Pairwise (· ≤ ·) → xs = ys
  | [], ys, p, _, _ => (List.Perm.nil_eq p)
  | x :: r, [], p, _, _ => absurd p.length_eq (by simp)
  | x :: r, y :: s, p, h1, h2 => by
    have a1 := List.pairwise_cons.mp h1
    have a2 := List.pairwise_cons.mp h2
    have e : x = y := by
      have m1 : x ∈ y :: s := p.mem_iff.mp List.mem_cons_self
      have m2 : y ∈ x :: r := p.mem_iff.mpr List.mem_cons_self
      rcases List.mem_cons.mp m1 with rfl | m1
      · rfl
      · rcases List.mem_cons.mp m2 with rfl | m2
        · rfl
        · have := a1.1 y m2
          have := a2.1 x m1
          omega
    subst e
    rw [sorted_same (List.Perm.cons_inv p) a1.2 a2.2]
theorem a_sorted {xs : List Int} : OpA ce E (RC K R0) (rSortedI K) (rn K) (xs, ()) (.ok (sortI xs)) := fun F1 H1 vs e ⟨v, r, e1, ⟨a, us, h1, h2, h3⟩, e3⟩ Q q => by
  cases e3
  subst e1 h1
  have := paired_int h3
  subst this
  refine ⟨a, xs, rfl, SqL.of (e _ _ h2), fun ns p hp hs np => ?_⟩
  have : ns = sortI xs := sorted_same (hp.trans (sortI_perm xs).symm) hs (sortI_sorted xs)
  subst this
  exact q F1 _ _ (Gr.own e np) ⟨p, _, rfl, np, ex_back e np, upd_same, rep_int _⟩

/-! ### isinstance, by the types -/
theorem a_isI {n : String} {b : Bool} {x : Int} (hb : PySem.W.kitOne K (.type "int") (.type n) = some b) : OpA ce E (fun F vs (x : Int) => vs = [.int x, .ty n]) (rIsi K) (rv K) x (.ok b) := fun F1 H1 vs e h Q q => by
  subst h
  exact ⟨.int x, .ty n, _, _, b, rfl, .ty n, .base (.int x), hb, q F1 H1 _ (Gr.rf e) rfl⟩
end
end Mw

set_option Elab.async false
set_option linter.all false
set_option maxRecDepth 100000
set_option maxHeartbeats 2000000
/-! Mw, part D: statements, loops, comprehensions, defs. -/
namespace Mw
open PySem L2
open Rep (rp)
/-! ### what is left to be done -/
def Wp {τ : Type} (ce : Ce) (E : XK) (H0 : Hp) (m : M τ) (P : τ → Prop) : Prop :=
  match m with
  | .ok r => P r
  | .er c => ∀ H', Ex H0 H' → E (.ref (ce c.name)) none H'
  | .bad => False
def Fin {ρ : Type} (md : Md ρ) (F0 H0 : Hp) (Q : VK) : ρ → Prop := fun r => ∀ F' H' v, Gr F0 H0 F' H' → md F0 H0 F' H' v r → Q v H'
theorem wp_post {ρ : Type} {ce : Ce} {md : Md ρ} {m : M ρ} {F H : Hp} {Q : VK} {E : XK} (h : Post ce md m F H Q E) : Wp ce E H m (Fin md F H Q) := by
  cases m with
  | ok r => exact h
  | er c => exact h
  | bad => exact h
inductive Ctl (S τ : Type) where
  | nx (s : S)
  | br (s : S)
  | rt (r : τ)
def forM {α S τ : Type} (f : α → S → M (Ctl S τ)) (k : S → M τ) : List α → S → M τ
  | [], s => k s
  | x :: r, s => (f x s).bind fun c => match c with
    | .nx s' => forM f k r s'
    | .br s' => k s'
    | .rt r => .ok r
def whM {S τ : Type} (c : S → M Bool) (f : S → M (Ctl S τ)) (k : S → M τ) : Nat → S → M τ
  | 0, _ => .bad
  | n + 1, s => (c s).bind fun b => if b then (f s).bind fun z => match z with
    | .nx s' => whM c f k n s'
    | .br s' => k s'
    | .rt r => .ok r else k s
theorem forM_nil {α S τ : Type} (f : α → S → M (Ctl S τ)) (k : S → M τ) (s : S) : forM f k [] s = k s := rfl
theorem forM_cons {α S τ : Type} (f : α → S → M (Ctl S τ)) (k : S → M τ) (x : α) (r : List α) (s : S) : forM f k (x :: r) s = (f x s).bind fun c => match c with
    | .nx s' => forM f k r s'
    | .br s' => k s'
    | .rt r => .ok r := rfl
/-! ### comprehensions -/
def M.ne {α : Type} : M α → M α
  | .ok a => .ok a
  | _ => .bad
@[simp] theorem ne_ok {α : Type} (a : α) : (M.ok a).ne = .ok a := (rfl)
def compM {α β : Type} (c : α → M Bool) (e : α → M β) : List α → M (List β)
  | [] => .ok []
  | x :: r => (c x).ne.bind fun b => if b then (e x).ne.bind fun y => (compM c e r).bind fun ys => .ok (y :: ys) else compM c e r
noncomputable def lcM {α β : Type} (c : α → M Bool) (e : α → M β) (xs : List α) : M (List β) := @ite _ (xs.length ≤ 16000000) (Classical.propDecidable _) (compM c e xs) .bad
theorem compM_ok {α β : Type} (c : α → Bool) (e : α → β) : ∀ xs : List α, compM (fun x => .ok (c x)) (fun x => .ok (e x)) xs = .ok ((xs.filter c).map e)
  | [] => rfl
  | x :: r => by
    show (if c x = true then ((compM _ _ r).bind fun ys => M.ok (e x :: ys)) else compM _ _ r) = _
    rw [compM_ok c e r, List.filter_cons]
    split
    · rfl
    · rfl
theorem compM_all {α β : Type} (e : α → β) : ∀ xs : List α, compM (fun _ => .ok true) (fun x => .ok (e x)) xs = .ok (xs.map e)
  | [] => rfl
  | x :: r => by
    show ((compM _ _ r).bind fun ys => M.ok (e x :: ys)) = _
    rw [compM_all e r]
    rfl
theorem compM_congr {α β : Type} {c c' : α → M Bool} {e e' : α → M β} : ∀ {xs : List α}, (∀ x ∈ xs, c x = c' x) → (∀ x ∈ xs, c x = .ok true → e x = e' x) → compM c e xs = compM c' e' xs
  | [], _, _ => rfl
  | x :: r, h1, h2 => by
    have ih := compM_congr (xs := r) (fun y hy => h1 y (List.mem_cons_of_mem _ hy)) (fun y hy => h2 y (List.mem_cons_of_mem _ hy))
    unfold compM
    rw [ih, ← h1 x List.mem_cons_self]
    have h2' := h2 x List.mem_cons_self
    cases q : c x with
    | ok b =>
      cases b with
      | true => rw [h2' q]
      | false => rfl
    | er _ => rfl
    | bad => rfl
/-! ### what is walked -/
def Sq (K : PySem.W.Frag) {α : Type} [Rep α] (F : Hp) (J : It) (xs : List α) : Prop := ∀ i H, Ex F H →
  (∀ x, xs[i]? = some x → J.go i H ∧ ∀ v H', J.yld i H v H' → ∀ F1, Ex F F1 → Ex F1 H → ∃ F2, Gr F1 H F2 H' ∧ rp K F2 v x) ∧ (xs.length ≤ i → J.stop i H)
def EvI (ce : Ce) (E : XK) (K : PySem.W.Frag) {α : Type} [Rep α] (wi : TI) (σ : L2.St) (F H : Hp) (m : M (List α)) : Prop := ∀ F1 H1, Gr F H F1 H1 → ∀ R : It → Hp → Prop,
  Wp ce E H1 m (fun xs => ∀ F2 H2 J, Gr F1 H1 F2 H2 → Sq K F2 J xs → R J H2) → wi σ H1 R
section
variable {ρ α β γ δ S τ : Type} [Rep α] [Rep β] [Rep γ] [Rep δ] {ce : Ce} {E : XK} {K : PySem.W.Frag} {σ : L2.St} {F H F' H' F0 H0 : Hp} {te ta tb tc td : TE} {tt tu : TT} {md : Md ρ} {m : M ρ} {D : Ends} {ts tw : TS} {g : TG} {wi : TI} {P : τ → Prop}
theorem sq_list {a : Addr} {vs : List V} {xs : List α} (h : SqL K F a vs) (p : Paired (rp K F) vs xs) : Sq K F (Itl K a) xs := fun i H e => by
  have hl := Paired.length p
  refine ⟨fun x hx => ?_, fun hi => ⟨vs, ex_l e h, by omega⟩⟩
  obtain ⟨v, hv, rv'⟩ := paired_get p hx
  refine ⟨⟨vs, v, ex_l e h, hv⟩, fun w H' ⟨e1, e2⟩ F1 f1 f2 => ?_⟩
  subst e1
  have : some v = some w := hv.symm.trans (e2 vs (ex_l e h))
  cases this
  exact ⟨F1, Gr.rf f2, Rep.mo f1 rv'⟩
theorem ei_list {m : M (List α)} (h : Ev ce E te σ F H (rv K) m) : EvI ce E K (iList K te) σ F H m := fun F1 H1 g1 R q => by
  refine h F1 H1 g1 _ ?_
  cases m with
  | ok xs =>
    rintro F2 H2 v g2 ⟨a, vs, rfl, h2, h3⟩
    exact ⟨a, rfl, ⟨vs, SqL.of (g2.fh _ _ h2)⟩, q F2 H2 _ g2 (sq_list (SqL.of h2) h3)⟩
  | er c => exact q
  | bad => exact q
theorem ei_scr {x : Scr} (h : Ev ce E te σ F H (rv K) (.ok x)) : EvI ce E K (iList K te) σ F H (.ok x.l) := fun F1 H1 g1 R q => by
  refine h F1 H1 g1 _ ?_
  rintro F2 H2 v g2 ⟨a, rfl, h2⟩
  exact ⟨a, rfl, ⟨_, ex_l g2.fh h2⟩, q F2 H2 _ g2 (sq_list h2 (rep_int _))⟩
/-- range -/
def rng (lo hi : Int) : List Int := (List.range (hi - lo).toNat).map fun (k : Nat) => lo + (k : Int)
theorem rng_len (lo hi : Int) : (rng lo hi).length = (hi - lo).toNat := by unfold rng; rw [List.length_map, List.length_range]
theorem rng_get (lo hi : Int) (i : Nat) (h : i < (hi - lo).toNat) : (rng lo hi)[i]? = some (lo + (i : Int)) := by
  unfold rng
  rw [List.getElem?_map, List.getElem?_range h]
  rfl
theorem sq_rng {lo hi : Int} : Sq K F (Itr lo (hi - lo).toNat) (rng lo hi) := fun i H e => by
  refine ⟨fun x hx => ?_, fun h => ?_⟩
  · have hi' : i < (hi - lo).toNat := by
      have := (List.getElem?_eq_some_iff.mp hx).1
      rw [rng_len] at this
      exact this
    rw [rng_get _ _ _ hi'] at hx
    cases hx
    refine ⟨hi', fun v H' ⟨e1, e2⟩ F1 f1 f2 => ?_⟩
    subst e1 e2
    exact ⟨F1, Gr.rf f2, rfl⟩
  · rw [rng_len] at h
    exact h
noncomputable def rng1M (hi : Int) : M (List Int) := chk (-(2 ^ 62) ≤ hi ∧ hi < 2 ^ 62) (rng 0 hi)
noncomputable def rng2M (lo hi : Int) : M (List Int) := chk (-(2 ^ 62) ≤ lo ∧ lo < 2 ^ 62 ∧ -(2 ^ 62) ≤ hi ∧ hi < 2 ^ 62) (rng lo hi)
theorem ei_rng1 {m : M Int} (h : Ev ce E ta σ F H (rv K) m) : EvI ce E K (iRng1 (tCons ta tNil)) σ F H (m.bind rng1M) := fun F1 H1 g1 R q => by
  refine h F1 H1 g1 _ ?_
  cases m with
  | ok n =>
    intro F2 H2 v g2 r
    cases r
    have q' : Wp ce E H1 (rng1M n) (fun xs => ∀ F2 H2 J, Gr F1 H1 F2 H2 → Sq K F2 J xs → R J H2) := q
    unfold rng1M chk at q'
    by_cases hc : -(2 ^ 62) ≤ n ∧ n < 2 ^ 62
    · rw [if_pos hc] at q'
      refine ⟨n, rfl, hc.1, hc.2, q' F2 H2 _ g2 ?_⟩
      have := sq_rng (K := K) (F := F2) (lo := 0) (hi := n)
      rw [Int.sub_zero] at this
      exact this
    · rw [if_neg hc] at q'
      exact q'.elim
  | er c => exact q
  | bad => exact q
theorem ei_rng2 {m m2 : M Int} (h : Ev ce E ta σ F H (rv K) m) (h2 : Ev ce E tb σ F H (rv K) m2) : EvI ce E K (iRng2 (tCons ta (tCons tb tNil))) σ F H (m.bind fun lo => m2.bind fun hi => rng2M lo hi) := fun F1 H1 g1 R q => by
  refine h F1 H1 g1 _ ?_
  cases m with
  | ok lo =>
    intro F2 H2 v g2 r
    cases r
    refine h2 F2 H2 (g1.tr g2) _ ?_
    cases m2 with
    | ok n =>
      intro F3 H3 v g3 r
      cases r
      have q' : Wp ce E H1 (rng2M lo n) (fun xs => ∀ F2 H2 J, Gr F1 H1 F2 H2 → Sq K F2 J xs → R J H2) := q
      unfold rng2M chk at q'
      by_cases hc : -(2 ^ 62) ≤ lo ∧ lo < 2 ^ 62 ∧ -(2 ^ 62) ≤ n ∧ n < 2 ^ 62
      · rw [if_pos hc] at q'
        exact ⟨lo, n, rfl, hc, q' F3 H3 _ (g2.tr g3) sq_rng⟩
      · rw [if_neg hc] at q'
        exact q'.elim
    | er c => exact fun H' e => q H' (g2.hh.tr e)
    | bad => exact q
  | er c => exact q
  | bad => exact q

/-! ### targets -/
/-- behind the target's store of what x is, from the slots σ0 -/
def Tg (K : PySem.W.Frag) {α : Type} [Rep α] (g : TG) (R : L2.St → Hp → L2.St → α → Prop) : Prop := ∀ σ0 F H v x, Ex F H → rp K F v x → ∀ Q : L2.St → Hp → Prop, (∀ σ2, R σ0 F σ2 x → Q σ2 H) → g v σ0 H Q
def RName (K : PySem.W.Frag) {α : Type} [Rep α] (i : Nat) : L2.St → Hp → L2.St → α → Prop := fun σ0 F σ2 x => ∃ v, σ2 = σ0.set i (some v) ∧ rp K F v x
def RTup2 (K : PySem.W.Frag) {α β : Type} [Rep α] [Rep β] (i j : Nat) : L2.St → Hp → L2.St → α × β → Prop := fun σ0 F σ2 x => ∃ u w, σ2 = (σ0.set i (some u)).set j (some w) ∧ rp K F u x.1 ∧ rp K F w x.2
def RTup3 (K : PySem.W.Frag) {α β γ : Type} [Rep α] [Rep β] [Rep γ] (i j l : Nat) : L2.St → Hp → L2.St → T3 α β γ → Prop := fun σ0 F σ2 x => ∃ u w z, σ2 = ((σ0.set i (some u)).set j (some w)).set l (some z) ∧ rp K F u x.a ∧ rp K F w x.b ∧ rp K F z x.c
theorem tg_name {i : Nat} : Tg K (α := α) (gName i) (RName K i) := fun σ0 F H v x e r Q q => q _ ⟨v, rfl, r⟩
theorem tg_tup2 {i j : Nat} : Tg K (α := α × β) (gTup K 2 (gCons (gName i) (gCons (gName j) gNil))) (RTup2 K i j) := fun σ0 F H v x e ⟨a, u, w, h1, h2, h3, h4⟩ Q q =>
  ⟨a, [u, w], h1, ex_t e h2, rfl, u, [w], rfl, w, [], rfl, rfl, q _ ⟨u, w, rfl, h3, h4⟩⟩
theorem tg_tup3 {i j l : Nat} : Tg K (α := T3 α β γ) (gTup K 3 (gCons (gName i) (gCons (gName j) (gCons (gName l) gNil)))) (RTup3 K i j l) := fun σ0 F H v x e ⟨a, u, w, z, h1, h2, h3, h4, h5⟩ Q q =>
  ⟨a, [u, w, z], h1, ex_t e h2, rfl, u, [w, z], rfl, w, [z], rfl, z, [], rfl, rfl, q _ ⟨u, w, z, rfl, h3, h4, h5⟩⟩
theorem set_set_ne {σ : L2.St} {i j : Nat} {a b : Option V} (h : i ≠ j) : (σ.set i a).set j b = (σ.set j b).set i a := List.set_comm _ _ h
theorem wipe1 {σ : L2.St} {i : Nat} {v : Option V} : wipe ((wipe σ [i]).set i v) [i] = wipe σ [i] := by
  show ((σ.set i none).set i v).set i none = σ.set i none
  rw [List.set_set, List.set_set]
theorem wipe2 {σ : L2.St} {i j : Nat} {v w : Option V} : wipe (((wipe σ [i, j]).set i v).set j w) [i, j] = wipe σ [i, j] := by
  show (((((σ.set j none).set i none).set i v).set j w).set j none).set i none = (σ.set j none).set i none
  apply List.ext_getElem?
  intro n
  simp only [List.getElem?_set, List.length_set]
  by_cases a : i = n
  · subst a; simp
  · by_cases b : j = n
    · subst b; simp [a]
    · simp [a, b]
theorem wipe3 {σ : L2.St} {i j l : Nat} {u v w : Option V} : wipe ((((wipe σ [i, j, l]).set i u).set j v).set l w) [i, j, l] = wipe σ [i, j, l] := by
  show ((((((((σ.set l none).set j none).set i none).set i u).set j v).set l w).set l none).set j none).set i none = ((σ.set l none).set j none).set i none
  apply List.ext_getElem?
  intro n
  simp only [List.getElem?_set, List.length_set]
  by_cases a : i = n
  · subst a; simp
  · by_cases b : j = n
    · subst b; simp [a]
    · by_cases c : l = n
      · subst c; simp [a, b]
      · simp [a, b, c]
/-- [e for x in xs if c] -/
theorem em_lc {vs : List Nat} {m : M (List α)} {c : α → M Bool} {e : α → M β} {R : L2.St → Hp → L2.St → α → Prop} (hi : EvI ce E K wi σ F H m) (hg : Tg K g R)
    (hw : ∀ F σ2 (x : α), R (wipe σ vs) F σ2 x → wipe σ2 vs = wipe σ vs)
    (hc : ∀ x F1 H1 σ2, Gr F H F1 H1 → R (wipe σ vs) F1 σ2 x → EvT ce E0 tt σ2 F1 H1 (c x)) (he : ∀ x F1 H1 σ2, Gr F H F1 H1 → R (wipe σ vs) F1 σ2 x → Ev ce E0 te σ2 F1 H1 (rv K) (e x)) :
    Ev ce E (tLc wi g tt te vs) σ F H (rn K) (m.bind fun xs => lcM c e xs) := fun F1 H1 g1 Q q => by
  refine hi F1 H1 g1 _ ?_
  cases m with
  | er c => exact q
  | bad => exact q
  | ok xs =>
    intro F2 H2 J g2 sq Dl nd
    have q' : Post ce (rn K) (lcM c e xs) F1 H1 Q E := q
    unfold lcM at q'
    have hlen : xs.length ≤ 16000000 := by
      by_cases hlen : xs.length ≤ 16000000
      · exact hlen
      · rw [if_neg hlen] at q'
        exact q'.elim
    rw [if_pos hlen] at q'
    have nf : F2 Dl = none := ex_back g2.fh nd
    have gD : Gr F2 H2 F2 (upd H2 Dl (.lst [])) := Gr.own g2.fh nd
    -- the word: done so far, and what is left
    refine ⟨fun i m H' => m = xs.length - i ∧ i ≤ xs.length ∧ ∃ F' acc ys, Gr F2 H2 F' H' ∧ F' Dl = none ∧ H' Dl = some (.lst acc) ∧ acc.length ≤ i ∧ Paired (rp K F') acc ys ∧
      Post ce (rn K) ((compM c e (xs.drop i)).bind fun zs => .ok (ys ++ zs)) F1 H1 Q E, ⟨xs.length, by omega, Nat.zero_le _, F2, [], [], gD, nf, upd_same, Nat.zero_le _, .nil, ?_⟩, ?_⟩
    · rw [List.drop_zero]
      have : (compM c e xs).bind (fun zs => M.ok ([] ++ zs)) = compM c e xs := by
        cases compM c e xs <;> rfl
      rw [this]
      exact q'
    · rintro i mm H3 ⟨rfl, hi3, F3, acc, ys, g3, nf3, h3, hl3, p3, q3⟩
      have e3 : Ex F2 H3 := g3.ff.tr g3.fh
      by_cases hlt : i < xs.length
      · obtain ⟨x, hx⟩ : ∃ x, xs[i]? = some x := ⟨xs[i], List.getElem?_eq_getElem hlt⟩
        obtain ⟨go, yl⟩ := (sq i H3 e3).1 x hx
        have hd : xs.drop i = x :: xs.drop (i + 1) := by
          rw [List.drop_eq_getElem_cons hlt]
          rw [List.getElem?_eq_getElem hlt] at hx
          cases hx
          rfl
        rw [hd] at q3
        refine .inr ⟨go, fun H' => ∃ F' acc ys, Gr F2 H2 F' H' ∧ F' Dl = none ∧ H' Dl = some (.lst acc) ∧ acc.length ≤ i + 1 ∧ Paired (rp K F') acc ys ∧
          Post ce (rn K) ((compM c e (xs.drop (i + 1))).bind fun zs => .ok (ys ++ zs)) F1 H1 Q E, fun H' h' => ⟨xs.length - (i + 1), by omega, rfl, hlt, h'⟩, fun v H4 hy => ?_⟩
        obtain ⟨F4, g4, r4⟩ := yl v H4 hy F3 g3.ff g3.fh
        have g24 := g3.tr g4
        have gF : Gr F H F4 H4 := (g1.tr g2).tr g24
        refine hg _ F4 H4 v x g4.fh r4 _ fun σ2 hr => ⟨hw F4 σ2 x hr, ?_⟩
        -- the test
        have nf4 : F4 Dl = none := g4.nw Dl nf3 (by rw [h3]; exact fun z => nomatch z)
        have h4 : H4 Dl = some (.lst acc) := g4.hh _ _ h3
        refine hc x F4 H4 σ2 gF hr F4 H4 (Gr.rf g4.fh) _ ?_
        cases qc : c x with
        | er cc => exact (by
            have q3' := q3
            unfold compM at q3'
            rw [qc] at q3'
            exact q3'.elim)
        | bad => exact (by
            have q3' := q3
            unfold compM at q3'
            rw [qc] at q3'
            exact q3'.elim)
        | ok b =>
          intro F5 H5 g5
          have nf5 : F5 Dl = none := g5.nw Dl nf4 (by rw [h4]; exact fun z => nomatch z)
          have h5 : H5 Dl = some (.lst acc) := g5.hh _ _ h4
          cases b with
          | false =>
            show ∃ F' acc ys, _
            refine ⟨F5, acc, ys, g24.tr g5, nf5, h5, by omega, paired_mo (g4.ff.tr g5.ff) p3, ?_⟩
            have q3' := q3
            unfold compM at q3'
            rw [qc] at q3'
            exact q3'
          | true =>
            show te σ2 H5 _
            refine he x F4 H4 σ2 gF hr F5 H5 g5 _ ?_
            cases qe : e x with
            | er cc => exact (by
                have q3' := q3
                unfold compM at q3'
                rw [qc, qe] at q3'
                exact q3'.elim)
            | bad => exact (by
                have q3' := q3
                unfold compM at q3'
                rw [qc, qe] at q3'
                exact q3'.elim)
            | ok y =>
              intro F6 H6 v6 g6 r6
              have nf6 : F6 Dl = none := g6.nw Dl nf5 (by rw [h5]; exact fun z => nomatch z)
              have h6 : H6 Dl = some (.lst acc) := g6.hh _ _ h5
              refine ⟨acc, h6, ?_, F6, acc ++ [v6], ys ++ [y], Gr.mut ((g24.tr g5).tr g6) nd nf6, nf6, upd_same, ?_, paired_app (paired_mo ((g4.ff.tr g5.ff).tr g6.ff) p3) (.cons r6 .nil), ?_⟩
              · rw [sizeLine_eq]; omega
              · rw [List.length_append]
                show acc.length + 1 ≤ i + 1
                omega
              · have q3' := q3
                unfold compM at q3'
                rw [qc, qe] at q3'
                have ea : ((compM c e (xs.drop (i + 1))).bind fun zs => M.ok ((ys ++ [y]) ++ zs)) = (((compM c e (xs.drop (i + 1))).bind fun ys' => M.ok (y :: ys')).bind fun zs => M.ok (ys ++ zs)) := by
                  cases compM c e (xs.drop (i + 1)) with
                  | ok zs => show M.ok _ = M.ok _; rw [List.append_assoc]; rfl
                  | er _ => rfl
                  | bad => rfl
                rw [ea]
                exact q3'
      · have ei : i = xs.length := by omega
        refine .inl ⟨(sq i H3 e3).2 (by omega), ?_⟩
        rw [ei, List.drop_length] at q3
        have q3' : Post ce (rn K) (.ok (ys ++ [])) F1 H1 Q E := q3
        rw [List.append_nil] at q3'
        exact q3' F3 H3 _ (g2.tr g3) ⟨Dl, acc, rfl, ex_back g2.hh nd, nf3, h3, p3⟩
end
end Mw

set_option Elab.async false
set_option linter.all false
set_option maxRecDepth 100000
set_option maxHeartbeats 2000000
/-! Mw, part E: statements. -/
namespace Mw
open PySem L2
open Rep (rp)
/-! ### one's own lists lent out, and taken back -/
def fz (F H : Hp) (A : List Addr) : Hp := fun b => if b ∈ A then H b else F b
def th (F : Hp) (A : List Addr) : Hp := fun b => if b ∈ A then none else F b
theorem fz_ex {F H : Hp} {A : List Addr} (h : Ex F H) : Ex F (fz F H A) := fun a o e => by
  unfold fz
  split
  · exact h a o e
  · exact e
theorem fz_h {F H : Hp} {A : List Addr} (h : Ex F H) : Ex (fz F H A) H := fun a o e => by
  unfold fz at e
  split at e
  · exact e
  · exact h a o e
theorem fz_at {F H : Hp} {A : List Addr} {p : Addr} {o : HO} (m : p ∈ A) (h : H p = some o) : fz F H A p = some o := by
  unfold fz
  rw [if_pos m]
  exact h
theorem th_at {F : Hp} {A : List Addr} {p : Addr} (m : p ∈ A) : th F A p = none := by
  unfold th
  rw [if_pos m]
/-- the run went on from what was lent; now it is one's own again -/
theorem gr_th {F H F1 H1 : Hp} {A : List Addr} (hF : ∀ p ∈ A, F p = none) (hA : ∀ p ∈ A, H p ≠ none) (e : Ex F H) (g : Gr (fz F H A) H F1 H1) : Gr F H (th F1 A) H1 where
  ff := fun a o h => by
    have : a ∉ A := fun m => by rw [hF a m] at h; cases h
    unfold th
    rw [if_neg this]
    exact g.ff a o (fz_ex e a o h)
  fh := fun a o h => by
    unfold th at h
    split at h
    · cases h
    · exact g.fh a o h
  hh := g.hh
  nw := fun b h1 h2 => by
    unfold th
    split
    · rfl
    · rename_i hb
      refine g.nw b ?_ h2
      unfold fz
      rw [if_neg hb]
      exact h1
theorem th_tup {F : Hp} {A : List Addr} (h : ∀ p ∈ A, ∀ xs, ¬ Rd F p (.tup xs)) : TupEx F (th F A) := fun a xs r => by
  have : a ∉ A := fun m => h a m xs r
  rcases r with r | ⟨o, r⟩
  · refine .inl ?_
    unfold th
    rw [if_neg this]
    exact r
  · refine .inr ⟨o, ?_⟩
    unfold th
    rw [if_neg this]
    exact r
/-- no tuple -/
def NoTup (o : HO) : Prop := (∀ xs, o ≠ .tup xs) ∧ ∀ u xs, o ≠ .frz u (.tup xs)
/-- data that stand for one object -/
class Obj (T : Type) [Rep T] where
  ho : PySem.W.Frag → Hp → HO → T → Prop
  mo : ∀ {K : PySem.W.Frag} {H H' : Hp} {o : HO} {x : T}, Ex H H' → ho K H o x → ho K H' o x
  rep : ∀ {K : PySem.W.Frag} {H : Hp} {p : Addr} {o : HO} {x : T}, H p = some o → ho K H o x → rp K H (.ref p) x
  nt : ∀ {K : PySem.W.Frag} {H : Hp} {o : HO} {x : T}, ho K H o x → NoTup o
instance {α : Type} [Rep α] : Obj (List α) where
  ho := fun K H o x => ∃ vs, o = .lst vs ∧ Paired (rp K H) vs x
  mo := fun e ⟨vs, h1, h2⟩ => ⟨vs, h1, paired_mo e h2⟩
  rep := fun {K H p o x} e ⟨vs, h1, h2⟩ => by subst h1; exact ⟨p, vs, rfl, e, h2⟩
  nt := fun {K H o x} ⟨vs, h1, _⟩ => by subst h1; exact ⟨(fun _ z => nomatch z), (fun _ _ z => nomatch z)⟩
/-- p is one's own, an object that stands for x -/
structure Own (K : PySem.W.Frag) {T : Type} [Rep T] [Obj T] (F H : Hp) (p : Addr) (x : T) : Prop where
  h : ∃ o, H p = some o ∧ Obj.ho K F o x
  f : F p = none
theorem th_of {F H F1 H1 : Hp} {A : List Addr} (hA : ∀ p ∈ A, ∃ o, H p = some o ∧ NoTup o) (g : Gr (fz F H A) H F1 H1) : TupEx F1 (th F1 A) := th_tup fun p m xs r' => by
  obtain ⟨o, e, n1, n2⟩ := hA p m
  have e1 : F1 p = some o := g.ff _ _ (fz_at m e)
  rcases r' with r' | ⟨u, r'⟩
  · rw [e1] at r'
    exact n1 xs (Option.some.inj r')
  · rw [e1] at r'
    exact n2 u xs (Option.some.inj r')
section
variable {ρ α β γ δ S τ : Type} [Rep α] [Rep β] [Rep γ] [Rep δ] {ce : Ce} {E : XK} {K : PySem.W.Frag} {σ : L2.St} {F H F' H' F0 H0 : Hp} {te ta tb tc td : TE} {tt tu : TT} {md : Md ρ} {m : M ρ} {D : Ends} {ts tw : TS} {g : TG} {wi : TI} {P : τ → Prop}
variable {T : Type} [Rep T] [Obj T]
theorem Own.mo {p : Addr} {x : T} (o : Own K F H p x) (g : Gr F H F' H') : Own K F' H' p x := by
  obtain ⟨⟨u, h1, h2⟩, h3⟩ := o
  exact ⟨⟨u, g.hh _ _ h1, Obj.mo g.ff h2⟩, g.nw p h3 (by rw [h1]; exact fun z => nomatch z)⟩
theorem Own.ne {p : Addr} {x : T} (o : Own K F H p x) : H p ≠ none := by
  obtain ⟨⟨u, h1, h2⟩, h3⟩ := o
  rw [h1]; exact fun z => nomatch z
theorem Own.upd {p q : Addr} {x : T} {u : HO} (o : Own K F H p x) (h : p ≠ q) : Own K F (upd H q u) p x := by
  obtain ⟨⟨w, h1, h2⟩, h3⟩ := o
  exact ⟨⟨w, by rw [upd_ne h]; exact h1, h2⟩, h3⟩
theorem Own.lent {p : Addr} {x : T} {A : List Addr} (o : Own K F H p x) (e : Ex F H) (m : p ∈ A) : rp K (fz F H A) (.ref p) x := by
  obtain ⟨⟨u, h1, h2⟩, h3⟩ := o
  exact Obj.rep (fz_at m h1) (Obj.mo (fz_ex e) h2)
theorem own_new {p : Addr} {vs : List V} {xs : List α} (h1 : F p = none) (h2 : H p = some (.lst vs)) (h3 : Paired (rp K F) vs xs) : Own K F H p xs := ⟨⟨_, h2, vs, rfl, h3⟩, h1⟩
theorem Own.lst {p : Addr} {xs : List α} (o : Own K F H p xs) : ∃ vs, H p = some (.lst vs) ∧ Paired (rp K F) vs xs := by
  obtain ⟨⟨u, h1, vs, h2, h3⟩, _⟩ := o
  subst h2
  exact ⟨vs, h1, h3⟩

/-! ### statements -/
theorem s_seq {t1 t2 : TS} (h : t1 { D with nx := t2 D } σ H) : tSeq t1 t2 D σ H := h
theorem Ev.go {m1 : M α} {k : α → M τ} {Q' : VK} (h : Ev ce E ta σ F H (rv K) m1) (G : Gr F0 H0 F H) (q : Wp ce E H0 (m1.bind k) P)
    (c : ∀ x F1 H1 v, Gr F H F1 H1 → rp K F1 v x → Wp ce E H0 (k x) P → Q' v H1) : ta σ H Q' := by
  refine h F H (Gr.rf G.fh) Q' ?_
  cases m1 with
  | ok x => exact fun F1 H1 v g r => c x F1 H1 v g r q
  | er cc => exact fun H' e => q H' (G.hh.tr e)
  | bad => exact q
theorem Ev.goN {m1 : M (List α)} {k : List α → M τ} {Q' : VK} (h : Ev ce E ta σ F H (rn K) m1) (G : Gr F0 H0 F H) (q : Wp ce E H0 (m1.bind k) P)
    (c : ∀ x F1 H1 p, Gr F H F1 H1 → H p = none → Own K F1 H1 p x → Wp ce E H0 (k x) P → Q' (.ref p) H1) : ta σ H Q' := by
  refine h F H (Gr.rf G.fh) Q' ?_
  cases m1 with
  | ok x =>
    rintro F1 H1 v g ⟨p, vs, rfl, h1, h2, h3, h4⟩
    exact c x F1 H1 p g h1 (own_new h2 h3 h4) q
  | er cc => exact fun H' e => q H' (G.hh.tr e)
  | bad => exact q
theorem EvT.go {m1 : M Bool} {k : Bool → M τ} {Q' : Bool → Hp → Prop} (h : EvT ce E tt σ F H m1) (G : Gr F0 H0 F H) (q : Wp ce E H0 (m1.bind k) P)
    (c : ∀ x F1 H1, Gr F H F1 H1 → Wp ce E H0 (k x) P → Q' x H1) : tt σ H Q' := by
  refine h F H (Gr.rf G.fh) Q' ?_
  cases m1 with
  | ok x => exact fun F1 H1 g => c x F1 H1 g q
  | er cc => exact fun H' e => q H' (G.hh.tr e)
  | bad => exact q
/-- x = e -/
theorem s_asg {i : Nat} {m1 : M α} {k : α → M τ} (G : Gr F0 H0 F H) (q : Wp ce E H0 (m1.bind k) P) (h : Ev ce E te σ F H (rv K) m1)
    (c : ∀ x F1 H1 v, Gr F H F1 H1 → rp K F1 v x → Wp ce E H0 (k x) P → D.nx (σ.set i (some v)) H1) : tAsg te (gName i) D σ H := h.go G q fun x F1 H1 v g r w => c x F1 H1 v g r w
/-- x = a new list of one's own -/
theorem s_asgN {i : Nat} {m1 : M (List α)} {k : List α → M τ} (G : Gr F0 H0 F H) (q : Wp ce E H0 (m1.bind k) P) (h : Ev ce E te σ F H (rn K) m1)
    (c : ∀ x F1 H1 p, Gr F H F1 H1 → H p = none → Own K F1 H1 p x → Wp ce E H0 (k x) P → D.nx (σ.set i (some (.ref p))) H1) : tAsg te (gName i) D σ H := h.goN G q fun x F1 H1 p g n o w => c x F1 H1 p g n o w
/-- x = e, where e reads lists of one's own -/
theorem s_asgA (A : List Addr) {i : Nat} {m1 : M α} {k : α → M τ} [Flat α] (G : Gr F0 H0 F H) (q : Wp ce E H0 (m1.bind k) P) (hF : ∀ p ∈ A, F p = none) (hA : ∀ p ∈ A, ∃ o, H p = some o ∧ NoTup o) (h0 : ∀ p ∈ A, H0 p = none)
    (h : Ev ce E te σ (fz F H A) H (rv K) m1) (c : ∀ x F1 H1 v, Gr F H F1 H1 → rp K F1 v x → Wp ce E H0 (k x) P → D.nx (σ.set i (some v)) H1) : tAsg te (gName i) D σ H := by
  refine h _ H (Gr.rf (fz_h G.fh)) _ ?_
  have hA' : ∀ p ∈ A, H p ≠ none := fun p m => by obtain ⟨o, e, _⟩ := hA p m; rw [e]; exact fun z => nomatch z
  cases m1 with
  | ok x =>
    intro F1 H1 v g r
    exact c x (th F1 A) H1 v (gr_th hF hA' G.fh g) (Flat.fl (th_of hA g) r) q
  | er cc => exact fun H' e => q H' (G.hh.tr e)
  | bad => exact q
/-- if, where the test reads lists of one's own -/
theorem s_ifA (A : List Addr) {m1 : M Bool} {k : Bool → M τ} (G : Gr F0 H0 F H) (q : Wp ce E H0 (m1.bind k) P) (hF : ∀ p ∈ A, F p = none) (hA : ∀ p ∈ A, ∃ o, H p = some o ∧ NoTup o)
    (h : EvT ce E tt σ (fz F H A) H m1) (h1 : ∀ F1 H1, Gr F H F1 H1 → Wp ce E H0 (k true) P → ts D σ H1) (h2 : ∀ F1 H1, Gr F H F1 H1 → Wp ce E H0 (k false) P → tw D σ H1) : tIfS tt ts tw D σ H := by
  refine h _ H (Gr.rf (fz_h G.fh)) _ ?_
  have hA' : ∀ p ∈ A, H p ≠ none := fun p m => by obtain ⟨o, e, _⟩ := hA p m; rw [e]; exact fun z => nomatch z
  cases m1 with
  | ok b =>
    intro F1 H1 g
    cases b with
    | true => exact h1 _ H1 (gr_th hF hA' G.fh g) q
    | false => exact h2 _ H1 (gr_th hF hA' G.fh g) q
  | er cc => exact fun H' e => q H' (G.hh.tr e)
  | bad => exact q
theorem s_if {m1 : M Bool} {k : Bool → M τ} (G : Gr F0 H0 F H) (q : Wp ce E H0 (m1.bind k) P) (h : EvT ce E tt σ F H m1)
    (h1 : ∀ F1 H1, Gr F H F1 H1 → Wp ce E H0 (k true) P → ts D σ H1) (h2 : ∀ F1 H1, Gr F H F1 H1 → Wp ce E H0 (k false) P → tw D σ H1) : tIfS tt ts tw D σ H :=
  h.go G q fun b F1 H1 g w => by
    cases b with
    | true => exact h1 F1 H1 g w
    | false => exact h2 F1 H1 g w
/-- what follows is shown once -/
theorem s_cut {t : TS} (I : L2.St → Hp → Prop) (h1 : ∀ σ1 H1, I σ1 H1 → D.nx σ1 H1) (h2 : (∀ σ1 H1, I σ1 H1 → D.nx σ1 H1) → t D σ H) : t D σ H := h2 h1
/-- return e -/
theorem s_ret {m1 : M ρ} {k : ρ → M τ} [Rep ρ] (G : Gr F0 H0 F H) (q : Wp ce E H0 (m1.bind k) P) (h : Ev ce E te σ F H (rv K) m1)
    (hD : ∀ r F1 H1 v, Gr F0 H0 F1 H1 → rp K F1 v r → Wp ce E H0 (k r) P → D.rt v H1) : tRet te D σ H := h.go G q fun x F1 H1 v g r w => hD x F1 H1 v (G.tr g) r w
theorem s_retN {m1 : M (List α)} {k : List α → M τ} (G : Gr F0 H0 F H) (q : Wp ce E H0 (m1.bind k) P) (h : Ev ce E te σ F H (rn K) m1)
    (hD : ∀ r F1 H1 v, Gr F0 H0 F1 H1 → rn K F0 H0 F1 H1 v r → Wp ce E H0 (k r) P → D.rt v H1) : tRet te D σ H := h.goN G q fun x F1 H1 p g n o w => by
  obtain ⟨vs, h1, h2⟩ := o.lst
  exact hD x F1 H1 _ (G.tr g) ⟨p, vs, rfl, ex_back G.hh n, o.f, h1, h2⟩ w
theorem s_ret0 {m1 : M τ} [Rep τ] (G : Gr F0 H0 F H) (q : Wp ce E H0 m1 P) (h : Ev ce E te σ F H (rv K) m1) (hD : ∀ r F1 H1 v, Gr F0 H0 F1 H1 → rp K F1 v r → P r → D.rt v H1) : tRet te D σ H := by
  refine h F H (Gr.rf G.fh) _ ?_
  cases m1 with
  | ok x => exact fun F1 H1 v g r => hD x F1 H1 v (G.tr g) r q
  | er cc => exact fun H' e => q H' (G.hh.tr e)
  | bad => exact q
theorem s_retN0 {m1 : M (List α)} {P : List α → Prop} (G : Gr F0 H0 F H) (q : Wp ce E H0 m1 P) (h : Ev ce E te σ F H (rn K) m1) (hD : ∀ r F1 H1 v, Gr F0 H0 F1 H1 → rn K F0 H0 F1 H1 v r → P r → D.rt v H1) : tRet te D σ H := by
  refine h F H (Gr.rf G.fh) _ ?_
  cases m1 with
  | ok x =>
    intro F1 H1 v g r
    exact hD x F1 H1 v (G.tr g) (MdMo.mo G r) q
  | er cc => exact fun H' e => q H' (G.hh.tr e)
  | bad => exact q
/-- the lent heap is reached from the entry, too -/
theorem gr_fz {A : List Addr} (G : Gr F0 H0 F H) (h0 : ∀ p ∈ A, H0 p = none) : Gr F0 H0 (fz F H A) H :=
  ⟨G.ff.tr (fz_ex G.fh), fz_h G.fh, G.hh, fun b h1 h2 => by
    unfold fz
    split
    · rename_i hm
      exact absurd (h0 b hm) h2
    · exact G.nw b h1 h2⟩
/-- return p, a list of one's own -/
theorem rn_own {p : Addr} {xs : List α} (o : Own K F H p xs) (h0 : H0 p = none) : rn K F0 H0 F H (.ref p) xs := by
  obtain ⟨vs, h1, h2⟩ := o.lst
  exact ⟨p, vs, rfl, h0, o.f, h1, h2⟩
/-- e, alone -/
theorem s_drop {m1 : M α} {k : α → M τ} (G : Gr F0 H0 F H) (q : Wp ce E H0 (m1.bind k) P) (h : Ev ce E te σ F H (rv K) m1)
    (c : ∀ x F1 H1, Gr F H F1 H1 → Wp ce E H0 (k x) P → D.nx σ H1) : tDrop te D σ H := h.go G q fun x F1 H1 v g r w => c x F1 H1 g w
theorem s_raise {c : Err} {cls : Value} (G : Gr F0 H0 F H) (q : Wp ce E H0 (.er c : M τ) P) (hc : cls = .ref (ce c.name)) : E cls none H := by
  subst hc
  exact q H G.hh
/-! ### one's own lists change -/
noncomputable def appM {α : Type} (xs : List α) (x : α) : M (List α) := chk (xs.length < 16000000) (xs ++ [x])
/-- xs.append(e) -/
theorem s_app {i : Nat} {p : Addr} {xs : List α} {m1 : M α} {k : List α → M τ} (hp : σ[i]? = some (some (.ref p))) (o : Own K F H p xs) (n0 : H0 p = none) (G : Gr F0 H0 F H)
    (q : Wp ce E H0 (m1.bind fun x => (appM xs x).bind k) P) (h : Ev ce E te σ F H (rv K) m1)
    (c : ∀ ys F1 H1, Ex F F1 → Gr F0 H0 F1 H1 → Own K F1 H1 p ys → (∀ (T : Type) [Rep T] [Obj T] (q : Addr) (z : T), q ≠ p → Own K F H q z → Own K F1 H1 q z) → Wp ce E H0 (k ys) P → D.nx σ H1) :
    tDrop (tBM K "list" rAppend (tVar i) (tCons te tNil)) D σ H := by
  obtain ⟨vs, h1, h2⟩ := o.lst
  have h3 := o.f
  refine ⟨.ref p, hp, .inl ⟨rfl, vs, SqL.of h1⟩, h.go G q fun x F1 H1 v g r w => ?_⟩
  have w' : Wp ce E H0 ((appM xs x).bind k) P := w
  unfold appM chk at w'
  split at w'
  · rename_i hl
    refine ⟨p, vs, v, rfl, rfl, g.hh _ _ h1, ?_, ?_⟩
    · rw [Paired.length h2, sizeLine_eq]; omega
    · have hf1 : F1 p = none := g.nw p h3 (by rw [h1]; exact fun z => nomatch z)
      exact c (xs ++ [x]) F1 _ g.ff (Gr.mut (G.tr g) n0 hf1) (own_new hf1 upd_same (paired_app (paired_mo g.ff h2) (.cons r .nil))) (fun T _ _ q z hq o => (o.mo g).upd hq) w'
  · exact w'.elim
/-- xs.append(e), e reads lists of one's own -/
theorem s_appA (A : List Addr) {i : Nat} {p : Addr} {xs : List α} {m1 : M α} {k : List α → M τ} [Flat α] (hp : σ[i]? = some (some (.ref p))) (o : Own K F H p xs) (n0 : H0 p = none) (G : Gr F0 H0 F H)
    (q : Wp ce E H0 (m1.bind fun x => (appM xs x).bind k) P) (hF : ∀ p ∈ A, F p = none) (hA : ∀ p ∈ A, ∃ o, H p = some o ∧ NoTup o) (h : Ev ce E te σ (fz F H A) H (rv K) m1)
    (c : ∀ ys F1 H1, Ex F F1 → Gr F0 H0 F1 H1 → Own K F1 H1 p ys → (∀ (T : Type) [Rep T] [Obj T] (q : Addr) (z : T), q ≠ p → Own K F H q z → Own K F1 H1 q z) → Wp ce E H0 (k ys) P → D.nx σ H1) :
    tDrop (tBM K "list" rAppend (tVar i) (tCons te tNil)) D σ H := by
  obtain ⟨vs, h1, h2⟩ := o.lst
  have h3 := o.f
  refine ⟨.ref p, hp, .inl ⟨rfl, vs, SqL.of h1⟩, ?_⟩
  have hA' : ∀ p ∈ A, H p ≠ none := fun p m => by obtain ⟨o, e, _⟩ := hA p m; rw [e]; exact fun z => nomatch z
  refine h _ H (Gr.rf (fz_h G.fh)) _ ?_
  cases m1 with
  | ok x =>
    intro F1 H1 v g0 r0
    have g := gr_th hF hA' G.fh g0
    have r : rp K (th F1 A) v x := Flat.fl (th_of hA g0) r0
    have w' : Wp ce E H0 ((appM xs x).bind k) P := q
    unfold appM chk at w'
    split at w'
    · rename_i hl
      refine ⟨p, vs, v, rfl, rfl, g.hh _ _ h1, ?_, ?_⟩
      · rw [Paired.length h2, sizeLine_eq]; omega
      · have hf1 : th F1 A p = none := g.nw p h3 (by rw [h1]; exact fun z => nomatch z)
        exact c (xs ++ [x]) _ _ g.ff (Gr.mut (G.tr g) n0 hf1) (own_new hf1 upd_same (paired_app (paired_mo g.ff h2) (.cons r .nil))) (fun T _ _ q z hq o => (o.mo g).upd hq) w'
    · exact w'.elim
  | er cc => exact fun H' e => q H' (G.hh.tr e)
  | bad => exact q
/-! ### loops -/
theorem s_for {f : α → S → M (Ctl S τ)} {k : S → M τ} {s0 : S} {m : M (List α)} {R : L2.St → Hp → L2.St → α → Prop} (I : S → Hp → Hp → L2.St → Prop) (G : Gr F0 H0 F H) (hi : EvI ce E K wi σ F H m) (hg : Tg K g R)
    (q : Wp ce E H0 (m.bind fun xs => forM f k xs s0) P) (h0 : ∀ F1 H1, Gr F H F1 H1 → I s0 F1 H1 σ) (hG : ∀ s F' H' σ', I s F' H' σ' → Gr F0 H0 F' H')
    (turn : ∀ x s F1 H1 σ1, I s F1 H1 σ1 → ∀ F2 H2 σ2, Gr F1 H1 F2 H2 → R σ1 F2 σ2 x → ∀ (D' : Ends) (P' : Ctl S τ → Prop), D'.rt = D.rt →
      (∀ s', P' (.nx s') → ∀ F3 H3 σ3, Ex F2 F3 → I s' F3 H3 σ3 → D'.nx σ3 H3) → (∀ s', P' (.nx s') → ∀ F3 H3 σ3, Ex F2 F3 → I s' F3 H3 σ3 → D'.ct σ3 H3) →
      (∀ s', P' (.br s') → ∀ F3 H3 σ3, Ex F2 F3 → I s' F3 H3 σ3 → D'.bk σ3 H3) → (∀ r, P' (.rt r) → P r) → Wp ce E H0 (f x s) P' → ts D' σ2 H2)
    (after : ∀ s F1 H1 σ1, Ex F F1 → I s F1 H1 σ1 → Wp ce E H0 (k s) P → D.nx σ1 H1) : tFor wi g ts D σ H := by
  refine hi F H (Gr.rf G.fh) _ ?_
  cases m with
  | er c => exact fun H' e => q H' (G.hh.tr e)
  | bad => exact q
  | ok xs =>
    intro F2 H2 J g2 sq
    have q' : Wp ce E H0 (forM f k xs s0) P := q
    refine ⟨fun i m σ' H' => m = xs.length - i ∧ i ≤ xs.length ∧ ∃ s F', Ex F2 F' ∧ I s F' H' σ' ∧ Wp ce E H0 (forM f k (xs.drop i) s) P, ⟨xs.length, by omega, Nat.zero_le _, s0, F2, Ex.rf _, h0 F2 H2 g2, q'⟩, ?_⟩
    rintro i mm σ' H' ⟨rfl, hi', s, F', f2, I', q2⟩
    have G' := hG s F' H' σ' I'
    by_cases hlt : i < xs.length
    · obtain ⟨x, hx⟩ : ∃ x, xs[i]? = some x := ⟨xs[i], List.getElem?_eq_getElem hlt⟩
      have hd : xs.drop i = x :: xs.drop (i + 1) := by
        rw [List.drop_eq_getElem_cons hlt]
        rw [List.getElem?_eq_getElem hlt] at hx
        cases hx
        rfl
      rw [hd, forM_cons] at q2
      obtain ⟨go, yl⟩ := (sq i H' (f2.tr G'.fh)).1 x hx
      refine .inr ⟨go, fun σ' H' => ∃ s F', Ex F2 F' ∧ I s F' H' σ' ∧ Wp ce E H0 (forM f k (xs.drop (i + 1)) s) P, fun σ' H' h => ⟨xs.length - (i + 1), by omega, rfl, hlt, h⟩, fun v H3 hy => ?_⟩
      obtain ⟨F3, g3, r3⟩ := yl v H3 hy F' f2 G'.fh
      refine hg σ' F3 H3 v x g3.fh r3 _ fun σ2 hr => ?_
      refine turn x s F' H' σ' I' F3 H3 σ2 g3 hr _ (fun c => match c with
        | .nx s' => Wp ce E H0 (forM f k (xs.drop (i + 1)) s') P
        | .br s' => Wp ce E H0 (k s') P
        | .rt r => P r) rfl (fun s' p F4 H4 σ4 f4 I4 => ⟨s', F4, (f2.tr g3.ff).tr f4, I4, p⟩) (fun s' p F4 H4 σ4 f4 I4 => ⟨s', F4, (f2.tr g3.ff).tr f4, I4, p⟩)
        (fun s' p F4 H4 σ4 f4 I4 => after s' F4 H4 σ4 (g2.ff.tr ((f2.tr g3.ff).tr f4)) I4 p) (fun r p => p) ?_
      cases qf : f x s with
      | ok c =>
        rw [qf] at q2
        cases c with
        | nx s' => exact q2
        | br s' => exact q2
        | rt r => exact q2
      | er c => rw [qf] at q2; exact q2
      | bad => rw [qf] at q2; exact q2
    · have ei : i = xs.length := by omega
      rw [ei, List.drop_length] at q2
      exact .inl ⟨(sq i H' (f2.tr G'.fh)).2 (by omega), after s F' H' σ' (g2.ff.tr f2) I' q2⟩
theorem s_while {c : S → M Bool} {f : S → M (Ctl S τ)} {k : S → M τ} {s0 : S} {n : Nat} (I : S → Hp → Hp → L2.St → Prop) (h0 : I s0 F H σ) (hG : ∀ s F' H' σ', I s F' H' σ' → Gr F0 H0 F' H')
    (q : Wp ce E H0 (whM c f k n s0) P) (hc : ∀ s F1 H1 σ1, I s F1 H1 σ1 → EvT ce E tt σ1 F1 H1 (c s)) (hI : ∀ s F1 H1 F2 H2 σ1, I s F1 H1 σ1 → Gr F1 H1 F2 H2 → I s F2 H2 σ1)
    (turn : ∀ s F1 H1 σ1, I s F1 H1 σ1 → ∀ (D' : Ends) (P' : Ctl S τ → Prop), D'.rt = D.rt →
      (∀ s', P' (.nx s') → ∀ F3 H3 σ3, I s' F3 H3 σ3 → D'.nx σ3 H3) → (∀ s', P' (.nx s') → ∀ F3 H3 σ3, I s' F3 H3 σ3 → D'.ct σ3 H3) →
      (∀ s', P' (.br s') → ∀ F3 H3 σ3, I s' F3 H3 σ3 → D'.bk σ3 H3) → (∀ r, P' (.rt r) → P r) → Wp ce E H0 (f s) P' → ts D' σ1 H1)
    (after : ∀ s F1 H1 σ1, I s F1 H1 σ1 → Wp ce E H0 (k s) P → D.nx σ1 H1) : tWhile tt ts D σ H := by
  refine ⟨fun m σ' H' => ∃ s F', I s F' H' σ' ∧ Wp ce E H0 (whM c f k m s) P, ⟨n, s0, F, h0, q⟩, ?_⟩
  rintro m σ' H' ⟨s, F', I', q'⟩
  have G' := hG s F' H' σ' I'
  cases m with
  | zero => exact False.elim q'
  | succ m =>
    unfold whM at q'
    refine (hc s F' H' σ' I').go G' q' fun b F1 H1 g w => ?_
    have I1 := hI s F' H' F1 H1 σ' I' g
    cases b with
    | false => exact after s F1 H1 σ' I1 w
    | true =>
      refine ⟨fun σ' H' => ∃ s F', I s F' H' σ' ∧ Wp ce E H0 (whM c f k m s) P, fun σ' H' h => ⟨m, Nat.lt_succ_self m, h⟩, ?_⟩
      refine turn s F1 H1 σ' I1 _ (fun c' => match c' with
        | .nx s' => Wp ce E H0 (whM c f k m s') P
        | .br s' => Wp ce E H0 (k s') P
        | .rt r => P r) rfl (fun s' p F4 H4 σ4 I4 => ⟨s', F4, I4, p⟩) (fun s' p F4 H4 σ4 I4 => ⟨s', F4, I4, p⟩) (fun s' p F4 H4 σ4 I4 => after s' F4 H4 σ4 I4 p) (fun r p => p) ?_
      have w' : Wp ce E H0 ((f s).bind fun z => match z with
        | .nx s' => whM c f k m s'
        | .br s' => k s'
        | .rt r => .ok r) P := w
      cases qf : f s with
      | ok z =>
        rw [qf] at w'
        cases z with
        | nx s' => exact w'
        | br s' => exact w'
        | rt r => exact w'
      | er c => rw [qf] at w'; exact w'
      | bad => rw [qf] at w'; exact w'
end
/-! ### defs -/
def SpF (ce : Ce) {α ρ : Type} (R : Hp → List V → α → Prop) (md : Md ρ) (f : α → M ρ) : Sp := fun vs H Q E => ∃ F x, Ex F H ∧ R F vs x ∧ Post ce md (f x) F H Q E
theorem spa {ce : Ce} {α ρ : Type} {R : Hp → List V → α → Prop} {md : Md ρ} {f : α → M ρ} (x : α) : SpA ce R (SpF ce R md f) md x (f x) := fun F1 H1 vs e r Q E q => ⟨F1, x, e, r, q⟩
end Mw

set_option Elab.async false
set_option linter.all false
set_option maxRecDepth 100000
set_option maxHeartbeats 2000000
/-! Mw, part F: calls of defs that raise nothing, isinstance, what else the printed walks use. -/
namespace Mw
open PySem L2
open Rep (rp)
@[simp] theorem bind_assoc {α β γ : Type} (m : M α) (f : α → M β) (g : β → M γ) : (m.bind f).bind g = m.bind fun x => (f x).bind g := by cases m <;> rfl
theorem wp_bind {τ α : Type} {ce : Ce} {E : XK} {H0 : Hp} {m : M α} {k : α → M τ} {P : τ → Prop} (h : Wp ce E H0 (m.bind k) P) : Wp ce E H0 m (fun x => Wp ce E H0 (k x) P) := by
  cases m with
  | ok x => exact h
  | er c => exact h
  | bad => exact h
/-- a def that raises nothing -/
def SpF0 (ce : Ce) {α ρ : Type} (R : Hp → List V → α → Prop) (md : Md ρ) (f : α → M ρ) : Sp := fun vs H Q _ => ∃ F x, Ex F H ∧ R F vs x ∧ Post ce md (f x) F H Q E0
theorem post_ne {ρ : Type} {ce : Ce} {md : Md ρ} {m : M ρ} {F H : Hp} {Q : VK} {E E' : XK} (h : Post ce md m.ne F H Q E) : Post ce md m F H Q E' := by
  cases m with
  | ok r => exact h
  | er c => exact h.elim
  | bad => exact h
section
variable {ρ α β γ δ W τ : Type} [Rep α] [Rep β] [Rep γ] [Rep δ] {ce : Ce} {E : XK} {K : PySem.W.Frag} {σ : L2.St} {F H F' H' F0 H0 : Hp} {te ta tb tc td : TE} {tt tu : TT} {md : Md ρ} {m : M ρ} {D : Ends} {ts tw : TS} {P : τ → Prop}
theorem e_call0 [MdMo md] {ta : TA} {x : α} {R : Hp → List V → α → Prop} {f : α → M ρ} (ha : EvAM ce E ta σ F H (.ok x) R) : Ev ce E (tCall (SpF0 ce R md f) [] E0 ta) σ F H md (f x).ne := fun F1 H1 g1 Q q =>
  ha F1 H1 g1 _ fun F2 H2 vs g2 r2 => by
    show SpF0 ce R md f (vs ++ []) H2 Q E0
    rw [List.append_nil]
    exact ⟨F2, x, g2.fh, r2, post_ne (Post.mo g2 q)⟩
theorem em_call0 [MdMo md] {ta : TA} {m1 : M α} {R : Hp → List V → α → Prop} {f : α → M ρ} (ha : EvAM ce E ta σ F H m1 R) : Ev ce E (tCall (SpF0 ce R md f) [] E0 ta) σ F H md (m1.bind fun x => (f x).ne) := fun F1 H1 g1 Q q => by
  refine ha F1 H1 g1 _ ?_
  cases m1 with
  | ok x =>
    intro F2 H2 vs g2 r2
    show SpF0 ce R md f (vs ++ []) H2 Q E0
    rw [List.append_nil]
    exact ⟨F2, x, g2.fh, r2, post_ne (Post.mo g2 q)⟩
  | er c => exact q
  | bad => exact q
theorem e_callX [MdMo md] {ta : TA} {x : α} {R : Hp → List V → α → Prop} {f : α → M ρ} (ha : EvAM ce E ta σ F H (.ok x) R) : Ev ce E (tCall (SpF ce R md f) [] E ta) σ F H md (f x) := e_call ha (spa x)
theorem em_callX [MdMo md] {ta : TA} {m1 : M α} {R : Hp → List V → α → Prop} {f : α → M ρ} (ha : EvAM ce E ta σ F H m1 R) : Ev ce E (tCall (SpF ce R md f) [] E ta) σ F H md (m1.bind fun x => f x) := em_call ha fun x => spa x
theorem e_some [NN α] {x : α} (h : Ev ce E te σ F H (rv K) (.ok x)) : Ev ce E te σ F H (rv K) (.ok (some x)) := em_some (m := .ok x) h
theorem e_neg' {x : Int} (ha : Ev ce E ta σ F H (rv K) (.ok x)) : Ev ce E (tUn (rU fun i => .int (-i)) ta) σ F H (rv K) (.ok (-x)) := e_neg ha
theorem em_neg {m1 : M Int} (ha : Ev ce E ta σ F H (rv K) m1) : Ev ce E (tUn (rU fun i => .int (-i)) ta) σ F H (rv K) (m1.bind fun x => .ok (-x)) := em_un ha fun x => o_neg
/-- x < y < z, plain -/
theorem e_chain {r r' : R2} {x : α} {y : β} {z : γ} {b b' : Bool} (ha : Ev ce E ta σ F H (rv K) (.ok x)) (hb : Ev ce E tb σ F H (rv K) (.ok y)) (hc : Ev ce E tc σ F H (rv K) (.ok z))
    (h : Op2 ce E K r (rv K) x y (.ok b)) (h' : Op2 ce E K r' (rv K) y z (.ok b')) : Ev ce E (tChain r r' ta tb tc) σ F H (rv K) (.ok (b && b')) := fun F1 H1 g1 Q q => by
  refine ha F1 H1 g1 _ fun F2 H2 vx g2 rx => hb F2 H2 (g1.tr g2) _ fun F3 H3 vy g3 ry => ?_
  refine h F3 H3 vx vy g3.fh (Rep.mo g3.ff rx) ry _ fun F4 H4 v4 g4 r4 => ⟨b, r4, ?_⟩
  cases b with
  | true => exact hc F4 H4 (((g1.tr g2).tr g3).tr g4) _ fun F5 H5 vz g5 rz => h' F5 H5 vy vz g5.fh (Rep.mo (g4.ff.tr g5.ff) ry) rz Q (Post.mo (m := .ok b') (((g2.tr g3).tr g4).tr g5) q)
  | false => exact q F4 H4 _ ((g2.tr g3).tr g4) rfl
theorem e_if {b : Bool} {x y : ρ} [MdMo md] (h : EvT ce E tt σ F H (.ok b)) (ha : Ev ce E ta σ F H md (.ok x)) (hb : Ev ce E tb σ F H md (.ok y)) : Ev ce E (tIf tt ta tb) σ F H md (.ok (if b then x else y)) := fun F1 H1 g1 Q q => by
  refine h F1 H1 g1 _ fun F2 H2 g2 => ?_
  cases b with
  | true => exact ha F2 H2 (g1.tr g2) _ (Post.mo (m := .ok x) g2 q)
  | false => exact hb F2 H2 (g1.tr g2) _ (Post.mo (m := .ok y) g2 q)
theorem e_tup2 {x : α} {y : β} (ha : Ev ce E ta σ F H (rv K) (.ok x)) (hb : Ev ce E tb σ F H (rv K) (.ok y)) : Ev ce E (tTup (tCons ta (tCons tb tNil))) σ F H (rv K) (.ok (x, y)) := em_tup2 (m1 := .ok x) (m2 := .ok y) ha hb
theorem e_tup3 {x : α} {y : β} {z : γ} (ha : Ev ce E ta σ F H (rv K) (.ok x)) (hb : Ev ce E tb σ F H (rv K) (.ok y)) (hc : Ev ce E tc σ F H (rv K) (.ok z)) : Ev ce E (tTup (tCons ta (tCons tb (tCons tc tNil)))) σ F H (rv K) (.ok (T3.mk x y z)) := em_tup3 (m1 := .ok x) (m2 := .ok y) (m3 := .ok z) ha hb hc
theorem e_lcons {tr : TA} {x : α} {y : List α} (ha : Ev ce E ta σ F H (rv K) (.ok x)) (hr : EvL ce E K tr σ F H (.ok y)) : EvL ce E K (tCons ta tr) σ F H (.ok (x :: y)) := el_cons (m1 := .ok x) (m2 := .ok y) ha hr
theorem e_lst {ta : TA} {x : List α} (ha : EvL ce E K ta σ F H (.ok x)) (hs : x.length ≤ 1000) : Ev ce E (tLst ta) σ F H (rn K) (.ok x) := em_lst ha fun y e => by cases e; exact hs
/-- a written list whose items are reckoned: its length is looked at -/
theorem em_lst' {ta : TA} {m : M (List α)} (ha : EvL ce E K ta σ F H m) : Ev ce E (tLst ta) σ F H (rn K) (m.bind fun x => chk (x.length ≤ 1000) x) := fun F1 H1 g1 Q q => by
  cases m with
  | ok x =>
    have q' : Post ce (rn K) (chk (x.length ≤ 1000) x) F1 H1 Q E := q
    unfold chk at q'
    by_cases hx : x.length ≤ 1000
    · rw [if_pos hx] at q'
      exact em_lst ha (fun y e => by cases e; exact hx) F1 H1 g1 Q q'
    · rw [if_neg hx] at q'
      exact q'.elim
  | er c => exact em_lst ha (fun y e => nomatch e) F1 H1 g1 Q q
  | bad => exact q.elim
theorem em_rev' {x : List α} (ha : Ev ce E ta σ F H (rv K) (.ok x)) : Ev ce E (tRevL K ta) σ F H (rn K) (.ok x.reverse) := em_rev (m1 := .ok x) ha
theorem e_sl {tl th : TO} {x : List α} {lo hi : Option Int} (ha : Ev ce E ta σ F H (rv K) (.ok x)) (hl : EvO ce E tl σ F H (.ok lo)) (hh : EvO ce E th σ F H (.ok hi)) : Ev ce E (tSl (rSlL K) ta tl th) σ F H (rn K) (.ok (cut x lo hi)) := em_sl (m1 := .ok x) (m2 := .ok lo) (m3 := .ok hi) ha hl hh
theorem e_slS {tl th : TO} {x : Scr} {lo hi : Option Int} (ha : Ev ce E ta σ F H (rv K) (.ok x)) (hl : EvO ce E tl σ F H (.ok lo)) (hh : EvO ce E th σ F H (.ok hi)) : Ev ce E (tSl (rSlL K) ta tl th) σ F H (rn K) (.ok (cut x.l lo hi)) := em_slS (m2 := .ok lo) (m3 := .ok hi) ha hl hh
/-! ### isinstance -/
class Ty (α : Type) [Rep α] where
  nm : String
  ty : ∀ {K : PySem.W.Frag} {F H : Hp} {v : V} {x : α}, Ex F H → rp K F v x → TyX K H v (.type nm)
instance : Ty Int := ⟨"int", fun {K F H v x} _ h => by cases h; exact .base (.int x)⟩
instance : Ty Bool := ⟨"bool", fun {K F H v x} _ h => by cases h; exact .base (.bl x)⟩
instance : Ty Str := ⟨"str", fun {K F H v x} _ h => by cases h; exact .base (.str x)⟩
instance : Ty Unit := ⟨"NoneType", fun {K F H v x} _ h => by cases h; exact .base .non⟩
instance : Ty (List α) := ⟨"list", fun {K F H v x} e ⟨a, vs, h1, h2, h3⟩ => by subst h1; exact .base (.lst (e _ _ h2))⟩
theorem tyx_tup {a : Addr} {xs : List V} (e : Ex F H) (h : SqT K F a xs) : TyX K H (.ref a) (.type "tuple") := by
  rcases h with (h | ⟨o, h⟩) | ⟨o, its, n, hk, hc, _⟩
  · exact .base (.tup (e _ _ h))
  · exact .fTuple (e _ _ h)
  · exact .kTuple hk hc
instance : Ty (α × β) := ⟨"tuple", fun {K F H v x} e ⟨a, u, w, h1, h2, _⟩ => by subst h1; exact tyx_tup e h2⟩
instance : Ty (T3 α β γ) := ⟨"tuple", fun {K F H v x} e ⟨a, u, w, z, h1, h2, _⟩ => by subst h1; exact tyx_tup e h2⟩
instance : Ty (T4 α β γ δ) := ⟨"tuple", fun {K F H v x} e ⟨a, u, w, z, y, h1, h2, _⟩ => by subst h1; exact tyx_tup e h2⟩
theorem e_isi [Ty α] {x : α} {n : String} {b : Bool} (ha : Ev ce E ta σ F H (rv K) (.ok x)) (hb : PySem.W.kitOne K (.type (Ty.nm α)) (.type n) = some b) : Ev ce E (tCB (rIsi K) (tCons ta (tCons (tC (.ty n)) tNil))) σ F H (rv K) (.ok b) := fun F1 H1 g1 Q q =>
  ha F1 H1 g1 _ fun F2 H2 v g2 r => ⟨v, .ty n, _, _, b, rfl, .ty n, Ty.ty g2.fh r, hb, q F2 H2 _ g2 rfl⟩
/-- isinstance(x, T) where x may be None -/
theorem e_isiO [Ty α] {x : Option α} {n : String} {b : Bool} (ha : Ev ce E ta σ F H (rv K) (.ok x)) (hn : PySem.W.kitOne K (.type "NoneType") (.type n) = some false) (hb : PySem.W.kitOne K (.type (Ty.nm α)) (.type n) = some b) :
    Ev ce E (tCB (rIsi K) (tCons ta (tCons (tC (.ty n)) tNil))) σ F H (rv K) (.ok (x.isSome && b)) := fun F1 H1 g1 Q q =>
  ha F1 H1 g1 _ fun F2 H2 v g2 r => by
    cases x with
    | none => cases r; exact ⟨_, .ty n, _, _, false, rfl, .ty n, .base .non, hn, q F2 H2 _ g2 rfl⟩
    | some y => exact ⟨v, .ty n, _, _, b, rfl, .ty n, Ty.ty g2.fh r.1, hb, q F2 H2 _ g2 rfl⟩
theorem em_isi [Ty α] {m : M α} {n : String} {b : Bool} (ha : Ev ce E ta σ F H (rv K) m) (hb : PySem.W.kitOne K (.type (Ty.nm α)) (.type n) = some b) : Ev ce E (tCB (rIsi K) (tCons ta (tCons (tC (.ty n)) tNil))) σ F H (rv K) (m.bind fun _ => .ok b) := fun F1 H1 g1 Q q => by
  refine ha F1 H1 g1 _ ?_
  cases m with
  | ok x => exact fun F2 H2 v g2 r => ⟨v, .ty n, _, _, b, rfl, .ty n, Ty.ty g2.fh r, hb, q F2 H2 _ g2 rfl⟩
  | er c => exact q
  | bad => exact q
theorem em_isiO [Ty α] {m : M (Option α)} {n : String} {b : Bool} (ha : Ev ce E ta σ F H (rv K) m) (hn : PySem.W.kitOne K (.type "NoneType") (.type n) = some false) (hb : PySem.W.kitOne K (.type (Ty.nm α)) (.type n) = some b) :
    Ev ce E (tCB (rIsi K) (tCons ta (tCons (tC (.ty n)) tNil))) σ F H (rv K) (m.bind fun x => .ok (x.isSome && b)) := fun F1 H1 g1 Q q => by
  refine ha F1 H1 g1 _ ?_
  cases m with
  | ok x =>
    intro F2 H2 v g2 r
    cases x with
    | none => cases r; exact ⟨_, .ty n, _, _, false, rfl, .ty n, .base .non, hn, q F2 H2 _ g2 rfl⟩
    | some y => exact ⟨v, .ty n, _, _, b, rfl, .ty n, Ty.ty g2.fh r.1, hb, q F2 H2 _ g2 rfl⟩
  | er c => exact q
  | bad => exact q
/-! ### ifs -/
theorem s_if2 {m1 : M Bool} {k1 k2 : M τ} (G : Gr F0 H0 F H) (q : Wp ce E H0 (m1.bind fun b => if b then k1 else k2) P) (h : EvT ce E tt σ F H m1)
    (h1 : ∀ F1 H1, Gr F H F1 H1 → Wp ce E H0 k1 P → ts D σ H1) (h2 : ∀ F1 H1, Gr F H F1 H1 → Wp ce E H0 k2 P → tw D σ H1) : tIfS tt ts tw D σ H := s_if G q h h1 h2
theorem s_if2A (A : List Addr) {m1 : M Bool} {k1 k2 : M τ} (G : Gr F0 H0 F H) (q : Wp ce E H0 (m1.bind fun b => if b then k1 else k2) P) (hF : ∀ p ∈ A, F p = none) (hA : ∀ p ∈ A, ∃ o, H p = some o ∧ NoTup o)
    (h : EvT ce E tt σ (fz F H A) H m1) (h1 : ∀ F1 H1, Gr F H F1 H1 → Wp ce E H0 k1 P → ts D σ H1) (h2 : ∀ F1 H1, Gr F H F1 H1 → Wp ce E H0 k2 P → tw D σ H1) : tIfS tt ts tw D σ H := s_ifA A G q hF hA h h1 h2
theorem s_join {t : TS} {m1 : M W} {k : W → M τ} (J : W → Hp → Hp → L2.St → Prop) (q : Wp ce E H0 (m1.bind k) P)
    (h1 : ∀ w F1 H1 σ1, J w F1 H1 σ1 → Wp ce E H0 (k w) P → D.nx σ1 H1)
    (h2 : ∀ (P' : W → Prop), (∀ w, P' w → ∀ F1 H1 σ1, J w F1 H1 σ1 → D.nx σ1 H1) → Wp ce E H0 m1 P' → t D σ H) : t D σ H :=
  h2 (fun w => Wp ce E H0 (k w) P) (fun w p F1 H1 σ1 j => h1 w F1 H1 σ1 j p) (wp_bind q)
theorem own1 {Pp : Addr → Prop} {p : Addr} (h : Pp p) : ∀ q ∈ [p], Pp q := fun q m => by rw [List.mem_singleton.mp m]; exact h
theorem own2 {Pp : Addr → Prop} {p p' : Addr} (h : Pp p) (h' : Pp p') : ∀ q ∈ [p, p'], Pp q := fun q m => by
  rcases List.mem_cons.mp m with rfl | m
  · exact h
  · rw [List.mem_singleton.mp m]; exact h'
theorem own3 {Pp : Addr → Prop} {p p' p'' : Addr} (h : Pp p) (h' : Pp p') (h'' : Pp p'') : ∀ q ∈ [p, p', p''], Pp q := fun q m => by
  rcases List.mem_cons.mp m with rfl | m
  · exact h
  · exact own2 h' h'' q m
variable {T : Type} [Rep T] [Obj T]
theorem Own.ls {p : Addr} {x : T} (o : Own K F H p x) : ∃ o, H p = some o ∧ NoTup o := let ⟨⟨u, h, h2⟩, _⟩ := o; ⟨u, h, Obj.nt h2⟩
/-- a list of one's own from now on stays as it is -/
theorem own_fix {p : Addr} {x : T} (G : Gr F0 H0 F H) (o : Own K F H p x) (n0 : H0 p = none) : ∃ F', Gr F0 H0 F' H ∧ Ex F F' ∧ rp K F' (.ref p) x ∧ ∀ q, q ≠ p → F' q = F q := by
  obtain ⟨⟨u, h1, h2⟩, h3⟩ := o
  refine ⟨upd F p u, ⟨G.ff.tr (Ex.nw h3), fun a w e => ?_, G.hh, fun b a1 a2 => ?_⟩, Ex.nw h3, Obj.rep upd_same (Obj.mo (Ex.nw h3) h2), fun q hq => upd_ne hq⟩
  · by_cases z : a = p
    · subst z; rw [upd_same] at e; rw [h1]; exact e
    · rw [upd_ne z] at e; exact G.fh a w e
  · have : b ≠ p := fun z => by subst z; exact a2 n0
    rw [upd_ne this]; exact G.nw b a1 a2
/-- x += e -/
theorem s_aug {i : Nat} {v : V} {a : Int} {f : Int → Int → Int} {m1 : M Int} {k : Int → M τ} (hv : σ[i]? = some (some v)) (r : rp K F v a) (G : Gr F0 H0 F H) (q : Wp ce E H0 (m1.bind fun y => k (f a y)) P) (h : Ev ce E te σ F H (rv K) m1)
    (c : ∀ x F1 H1 v, Gr F H F1 H1 → rp K F1 v x → Wp ce E H0 (k x) P → D.nx (σ.set i (some v)) H1) : tAug i te (ipI f) D σ H := by
  cases r
  exact ⟨.int a, hv, h.go G q fun x F1 H1 v g r w => by cases r; exact ⟨a, x, rfl, rfl, c (f a x) F1 H1 _ g rfl w⟩⟩
end
end Mw
namespace Mw
open PySem L2
/-- an error class of one's own over ValueError, as the top has written it -/
structure ErrC (K : PySem.W.Frag) (mg : Str → Option Value) (C : Addr) (nm : Str) : Prop where
  g : mg nm = some (.ref C)
  x : PySem.W.excIn K C [.type "ValueError", .type "Exception", .type "BaseException", .type "object"] "ValueError.__new__" = true
  k : PySem.W.keepIn K (.ref C) = true
  b : PySem.W.subIn K (.ref C) (.type "BaseException") = some true
  t : PySem.W.typeIn K (.ref C) = some (.type "type")
section
variable {ρ α β γ δ W τ : Type} [Rep α] [Rep β] [Rep γ] [Rep δ] {ce : Ce} {E : XK} {K : PySem.W.Frag} {σ : L2.St} {F H F' H' F0 H0 : Hp} {te ta tb tc td : TE} {tt tu : TT} {md : Md ρ} {m : M ρ} {D : Ends} {ts tw : TS} {P : τ → Prop}
theorem t_yes : EvT ce E tYes σ F H (.ok true) := fun F1 H1 g Q q => q F1 H1 (Gr.rf g.fh)
/-- one plain operand's place, of a reckoned thing -/
theorem em_ix {r : R2} {m1 : M α} {y : β} {g : α → γ} (ha : Ev ce E ta σ F H (rv K) m1) (hb : Ev ce E tb σ F H (rv K) (.ok y)) (hr : ∀ x, Op2 ce E K r (rv K) x y (.ok (g x))) : Ev ce E (tOp r ta tb) σ F H (rv K) (m1.bind fun x => .ok (g x)) := fun F1 H1 g1 Q q => by
  refine ha F1 H1 g1 _ ?_
  cases m1 with
  | ok x => exact fun F2 H2 vx g2 rx => hb F2 H2 (g1.tr g2) _ fun F3 H3 vy g3 ry => hr x F3 H3 vx vy g3.fh (Rep.mo g3.ff rx) ry Q (Post.mo (m := .ok (g x)) (g2.tr g3) q)
  | er c => exact q
  | bad => exact q
theorem em_cb1 [MdMo md] {ta : TA} {r : List V → Hp → VK → Prop} {x : α} {R : Hp → List V → α → Prop} {m : M ρ} (ha : EvAM ce E ta σ F H (.ok x) R) (hr : OpA ce E R r md x m) : Ev ce E (tCB r ta) σ F H md m := fun F1 H1 g1 Q q =>
  ha F1 H1 g1 _ fun F2 H2 vs g2 r2 => hr F2 H2 vs g2.fh r2 Q (Post.mo g2 q)
/-- a, b = e -/
theorem s_asgT {g : TG} {R : L2.St → Hp → L2.St → α → Prop} (hg : Tg K g R) {m1 : M α} {k : α → M τ} (G : Gr F0 H0 F H) (q : Wp ce E H0 (m1.bind k) P) (h : Ev ce E te σ F H (rv K) m1)
    (c : ∀ x F1 H1 σ1, Gr F H F1 H1 → R σ F1 σ1 x → Wp ce E H0 (k x) P → D.nx σ1 H1) : tAsg te g D σ H := h.go G q fun x F1 H1 v g r w => hg σ F1 H1 v x g.fh r _ fun σ2 hr => c x F1 H1 σ2 g hr w
/-- x = a new list, where e reads lists of one's own -/
theorem s_asgNA (A : List Addr) {i : Nat} {m1 : M (List α)} {k : List α → M τ} [Flat α] (G : Gr F0 H0 F H) (q : Wp ce E H0 (m1.bind k) P) (hF : ∀ p ∈ A, F p = none) (hA : ∀ p ∈ A, ∃ o, H p = some o ∧ NoTup o) (h0 : ∀ p ∈ A, H0 p = none)
    (h : Ev ce E te σ (fz F H A) H (rn K) m1) (c : ∀ x F1 H1 p, Gr F H F1 H1 → H p = none → Own K F1 H1 p x → Wp ce E H0 (k x) P → D.nx (σ.set i (some (.ref p))) H1) : tAsg te (gName i) D σ H := by
  refine h _ H (Gr.rf (fz_h G.fh)) _ ?_
  have hA' : ∀ p ∈ A, H p ≠ none := fun p m => by obtain ⟨o, e, _⟩ := hA p m; rw [e]; exact fun z => nomatch z
  cases m1 with
  | ok x =>
    rintro F1 H1 v g ⟨p, vs, rfl, h1, h2, h3, h4⟩
    refine c x (th F1 A) H1 p (gr_th hF hA' G.fh g) h1 (own_new ?_ h3 (paired_fl (th_of hA g) h4)) q
    · unfold th
      split
      · rfl
      · exact h2
  | er cc => exact fun H' e => q H' (G.hh.tr e)
  | bad => exact q
theorem Own.other {T : Type} [Rep T] [Obj T] {q : Addr} {x : T} (o : Own K F H q x) (e : Ex F F') (h : F' q = F q) : Own K F' H q x := by
  obtain ⟨⟨u, h1, h2⟩, h3⟩ := o
  exact ⟨⟨u, h1, Obj.mo e h2⟩, by rw [h]; exact h3⟩
end
end Mw
/-! ### the same with a rest -/
namespace Mw
open PySem L2
open Rep (rp)
section
variable {ρ α β γ δ S W τ : Type} [Rep α] [Rep β] [Rep γ] [Rep δ] {ce : Ce} {E : XK} {K : PySem.W.Frag} {σ : L2.St} {F H F' H' F0 H0 : Hp} {te ta tb tc td : TE} {tt tu : TT} {md : Md ρ} {m : M ρ} {D : Ends} {ts tw : TS} {g : TG} {wi : TI} {P : τ → Prop}
theorem s_next (h : D.nx σ H) : tNext D σ H := h
theorem s_nx {X : L2.St → Hp → Prop} {R : VK} {B C : L2.St → Hp → Prop} (h : X σ H) : (Ends.mk X R B C).nx σ H := h
theorem q_asg {t2 : TS} {i : Nat} {m1 : M α} {k : α → M τ} (G : Gr F0 H0 F H) (q : Wp ce E H0 (m1.bind k) P) (h : Ev ce E te σ F H (rv K) m1)
    (c : ∀ x F1 H1 v, Gr F H F1 H1 → rp K F1 v x → Wp ce E H0 (k x) P → t2 D (σ.set i (some v)) H1) : tSeq (tAsg te (gName i)) t2 D σ H := s_asg (D := { D with nx := t2 D }) G q h c
theorem q_asgN {t2 : TS} {i : Nat} {m1 : M (List α)} {k : List α → M τ} (G : Gr F0 H0 F H) (q : Wp ce E H0 (m1.bind k) P) (h : Ev ce E te σ F H (rn K) m1)
    (c : ∀ x F1 H1 p, Gr F H F1 H1 → H p = none → Own K F1 H1 p x → Wp ce E H0 (k x) P → t2 D (σ.set i (some (.ref p))) H1) : tSeq (tAsg te (gName i)) t2 D σ H := s_asgN (D := { D with nx := t2 D }) G q h c
theorem q_asgA {t2 : TS} (A : List Addr) {i : Nat} {m1 : M α} {k : α → M τ} [Flat α] (G : Gr F0 H0 F H) (q : Wp ce E H0 (m1.bind k) P) (hF : ∀ p ∈ A, F p = none) (hA : ∀ p ∈ A, ∃ o, H p = some o ∧ NoTup o) (h0 : ∀ p ∈ A, H0 p = none)
    (h : Ev ce E te σ (fz F H A) H (rv K) m1) (c : ∀ x F1 H1 v, Gr F H F1 H1 → rp K F1 v x → Wp ce E H0 (k x) P → t2 D (σ.set i (some v)) H1) : tSeq (tAsg te (gName i)) t2 D σ H := s_asgA (D := { D with nx := t2 D }) A G q hF hA h0 h c
theorem q_drop {t2 : TS} {m1 : M α} {k : α → M τ} (G : Gr F0 H0 F H) (q : Wp ce E H0 (m1.bind k) P) (h : Ev ce E te σ F H (rv K) m1)
    (c : ∀ x F1 H1, Gr F H F1 H1 → Wp ce E H0 (k x) P → t2 D σ H1) : tSeq (tDrop te) t2 D σ H := s_drop (D := { D with nx := t2 D }) G q h c
theorem q_app {t2 : TS} {i : Nat} {p : Addr} {xs : List α} {m1 : M α} {k : List α → M τ} (hp : σ[i]? = some (some (.ref p))) (o : Own K F H p xs) (n0 : H0 p = none) (G : Gr F0 H0 F H)
    (q : Wp ce E H0 (m1.bind fun x => (appM xs x).bind k) P) (h : Ev ce E te σ F H (rv K) m1)
    (c : ∀ ys F1 H1, Ex F F1 → Gr F0 H0 F1 H1 → Own K F1 H1 p ys → (∀ (T : Type) [Rep T] [Obj T] (q : Addr) (z : T), q ≠ p → Own K F H q z → Own K F1 H1 q z) → Wp ce E H0 (k ys) P → t2 D σ H1) : tSeq (tDrop (tBM K "list" rAppend (tVar i) (tCons te tNil))) t2 D σ H := s_app (D := { D with nx := t2 D }) hp o n0 G q h c
theorem q_appA {t2 : TS} (A : List Addr) {i : Nat} {p : Addr} {xs : List α} {m1 : M α} {k : List α → M τ} [Flat α] (hp : σ[i]? = some (some (.ref p))) (o : Own K F H p xs) (n0 : H0 p = none) (G : Gr F0 H0 F H)
    (q : Wp ce E H0 (m1.bind fun x => (appM xs x).bind k) P) (hF : ∀ p ∈ A, F p = none) (hA : ∀ p ∈ A, ∃ o, H p = some o ∧ NoTup o) (h : Ev ce E te σ (fz F H A) H (rv K) m1)
    (c : ∀ ys F1 H1, Ex F F1 → Gr F0 H0 F1 H1 → Own K F1 H1 p ys → (∀ (T : Type) [Rep T] [Obj T] (q : Addr) (z : T), q ≠ p → Own K F H q z → Own K F1 H1 q z) → Wp ce E H0 (k ys) P → t2 D σ H1) : tSeq (tDrop (tBM K "list" rAppend (tVar i) (tCons te tNil))) t2 D σ H := s_appA (D := { D with nx := t2 D }) A hp o n0 G q hF hA h c
theorem q_for {t2 : TS} {f : α → S → M (Ctl S τ)} {k : S → M τ} {s0 : S} {m : M (List α)} {R : L2.St → Hp → L2.St → α → Prop} (I : S → Hp → Hp → L2.St → Prop) (G : Gr F0 H0 F H) (hi : EvI ce E K wi σ F H m) (hg : Tg K g R)
    (q : Wp ce E H0 (m.bind fun xs => forM f k xs s0) P) (h0 : ∀ F1 H1, Gr F H F1 H1 → I s0 F1 H1 σ) (hG : ∀ s F' H' σ', I s F' H' σ' → Gr F0 H0 F' H')
    (turn : ∀ x s F1 H1 σ1, I s F1 H1 σ1 → ∀ F2 H2 σ2, Gr F1 H1 F2 H2 → R σ1 F2 σ2 x → ∀ (D' : Ends) (P' : Ctl S τ → Prop), D'.rt = D.rt →
      (∀ s', P' (.nx s') → ∀ F3 H3 σ3, Ex F2 F3 → I s' F3 H3 σ3 → D'.nx σ3 H3) → (∀ s', P' (.nx s') → ∀ F3 H3 σ3, Ex F2 F3 → I s' F3 H3 σ3 → D'.ct σ3 H3) →
      (∀ s', P' (.br s') → ∀ F3 H3 σ3, Ex F2 F3 → I s' F3 H3 σ3 → D'.bk σ3 H3) → (∀ r, P' (.rt r) → P r) → Wp ce E H0 (f x s) P' → ts D' σ2 H2)
    (after : ∀ s F1 H1 σ1, Ex F F1 → I s F1 H1 σ1 → Wp ce E H0 (k s) P → t2 D σ1 H1) : tSeq (tFor wi g ts) t2 D σ H := s_for (D := { D with nx := t2 D }) I G hi hg q h0 hG turn after
theorem q_while {t2 : TS} {c : S → M Bool} {f : S → M (Ctl S τ)} {k : S → M τ} {s0 : S} {n : Nat} (I : S → Hp → Hp → L2.St → Prop) (h0 : I s0 F H σ) (hG : ∀ s F' H' σ', I s F' H' σ' → Gr F0 H0 F' H')
    (q : Wp ce E H0 (whM c f k n s0) P) (hc : ∀ s F1 H1 σ1, I s F1 H1 σ1 → EvT ce E tt σ1 F1 H1 (c s)) (hI : ∀ s F1 H1 F2 H2 σ1, I s F1 H1 σ1 → Gr F1 H1 F2 H2 → I s F2 H2 σ1)
    (turn : ∀ s F1 H1 σ1, I s F1 H1 σ1 → ∀ (D' : Ends) (P' : Ctl S τ → Prop), D'.rt = D.rt →
      (∀ s', P' (.nx s') → ∀ F3 H3 σ3, I s' F3 H3 σ3 → D'.nx σ3 H3) → (∀ s', P' (.nx s') → ∀ F3 H3 σ3, I s' F3 H3 σ3 → D'.ct σ3 H3) →
      (∀ s', P' (.br s') → ∀ F3 H3 σ3, I s' F3 H3 σ3 → D'.bk σ3 H3) → (∀ r, P' (.rt r) → P r) → Wp ce E H0 (f s) P' → ts D' σ1 H1)
    (after : ∀ s F1 H1 σ1, I s F1 H1 σ1 → Wp ce E H0 (k s) P → t2 D σ1 H1) : tSeq (tWhile tt ts) t2 D σ H := s_while (D := { D with nx := t2 D }) I h0 hG q hc hI turn after
theorem q_asgNA {t2 : TS} (A : List Addr) {i : Nat} {m1 : M (List α)} {k : List α → M τ} [Flat α] (G : Gr F0 H0 F H) (q : Wp ce E H0 (m1.bind k) P) (hF : ∀ p ∈ A, F p = none) (hA : ∀ p ∈ A, ∃ o, H p = some o ∧ NoTup o) (h0 : ∀ p ∈ A, H0 p = none)
    (h : Ev ce E te σ (fz F H A) H (rn K) m1) (c : ∀ x F1 H1 p, Gr F H F1 H1 → H p = none → Own K F1 H1 p x → Wp ce E H0 (k x) P → t2 D (σ.set i (some (.ref p))) H1) : tSeq (tAsg te (gName i)) t2 D σ H := s_asgNA (D := { D with nx := t2 D }) A G q hF hA h0 h c
theorem q_asgT {t2 : TS} {g : TG} {R : L2.St → Hp → L2.St → α → Prop} (hg : Tg K g R) {m1 : M α} {k : α → M τ} (G : Gr F0 H0 F H) (q : Wp ce E H0 (m1.bind k) P) (h : Ev ce E te σ F H (rv K) m1)
    (c : ∀ x F1 H1 σ1, Gr F H F1 H1 → R σ F1 σ1 x → Wp ce E H0 (k x) P → t2 D σ1 H1) : tSeq (tAsg te g) t2 D σ H := s_asgT (D := { D with nx := t2 D }) hg G q h c
theorem q_if2 {t2 : TS} {m1 : M Bool} {k1 k2 : M τ} (G : Gr F0 H0 F H) (q : Wp ce E H0 (m1.bind fun b => if b then k1 else k2) P) (h : EvT ce E tt σ F H m1)
    (h1 : ∀ F1 H1, Gr F H F1 H1 → Wp ce E H0 k1 P → ts { D with nx := t2 D } σ H1) (h2 : ∀ F1 H1, Gr F H F1 H1 → Wp ce E H0 k2 P → tw { D with nx := t2 D } σ H1) : tSeq (tIfS tt ts tw) t2 D σ H := s_if2 (D := { D with nx := t2 D }) G q h h1 h2
theorem q_if2A {t2 : TS} (A : List Addr) {m1 : M Bool} {k1 k2 : M τ} (G : Gr F0 H0 F H) (q : Wp ce E H0 (m1.bind fun b => if b then k1 else k2) P) (hF : ∀ p ∈ A, F p = none) (hA : ∀ p ∈ A, ∃ o, H p = some o ∧ NoTup o)
    (h : EvT ce E tt σ (fz F H A) H m1) (h1 : ∀ F1 H1, Gr F H F1 H1 → Wp ce E H0 k1 P → ts { D with nx := t2 D } σ H1) (h2 : ∀ F1 H1, Gr F H F1 H1 → Wp ce E H0 k2 P → tw { D with nx := t2 D } σ H1) : tSeq (tIfS tt ts tw) t2 D σ H := s_if2A (D := { D with nx := t2 D }) A G q hF hA h h1 h2
theorem q_aug {t2 : TS} {i : Nat} {v : V} {a : Int} {f : Int → Int → Int} {m1 : M Int} {k : Int → M τ} (hv : σ[i]? = some (some v)) (r : rp K F v a) (G : Gr F0 H0 F H) (q : Wp ce E H0 (m1.bind fun y => k (f a y)) P) (h : Ev ce E te σ F H (rv K) m1)
    (c : ∀ x F1 H1 v, Gr F H F1 H1 → rp K F1 v x → Wp ce E H0 (k x) P → t2 D (σ.set i (some v)) H1) : tSeq (tAug i te (ipI f)) t2 D σ H := s_aug (D := { D with nx := t2 D }) hv r G q h c
theorem q_join {t2 : TS} {t : TS} {m1 : M W} {k : W → M τ} (J : W → Hp → Hp → L2.St → Prop) (q : Wp ce E H0 (m1.bind k) P)
    (h1 : ∀ w F1 H1 σ1, J w F1 H1 σ1 → Wp ce E H0 (k w) P → t2 D σ1 H1)
    (h2 : ∀ (P' : W → Prop), (∀ w, P' w → ∀ F1 H1 σ1, J w F1 H1 σ1 → t2 D σ1 H1) → Wp ce E H0 m1 P' → t { D with nx := t2 D } σ H) : tSeq (t) t2 D σ H := s_join (D := { D with nx := t2 D }) J q h1 h2
end
end Mw

set_option Elab.async false
set_option linter.all false
set_option maxRecDepth 100000
set_option maxHeartbeats 2000000
/-! Mw, part G: plain laws that serve several mirrors. -/
namespace Mw
open PySem L2
theorem chk_pos {α : Type} {c : Prop} (h : c) (x : α) : chk c x = .ok x := if_pos h
theorem mulM_ok {x y : Int} (hx : x.natAbs < 2 ^ 10000) (hy : y.natAbs < 2 ^ 10000) : mulM x y = .ok (x * y) := chk_pos (wide_mul hx hy (by decide) (by decide) (by decide)) _
theorem modM_ok {x y : Int} (h : 0 < y) : modM x y = .ok (x % y) := chk_pos h _
theorem fdivM_ok {x y : Int} (h : 0 < y) (hy : y.natAbs < 2 ^ 8000) : fdivM x y = .ok (x / y) := chk_pos (wide_div h hy (by decide) (by decide)) _
theorem fdivZ_ok {x y : Int} (h : y ≠ 0) (hy : y.natAbs < 2 ^ 8000) : fdivZ x y = .ok (x.fdiv y) := chk_pos ⟨h, Nat.lt_of_lt_of_le (PySem.Flt.log2_lt_of (by decide) hy) (by decide)⟩ _
theorem ixM_of {α : Type} [Rep α] {xs : List α} {i : Nat} {x : α} (h : xs[i]? = some x) : ixM xs (i : Int) = .ok x := by
  unfold ixM
  rw [atI_nat h]
theorem catM_ok {α : Type} {xs ys : List α} (h : xs.length + ys.length ≤ 16000000) : catM xs ys = .ok (xs ++ ys) := chk_pos h _
theorem appM_ok {α : Type} {xs : List α} {x : α} (h : xs.length < 16000000) : appM xs x = .ok (xs ++ [x]) := chk_pos h _
theorem rng1M_ok {n : Int} (h : -(2 ^ 62) ≤ n ∧ n < 2 ^ 62) : rng1M n = .ok (rng 0 n) := by
  unfold rng1M
  exact chk_pos h _
theorem lcM_ok {α β : Type} (c : α → Bool) (e : α → β) {xs : List α} (h : xs.length ≤ 16000000) : lcM (fun x => .ok (c x)) (fun x => .ok (e x)) xs = .ok ((xs.filter c).map e) := by
  unfold lcM
  rw [if_pos h, compM_ok]
theorem lcM_all {α β : Type} (e : α → β) {xs : List α} (h : xs.length ≤ 16000000) : lcM (fun _ => .ok true) (fun x => .ok (e x)) xs = .ok (xs.map e) := by
  unfold lcM
  rw [if_pos h, compM_all]
theorem lcM_congr {α β : Type} {c c' : α → M Bool} {e e' : α → M β} {xs : List α} (h1 : ∀ x ∈ xs, c x = c' x) (h2 : ∀ x ∈ xs, c x = .ok true → e x = e' x) : lcM c e xs = lcM c' e' xs := by
  unfold lcM
  rw [compM_congr h1 h2]
/-- a loop without a state that only looks -/
theorem forM_all {α τ : Type} {f : α → Unit → M (Ctl Unit τ)} {k : Unit → M τ} : ∀ {xs : List α}, (∀ x ∈ xs, f x () = .ok (.nx ())) → forM f k xs () = k ()
  | [], _ => rfl
  | x :: r, h => by
    rw [forM_cons, h x List.mem_cons_self]
    exact forM_all fun y hy => h y (List.mem_cons_of_mem _ hy)
/-- a loop that always goes on -/
theorem forM_fold {α S τ : Type} {f : α → S → M (Ctl S τ)} {k : S → M τ} {g : S → α → S} (I : S → Prop) : ∀ {xs : List α} {s : S}, I s → (∀ x ∈ xs, ∀ s, I s → f x s = .ok (.nx (g s x)) ∧ I (g s x)) → forM f k xs s = k (xs.foldl g s)
  | [], _, _, _ => rfl
  | x :: r, s, hs, h => by
    rw [forM_cons, (h x List.mem_cons_self s hs).1]
    exact forM_fold I (h x List.mem_cons_self s hs).2 fun y hy => h y (List.mem_cons_of_mem _ hy)
theorem gcd_step (a b : Int) (ha : 0 ≤ a) (hb : 0 ≤ b) : Int.gcd b (a % b) = Int.gcd a b := by
  obtain ⟨m, rfl⟩ := Int.eq_ofNat_of_zero_le ha
  obtain ⟨k, rfl⟩ := Int.eq_ofNat_of_zero_le hb
  show Nat.gcd k (m % k) = Nat.gcd m k
  rw [Nat.gcd_comm m k, Nat.gcd_rec k m, Nat.gcd_comm]
/-- a loop that always goes on: what is told of what it has met -/
theorem forM_ex {α S τ : Type} {f : α → S → M (Ctl S τ)} {k : S → M τ} (J : List α → S → Prop) : ∀ (xs pre : List α) (s : S), J pre s →
    (∀ p x s, (p ++ [x]) <+: (pre ++ xs) → J p s → ∃ s', f x s = .ok (.nx s') ∧ J (p ++ [x]) s') → ∃ s', J (pre ++ xs) s' ∧ forM f k xs s = k s'
  | [], pre, s, h, _ => ⟨s, by rw [List.append_nil]; exact h, rfl⟩
  | x :: r, pre, s, h, hs => by
    have e0 : pre ++ x :: r = (pre ++ [x]) ++ r := by simp
    obtain ⟨s', e1, h1⟩ := hs pre x s (by rw [e0]; exact List.prefix_append _ _) h
    obtain ⟨s2, h2, e2⟩ := forM_ex (k := k) J r (pre ++ [x]) s' h1 (by rw [← e0]; exact hs)
    rw [e0]
    exact ⟨s2, h2, by rw [forM_cons, e1]; exact e2⟩
theorem pre_mem {α : Type} {p xs : List α} {x : α} (h : (p ++ [x]) <+: xs) : x ∈ xs := h.subset (List.mem_append_right p (List.mem_singleton.mpr rfl))
theorem pre_len {α : Type} {p xs : List α} {x : α} (h : (p ++ [x]) <+: xs) : p.length < xs.length := by
  have := h.length_le
  simp at this
  omega
theorem cut_sub {α : Type} {xs : List α} {lo hi : Option Int} {x : α} (h : x ∈ cut xs lo hi) : x ∈ xs := List.mem_of_mem_drop (List.mem_of_mem_take h)
theorem cut_len {α : Type} (xs : List α) (lo hi : Option Int) : (cut xs lo hi).length ≤ xs.length := by
  unfold cut
  rw [List.length_take, List.length_drop]
  omega
theorem six_nat {n d : Nat} {i : Nat} (h : i ≤ n) : HT.sIx n d (some (i : Int)) = i := by
  unfold HT.sIx
  dsimp only
  split <;> omega
theorem cut_take {α : Type} (xs : List α) {i : Nat} (h : i ≤ xs.length) : cut xs none (some (i : Int)) = xs.take i := by
  unfold cut
  rw [six_nat h]
  rfl
theorem cut_drop {α : Type} (xs : List α) {i : Nat} (h : i ≤ xs.length) : cut xs (some (i : Int)) none = xs.drop i := by
  unfold cut
  rw [six_nat h]
  show (xs.drop i).take (xs.length - i) = _
  rw [List.take_of_length_le (by rw [List.length_drop]; omega)]
theorem compM_ex {α β : Type} {e : α → M β} {Q : α → β → Prop} : ∀ {xs : List α}, (∀ x ∈ xs, ∃ v, e x = .ok v ∧ Q x v) → ∃ ys, compM (fun _ => .ok true) e xs = .ok ys ∧ ys.length = xs.length ∧ ∀ y ∈ ys, ∃ x ∈ xs, Q x y
  | [], _ => ⟨[], rfl, rfl, fun _ z => nomatch z⟩
  | x :: r, h => by
    obtain ⟨v, ev, hv⟩ := h x List.mem_cons_self
    obtain ⟨ys, e1, e2, e3⟩ := compM_ex fun y hy => h y (List.mem_cons_of_mem x hy)
    refine ⟨v :: ys, ?_, by simp [e2], fun y hy => ?_⟩
    · unfold compM
      rw [ev, e1]
      rfl
    · rcases List.mem_cons.mp hy with z | z
      · exact ⟨x, List.mem_cons_self, z ▸ hv⟩
      · obtain ⟨w, hw, q⟩ := e3 y z
        exact ⟨w, List.mem_cons_of_mem _ hw, q⟩
theorem lcM_ex {α β : Type} {e : α → M β} {Q : α → β → Prop} {xs : List α} (hl : xs.length ≤ 16000000) (h : ∀ x ∈ xs, ∃ v, e x = .ok v ∧ Q x v) : ∃ ys, lcM (fun _ => .ok true) e xs = .ok ys ∧ ys.length = xs.length ∧ ∀ y ∈ ys, ∃ x ∈ xs, Q x y := by
  unfold lcM
  rw [if_pos hl]
  exact compM_ex h
theorem rng_pre {p : List Int} {x : Int} {n : Nat} (h : (p ++ [x]) <+: rng 0 (n : Int)) : x = (p.length : Int) ∧ p.length < n := by
  have hl := pre_len h
  have e : (rng 0 (n : Int)).length = n := by unfold rng; simp
  rw [e] at hl
  refine ⟨?_, hl⟩
  obtain ⟨t, ht⟩ := h
  have h2 : (rng 0 (n : Int))[p.length]? = some x := by rw [← ht]; simp
  unfold rng at h2
  rw [List.getElem?_map] at h2
  obtain ⟨j, hj, e2⟩ := Option.map_eq_some_iff.mp h2
  have hj2 : p.length < (List.range ((n : Int) - 0).toNat).length := (List.getElem?_eq_some_iff.mp hj).1
  rw [List.getElem?_range (by simpa using hl)] at hj
  cases hj
  rw [← e2]
  omega
theorem ixM_last {α : Type} [Rep α] (k : List α) (m : α) : ixM (k ++ [m]) (-1) = .ok m := by
  unfold ixM
  have : atI (k ++ [m]) (-1) = some m := by
    have e : ixN (k ++ [m]).length (-1) = some k.length := by
      unfold ixN
      rw [if_neg (by decide), List.length_append, List.length_singleton]
      rw [if_pos (by omega)]
      congr 1
      omega
    unfold atI
    rw [e]
    simp
  rw [this]
end Mw

set_option Elab.async false
set_option linter.all false
set_option maxRecDepth 100000
set_option maxHeartbeats 2000000
/-! Mw, part H: dicts whose keys are whole numbers. -/
namespace Mw
open PySem L2
open Rep (rp)
structure Dc (α : Type) where
  kvs : List (Int × α)
def dlook {α : Type} (k : Int) (d : List (Int × α)) : Option α := (d.find? fun p => decide (p.1 = k)).map (·.2)
def dput {α : Type} (d : List (Int × α)) (k : Int) (x : α) : List (Int × α) := if (d.any fun p => decide (p.1 = k)) = true then d.map (fun p => if p.1 = k then (p.1, x) else p) else d ++ [(k, x)]
def dmerge {α : Type} (d more : List (Int × α)) : List (Int × α) := more.foldl (fun a p => dput a p.1 p.2) d
abbrev DRel (K : PySem.W.Frag) {α : Type} [Rep α] (H : Hp) : List (Key × V) → List (Int × α) → Prop := Paired fun q p => q.1 = Sum.inl p.1 ∧ rp K H q.2 p.2
theorem drel_mo {K : PySem.W.Frag} {α : Type} [Rep α] {H H' : Hp} (e : Ex H H') : ∀ {vs : List (Key × V)} {d : List (Int × α)}, DRel K H vs d → DRel K H' vs d
  | _, _, .nil => .nil
  | _, _, .cons h t => .cons ⟨h.1, Rep.mo e h.2⟩ (drel_mo e t)
instance {α : Type} [Rep α] : Rep (Dc α) := ⟨fun K H v x => ∃ a vs, v = .ref a ∧ H a = some (.dK vs) ∧ DRel K H vs x.kvs, fun e ⟨a, vs, h1, h2, h3⟩ => ⟨a, vs, h1, e _ _ h2, drel_mo e h3⟩⟩
instance {α : Type} [Rep α] : Obj (Dc α) where
  ho := fun K H o x => ∃ vs, o = .dK vs ∧ DRel K H vs x.kvs
  mo := fun e ⟨vs, h1, h2⟩ => ⟨vs, h1, drel_mo e h2⟩
  rep := fun {K H p o x} e ⟨vs, h1, h2⟩ => by subst h1; exact ⟨p, vs, rfl, e, h2⟩
  nt := fun {K H o x} ⟨vs, h1, _⟩ => by subst h1; exact ⟨(fun _ z => nomatch z), (fun _ _ z => nomatch z)⟩
section
variable {K : PySem.W.Frag} {α : Type} [Rep α] {H : Hp}
theorem key_dec {q : Key × V} {p : Int × α} (h : q.1 = Sum.inl p.1) (k : Int) : decide (q.1 = Sum.inl k) = decide (p.1 = k) := by
  rw [h, key_ll, Bool.eq_iff_iff]
  simp
theorem drel_any (k : Int) : ∀ {vs : List (Key × V)} {d : List (Int × α)}, DRel K H vs d → (vs.any fun q => decide (q.1 = Sum.inl k)) = d.any fun p => decide (p.1 = k)
  | _, _, .nil => rfl
  | _, _, .cons h t => by
    rw [List.any_cons, List.any_cons, drel_any k t, key_dec h.1]
theorem drel_look (k : Int) : ∀ {vs : List (Key × V)} {d : List (Int × α)}, DRel K H vs d → (∀ x, dlook k d = some x → ∃ v, valV vs (Sum.inl k) = some v ∧ rp K H v x) ∧ (dlook k d = none → valV vs (Sum.inl k) = none)
  | _, _, .nil => ⟨(fun x e => nomatch e), (fun _ => rfl)⟩
  | _, _, .cons (a := q) (b := p) (l₁ := vs) (l₂ := d) h t => by
    by_cases e : p.1 = k
    · have e1 : q.1 = Sum.inl k := by rw [h.1, e]
      have e2 : dlook k (p :: d) = some p.2 := by unfold dlook; rw [List.find?_cons, decide_eq_true e] <;> rfl
      rw [e2, valV_pos e1]
      exact ⟨fun x z => ⟨q.2, rfl, by cases z; exact h.2⟩, fun z => nomatch z⟩
    · have e1 : ¬ q.1 = Sum.inl k := by rw [h.1]; exact fun z => e (Sum.inl.inj z)
      have e2 : dlook k (p :: d) = dlook k d := by unfold dlook; rw [List.find?_cons, decide_eq_false e]
      rw [e2, valV_neg e1]
      exact drel_look k t
theorem drel_map {k : Int} {v : V} {x : α} (r : rp K H v x) : ∀ {vs : List (Key × V)} {d : List (Int × α)}, DRel K H vs d → DRel K H (vs.map fun q => if q.1 = Sum.inl k then (q.1, v) else q) (d.map fun p => if p.1 = k then (p.1, x) else p)
  | _, _, .nil => .nil
  | _, _, .cons (a := q) (b := p) h t => by
    refine .cons ?_ (drel_map r t)
    by_cases e : p.1 = k
    · have e1 : q.1 = Sum.inl k := by rw [h.1, e]
      dsimp only
      rw [if_pos e, if_pos e1]
      exact ⟨h.1, r⟩
    · have e1 : ¬ q.1 = Sum.inl k := by rw [h.1]; exact fun z => e (Sum.inl.inj z)
      dsimp only
      rw [if_neg e, if_neg e1]
      exact h
theorem drel_put {k : Int} {v : V} {x : α} {vs : List (Key × V)} {d : List (Int × α)} (h : DRel K H vs d) (r : rp K H v x) : DRel K H (putK vs (Sum.inl k) v) (dput d k x) := by
  unfold putK dput
  rw [drel_any k h]
  split
  · exact drel_map r h
  · exact paired_app h (.cons ⟨rfl, r⟩ .nil)
theorem drel_merge : ∀ {ws : List (Key × V)} {e : List (Int × α)} {vs : List (Key × V)} {d : List (Int × α)}, DRel K H ws e → DRel K H vs d → DRel K H (mergeK vs ws) (dmerge d e)
  | _, _, _, _, .nil, h => h
  | _, _, _, _, .cons (a := q) (b := p) g t, h => by
    show DRel K H (mergeK (putK _ q.1 q.2) _) (dmerge (dput _ p.1 p.2) _)
    rw [g.1]
    exact drel_merge t (drel_put h g.2)
theorem drel_len {vs : List (Key × V)} {d : List (Int × α)} (h : DRel K H vs d) : vs.length = d.length := Paired.length h
theorem drel_keys : ∀ {vs : List (Key × V)} {d : List (Int × α)}, DRel K H vs d → vs.map (·.1) = (d.map (·.1)).map Sum.inl
  | _, _, .nil => rfl
  | _, _, .cons h t => by rw [List.map_cons, List.map_cons, List.map_cons, drel_keys t, h.1]
theorem drel_keyV : ∀ {vs : List (Key × V)} {d : List (Int × α)}, DRel K H vs d → (vs.map fun q => kV q.1) = (d.map (·.1)).map V.int
  | _, _, .nil => rfl
  | _, _, .cons h t => by rw [List.map_cons, List.map_cons, List.map_cons, drel_keyV t, h.1] <;> rfl
theorem pairs_split : ∀ {vs : List V} {xs : List (Int × α)}, Paired (rp K H) vs xs → ∃ ps ws, vs = ps.map V.ref ∧ Paired (fun p kv => SqT K H p [kV kv.1, kv.2]) ps ws ∧ DRel K H ws xs
  | _, _, .nil => ⟨[], [], rfl, .nil, .nil⟩
  | _, _, .cons (b := x) ⟨a, u, w, h1, h2, h3, h4⟩ t => by
    obtain ⟨ps, ws, e, p, d⟩ := pairs_split t
    cases h3
    subst h1 e
    exact ⟨a :: ps, (Sum.inl x.1, w) :: ws, rfl, .cons h2 p, .cons ⟨rfl, h4⟩ d⟩
end
/-- a new object of one's own -/
def ro (K : PySem.W.Frag) {T : Type} [Rep T] [Obj T] : Md T := fun _ H F' H' v r => ∃ p, v = .ref p ∧ H p = none ∧ Own K F' H' p r
instance {K : PySem.W.Frag} {T : Type} [Rep T] [Obj T] : MdMo (ro K (T := T)) := ⟨fun g ⟨p, h1, h2, h3⟩ => ⟨p, h1, ex_back g.hh h2, h3⟩⟩
section
variable {ρ α β γ δ S W τ T : Type} [Rep α] [Rep β] [Rep γ] [Rep δ] [Rep T] [Obj T] {ce : Ce} {E : XK} {K : PySem.W.Frag} {σ : L2.St} {F H F' H' F0 H0 : Hp} {te ta tb tc td ty tx : TE} {tt tu : TT} {md : Md ρ} {m : M ρ} {D : Ends} {ts tw : TS} {g : TG} {wi : TI} {P : τ → Prop}
/-- a new object may be leant on -/
theorem Ev.ov {m : M T} (h : Ev ce E te σ F H (ro K) m) : Ev ce E te σ F H (rv K) m := by
  intro F1 H1 g Q q
  refine h F1 H1 g Q ?_
  cases m with
  | ok x =>
    rintro F2 H2 v g2 ⟨p, rfl, h1, ⟨u, h3, h4⟩, h2⟩
    refine q (upd F2 p u) H2 (.ref p) ⟨g2.ff.tr (Ex.nw h2), ?_, g2.hh, fun b a1 a2 => ?_⟩ (Obj.rep upd_same (Obj.mo (Ex.nw h2) h4))
    · intro a w e
      by_cases z : a = p
      · subst z; rw [upd_same] at e; rw [h3]; exact e
      · rw [upd_ne z] at e; exact g2.fh a w e
    · have : b ≠ p := fun z => by subst z; exact a2 h1
      rw [upd_ne this]; exact g2.nw b a1 a2
  | er c => exact q
  | bad => exact q
/-- x = a new object of one's own -/
theorem s_asgO {i : Nat} {m1 : M T} {k : T → M τ} (G : Gr F0 H0 F H) (q : Wp ce E H0 (m1.bind k) P) (h : Ev ce E te σ F H (ro K) m1)
    (c : ∀ x F1 H1 p, Gr F H F1 H1 → H p = none → Own K F1 H1 p x → Wp ce E H0 (k x) P → D.nx (σ.set i (some (.ref p))) H1) : tAsg te (gName i) D σ H := by
  refine h F H (Gr.rf G.fh) _ ?_
  cases m1 with
  | ok x =>
    rintro F1 H1 v g ⟨p, rfl, h1, o⟩
    exact c x F1 H1 p g h1 o q
  | er cc => exact fun H' e => q H' (G.hh.tr e)
  | bad => exact q
theorem em_dnew : Ev ce E tDNewK σ F H (ro K) (.ok (⟨[]⟩ : Dc α)) := fun F1 H1 g1 Q q p np =>
  q F1 _ _ (Gr.own g1.fh np) ⟨p, rfl, np, ⟨_, upd_same, [], rfl, .nil⟩, ex_back g1.fh np⟩
theorem a_dictP {xs : List (Int × α)} : OpA ce E (RC K R0) (fun xs H Q => ∃ (a : Addr) (ps : List Addr) (kvs : List (Key × V)), xs = [.ref a] ∧ SqL K H a (ps.map V.ref) ∧ Paired (fun p kv => SqT K H p [kV kv.1, kv.2]) ps kvs ∧
    ∀ p, H p = none → Q (.ref p) (upd H p (.dK (mergeK [] kvs)))) (ro K) (xs, ()) (.ok (⟨dmerge [] xs⟩ : Dc α)) := fun F1 H1 vs e ⟨v, r, e1, ⟨a, us, h1, h2, h3⟩, e3⟩ Q q => by
  cases e3
  subst e1 h1
  obtain ⟨ps, ws, rfl, hp, hd⟩ := pairs_split h3
  refine ⟨a, ps, ws, rfl, SqL.of (e _ _ h2), Paired.mapP hp fun p kv h => ex_t e h, fun p np => ?_⟩
  exact q F1 _ _ (Gr.own e np) ⟨p, rfl, np, ⟨_, upd_same, _, rfl, drel_merge hd .nil⟩, ex_back e np⟩
theorem a_dictD {d : Dc α} : OpA ce E (RC K R0) (fun xs H Q => ∃ (a : Addr) (kvs : List (Key × V)), xs = [.ref a] ∧ Rd H a (.dK kvs) ∧ ∀ p, H p = none → Q (.ref p) (upd H p (.dK kvs))) (ro K) (d, ()) (.ok d) := fun F1 H1 vs e ⟨v, r, e1, ⟨a, us, h1, h2, h3⟩, e3⟩ Q q => by
  cases e3
  subst e1 h1
  exact ⟨a, us, rfl, .inl (e _ _ h2), fun p np => q F1 _ _ (Gr.own e np) ⟨p, rfl, np, ⟨_, upd_same, _, rfl, h3⟩, ex_back e np⟩⟩
theorem a_listD {d : Dc α} : OpA ce E (RC K R0) (fun xs H Q => ∃ (a : Addr) (kvs : List (Key × V)), xs = [.ref a] ∧ Rd H a (.dK kvs) ∧ ∀ p, H p = none → Q (.ref p) (upd H p (.lst (kvs.map fun kv => kV kv.1)))) (rn K) (d, ()) (.ok (d.kvs.map (·.1))) := fun F1 H1 vs e ⟨v, r, e1, ⟨a, us, h1, h2, h3⟩, e3⟩ Q q => by
  cases e3
  subst e1 h1
  refine ⟨a, us, rfl, .inl (e _ _ h2), fun p np => ?_⟩
  rw [drel_keyV h3]
  exact q F1 _ _ (Gr.own e np) ⟨p, _, rfl, np, ex_back e np, upd_same, rep_int _⟩
noncomputable def sortDM {α : Type} (d : Dc α) : M (List Int) := chk (d.kvs.length < 64) (sortI (d.kvs.map (·.1)))
theorem a_sortedD {d : Dc α} : OpA ce E (RC K R0) (fun xs H Q => ∃ (a : Addr) (kvs : List (Key × V)) (ks : List Int), xs = [.ref a] ∧ Rd H a (.dK kvs) ∧ kvs.map (·.1) = ks.map Sum.inl ∧ ks.length < 64 ∧
    ∀ (ys : List Int) (p : Addr), ys.Perm ks → ys.Pairwise (· ≤ ·) → H p = none → Q (.ref p) (upd H p (.lst (ys.map V.int)))) (rn K) (d, ()) (sortDM d) := fun F1 H1 vs e ⟨v, r, e1, ⟨a, us, h1, h2, h3⟩, e3⟩ Q q => by
  cases e3
  subst e1 h1
  unfold sortDM chk at q
  split at q
  · rename_i hl
    refine ⟨a, us, d.kvs.map (·.1), rfl, .inl (e _ _ h2), drel_keys h3, by rw [List.length_map]; exact hl, fun ys p hp hs np => ?_⟩
    have : ys = sortI (d.kvs.map (·.1)) := sorted_same (hp.trans (sortI_perm _).symm) hs (sortI_sorted _)
    subst this
    exact q F1 _ _ (Gr.own e np) ⟨p, _, rfl, np, ex_back e np, upd_same, rep_int _⟩
  · exact q.elim
theorem a_lenD {d : Dc α} : OpA ce E (RC K R0) (fun xs H Q => ∃ a kvs, xs = [V.ref a] ∧ H a = some (.dK kvs) ∧ Q (.int kvs.length) H) (rv K) (d, ()) (.ok (d.kvs.length : Int)) := fun F1 H1 vs e ⟨v, r, e1, ⟨a, us, h1, h2, h3⟩, e3⟩ Q q => by
  cases e3
  subst e1 h1
  refine ⟨a, us, rfl, e _ _ h2, ?_⟩
  rw [drel_len h3]
  exact q F1 H1 _ (Gr.rf e) rfl
def dgetM {α : Type} (d : Dc α) (k : Int) : M α := match dlook k d.kvs with
  | some x => .ok x
  | none => .bad
/-- d[k] -/
theorem em_dget {m1 : M (Dc α)} {m2 : M Int} (ha : Ev ce E td σ F H (rv K) m1) (hb : Ev ce E ty σ F H (rv K) m2) : Ev ce E (tDGet td ty) σ F H (rv K) (m1.bind fun d => m2.bind fun k => dgetM d k) := fun F1 H1 g1 Q q => by
  refine ha F1 H1 g1 _ ?_
  cases m1 with
  | ok d =>
    rintro F2 H2 vx g2 ⟨a, vs, e1, e2, e3⟩
    refine hb F2 H2 (g1.tr g2) _ ?_
    cases m2 with
    | ok k =>
      rintro F3 H3 vk g3 rfl
      have q' : Post ce (rv K) (dgetM d k) F1 H1 Q E := q
      unfold dgetM at q'
      split at q'
      · rename_i x hx
        obtain ⟨v, hv, r⟩ := (drel_look k (drel_mo g3.ff e3)).1 x hx
        refine ⟨a, v, e1, ?_, q' F3 H3 v (g2.tr g3) r⟩
        have := DGet.k (k := Sum.inl k) (g3.hh _ _ (g2.fh _ _ e2))
        rw [hv] at this
        exact this
      · exact q'.elim
    | er c => exact fun H' e => q H' (g2.hh.tr e)
    | bad => exact q
  | er c => exact q
  | bad => exact q
/-- d.get(k, x) -/
theorem em_dget2 {m1 : M (Dc α)} {m2 : M Int} {m3 : M α} (ha : Ev ce E td σ F H (rv K) m1) (hb : Ev ce E ty σ F H (rv K) m2) (hc : Ev ce E tx σ F H (rv K) m3) :
    Ev ce E (tDGet2 td ty tx) σ F H (rv K) (m1.bind fun d => m2.bind fun k => m3.bind fun x => .ok ((dlook k d.kvs).getD x)) := fun F1 H1 g1 Q q => by
  refine ha F1 H1 g1 _ ?_
  cases m1 with
  | ok d =>
    rintro F2 H2 vx g2 ⟨a, vs, e1, e2, e3⟩
    refine ⟨a, e1, .inl ⟨vs, .inl (g2.fh _ _ e2)⟩, hb F2 H2 (g1.tr g2) _ ?_⟩
    cases m2 with
    | ok k =>
      rintro F3 H3 vk g3 rfl
      refine hc F3 H3 ((g1.tr g2).tr g3) _ ?_
      cases m3 with
      | ok x =>
        intro F4 H4 v4 g4 r4
        refine ⟨_, DGet.k (k := Sum.inl k) (g4.hh _ _ (g3.hh _ _ (g2.fh _ _ e2))), ?_⟩
        have hl := drel_look k (drel_mo (g3.ff.tr g4.ff) e3)
        cases hd : dlook k d.kvs with
        | some y =>
          obtain ⟨v, hv, r⟩ := hl.1 y hd
          rw [hv]
          refine q F4 H4 v ((g2.tr g3).tr g4) ?_
          rw [hd]
          exact r
        | none =>
          rw [hl.2 hd]
          refine q F4 H4 v4 ((g2.tr g3).tr g4) ?_
          rw [hd]
          exact r4
      | er c => exact fun H' e => q H' ((g2.tr g3).hh.tr e)
      | bad => exact q
    | er c => exact fun H' e => q H' (g2.hh.tr e)
    | bad => exact q
  | er c => exact q
  | bad => exact q
/-- k in d, k not in d -/
theorem em_din {m1 : M (Dc α)} {m2 : M Int} (hb : Ev ce E ty σ F H (rv K) m2) (ha : Ev ce E td σ F H (rv K) m1) : Ev ce E (tDIn ty td) σ F H (rv K) (m2.bind fun k => m1.bind fun d => .ok (dlook k d.kvs).isSome) := fun F1 H1 g1 Q q => by
  refine hb F1 H1 g1 _ ?_
  cases m2 with
  | ok k =>
    rintro F2 H2 vk g2 rfl
    refine ha F2 H2 (g1.tr g2) _ ?_
    cases m1 with
    | ok d =>
      rintro F3 H3 vx g3 ⟨a, vs, e1, e2, e3⟩
      refine ⟨a, _, e1, DGet.k (k := Sum.inl k) (g3.fh _ _ e2), ?_⟩
      have hl := drel_look k e3
      refine q F3 H3 _ (g2.tr g3) ?_
      show V.bl _ = V.bl _
      cases hd : dlook k d.kvs with
      | some y =>
        obtain ⟨v, hv, r⟩ := hl.1 y hd
        rw [hv] <;> rfl
      | none => rw [hl.2 hd] <;> rfl
    | er c => exact fun H' e => q H' (g2.hh.tr e)
    | bad => exact q
  | er c => exact q
  | bad => exact q
theorem em_dnotin {m1 : M (Dc α)} {m2 : M Int} (hb : Ev ce E ty σ F H (rv K) m2) (ha : Ev ce E td σ F H (rv K) m1) : Ev ce E (tDNotIn ty td) σ F H (rv K) (m2.bind fun k => m1.bind fun d => .ok (!(dlook k d.kvs).isSome)) := fun F1 H1 g1 Q q => by
  refine hb F1 H1 g1 _ ?_
  cases m2 with
  | ok k =>
    rintro F2 H2 vk g2 rfl
    refine ha F2 H2 (g1.tr g2) _ ?_
    cases m1 with
    | ok d =>
      rintro F3 H3 vx g3 ⟨a, vs, e1, e2, e3⟩
      refine ⟨a, _, e1, DGet.k (k := Sum.inl k) (g3.fh _ _ e2), ?_⟩
      have hl := drel_look k e3
      refine q F3 H3 _ (g2.tr g3) ?_
      show V.bl _ = V.bl _
      cases hd : dlook k d.kvs with
      | some y =>
        obtain ⟨v, hv, r⟩ := hl.1 y hd
        rw [hv] <;> rfl
      | none => rw [hl.2 hd] <;> rfl
    | er c => exact fun H' e => q H' (g2.hh.tr e)
    | bad => exact q
  | er c => exact q
  | bad => exact q
noncomputable def dputM {α : Type} (d : Dc α) (k : Int) (x : α) : M (Dc α) := chk (d.kvs.length < 16000000) ⟨dput d.kvs k x⟩
/-- d[k] = e: the value first, then the key; both may read what is one's own -/
theorem s_dput (A : List Addr) {i : Nat} {p : Addr} {d : Dc α} {m1 : M α} {m2 : M Int} {k : Dc α → M τ} [Flat α] (hp : σ[i]? = some (some (.ref p))) (o : Own K F H p d) (n0 : H0 p = none) (G : Gr F0 H0 F H)
    (q : Wp ce E H0 (m1.bind fun x => m2.bind fun y => (dputM d y x).bind k) P) (hF : ∀ p ∈ A, F p = none) (hA : ∀ p ∈ A, ∃ o, H p = some o ∧ NoTup o) (h : Ev ce E te σ (fz F H A) H (rv K) m1) (hk : Ev ce E ty σ (fz F H A) H (rv K) m2)
    (c : ∀ d' F1 H1, Ex F F1 → Gr F0 H0 F1 H1 → Own K F1 H1 p d' → (∀ (T : Type) [Rep T] [Obj T] (q : Addr) (z : T), q ≠ p → Own K F H q z → Own K F1 H1 q z) → Wp ce E H0 (k d') P → D.nx σ H1) :
    sDPut (tVar i) ty te D σ H := by
  obtain ⟨⟨u, h1, vs, h2, h3⟩, hf⟩ := o
  subst h2
  have hA' : ∀ p ∈ A, H p ≠ none := fun p m => by obtain ⟨o, e, _⟩ := hA p m; rw [e]; exact fun z => nomatch z
  refine h _ H (Gr.rf (fz_h G.fh)) _ ?_
  cases m1 with
  | ok x =>
    intro F1 H1 v g0 r0
    refine ⟨.ref p, hp, hk F1 H1 g0 _ ?_⟩
    have q2 : Wp ce E H0 (m2.bind fun y => (dputM d y x).bind k) P := q
    cases m2 with
    | ok y =>
      rintro F2 H2 vy g1 rfl
      have gg := g0.tr g1
      have g := gr_th hF hA' G.fh gg
      have r : rp K (th F2 A) v x := Flat.fl (th_of hA gg) (Rep.mo g1.ff r0)
      have w' : Wp ce E H0 ((dputM d y x).bind k) P := q2
      unfold dputM chk at w'
      split at w'
      · rename_i hl
        refine ⟨p, _, rfl, DPut.k (k := Sum.inl y) (g.hh _ _ h1) ?_, ?_⟩
        · rw [drel_len h3, sizeLine_eq]; omega
        · have hf1 : th F2 A p = none := g.nw p hf (by rw [h1]; exact fun z => nomatch z)
          exact c _ _ _ g.ff (Gr.mut (G.tr g) n0 hf1) ⟨⟨_, upd_same, _, rfl, drel_put (drel_mo g.ff h3) r⟩, hf1⟩ (fun T _ _ q z hq o => (o.mo g).upd hq) w'
      · exact w'.elim
    | er cc => exact fun H' e => q2 H' ((G.hh.tr g0.hh).tr e)
    | bad => exact q2
  | er cc => exact fun H' e => q H' (G.hh.tr e)
  | bad => exact q
theorem q_asgO {t2 : TS} {i : Nat} {m1 : M T} {k : T → M τ} (G : Gr F0 H0 F H) (q : Wp ce E H0 (m1.bind k) P) (h : Ev ce E te σ F H (ro K) m1)
    (c : ∀ x F1 H1 p, Gr F H F1 H1 → H p = none → Own K F1 H1 p x → Wp ce E H0 (k x) P → t2 D (σ.set i (some (.ref p))) H1) : tSeq (tAsg te (gName i)) t2 D σ H := s_asgO (D := { D with nx := t2 D }) G q h c
theorem q_dput {t2 : TS} (A : List Addr) {i : Nat} {p : Addr} {d : Dc α} {m1 : M α} {m2 : M Int} {k : Dc α → M τ} [Flat α] (hp : σ[i]? = some (some (.ref p))) (o : Own K F H p d) (n0 : H0 p = none) (G : Gr F0 H0 F H)
    (q : Wp ce E H0 (m1.bind fun x => m2.bind fun y => (dputM d y x).bind k) P) (hF : ∀ p ∈ A, F p = none) (hA : ∀ p ∈ A, ∃ o, H p = some o ∧ NoTup o) (h : Ev ce E te σ (fz F H A) H (rv K) m1) (hk : Ev ce E ty σ (fz F H A) H (rv K) m2)
    (c : ∀ d' F1 H1, Ex F F1 → Gr F0 H0 F1 H1 → Own K F1 H1 p d' → (∀ (T : Type) [Rep T] [Obj T] (q : Addr) (z : T), q ≠ p → Own K F H q z → Own K F1 H1 q z) → Wp ce E H0 (k d') P → t2 D σ H1) :
    tSeq (sDPut (tVar i) ty te) t2 D σ H := s_dput (D := { D with nx := t2 D }) A hp o n0 G q hF hA h hk c
end
end Mw

set_option Elab.async false
set_option linter.all false
set_option maxRecDepth 100000
set_option maxHeartbeats 2000000
/-! Mw, part I: enumerate, zip, reversed; try and what a suite asks of the error. -/
namespace Mw
open PySem L2
open Rep (rp)
abbrev ixS (x : Scr) (i : Int) : M Int := ixM x.l i
def enumL {α : Type} (xs : List α) : List (Int × α) := xs.zipIdx.map fun p => ((p.2 : Int), p.1)
theorem enumL_get {α : Type} (xs : List α) (i : Nat) (p : Int × α) (h : (enumL xs)[i]? = some p) : p.1 = (i : Int) ∧ xs[i]? = some p.2 := by
  unfold enumL at h
  rw [List.getElem?_map, List.getElem?_zipIdx] at h
  cases e : xs[i]? with
  | none => rw [e] at h; cases h
  | some x =>
    rw [e] at h
    cases h
    exact ⟨by simp, rfl⟩
theorem enumL_len {α : Type} (xs : List α) : (enumL xs).length = xs.length := by unfold enumL; simp
theorem zip_get {α β : Type} (xs : List α) (ys : List β) (i : Nat) (p : α × β) (h : (xs.zip ys)[i]? = some p) : xs[i]? = some p.1 ∧ ys[i]? = some p.2 := by
  rw [List.getElem?_zip_eq_some] at h
  exact h
section
variable {ρ α β γ δ S τ : Type} [Rep α] [Rep β] [Rep γ] [Rep δ] {ce : Ce} {E : XK} {K : PySem.W.Frag} {σ : L2.St} {F H F' H' F0 H0 : Hp} {te ta tb tc td : TE} {tt tu : TT} {md : Md ρ} {m : M ρ} {D : Ends} {ts tw : TS} {g : TG} {wi : TI} {P : τ → Prop}
theorem ei_enum {m : M (List α)} (h : Ev ce E te σ F H (rv K) m) : EvI ce E K (iEnum K (tCons te tNil)) σ F H (m.bind fun x => .ok (enumL x)) := fun F1 H1 g1 R q => by
  refine h F1 H1 g1 _ ?_
  cases m with
  | ok xs =>
    rintro F2 H2 v g2 ⟨a, vs, rfl, h2, h3⟩
    refine ⟨a, vs, rfl, SqL.of (g2.fh _ _ h2), q F2 H2 _ g2 fun i H e => ?_⟩
    have hl := Paired.length h3
    refine ⟨fun x hx => ?_, fun hi => ⟨vs, SqL.of (e _ _ h2), by rw [enumL_len] at hi; omega⟩⟩
    obtain ⟨e1, e2⟩ := enumL_get xs i x hx
    obtain ⟨w, hw, rw'⟩ := paired_get h3 e2
    refine ⟨⟨vs, w, SqL.of (e _ _ h2), hw⟩, fun v H' ⟨T, y, ev, nT, eH, hy⟩ F1' f1 f2 => ?_⟩
    have : some w = some y := hw.symm.trans (hy vs (SqL.of (e _ _ h2)))
    cases this
    subst ev eH
    refine ⟨_, Gr.new f2 nT, T, .int (i : Nat), w, rfl, SqT.of upd_same, ?_, Rep.mo (f1.tr (Ex.nw (ex_back f2 nT))) rw'⟩
    show V.int _ = V.int _
    rw [e1]
  | er c => exact q
  | bad => exact q
theorem ei_zip {m : M (List α)} {m2 : M (List β)} (h : Ev ce E ta σ F H (rv K) m) (h' : Ev ce E tb σ F H (rv K) m2) : EvI ce E K (iZip K (tCons ta (tCons tb tNil))) σ F H (m.bind fun x => m2.bind fun y => .ok (x.zip y)) := fun F1 H1 g1 R q => by
  refine h F1 H1 g1 _ ?_
  cases m with
  | ok xs =>
    rintro F2 H2 v g2 ⟨a, vs, rfl, h2, h3⟩
    refine h' F2 H2 (g1.tr g2) _ ?_
    cases m2 with
    | ok ys =>
      rintro F3 H3 v g3 ⟨b, ws, rfl, k2, k3⟩
      have h2' := g3.ff _ _ h2
      refine ⟨a, b, vs, ws, rfl, SqL.of (g3.fh _ _ h2'), SqL.of (g3.fh _ _ k2), q F3 H3 _ (g2.tr g3) fun i H e => ?_⟩
      have hl := Paired.length h3
      have hl2 := Paired.length k3
      refine ⟨fun x hx => ?_, fun hi => ⟨vs, ws, SqL.of (e _ _ h2'), SqL.of (e _ _ k2), by rw [List.length_zip] at hi; omega⟩⟩
      obtain ⟨e1, e2⟩ := zip_get xs ys i x hx
      obtain ⟨w1, hw1, r1⟩ := paired_get h3 e1
      obtain ⟨w2, hw2, r2⟩ := paired_get k3 e2
      refine ⟨⟨vs, ws, w1, w2, SqL.of (e _ _ h2'), SqL.of (e _ _ k2), hw1, hw2⟩, fun v H' ⟨T, y1, y2, ev, nT, eH, hy1, hy2⟩ F1' f1 f2 => ?_⟩
      have z1 : some w1 = some y1 := hw1.symm.trans (hy1 vs (SqL.of (e _ _ h2')))
      have z2 : some w2 = some y2 := hw2.symm.trans (hy2 ws (SqL.of (e _ _ k2)))
      cases z1
      cases z2
      subst ev eH
      have ee := Ex.nw (o := .tup [w1, w2]) (ex_back f2 nT)
      exact ⟨_, Gr.new f2 nT, T, w1, w2, rfl, SqT.of upd_same, Rep.mo ((g3.ff.tr f1).tr ee) r1, Rep.mo (f1.tr ee) r2⟩
    | er c => exact fun H' e => q H' (g2.hh.tr e)
    | bad => exact q
  | er c => exact q
  | bad => exact q
theorem ei_rev {m : M (List α)} (h : Ev ce E te σ F H (rv K) m) : EvI ce E K (iRev K (tCons te tNil)) σ F H (m.bind fun x => .ok x.reverse) := fun F1 H1 g1 R q => by
  refine h F1 H1 g1 _ ?_
  cases m with
  | ok xs =>
    rintro F2 H2 v g2 ⟨a, vs, rfl, h2, h3⟩
    refine ⟨a, vs, rfl, SqL.of (g2.fh _ _ h2), q F2 H2 _ g2 fun i H e => ?_⟩
    have hl := Paired.length h3
    refine ⟨fun x hx => ?_, fun hi => by rw [List.length_reverse] at hi; show vs.length ≤ i; omega⟩
    have hi : i < xs.length := by
      have := (List.getElem?_eq_some_iff.mp hx).1
      rw [List.length_reverse] at this
      exact this
    rw [List.getElem?_reverse hi] at hx
    obtain ⟨w, hw, rw'⟩ := paired_get h3 hx
    have hw' : vs[vs.length - 1 - i]? = some w := by rw [hl]; exact hw
    refine ⟨⟨by omega, vs, w, SqL.of (e _ _ h2), hw'⟩, fun v H' ⟨eH, hy⟩ F1' f1 f2 => ?_⟩
    have : some w = some v := hw'.symm.trans (hy vs (SqL.of (e _ _ h2)))
    cases this
    subst eH
    exact ⟨_, Gr.rf f2, Rep.mo f1 rw'⟩
  | er c => exact q
  | bad => exact q

/-! ### try -/
def catchM {α τ : Type} (m : M α) (h : Err → M τ) (k : α → M τ) : M τ := match m with
  | .ok x => k x
  | .er c => h c
  | .bad => .bad
@[simp] theorem catch_ok {α τ : Type} (x : α) (h : Err → M τ) (k : α → M τ) : catchM (.ok x) h k = k x := rfl
@[simp] theorem catch_er {α τ : Type} (c : Err) (h : Err → M τ) (k : α → M τ) : catchM (.er c) h k = h c := rfl
theorem s_try {W : WX} {tb : WX → TS} {m : M α} {h : Err → M τ} {k : α → M τ} (q : Wp ce E H0 (catchM m h k) P) (hh : ∀ c H', Ex H H' → Wp ce E H0 (h c) P → W (.ref (ce c.name)) none σ H')
    (hb : ∀ P' : α → Prop, (∀ x, P' x → Wp ce E H0 (k x) P) → Wp ce (WE W σ) H m P' → tb W D σ H) : tb W D σ H := by
  refine hb (fun x => Wp ce E H0 (k x) P) (fun x p => p) ?_
  cases m with
  | ok x => exact q
  | er c => exact fun H' e => hh c H' e q
  | bad => exact q
/-- a call within a try's body -/
theorem e_callT [MdMo md] {W : WX} {ta : TA} {x : α} {R : Hp → List V → α → Prop} {f : α → M ρ} (ha : EvAM ce (WE W σ) ta σ F H (.ok x) R) : Ev ce (WE W σ) (tCallS (SpF ce R md f) (WE W) ta) σ F H md (f x) := fun F1 H1 g1 Q q =>
  ha F1 H1 g1 _ fun F2 H2 vs g2 r2 => ⟨F2, x, g2.fh, r2, Post.mo g2 q⟩
theorem em_callT [MdMo md] {W : WX} {ta : TA} {m1 : M α} {R : Hp → List V → α → Prop} {f : α → M ρ} (ha : EvAM ce (WE W σ) ta σ F H m1 R) : Ev ce (WE W σ) (tCallS (SpF ce R md f) (WE W) ta) σ F H md (m1.bind fun x => f x) := fun F1 H1 g1 Q q => by
  refine ha F1 H1 g1 _ ?_
  cases m1 with
  | ok x => exact fun F2 H2 vs g2 r2 => ⟨F2, x, g2.fh, r2, Post.mo g2 q⟩
  | er c => exact q
  | bad => exact q
/-- the suite's reading, for an error of a class C that isinstance may be asked of -/
def tsOf (K : PySem.W.Frag) (t1 : Addr → Addr → TS) : Addr → Value → Option Addr → TS := fun a cls d D σ H => ∃ C, cls = .ref C ∧ d = none ∧ ExcC K C ∧ t1 C a D σ H
theorem suite_by {X : Cx} {suite : List Stmt} {t1 : Addr → Addr → TS} (h : ∀ (C a : Addr) (oe : PySem.Obj) (pn : List (Addr × PySem.Obj)), ExcC X.K C → Zc (.ref C) none oe → (∃ vs, oe.data = .fields vs) → PSs (X.suite a ((a, oe) :: pn)) suite (t1 C a))
    (a : Addr) (oe : PySem.Obj) (cls : Value) (d : Option Addr) (pn : List (Addr × PySem.Obj)) (hz : Zc cls d oe) (hf : ∃ vs, oe.data = .fields vs) : PSs (X.suite a ((a, oe) :: pn)) suite (tsOf X.K t1 a cls d) := by
  refine ⟨fun pins s σ H D I hh => ?_⟩
  obtain ⟨C, rfl, rfl, ex, hh⟩ := hh
  exact (h C a oe pn ex hz hf).run pins s σ H D I hh
theorem e_isE {i : Nat} {C a : Addr} {c : V} {cv : Value} {b : Bool} (hs : σ[i]? = some (some (.ref a))) (hc : ∀ u, RelV c u → u = cv) (hk : PySem.W.kitOne K (.ref C) cv = some b) : Ev ce E (tCB (rIsE K C a) (tCons (tVar i) (tCons (tC c) tNil))) σ F H (rv K) (.ok b) := fun F1 H1 g1 Q q =>
  ⟨.ref a, hs, c, cv, b, rfl, hc, hk, q F1 H1 _ (Gr.rf g1.fh) rfl⟩
/-- isinstance(e, (c1, c2, ..)) -/
def rIsET (K : PySem.W.Frag) (D a : Addr) : List V → Hp → VK → Prop := fun xs H Q => ∃ (tp : Addr) (cs : List V) (us : List Value) (b : Bool), xs = [.ref a, .ref tp] ∧ H tp = some (.tup cs) ∧ Paired ClsV cs us ∧ PySem.W.kitAny K (.ref D) us = some b ∧ Q (.bl b) H
theorem call_isET {X : Cx} {a D : Addr} {oe : PySem.Obj} {pn : List (Addr × PySem.Obj)} (C : ExcC X.K D) (hz : Zc (.ref D) none oe) (hf : ∃ vs, oe.data = .fields vs) : CallR (X.suite a ((a, oe) :: pn)) (.builtin "isinstance") (rIsET X.K D a) := by
  intro pins s σ H xs us Q I r h
  obtain ⟨tp, cs, ws, b, rfl, hT, k, e, q⟩ := h
  obtain ⟨u1, u2, rfl, r1, r2⟩ := vals2 r
  cases (show u1 = Value.ref a from r1)
  cases (show u2 = Value.ref tp from r2)
  obtain ⟨hget, _⟩ := I.pin (a, oe) (List.mem_append.mpr (.inl List.mem_cons_self))
  obtain ⟨vs, hv⟩ := hf
  have J : PySem.W.InstAt s.heap a oe D none := by
    obtain ⟨oc, od, oda, osl⟩ := oe
    obtain ⟨h1, h2⟩ := hz
    dsimp only at h1 h2 hv
    subst h1 h2 hv
    exact ⟨hget, rfl, rfl, trivial⟩
  obtain ⟨_, its, rv, o, h1, h2, n, h3⟩ := (show ObjOk X.prog X.w H s.heap tp (.tup cs) from I.hok tp _ hT)
  have e3 := ClsV.all k rv
  subst e3
  obtain ⟨oc, od, dt, sl⟩ := o
  simp only at h2 h3
  subst h2 h3
  exact PySem.W.kia_tup (PySem.W.handS_kitx_exc C.hg C.hk C.hs C.hd C.ha C.hn C.ht C.hm) I.kIn J h1 e (fun z => nomatch z) fun tk => ⟨.bl b, H, I.kept (t' := tk) fun _ _ z => z, rfl, q⟩
theorem e_isE2 {i : Nat} {C a : Addr} {c c' : V} {cv cv' : Value} {b : Bool} (hs : σ[i]? = some (some (.ref a))) (h1 : ClsV c cv) (h2 : ClsV c' cv') (hk : PySem.W.kitAny K (.ref C) [cv, cv'] = some b) : Ev ce E (tCB (rIsET K C a) (tCons (tVar i) (tCons (tTup (tCons (tC c) (tCons (tC c') tNil))) tNil))) σ F H (rv K) (.ok b) := fun F1 H1 g1 Q q =>
  ⟨.ref a, hs, by show 2 ≤ sizeLine; decide, fun tp np => ⟨tp, [c, c'], [cv, cv'], b, rfl, upd_same, .cons h1 (.cons h2 .nil), hk, q _ _ _ (Gr.new g1.fh np) rfl⟩⟩
theorem e_isE3 {i : Nat} {C a : Addr} {c c' c2 : V} {cv cv' cv2 : Value} {b : Bool} (hs : σ[i]? = some (some (.ref a))) (h1 : ClsV c cv) (h2 : ClsV c' cv') (h3 : ClsV c2 cv2) (hk : PySem.W.kitAny K (.ref C) [cv, cv', cv2] = some b) : Ev ce E (tCB (rIsET K C a) (tCons (tVar i) (tCons (tTup (tCons (tC c) (tCons (tC c') (tCons (tC c2) tNil)))) tNil))) σ F H (rv K) (.ok b) := fun F1 H1 g1 Q q =>
  ⟨.ref a, hs, by show 3 ≤ sizeLine; decide, fun tp np => ⟨tp, [c, c', c2], [cv, cv', cv2], b, rfl, upd_same, .cons h1 (.cons h2 (.cons h3 .nil)), hk, q _ _ _ (Gr.new g1.fh np) rfl⟩⟩
end
/-- a def that may raise, where what it computes raises nothing -/
theorem fn_quiet {P : Program} {w : World} {K : PySem.W.Frag} {mg : Str → Option Value} {base : Heap} {k : Nat} {f : Addr} {fd : FuncData} {ps : List Str} {sp sp' : Sp} (F : FnOk P w K mg base (L2.CX P w) k f fd ps sp)
    (h : ∀ vs H Q E, sp' vs H Q E → sp vs H Q E0) : FnOk P w K mg base CX0 k f fd ps sp' :=
  ⟨fun vs H Q E q => F.len vs H Q E0 (h _ _ _ _ q), fun A outer s H args us vs Q E hr he hb hv hs => codeAny_mono (F.run A outer s H args us vs Q E0 hr he hb hv (h _ _ _ _ hs)) fun r s' x => by
    cases r with
    | error e =>
      obtain ⟨_, _, _, _, _, _, _, _, _, _, _, _, z⟩ := x
      exact z.elim
    | ok v => cases v <;> exact x⟩
end Mw

set_option Elab.async false
set_option linter.all false
set_option maxRecDepth 100000
set_option maxHeartbeats 2000000
/-! Mw, part J: slices with a step. -/
namespace L2
open PySem PySem.Spec PyProof.Rows
/-- the items of xs[lo:hi:st] -/
def pickV {α : Type} (xs : List α) (lo hi : Option Int) (st : Int) : List α :=
  (sliceRange (PySem.sliceBounds lo hi (some st) xs.length).1 (PySem.sliceBounds lo hi (some st) xs.length).2.1 (PySem.sliceBounds lo hi (some st) xs.length).2.2).filterMap (xs[·]?)
def rSlP (K : PySem.W.Frag) (st : Int) : V → Option Int → Option Int → Hp → VK → Prop := fun x lo hi H Q => ∃ a xs, x = .ref a ∧ SqL K H a xs ∧ ∀ p, H p = none → Q (.ref p) (upd H p (.lst (pickV xs lo hi st)))
theorem vals_pick {xs : List V} {its : List Value} (r : Vals xs its) : ∀ l : List Nat, Vals (l.filterMap (xs[·]?)) (l.filterMap (its[·]?))
  | [] => .nil
  | i :: l => by
    rw [List.filterMap_cons, List.filterMap_cons]
    have h : (xs[i]? = none ∧ its[i]? = none) ∨ ∃ x v, xs[i]? = some x ∧ its[i]? = some v ∧ RelV x v := by
      induction r generalizing i with
      | nil => exact .inl ⟨rfl, rfl⟩
      | cons h t ih =>
        cases i with
        | zero => exact .inr ⟨_, _, rfl, rfl, h⟩
        | succ j => exact ih j
    rcases h with ⟨h1, h2⟩ | ⟨x, v, h1, h2, h3⟩
    · rw [h1, h2]; exact vals_pick r l
    · rw [h1, h2]; exact .cons h3 (vals_pick r l)
section
variable {X : Cx} {e : Expr} {lo hi : Option Expr} {te : TE} {tl th : TO}
theorem pe_sliceS {st : Int} {k : Nat} {p1 p3 pos : Pos} (h0 : st ≠ 0) (he : PE X e te) (hl : PO X lo tl) (hu : PO X hi th) : PE X (.Subscript e (.Slice lo hi (some (.Constant (.int st) k p1)) p3) pos) (tSl (rSlP X.K st) te tl th) := by
  refine ⟨fun pins s σ H Q I h => ?_⟩
  refine Subscript_ (thn (he.run pins s σ H _ I h) fun v s1 ⟨x, H1, I1, r1, q1⟩ => ?_)
  have hst : PO X (some (.Constant (.int st) k p1)) (tPart (tC (.int st))) := po_some pe_int
  refine wpAny_Slice (thn (hl.run pins s1 σ H1 _ I1 q1) fun vl s2 ⟨l, H2, I2, pl, q2⟩ => thn (hu.run pins s2 σ H2 _ I2 q2) fun vu s3 ⟨u, H3, I3, pu, q3⟩ => ?_)
  obtain ⟨a, xs, ex, hx, q⟩ := q3
  subst ex
  cases r1
  refine thn (hst.run pins s3 σ H3 (fun o H4 => o = some st ∧ H4 = H3) I3 ⟨st, rfl, rfl, rfl⟩) fun vs s4 ⟨o, H4, I4, ps, eo, e4⟩ => ?_
  subst eo e4
  have I5 : Inv X pins σ H4 { s4 with heap := s4.heap.push { cls := .type "slice", data := .fields #[vl, vu, vs] } } := I4.kept (t' := s4.toks) fun b ob q => Heap.get?_push_of_some _ q
  obtain ⟨its, r, ht, hz⟩ := I5.list hx
  have hlen := r.length
  show wpAny (model X.prog X.w) X.A (subscriptTail e (.Slice lo hi (some (.Constant (.int st) k p1)) p3) (.ref a) (.ref s4.heap.objs.size)) (EP X pins σ Q) X.xe { s4 with heap := s4.heap.push { cls := .type "slice", data := .fields #[vl, vu, vs] } }
  refine tail_any (ops := [.ref a, .ref s4.heap.objs.size]) ht.isList.typeIs (PySem.slot_list_getitem.lookup) ?_ (by with_unfolding_all rfl)
  refine wpAny_getItem_list_slice ht.isList (Heap.IsSliceOf.new _ vl vu vs) pl pu ps (fun z => h0 (Option.some.inj z)) ?_ (by rw [List.size_toArray]; omega)
  have e1 : slicePick its.toArray l u (some st) = (pickV its l u st).toArray := by
    unfold slicePick pickV
    simp
  rw [e1]
  have r2 : Vals (pickV xs l u st) (pickV its l u st) := by
    unfold pickV
    rw [hlen]
    exact vals_pick r _
  have hle : (pickV xs l u st).length ≤ sizeLine := by
    have := slicePick_size_le its.toArray l u (some st)
    rw [e1, List.size_toArray, List.size_toArray, ← r2.length] at this
    omega
  exact ⟨.ref _, _, I5.laid (t' := s4.toks) (o := .lst (pickV xs l u st)) (fun b ob q => Heap.get?_push_of_some _ q) (Nat.le_refl _) ⟨hle, _, 0, r2, Heap.get?_push_size _ rfl⟩, rfl, q _ (I5.hok.fresh (Nat.le_refl _))⟩
end
end L2
namespace Mw
open PySem L2
open Rep (rp)
theorem paired_pick {α β : Type} {F : α → β → Prop} {vs : List α} {xs : List β} (r : Paired F vs xs) (lo hi : Option Int) (st : Int) : Paired F (pickV vs lo hi st) (pickV xs lo hi st) := by
  unfold pickV
  rw [Paired.length r]
  have go : ∀ l : List Nat, Paired F (l.filterMap (vs[·]?)) (l.filterMap (xs[·]?)) := by
    intro l
    induction l with
    | nil => exact .nil
    | cons i l ih =>
      rw [List.filterMap_cons, List.filterMap_cons]
      cases e : xs[i]? with
      | some x =>
        obtain ⟨w, hw, rw'⟩ := paired_get r e
        rw [hw]
        exact .cons rw' ih
      | none =>
        have : vs[i]? = none := by
          rw [List.getElem?_eq_none_iff] at e ⊢
          have := Paired.length r
          omega
        rw [this]
        exact ih
  exact go _
section
variable {ρ α β γ δ S τ : Type} [Rep α] [Rep β] [Rep γ] [Rep δ] {ce : Ce} {E : XK} {K : PySem.W.Frag} {σ : L2.St} {F H F' H' F0 H0 : Hp} {te ta tb tc td : TE} {md : Md ρ} {m : M ρ}
theorem em_pk {tl th : TO} {st : Int} {m1 : M (List α)} {m2 m3 : M (Option Int)} (ha : Ev ce E ta σ F H (rv K) m1) (hl : EvO ce E tl σ F H m2) (hh : EvO ce E th σ F H m3) :
    Ev ce E (tSl (rSlP K st) ta tl th) σ F H (rn K) (m1.bind fun x => m2.bind fun lo => m3.bind fun hi => .ok (pickV x lo hi st)) := fun F1 H1 g1 Q q => by
  refine ha F1 H1 g1 _ ?_
  cases m1 with
  | ok x =>
    rintro F2 H2 vx g2 ⟨a, vs, e1, e2, e3⟩
    refine hl F2 H2 (g1.tr g2) _ ?_
    cases m2 with
    | ok lo =>
      intro F3 H3 g3
      refine hh F3 H3 ((g1.tr g2).tr g3) _ ?_
      cases m3 with
      | ok hi =>
        intro F4 H4 g4
        refine ⟨a, vs, e1, SqL.of (g4.hh _ _ (g3.hh _ _ (g2.fh _ _ e2))), fun p np => ?_⟩
        exact q F4 _ _ (((g2.tr g3).tr g4).tr (Gr.own g4.fh np)) ⟨p, _, rfl, ex_back ((g2.hh.tr g3.hh).tr g4.hh) np, ex_back g4.fh np, upd_same, paired_pick (paired_mo (g3.ff.tr g4.ff) e3) lo hi st⟩
      | er c => exact fun H' e => q H' ((g2.tr g3).hh.tr e)
      | bad => exact q
    | er c => exact fun H' e => q H' (g2.hh.tr e)
    | bad => exact q
  | er c => exact q
  | bad => exact q
theorem em_pkS {tl th : TO} {st : Int} {x : Scr} {m2 m3 : M (Option Int)} (ha : Ev ce E ta σ F H (rv K) (.ok x)) (hl : EvO ce E tl σ F H m2) (hh : EvO ce E th σ F H m3) :
    Ev ce E (tSl (rSlP K st) ta tl th) σ F H (rn K) (m2.bind fun lo => m3.bind fun hi => .ok (pickV x.l lo hi st)) := fun F1 H1 g1 Q q => by
  refine ha F1 H1 g1 _ ?_
  rintro F2 H2 vx g2 ⟨a, e1, e2⟩
  refine hl F2 H2 (g1.tr g2) _ ?_
  cases m2 with
  | ok lo =>
    intro F3 H3 g3
    refine hh F3 H3 ((g1.tr g2).tr g3) _ ?_
    cases m3 with
    | ok hi =>
      intro F4 H4 g4
      refine ⟨a, _, e1, ex_l ((g2.fh.tr g3.hh).tr g4.hh) e2, fun p np => ?_⟩
      exact q F4 _ _ (((g2.tr g3).tr g4).tr (Gr.own g4.fh np)) ⟨p, _, rfl, ex_back ((g2.hh.tr g3.hh).tr g4.hh) np, ex_back g4.fh np, upd_same, paired_pick (rep_int x.l) lo hi st⟩
    | er c => exact fun H' e => q H' ((g2.tr g3).hh.tr e)
    | bad => exact q
  | er c => exact fun H' e => q H' (g2.hh.tr e)
  | bad => exact q
theorem pick_sub {α : Type} {xs : List α} {lo hi : Option Int} {st : Int} {x : α} (h : x ∈ pickV xs lo hi st) : x ∈ xs := by
  unfold pickV at h
  obtain ⟨i, _, hi⟩ := List.mem_filterMap.mp h
  exact List.mem_of_getElem? hi
end
end Mw

set_option Elab.async false
set_option linter.all false
set_option maxRecDepth 100000
set_option maxHeartbeats 2000000
/-! Mw, part K: try, as statements of the walk. -/
namespace Mw
open PySem L2
open Rep (rp)
def tTryAs (tb : WX → TS) (K : PySem.W.Frag) (c : Value) (i : Nat) (ts : Addr → Value → Option Addr → TS) (Wout : WX) : TS := fun D σ H => tb (wAs K c i ts Wout D) D σ H
def tTryOn (tb : WX → TS) (K : PySem.W.Frag) (c : Value) (ts : Addr → Value → Option Addr → TS) (Wout : WX) : TS := fun D σ H => tb (wOnly K c ts Wout D) D σ H
section
variable {X : Cx} {x n : Str} {c : Value} {i : Nat} {body suite : List Stmt} {b₀ : Stmt} {np pos pos' : Pos} {tb : WX → TS} {ts : Addr → Value → Option Addr → TS} {Wout : WX}
theorem ps_tryA (hs : X.stack = X.env :: X.outer) (hf : X.env.frame = some X.env.locals) (hN : X.N.Nodup) (hi : X.N[i]? = some n) (hln : X.env.kindOf n = some .local) (hc : Names X x c) (tk : Takes X Wout)
    (hb : ∀ (W : WX) (pn : List (Addr × PySem.Obj)) (xe : Value → Shared → Prop), Takes (X.tr pn xe) W → PassesOwn (model X.prog X.w) X.A X.env xe → PSs (X.tr pn xe) body (tb W))
    (hsu : ∀ (a : Addr) (oe : PySem.Obj) (cls : Value) (d : Option Addr) (pn : List (Addr × PySem.Obj)), Zc cls d oe → (∃ vs, oe.data = .fields vs) → PSs (X.suite a ((a, oe) :: pn)) (b₀ :: suite) (ts a cls d)) :
    PS X (.Try body [.ExceptHandler (some (.Name x np)) (some n) (b₀ :: suite) pos'] [] [] pos) (tTryAs tb X.K c i ts Wout) := ps_try_as hs hf hN hi hln hc tk hb hsu
theorem ps_tryO (hs : X.stack = X.env :: X.outer) (hf : X.env.frame = some X.env.locals) (hc : Names X x c) (tk : Takes X Wout)
    (hb : ∀ (W : WX) (pn : List (Addr × PySem.Obj)) (xe : Value → Shared → Prop), Takes (X.tr pn xe) W → PassesOwn (model X.prog X.w) X.A X.env xe → PSs (X.tr pn xe) body (tb W))
    (hsu : ∀ (a : Addr) (oe : PySem.Obj) (cls : Value) (d : Option Addr) (pn : List (Addr × PySem.Obj)), Zc cls d oe → (∃ vs, oe.data = .fields vs) → PSs (X.suite a ((a, oe) :: pn)) (b₀ :: suite) (ts a cls d)) :
    PS X (.Try body [.ExceptHandler (some (.Name x np)) none (b₀ :: suite) pos'] [] [] pos) (tTryOn tb X.K c ts Wout) := ps_try_only hs hf hc tk hb hsu
end
section
variable {ρ α β S τ Z : Type} [Rep α] {ce : Ce} {E : XK} {K : PySem.W.Frag} {σ : L2.St} {F H F0 H0 : Hp} {md : Md ρ} {D : Ends} {P : τ → Prop} {tb : WX → TS} {t1 : Addr → Addr → TS} {ts : Addr → Value → Option Addr → TS} {cv : Value} {i : Nat} {Wout : WX}
theorem Gr.er {F H F' H' H2 : Hp} (g : Gr F H F' H') (e : Ex H' H2) : Gr F H F' H2 := ⟨g.ff, g.fh.tr e, g.hh.tr e, fun b a c => g.nw b a c⟩
theorem Own.er {T : Type} [Rep T] [Obj T] {H2 : Hp} {p : Addr} {x : T} (o : Own K F H p x) (e : Ex H H2) : Own K F H2 p x := by
  obtain ⟨⟨u, h1, h2⟩, f⟩ := o
  exact ⟨⟨u, e _ _ h1, h2⟩, f⟩
theorem rn_up {α : Type} [Rep α] {F F1 H1 : Hp} {v : V} {r : List α} (hh : Ex H0 H) (m : rn K F H F1 H1 v r) : rn K F0 H0 F1 H1 v r := by
  obtain ⟨p, vs, h1, h2, h3⟩ := m
  exact ⟨p, vs, h1, ex_back hh h2, h3⟩
theorem s_tryAs {α : Type} (sl : Z → L2.St) (J : α → Hp → Hp → L2.St → Prop) {m : M α} {h : Err → M τ} {k : α → M τ} (q : Wp ce E H0 (catchM m h k) P)
    (hh : ∀ c H' z, Ex H H' → Wp ce E H0 (h c) P → wAs K cv i (tsOf K t1) Wout D (.ref (ce c.name)) none (sl z) H')
    (h1 : ∀ x F1 H1 σ1, J x F1 H1 σ1 → Wp ce E H0 (k x) P → D.nx σ1 H1)
    (hb : ∀ (E' : XK) (P' : α → Prop), (∀ cls d H', E' cls d H' → ∀ z, wAs K cv i (tsOf K t1) Wout D cls d (sl z) H') → (∀ x, P' x → Wp ce E H0 (k x) P) → (∀ x, P' x → ∀ F1 H1 σ1, J x F1 H1 σ1 → D.nx σ1 H1) → Wp ce E' H m P' →
      tb (wAs K cv i (tsOf K t1) Wout D) D σ H) : tTryAs tb K cv i (tsOf K t1) Wout D σ H := by
  refine hb (fun cls d H' => ∀ z, wAs K cv i (tsOf K t1) Wout D cls d (sl z) H') (fun x => Wp ce E H0 (k x) P) (fun _ _ _ e => e) (fun _ p => p) (fun x p F1 H1 σ1 j => h1 x F1 H1 σ1 j p) ?_
  cases m with
  | ok x => exact q
  | er c => exact fun H' e z => hh c H' z e q
  | bad => exact q
theorem s_tryOn {α : Type} (sl : Z → L2.St) (J : α → Hp → Hp → L2.St → Prop) {m : M α} {h : Err → M τ} {k : α → M τ} (q : Wp ce E H0 (catchM m h k) P)
    (hh : ∀ c H' z, Ex H H' → Wp ce E H0 (h c) P → wOnly K cv ts Wout D (.ref (ce c.name)) none (sl z) H')
    (h1 : ∀ x F1 H1 σ1, J x F1 H1 σ1 → Wp ce E H0 (k x) P → D.nx σ1 H1)
    (hb : ∀ (E' : XK) (P' : α → Prop), (∀ cls d H', E' cls d H' → ∀ z, wOnly K cv ts Wout D cls d (sl z) H') → (∀ x, P' x → Wp ce E H0 (k x) P) → (∀ x, P' x → ∀ F1 H1 σ1, J x F1 H1 σ1 → D.nx σ1 H1) → Wp ce E' H m P' →
      tb (wOnly K cv ts Wout D) D σ H) : tTryOn tb K cv ts Wout D σ H := by
  refine hb (fun cls d H' => ∀ z, wOnly K cv ts Wout D cls d (sl z) H') (fun x => Wp ce E H0 (k x) P) (fun _ _ _ e => e) (fun _ p => p) (fun x p F1 H1 σ1 j => h1 x F1 H1 σ1 j p) ?_
  cases m with
  | ok x => exact q
  | er c => exact fun H' e z => hh c H' z e q
  | bad => exact q
theorem q_tryAs {t2 : TS} {α : Type} (sl : Z → L2.St) (J : α → Hp → Hp → L2.St → Prop) {m : M α} {h : Err → M τ} {k : α → M τ} (q : Wp ce E H0 (catchM m h k) P)
    (hh : ∀ c H' z, Ex H H' → Wp ce E H0 (h c) P → wAs K cv i (tsOf K t1) Wout { D with nx := t2 D } (.ref (ce c.name)) none (sl z) H')
    (h1 : ∀ x F1 H1 σ1, J x F1 H1 σ1 → Wp ce E H0 (k x) P → t2 D σ1 H1)
    (hb : ∀ (E' : XK) (P' : α → Prop), (∀ cls d H', E' cls d H' → ∀ z, wAs K cv i (tsOf K t1) Wout { D with nx := t2 D } cls d (sl z) H') → (∀ x, P' x → Wp ce E H0 (k x) P) → (∀ x, P' x → ∀ F1 H1 σ1, J x F1 H1 σ1 → t2 D σ1 H1) → Wp ce E' H m P' →
      tb (wAs K cv i (tsOf K t1) Wout { D with nx := t2 D }) { D with nx := t2 D } σ H) : tSeq (tTryAs tb K cv i (tsOf K t1) Wout) t2 D σ H := s_tryAs (D := { D with nx := t2 D }) sl J q hh h1 hb
theorem q_tryOn {t2 : TS} {α : Type} (sl : Z → L2.St) (J : α → Hp → Hp → L2.St → Prop) {m : M α} {h : Err → M τ} {k : α → M τ} (q : Wp ce E H0 (catchM m h k) P)
    (hh : ∀ c H' z, Ex H H' → Wp ce E H0 (h c) P → wOnly K cv ts Wout { D with nx := t2 D } (.ref (ce c.name)) none (sl z) H')
    (h1 : ∀ x F1 H1 σ1, J x F1 H1 σ1 → Wp ce E H0 (k x) P → t2 D σ1 H1)
    (hb : ∀ (E' : XK) (P' : α → Prop), (∀ cls d H', E' cls d H' → ∀ z, wOnly K cv ts Wout { D with nx := t2 D } cls d (sl z) H') → (∀ x, P' x → Wp ce E H0 (k x) P) → (∀ x, P' x → ∀ F1 H1 σ1, J x F1 H1 σ1 → t2 D σ1 H1) → Wp ce E' H m P' →
      tb (wOnly K cv ts Wout { D with nx := t2 D }) { D with nx := t2 D } σ H) : tSeq (tTryOn tb K cv ts Wout) t2 D σ H := s_tryOn (D := { D with nx := t2 D }) sl J q hh h1 hb
theorem was_yes {A : Addr} (hx : PySem.W.exmOne K (.ref A) cv = some true) (hc : ExcC K A)
    (h : ∀ a, H a = none → t1 A a { nx := fun σ' H' => D.nx (σ'.set i none) H', rt := D.rt, bk := fun σ' H' => D.bk (σ'.set i none) H', ct := fun σ' H' => D.ct (σ'.set i none) H' } (σ.set i (some (.ref a))) H) :
    wAs K cv i (tsOf K t1) Wout D (.ref A) none σ H := ⟨true, hx, fun _ a na => ⟨A, rfl, rfl, hc, h a na⟩, fun z => nomatch z⟩
theorem wonly_yes {A : Addr} {t : TS} (hx : PySem.W.exmOne K (.ref A) cv = some true) (h : t D σ H) : wOnly K cv (fun _ _ _ => t) Wout D (.ref A) none σ H := ⟨true, hx, fun _ a na => h, fun z => nomatch z⟩
/-- a call that may raise, within a try -/
theorem e_callU [MdMo md] {α : Type} {E' : XK} {W : WX} {ta : TA} {x : α} {R : Hp → List V → α → Prop} {f : α → M ρ} (hE : ∀ cls d H', E' cls d H' → W cls d σ H') (ha : EvAM ce E' ta σ F H (.ok x) R) : Ev ce E' (tCallS (SpF ce R md f) (WE W) ta) σ F H md (f x) := fun F1 H1 g1 Q q =>
  ha F1 H1 g1 _ fun F2 H2 vs g2 r2 => ⟨F2, x, g2.fh, r2, by
    have q' := Post.mo g2 q
    cases hm : f x with
    | ok r => rw [hm] at q'; exact q'
    | er c => rw [hm] at q'; exact fun H' e => hE _ _ _ (q' H' e)
    | bad => rw [hm] at q'; exact q'⟩
theorem em_callU [MdMo md] {α : Type} {E' : XK} {W : WX} {ta : TA} {m1 : M α} {R : Hp → List V → α → Prop} {f : α → M ρ} (hE : ∀ cls d H', E' cls d H' → W cls d σ H') (ha : EvAM ce E' ta σ F H m1 R) : Ev ce E' (tCallS (SpF ce R md f) (WE W) ta) σ F H md (m1.bind fun x => f x) := fun F1 H1 g1 Q q => by
  refine ha F1 H1 g1 _ ?_
  cases m1 with
  | ok x =>
    exact fun F2 H2 vs g2 r2 => ⟨F2, x, g2.fh, r2, by
      have q' := Post.mo g2 q
      cases hm : f x with
      | ok r => have e : (M.ok x : M α).bind (fun x => f x) = .ok r := hm; rw [e] at q'; exact q'
      | er c => have e : (M.ok x : M α).bind (fun x => f x) = .er c := hm; rw [e] at q'; exact fun H' e => hE _ _ _ (q' H' e)
      | bad => have e : (M.ok x : M α).bind (fun x => f x) = .bad := hm; rw [e] at q'; exact q'⟩
  | er c => exact q
  | bad => exact q
theorem wp_pos {c : Prop} [Decidable c] {m1 m2 : M τ} (h : c) (w : Wp ce E H0 (if c then m1 else m2) P) : Wp ce E H0 m1 P := by rwa [if_pos h] at w
theorem wp_neg {c : Prop} [Decidable c] {m1 m2 : M τ} (h : ¬ c) (w : Wp ce E H0 (if c then m1 else m2) P) : Wp ce E H0 m2 P := by rwa [if_neg h] at w
end
/-! ### what isinstance and except ask of classes -/
theorem kit_own {K : PySem.W.Frag} {A T : Addr} {b : Bool} (hd : PySem.W.hasDictIn K T = true) (ht : PySem.W.typeIn K (.ref T) = some (.type "type")) (hs : PySem.W.subIn K (.ref A) (.ref T) = some b) (hb : (A == T) = true → b = true) : PySem.W.kitOne K (.ref A) (.ref T) = some b := by
  obtain ⟨cd, hc, _⟩ := PySem.W.any_some hd
  unfold PySem.W.kitOne
  by_cases e : (Value.ref A == Value.ref T) = true
  · rw [if_pos e, hb (by
      have := beq_iff_eq.mp e
      cases this
      exact beq_self_eq_true A)]
  · rw [if_neg e]
    show (if ((PySem.W.clsIn K T).isSome && PySem.W.typeIn K (.ref T) == some (.type "type")) = true then PySem.W.subIn K (.ref A) (.ref T) else none) = some b
    rw [if_pos (by rw [hc, ht]; rfl)]
    exact hs
theorem kit_bt {K : PySem.W.Frag} {A : Addr} {T : String} {b : Bool} (hm : PySem.W.kitMeta T = true) (hs : PySem.W.subIn K (.ref A) (.type T) = some b) : PySem.W.kitOne K (.ref A) (.type T) = some b := by
  unfold PySem.W.kitOne
  have e : ¬ (Value.ref A == Value.type T) = true := fun z => by
    have := beq_iff_eq.mp z
    cases this
  rw [if_neg e]
  show (if PySem.W.kitMeta T = true then PySem.W.subIn K (.ref A) (.type T) else none) = some b
  rw [if_pos hm]
  exact hs
end Mw

set_option Elab.async false
set_option linter.all false
set_option maxRecDepth 100000
set_option maxHeartbeats 2000000
/-! Mw, part L: all, any. -/
namespace Mw
open PySem L2
open Rep (rp)
section
variable {ρ α β : Type} [Rep α] {ce : Ce} {E : XK} {K : PySem.W.Frag}
theorem paired_bool {H : Hp} : ∀ {vs : List V} {xs : List Bool}, Paired (rp K H) vs xs → vs = xs.map V.bl
  | _, _, .nil => rfl
  | _, _, .cons h t => by
    cases h
    rw [paired_bool t]
    rfl
theorem a_all {xs : List Bool} : OpA ce E (RC K R0) (rAll K) (rv K) (xs, ()) (.ok (xs.all id)) := fun F1 H1 vs e ⟨v, r, e1, ⟨a, us, h1, h2, h3⟩, e3⟩ Q q => by
  cases e3
  subst e1 h1
  have := paired_bool h3
  subst this
  exact ⟨a, xs, rfl, SqL.of (e _ _ h2), q _ _ _ (Gr.rf e) rfl⟩
theorem a_any {xs : List Bool} : OpA ce E (RC K R0) (rAny K) (rv K) (xs, ()) (.ok (xs.any id)) := fun F1 H1 vs e ⟨v, r, e1, ⟨a, us, h1, h2, h3⟩, e3⟩ Q q => by
  cases e3
  subst e1 h1
  have := paired_bool h3
  subst this
  exact ⟨a, xs, rfl, SqL.of (e _ _ h2), q _ _ _ (Gr.rf e) rfl⟩
end
noncomputable def setM {α : Type} (xs : List α) (i : Int) (x : α) : M (List α) := match ixN xs.length i with
  | some j => .ok (xs.set j x)
  | none => .bad
noncomputable def insM {α : Type} (xs : List α) (i : Int) (x : α) : M (List α) := chk (xs.length < 16000000 ∧ 0 ≤ i ∧ i < 2 ^ 63) (xs.take i.toNat ++ [x] ++ xs.drop i.toNat)
noncomputable def popAtM {α : Type} (xs : List α) (i : Int) : M (List α) := match seqIndex? i xs.length with
  | some j => chk (-(2 ^ 63) ≤ i ∧ i < 2 ^ 63 ∧ j < xs.length) (xs.eraseIdx j)
  | none => .bad
theorem paired_setA {α β : Type} {F : α → β → Prop} {v : α} {x : β} (h : F v x) : ∀ {vs : List α} {xs : List β} (j : Nat), Paired F vs xs → Paired F (vs.set j v) (xs.set j x)
  | _, _, _, .nil => .nil
  | _, _, 0, .cons _ t => .cons h t
  | _, _, j + 1, .cons a t => .cons a (paired_setA h j t)
theorem paired_erase {α β : Type} {F : α → β → Prop} : ∀ {vs : List α} {xs : List β} (j : Nat), Paired F vs xs → Paired F (vs.eraseIdx j) (xs.eraseIdx j)
  | _, _, _, .nil => .nil
  | _, _, 0, .cons _ t => t
  | _, _, j + 1, .cons a t => .cons a (paired_erase j t)
def rIns : V → List V → Hp → VK → Prop := fun x vs H Q => ∃ (l : Addr) (xs : List V) (i : Int) (y : V), x = .ref l ∧ vs = [.int i, y] ∧ H l = some (.lst xs) ∧ xs.length < sizeLine ∧ 0 ≤ i ∧ i < 2 ^ 63 ∧ Q .non (upd H l (.lst (xs.take i.toNat ++ [y] ++ xs.drop i.toNat)))
section
variable {τ α : Type} [Rep α] {ce : Ce} {E : XK} {K : PySem.W.Frag} {σ : L2.St} {F H F0 H0 : Hp} {te ti : TE} {D : Ends} {P : τ → Prop}
theorem s_setl (A : List Addr) {i : Nat} {p : Addr} {xs : List α} {m1 : M α} {m2 : M Int} {k : List α → M τ} [Flat α] (hp : σ[i]? = some (some (.ref p))) (o : Own K F H p xs) (n0 : H0 p = none) (G : Gr F0 H0 F H)
    (q : Wp ce E H0 (m1.bind fun x => m2.bind fun y => (setM xs y x).bind k) P) (hF : ∀ p ∈ A, F p = none) (hA : ∀ p ∈ A, ∃ o, H p = some o ∧ NoTup o) (h : Ev ce E te σ (fz F H A) H (rv K) m1) (hk : Ev ce E ti σ (fz F H A) H (rv K) m2)
    (c : ∀ ys F1 H1, Ex F F1 → Gr F0 H0 F1 H1 → Own K F1 H1 p ys → (∀ (T : Type) [Rep T] [Obj T] (q : Addr) (z : T), q ≠ p → Own K F H q z → Own K F1 H1 q z) → Wp ce E H0 (k ys) P → D.nx σ H1) :
    tAsg te (gSub (tVar i) ti rSetL) D σ H := by
  obtain ⟨vs, h1, h2⟩ := o.lst
  have hf := o.f
  have hA' : ∀ p ∈ A, H p ≠ none := fun p m => by obtain ⟨o, e, _⟩ := hA p m; rw [e]; exact fun z => nomatch z
  refine h _ H (Gr.rf (fz_h G.fh)) _ ?_
  cases m1 with
  | ok x =>
    intro F1 H1 v g0 r0
    refine ⟨.ref p, hp, hk F1 H1 g0 _ ?_⟩
    have q2 : Wp ce E H0 (m2.bind fun y => (setM xs y x).bind k) P := q
    cases m2 with
    | ok y =>
      rintro F2 H2 vy g1 rfl
      have gg := g0.tr g1
      have g := gr_th hF hA' G.fh gg
      have r : rp K (th F2 A) v x := Flat.fl (th_of hA gg) (Rep.mo g1.ff r0)
      have w' : Wp ce E H0 ((setM xs y x).bind k) P := q2
      unfold setM at w'
      split at w'
      · rename_i j hj
        rw [← Paired.length h2] at hj
        have hf1 : th F2 A p = none := g.nw p hf (by rw [h1]; exact fun z => nomatch z)
        exact ⟨p, vs, y, j, rfl, rfl, g.hh _ _ h1, hj, c _ _ _ g.ff (Gr.mut (G.tr g) n0 hf1) (own_new hf1 upd_same (paired_setA r j (paired_mo g.ff h2))) (fun T _ _ q z hq o => (o.mo g).upd hq) w'⟩
      · exact w'.elim
    | er cc => exact fun H' e => q2 H' ((G.hh.tr g0.hh).tr e)
    | bad => exact q2
  | er cc => exact fun H' e => q H' (G.hh.tr e)
  | bad => exact q
theorem s_insl (A : List Addr) {i : Nat} {p : Addr} {xs : List α} {m1 : M Int} {m2 : M α} {k : List α → M τ} [Flat α] (hp : σ[i]? = some (some (.ref p))) (o : Own K F H p xs) (n0 : H0 p = none) (G : Gr F0 H0 F H)
    (q : Wp ce E H0 (m1.bind fun y => m2.bind fun x => (insM xs y x).bind k) P) (hF : ∀ p ∈ A, F p = none) (hA : ∀ p ∈ A, ∃ o, H p = some o ∧ NoTup o) (hk : Ev ce E ti σ (fz F H A) H (rv K) m1) (h : Ev ce E te σ (fz F H A) H (rv K) m2)
    (c : ∀ ys F1 H1, Ex F F1 → Gr F0 H0 F1 H1 → Own K F1 H1 p ys → (∀ (T : Type) [Rep T] [Obj T] (q : Addr) (z : T), q ≠ p → Own K F H q z → Own K F1 H1 q z) → Wp ce E H0 (k ys) P → D.nx σ H1) :
    tDrop (tBM K "list" rIns (tVar i) (tCons ti (tCons te tNil))) D σ H := by
  obtain ⟨vs, h1, h2⟩ := o.lst
  have hf := o.f
  have hA' : ∀ p ∈ A, H p ≠ none := fun p m => by obtain ⟨o, e, _⟩ := hA p m; rw [e]; exact fun z => nomatch z
  refine ⟨.ref p, hp, .inl ⟨rfl, vs, SqL.of h1⟩, hk _ H (Gr.rf (fz_h G.fh)) _ ?_⟩
  cases m1 with
  | ok y =>
    rintro F1 H1 vy g0 rfl
    refine h F1 H1 g0 _ ?_
    have q2 : Wp ce E H0 (m2.bind fun x => (insM xs y x).bind k) P := q
    cases m2 with
    | ok x =>
      intro F2 H2 v g1 r0
      have gg := g0.tr g1
      have g := gr_th hF hA' G.fh gg
      have r : rp K (th F2 A) v x := Flat.fl (th_of hA gg) r0
      have w' : Wp ce E H0 ((insM xs y x).bind k) P := q2
      unfold insM chk at w'
      split at w'
      · rename_i hc
        have hf1 : th F2 A p = none := g.nw p hf (by rw [h1]; exact fun z => nomatch z)
        refine ⟨p, vs, y, v, rfl, rfl, g.hh _ _ h1, by rw [Paired.length h2, sizeLine_eq]; omega, hc.2.1, hc.2.2, ?_⟩
        have pm := paired_mo (K := K) g.ff h2
        exact c _ _ _ g.ff (Gr.mut (G.tr g) n0 hf1) (own_new hf1 upd_same (paired_app (paired_app (paired_take _ pm) (.cons r .nil)) (paired_drop _ pm))) (fun T _ _ q z hq o => (o.mo g).upd hq) w'
      · exact w'.elim
    | er cc => exact fun H' e => q2 H' ((G.hh.tr g0.hh).tr e)
    | bad => exact q2
  | er cc => exact fun H' e => q H' (G.hh.tr e)
  | bad => exact q
theorem s_popl (A : List Addr) {i : Nat} {p : Addr} {xs : List α} {m1 : M Int} {k : List α → M τ} (hp : σ[i]? = some (some (.ref p))) (o : Own K F H p xs) (n0 : H0 p = none) (G : Gr F0 H0 F H)
    (q : Wp ce E H0 (m1.bind fun y => (popAtM xs y).bind k) P) (hF : ∀ p ∈ A, F p = none) (hA : ∀ p ∈ A, ∃ o, H p = some o ∧ NoTup o) (hk : Ev ce E ti σ (fz F H A) H (rv K) m1)
    (c : ∀ ys F1 H1, Ex F F1 → Gr F0 H0 F1 H1 → Own K F1 H1 p ys → (∀ (T : Type) [Rep T] [Obj T] (q : Addr) (z : T), q ≠ p → Own K F H q z → Own K F1 H1 q z) → Wp ce E H0 (k ys) P → D.nx σ H1) :
    tDrop (tBM K "list" rPopAt (tVar i) (tCons ti tNil)) D σ H := by
  obtain ⟨vs, h1, h2⟩ := o.lst
  have hf := o.f
  have hA' : ∀ p ∈ A, H p ≠ none := fun p m => by obtain ⟨o, e, _⟩ := hA p m; rw [e]; exact fun z => nomatch z
  refine ⟨.ref p, hp, .inl ⟨rfl, vs, SqL.of h1⟩, hk _ H (Gr.rf (fz_h G.fh)) _ ?_⟩
  cases m1 with
  | ok y =>
    rintro F1 H1 vy g0 rfl
    have g := gr_th hF hA' G.fh g0
    have w' : Wp ce E H0 ((popAtM xs y).bind k) P := q
    unfold popAtM at w'
    split at w'
    · rename_i j hj
      unfold chk at w'
      split at w'
      · rename_i hc
        rw [← Paired.length h2] at hj
        have hl : j < vs.length := by rw [Paired.length h2]; exact hc.2.2
        have hf1 : th F1 A p = none := g.nw p hf (by rw [h1]; exact fun z => nomatch z)
        exact ⟨p, vs, y, j, _, rfl, rfl, g.hh _ _ h1, hc.1, hc.2.1, hj, List.getElem?_eq_getElem hl, c _ _ _ g.ff (Gr.mut (G.tr g) n0 hf1) (own_new hf1 upd_same (paired_erase j (paired_mo g.ff h2))) (fun T _ _ q z hq o => (o.mo g).upd hq) w'⟩
      · exact w'.elim
    · exact w'.elim
  | er cc => exact fun H' e => q H' (G.hh.tr e)
  | bad => exact q
variable {t2 : TS}
theorem q_setl (A : List Addr) {i : Nat} {p : Addr} {xs : List α} {m1 : M α} {m2 : M Int} {k : List α → M τ} [Flat α] (hp : σ[i]? = some (some (.ref p))) (o : Own K F H p xs) (n0 : H0 p = none) (G : Gr F0 H0 F H)
    (q : Wp ce E H0 (m1.bind fun x => m2.bind fun y => (setM xs y x).bind k) P) (hF : ∀ p ∈ A, F p = none) (hA : ∀ p ∈ A, ∃ o, H p = some o ∧ NoTup o) (h : Ev ce E te σ (fz F H A) H (rv K) m1) (hk : Ev ce E ti σ (fz F H A) H (rv K) m2)
    (c : ∀ ys F1 H1, Ex F F1 → Gr F0 H0 F1 H1 → Own K F1 H1 p ys → (∀ (T : Type) [Rep T] [Obj T] (q : Addr) (z : T), q ≠ p → Own K F H q z → Own K F1 H1 q z) → Wp ce E H0 (k ys) P → t2 D σ H1) :
    tSeq (tAsg te (gSub (tVar i) ti rSetL)) t2 D σ H := s_setl (D := { D with nx := t2 D }) A hp o n0 G q hF hA h hk c
theorem q_insl (A : List Addr) {i : Nat} {p : Addr} {xs : List α} {m1 : M Int} {m2 : M α} {k : List α → M τ} [Flat α] (hp : σ[i]? = some (some (.ref p))) (o : Own K F H p xs) (n0 : H0 p = none) (G : Gr F0 H0 F H)
    (q : Wp ce E H0 (m1.bind fun y => m2.bind fun x => (insM xs y x).bind k) P) (hF : ∀ p ∈ A, F p = none) (hA : ∀ p ∈ A, ∃ o, H p = some o ∧ NoTup o) (hk : Ev ce E ti σ (fz F H A) H (rv K) m1) (h : Ev ce E te σ (fz F H A) H (rv K) m2)
    (c : ∀ ys F1 H1, Ex F F1 → Gr F0 H0 F1 H1 → Own K F1 H1 p ys → (∀ (T : Type) [Rep T] [Obj T] (q : Addr) (z : T), q ≠ p → Own K F H q z → Own K F1 H1 q z) → Wp ce E H0 (k ys) P → t2 D σ H1) :
    tSeq (tDrop (tBM K "list" rIns (tVar i) (tCons ti (tCons te tNil)))) t2 D σ H := s_insl (D := { D with nx := t2 D }) A hp o n0 G q hF hA hk h c
theorem q_popl (A : List Addr) {i : Nat} {p : Addr} {xs : List α} {m1 : M Int} {k : List α → M τ} (hp : σ[i]? = some (some (.ref p))) (o : Own K F H p xs) (n0 : H0 p = none) (G : Gr F0 H0 F H)
    (q : Wp ce E H0 (m1.bind fun y => (popAtM xs y).bind k) P) (hF : ∀ p ∈ A, F p = none) (hA : ∀ p ∈ A, ∃ o, H p = some o ∧ NoTup o) (hk : Ev ce E ti σ (fz F H A) H (rv K) m1)
    (c : ∀ ys F1 H1, Ex F F1 → Gr F0 H0 F1 H1 → Own K F1 H1 p ys → (∀ (T : Type) [Rep T] [Obj T] (q : Addr) (z : T), q ≠ p → Own K F H q z → Own K F1 H1 q z) → Wp ce E H0 (k ys) P → t2 D σ H1) :
    tSeq (tDrop (tBM K "list" rPopAt (tVar i) (tCons ti tNil))) t2 D σ H := s_popl (D := { D with nx := t2 D }) A hp o n0 G q hF hA hk c
end
end Mw

set_option Elab.async false
set_option linter.all false
set_option maxRecDepth 100000
set_option maxHeartbeats 4000000
noncomputable section
namespace Kx
open PySem L2 Mw
open Rep (rp)
def FUEL : Nat := 1000000
theorem pow_10_60 : (10 : Int) ^ (60 : Int).toNat = 1000000000000000000000000000000000000000000000000000000000000 := by decide +kernel
/-! ### _law_size -/
@[irreducible] def m_law_size (a0_cell : Int) : M Int :=
  ((M.ok (decide ((a0_cell % (4 : Int)) = (0 : Int)))).bind fun b => if b then (M.ok ((1 : Int) + ((a0_cell / (4 : Int)) % (9 : Int)))) else ((M.ok (decide ((a0_cell % (4 : Int)) = (1 : Int)))).bind fun b => if b then (M.ok ((1 : Int) + ((a0_cell / (4 : Int)) % (200 : Int)))) else ((M.ok (decide ((a0_cell % (4 : Int)) = (2 : Int)))).bind fun b => if b then (M.ok ((1000000000000000000000000000000000000000000000000000000000000 : Int) - ((a0_cell / (4 : Int)) % (9 : Int)))) else (M.ok ((1 : Int) + ((a0_cell / (4 : Int)) % (1000000000000000000000000000000000000000000000000000000000000 : Int)))))))
/-! ### _law_stack -/
@[irreducible] def m_law_stack_b1 (a1_lot : (List (Int × Int))) (x_142 : Int) (s_141 : (List Int)) : M (Ctl (List Int) (List Int)) :=
  ((m_law_size (x_142 / (3 : Int))).ne.bind fun opening_163 => (M.bind ((M.ok ((decide ((x_142 % (3 : Int)) = (0 : Int))) && (decide ((0 : Int) < (List.length a1_lot : Int))))).bind fun b => if b then ((((M.ok a1_lot).bind fun x_224 => ((M.ok (x_142 / (3 : Int))).bind fun x_222 => (M.ok (List.length a1_lot : Int)).bind fun y_223 => modM x_222 y_223).bind fun y_225 => ixM x_224 y_225).bind fun x_226 => .ok x_226.1).bind fun opening_227 => (M.ok opening_227)) else (M.ok opening_163)) fun s_172 => (M.bind ((M.ok ((decide ((x_142 % (3 : Int)) = (1 : Int))) && (decide ((0 : Int) < (List.length a1_lot : Int))))).bind fun b => if b then ((((M.ok (1 : Int)).bind fun x_210 => (((((M.ok a1_lot).bind fun x_203 => ((M.ok (x_142 / (3 : Int))).bind fun x_201 => (M.ok (List.length a1_lot : Int)).bind fun y_202 => modM x_201 y_202).bind fun y_204 => ixM x_203 y_204).bind fun x_205 => .ok x_205.1).bind fun x_206 => (M.ok (1 : Int)).bind fun y_207 => .ok (x_206 - y_207)).bind fun x_208 => (M.ok ()).bind fun y_209 => .ok (x_208, y_209)).bind fun y_211 => .ok (x_210, y_211)).bind fun a_212 => .ok (if a_212.2.1 > a_212.1 then a_212.2.1 else a_212.1)).bind fun opening_213 => (M.ok opening_213)) else (M.ok s_172)) fun s_183 => ((M.ok s_183).bind fun x_197 => (appM s_141 x_197).bind fun stack_191 => (M.ok (.nx stack_191))))))
@[irreducible] def m_law_stack (a0_cells : (List Int)) (a1_lot : (List (Int × Int))) : M (List Int) :=
  ((M.ok ([] : (List Int))).bind fun stack_132 => ((M.ok (cut a0_cells none (some (12 : Int)))).bind fun xs_241 => forM (m_law_stack_b1 a1_lot) (fun s_236 => (M.ok s_236)) xs_241 stack_132))
/-! ### _law_other -/
@[irreducible] def m_law_other (a0_stack : (List Int)) (a1_cells : (List Int)) (a2_cell : Int) : M (List Int) :=
  ((M.ok (a2_cell % (4 : Int))).bind fun how_367 => ((M.ok a0_stack).bind fun other_373 => (((M.ok (a2_cell / (4 : Int))).bind fun x_380 => (M.ok ((List.length a0_stack : Int) + (1 : Int))).bind fun y_381 => modM x_380 y_381).bind fun place_382 => ((M.ok (decide (how_367 = (0 : Int)))).bind fun b => if b then (((M.ok a1_cells).bind fun x_399 => (((M.ok a0_stack).bind fun xs_396 => lcM (fun x_392 : Int => (M.ok true)) (fun x_392 : Int => (M.ok (x_392, (1 : Int)))) xs_396).bind fun x_397 => (M.ok ()).bind fun y_398 => .ok (x_397, y_398)).bind fun y_400 => .ok (x_399, y_400)).bind fun a_401 => (m_law_stack a_401.1 a_401.2.1).ne) else (M.bind ((M.ok ((decide (how_367 = (1 : Int))) && ((decide ((List.length a0_stack : Int) < (12 : Int))) && (decide ((0 : Int) < place_382))))).bind fun b => if b then ((M.ok place_382).bind fun y_477 => (((M.ok (1000000000000000000000000000000000000000000000000000000000000 : Int)).bind fun x_486 => ((((M.ok a0_stack).bind fun x_480 => ((M.ok (a2_cell / (52 : Int))).bind fun x_478 => (M.ok place_382).bind fun y_479 => modM x_478 y_479).bind fun y_481 => ixM x_480 y_481).bind fun x_482 => (M.ok ((a2_cell / (700 : Int)) % (3 : Int))).bind fun y_483 => .ok (x_482 + y_483)).bind fun x_484 => (M.ok ()).bind fun y_485 => .ok (x_484, y_485)).bind fun y_487 => .ok (x_486, y_487)).bind fun a_488 => .ok (if a_488.2.1 < a_488.1 then a_488.2.1 else a_488.1)).bind fun x_476 => (insM other_373 y_477 x_476).bind fun other_470 => (M.ok other_470)) else (M.ok other_373)) fun s_405 => (M.bind ((M.ok ((decide (how_367 = (2 : Int))) && (decide ((0 : Int) < place_382)))).bind fun b => if b then ((((M.ok (1 : Int)).bind fun x_464 => ((((M.ok (1000000000000000000000000000000000000000000000000000000000000 : Int)).bind fun x_459 => (((((M.ok s_405).bind fun x_451 => (M.ok (place_382 - (1 : Int))).bind fun y_452 => ixM x_451 y_452).bind fun x_453 => (M.ok (1 : Int)).bind fun y_454 => .ok (x_453 + y_454)).bind fun x_455 => (M.ok ((2 : Int) * ((a2_cell / (52 : Int)) % (2 : Int)))).bind fun y_456 => .ok (x_455 - y_456)).bind fun x_457 => (M.ok ()).bind fun y_458 => .ok (x_457, y_458)).bind fun y_460 => .ok (x_459, y_460)).bind fun a_461 => .ok (if a_461.2.1 < a_461.1 then a_461.2.1 else a_461.1)).bind fun x_462 => (M.ok ()).bind fun y_463 => .ok (x_462, y_463)).bind fun y_465 => .ok (x_464, y_465)).bind fun a_466 => .ok (if a_466.2.1 > a_466.1 then a_466.2.1 else a_466.1)).bind fun x_443 => (M.ok (place_382 - (1 : Int))).bind fun y_444 => (setM s_405 y_444 x_443).bind fun other_445 => (M.ok other_445)) else (M.ok s_405)) fun s_414 => (M.bind ((M.ok ((decide (how_367 = (3 : Int))) && (decide ((0 : Int) < place_382)))).bind fun b => if b then ((M.ok (place_382 - (1 : Int))).bind fun y_439 => (popAtM s_414 y_439).bind fun other_432 => (M.ok other_432)) else (M.ok s_414)) fun s_423 => (M.ok s_423))))))))
/-! ### _law_held -/
@[irreducible] def m_law_held_b1 (a1_size : Int) (x_525 : Int) (s_524 : Unit) : M (Ctl Unit Int) :=
  ((M.ok (decide (x_525 < a1_size))).bind fun b => if b then ((M.ok x_525).bind fun r_548 => .ok (.rt r_548)) else (M.ok (.nx ())))
@[irreducible] def m_law_held (a0_stack : (List Int)) (a1_size : Int) : M Int :=
  ((M.ok a0_stack).bind fun xs_556 => forM (m_law_held_b1 a1_size) (fun s_551 => (M.ok (0 : Int))) xs_556 ())
/-! ### _law_due -/
@[irreducible] def m_law_due_b1 (a0_one : (List Int)) (a1_other : (List Int)) (x_621 : Int) (s_620 : Unit) : M (Ctl Unit (Option Int)) :=
  (((m_law_held a0_one x_621).ne.bind fun x_641 => (m_law_held a1_other x_621).ne.bind fun y_642 => .ok (!decide (x_641 = y_642))).bind fun b => if b then ((M.ok (some x_621)).bind fun r_646 => .ok (.rt r_646)) else (M.ok (.nx ())))
@[irreducible] def m_law_due (a0_one : (List Int)) (a1_other : (List Int)) : M (Option Int) :=
  (((((M.ok [(1 : Int)]).bind fun x_614 => (((M.ok a0_one).bind fun x_606 => (M.ok a1_other).bind fun y_607 => catM x_606 y_607).bind fun xs_613 => lcM (fun x_609 : Int => (M.ok true)) (fun x_609 : Int => (M.ok (x_609 + (1 : Int)))) xs_613).bind fun y_615 => catM x_614 y_615).bind fun x_616 => (M.ok ()).bind fun y_617 => .ok (x_616, y_617)).bind fun a_618 => .ok (sortI a_618.1)).bind fun xs_654 => forM (m_law_due_b1 a0_one a1_other) (fun s_649 => (M.ok (none : (Option Int)))) xs_654 ())
/-! ### _law_bad_stack -/
@[irreducible] def m_law_bad_stack (a0_stack : (List Int)) (a1_cell : Int) : M (List Int) :=
  (((M.ok (a1_cell / (4 : Int))).bind fun x_682 => (M.ok ((List.length a0_stack : Int) + (1 : Int))).bind fun y_683 => modM x_682 y_683).bind fun place_684 => ((M.ok (decide ((a1_cell % (4 : Int)) = (0 : Int)))).bind fun b => if b then ((M.ok a0_stack).bind fun x_695 => ((M.ok [(5 : Int)]).bind fun x_693 => (M.ok ((13 : Int) - (List.length a0_stack : Int))).bind fun y_694 => repM x_693 y_694).bind fun y_696 => catM x_695 y_696) else (((M.ok [(0 : Int), ((-(1 : Int)) - ((a1_cell / (52 : Int)) % (1000000000000000000000000000000000000000000000000000000000000 : Int))), (((1000000000000000000000000000000000000000000000000000000000000 : Int) + (1 : Int)) + ((a1_cell / (52 : Int)) % (3 : Int)))]).bind fun x_697 => (M.ok ((a1_cell % (4 : Int)) - (1 : Int))).bind fun y_698 => ixM x_697 y_698).bind fun odd_699 => (((M.ok (cut a0_stack none (some place_684))).bind fun x_705 => (M.ok [odd_699]).bind fun y_706 => catM x_705 y_706).bind fun x_707 => (M.ok (cut a0_stack (some place_684) none)).bind fun y_708 => catM x_707 y_708))))
/-! ### _law_cell_at -/
@[irreducible] def m_law_cell_at (a0_script : Scr) (a1_k : Int) : M Int :=
  ((M.ok (decide (a1_k < (a0_script.l.length : Int)))).bind fun b => if b then ((M.ok a0_script).bind fun x_717 => (M.ok a1_k).bind fun y_718 => ixS x_717 y_718) else (M.ok (0 : Int)))
/-! ### check_stack -/
@[irreducible] def m_check_stack_b1  (x_760 : Int) (s_759 : Unit) : M (Ctl Unit Unit) :=
  ((M.ok ((decide (x_760 < (1 : Int))) || (decide ((1000000000000000000000000000000000000000000000000000000000000) < x_760)))).bind fun b => if b then (M.er ⟨"BadStack"⟩) else (M.ok (.nx ())))
@[irreducible] def m_check_stack (a0_stack : (List Int)) : M Unit :=
  ((M.ok (decide ((12) < (List.length a0_stack : Int)))).bind fun b => if b then (M.er ⟨"BadStack"⟩) else ((M.ok a0_stack).bind fun xs_790 => forM m_check_stack_b1 (fun s_785 => (M.ok ())) xs_790 ()))
/-! ### place_held -/
@[irreducible] def m_place_held_b1 (a0_stack : (List Int)) (a1_size : Int) (x_831 : Int) (s_830 : Unit) : M (Ctl Unit Int) :=
  (((M.ok a1_size).bind fun x_853 => ((M.ok a0_stack).bind fun x_851 => (M.ok x_831).bind fun y_852 => ixM x_851 y_852).bind fun y_854 => .ok (decide (y_854 < x_853))).bind fun b => if b then ((M.ok x_831).bind fun r_858 => .ok (.rt r_858)) else (M.ok (.nx ())))
@[irreducible] def m_place_held (a0_stack : (List Int)) (a1_size : Int) : M Int :=
  (((M.ok (List.length a0_stack : Int)).bind rng1M).bind fun xs_866 => forM (m_place_held_b1 a0_stack a1_size) (fun s_861 => (M.ok (List.length a0_stack : Int))) xs_866 ())
/-! ### holder -/
@[irreducible] def m_holder (a0_stack : (List Int)) (a1_size : Int) : M Int :=
  ((m_check_stack a0_stack).bind fun _ => ((m_place_held a0_stack a1_size).ne.bind fun place_886 => ((M.ok (decide (place_886 = (List.length a0_stack : Int)))).bind fun b => if b then (M.ok (0 : Int)) else ((M.ok a0_stack).bind fun x_895 => (M.ok place_886).bind fun y_896 => ixM x_895 y_896))))
/-! ### parted_by -/
@[irreducible] def m_parted_by_b1 (a0_one : (List Int)) (a1_other : (List Int)) (x_977 : Int) (s_976 : Unit) : M (Ctl Unit (Option Int)) :=
  (((m_holder a0_one x_977).bind fun x_997 => (m_holder a1_other x_977).bind fun y_998 => .ok (!decide (x_997 = y_998))).bind fun b => if b then ((M.ok (some x_977)).bind fun r_1002 => .ok (.rt r_1002)) else (M.ok (.nx ())))
@[irreducible] def m_parted_by (a0_one : (List Int)) (a1_other : (List Int)) : M (Option Int) :=
  ((m_check_stack a0_one).bind fun _ => ((m_check_stack a1_other).bind fun _ => (((((M.ok [(1 : Int)]).bind fun x_970 => (((M.ok a0_one).bind fun x_962 => (M.ok a1_other).bind fun y_963 => catM x_962 y_963).bind fun xs_969 => lcM (fun x_965 : Int => (M.ok true)) (fun x_965 : Int => (M.ok (x_965 + (1 : Int)))) xs_969).bind fun y_971 => catM x_970 y_971).bind fun x_972 => (M.ok ()).bind fun y_973 => .ok (x_972, y_973)).bind fun a_974 => .ok (sortI a_974.1)).bind fun xs_1010 => forM (m_parted_by_b1 a0_one a1_other) (fun s_1005 => (M.ok (none : (Option Int)))) xs_1010 ())))
/-! ### _law_refused -/
@[irreducible] def m_law_refused (a0_one : (List Int)) (a1_other : (List Int)) : M Bool :=
  (catchM ((m_parted_by a0_one a1_other).bind fun _ => (M.ok ())) (fun c => (if c.name = "BadStack" then (M.ok true) else M.bad)) (fun s_1033 => (M.ok false)))
/-! ### _law_lean -/
@[irreducible] def m_law_lean_b1  (x_1127 : Int) (s_1126 : (List Int)) : M (Ctl (List Int) (List Int)) :=
  ((((((M.ok s_1126).bind fun xs_1153 => lcM (fun x_1149 : Int => (M.ok (decide (x_1149 ≤ x_1127)))) (fun x_1149 : Int => (M.ok x_1149)) xs_1153).bind fun x_1154 => (M.ok ()).bind fun y_1155 => .ok (x_1154, y_1155)).bind fun a_1156 => .ok (List.length a_1156.1 : Int)).bind fun x_1157 => (M.ok (0 : Int)).bind fun y_1158 => .ok (decide (x_1157 = y_1158))).bind fun b => if b then ((M.ok x_1127).bind fun x_1168 => (appM s_1126 x_1168).bind fun kept_1162 => (M.ok (.nx kept_1162))) else (M.ok (.nx s_1126)))
@[irreducible] def m_law_lean (a0_stack : (List Int)) : M (List Int) :=
  ((M.ok ([] : (List Int))).bind fun kept_1118 => ((M.ok a0_stack).bind fun xs_1177 => forM m_law_lean_b1 (fun s_1172 => (M.ok s_1172)) xs_1177 kept_1118))
/-! ### _law_whole -/
@[irreducible] def m_law_whole (a0_found : Int) : M Bool :=
  (M.ok (true && (!false)))
/-! ### law -/
@[irreducible] def m_law_b1 (due_1359 : (Option Int)) (x_1385 : ((List Int) × (List Int))) (s_1384 : Unit) : M (Ctl Unit Bool) :=
  ((m_parted_by x_1385.1 x_1385.2).bind fun found_1405 => ((orM (M.ok (!decide (found_1405 = due_1359))) (andM (M.ok (Option.isSome found_1405)) (notM ((((M.ok found_1405).bind getM).bind fun x_1411 => (M.ok ()).bind fun y_1412 => .ok (x_1411, y_1412)).bind fun a_1413 => (m_law_whole a_1413.1).ne)))).bind fun b => if b then ((M.ok false).bind fun r_1417 => .ok (.rt r_1417)) else (M.ok (.nx ()))))
@[irreducible] def m_law (a0_script : Scr) : M Bool :=
  (((m_law_cell_at a0_script (0 : Int)).ne.bind fun x_1326 => (M.ok (13 : Int)).bind fun y_1327 => modM x_1326 y_1327).bind fun many_1328 => ((m_law_stack (cut a0_script.l (some (2 : Int)) (some ((2 : Int) + many_1328))) ([] : (List (Int × Int)))).ne.bind fun one_1334 => ((((M.ok one_1334).bind fun x_1344 => ((M.ok (cut a0_script.l (some ((2 : Int) + many_1328)) none)).bind fun x_1342 => ((m_law_cell_at a0_script (1 : Int)).ne.bind fun x_1340 => (M.ok ()).bind fun y_1341 => .ok (x_1340, y_1341)).bind fun y_1343 => .ok (x_1342, y_1343)).bind fun y_1345 => .ok (x_1344, y_1345)).bind fun a_1346 => (m_law_other a_1346.1 a_1346.2.1 a_1346.2.2.1).ne).bind fun other_1347 => ((M.ok [one_1334, other_1347]).bind fun handed_1353 => ((m_law_due one_1334 other_1347).ne.bind fun due_1359 => ((((((M.ok handed_1353).bind fun x_1365 => (M.ok (0 : Int)).bind fun y_1366 => ixM x_1365 y_1366).bind fun x_1369 => ((M.ok handed_1353).bind fun x_1367 => (M.ok (1 : Int)).bind fun y_1368 => ixM x_1367 y_1368).bind fun x_1370 => .ok (x_1369, x_1370)).bind fun x_1379 => ((((M.ok handed_1353).bind fun x_1371 => (M.ok (1 : Int)).bind fun y_1372 => ixM x_1371 y_1372).bind fun x_1375 => ((M.ok handed_1353).bind fun x_1373 => (M.ok (0 : Int)).bind fun y_1374 => ixM x_1373 y_1374).bind fun x_1376 => .ok (x_1375, x_1376)).bind fun x_1377 => (M.ok ([] : List ((List Int) × (List Int)))).bind fun y_1378 => .ok (x_1377 :: y_1378)).bind fun y_1380 => .ok (x_1379 :: y_1380)).bind fun x_1381 => chk (x_1381.length ≤ 1000) x_1381).bind fun xs_1473 => forM (m_law_b1 due_1359) (fun s_1420 => ((orM ((M.ok (!Option.isSome due_1359)).bind fun x_1426 => ((m_law_lean one_1334).ne.bind fun x_1424 => (m_law_lean other_1347).ne.bind fun y_1425 => .ok (decide (x_1424 = y_1425))).bind fun y_1427 => .ok (!decide (x_1426 = y_1427))) (((((M.ok handed_1353).bind fun x_1428 => (M.ok (0 : Int)).bind fun y_1429 => ixM x_1428 y_1429).bind fun x_1434 => (((M.ok handed_1353).bind fun x_1430 => (M.ok (0 : Int)).bind fun y_1431 => ixM x_1430 y_1431).bind fun x_1432 => (M.ok ()).bind fun y_1433 => .ok (x_1432, y_1433)).bind fun y_1435 => .ok (x_1434, y_1435)).bind fun a_1436 => (m_parted_by a_1436.1 a_1436.2.1)).bind fun x_1437 => (M.ok ()).bind fun y_1438 => .ok (Option.isSome x_1437))).bind fun b => if b then (M.ok false) else ((((M.ok one_1334).bind fun x_1446 => (((m_law_cell_at a0_script (1 : Int)).ne.bind fun x_1442 => (M.ok (7 : Int)).bind fun y_1443 => fdivM x_1442 y_1443).bind fun x_1444 => (M.ok ()).bind fun y_1445 => .ok (x_1444, y_1445)).bind fun y_1447 => .ok (x_1446, y_1447)).bind fun a_1448 => (m_law_bad_stack a_1448.1 a_1448.2.1).ne).bind fun bad_1449 => ((orM (notM (((M.ok bad_1449).bind fun x_1459 => (((M.ok handed_1353).bind fun x_1455 => (M.ok (1 : Int)).bind fun y_1456 => ixM x_1455 y_1456).bind fun x_1457 => (M.ok ()).bind fun y_1458 => .ok (x_1457, y_1458)).bind fun y_1460 => .ok (x_1459, y_1460)).bind fun a_1461 => (m_law_refused a_1461.1 a_1461.2.1).ne)) (notM ((((M.ok handed_1353).bind fun x_1462 => (M.ok (1 : Int)).bind fun y_1463 => ixM x_1462 y_1463).bind fun x_1466 => ((M.ok bad_1449).bind fun x_1464 => (M.ok ()).bind fun y_1465 => .ok (x_1464, y_1465)).bind fun y_1467 => .ok (x_1466, y_1467)).bind fun a_1468 => (m_law_refused a_1468.1 a_1468.2.1).ne))).bind fun b => if b then (M.ok false) else (andM (m_law_refused bad_1449 bad_1449).ne (M.ok (decide (handed_1353 = [one_1334, other_1347])))))))) xs_1473 ()))))))
/-! ### the plain law -/
/-! #### the first of a sorted list -/
theorem find_sorted (p : Int → Bool) (x : Int) : ∀ {A : List Int}, A.Pairwise (· ≤ ·) → A.find? p = some x → x ∈ A ∧ p x = true ∧ ∀ y ∈ A, p y = true → x ≤ y
  | [], _, h => nomatch h
  | a :: r, hA, h => by
    obtain ⟨h1, h2⟩ := List.pairwise_cons.mp hA
    rw [List.find?_cons] at h
    split at h
    · rename_i c
      cases h
      exact ⟨List.mem_cons_self, c, fun y hy _ => by
        rcases List.mem_cons.mp hy with z | z
        · omega
        · exact h1 y z⟩
    · rename_i c
      obtain ⟨a1, a2, a3⟩ := find_sorted p x h2 h
      exact ⟨List.mem_cons_of_mem _ a1, a2, fun y hy py => by
        rcases List.mem_cons.mp hy with z | z
        · rw [z, c] at py; cases py
        · exact a3 y z py⟩
theorem find_same {p q : Int → Bool} {A B : List Int} (hA : A.Pairwise (· ≤ ·)) (hB : B.Pairwise (· ≤ ·)) (hm : ∀ y, y ∈ A ↔ y ∈ B) (hp : ∀ y, p y = q y) : A.find? p = B.find? q := by
  have : p = q := funext hp
  subst this
  cases ea : A.find? p with
  | none =>
    symm
    rw [List.find?_eq_none] at ea ⊢
    exact fun y hy => ea y ((hm y).mpr hy)
  | some x =>
    obtain ⟨a1, a2, a3⟩ := find_sorted p x hA ea
    cases eb : B.find? p with
    | none =>
      rw [List.find?_eq_none] at eb
      exact absurd a2 (eb x ((hm x).mp a1))
    | some y =>
      obtain ⟨b1, b2, b3⟩ := find_sorted p y hB eb
      have h1 := a3 y ((hm y).mpr b1) b2
      have h2 := b3 x ((hm x).mp a1) a2
      congr 1
      omega
theorem forM_find {f : Int → Unit → M (Ctl Unit (Option Int))} {p : Int → Bool} : ∀ {xs : List Int}, (∀ x ∈ xs, f x () = .ok (if p x = true then .rt (some x) else .nx ())) → forM f (fun _ => .ok none) xs () = .ok (xs.find? p)
  | [], _ => rfl
  | x :: r, h => by
    rw [forM_cons, h x List.mem_cons_self, List.find?_cons]
    cases p x with
    | true => rfl
    | false => exact forM_find fun y hy => h y (List.mem_cons_of_mem _ hy)
def okS (x : Int) : Prop := 1 ≤ x ∧ x ≤ (1000000000000000000000000000000000000000000000000000000000000 : Int)
theorem size_ok (c : Int) : ∃ v, m_law_size c = .ok v ∧ okS v := by
  unfold m_law_size
  simp only [M.ok_bind]
  by_cases h : c % 4 = 0
  · rw [if_pos (decide_eq_true h)]
    exact ⟨_, rfl, by constructor <;> omega⟩
  · rw [if_neg (by simpa using h)]
    by_cases h2 : c % 4 = 1
    · rw [if_pos (decide_eq_true h2)]
      exact ⟨_, rfl, by constructor <;> omega⟩
    · rw [if_neg (by simpa using h2)]
      by_cases h3 : c % 4 = 2
      · rw [if_pos (decide_eq_true h3)]
        exact ⟨_, rfl, by constructor <;> omega⟩
      · rw [if_neg (by simpa using h3)]
        exact ⟨_, rfl, by constructor <;> omega⟩
theorem cell_at_ok (s : Scr) (k : Nat) : ∃ v, m_law_cell_at s k = .ok v := by
  unfold m_law_cell_at
  simp only [M.ok_bind]
  by_cases h : (k : Int) < (s.l.length : Int)
  · rw [if_pos (decide_eq_true h)]
    have h' : k < s.l.length := by omega
    exact ⟨_, ixM_of (List.getElem?_eq_getElem h')⟩
  · rw [if_neg (by simpa using h)]
    exact ⟨_, rfl⟩
theorem whole_is (x : Int) : m_law_whole x = .ok true := by
  unfold m_law_whole
  rfl
theorem mod_ix {α : Type} [Rep α] (l : List α) (c : Int) (h : 0 < l.length) : ∃ i : Nat, ∃ hi : i < l.length, modM c (l.length : Int) = .ok (i : Int) ∧ ixM l (i : Int) = .ok l[i] := by
  have h1 := Int.emod_nonneg c (show (l.length : Int) ≠ 0 by omega)
  have h2 := Int.emod_lt_of_pos c (show (0 : Int) < l.length by omega)
  refine ⟨(c % (l.length : Int)).toNat, by omega, ?_, ixM_of (List.getElem?_eq_getElem _)⟩
  rw [modM_ok (by omega), Int.toNat_of_nonneg h1]
theorem stack_ok (cs : List Int) (lot : List (Int × Int)) (hc : ∀ p ∈ lot, okS p.1) : ∃ s, m_law_stack cs lot = .ok s ∧ s.length ≤ 12 ∧ s.length ≤ cs.length ∧ ∀ x ∈ s, okS x := by
  have h12 : (cut cs none (some 12)).length ≤ 12 := by
    unfold cut
    rw [List.length_take]
    have : HT.sIx cs.length cs.length (some 12) ≤ 12 := by
      show (if (12 : Int) < 0 then ((12 : Int) + (cs.length : Int)).toNat else min (12 : Int).toNat cs.length) ≤ 12
      rw [if_neg (by omega)]
      omega
    omega
  have hcl := cut_len cs none (some 12)
  unfold m_law_stack
  simp only [M.ok_bind]
  obtain ⟨s', ⟨h1, h2⟩, e⟩ := forM_ex (f := m_law_stack_b1 lot) (k := fun s => M.ok s) (fun pre (s : List Int) => s.length = pre.length ∧ ∀ x ∈ s, okS x) (cut cs none (some 12)) [] [] ⟨rfl, fun _ z => nomatch z⟩ (by
    intro p x s hp ⟨i1, i2⟩
    have hl := pre_len hp
    simp only [List.nil_append] at hl
    obtain ⟨v, ev, hv⟩ := size_ok (x / 3)
    unfold m_law_stack_b1
    simp only [M.ok_bind, Mw.bind_assoc, ev, ne_ok]
    have fin : ∀ q : Int, okS q → ∃ s', (appM s q).bind (fun pairs => M.ok (Ctl.nx (τ := List Int) pairs)) = .ok (.nx s') ∧ s'.length = (p ++ [x]).length ∧ ∀ y ∈ s', okS y := fun q hq => by
      rw [appM_ok (by omega)]
      refine ⟨_, rfl, by simp [i1], fun y hy => ?_⟩
      rcases List.mem_append.mp hy with z | z
      · exact i2 y z
      · rw [List.mem_singleton.mp z]; exact hq
    by_cases hn : 0 < lot.length
    · have hn' : decide ((0 : Int) < (lot.length : Int)) = true := decide_eq_true (by omega)
      obtain ⟨i, hi, em, ei⟩ := mod_ix lot (x / 3) hn
      have hq := hc lot[i] (List.getElem_mem hi)
      simp only [hn', Bool.and_true, em, ei, M.ok_bind]
      by_cases c0 : x % 3 = 0
      · have c1 : ¬ x % 3 = 1 := by omega
        rw [if_pos (decide_eq_true c0)]
        simp only [M.ok_bind]
        rw [if_neg (by simpa using c1)]
        simp only [M.ok_bind]
        exact fin _ hq
      · rw [if_neg (by simpa using c0)]
        simp only [M.ok_bind]
        by_cases c1 : x % 3 = 1
        · rw [if_pos (decide_eq_true c1)]
          simp only [M.ok_bind]
          refine fin _ ?_
          obtain ⟨q1, q2⟩ := hq
          split <;> constructor <;> omega
        · rw [if_neg (by simpa using c1)]
          simp only [M.ok_bind]
          exact fin _ hv
    · have hn' : decide ((0 : Int) < (lot.length : Int)) = false := decide_eq_false (by omega)
      simp only [hn', Bool.and_false, Bool.false_eq_true, if_false, M.ok_bind]
      exact fin _ hv)
  rw [List.nil_append] at h1
  exact ⟨s', e, by omega, by omega, h2⟩
theorem check_ok (s : List Int) (h : s.length ≤ 12) (hs : ∀ x ∈ s, okS x) : m_check_stack s = .ok () := by
  unfold m_check_stack
  simp only [M.ok_bind]
  rw [if_neg (by simp; omega)]
  exact forM_all fun x hx => by
    obtain ⟨a, b⟩ := hs x hx
    unfold m_check_stack_b1
    simp only [M.ok_bind]
    rw [if_neg (by simp; omega)]
theorem check_loop : ∀ {s : List Int}, (∃ x ∈ s, ¬ okS x) → forM m_check_stack_b1 (fun _ => M.ok ()) s () = .er ⟨"BadStack"⟩
  | [], ⟨_, h, _⟩ => nomatch h
  | y :: r, ⟨x, hx, hn⟩ => by
    rw [forM_cons]
    by_cases c : okS y
    · have e : m_check_stack_b1 y () = .ok (.nx ()) := by
        obtain ⟨a, b⟩ := c
        unfold m_check_stack_b1
        simp only [M.ok_bind]
        rw [if_neg (by simp; omega)]
      rw [e]
      have hr : x ∈ r := by
        rcases List.mem_cons.mp hx with z | z
        · exact absurd (z ▸ c) hn
        · exact z
      exact check_loop ⟨x, hr, hn⟩
    · have e : m_check_stack_b1 y () = .er ⟨"BadStack"⟩ := by
        have c' : ¬ (1 ≤ y ∧ y ≤ (1000000000000000000000000000000000000000000000000000000000000 : Int)) := c
        unfold m_check_stack_b1
        simp only [M.ok_bind]
        rw [if_pos]
        simp
        omega
      rw [e]
      rfl
theorem check_bad (s : List Int) (h : 12 < s.length ∨ ∃ x ∈ s, ¬ okS x) : m_check_stack s = .er ⟨"BadStack"⟩ := by
  unfold m_check_stack
  simp only [M.ok_bind]
  by_cases c : 12 < s.length
  · rw [if_pos (by simp; omega)]
  · rw [if_neg (by simp; omega)]
    exact check_loop (h.resolve_left c)
/-- where a size is held -/
def plc (s : List Int) (z : Int) : Nat := s.findIdx fun x => decide (x < z)
theorem plc_cons (a : Int) (r : List Int) (z : Int) : plc (a :: r) z = if a < z then 0 else plc r z + 1 := by
  unfold plc
  rw [List.findIdx_cons]
  by_cases c : a < z
  · rw [decide_eq_true c, if_pos c]; rfl
  · rw [decide_eq_false c, if_neg c]; rfl
theorem place_go (s : List Int) (z : Int) : ∀ (suf pre : List Int), s = pre ++ suf → forM (m_place_held_b1 s z) (fun _ => M.ok (s.length : Int)) ((List.range' pre.length suf.length).map fun (k : Nat) => (0 : Int) + (k : Int)) () = .ok ((pre.length + plc suf z : Nat) : Int)
  | [], pre, h => by
    subst h
    simp [plc, forM_nil]
  | a :: r, pre, h => by
    have ei : ixM s (pre.length : Int) = .ok a := ixM_of (by rw [h]; simp)
    rw [List.length_cons, List.range'_succ, List.map_cons, forM_cons, plc_cons]
    unfold m_place_held_b1
    simp only [M.ok_bind, Int.zero_add, ei]
    by_cases c : a < z
    · rw [if_pos (decide_eq_true c), if_pos c]
      rfl
    · rw [if_neg (by simpa using c), if_neg c]
      have := place_go s z r (pre ++ [a]) (by rw [h]; simp)
      unfold m_place_held_b1 at this
      simp only [List.length_append, List.length_singleton, Int.zero_add] at this
      rw [show pre.length + (plc r z + 1) = pre.length + 1 + plc r z by omega]
      exact this
theorem place_is (s : List Int) (z : Int) (h : s.length ≤ 1000) : m_place_held s z = .ok (plc s z : Int) := by
  unfold m_place_held
  simp only [M.ok_bind]
  rw [rng1M_ok (by omega)]
  simp only [M.ok_bind]
  have := place_go s z s [] rfl
  simp only [List.length_nil, Nat.zero_add] at this
  unfold rng
  rw [show ((s.length : Int) - 0).toNat = s.length by omega, List.range_eq_range']
  exact this
theorem plc_le (s : List Int) (z : Int) : plc s z ≤ s.length := List.findIdx_le_length
def first (s : List Int) (z : Int) : Int := (s.find? fun x => decide (x < z)).getD 0
theorem first_plc : ∀ (s : List Int) (z : Int), (plc s z = s.length ∧ first s z = 0) ∨ (plc s z < s.length ∧ s[plc s z]? = some (first s z))
  | [], z => .inl ⟨rfl, rfl⟩
  | a :: r, z => by
    unfold first
    rw [plc_cons, List.find?_cons]
    by_cases c : a < z
    · rw [if_pos c, decide_eq_true c]
      exact .inr ⟨by simp, rfl⟩
    · rw [if_neg c, decide_eq_false c]
      rcases first_plc r z with ⟨h1, h2⟩ | ⟨h1, h2⟩
      · exact .inl ⟨by simp [h1], h2⟩
      · exact .inr ⟨by simp; omega, by rw [List.getElem?_cons_succ]; exact h2⟩
theorem holder_is (s : List Int) (z : Int) (h : s.length ≤ 12) (hs : ∀ x ∈ s, okS x) : m_holder s z = .ok (first s z) := by
  unfold m_holder
  rw [check_ok s h hs, place_is s z (by omega)]
  simp only [M.ok_bind, ne_ok]
  rcases first_plc s z with ⟨h1, h2⟩ | ⟨h1, h2⟩
  · rw [h1, if_pos (by simp), h2]
  · rw [if_neg (by simp; omega), ixM_of h2]
theorem bad_ok (s : List Int) (c : Int) (h : s.length ≤ 12) : ∃ b, m_law_bad_stack s c = .ok b ∧ (12 < b.length ∨ ∃ x ∈ b, ¬ okS x) := by
  unfold m_law_bad_stack
  simp only [M.ok_bind]
  have h1 := Int.emod_nonneg (c / 4) (show (s.length : Int) + 1 ≠ 0 by omega)
  have h2 := Int.emod_lt_of_pos (c / 4) (show (0 : Int) < (s.length : Int) + 1 by omega)
  rw [modM_ok (by omega)]
  simp only [M.ok_bind]
  by_cases c0 : c % 4 = 0
  · rw [if_pos (decide_eq_true c0)]
    have e : repM [(5 : Int)] (13 - (s.length : Int)) = .ok (List.replicate (13 - (s.length : Int)).toNat [(5 : Int)]).flatten := chk_pos ⟨by omega, by omega, by simp; omega⟩ _
    rw [e]
    simp only [M.ok_bind]
    have hl : (List.replicate (13 - (s.length : Int)).toNat [(5 : Int)]).flatten.length = 13 - s.length := by
      simp <;> omega
    rw [catM_ok (by rw [hl]; omega)]
    exact ⟨_, rfl, .inl (by rw [List.length_append, hl]; omega)⟩
  · rw [if_neg (by simpa using c0)]
    have odd : ∃ o, ixM [(0 : Int), (-(1 : Int)) - ((c / 52) % (1000000000000000000000000000000000000000000000000000000000000 : Int)), ((1000000000000000000000000000000000000000000000000000000000000 : Int) + 1) + ((c / 52) % 3)] (c % 4 - 1) = .ok o ∧ ¬ okS o := by
      rcases (show c % 4 = 1 ∨ c % 4 = 2 ∨ c % 4 = 3 by omega) with z | z | z
      · rw [z]; exact ⟨_, ixM_of (i := 0) rfl, fun ⟨a, b⟩ => by omega⟩
      · rw [z]; exact ⟨_, ixM_of (i := 1) rfl, fun ⟨a, b⟩ => by omega⟩
      · rw [z]; exact ⟨_, ixM_of (i := 2) rfl, fun ⟨a, b⟩ => by omega⟩
    obtain ⟨o, eo, ho⟩ := odd
    rw [eo]
    simp only [M.ok_bind]
    have l1 := cut_len s none (some (c / 4 % ((s.length : Int) + 1)))
    have l2 := cut_len s (some (c / 4 % ((s.length : Int) + 1))) none
    rw [catM_ok (by rw [List.length_singleton]; omega)]
    simp only [M.ok_bind]
    rw [catM_ok (by rw [List.length_append, List.length_singleton]; omega)]
    exact ⟨_, rfl, .inr ⟨o, by simp, ho⟩⟩
/-- the lean part, a step -/
def lpS (k : List Int) (x : Int) : List Int := if ∀ y ∈ k, x < y then k ++ [x] else k
structure Lp (pre k : List Int) : Prop where
  sub : ∀ y ∈ k, y ∈ pre
  dom : ∀ y ∈ pre, ∃ m ∈ k, m ≤ y
  dec : k.Pairwise (fun a b => b < a)
  fnd : ∀ z, k.find? (fun x => decide (x < z)) = pre.find? (fun x => decide (x < z))
  len : k.length ≤ pre.length
theorem Lp.nil : Lp [] [] := ⟨fun _ h => h, fun _ h => (nomatch h), .nil, fun _ => rfl, Nat.le_refl _⟩
theorem Lp.step {pre k : List Int} (h : Lp pre k) (x : Int) : Lp (pre ++ [x]) (lpS k x) := by
  unfold lpS
  split
  · rename_i c
    refine ⟨fun y hy => ?_, fun y hy => ?_, ?_, fun z => ?_, by simp; exact h.len⟩
    · rcases List.mem_append.mp hy with q | q
      · exact List.mem_append_left _ (h.sub y q)
      · exact List.mem_append_right _ q
    · rcases List.mem_append.mp hy with q | q
      · obtain ⟨m, h1, h2⟩ := h.dom y q
        exact ⟨m, List.mem_append_left _ h1, h2⟩
      · exact ⟨x, List.mem_append_right _ (List.mem_singleton.mpr rfl), by rw [List.mem_singleton.mp q]; exact Int.le_refl _⟩
    · rw [List.pairwise_append]
      exact ⟨h.dec, List.pairwise_singleton _ _, fun a ha b hb => by rw [List.mem_singleton.mp hb]; exact c a ha⟩
    · rw [List.find?_append, List.find?_append, h.fnd]
  · rename_i c
    have hd : ∃ m ∈ k, m ≤ x := by
      apply Classical.byContradiction
      intro n
      exact c fun y hy => by
        apply Classical.byContradiction
        intro n2
        exact n ⟨y, hy, by omega⟩
    obtain ⟨m, hm, hmx⟩ := hd
    refine ⟨fun y hy => List.mem_append_left _ (h.sub y hy), fun y hy => ?_, h.dec, fun z => ?_, by simp; have := h.len; omega⟩
    · rcases List.mem_append.mp hy with q | q
      · exact h.dom y q
      · exact ⟨m, hm, by rw [List.mem_singleton.mp q]; exact hmx⟩
    · rw [List.find?_append, h.fnd]
      cases e : pre.find? (fun x => decide (x < z)) with
      | some w => rfl
      | none =>
        rw [List.find?_eq_none] at e
        have := e m (h.sub m hm)
        have hx : ¬ x < z := by
          intro q
          exact this (decide_eq_true (by omega))
        rw [List.find?_cons, decide_eq_false hx]
        rfl
def lp (s : List Int) : List Int := s.foldl lpS []
theorem lp_app (s : List Int) (x : Int) : lp (s ++ [x]) = lpS (lp s) x := by
  unfold lp
  rw [List.foldl_append]
  rfl
theorem lp_ok (s : List Int) : Lp s (lp s) := by
  have go : ∀ (l pre k : List Int), Lp pre k → Lp (pre ++ l) (l.foldl lpS k) := by
    intro l
    induction l with
    | nil => intro pre k h; rw [List.append_nil]; exact h
    | cons x r ih =>
      intro pre k h
      have := ih (pre ++ [x]) _ (h.step x)
      rwa [List.append_assoc] at this
  exact go s [] [] Lp.nil
theorem lp_dec (s : List Int) (h : s.Pairwise (fun a b => b < a)) : lp s = s := by
  have go : ∀ (l pre : List Int), (pre ++ l).Pairwise (fun a b => b < a) → l.foldl lpS pre = pre ++ l := by
    intro l
    induction l with
    | nil => intro pre _; rw [List.append_nil]; rfl
    | cons x r ih =>
      intro pre hp
      have h1 := (List.pairwise_append.mp hp).2.2
      rw [List.foldl_cons]
      have e : lpS pre x = pre ++ [x] := by
        unfold lpS
        rw [if_pos fun y hy => h1 y hy x List.mem_cons_self]
      rw [e, ih (pre ++ [x]) (by rw [List.append_assoc]; exact hp), List.append_assoc]
      rfl
  exact go s [] h
theorem held_is (s : List Int) (z : Int) : m_law_held s z = .ok (first s z) := by
  unfold m_law_held
  simp only [M.ok_bind]
  induction s with
  | nil => rfl
  | cons a r ih =>
    rw [forM_cons]
    unfold first
    rw [List.find?_cons]
    by_cases c : a < z
    · have e : m_law_held_b1 z a () = .ok (.rt a) := by
        unfold m_law_held_b1
        simp only [M.ok_bind]
        rw [if_pos (decide_eq_true c)]
      rw [e, decide_eq_true c]
      rfl
    · have e : m_law_held_b1 z a () = .ok (.nx ()) := by
        unfold m_law_held_b1
        simp only [M.ok_bind]
        rw [if_neg (by simpa using c)]
      rw [e, decide_eq_false c]
      exact ih
def differ (a b : List Int) (s : Int) : Bool := !decide (first a s = first b s)
def szs (a b : List Int) : List Int := sortI ([1] ++ (a ++ b).map fun x => x + 1)
structure SG (s : List Int) : Prop where
  len : s.length ≤ 12
  ok : ∀ x ∈ s, okS x
theorem due_is (a b : List Int) (ha : SG a) (hb : SG b) : m_law_due a b = .ok ((szs a b).find? (differ a b)) := by
  have la := ha.len
  have lb := hb.len
  unfold m_law_due
  simp only [M.ok_bind]
  rw [catM_ok (by omega)]
  simp only [M.ok_bind]
  rw [lcM_all _ (by rw [List.length_append]; omega)]
  simp only [M.ok_bind]
  rw [catM_ok (by simp; omega)]
  simp only [M.ok_bind]
  refine forM_find fun x _ => ?_
  unfold m_law_due_b1
  simp only [M.ok_bind, held_is, ne_ok]
  unfold differ
  cases (!decide (first a x = first b x)) <;> rfl
theorem parted_is (a b : List Int) (ha : SG a) (hb : SG b) : m_parted_by a b = .ok ((szs a b).find? (differ a b)) := by
  have la := ha.len
  have lb := hb.len
  unfold m_parted_by
  rw [check_ok a ha.len ha.ok, check_ok b hb.len hb.ok]
  simp only [M.ok_bind]
  rw [catM_ok (by omega)]
  simp only [M.ok_bind]
  rw [lcM_all _ (by rw [List.length_append]; omega)]
  simp only [M.ok_bind]
  rw [catM_ok (by simp; omega)]
  simp only [M.ok_bind]
  refine forM_find fun x _ => ?_
  unfold m_parted_by_b1
  simp only [M.ok_bind, holder_is a x ha.len ha.ok, holder_is b x hb.len hb.ok]
  unfold differ
  cases (!decide (first a x = first b x)) <;> rfl
theorem parted_swap (a b : List Int) : (szs b a).find? (differ b a) = (szs a b).find? (differ a b) := by
  refine find_same (sortI_sorted _) (sortI_sorted _) (fun y => ?_) fun y => ?_
  · unfold szs
    rw [(sortI_perm _).mem_iff, (sortI_perm _).mem_iff]
    simp [or_comm]
  · unfold differ
    congr 1
    rw [decide_eq_decide]
    exact eq_comm
theorem lean_is (s : List Int) (h : SG s) : m_law_lean s = .ok (lp s) := by
  have ls := h.len
  unfold m_law_lean
  simp only [M.ok_bind]
  obtain ⟨s', h1, e⟩ := forM_ex (f := m_law_lean_b1) (k := fun s => M.ok s) (fun pre (k : List Int) => k = lp pre) s [] [] rfl (by
    intro p x k hp i
    have hl := pre_len hp
    simp only [List.nil_append] at hl
    subst i
    have hb := (lp_ok p).len
    unfold m_law_lean_b1
    simp only [M.ok_bind]
    rw [lcM_ok (fun y => decide (y ≤ x)) (fun y => y) (by omega)]
    simp only [M.ok_bind]
    rw [lp_app]
    unfold lpS
    by_cases c : ∀ y ∈ lp p, x < y
    · have e0 : (lp p).filter (fun y => decide (y ≤ x)) = [] := by
        rw [List.filter_eq_nil_iff]
        intro y hy z
        have := c y hy
        have := of_decide_eq_true z
        omega
      rw [e0, if_pos c, if_pos (by simp), appM_ok (by omega)]
      exact ⟨_, rfl, rfl⟩
    · have e0 : ((lp p).filter (fun y => decide (y ≤ x))).length ≠ 0 := by
        intro z
        have z2 := List.eq_nil_of_length_eq_zero z
        rw [List.filter_eq_nil_iff] at z2
        refine c fun y hy => ?_
        have := z2 y hy
        simpa using this
      rw [if_neg c, if_neg (by
        simp only [List.map_id', decide_eq_true_eq]
        omega)]
      exact ⟨_, rfl, rfl⟩)
  rw [List.nil_append] at h1
  subst h1
  exact e
theorem first_cons (a : Int) (r : List Int) (z : Int) : first (a :: r) z = if a < z then a else first r z := by
  unfold first
  rw [List.find?_cons]
  by_cases c : a < z
  · rw [decide_eq_true c, if_pos c]; rfl
  · rw [decide_eq_false c, if_neg c]
/-- falling stacks that hold each of these sizes alike are the same -/
theorem lp_inj : ∀ {a b : List Int}, a.Pairwise (fun x y => y < x) → b.Pairwise (fun x y => y < x) → (∀ x ∈ a, okS x) → (∀ x ∈ b, okS x) → (∀ x, x ∈ a ∨ x ∈ b → first a (x + 1) = first b (x + 1)) → a = b
  | [], [], _, _, _, _, _ => rfl
  | [], y :: b, _, _, _, ob, h => by
    have := h y (.inr List.mem_cons_self)
    rw [first_cons, if_pos (by omega)] at this
    have e : first [] (y + 1) = 0 := rfl
    obtain ⟨o1, _⟩ := ob y List.mem_cons_self
    omega
  | x :: a, [], _, _, oa, _, h => by
    have := h x (.inl List.mem_cons_self)
    rw [first_cons, if_pos (by omega)] at this
    have e : first [] (x + 1) = 0 := rfl
    obtain ⟨o1, _⟩ := oa x List.mem_cons_self
    omega
  | x :: a, y :: b, da, db, oa, ob, h => by
    obtain ⟨d1, d2⟩ := List.pairwise_cons.mp da
    obtain ⟨d3, d4⟩ := List.pairwise_cons.mp db
    have low : ∀ (l : List Int) (z w : Int), (∀ q ∈ l, q < w) → 0 < w → first l z < w := by
      intro l z w hl hw
      unfold first
      cases e : l.find? (fun x => decide (x < z)) with
      | none => exact hw
      | some q => exact hl q (List.mem_of_find?_eq_some e)
    have hxy : x = y := by
      have h1 := h x (.inl List.mem_cons_self)
      have h2 := h y (.inr List.mem_cons_self)
      rw [first_cons, if_pos (by omega), first_cons] at h1
      rw [first_cons, first_cons, if_pos (show y < y + 1 by omega)] at h2
      obtain ⟨o1, _⟩ := oa x List.mem_cons_self
      obtain ⟨o2, _⟩ := ob y List.mem_cons_self
      rcases Int.lt_trichotomy x y with z | z | z
      · rw [if_pos (by omega)] at h2
        exact h2
      · exact z
      · rw [if_pos (by omega)] at h1
        exact h1
    subst hxy
    congr 1
    refine lp_inj d2 d4 (fun q hq => oa q (List.mem_cons_of_mem _ hq)) (fun q hq => ob q (List.mem_cons_of_mem _ hq)) fun q hq => ?_
    have := h q (hq.imp (List.mem_cons_of_mem _) (List.mem_cons_of_mem _))
    have hq' : q < x := by
      rcases hq with z | z
      · exact d1 q z
      · exact d3 q z
    rw [first_cons, if_neg (by omega), first_cons, if_neg (by omega)] at this
    exact this
theorem due_none {a b : List Int} (ha : SG a) (hb : SG b) : (szs a b).find? (differ a b) = none ↔ lp a = lp b := by
  have A := lp_ok a
  have Bq := lp_ok b
  have fa : ∀ z, first (lp a) z = first a z := fun z => by unfold first; rw [A.fnd]
  have fb : ∀ z, first (lp b) z = first b z := fun z => by unfold first; rw [Bq.fnd]
  constructor
  · intro h
    rw [List.find?_eq_none] at h
    refine lp_inj A.dec Bq.dec (fun x hx => ha.ok x (A.sub x hx)) (fun x hx => hb.ok x (Bq.sub x hx)) fun x hx => ?_
    have hm : x + 1 ∈ szs a b := by
      unfold szs
      rw [(sortI_perm _).mem_iff]
      refine List.mem_append_right _ (List.mem_map.mpr ⟨x, ?_, rfl⟩)
      rw [List.mem_append]
      exact hx.imp (A.sub x) (Bq.sub x)
    have := h _ hm
    unfold differ at this
    rw [fa, fb]
    simpa using this
  · intro h
    rw [List.find?_eq_none]
    intro y _
    unfold differ
    rw [← fa y, ← fb y, h]
    simp
theorem refused_one (b o : List Int) (h : 12 < b.length ∨ ∃ x ∈ b, ¬ okS x) : m_law_refused b o = .ok true := by
  unfold m_law_refused m_parted_by
  rw [check_bad b h]
  simp [M.bind, catchM]
theorem refused_two (g b : List Int) (hg : SG g) (h : 12 < b.length ∨ ∃ x ∈ b, ¬ okS x) : m_law_refused g b = .ok true := by
  unfold m_law_refused m_parted_by
  rw [check_ok g hg.len hg.ok, check_bad b h]
  simp [M.bind, catchM]
theorem other_ok (s cs : List Int) (c : Int) (hs : SG s) (hc : cs.length ≤ 1000) : ∃ o, m_law_other s cs c = .ok o ∧ SG o := by
  have ls := hs.len
  unfold m_law_other
  simp only [M.ok_bind]
  have h1 := Int.emod_nonneg (c / 4) (show (s.length : Int) + 1 ≠ 0 by omega)
  have h2 := Int.emod_lt_of_pos (c / 4) (show (0 : Int) < (s.length : Int) + 1 by omega)
  rw [modM_ok (by omega)]
  simp only [M.ok_bind]
  generalize c / 4 % ((s.length : Int) + 1) = pl at h1 h2
  by_cases c0 : c % 4 = 0
  · rw [if_pos (decide_eq_true c0), lcM_all _ (by omega)]
    simp only [M.ok_bind]
    obtain ⟨o, eo, lo, _, oo⟩ := stack_ok cs (s.map fun x => (x, (1 : Int))) (fun p hp => by
      obtain ⟨x, hx, rfl⟩ := List.mem_map.mp hp
      exact hs.ok x hx)
    rw [eo]
    exact ⟨o, rfl, lo, oo⟩
  · rw [if_neg (by simpa using c0)]
    by_cases hp : 0 < pl
    · have hp' : decide (0 < pl) = true := decide_eq_true hp
      obtain ⟨n, rfl⟩ : ∃ n : Nat, pl = n := ⟨pl.toNat, by omega⟩
      have hn : n ≤ s.length := by omega
      have i1 : n - 1 < s.length := by omega
      have ix1 : ixM s ((n : Int) - 1) = .ok s[n - 1] := by
        have : ((n : Int) - 1) = ((n - 1 : Nat) : Int) := by omega
        rw [this]
        exact ixM_of (List.getElem?_eq_getElem i1)
      have ixn : ixN s.length ((n : Int) - 1) = some (n - 1) := by
        unfold ixN
        rw [if_pos (by omega), if_pos (by omega)]
        congr 1
        omega
      rcases (show c % 4 = 1 ∨ c % 4 = 2 ∨ c % 4 = 3 by omega) with z | z | z
      · rw [z]
        by_cases hl : s.length < 12
        · have hl' : decide ((s.length : Int) < 12) = true := decide_eq_true (by omega)
          have m1 := Int.emod_nonneg (c / 52) (show (n : Int) ≠ 0 by omega)
          have m2 := Int.emod_lt_of_pos (c / 52) hp
          have em : modM (c / 52) (n : Int) = .ok (c / 52 % (n : Int)) := modM_ok hp
          obtain ⟨j, ej⟩ : ∃ j : Nat, c / 52 % (n : Int) = j := ⟨(c / 52 % (n : Int)).toNat, by omega⟩
          have hj : j < s.length := by omega
          have ej2 : ixM s (j : Int) = .ok s[j] := ixM_of (List.getElem?_eq_getElem hj)
          simp only [hl', hp', Bool.and_true, decide_true, if_true, M.ok_bind, em, ej, ej2]
          unfold insM
          rw [chk_pos ⟨by omega, by omega, by omega⟩]
          simp only [M.ok_bind]
          refine ⟨_, rfl, by simp; omega, fun y hy => ?_⟩
          obtain ⟨q1, q2⟩ := hs.ok s[j] (List.getElem_mem hj)
          rcases List.mem_append.mp hy with w | w
          · rcases List.mem_append.mp w with w | w
            · exact hs.ok y (List.mem_of_mem_take w)
            · rw [List.mem_singleton.mp w]
              split <;> constructor <;> omega
          · exact hs.ok y (List.mem_of_mem_drop w)
        · have hl' : decide ((s.length : Int) < 12) = false := decide_eq_false (by omega)
          simp only [hl', Bool.false_and, Bool.and_false, Bool.false_eq_true, if_false, M.ok_bind]
          exact ⟨s, rfl, hs⟩
      · rw [z]
        simp only [hp', Bool.and_true, M.ok_bind, ix1]
        simp only [show (decide ((2 : Int) = 1)) = false from rfl, show (decide ((2 : Int) = 2)) = true from rfl, show (decide ((2 : Int) = 3)) = false from rfl, Bool.false_and, Bool.false_eq_true, if_false, if_true, M.ok_bind, ix1]
        unfold setM
        rw [ixn]
        simp only [M.ok_bind]
        refine ⟨_, rfl, by simp; omega, fun y hy => ?_⟩
        obtain ⟨q1, q2⟩ := hs.ok s[n - 1] (List.getElem_mem i1)
        rcases List.mem_or_eq_of_mem_set hy with w | w
        · exact hs.ok y w
        · rw [w]
          generalize s[n - 1] + 1 - 2 * (c / 52 % 2) = u
          split <;> split <;> constructor <;> omega
      · rw [z]
        simp only [hp', Bool.and_true, M.ok_bind]
        simp only [show (decide ((3 : Int) = 1)) = false from rfl, show (decide ((3 : Int) = 2)) = false from rfl, show (decide ((3 : Int) = 3)) = true from rfl, Bool.false_and, Bool.false_eq_true, if_false, if_true, M.ok_bind]
        have es : seqIndex? ((n : Int) - 1) s.length = some (n - 1) := (ixN_seq ixn).1
        unfold popAtM
        rw [es]
        dsimp only
        rw [chk_pos ⟨by omega, by omega, i1⟩]
        exact ⟨_, rfl, by have := List.length_eraseIdx_le s (n - 1); omega, fun y hy => hs.ok y (List.mem_of_mem_eraseIdx hy)⟩
    · have hp' : decide (0 < pl) = false := decide_eq_false hp
      simp only [hp', Bool.and_false, Bool.false_eq_true, if_false, M.ok_bind]
      exact ⟨s, rfl, hs⟩
theorem turn_ok (d : Option Int) (p : List Int × List Int) (h : m_parted_by p.1 p.2 = .ok d) : m_law_b1 d p () = .ok (.nx ()) := by
  unfold m_law_b1
  rw [h]
  cases d with
  | none => simp [Mw.orM, Mw.andM, Mw.notM]
  | some x => simp [Mw.orM, Mw.andM, Mw.notM, getM, whole_is]
theorem law_true (ns : List Int) (h : ns.length ≤ 63) : m_law ⟨ns⟩ = .ok true := by
  obtain ⟨c, ec⟩ := cell_at_ok ⟨ns⟩ 0
  have ec' : m_law_cell_at ⟨ns⟩ 0 = .ok c := ec
  obtain ⟨c1, ec1⟩ := cell_at_ok ⟨ns⟩ 1
  have ec1' : m_law_cell_at ⟨ns⟩ 1 = .ok c1 := ec1
  have em : modM c 13 = .ok (c % 13) := modM_ok (by omega)
  have f1 : fdivM c1 7 = .ok (c1 / 7) := fdivM_ok (by omega) (by decide +kernel)
  obtain ⟨a, ea, la, _, oa⟩ := stack_ok (cut ns (some 2) (some (2 + c % 13))) [] (fun p hp => nomatch hp)
  have ga : SG a := ⟨la, oa⟩
  have lc := cut_len ns (some (2 + c % 13)) none
  obtain ⟨o, eo, go⟩ := other_ok a (cut ns (some (2 + c % 13)) none) c1 ga (by omega)
  obtain ⟨b, eb, hb⟩ := bad_ok a (c1 / 7) la
  have i0 : ixM [a, o] 0 = .ok a := ixM_of (i := 0) rfl
  have i1 : ixM [a, o] 1 = .ok o := ixM_of (i := 1) rfl
  have daa : (szs a a).find? (differ a a) = none := (due_none ga ga).mpr rfl
  unfold m_law
  dsimp only
  simp only [ec', ec1', M.ok_bind, ne_ok, em, ea, eo, Mw.bind_assoc, i0, i1, due_is a o ga go]
  rw [chk_pos (by simp)]
  simp only [M.ok_bind]
  rw [forM_all]
  · have e1 : decide ((!Option.isSome ((szs a o).find? (differ a o))) = decide (lp a = lp o)) = true := by
      rw [decide_eq_true_eq]
      have := due_none ga go
      cases hf : (szs a o).find? (differ a o) with
      | none => rw [hf] at this; simp [this.mp rfl]
      | some y =>
        rw [hf] at this
        have n : ¬ lp a = lp o := fun z => nomatch this.mpr z
        simp [n]
    simp only [lean_is a ga, lean_is o go, M.ok_bind, ne_ok, e1, parted_is a a ga ga, daa, Mw.orM, Mw.andM, Mw.notM, Bool.not_true, Bool.false_eq_true, if_false, Option.isSome_none, f1, eb, refused_one b _ hb, refused_two o b go hb]
    simp
  · intro p hp
    simp only [List.mem_cons, List.not_mem_nil, or_false] at hp
    rcases hp with z | z
    · rw [z]; exact turn_ok _ _ (parted_is a o ga go)
    · rw [z]; exact turn_ok _ _ (by rw [parted_is o a go ga, parted_swap])

def topS (i : Nat) : Stmt := PySem.Challenge.pw_meshworks_k14_stacks_parted.main.body.getD i (.Pass ⟨0, 0, 0, 0⟩)
section
variable {P : Program} {w : World} {K : PySem.W.Frag} {mg : Str → Option Value} {base : Heap} {ce : Ce}
/-! ### _law_size -/
abbrev s_law_size : Stmt := topS 13
abbrev N_law_size : List Str := ["cell"]
theorem sc_law_size : FnScope N_law_size ["cell"] (defScope s_law_size) := ⟨rfl, rfl, rfl, by decide +kernel, rfl, by decide +kernel, by decide +kernel⟩
abbrev sp_law_size (K : PySem.W.Frag) (ce : Ce) : Sp := SpF0 ce (RC K (α := Int) R0) (rv K (ρ := Int)) (fun a : (Int × Unit) => m_law_size a.1)
theorem ok_law_size {f : Addr} {fd : FuncData} (FF : Fun K "_law_size" "_law_size" s_law_size f fd) : FnOk P w K mg base CX0 1 f fd ["cell"] (sp_law_size K ce) := by
  refine FF.ok sc_law_size (fun vs H0 Q E h => ?_) (fun cdv A outer s H0 vs Q E hr h => ?_)
  · obtain ⟨F0, ⟨a0_cell, _⟩, e0, ⟨v0, _, rfl, r0, rfl⟩, w⟩ := h
    rfl
  · obtain ⟨F0, ⟨a0_cell, _⟩, e0, ⟨v0, _, rfl, r0, rfl⟩, w⟩ := h
    have w := wp_post w
    have G := Gr.rf e0
    have nd := sc_law_size.nd
    have hQ : ∀ r F1 H1 v, Gr F0 H0 F1 H1 → (rv K (ρ := Int)) F0 H0 F1 H1 v r → Fin (rv K (ρ := Int)) F0 H0 Q r → Q v H1 := fun r F1 H1 v g m p => p F1 H1 v g m
    refine ⟨_, (pss_cons (ps_if (pt_cmpR op_eq (pe_op op_mod (pv 0) pe_int) pe_int (nomark _)) (pss_one (ps_ret (pe_op op_add pe_int (pe_op op_mod (pe_op op_fdiv (pv 0) pe_int) pe_int)))) pss_nil)
      (pss_cons (ps_if (pt_cmpR op_eq (pe_op op_mod (pv 0) pe_int) pe_int (nomark _)) (pss_one (ps_ret (pe_op op_add pe_int (pe_op op_mod (pe_op op_fdiv (pv 0) pe_int) pe_int)))) pss_nil)
      (pss_cons (ps_if (pt_cmpR op_eq (pe_op op_mod (pv 0) pe_int) pe_int (nomark _)) (pss_one (ps_ret (pe_op op_sub (pe_op op_pow pe_int pe_int) (pe_op op_mod (pe_op op_fdiv (pv 0) pe_int) pe_int)))) pss_nil)
      (pss_one (ps_ret (pe_op op_add pe_int (pe_op op_mod (pe_op op_fdiv (pv 0) pe_int) (pe_op op_pow pe_int pe_int)))))))), ?_⟩
    have w := show Wp ce E0 H0 (m_law_size a0_cell) _ from w
    unfold m_law_size at w
    refine q_if2 G w (t_of (e2 (e2 (em_var rfl r0) em_int (o_mod (by decide))) em_int o_eqI)) (fun F_10 H_11 g_12 w => ?_) (fun F_10 H_11 g_12 w => ?_)
    · have G := G.tr g_12
      have r0 := Rep.mo (K := K) g_12.ff r0
      exact s_ret0 G w (e2 em_int (e2 (e2 (em_var rfl r0) em_int (o_fdiv ⟨by decide, by decide⟩)) em_int (o_mod (by decide))) o_add) fun r F1 H1 v g m p => hQ r F1 H1 v g m p
    · have G := G.tr g_12
      have r0 := Rep.mo (K := K) g_12.ff r0
      refine s_next ?_
      refine s_nx ?_
      refine q_if2 G w (t_of (e2 (e2 (em_var rfl r0) em_int (o_mod (by decide))) em_int o_eqI)) (fun F_13 H_14 g_15 w => ?_) (fun F_13 H_14 g_15 w => ?_)
      · have G := G.tr g_15
        have r0 := Rep.mo (K := K) g_15.ff r0
        exact s_ret0 G w (e2 em_int (e2 (e2 (em_var rfl r0) em_int (o_fdiv ⟨by decide, by decide⟩)) em_int (o_mod (by decide))) o_add) fun r F1 H1 v g m p => hQ r F1 H1 v g m p
      · have G := G.tr g_15
        have r0 := Rep.mo (K := K) g_15.ff r0
        refine s_next ?_
        refine s_nx ?_
        refine q_if2 G w (t_of (e2 (e2 (em_var rfl r0) em_int (o_mod (by decide))) em_int o_eqI)) (fun F_16 H_17 g_18 w => ?_) (fun F_16 H_17 g_18 w => ?_)
        · have G := G.tr g_18
          have r0 := Rep.mo (K := K) g_18.ff r0
          exact s_ret0 G w (e2 (e_is (e2 em_int em_int (o_pow (by decide))) pow_10_60) (e2 (e2 (em_var rfl r0) em_int (o_fdiv ⟨by decide, by decide⟩)) em_int (o_mod (by decide))) o_sub) fun r F1 H1 v g m p => hQ r F1 H1 v g m p
        · have G := G.tr g_18
          have r0 := Rep.mo (K := K) g_18.ff r0
          refine s_next ?_
          refine s_nx ?_
          exact s_ret0 G w (e2 em_int (e2 (e2 (em_var rfl r0) em_int (o_fdiv ⟨by decide, by decide⟩)) (e_is (e2 em_int em_int (o_pow (by decide))) pow_10_60) (o_mod (by decide))) o_add) fun r F1 H1 v g m p => hQ r F1 H1 v g m p
/-! ### _law_stack -/
abbrev s_law_stack : Stmt := topS 14
abbrev N_law_stack : List Str := ["cells", "lot", "stack", "cell", "opening"]
theorem sc_law_stack : FnScope N_law_stack ["cells", "lot"] (defScope s_law_stack) := ⟨rfl, rfl, rfl, by decide +kernel, rfl, by decide +kernel, by decide +kernel⟩
abbrev sp_law_stack (K : PySem.W.Frag) (ce : Ce) : Sp := SpF0 ce (RC K (α := (List Int)) (RC K (α := (List (Int × Int))) R0)) (rn K (α := Int)) (fun a : ((List Int) × (List (Int × Int)) × Unit) => m_law_stack a.1 a.2.1)
theorem ok_law_stack {f : Addr} {fd : FuncData} (FF : Fun K "_law_stack" "_law_stack" s_law_stack f fd) {a__law_size : Addr} {d__law_size : FuncData} (G__law_size : FnOk P w K mg base CX0 1 a__law_size d__law_size ["cell"] (sp_law_size K ce)) (mg__law_size : mg "_law_size" = some (.ref a__law_size)) (k__law_size : PySem.W.keepIn K (.ref a__law_size) = true) (b__law_size : Binds K d__law_size ["cell"] []) (z_len : mg "len" = none) (z_max : mg "max" = none) : FnOk P w K mg base CX0 2 f fd ["cells", "lot"] (sp_law_stack K ce) := by
  refine FF.ok sc_law_stack (fun vs H0 Q E h => ?_) (fun cdv A outer s H0 vs Q E hr h => ?_)
  · obtain ⟨F0, ⟨a0_cells, a1_lot, _⟩, e0, ⟨v0, _, rfl, r0, ⟨v1, _, rfl, r1, rfl⟩⟩, w⟩ := h
    rfl
  · obtain ⟨F0, ⟨a0_cells, a1_lot, _⟩, e0, ⟨v0, _, rfl, r0, ⟨v1, _, rfl, r1, rfl⟩⟩, w⟩ := h
    have w := wp_post w
    have G := Gr.rf e0
    have nd := sc_law_stack.nd
    have hQ : ∀ r F1 H1 v, Gr F0 H0 F1 H1 → (rn K (α := Int)) F0 H0 F1 H1 v r → Fin (rn K (α := Int)) F0 H0 Q r → Q v H1 := fun r F1 H1 v g m p => p F1 H1 v g m
    refine ⟨_, (pss_cons (ps_set (i := 2) nd rfl (by first | exact Or.inl rfl | exact Or.inr rfl) (pe_lst pa_nil))
      (pss_cons (ps_for (by first | exact PassesOwn.never | exact passes_of rfl) rfl (pi_list (pe_slice (r := rSlL K) sl_list (pv 0) po_none (po_some pe_int))) (pg_name (i := 3) nd rfl (by first | exact Or.inl rfl | exact Or.inr rfl)) (pss_cons (ps_set (i := 4) nd rfl (by first | exact Or.inl rfl | exact Or.inr rfl) (pe_call G__law_size (hr.mono (by decide)) rfl mg__law_size k__law_size b__law_size .nil pass0 (pa_cons (pe_op op_fdiv (pv 3) pe_int) pa_nil)))
      (pss_cons (ps_if (PW.pt (pw_and (pt_cmpR op_eq (pe_op op_mod (pv 3) pe_int) pe_int (nomark _)) (pw_and1 (pt_cmpR op_gt (pe_callB (r := rLenS K) call_len_seq (by rfl) z_len (by decide +kernel) (pa_cons (pv 1) pa_nil)) pe_int (nomark _))))) (pss_one (ps_set (i := 4) nd rfl (by first | exact Or.inl rfl | exact Or.inr rfl) (pe_ix (r := rIxT K) ix_tup (pe_ix (r := rIxL K) ix_list (pv 1) (pe_op op_mod (pe_op op_fdiv (pv 3) pe_int) (pe_callB (r := rLenS K) call_len_seq (by rfl) z_len (by decide +kernel) (pa_cons (pv 1) pa_nil))) (fun _ _ => rfl)) pe_int (fun _ _ => rfl)))) pss_nil)
      (pss_cons (ps_if (PW.pt (pw_and (pt_cmpR op_eq (pe_op op_mod (pv 3) pe_int) pe_int (nomark _)) (pw_and1 (pt_cmpR op_gt (pe_callB (r := rLenS K) call_len_seq (by rfl) z_len (by decide +kernel) (pa_cons (pv 1) pa_nil)) pe_int (nomark _))))) (pss_one (ps_set (i := 4) nd rfl (by first | exact Or.inl rfl | exact Or.inr rfl) (pe_callB (call_max2 rfl) (by rfl) z_max (by decide +kernel) (pa_cons pe_int (pa_cons (pe_op op_sub (pe_ix (r := rIxT K) ix_tup (pe_ix (r := rIxL K) ix_list (pv 1) (pe_op op_mod (pe_op op_fdiv (pv 3) pe_int) (pe_callB (r := rLenS K) call_len_seq (by rfl) z_len (by decide +kernel) (pa_cons (pv 1) pa_nil))) (fun _ _ => rfl)) pe_int (fun _ _ => rfl)) pe_int) pa_nil))))) pss_nil)
      (pss_one (ps_expr (pe_bm PySem.F.plainAttrs_list PySem.F.slot_list_append PySem.F.type_list_append mt_append (pv 2) (pa_cons (pv 4) pa_nil))))))))
      (pss_one (ps_ret (pv 2))))), ?_⟩
    have w := show Wp ce E0 H0 (m_law_stack a0_cells a1_lot) _ from w
    unfold m_law_stack at w
    refine q_asgN (K := K) G w (e_lst (el_nil (α := Int)) (by decide)) fun stack_132 F_133 H_134 p_136 g_135 n_137 o_138 w => ?_
    have n0p_136 := ex_back G.hh n_137
    have G := G.tr g_135
    have r0 := Rep.mo (K := K) g_135.ff r0
    have r1 := Rep.mo (K := K) g_135.ff r1
    refine q_for (S := (List Int)) (fun s F' H' σ' => ∃ (z_139 : Option V) (z_140 : Option V), σ' = [some v0, some v1, some (.ref p_136), z_139, z_140] ∧ Gr F0 H0 F' H' ∧ Ex F_133 F' ∧ Own K (T := (List Int)) F' H' p_136 s) G (ei_list (Ev.nv (e_sl (em_var rfl r0) eo_none (eo_some' (K := K) em_int)))) (tg_name (K := K)) w (fun _ _ g_240 => ⟨_, _, rfl, G.tr g_240, g_240.ff, o_138.mo g_240⟩) (fun _ _ _ _ ⟨_, _, _, G, _⟩ => G) ?_ ?_
    · rintro x_142 s_141 F_143 H_144 _ ⟨z_139, z_140, hs_145, G, e_146, o_147⟩ F_148 H_149 σ_150 g_151 ⟨v_159, h_161, r_160⟩ D_156 P_157 hrt_158 hN_152 hC_153 hB_154 hP_155 w
      subst hs_145
      subst h_161
      have r0 := Rep.mo (K := K) e_146 r0
      have r1 := Rep.mo (K := K) e_146 r1
      have G := G.tr g_151
      have r0 := Rep.mo (K := K) g_151.ff r0
      have r1 := Rep.mo (K := K) g_151.ff r1
      have o_147 := o_147.mo g_151
      have e_146 := Ex.tr e_146 g_151.ff
      have e_162 := Ex.rf F_148
      have hQ : ∀ r F1 H1 v, Gr F0 H0 F1 H1 → (rn K (α := Int)) F0 H0 F1 H1 v r → P_157 (.rt r) → D_156.rt v H1 := fun r F1 H1 v g m p => by rw [hrt_158]; exact hQ r F1 H1 v g m (hP_155 _ p)
      unfold m_law_stack_b1 at w
      refine q_asg G w (e_call0 (f := (fun a : (Int × Unit) => m_law_size a.1)) (x := ((x_142 / (3 : Int)), ())) (e_cons (e2 (em_var rfl r_160) em_int (o_fdiv ⟨by decide, by decide⟩)) ea_nil)) fun opening_163 F_164 H_165 v_167 g_166 r_168 w => ?_
      have G := G.tr g_166
      have r0 := Rep.mo (K := K) g_166.ff r0
      have r1 := Rep.mo (K := K) g_166.ff r1
      have o_147 := o_147.mo g_166
      have r_160 := Rep.mo (K := K) g_166.ff r_160
      have e_146 := Ex.tr e_146 g_166.ff
      have e_162 := Ex.tr e_162 g_166.ff
      refine q_join (W := Int) (fun s F' H' σ' => ∃ (v_173 : V), σ' = [some v0, some v1, some (.ref p_136), some v_159, some v_173] ∧ Gr F0 H0 F' H' ∧ Ex F_164 F' ∧ rp (α := Int) K F' v_173 s ∧ Own K (T := (List Int)) F' H' p_136 s_141) w ?_ ?_
      · rintro s_172 F_178 H_179 σs_172 ⟨v_173, hs_174, G, e_175, r_176, o_177⟩ w
        subst hs_174
        have r0 := Rep.mo (K := K) e_175 r0
        have r1 := Rep.mo (K := K) e_175 r1
        have r_160 := Rep.mo (K := K) e_175 r_160
        have e_146 := Ex.tr e_146 e_175
        have e_162 := Ex.tr e_162 e_175
        refine q_join (W := Int) (fun s F' H' σ' => ∃ (v_184 : V), σ' = [some v0, some v1, some (.ref p_136), some v_159, some v_184] ∧ Gr F0 H0 F' H' ∧ Ex F_178 F' ∧ rp (α := Int) K F' v_184 s ∧ Own K (T := (List Int)) F' H' p_136 s_141) w ?_ ?_
        · rintro s_183 F_189 H_190 σs_183 ⟨v_184, hs_185, G, e_186, r_187, o_188⟩ w
          subst hs_185
          have r0 := Rep.mo (K := K) e_186 r0
          have r1 := Rep.mo (K := K) e_186 r1
          have r_160 := Rep.mo (K := K) e_186 r_160
          have e_146 := Ex.tr e_146 e_186
          have e_162 := Ex.tr e_162 e_186
          refine s_app rfl o_188 n0p_136 G w (em_var rfl r_187) fun stack_191 F_192 H_193 e_194 G o_195 hO_196 w => ?_
          have r0 := Rep.mo (K := K) e_194 r0
          have r1 := Rep.mo (K := K) e_194 r1
          have r_160 := Rep.mo (K := K) e_194 r_160
          have r_187 := Rep.mo (K := K) e_194 r_187
          have e_146 := Ex.tr e_146 e_194
          have e_162 := Ex.tr e_162 e_194
          exact hN_152 _ w _ _ _ e_162 ⟨_, _, rfl, G, e_146, o_195⟩
        · intro P_199 hk_198 w
          refine s_if2 G w (t_and (t_of (e2 (e2 (em_var rfl r_160) em_int (o_mod (by decide))) em_int o_eqI)) (t_of (e2 (e_cb (e_cons (em_var rfl r1) ea_nil) a_len) em_int o_gt))) (fun F_180 H_181 g_182 w => ?_) (fun F_180 H_181 g_182 w => ?_)
          · have e_200 : Ex F_178 F_180 := g_182.ff
            have G := G.tr g_182
            have r0 := Rep.mo (K := K) g_182.ff r0
            have r1 := Rep.mo (K := K) g_182.ff r1
            have o_177 := o_177.mo g_182
            have r_160 := Rep.mo (K := K) g_182.ff r_160
            have r_176 := Rep.mo (K := K) g_182.ff r_176
            have e_146 := Ex.tr e_146 g_182.ff
            have e_162 := Ex.tr e_162 g_182.ff
            refine s_asg G w (em_cb (ea_cons em_int (ea_cons (em_op (em_ix (em_op (em_var rfl r1) (em_op (e2 (em_var rfl r_160) em_int (o_fdiv ⟨by decide, by decide⟩)) (e_cb (e_cons (em_var rfl r1) ea_nil) a_len) fun _ _ => o_modM) fun _ _ => o_ixL) em_int fun _ => o_fst rfl) em_int fun _ _ => o_sub) ea_nil)) fun _ => a_max2) fun opening_213 F_214 H_215 v_217 g_216 r_218 w => ?_
            have G := G.tr g_216
            have r0 := Rep.mo (K := K) g_216.ff r0
            have r1 := Rep.mo (K := K) g_216.ff r1
            have o_177 := o_177.mo g_216
            have r_160 := Rep.mo (K := K) g_216.ff r_160
            have e_146 := Ex.tr e_146 g_216.ff
            have e_162 := Ex.tr e_162 g_216.ff
            have e_200 := Ex.tr e_200 g_216.ff
            exact hk_198 _ w _ _ _ ⟨_, rfl, G, e_200, r_218, o_177⟩
          · have e_200 : Ex F_178 F_180 := g_182.ff
            have G := G.tr g_182
            have r0 := Rep.mo (K := K) g_182.ff r0
            have r1 := Rep.mo (K := K) g_182.ff r1
            have o_177 := o_177.mo g_182
            have r_160 := Rep.mo (K := K) g_182.ff r_160
            have r_176 := Rep.mo (K := K) g_182.ff r_176
            have e_146 := Ex.tr e_146 g_182.ff
            have e_162 := Ex.tr e_162 g_182.ff
            refine s_next ?_
            exact hk_198 _ w _ _ _ ⟨_, rfl, G, e_200, r_176, o_177⟩
      · intro P_220 hk_219 w
        refine s_if2 G w (t_and (t_of (e2 (e2 (em_var rfl r_160) em_int (o_mod (by decide))) em_int o_eqI)) (t_of (e2 (e_cb (e_cons (em_var rfl r1) ea_nil) a_len) em_int o_gt))) (fun F_169 H_170 g_171 w => ?_) (fun F_169 H_170 g_171 w => ?_)
        · have e_221 : Ex F_164 F_169 := g_171.ff
          have G := G.tr g_171
          have r0 := Rep.mo (K := K) g_171.ff r0
          have r1 := Rep.mo (K := K) g_171.ff r1
          have o_147 := o_147.mo g_171
          have r_160 := Rep.mo (K := K) g_171.ff r_160
          have r_168 := Rep.mo (K := K) g_171.ff r_168
          have e_146 := Ex.tr e_146 g_171.ff
          have e_162 := Ex.tr e_162 g_171.ff
          refine s_asg G w (em_ix (em_op (em_var rfl r1) (em_op (e2 (em_var rfl r_160) em_int (o_fdiv ⟨by decide, by decide⟩)) (e_cb (e_cons (em_var rfl r1) ea_nil) a_len) fun _ _ => o_modM) fun _ _ => o_ixL) em_int fun _ => o_fst rfl) fun opening_227 F_228 H_229 v_231 g_230 r_232 w => ?_
          have G := G.tr g_230
          have r0 := Rep.mo (K := K) g_230.ff r0
          have r1 := Rep.mo (K := K) g_230.ff r1
          have o_147 := o_147.mo g_230
          have r_160 := Rep.mo (K := K) g_230.ff r_160
          have e_146 := Ex.tr e_146 g_230.ff
          have e_162 := Ex.tr e_162 g_230.ff
          have e_221 := Ex.tr e_221 g_230.ff
          exact hk_219 _ w _ _ _ ⟨_, rfl, G, e_221, r_232, o_147⟩
        · have e_221 : Ex F_164 F_169 := g_171.ff
          have G := G.tr g_171
          have r0 := Rep.mo (K := K) g_171.ff r0
          have r1 := Rep.mo (K := K) g_171.ff r1
          have o_147 := o_147.mo g_171
          have r_160 := Rep.mo (K := K) g_171.ff r_160
          have r_168 := Rep.mo (K := K) g_171.ff r_168
          have e_146 := Ex.tr e_146 g_171.ff
          have e_162 := Ex.tr e_162 g_171.ff
          refine s_next ?_
          exact hk_219 _ w _ _ _ ⟨_, rfl, G, e_221, r_168, o_147⟩
    · rintro s_236 F_237 H_238 _ e_239 ⟨z_139, z_140, hs_233, G, e_234, o_235⟩ w
      subst hs_233
      have r0 := Rep.mo (K := K) e_234 r0
      have r1 := Rep.mo (K := K) e_234 r1
      exact ⟨_, rfl, hQ _ _ _ _ G (rn_own o_235 n0p_136) w⟩
/-! ### _law_other -/
abbrev s_law_other : Stmt := topS 18
abbrev N_law_other : List Str := ["stack", "cells", "cell", "how", "other", "place", "opening"]
theorem sc_law_other : FnScope N_law_other ["stack", "cells", "cell"] (defScope s_law_other) := ⟨rfl, rfl, rfl, by decide +kernel, rfl, by decide +kernel, by decide +kernel⟩
abbrev sp_law_other (K : PySem.W.Frag) (ce : Ce) : Sp := SpF0 ce (RC K (α := (List Int)) (RC K (α := (List Int)) (RC K (α := Int) R0))) (rn K (α := Int)) (fun a : ((List Int) × (List Int) × Int × Unit) => m_law_other a.1 a.2.1 a.2.2.1)
theorem ok_law_other {f : Addr} {fd : FuncData} (FF : Fun K "_law_other" "_law_other" s_law_other f fd) {a__law_stack : Addr} {d__law_stack : FuncData} (G__law_stack : FnOk P w K mg base CX0 2 a__law_stack d__law_stack ["cells", "lot"] (sp_law_stack K ce)) (mg__law_stack : mg "_law_stack" = some (.ref a__law_stack)) (k__law_stack : PySem.W.keepIn K (.ref a__law_stack) = true) (b__law_stack : Binds K d__law_stack ["cells", "lot"] []) (z_len : mg "len" = none) (z_list : mg "list" = none) (z_max : mg "max" = none) (z_min : mg "min" = none) : FnOk P w K mg base CX0 3 f fd ["stack", "cells", "cell"] (sp_law_other K ce) := by
  refine FF.ok sc_law_other (fun vs H0 Q E h => ?_) (fun cdv A outer s H0 vs Q E hr h => ?_)
  · obtain ⟨F0, ⟨a0_stack, a1_cells, a2_cell, _⟩, e0, ⟨v0, _, rfl, r0, ⟨v1, _, rfl, r1, ⟨v2, _, rfl, r2, rfl⟩⟩⟩, w⟩ := h
    rfl
  · obtain ⟨F0, ⟨a0_stack, a1_cells, a2_cell, _⟩, e0, ⟨v0, _, rfl, r0, ⟨v1, _, rfl, r1, ⟨v2, _, rfl, r2, rfl⟩⟩⟩, w⟩ := h
    have w := wp_post w
    have G := Gr.rf e0
    have nd := sc_law_other.nd
    have hQ : ∀ r F1 H1 v, Gr F0 H0 F1 H1 → (rn K (α := Int)) F0 H0 F1 H1 v r → Fin (rn K (α := Int)) F0 H0 Q r → Q v H1 := fun r F1 H1 v g m p => p F1 H1 v g m
    refine ⟨_, (pss_cons (ps_set (i := 3) nd rfl (by first | exact Or.inl rfl | exact Or.inr rfl) (pe_op op_mod (pv 2) pe_int))
      (pss_cons (ps_set (i := 4) nd rfl (by first | exact Or.inl rfl | exact Or.inr rfl) (pe_callTy (r := rListS K) call_list_of (by rfl) z_list (by decide +kernel) (pa_cons (pv 0) pa_nil)))
      (pss_cons (ps_set (i := 5) nd rfl (by first | exact Or.inl rfl | exact Or.inr rfl) (pe_op op_mod (pe_op op_fdiv (pv 2) pe_int) (pe_op op_add (pe_callB (r := rLenS K) call_len_seq (by rfl) z_len (by decide +kernel) (pa_cons (pv 0) pa_nil)) pe_int)))
      (pss_cons (ps_if (pt_cmpR op_eq (pv 3) pe_int (nomark _)) (pss_one (ps_ret (pe_call G__law_stack (hr.mono (by decide)) rfl mg__law_stack k__law_stack b__law_stack .nil pass0 (pa_cons (pv 1) (pa_cons (pe_lc (own := [("opening", 6)]) (g := (gName 6)) (by rfl) nd (pi_list (pv 0)) (blkOk_by (own := [("opening", 6)]) (N := N_law_other) (sc := defScope s_law_other) (by decide +kernel)) (fun _ _ _ _ _ => (pg_name (i := 6) nd rfl (by first | exact Or.inl rfl | exact Or.inr rfl))) (fun _ _ _ _ _ => pts_nil) (fun _ _ _ _ _ => (pe_tup (pa_cons (pv 6) (pa_cons pe_int pa_nil))))) pa_nil))))) pss_nil)
      (pss_cons (ps_if (PW.pt (pw_and (pt_cmpR op_eq (pv 3) pe_int (nomark _)) (pw_and (pt_cmpR op_lt (pe_callB (r := rLenS K) call_len_seq (by rfl) z_len (by decide +kernel) (pa_cons (pv 0) pa_nil)) pe_int (nomark _)) (pw_and1 (pt_cmpR op_gt (pv 5) pe_int (nomark _)))))) (pss_one (ps_expr (pe_bm (r := rIns) PySem.F.plainAttrs_list PySem.F.slot_list_insert PySem.F.type_list_insert mt_insert (pv 4) (pa_cons (pv 5) (pa_cons (pe_callB (call_min2 rfl) (by rfl) z_min (by decide +kernel) (pa_cons (pe_op op_pow pe_int pe_int) (pa_cons (pe_op op_add (pe_ix (r := rIxL K) ix_list (pv 0) (pe_op op_mod (pe_op op_fdiv (pv 2) pe_int) (pv 5)) (fun _ _ => rfl)) (pe_op op_mod (pe_op op_fdiv (pv 2) pe_int) pe_int)) pa_nil))) pa_nil))))) pss_nil)
      (pss_cons (ps_if (PW.pt (pw_and (pt_cmpR op_eq (pv 3) pe_int (nomark _)) (pw_and1 (pt_cmpR op_gt (pv 5) pe_int (nomark _))))) (pss_one (ps_asg (pe_callB (call_max2 rfl) (by rfl) z_max (by decide +kernel) (pa_cons pe_int (pa_cons (pe_callB (call_min2 rfl) (by rfl) z_min (by decide +kernel) (pa_cons (pe_op op_pow pe_int pe_int) (pa_cons (pe_op op_sub (pe_op op_add (pe_ix (r := rIxL K) ix_list (pv 4) (pe_op op_sub (pv 5) pe_int) (fun _ _ => rfl)) pe_int) (pe_op op_mul pe_int (pe_op op_mod (pe_op op_fdiv (pv 2) pe_int) pe_int))) pa_nil))) pa_nil))) (pg_sub (pv 4) (pe_op op_sub (pv 5) pe_int) set_list))) pss_nil)
      (pss_cons (ps_if (PW.pt (pw_and (pt_cmpR op_eq (pv 3) pe_int (nomark _)) (pw_and1 (pt_cmpR op_gt (pv 5) pe_int (nomark _))))) (pss_one (ps_expr (pe_bm (r := rPopAt) PySem.F.plainAttrs_list PySem.F.slot_list_pop PySem.F.type_list_pop mt_popAt (pv 4) (pa_cons (pe_op op_sub (pv 5) pe_int) pa_nil)))) pss_nil)
      (pss_one (ps_ret (pv 4)))))))))), ?_⟩
    have w := show Wp ce E0 H0 (m_law_other a0_stack a1_cells a2_cell) _ from w
    unfold m_law_other at w
    refine q_asg G w (e2 (em_var rfl r2) em_int (o_mod (by decide))) fun how_367 F_368 H_369 v_371 g_370 r_372 w => ?_
    have G := G.tr g_370
    have r0 := Rep.mo (K := K) g_370.ff r0
    have r1 := Rep.mo (K := K) g_370.ff r1
    have r2 := Rep.mo (K := K) g_370.ff r2
    refine q_asgN (K := K) G w (e_cb (e_cons (em_var rfl r0) ea_nil) a_list) fun other_373 F_374 H_375 p_377 g_376 n_378 o_379 w => ?_
    have n0p_377 := ex_back G.hh n_378
    have G := G.tr g_376
    have r0 := Rep.mo (K := K) g_376.ff r0
    have r1 := Rep.mo (K := K) g_376.ff r1
    have r2 := Rep.mo (K := K) g_376.ff r2
    have r_372 := Rep.mo (K := K) g_376.ff r_372
    refine q_asg G w (em_op (e2 (em_var rfl r2) em_int (o_fdiv ⟨by decide, by decide⟩)) (e2 (e_cb (e_cons (em_var rfl r0) ea_nil) a_len) em_int o_add) fun _ _ => o_modM) fun place_382 F_383 H_384 v_386 g_385 r_387 w => ?_
    have G := G.tr g_385
    have r0 := Rep.mo (K := K) g_385.ff r0
    have r1 := Rep.mo (K := K) g_385.ff r1
    have r2 := Rep.mo (K := K) g_385.ff r2
    have r_372 := Rep.mo (K := K) g_385.ff r_372
    have o_379 := o_379.mo g_385
    refine q_if2 G w (t_of (e2 (em_var rfl r_372) em_int o_eqI)) (fun F_388 H_389 g_390 w => ?_) (fun F_388 H_389 g_390 w => ?_)
    · have G := G.tr g_390
      have r0 := Rep.mo (K := K) g_390.ff r0
      have r1 := Rep.mo (K := K) g_390.ff r1
      have r2 := Rep.mo (K := K) g_390.ff r2
      have r_372 := Rep.mo (K := K) g_390.ff r_372
      have o_379 := o_379.mo g_390
      have r_387 := Rep.mo (K := K) g_390.ff r_387
      exact s_retN0 G w (em_call0 (f := (fun a : ((List Int) × (List (Int × Int)) × Unit) => m_law_stack a.1 a.2.1)) (ea_cons (em_var rfl r1) (ea_cons (Ev.nv (em_lc (c := (fun x_392 : Int => (M.ok true))) (e := (fun x_392 : Int => (M.ok (x_392, (1 : Int))))) (ei_list (em_var rfl r0)) (tg_name (K := K)) (fun _ _ _ ⟨_, h, _⟩ => by rw [h]; exact wipe1) (fun x_392 _ _ _ g_391 ⟨v_393, h_395, r_394⟩ => by subst h_395; exact t_yes) (fun x_392 _ _ _ g_391 ⟨v_393, h_395, r_394⟩ => by subst h_395; exact (e_tup2 (em_var rfl r_394) em_int)))) ea_nil))) fun r F1 H1 v g m p => hQ r F1 H1 v g m p
    · have G := G.tr g_390
      have r0 := Rep.mo (K := K) g_390.ff r0
      have r1 := Rep.mo (K := K) g_390.ff r1
      have r2 := Rep.mo (K := K) g_390.ff r2
      have r_372 := Rep.mo (K := K) g_390.ff r_372
      have o_379 := o_379.mo g_390
      have r_387 := Rep.mo (K := K) g_390.ff r_387
      refine s_next ?_
      refine s_nx ?_
      refine q_join (W := (List Int)) (fun s F' H' σ' => σ' = [some v0, some v1, some v2, some v_371, some (.ref p_377), some v_386, none] ∧ Gr F0 H0 F' H' ∧ Ex F_388 F' ∧ Own K (T := (List Int)) F' H' p_377 s) w ?_ ?_
      · rintro s_405 F_409 H_410 σs_405 ⟨hs_406, G, e_407, o_408⟩ w
        subst hs_406
        have r0 := Rep.mo (K := K) e_407 r0
        have r1 := Rep.mo (K := K) e_407 r1
        have r2 := Rep.mo (K := K) e_407 r2
        have r_372 := Rep.mo (K := K) e_407 r_372
        have r_387 := Rep.mo (K := K) e_407 r_387
        refine q_join (W := (List Int)) (fun s F' H' σ' => σ' = [some v0, some v1, some v2, some v_371, some (.ref p_377), some v_386, none] ∧ Gr F0 H0 F' H' ∧ Ex F_409 F' ∧ Own K (T := (List Int)) F' H' p_377 s) w ?_ ?_
        · rintro s_414 F_418 H_419 σs_414 ⟨hs_415, G, e_416, o_417⟩ w
          subst hs_415
          have r0 := Rep.mo (K := K) e_416 r0
          have r1 := Rep.mo (K := K) e_416 r1
          have r2 := Rep.mo (K := K) e_416 r2
          have r_372 := Rep.mo (K := K) e_416 r_372
          have r_387 := Rep.mo (K := K) e_416 r_387
          refine q_join (W := (List Int)) (fun s F' H' σ' => σ' = [some v0, some v1, some v2, some v_371, some (.ref p_377), some v_386, none] ∧ Gr F0 H0 F' H' ∧ Ex F_418 F' ∧ Own K (T := (List Int)) F' H' p_377 s) w ?_ ?_
          · rintro s_423 F_427 H_428 σs_423 ⟨hs_424, G, e_425, o_426⟩ w
            subst hs_424
            have r0 := Rep.mo (K := K) e_425 r0
            have r1 := Rep.mo (K := K) e_425 r1
            have r2 := Rep.mo (K := K) e_425 r2
            have r_372 := Rep.mo (K := K) e_425 r_372
            have r_387 := Rep.mo (K := K) e_425 r_387
            exact ⟨_, rfl, hQ _ _ _ _ G (rn_own o_426 n0p_377) w⟩
          · intro P_430 hk_429 w
            refine s_if2 G w (t_and (t_of (e2 (em_var rfl r_372) em_int o_eqI)) (t_of (e2 (em_var rfl r_387) em_int o_gt))) (fun F_420 H_421 g_422 w => ?_) (fun F_420 H_421 g_422 w => ?_)
            · have e_431 : Ex F_418 F_420 := g_422.ff
              have G := G.tr g_422
              have r0 := Rep.mo (K := K) g_422.ff r0
              have r1 := Rep.mo (K := K) g_422.ff r1
              have r2 := Rep.mo (K := K) g_422.ff r2
              have r_372 := Rep.mo (K := K) g_422.ff r_372
              have o_417 := o_417.mo g_422
              have r_387 := Rep.mo (K := K) g_422.ff r_387
              refine s_popl [] rfl o_417 n0p_377 G w (fun _ m => nomatch m) (fun _ m => nomatch m) (e2 (em_var rfl (Rep.mo (fz_ex G.fh) r_387)) em_int o_sub) fun other_432 F_433 H_434 e_435 G o_436 hO_437 w => ?_
              have r0 := Rep.mo (K := K) e_435 r0
              have r1 := Rep.mo (K := K) e_435 r1
              have r2 := Rep.mo (K := K) e_435 r2
              have r_372 := Rep.mo (K := K) e_435 r_372
              have r_387 := Rep.mo (K := K) e_435 r_387
              have e_431 := Ex.tr e_431 e_435
              exact hk_429 _ w _ _ _ ⟨rfl, G, e_431, o_436⟩
            · have e_431 : Ex F_418 F_420 := g_422.ff
              have G := G.tr g_422
              have r0 := Rep.mo (K := K) g_422.ff r0
              have r1 := Rep.mo (K := K) g_422.ff r1
              have r2 := Rep.mo (K := K) g_422.ff r2
              have r_372 := Rep.mo (K := K) g_422.ff r_372
              have o_417 := o_417.mo g_422
              have r_387 := Rep.mo (K := K) g_422.ff r_387
              refine s_next ?_
              exact hk_429 _ w _ _ _ ⟨rfl, G, e_431, o_417⟩
        · intro P_441 hk_440 w
          refine s_if2 G w (t_and (t_of (e2 (em_var rfl r_372) em_int o_eqI)) (t_of (e2 (em_var rfl r_387) em_int o_gt))) (fun F_411 H_412 g_413 w => ?_) (fun F_411 H_412 g_413 w => ?_)
          · have e_442 : Ex F_409 F_411 := g_413.ff
            have G := G.tr g_413
            have r0 := Rep.mo (K := K) g_413.ff r0
            have r1 := Rep.mo (K := K) g_413.ff r1
            have r2 := Rep.mo (K := K) g_413.ff r2
            have r_372 := Rep.mo (K := K) g_413.ff r_372
            have o_408 := o_408.mo g_413
            have r_387 := Rep.mo (K := K) g_413.ff r_387
            refine s_setl [p_377] rfl o_408 n0p_377 G w (own1 o_408.f) (own1 o_408.ls) (em_cb (ea_cons em_int (ea_cons (em_cb (ea_cons (e_is (e2 em_int em_int (o_pow (by decide))) pow_10_60) (ea_cons (em_op (em_op (em_op (em_var rfl (o_408.lent G.fh (by simp))) (e2 (em_var rfl (Rep.mo (fz_ex G.fh) r_387)) em_int o_sub) fun _ _ => o_ixL) em_int fun _ _ => o_add) (e2 em_int (e2 (e2 (em_var rfl (Rep.mo (fz_ex G.fh) r2)) em_int (o_fdiv ⟨by decide, by decide⟩)) em_int (o_mod (by decide))) (o_mulL (.inl ⟨by decide, by decide⟩))) fun _ _ => o_sub) ea_nil)) fun _ => a_min2) ea_nil)) fun _ => a_max2) (e2 (em_var rfl (Rep.mo (fz_ex G.fh) r_387)) em_int o_sub) fun other_445 F_446 H_447 e_448 G o_449 hO_450 w => ?_
            have r0 := Rep.mo (K := K) e_448 r0
            have r1 := Rep.mo (K := K) e_448 r1
            have r2 := Rep.mo (K := K) e_448 r2
            have r_372 := Rep.mo (K := K) e_448 r_372
            have r_387 := Rep.mo (K := K) e_448 r_387
            have e_442 := Ex.tr e_442 e_448
            exact hk_440 _ w _ _ _ ⟨rfl, G, e_442, o_449⟩
          · have e_442 : Ex F_409 F_411 := g_413.ff
            have G := G.tr g_413
            have r0 := Rep.mo (K := K) g_413.ff r0
            have r1 := Rep.mo (K := K) g_413.ff r1
            have r2 := Rep.mo (K := K) g_413.ff r2
            have r_372 := Rep.mo (K := K) g_413.ff r_372
            have o_408 := o_408.mo g_413
            have r_387 := Rep.mo (K := K) g_413.ff r_387
            refine s_next ?_
            exact hk_440 _ w _ _ _ ⟨rfl, G, e_442, o_408⟩
      · intro P_468 hk_467 w
        refine s_if2 G w (t_and (t_of (e2 (em_var rfl r_372) em_int o_eqI)) (t_and (t_of (e2 (e_cb (e_cons (em_var rfl r0) ea_nil) a_len) em_int o_lt)) (t_of (e2 (em_var rfl r_387) em_int o_gt)))) (fun F_402 H_403 g_404 w => ?_) (fun F_402 H_403 g_404 w => ?_)
        · have e_469 : Ex F_388 F_402 := g_404.ff
          have G := G.tr g_404
          have r0 := Rep.mo (K := K) g_404.ff r0
          have r1 := Rep.mo (K := K) g_404.ff r1
          have r2 := Rep.mo (K := K) g_404.ff r2
          have r_372 := Rep.mo (K := K) g_404.ff r_372
          have o_379 := o_379.mo g_404
          have r_387 := Rep.mo (K := K) g_404.ff r_387
          refine s_insl [] rfl o_379 n0p_377 G w (fun _ m => nomatch m) (fun _ m => nomatch m) (em_var rfl (Rep.mo (fz_ex G.fh) r_387)) (em_cb (ea_cons (e_is (e2 em_int em_int (o_pow (by decide))) pow_10_60) (ea_cons (em_op (em_op (em_var rfl (Rep.mo (fz_ex G.fh) r0)) (em_op (e2 (em_var rfl (Rep.mo (fz_ex G.fh) r2)) em_int (o_fdiv ⟨by decide, by decide⟩)) (em_var rfl (Rep.mo (fz_ex G.fh) r_387)) fun _ _ => o_modM) fun _ _ => o_ixL) (e2 (e2 (em_var rfl (Rep.mo (fz_ex G.fh) r2)) em_int (o_fdiv ⟨by decide, by decide⟩)) em_int (o_mod (by decide))) fun _ _ => o_add) ea_nil)) fun _ => a_min2) fun other_470 F_471 H_472 e_473 G o_474 hO_475 w => ?_
          have r0 := Rep.mo (K := K) e_473 r0
          have r1 := Rep.mo (K := K) e_473 r1
          have r2 := Rep.mo (K := K) e_473 r2
          have r_372 := Rep.mo (K := K) e_473 r_372
          have r_387 := Rep.mo (K := K) e_473 r_387
          have e_469 := Ex.tr e_469 e_473
          exact hk_467 _ w _ _ _ ⟨rfl, G, e_469, o_474⟩
        · have e_469 : Ex F_388 F_402 := g_404.ff
          have G := G.tr g_404
          have r0 := Rep.mo (K := K) g_404.ff r0
          have r1 := Rep.mo (K := K) g_404.ff r1
          have r2 := Rep.mo (K := K) g_404.ff r2
          have r_372 := Rep.mo (K := K) g_404.ff r_372
          have o_379 := o_379.mo g_404
          have r_387 := Rep.mo (K := K) g_404.ff r_387
          refine s_next ?_
          exact hk_467 _ w _ _ _ ⟨rfl, G, e_469, o_379⟩
/-! ### _law_held -/
abbrev s_law_held : Stmt := topS 16
abbrev N_law_held : List Str := ["stack", "size", "opening"]
theorem sc_law_held : FnScope N_law_held ["stack", "size"] (defScope s_law_held) := ⟨rfl, rfl, rfl, by decide +kernel, rfl, by decide +kernel, by decide +kernel⟩
abbrev sp_law_held (K : PySem.W.Frag) (ce : Ce) : Sp := SpF0 ce (RC K (α := (List Int)) (RC K (α := Int) R0)) (rv K (ρ := Int)) (fun a : ((List Int) × Int × Unit) => m_law_held a.1 a.2.1)
theorem ok_law_held {f : Addr} {fd : FuncData} (FF : Fun K "_law_held" "_law_held" s_law_held f fd) : FnOk P w K mg base CX0 1 f fd ["stack", "size"] (sp_law_held K ce) := by
  refine FF.ok sc_law_held (fun vs H0 Q E h => ?_) (fun cdv A outer s H0 vs Q E hr h => ?_)
  · obtain ⟨F0, ⟨a0_stack, a1_size, _⟩, e0, ⟨v0, _, rfl, r0, ⟨v1, _, rfl, r1, rfl⟩⟩, w⟩ := h
    rfl
  · obtain ⟨F0, ⟨a0_stack, a1_size, _⟩, e0, ⟨v0, _, rfl, r0, ⟨v1, _, rfl, r1, rfl⟩⟩, w⟩ := h
    have w := wp_post w
    have G := Gr.rf e0
    have nd := sc_law_held.nd
    have hQ : ∀ r F1 H1 v, Gr F0 H0 F1 H1 → (rv K (ρ := Int)) F0 H0 F1 H1 v r → Fin (rv K (ρ := Int)) F0 H0 Q r → Q v H1 := fun r F1 H1 v g m p => p F1 H1 v g m
    refine ⟨_, (pss_cons (ps_for (by first | exact PassesOwn.never | exact passes_of rfl) rfl (pi_list (pv 0)) (pg_name (i := 2) nd rfl (by first | exact Or.inl rfl | exact Or.inr rfl)) (pss_one (ps_if (pt_cmpR op_lt (pv 2) (pv 1) (nomark _)) (pss_one (ps_ret (pv 2))) pss_nil)))
      (pss_one (ps_ret pe_int))), ?_⟩
    have w := show Wp ce E0 H0 (m_law_held a0_stack a1_size) _ from w
    unfold m_law_held at w
    refine q_for (S := Unit) (fun s F' H' σ' => ∃ (z_523 : Option V), σ' = [some v0, some v1, z_523] ∧ Gr F0 H0 F' H' ∧ Ex F0 F') G (ei_list (em_var rfl r0)) (tg_name (K := K)) w (fun _ _ g_555 => ⟨_, rfl, G.tr g_555, g_555.ff⟩) (fun _ _ _ _ ⟨_, _, G, _⟩ => G) ?_ ?_
    · rintro x_525 s_524 F_526 H_527 _ ⟨z_523, hs_528, G, e_529⟩ F_530 H_531 σ_532 g_533 ⟨v_541, h_543, r_542⟩ D_538 P_539 hrt_540 hN_534 hC_535 hB_536 hP_537 w
      subst hs_528
      subst h_543
      have r0 := Rep.mo (K := K) e_529 r0
      have r1 := Rep.mo (K := K) e_529 r1
      have G := G.tr g_533
      have r0 := Rep.mo (K := K) g_533.ff r0
      have r1 := Rep.mo (K := K) g_533.ff r1
      have e_529 := Ex.tr e_529 g_533.ff
      have e_544 := Ex.rf F_530
      have hQ : ∀ r F1 H1 v, Gr F0 H0 F1 H1 → (rv K (ρ := Int)) F0 H0 F1 H1 v r → P_539 (.rt r) → D_538.rt v H1 := fun r F1 H1 v g m p => by rw [hrt_540]; exact hQ r F1 H1 v g m (hP_537 _ p)
      unfold m_law_held_b1 at w
      refine s_if2 G w (t_of (e2 (em_var rfl r_542) (em_var rfl r1) o_lt)) (fun F_545 H_546 g_547 w => ?_) (fun F_545 H_546 g_547 w => ?_)
      · have G := G.tr g_547
        have r0 := Rep.mo (K := K) g_547.ff r0
        have r1 := Rep.mo (K := K) g_547.ff r1
        have r_542 := Rep.mo (K := K) g_547.ff r_542
        have e_529 := Ex.tr e_529 g_547.ff
        have e_544 := Ex.tr e_544 g_547.ff
        exact s_ret G w (em_var rfl r_542) fun r F1 H1 v g m p => hQ r F1 H1 v g m p
      · have G := G.tr g_547
        have r0 := Rep.mo (K := K) g_547.ff r0
        have r1 := Rep.mo (K := K) g_547.ff r1
        have r_542 := Rep.mo (K := K) g_547.ff r_542
        have e_529 := Ex.tr e_529 g_547.ff
        have e_544 := Ex.tr e_544 g_547.ff
        refine s_next ?_
        exact hN_534 _ w _ _ _ e_544 ⟨_, rfl, G, e_529⟩
    · rintro s_551 F_552 H_553 _ e_554 ⟨z_523, hs_549, G, e_550⟩ w
      subst hs_549
      have r0 := Rep.mo (K := K) e_550 r0
      have r1 := Rep.mo (K := K) e_550 r1
      exact s_ret0 G w em_int fun r F1 H1 v g m p => hQ r F1 H1 v g m p
/-! ### _law_due -/
abbrev s_law_due : Stmt := topS 19
abbrev N_law_due : List Str := ["one", "other", "size", "opening"]
theorem sc_law_due : FnScope N_law_due ["one", "other"] (defScope s_law_due) := ⟨rfl, rfl, rfl, by decide +kernel, rfl, by decide +kernel, by decide +kernel⟩
abbrev sp_law_due (K : PySem.W.Frag) (ce : Ce) : Sp := SpF0 ce (RC K (α := (List Int)) (RC K (α := (List Int)) R0)) (rv K (ρ := (Option Int))) (fun a : ((List Int) × (List Int) × Unit) => m_law_due a.1 a.2.1)
theorem ok_law_due {f : Addr} {fd : FuncData} (FF : Fun K "_law_due" "_law_due" s_law_due f fd) {a__law_held : Addr} {d__law_held : FuncData} (G__law_held : FnOk P w K mg base CX0 1 a__law_held d__law_held ["stack", "size"] (sp_law_held K ce)) (mg__law_held : mg "_law_held" = some (.ref a__law_held)) (k__law_held : PySem.W.keepIn K (.ref a__law_held) = true) (b__law_held : Binds K d__law_held ["stack", "size"] []) (z_sorted : mg "sorted" = none) : FnOk P w K mg base CX0 2 f fd ["one", "other"] (sp_law_due K ce) := by
  refine FF.ok sc_law_due (fun vs H0 Q E h => ?_) (fun cdv A outer s H0 vs Q E hr h => ?_)
  · obtain ⟨F0, ⟨a0_one, a1_other, _⟩, e0, ⟨v0, _, rfl, r0, ⟨v1, _, rfl, r1, rfl⟩⟩, w⟩ := h
    rfl
  · obtain ⟨F0, ⟨a0_one, a1_other, _⟩, e0, ⟨v0, _, rfl, r0, ⟨v1, _, rfl, r1, rfl⟩⟩, w⟩ := h
    have w := wp_post w
    have G := Gr.rf e0
    have nd := sc_law_due.nd
    have hQ : ∀ r F1 H1 v, Gr F0 H0 F1 H1 → (rv K (ρ := (Option Int))) F0 H0 F1 H1 v r → Fin (rv K (ρ := (Option Int))) F0 H0 Q r → Q v H1 := fun r F1 H1 v g m p => p F1 H1 v g m
    refine ⟨_, (pss_cons (ps_for (by first | exact PassesOwn.never | exact passes_of rfl) rfl (pi_list (pe_callB (r := rSortedI K) cr_sortedI (by rfl) z_sorted (by decide +kernel) (pa_cons (pe_op op_cat (pe_lst (pa_cons pe_int pa_nil)) (pe_lc (own := [("opening", 3)]) (g := (gName 3)) (by rfl) nd (pi_list (pe_op op_cat (pv 0) (pv 1))) (blkOk_by (own := [("opening", 3)]) (N := N_law_due) (sc := defScope s_law_due) (by decide +kernel)) (fun _ _ _ _ _ => (pg_name (i := 3) nd rfl (by first | exact Or.inl rfl | exact Or.inr rfl))) (fun _ _ _ _ _ => pts_nil) (fun _ _ _ _ _ => (pe_op op_add (pv 3) pe_int)))) pa_nil))) (pg_name (i := 2) nd rfl (by first | exact Or.inl rfl | exact Or.inr rfl)) (pss_one (ps_if (pt_cmpR op_ne (pe_call G__law_held (hr.mono (by decide)) rfl mg__law_held k__law_held b__law_held .nil pass0 (pa_cons (pv 0) (pa_cons (pv 2) pa_nil))) (pe_call G__law_held (hr.mono (by decide)) rfl mg__law_held k__law_held b__law_held .nil pass0 (pa_cons (pv 1) (pa_cons (pv 2) pa_nil))) (nomark _)) (pss_one (ps_ret (pv 2))) pss_nil)))
      (pss_one (ps_ret pe_non))), ?_⟩
    have w := show Wp ce E0 H0 (m_law_due a0_one a1_other) _ from w
    unfold m_law_due at w
    refine q_for (S := Unit) (fun s F' H' σ' => ∃ (z_619 : Option V), σ' = [some v0, some v1, z_619, none] ∧ Gr F0 H0 F' H' ∧ Ex F0 F') G (ei_list (Ev.nv (em_cb (ea_cons (Ev.nv (em_op (Ev.nv (e_lst (e_lcons em_int (el_nil (α := Int))) (by simp))) (Ev.nv (em_lc (c := (fun x_609 : Int => (M.ok true))) (e := (fun x_609 : Int => (M.ok (x_609 + (1 : Int))))) (ei_list (Ev.nv (em_op (em_var rfl r0) (em_var rfl r1) fun _ _ => o_cat))) (tg_name (K := K)) (fun _ _ _ ⟨_, h, _⟩ => by rw [h]; exact wipe1) (fun x_609 _ _ _ g_608 ⟨v_610, h_612, r_611⟩ => by subst h_612; exact t_yes) (fun x_609 _ _ _ g_608 ⟨v_610, h_612, r_611⟩ => by subst h_612; exact (e2 (em_var rfl r_611) em_int o_add)))) fun _ _ => o_cat)) ea_nil) fun _ => a_sorted))) (tg_name (K := K)) w (fun _ _ g_653 => ⟨_, rfl, G.tr g_653, g_653.ff⟩) (fun _ _ _ _ ⟨_, _, G, _⟩ => G) ?_ ?_
    · rintro x_621 s_620 F_622 H_623 _ ⟨z_619, hs_624, G, e_625⟩ F_626 H_627 σ_628 g_629 ⟨v_637, h_639, r_638⟩ D_634 P_635 hrt_636 hN_630 hC_631 hB_632 hP_633 w
      subst hs_624
      subst h_639
      have r0 := Rep.mo (K := K) e_625 r0
      have r1 := Rep.mo (K := K) e_625 r1
      have G := G.tr g_629
      have r0 := Rep.mo (K := K) g_629.ff r0
      have r1 := Rep.mo (K := K) g_629.ff r1
      have e_625 := Ex.tr e_625 g_629.ff
      have e_640 := Ex.rf F_626
      have hQ : ∀ r F1 H1 v, Gr F0 H0 F1 H1 → (rv K (ρ := (Option Int))) F0 H0 F1 H1 v r → P_635 (.rt r) → D_634.rt v H1 := fun r F1 H1 v g m p => by rw [hrt_636]; exact hQ r F1 H1 v g m (hP_633 _ p)
      unfold m_law_due_b1 at w
      refine s_if2 G w (t_of (em_op (e_call0 (f := (fun a : ((List Int) × Int × Unit) => m_law_held a.1 a.2.1)) (x := (a0_one, x_621, ())) (e_cons (em_var rfl r0) (e_cons (em_var rfl r_638) ea_nil))) (e_call0 (f := (fun a : ((List Int) × Int × Unit) => m_law_held a.1 a.2.1)) (x := (a1_other, x_621, ())) (e_cons (em_var rfl r1) (e_cons (em_var rfl r_638) ea_nil))) fun _ _ => o_neI)) (fun F_643 H_644 g_645 w => ?_) (fun F_643 H_644 g_645 w => ?_)
      · have G := G.tr g_645
        have r0 := Rep.mo (K := K) g_645.ff r0
        have r1 := Rep.mo (K := K) g_645.ff r1
        have r_638 := Rep.mo (K := K) g_645.ff r_638
        have e_625 := Ex.tr e_625 g_645.ff
        have e_640 := Ex.tr e_640 g_645.ff
        exact s_ret G w (e_some (em_var rfl r_638)) fun r F1 H1 v g m p => hQ r F1 H1 v g m p
      · have G := G.tr g_645
        have r0 := Rep.mo (K := K) g_645.ff r0
        have r1 := Rep.mo (K := K) g_645.ff r1
        have r_638 := Rep.mo (K := K) g_645.ff r_638
        have e_625 := Ex.tr e_625 g_645.ff
        have e_640 := Ex.tr e_640 g_645.ff
        refine s_next ?_
        exact hN_630 _ w _ _ _ e_640 ⟨_, rfl, G, e_625⟩
    · rintro s_649 F_650 H_651 _ e_652 ⟨z_619, hs_647, G, e_648⟩ w
      subst hs_647
      have r0 := Rep.mo (K := K) e_648 r0
      have r1 := Rep.mo (K := K) e_648 r1
      exact s_ret0 G w (em_none (α := Int)) fun r F1 H1 v g m p => hQ r F1 H1 v g m p
/-! ### _law_bad_stack -/
abbrev s_law_bad_stack : Stmt := topS 15
abbrev N_law_bad_stack : List Str := ["stack", "cell", "place", "odd"]
theorem sc_law_bad_stack : FnScope N_law_bad_stack ["stack", "cell"] (defScope s_law_bad_stack) := ⟨rfl, rfl, rfl, by decide +kernel, rfl, by decide +kernel, by decide +kernel⟩
abbrev sp_law_bad_stack (K : PySem.W.Frag) (ce : Ce) : Sp := SpF0 ce (RC K (α := (List Int)) (RC K (α := Int) R0)) (rn K (α := Int)) (fun a : ((List Int) × Int × Unit) => m_law_bad_stack a.1 a.2.1)
theorem ok_law_bad_stack {f : Addr} {fd : FuncData} (FF : Fun K "_law_bad_stack" "_law_bad_stack" s_law_bad_stack f fd) (z_len : mg "len" = none) : FnOk P w K mg base CX0 1 f fd ["stack", "cell"] (sp_law_bad_stack K ce) := by
  refine FF.ok sc_law_bad_stack (fun vs H0 Q E h => ?_) (fun cdv A outer s H0 vs Q E hr h => ?_)
  · obtain ⟨F0, ⟨a0_stack, a1_cell, _⟩, e0, ⟨v0, _, rfl, r0, ⟨v1, _, rfl, r1, rfl⟩⟩, w⟩ := h
    rfl
  · obtain ⟨F0, ⟨a0_stack, a1_cell, _⟩, e0, ⟨v0, _, rfl, r0, ⟨v1, _, rfl, r1, rfl⟩⟩, w⟩ := h
    have w := wp_post w
    have G := Gr.rf e0
    have nd := sc_law_bad_stack.nd
    have hQ : ∀ r F1 H1 v, Gr F0 H0 F1 H1 → (rn K (α := Int)) F0 H0 F1 H1 v r → Fin (rn K (α := Int)) F0 H0 Q r → Q v H1 := fun r F1 H1 v g m p => p F1 H1 v g m
    refine ⟨_, (pss_cons (ps_set (i := 2) nd rfl (by first | exact Or.inl rfl | exact Or.inr rfl) (pe_op op_mod (pe_op op_fdiv (pv 1) pe_int) (pe_op op_add (pe_callB (r := rLenS K) call_len_seq (by rfl) z_len (by decide +kernel) (pa_cons (pv 0) pa_nil)) pe_int)))
      (pss_cons (ps_if (pt_cmpR op_eq (pe_op op_mod (pv 1) pe_int) pe_int (nomark _)) (pss_one (ps_ret (pe_op op_cat (pv 0) (pe_op op_rep (pe_lst (pa_cons pe_int pa_nil)) (pe_op op_sub pe_int (pe_callB (r := rLenS K) call_len_seq (by rfl) z_len (by decide +kernel) (pa_cons (pv 0) pa_nil))))))) pss_nil)
      (pss_cons (ps_set (i := 3) nd rfl (by first | exact Or.inl rfl | exact Or.inr rfl) (pe_ix (r := rIxL K) ix_list (pe_lst (pa_cons pe_int (pa_cons (pe_op op_sub (pe_un un_neg pe_int) (pe_op op_mod (pe_op op_fdiv (pv 1) pe_int) (pe_op op_pow pe_int pe_int))) (pa_cons (pe_op op_add (pe_op op_add (pe_op op_pow pe_int pe_int) pe_int) (pe_op op_mod (pe_op op_fdiv (pv 1) pe_int) pe_int)) pa_nil)))) (pe_op op_sub (pe_op op_mod (pv 1) pe_int) pe_int) (fun _ _ => rfl)))
      (pss_one (ps_ret (pe_op op_cat (pe_op op_cat (pe_slice (r := rSlL K) sl_list (pv 0) po_none (po_some (pv 2))) (pe_lst (pa_cons (pv 3) pa_nil))) (pe_slice (r := rSlL K) sl_list (pv 0) (po_some (pv 2)) po_none))))))), ?_⟩
    have w := show Wp ce E0 H0 (m_law_bad_stack a0_stack a1_cell) _ from w
    unfold m_law_bad_stack at w
    refine q_asg G w (em_op (e2 (em_var rfl r1) em_int (o_fdiv ⟨by decide, by decide⟩)) (e2 (e_cb (e_cons (em_var rfl r0) ea_nil) a_len) em_int o_add) fun _ _ => o_modM) fun place_684 F_685 H_686 v_688 g_687 r_689 w => ?_
    have G := G.tr g_687
    have r0 := Rep.mo (K := K) g_687.ff r0
    have r1 := Rep.mo (K := K) g_687.ff r1
    refine q_if2 G w (t_of (e2 (e2 (em_var rfl r1) em_int (o_mod (by decide))) em_int o_eqI)) (fun F_690 H_691 g_692 w => ?_) (fun F_690 H_691 g_692 w => ?_)
    · have G := G.tr g_692
      have r0 := Rep.mo (K := K) g_692.ff r0
      have r1 := Rep.mo (K := K) g_692.ff r1
      have r_689 := Rep.mo (K := K) g_692.ff r_689
      exact s_retN0 G w (em_op (em_var rfl r0) (Ev.nv (em_op (Ev.nv (e_lst (e_lcons em_int (el_nil (α := Int))) (by simp))) (e2 em_int (e_cb (e_cons (em_var rfl r0) ea_nil) a_len) o_sub) fun _ _ => o_rep)) fun _ _ => o_cat) fun r F1 H1 v g m p => hQ r F1 H1 v g m p
    · have G := G.tr g_692
      have r0 := Rep.mo (K := K) g_692.ff r0
      have r1 := Rep.mo (K := K) g_692.ff r1
      have r_689 := Rep.mo (K := K) g_692.ff r_689
      refine s_next ?_
      refine s_nx ?_
      refine q_asg G w (em_op (Ev.nv (e_lst (e_lcons em_int (e_lcons (e2 (e_neg em_int) (e2 (e2 (em_var rfl r1) em_int (o_fdiv ⟨by decide, by decide⟩)) (e_is (e2 em_int em_int (o_pow (by decide))) pow_10_60) (o_mod (by decide))) o_sub) (e_lcons (e2 (e2 (e_is (e2 em_int em_int (o_pow (by decide))) pow_10_60) em_int o_add) (e2 (e2 (em_var rfl r1) em_int (o_fdiv ⟨by decide, by decide⟩)) em_int (o_mod (by decide))) o_add) (el_nil (α := Int))))) (by simp))) (e2 (e2 (em_var rfl r1) em_int (o_mod (by decide))) em_int o_sub) fun _ _ => o_ixL) fun odd_699 F_700 H_701 v_703 g_702 r_704 w => ?_
      have G := G.tr g_702
      have r0 := Rep.mo (K := K) g_702.ff r0
      have r1 := Rep.mo (K := K) g_702.ff r1
      have r_689 := Rep.mo (K := K) g_702.ff r_689
      exact s_retN0 G w (em_op (Ev.nv (em_op (Ev.nv (e_sl (em_var rfl r0) eo_none (eo_some' (K := K) (em_var rfl r_689)))) (Ev.nv (e_lst (e_lcons (em_var rfl r_704) (el_nil (α := Int))) (by simp))) fun _ _ => o_cat)) (Ev.nv (e_sl (em_var rfl r0) (eo_some' (K := K) (em_var rfl r_689)) eo_none)) fun _ _ => o_cat) fun r F1 H1 v g m p => hQ r F1 H1 v g m p
/-! ### _law_cell_at -/
abbrev s_law_cell_at : Stmt := topS 11
abbrev N_law_cell_at : List Str := ["script", "k"]
theorem sc_law_cell_at : FnScope N_law_cell_at ["script", "k"] (defScope s_law_cell_at) := ⟨rfl, rfl, rfl, by decide +kernel, rfl, by decide +kernel, by decide +kernel⟩
abbrev sp_law_cell_at (K : PySem.W.Frag) (ce : Ce) : Sp := SpF0 ce (RC K (α := Scr) (RC K (α := Int) R0)) (rv K (ρ := Int)) (fun a : (Scr × Int × Unit) => m_law_cell_at a.1 a.2.1)
theorem ok_law_cell_at {f : Addr} {fd : FuncData} (FF : Fun K "_law_cell_at" "_law_cell_at" s_law_cell_at f fd) (z_len : mg "len" = none) : FnOk P w K mg base CX0 1 f fd ["script", "k"] (sp_law_cell_at K ce) := by
  refine FF.ok sc_law_cell_at (fun vs H0 Q E h => ?_) (fun cdv A outer s H0 vs Q E hr h => ?_)
  · obtain ⟨F0, ⟨a0_script, a1_k, _⟩, e0, ⟨v0, _, rfl, r0, ⟨v1, _, rfl, r1, rfl⟩⟩, w⟩ := h
    rfl
  · obtain ⟨F0, ⟨a0_script, a1_k, _⟩, e0, ⟨v0, _, rfl, r0, ⟨v1, _, rfl, r1, rfl⟩⟩, w⟩ := h
    have w := wp_post w
    have G := Gr.rf e0
    have nd := sc_law_cell_at.nd
    have hQ : ∀ r F1 H1 v, Gr F0 H0 F1 H1 → (rv K (ρ := Int)) F0 H0 F1 H1 v r → Fin (rv K (ρ := Int)) F0 H0 Q r → Q v H1 := fun r F1 H1 v g m p => p F1 H1 v g m
    refine ⟨_, (pss_cons (ps_if (pt_cmpR op_lt (pv 1) (pe_callB (r := rLenS K) call_len_seq (by rfl) z_len (by decide +kernel) (pa_cons (pv 0) pa_nil)) (nomark _)) (pss_one (ps_ret (pe_ix (r := rIxL K) ix_list (pv 0) (pv 1) (fun _ _ => rfl)))) pss_nil)
      (pss_one (ps_ret pe_int))), ?_⟩
    have w := show Wp ce E0 H0 (m_law_cell_at a0_script a1_k) _ from w
    unfold m_law_cell_at at w
    refine q_if2 G w (t_of (e2 (em_var rfl r1) (e_cb (e_cons (em_var rfl r0) ea_nil) a_lenS) o_lt)) (fun F_714 H_715 g_716 w => ?_) (fun F_714 H_715 g_716 w => ?_)
    · have G := G.tr g_716
      have r0 := Rep.mo (K := K) g_716.ff r0
      have r1 := Rep.mo (K := K) g_716.ff r1
      exact s_ret0 G w (em_op (em_var rfl r0) (em_var rfl r1) fun _ _ => o_ixS) fun r F1 H1 v g m p => hQ r F1 H1 v g m p
    · have G := G.tr g_716
      have r0 := Rep.mo (K := K) g_716.ff r0
      have r1 := Rep.mo (K := K) g_716.ff r1
      refine s_next ?_
      refine s_nx ?_
      exact s_ret0 G w em_int fun r F1 H1 v g m p => hQ r F1 H1 v g m p
/-! ### check_stack -/
abbrev s_check_stack : Stmt := topS 6
abbrev N_check_stack : List Str := ["stack", "opening"]
theorem sc_check_stack : FnScope N_check_stack ["stack"] (defScope s_check_stack) := ⟨rfl, rfl, rfl, by decide +kernel, rfl, by decide +kernel, by decide +kernel⟩
abbrev sp_check_stack (K : PySem.W.Frag) (ce : Ce) : Sp := SpF ce (RC K (α := (List Int)) R0) (rv K (ρ := Unit)) (fun a : ((List Int) × Unit) => m_check_stack a.1)
theorem ok_check_stack {f : Addr} {fd : FuncData} (FF : Fun K "check_stack" "check_stack" s_check_stack f fd) {t_GREATEST : Tok} (c_GREATEST : mg "GREATEST" = some (.int 1000000000000000000000000000000000000000000000000000000000000 t_GREATEST)) {t_MOST_MESHES : Tok} (c_MOST_MESHES : mg "MOST_MESHES" = some (.int 12 t_MOST_MESHES)) (x_BadStack : ErrC K mg (ce "BadStack") "BadStack") (z_len : mg "len" = none) : FnOk P w K mg base (L2.CX P w) 1 f fd ["stack"] (sp_check_stack K ce) := by
  refine FF.okX sc_check_stack (fun vs H0 Q E h => ?_) (fun cdv A outer s H0 vs Q E hr h => ?_)
  · obtain ⟨F0, ⟨a0_stack, _⟩, e0, ⟨v0, _, rfl, r0, rfl⟩, w⟩ := h
    rfl
  · obtain ⟨F0, ⟨a0_stack, _⟩, e0, ⟨v0, _, rfl, r0, rfl⟩, w⟩ := h
    have w := wp_post w
    have G := Gr.rf e0
    have nd := sc_check_stack.nd
    have hQ : ∀ r F1 H1 v, Gr F0 H0 F1 H1 → (rv K (ρ := Unit)) F0 H0 F1 H1 v r → Fin (rv K (ρ := Unit)) F0 H0 Q r → Q v H1 := fun r F1 H1 v g m p => p F1 H1 v g m
    refine ⟨_, (pss_cons (ps_if (pt_cmpR op_gt (pe_callB (r := rLenS K) call_len_seq (by rfl) z_len (by decide +kernel) (pa_cons (pv 0) pa_nil)) (pe_glob (v := .int 12) rfl c_MOST_MESHES ⟨_, rfl⟩) (nomark _)) (pss_one (ps_raise rfl (takes_of rfl rfl rfl rfl) (pmk_own PySem.F.excBase_ValueError x_BadStack.x x_BadStack.g x_BadStack.k (raises_own x_BadStack.b x_BadStack.t) rfl))) pss_nil)
      (pss_one (ps_for (by first | exact PassesOwn.never | exact passes_of rfl) rfl (pi_list (pv 0)) (pg_name (i := 1) nd rfl (by first | exact Or.inl rfl | exact Or.inr rfl)) (pss_one (ps_if (PW.pt (pw_or (pt_cmpR op_lt (pv 1) pe_int (nomark _)) (pw_or1 (pt_cmpR op_gt (pv 1) (pe_glob (v := .int 1000000000000000000000000000000000000000000000000000000000000) rfl c_GREATEST ⟨_, rfl⟩) (nomark _))))) (pss_one (ps_raise rfl (takes_of rfl rfl rfl rfl) (pmk_own PySem.F.excBase_ValueError x_BadStack.x x_BadStack.g x_BadStack.k (raises_own x_BadStack.b x_BadStack.t) rfl))) pss_nil))))), ?_⟩
    have w := show Wp ce E H0 (m_check_stack a0_stack) _ from w
    unfold m_check_stack at w
    refine q_if2 G w (t_of (e2 (e_cb (e_cons (em_var rfl r0) ea_nil) a_len) em_int o_gt)) (fun F_755 H_756 g_757 w => ?_) (fun F_755 H_756 g_757 w => ?_)
    · have G := G.tr g_757
      have r0 := Rep.mo (K := K) g_757.ff r0
      exact w _ G.hh
    · have G := G.tr g_757
      have r0 := Rep.mo (K := K) g_757.ff r0
      refine s_next ?_
      refine s_nx ?_
      refine s_for (S := Unit) (fun s F' H' σ' => ∃ (z_758 : Option V), σ' = [some v0, z_758] ∧ Gr F0 H0 F' H' ∧ Ex F_755 F') G (ei_list (em_var rfl r0)) (tg_name (K := K)) w (fun _ _ g_789 => ⟨_, rfl, G.tr g_789, g_789.ff⟩) (fun _ _ _ _ ⟨_, _, G, _⟩ => G) ?_ ?_
      · rintro x_760 s_759 F_761 H_762 _ ⟨z_758, hs_763, G, e_764⟩ F_765 H_766 σ_767 g_768 ⟨v_776, h_778, r_777⟩ D_773 P_774 hrt_775 hN_769 hC_770 hB_771 hP_772 w
        subst hs_763
        subst h_778
        have r0 := Rep.mo (K := K) e_764 r0
        have G := G.tr g_768
        have r0 := Rep.mo (K := K) g_768.ff r0
        have e_764 := Ex.tr e_764 g_768.ff
        have e_779 := Ex.rf F_765
        have hQ : ∀ r F1 H1 v, Gr F0 H0 F1 H1 → (rv K (ρ := Unit)) F0 H0 F1 H1 v r → P_774 (.rt r) → D_773.rt v H1 := fun r F1 H1 v g m p => by rw [hrt_775]; exact hQ r F1 H1 v g m (hP_772 _ p)
        unfold m_check_stack_b1 at w
        refine s_if2 G w (t_or (t_of (e2 (em_var rfl r_777) em_int o_lt)) (t_of (e2 (em_var rfl r_777) em_int o_gt))) (fun F_780 H_781 g_782 w => ?_) (fun F_780 H_781 g_782 w => ?_)
        · have G := G.tr g_782
          have r0 := Rep.mo (K := K) g_782.ff r0
          have r_777 := Rep.mo (K := K) g_782.ff r_777
          have e_764 := Ex.tr e_764 g_782.ff
          have e_779 := Ex.tr e_779 g_782.ff
          exact w _ G.hh
        · have G := G.tr g_782
          have r0 := Rep.mo (K := K) g_782.ff r0
          have r_777 := Rep.mo (K := K) g_782.ff r_777
          have e_764 := Ex.tr e_764 g_782.ff
          have e_779 := Ex.tr e_779 g_782.ff
          refine s_next ?_
          exact hN_769 _ w _ _ _ e_779 ⟨_, rfl, G, e_764⟩
      · rintro s_785 F_786 H_787 _ e_788 ⟨z_758, hs_783, G, e_784⟩ w
        subst hs_783
        have r0 := Rep.mo (K := K) e_784 r0
        exact hQ _ _ _ _ G rfl w
/-! ### place_held -/
abbrev s_place_held : Stmt := topS 7
abbrev N_place_held : List Str := ["stack", "size", "place"]
theorem sc_place_held : FnScope N_place_held ["stack", "size"] (defScope s_place_held) := ⟨rfl, rfl, rfl, by decide +kernel, rfl, by decide +kernel, by decide +kernel⟩
abbrev sp_place_held (K : PySem.W.Frag) (ce : Ce) : Sp := SpF0 ce (RC K (α := (List Int)) (RC K (α := Int) R0)) (rv K (ρ := Int)) (fun a : ((List Int) × Int × Unit) => m_place_held a.1 a.2.1)
theorem ok_place_held {f : Addr} {fd : FuncData} (FF : Fun K "place_held" "place_held" s_place_held f fd) (z_len : mg "len" = none) (z_range : mg "range" = none) : FnOk P w K mg base CX0 1 f fd ["stack", "size"] (sp_place_held K ce) := by
  refine FF.ok sc_place_held (fun vs H0 Q E h => ?_) (fun cdv A outer s H0 vs Q E hr h => ?_)
  · obtain ⟨F0, ⟨a0_stack, a1_size, _⟩, e0, ⟨v0, _, rfl, r0, ⟨v1, _, rfl, r1, rfl⟩⟩, w⟩ := h
    rfl
  · obtain ⟨F0, ⟨a0_stack, a1_size, _⟩, e0, ⟨v0, _, rfl, r0, ⟨v1, _, rfl, r1, rfl⟩⟩, w⟩ := h
    have w := wp_post w
    have G := Gr.rf e0
    have nd := sc_place_held.nd
    have hQ : ∀ r F1 H1 v, Gr F0 H0 F1 H1 → (rv K (ρ := Int)) F0 H0 F1 H1 v r → Fin (rv K (ρ := Int)) F0 H0 Q r → Q v H1 := fun r F1 H1 v g m p => p F1 H1 v g m
    refine ⟨_, (pss_cons (ps_for (by first | exact PassesOwn.never | exact passes_of rfl) rfl (pi_range1 rfl z_range (pa_cons (pe_callB (r := rLenS K) call_len_seq (by rfl) z_len (by decide +kernel) (pa_cons (pv 0) pa_nil)) pa_nil)) (pg_name (i := 2) nd rfl (by first | exact Or.inl rfl | exact Or.inr rfl)) (pss_one (ps_if (pt_cmpR op_gt (pv 1) (pe_ix (r := rIxL K) ix_list (pv 0) (pv 2) (fun _ _ => rfl)) (nomark _)) (pss_one (ps_ret (pv 2))) pss_nil)))
      (pss_one (ps_ret (pe_callB (r := rLenS K) call_len_seq (by rfl) z_len (by decide +kernel) (pa_cons (pv 0) pa_nil))))), ?_⟩
    have w := show Wp ce E0 H0 (m_place_held a0_stack a1_size) _ from w
    unfold m_place_held at w
    refine q_for (S := Unit) (fun s F' H' σ' => ∃ (z_829 : Option V), σ' = [some v0, some v1, z_829] ∧ Gr F0 H0 F' H' ∧ Ex F0 F') G (ei_rng1 (e_cb (e_cons (em_var rfl r0) ea_nil) a_len)) (tg_name (K := K)) w (fun _ _ g_865 => ⟨_, rfl, G.tr g_865, g_865.ff⟩) (fun _ _ _ _ ⟨_, _, G, _⟩ => G) ?_ ?_
    · rintro x_831 s_830 F_832 H_833 _ ⟨z_829, hs_834, G, e_835⟩ F_836 H_837 σ_838 g_839 ⟨v_847, h_849, r_848⟩ D_844 P_845 hrt_846 hN_840 hC_841 hB_842 hP_843 w
      subst hs_834
      subst h_849
      have r0 := Rep.mo (K := K) e_835 r0
      have r1 := Rep.mo (K := K) e_835 r1
      have G := G.tr g_839
      have r0 := Rep.mo (K := K) g_839.ff r0
      have r1 := Rep.mo (K := K) g_839.ff r1
      have e_835 := Ex.tr e_835 g_839.ff
      have e_850 := Ex.rf F_836
      have hQ : ∀ r F1 H1 v, Gr F0 H0 F1 H1 → (rv K (ρ := Int)) F0 H0 F1 H1 v r → P_845 (.rt r) → D_844.rt v H1 := fun r F1 H1 v g m p => by rw [hrt_846]; exact hQ r F1 H1 v g m (hP_843 _ p)
      unfold m_place_held_b1 at w
      refine s_if2 G w (t_of (em_op (em_var rfl r1) (em_op (em_var rfl r0) (em_var rfl r_848) fun _ _ => o_ixL) fun _ _ => o_gt)) (fun F_855 H_856 g_857 w => ?_) (fun F_855 H_856 g_857 w => ?_)
      · have G := G.tr g_857
        have r0 := Rep.mo (K := K) g_857.ff r0
        have r1 := Rep.mo (K := K) g_857.ff r1
        have r_848 := Rep.mo (K := K) g_857.ff r_848
        have e_835 := Ex.tr e_835 g_857.ff
        have e_850 := Ex.tr e_850 g_857.ff
        exact s_ret G w (em_var rfl r_848) fun r F1 H1 v g m p => hQ r F1 H1 v g m p
      · have G := G.tr g_857
        have r0 := Rep.mo (K := K) g_857.ff r0
        have r1 := Rep.mo (K := K) g_857.ff r1
        have r_848 := Rep.mo (K := K) g_857.ff r_848
        have e_835 := Ex.tr e_835 g_857.ff
        have e_850 := Ex.tr e_850 g_857.ff
        refine s_next ?_
        exact hN_840 _ w _ _ _ e_850 ⟨_, rfl, G, e_835⟩
    · rintro s_861 F_862 H_863 _ e_864 ⟨z_829, hs_859, G, e_860⟩ w
      subst hs_859
      have r0 := Rep.mo (K := K) e_860 r0
      have r1 := Rep.mo (K := K) e_860 r1
      exact s_ret0 G w (e_cb (e_cons (em_var rfl r0) ea_nil) a_len) fun r F1 H1 v g m p => hQ r F1 H1 v g m p
/-! ### holder -/
abbrev s_holder : Stmt := topS 8
abbrev N_holder : List Str := ["stack", "size", "place"]
theorem sc_holder : FnScope N_holder ["stack", "size"] (defScope s_holder) := ⟨rfl, rfl, rfl, by decide +kernel, rfl, by decide +kernel, by decide +kernel⟩
abbrev sp_holder (K : PySem.W.Frag) (ce : Ce) : Sp := SpF ce (RC K (α := (List Int)) (RC K (α := Int) R0)) (rv K (ρ := Int)) (fun a : ((List Int) × Int × Unit) => m_holder a.1 a.2.1)
theorem ok_holder {f : Addr} {fd : FuncData} (FF : Fun K "holder" "holder" s_holder f fd) {a_check_stack : Addr} {d_check_stack : FuncData} (G_check_stack : FnOk P w K mg base (L2.CX P w) 1 a_check_stack d_check_stack ["stack"] (sp_check_stack K ce)) (mg_check_stack : mg "check_stack" = some (.ref a_check_stack)) (k_check_stack : PySem.W.keepIn K (.ref a_check_stack) = true) (b_check_stack : Binds K d_check_stack ["stack"] []) {a_place_held : Addr} {d_place_held : FuncData} (G_place_held : FnOk P w K mg base CX0 1 a_place_held d_place_held ["stack", "size"] (sp_place_held K ce)) (mg_place_held : mg "place_held" = some (.ref a_place_held)) (k_place_held : PySem.W.keepIn K (.ref a_place_held) = true) (b_place_held : Binds K d_place_held ["stack", "size"] []) (z_len : mg "len" = none) : FnOk P w K mg base (L2.CX P w) 2 f fd ["stack", "size"] (sp_holder K ce) := by
  refine FF.okX sc_holder (fun vs H0 Q E h => ?_) (fun cdv A outer s H0 vs Q E hr h => ?_)
  · obtain ⟨F0, ⟨a0_stack, a1_size, _⟩, e0, ⟨v0, _, rfl, r0, ⟨v1, _, rfl, r1, rfl⟩⟩, w⟩ := h
    rfl
  · obtain ⟨F0, ⟨a0_stack, a1_size, _⟩, e0, ⟨v0, _, rfl, r0, ⟨v1, _, rfl, r1, rfl⟩⟩, w⟩ := h
    have w := wp_post w
    have G := Gr.rf e0
    have nd := sc_holder.nd
    have hQ : ∀ r F1 H1 v, Gr F0 H0 F1 H1 → (rv K (ρ := Int)) F0 H0 F1 H1 v r → Fin (rv K (ρ := Int)) F0 H0 Q r → Q v H1 := fun r F1 H1 v g m p => p F1 H1 v g m
    refine ⟨_, (pss_cons (ps_expr (pe_call G_check_stack (hr.mono (by decide)) rfl mg_check_stack k_check_stack b_check_stack .nil (passes_call (takes_of rfl rfl rfl rfl) (fun _ _ _ _ h => h)) (pa_cons (pv 0) pa_nil)))
      (pss_cons (ps_set (i := 2) nd rfl (by first | exact Or.inl rfl | exact Or.inr rfl) (pe_call G_place_held (hr.mono (by decide)) rfl mg_place_held k_place_held b_place_held .nil pass0 (pa_cons (pv 0) (pa_cons (pv 1) pa_nil))))
      (pss_cons (ps_if (pt_cmpR op_eq (pv 2) (pe_callB (r := rLenS K) call_len_seq (by rfl) z_len (by decide +kernel) (pa_cons (pv 0) pa_nil)) (nomark _)) (pss_one (ps_ret pe_int)) pss_nil)
      (pss_one (ps_ret (pe_ix (r := rIxL K) ix_list (pv 0) (pv 2) (fun _ _ => rfl))))))), ?_⟩
    have w := show Wp ce E H0 (m_holder a0_stack a1_size) _ from w
    unfold m_holder at w
    refine q_drop G w (e_callX (f := (fun a : ((List Int) × Unit) => m_check_stack a.1)) (x := (a0_stack, ())) (e_cons (em_var rfl r0) ea_nil)) fun x_882 F_883 H_884 g_885 w => ?_
    have G := G.tr g_885
    have r0 := Rep.mo (K := K) g_885.ff r0
    have r1 := Rep.mo (K := K) g_885.ff r1
    refine q_asg G w (e_call0 (f := (fun a : ((List Int) × Int × Unit) => m_place_held a.1 a.2.1)) (x := (a0_stack, a1_size, ())) (e_cons (em_var rfl r0) (e_cons (em_var rfl r1) ea_nil))) fun place_886 F_887 H_888 v_890 g_889 r_891 w => ?_
    have G := G.tr g_889
    have r0 := Rep.mo (K := K) g_889.ff r0
    have r1 := Rep.mo (K := K) g_889.ff r1
    refine q_if2 G w (t_of (e2 (em_var rfl r_891) (e_cb (e_cons (em_var rfl r0) ea_nil) a_len) o_eqI)) (fun F_892 H_893 g_894 w => ?_) (fun F_892 H_893 g_894 w => ?_)
    · have G := G.tr g_894
      have r0 := Rep.mo (K := K) g_894.ff r0
      have r1 := Rep.mo (K := K) g_894.ff r1
      have r_891 := Rep.mo (K := K) g_894.ff r_891
      exact s_ret0 G w em_int fun r F1 H1 v g m p => hQ r F1 H1 v g m p
    · have G := G.tr g_894
      have r0 := Rep.mo (K := K) g_894.ff r0
      have r1 := Rep.mo (K := K) g_894.ff r1
      have r_891 := Rep.mo (K := K) g_894.ff r_891
      refine s_next ?_
      refine s_nx ?_
      exact s_ret0 G w (em_op (em_var rfl r0) (em_var rfl r_891) fun _ _ => o_ixL) fun r F1 H1 v g m p => hQ r F1 H1 v g m p
/-! ### parted_by -/
abbrev s_parted_by : Stmt := topS 9
abbrev N_parted_by : List Str := ["one", "other", "size", "opening"]
theorem sc_parted_by : FnScope N_parted_by ["one", "other"] (defScope s_parted_by) := ⟨rfl, rfl, rfl, by decide +kernel, rfl, by decide +kernel, by decide +kernel⟩
abbrev sp_parted_by (K : PySem.W.Frag) (ce : Ce) : Sp := SpF ce (RC K (α := (List Int)) (RC K (α := (List Int)) R0)) (rv K (ρ := (Option Int))) (fun a : ((List Int) × (List Int) × Unit) => m_parted_by a.1 a.2.1)
theorem ok_parted_by {f : Addr} {fd : FuncData} (FF : Fun K "parted_by" "parted_by" s_parted_by f fd) {a_check_stack : Addr} {d_check_stack : FuncData} (G_check_stack : FnOk P w K mg base (L2.CX P w) 1 a_check_stack d_check_stack ["stack"] (sp_check_stack K ce)) (mg_check_stack : mg "check_stack" = some (.ref a_check_stack)) (k_check_stack : PySem.W.keepIn K (.ref a_check_stack) = true) (b_check_stack : Binds K d_check_stack ["stack"] []) {a_holder : Addr} {d_holder : FuncData} (G_holder : FnOk P w K mg base (L2.CX P w) 2 a_holder d_holder ["stack", "size"] (sp_holder K ce)) (mg_holder : mg "holder" = some (.ref a_holder)) (k_holder : PySem.W.keepIn K (.ref a_holder) = true) (b_holder : Binds K d_holder ["stack", "size"] []) (z_sorted : mg "sorted" = none) : FnOk P w K mg base (L2.CX P w) 3 f fd ["one", "other"] (sp_parted_by K ce) := by
  refine FF.okX sc_parted_by (fun vs H0 Q E h => ?_) (fun cdv A outer s H0 vs Q E hr h => ?_)
  · obtain ⟨F0, ⟨a0_one, a1_other, _⟩, e0, ⟨v0, _, rfl, r0, ⟨v1, _, rfl, r1, rfl⟩⟩, w⟩ := h
    rfl
  · obtain ⟨F0, ⟨a0_one, a1_other, _⟩, e0, ⟨v0, _, rfl, r0, ⟨v1, _, rfl, r1, rfl⟩⟩, w⟩ := h
    have w := wp_post w
    have G := Gr.rf e0
    have nd := sc_parted_by.nd
    have hQ : ∀ r F1 H1 v, Gr F0 H0 F1 H1 → (rv K (ρ := (Option Int))) F0 H0 F1 H1 v r → Fin (rv K (ρ := (Option Int))) F0 H0 Q r → Q v H1 := fun r F1 H1 v g m p => p F1 H1 v g m
    refine ⟨_, (pss_cons (ps_expr (pe_call G_check_stack (hr.mono (by decide)) rfl mg_check_stack k_check_stack b_check_stack .nil (passes_call (takes_of rfl rfl rfl rfl) (fun _ _ _ _ h => h)) (pa_cons (pv 0) pa_nil)))
      (pss_cons (ps_expr (pe_call G_check_stack (hr.mono (by decide)) rfl mg_check_stack k_check_stack b_check_stack .nil (passes_call (takes_of rfl rfl rfl rfl) (fun _ _ _ _ h => h)) (pa_cons (pv 1) pa_nil)))
      (pss_cons (ps_for (by first | exact PassesOwn.never | exact passes_of rfl) rfl (pi_list (pe_callB (r := rSortedI K) cr_sortedI (by rfl) z_sorted (by decide +kernel) (pa_cons (pe_op op_cat (pe_lst (pa_cons pe_int pa_nil)) (pe_lc (own := [("opening", 3)]) (g := (gName 3)) (by rfl) nd (pi_list (pe_op op_cat (pv 0) (pv 1))) (blkOk_by (own := [("opening", 3)]) (N := N_parted_by) (sc := defScope s_parted_by) (by decide +kernel)) (fun _ _ _ _ _ => (pg_name (i := 3) nd rfl (by first | exact Or.inl rfl | exact Or.inr rfl))) (fun _ _ _ _ _ => pts_nil) (fun _ _ _ _ _ => (pe_op op_add (pv 3) pe_int)))) pa_nil))) (pg_name (i := 2) nd rfl (by first | exact Or.inl rfl | exact Or.inr rfl)) (pss_one (ps_if (pt_cmpR op_ne (pe_call G_holder (hr.mono (by decide)) rfl mg_holder k_holder b_holder .nil (passes_call (takes_of rfl rfl rfl rfl) (fun _ _ _ _ h => h)) (pa_cons (pv 0) (pa_cons (pv 2) pa_nil))) (pe_call G_holder (hr.mono (by decide)) rfl mg_holder k_holder b_holder .nil (passes_call (takes_of rfl rfl rfl rfl) (fun _ _ _ _ h => h)) (pa_cons (pv 1) (pa_cons (pv 2) pa_nil))) (nomark _)) (pss_one (ps_ret (pv 2))) pss_nil)))
      (pss_one (ps_ret pe_non))))), ?_⟩
    have w := show Wp ce E H0 (m_parted_by a0_one a1_other) _ from w
    unfold m_parted_by at w
    refine q_drop G w (e_callX (f := (fun a : ((List Int) × Unit) => m_check_stack a.1)) (x := (a0_one, ())) (e_cons (em_var rfl r0) ea_nil)) fun x_954 F_955 H_956 g_957 w => ?_
    have G := G.tr g_957
    have r0 := Rep.mo (K := K) g_957.ff r0
    have r1 := Rep.mo (K := K) g_957.ff r1
    refine q_drop G w (e_callX (f := (fun a : ((List Int) × Unit) => m_check_stack a.1)) (x := (a1_other, ())) (e_cons (em_var rfl r1) ea_nil)) fun x_958 F_959 H_960 g_961 w => ?_
    have G := G.tr g_961
    have r0 := Rep.mo (K := K) g_961.ff r0
    have r1 := Rep.mo (K := K) g_961.ff r1
    refine q_for (S := Unit) (fun s F' H' σ' => ∃ (z_975 : Option V), σ' = [some v0, some v1, z_975, none] ∧ Gr F0 H0 F' H' ∧ Ex F_959 F') G (ei_list (Ev.nv (em_cb (ea_cons (Ev.nv (em_op (Ev.nv (e_lst (e_lcons em_int (el_nil (α := Int))) (by simp))) (Ev.nv (em_lc (c := (fun x_965 : Int => (M.ok true))) (e := (fun x_965 : Int => (M.ok (x_965 + (1 : Int))))) (ei_list (Ev.nv (em_op (em_var rfl r0) (em_var rfl r1) fun _ _ => o_cat))) (tg_name (K := K)) (fun _ _ _ ⟨_, h, _⟩ => by rw [h]; exact wipe1) (fun x_965 _ _ _ g_964 ⟨v_966, h_968, r_967⟩ => by subst h_968; exact t_yes) (fun x_965 _ _ _ g_964 ⟨v_966, h_968, r_967⟩ => by subst h_968; exact (e2 (em_var rfl r_967) em_int o_add)))) fun _ _ => o_cat)) ea_nil) fun _ => a_sorted))) (tg_name (K := K)) w (fun _ _ g_1009 => ⟨_, rfl, G.tr g_1009, g_1009.ff⟩) (fun _ _ _ _ ⟨_, _, G, _⟩ => G) ?_ ?_
    · rintro x_977 s_976 F_978 H_979 _ ⟨z_975, hs_980, G, e_981⟩ F_982 H_983 σ_984 g_985 ⟨v_993, h_995, r_994⟩ D_990 P_991 hrt_992 hN_986 hC_987 hB_988 hP_989 w
      subst hs_980
      subst h_995
      have r0 := Rep.mo (K := K) e_981 r0
      have r1 := Rep.mo (K := K) e_981 r1
      have G := G.tr g_985
      have r0 := Rep.mo (K := K) g_985.ff r0
      have r1 := Rep.mo (K := K) g_985.ff r1
      have e_981 := Ex.tr e_981 g_985.ff
      have e_996 := Ex.rf F_982
      have hQ : ∀ r F1 H1 v, Gr F0 H0 F1 H1 → (rv K (ρ := (Option Int))) F0 H0 F1 H1 v r → P_991 (.rt r) → D_990.rt v H1 := fun r F1 H1 v g m p => by rw [hrt_992]; exact hQ r F1 H1 v g m (hP_989 _ p)
      unfold m_parted_by_b1 at w
      refine s_if2 G w (t_of (em_op (e_callX (f := (fun a : ((List Int) × Int × Unit) => m_holder a.1 a.2.1)) (x := (a0_one, x_977, ())) (e_cons (em_var rfl r0) (e_cons (em_var rfl r_994) ea_nil))) (e_callX (f := (fun a : ((List Int) × Int × Unit) => m_holder a.1 a.2.1)) (x := (a1_other, x_977, ())) (e_cons (em_var rfl r1) (e_cons (em_var rfl r_994) ea_nil))) fun _ _ => o_neI)) (fun F_999 H_1000 g_1001 w => ?_) (fun F_999 H_1000 g_1001 w => ?_)
      · have G := G.tr g_1001
        have r0 := Rep.mo (K := K) g_1001.ff r0
        have r1 := Rep.mo (K := K) g_1001.ff r1
        have r_994 := Rep.mo (K := K) g_1001.ff r_994
        have e_981 := Ex.tr e_981 g_1001.ff
        have e_996 := Ex.tr e_996 g_1001.ff
        exact s_ret G w (e_some (em_var rfl r_994)) fun r F1 H1 v g m p => hQ r F1 H1 v g m p
      · have G := G.tr g_1001
        have r0 := Rep.mo (K := K) g_1001.ff r0
        have r1 := Rep.mo (K := K) g_1001.ff r1
        have r_994 := Rep.mo (K := K) g_1001.ff r_994
        have e_981 := Ex.tr e_981 g_1001.ff
        have e_996 := Ex.tr e_996 g_1001.ff
        refine s_next ?_
        exact hN_986 _ w _ _ _ e_996 ⟨_, rfl, G, e_981⟩
    · rintro s_1005 F_1006 H_1007 _ e_1008 ⟨z_975, hs_1003, G, e_1004⟩ w
      subst hs_1003
      have r0 := Rep.mo (K := K) e_1004 r0
      have r1 := Rep.mo (K := K) e_1004 r1
      exact s_ret0 G w (em_none (α := Int)) fun r F1 H1 v g m p => hQ r F1 H1 v g m p
/-! ### _law_refused -/
abbrev s_law_refused : Stmt := topS 20
abbrev N_law_refused : List Str := ["one", "other"]
theorem sc_law_refused : FnScope N_law_refused ["one", "other"] (defScope s_law_refused) := ⟨rfl, rfl, rfl, by decide +kernel, rfl, by decide +kernel, by decide +kernel⟩
abbrev sp_law_refused (K : PySem.W.Frag) (ce : Ce) : Sp := SpF0 ce (RC K (α := (List Int)) (RC K (α := (List Int)) R0)) (rv K (ρ := Bool)) (fun a : ((List Int) × (List Int) × Unit) => m_law_refused a.1 a.2.1)
theorem ok_law_refused {f : Addr} {fd : FuncData} (FF : Fun K "_law_refused" "_law_refused" s_law_refused f fd) (mc_BadStack : mg "BadStack" = some (.ref (ce "BadStack"))) {a_parted_by : Addr} {d_parted_by : FuncData} (G_parted_by : FnOk P w K mg base (L2.CX P w) 3 a_parted_by d_parted_by ["one", "other"] (sp_parted_by K ce)) (mg_parted_by : mg "parted_by" = some (.ref a_parted_by)) (k_parted_by : PySem.W.keepIn K (.ref a_parted_by) = true) (b_parted_by : Binds K d_parted_by ["one", "other"] []) (xm_BadStack_BadStack : PySem.W.exmOne K (.ref (ce "BadStack")) (.ref (ce "BadStack")) = some true) : FnOk P w K mg base CX0 4 f fd ["one", "other"] (sp_law_refused K ce) := by
  refine FF.ok sc_law_refused (fun vs H0 Q E h => ?_) (fun cdv A outer s H0 vs Q E hr h => ?_)
  · obtain ⟨F0, ⟨a0_one, a1_other, _⟩, e0, ⟨v0, _, rfl, r0, ⟨v1, _, rfl, r1, rfl⟩⟩, w⟩ := h
    rfl
  · obtain ⟨F0, ⟨a0_one, a1_other, _⟩, e0, ⟨v0, _, rfl, r0, ⟨v1, _, rfl, r1, rfl⟩⟩, w⟩ := h
    have w := wp_post w
    have G := Gr.rf e0
    have nd := sc_law_refused.nd
    have hQ : ∀ r F1 H1 v, Gr F0 H0 F1 H1 → (rv K (ρ := Bool)) F0 H0 F1 H1 v r → Fin (rv K (ρ := Bool)) F0 H0 Q r → Q v H1 := fun r F1 H1 v g m p => p F1 H1 v g m
    refine ⟨_, (pss_cons (ps_tryO (ts := fun _ _ _ => _) rfl rfl ⟨rfl, by decide, .inl mc_BadStack⟩ takes0 (fun W pn xe tk _ => (pss_one (ps_expr (pe_callS G_parted_by (hr.mono (by decide)) rfl mg_parted_by k_parted_by b_parted_by (fun σ => passAt tk σ) (pa_cons (pv 0) (pa_cons (pv 1) pa_nil)))))) (fun a oe cls d pn _ _ => (pss_one (ps_ret pe_bl))))
      (pss_one (ps_ret pe_bl))), ?_⟩
    have w := show Wp ce E0 H0 (m_law_refused a0_one a1_other) _ from w
    unfold m_law_refused at w
    refine q_tryOn (α := Unit) (fun z : Unit => [some v0, some v1]) (fun s F' H' σ' => σ' = [some v0, some v1] ∧ Gr F0 H0 F' H' ∧ Ex F0 F') w ?_ ?_ ?_
    · rintro ⟨c_1051⟩ H_1052 z_1053 e_1050 w
      by_cases h_1054 : c_1051 = "BadStack"
      · subst h_1054
        replace w := wp_pos rfl w
        have G := G.er e_1050
        refine wonly_yes xm_BadStack_BadStack ?_
        exact s_ret0 G w em_bl fun r F1 H1 v g m p => hQ r F1 H1 v g m p
      · replace w := wp_neg h_1054 w
        exact w.elim
    · rintro s_1033 F_1043 H_1044 σs_1033 ⟨hs_1041, G, e_1042⟩ w
      subst hs_1041
      have r0 := Rep.mo (K := K) e_1042 r0
      have r1 := Rep.mo (K := K) e_1042 r1
      exact s_ret0 G w em_bl fun r F1 H1 v g m p => hQ r F1 H1 v g m p
    · intro E_1039 P_1040 hE_1034 hP_1035 hk_1036 w
      have Gt_1037 := G
      have G := Gr.rf G.fh
      have e_1045 := Ex.rf F0
      refine s_drop G w (e_callU (fun _ _ _ h => hE_1034 _ _ _ h (())) (f := (fun a : ((List Int) × (List Int) × Unit) => m_parted_by a.1 a.2.1)) (x := (a0_one, a1_other, ())) (e_cons (em_var rfl r0) (e_cons (em_var rfl r1) ea_nil))) fun x_1046 F_1047 H_1048 g_1049 w => ?_
      have G := G.tr g_1049
      have r0 := Rep.mo (K := K) g_1049.ff r0
      have r1 := Rep.mo (K := K) g_1049.ff r1
      have e_1045 := Ex.tr e_1045 g_1049.ff
      exact hk_1036 _ w _ _ _ ⟨rfl, Gt_1037.tr G, e_1045⟩
/-! ### _law_lean -/
abbrev s_law_lean : Stmt := topS 17
abbrev N_law_lean : List Str := ["stack", "kept", "opening", "one"]
theorem sc_law_lean : FnScope N_law_lean ["stack"] (defScope s_law_lean) := ⟨rfl, rfl, rfl, by decide +kernel, rfl, by decide +kernel, by decide +kernel⟩
abbrev sp_law_lean (K : PySem.W.Frag) (ce : Ce) : Sp := SpF0 ce (RC K (α := (List Int)) R0) (rn K (α := Int)) (fun a : ((List Int) × Unit) => m_law_lean a.1)
theorem ok_law_lean {f : Addr} {fd : FuncData} (FF : Fun K "_law_lean" "_law_lean" s_law_lean f fd) (z_len : mg "len" = none) : FnOk P w K mg base CX0 1 f fd ["stack"] (sp_law_lean K ce) := by
  refine FF.ok sc_law_lean (fun vs H0 Q E h => ?_) (fun cdv A outer s H0 vs Q E hr h => ?_)
  · obtain ⟨F0, ⟨a0_stack, _⟩, e0, ⟨v0, _, rfl, r0, rfl⟩, w⟩ := h
    rfl
  · obtain ⟨F0, ⟨a0_stack, _⟩, e0, ⟨v0, _, rfl, r0, rfl⟩, w⟩ := h
    have w := wp_post w
    have G := Gr.rf e0
    have nd := sc_law_lean.nd
    have hQ : ∀ r F1 H1 v, Gr F0 H0 F1 H1 → (rn K (α := Int)) F0 H0 F1 H1 v r → Fin (rn K (α := Int)) F0 H0 Q r → Q v H1 := fun r F1 H1 v g m p => p F1 H1 v g m
    refine ⟨_, (pss_cons (ps_set (i := 1) nd rfl (by first | exact Or.inl rfl | exact Or.inr rfl) (pe_lst pa_nil))
      (pss_cons (ps_for (by first | exact PassesOwn.never | exact passes_of rfl) rfl (pi_list (pv 0)) (pg_name (i := 2) nd rfl (by first | exact Or.inl rfl | exact Or.inr rfl)) (pss_one (ps_if (pt_cmpR op_eq (pe_callB (r := rLenS K) call_len_seq (by rfl) z_len (by decide +kernel) (pa_cons (pe_lc (own := [("one", 3)]) (g := (gName 3)) (by rfl) nd (pi_list (pv 1)) (blkOk_by (own := [("one", 3)]) (N := N_law_lean) (sc := defScope s_law_lean) (by decide +kernel)) (fun _ _ _ _ _ => (pg_name (i := 3) nd rfl (by first | exact Or.inl rfl | exact Or.inr rfl))) (fun _ _ _ _ _ => (pts_one (pt_cmpR op_le (pv 3) (pv 2) (nomark _)))) (fun _ _ _ _ _ => (pv 3))) pa_nil)) pe_int (nomark _)) (pss_one (ps_expr (pe_bm PySem.F.plainAttrs_list PySem.F.slot_list_append PySem.F.type_list_append mt_append (pv 1) (pa_cons (pv 2) pa_nil)))) pss_nil)))
      (pss_one (ps_ret (pv 1))))), ?_⟩
    have w := show Wp ce E0 H0 (m_law_lean a0_stack) _ from w
    unfold m_law_lean at w
    refine q_asgN (K := K) G w (e_lst (el_nil (α := Int)) (by decide)) fun kept_1118 F_1119 H_1120 p_1122 g_1121 n_1123 o_1124 w => ?_
    have n0p_1122 := ex_back G.hh n_1123
    have G := G.tr g_1121
    have r0 := Rep.mo (K := K) g_1121.ff r0
    refine q_for (S := (List Int)) (fun s F' H' σ' => ∃ (z_1125 : Option V), σ' = [some v0, some (.ref p_1122), z_1125, none] ∧ Gr F0 H0 F' H' ∧ Ex F_1119 F' ∧ Own K (T := (List Int)) F' H' p_1122 s) G (ei_list (em_var rfl r0)) (tg_name (K := K)) w (fun _ _ g_1176 => ⟨_, rfl, G.tr g_1176, g_1176.ff, o_1124.mo g_1176⟩) (fun _ _ _ _ ⟨_, _, G, _⟩ => G) ?_ ?_
    · rintro x_1127 s_1126 F_1128 H_1129 _ ⟨z_1125, hs_1130, G, e_1131, o_1132⟩ F_1133 H_1134 σ_1135 g_1136 ⟨v_1144, h_1146, r_1145⟩ D_1141 P_1142 hrt_1143 hN_1137 hC_1138 hB_1139 hP_1140 w
      subst hs_1130
      subst h_1146
      have r0 := Rep.mo (K := K) e_1131 r0
      have G := G.tr g_1136
      have r0 := Rep.mo (K := K) g_1136.ff r0
      have o_1132 := o_1132.mo g_1136
      have e_1131 := Ex.tr e_1131 g_1136.ff
      have e_1147 := Ex.rf F_1133
      have hQ : ∀ r F1 H1 v, Gr F0 H0 F1 H1 → (rn K (α := Int)) F0 H0 F1 H1 v r → P_1142 (.rt r) → D_1141.rt v H1 := fun r F1 H1 v g m p => by rw [hrt_1143]; exact hQ r F1 H1 v g m (hP_1140 _ p)
      unfold m_law_lean_b1 at w
      refine s_if2A [p_1122] G w (own1 o_1132.f) (own1 o_1132.ls) (t_of (em_op (em_cb (ea_cons (Ev.nv (em_lc (c := (fun x_1149 : Int => (M.ok (decide (x_1149 ≤ x_1127))))) (e := (fun x_1149 : Int => (M.ok x_1149))) (ei_list (em_var rfl (o_1132.lent G.fh (by simp)))) (tg_name (K := K)) (fun _ _ _ ⟨_, h, _⟩ => by rw [h]; exact wipe1) (fun x_1149 _ _ _ g_1148 ⟨v_1150, h_1152, r_1151⟩ => by subst h_1152; exact (t_of (e2 (em_var rfl r_1151) (em_var rfl (Rep.mo g_1148.ff (Rep.mo (fz_ex G.fh) r_1145))) o_le))) (fun x_1149 _ _ _ g_1148 ⟨v_1150, h_1152, r_1151⟩ => by subst h_1152; exact (em_var rfl r_1151)))) ea_nil) fun _ => a_len) em_int fun _ _ => o_eqI)) (fun F_1159 H_1160 g_1161 w => ?_) (fun F_1159 H_1160 g_1161 w => ?_)
      · have G := G.tr g_1161
        have r0 := Rep.mo (K := K) g_1161.ff r0
        have o_1132 := o_1132.mo g_1161
        have r_1145 := Rep.mo (K := K) g_1161.ff r_1145
        have e_1131 := Ex.tr e_1131 g_1161.ff
        have e_1147 := Ex.tr e_1147 g_1161.ff
        refine s_app rfl o_1132 n0p_1122 G w (em_var rfl r_1145) fun kept_1162 F_1163 H_1164 e_1165 G o_1166 hO_1167 w => ?_
        have r0 := Rep.mo (K := K) e_1165 r0
        have r_1145 := Rep.mo (K := K) e_1165 r_1145
        have e_1131 := Ex.tr e_1131 e_1165
        have e_1147 := Ex.tr e_1147 e_1165
        exact hN_1137 _ w _ _ _ e_1147 ⟨_, rfl, G, e_1131, o_1166⟩
      · have G := G.tr g_1161
        have r0 := Rep.mo (K := K) g_1161.ff r0
        have o_1132 := o_1132.mo g_1161
        have r_1145 := Rep.mo (K := K) g_1161.ff r_1145
        have e_1131 := Ex.tr e_1131 g_1161.ff
        have e_1147 := Ex.tr e_1147 g_1161.ff
        refine s_next ?_
        exact hN_1137 _ w _ _ _ e_1147 ⟨_, rfl, G, e_1131, o_1132⟩
    · rintro s_1172 F_1173 H_1174 _ e_1175 ⟨z_1125, hs_1169, G, e_1170, o_1171⟩ w
      subst hs_1169
      have r0 := Rep.mo (K := K) e_1170 r0
      exact ⟨_, rfl, hQ _ _ _ _ G (rn_own o_1171 n0p_1122) w⟩
/-! ### _law_whole -/
abbrev s_law_whole : Stmt := topS 12
abbrev N_law_whole : List Str := ["found"]
theorem sc_law_whole : FnScope N_law_whole ["found"] (defScope s_law_whole) := ⟨rfl, rfl, rfl, by decide +kernel, rfl, by decide +kernel, by decide +kernel⟩
abbrev sp_law_whole (K : PySem.W.Frag) (ce : Ce) : Sp := SpF0 ce (RC K (α := Int) R0) (rv K (ρ := Bool)) (fun a : (Int × Unit) => m_law_whole a.1)
theorem ok_law_whole {f : Addr} {fd : FuncData} (FF : Fun K "_law_whole" "_law_whole" s_law_whole f fd) (z_bool : mg "bool" = none) (z_int : mg "int" = none) (z_isinstance : mg "isinstance" = none) : FnOk P w K mg base CX0 1 f fd ["found"] (sp_law_whole K ce) := by
  refine FF.ok sc_law_whole (fun vs H0 Q E h => ?_) (fun cdv A outer s H0 vs Q E hr h => ?_)
  · obtain ⟨F0, ⟨a0_found, _⟩, e0, ⟨v0, _, rfl, r0, rfl⟩, w⟩ := h
    rfl
  · obtain ⟨F0, ⟨a0_found, _⟩, e0, ⟨v0, _, rfl, r0, rfl⟩, w⟩ := h
    have w := wp_post w
    have G := Gr.rf e0
    have nd := sc_law_whole.nd
    have hQ : ∀ r F1 H1 v, Gr F0 H0 F1 H1 → (rv K (ρ := Bool)) F0 H0 F1 H1 v r → Fin (rv K (ρ := Bool)) F0 H0 Q r → Q v H1 := fun r F1 H1 v g m p => p F1 H1 v g m
    refine ⟨_, (pss_one (ps_ret (pe_and (pe_callB (r := rIsi K) call_isi (by rfl) z_isinstance (by decide +kernel) (pa_cons (pv 0) (pa_cons (pe_bltn (v := .ty "int") (by rfl) z_int (by decide +kernel) rfl) pa_nil))) (pe_one (pe_not (pe_callB (r := rIsi K) call_isi (by rfl) z_isinstance (by decide +kernel) (pa_cons (pv 0) (pa_cons (pe_bltn (v := .ty "bool") (by rfl) z_bool (by decide +kernel) rfl) pa_nil)))))))), ?_⟩
    have w := show Wp ce E0 H0 (m_law_whole a0_found) _ from w
    unfold m_law_whole at w
    exact s_ret0 G w (e_andV (e_isi (b := true) (em_var rfl r0) (kit_ty (by decide +kernel))) (e_notV (e_isi (b := false) (em_var rfl r0) (kit_ty (by decide +kernel))))) fun r F1 H1 v g m p => hQ r F1 H1 v g m p
/-! ### law -/
abbrev s_law : Stmt := topS 21
abbrev N_law : List Str := ["script", "many", "one", "other", "handed", "due", "pair", "found", "bad"]
theorem sc_law : FnScope N_law ["script"] (defScope s_law) := ⟨rfl, rfl, rfl, by decide +kernel, rfl, by decide +kernel, by decide +kernel⟩
abbrev sp_law (K : PySem.W.Frag) (ce : Ce) : Sp := SpF ce (RC K (α := Scr) R0) (rv K (ρ := Bool)) (fun a : (Scr × Unit) => m_law a.1)
theorem ok_law {f : Addr} {fd : FuncData} (FF : Fun K "law" "law" s_law f fd) {a__law_bad_stack : Addr} {d__law_bad_stack : FuncData} (G__law_bad_stack : FnOk P w K mg base CX0 1 a__law_bad_stack d__law_bad_stack ["stack", "cell"] (sp_law_bad_stack K ce)) (mg__law_bad_stack : mg "_law_bad_stack" = some (.ref a__law_bad_stack)) (k__law_bad_stack : PySem.W.keepIn K (.ref a__law_bad_stack) = true) (b__law_bad_stack : Binds K d__law_bad_stack ["stack", "cell"] []) {a__law_cell_at : Addr} {d__law_cell_at : FuncData} (G__law_cell_at : FnOk P w K mg base CX0 1 a__law_cell_at d__law_cell_at ["script", "k"] (sp_law_cell_at K ce)) (mg__law_cell_at : mg "_law_cell_at" = some (.ref a__law_cell_at)) (k__law_cell_at : PySem.W.keepIn K (.ref a__law_cell_at) = true) (b__law_cell_at : Binds K d__law_cell_at ["script", "k"] []) {a__law_due : Addr} {d__law_due : FuncData} (G__law_due : FnOk P w K mg base CX0 2 a__law_due d__law_due ["one", "other"] (sp_law_due K ce)) (mg__law_due : mg "_law_due" = some (.ref a__law_due)) (k__law_due : PySem.W.keepIn K (.ref a__law_due) = true) (b__law_due : Binds K d__law_due ["one", "other"] []) {a__law_lean : Addr} {d__law_lean : FuncData} (G__law_lean : FnOk P w K mg base CX0 1 a__law_lean d__law_lean ["stack"] (sp_law_lean K ce)) (mg__law_lean : mg "_law_lean" = some (.ref a__law_lean)) (k__law_lean : PySem.W.keepIn K (.ref a__law_lean) = true) (b__law_lean : Binds K d__law_lean ["stack"] []) {a__law_other : Addr} {d__law_other : FuncData} (G__law_other : FnOk P w K mg base CX0 3 a__law_other d__law_other ["stack", "cells", "cell"] (sp_law_other K ce)) (mg__law_other : mg "_law_other" = some (.ref a__law_other)) (k__law_other : PySem.W.keepIn K (.ref a__law_other) = true) (b__law_other : Binds K d__law_other ["stack", "cells", "cell"] []) {a__law_refused : Addr} {d__law_refused : FuncData} (G__law_refused : FnOk P w K mg base CX0 4 a__law_refused d__law_refused ["one", "other"] (sp_law_refused K ce)) (mg__law_refused : mg "_law_refused" = some (.ref a__law_refused)) (k__law_refused : PySem.W.keepIn K (.ref a__law_refused) = true) (b__law_refused : Binds K d__law_refused ["one", "other"] []) {a__law_stack : Addr} {d__law_stack : FuncData} (G__law_stack : FnOk P w K mg base CX0 2 a__law_stack d__law_stack ["cells", "lot"] (sp_law_stack K ce)) (mg__law_stack : mg "_law_stack" = some (.ref a__law_stack)) (k__law_stack : PySem.W.keepIn K (.ref a__law_stack) = true) (b__law_stack : Binds K d__law_stack ["cells", "lot"] []) {a__law_whole : Addr} {d__law_whole : FuncData} (G__law_whole : FnOk P w K mg base CX0 1 a__law_whole d__law_whole ["found"] (sp_law_whole K ce)) (mg__law_whole : mg "_law_whole" = some (.ref a__law_whole)) (k__law_whole : PySem.W.keepIn K (.ref a__law_whole) = true) (b__law_whole : Binds K d__law_whole ["found"] []) {a_parted_by : Addr} {d_parted_by : FuncData} (G_parted_by : FnOk P w K mg base (L2.CX P w) 3 a_parted_by d_parted_by ["one", "other"] (sp_parted_by K ce)) (mg_parted_by : mg "parted_by" = some (.ref a_parted_by)) (k_parted_by : PySem.W.keepIn K (.ref a_parted_by) = true) (b_parted_by : Binds K d_parted_by ["one", "other"] []) (z_list : mg "list" = none) : FnOk P w K mg base (L2.CX P w) 5 f fd ["script"] (sp_law K ce) := by
  refine FF.okX sc_law (fun vs H0 Q E h => ?_) (fun cdv A outer s H0 vs Q E hr h => ?_)
  · obtain ⟨F0, ⟨a0_script, _⟩, e0, ⟨v0, _, rfl, r0, rfl⟩, w⟩ := h
    rfl
  · obtain ⟨F0, ⟨a0_script, _⟩, e0, ⟨v0, _, rfl, r0, rfl⟩, w⟩ := h
    have w := wp_post w
    have G := Gr.rf e0
    have nd := sc_law.nd
    have hQ : ∀ r F1 H1 v, Gr F0 H0 F1 H1 → (rv K (ρ := Bool)) F0 H0 F1 H1 v r → Fin (rv K (ρ := Bool)) F0 H0 Q r → Q v H1 := fun r F1 H1 v g m p => p F1 H1 v g m
    refine ⟨_, (pss_cons (ps_set (i := 1) nd rfl (by first | exact Or.inl rfl | exact Or.inr rfl) (pe_op op_mod (pe_call G__law_cell_at (hr.mono (by decide)) rfl mg__law_cell_at k__law_cell_at b__law_cell_at .nil pass0 (pa_cons (pv 0) (pa_cons pe_int pa_nil))) pe_int))
      (pss_cons (ps_set (i := 2) nd rfl (by first | exact Or.inl rfl | exact Or.inr rfl) (pe_call G__law_stack (hr.mono (by decide)) rfl mg__law_stack k__law_stack b__law_stack .nil pass0 (pa_cons (pe_slice (r := rSlL K) sl_list (pv 0) (po_some pe_int) (po_some (pe_op op_add pe_int (pv 1)))) (pa_cons (pe_lst pa_nil) pa_nil))))
      (pss_cons (ps_set (i := 3) nd rfl (by first | exact Or.inl rfl | exact Or.inr rfl) (pe_call G__law_other (hr.mono (by decide)) rfl mg__law_other k__law_other b__law_other .nil pass0 (pa_cons (pv 2) (pa_cons (pe_slice (r := rSlL K) sl_list (pv 0) (po_some (pe_op op_add pe_int (pv 1))) po_none) (pa_cons (pe_call G__law_cell_at (hr.mono (by decide)) rfl mg__law_cell_at k__law_cell_at b__law_cell_at .nil pass0 (pa_cons (pv 0) (pa_cons pe_int pa_nil))) pa_nil)))))
      (pss_cons (ps_set (i := 4) nd rfl (by first | exact Or.inl rfl | exact Or.inr rfl) (pe_lst (pa_cons (pe_callTy (r := rListS K) call_list_of (by rfl) z_list (by decide +kernel) (pa_cons (pv 2) pa_nil)) (pa_cons (pe_callTy (r := rListS K) call_list_of (by rfl) z_list (by decide +kernel) (pa_cons (pv 3) pa_nil)) pa_nil))))
      (pss_cons (ps_set (i := 5) nd rfl (by first | exact Or.inl rfl | exact Or.inr rfl) (pe_call G__law_due (hr.mono (by decide)) rfl mg__law_due k__law_due b__law_due .nil pass0 (pa_cons (pv 2) (pa_cons (pv 3) pa_nil))))
      (pss_cons (ps_for (by first | exact PassesOwn.never | exact passes_of rfl) rfl (pi_list (pe_lst (pa_cons (pe_tup (pa_cons (pe_ix (r := rIxL K) ix_list (pv 4) pe_int (fun _ _ => rfl)) (pa_cons (pe_ix (r := rIxL K) ix_list (pv 4) pe_int (fun _ _ => rfl)) pa_nil))) (pa_cons (pe_tup (pa_cons (pe_ix (r := rIxL K) ix_list (pv 4) pe_int (fun _ _ => rfl)) (pa_cons (pe_ix (r := rIxL K) ix_list (pv 4) pe_int (fun _ _ => rfl)) pa_nil))) pa_nil)))) (pg_name (i := 6) nd rfl (by first | exact Or.inl rfl | exact Or.inr rfl)) (pss_cons (ps_set (i := 7) nd rfl (by first | exact Or.inl rfl | exact Or.inr rfl) (pe_call G_parted_by (hr.mono (by decide)) rfl mg_parted_by k_parted_by b_parted_by .nil (passes_call (takes_of rfl rfl rfl rfl) (fun _ _ _ _ h => h)) (pa_cons (pe_ix (r := rIxT K) ix_tup (pv 6) pe_int (fun _ _ => rfl)) (pa_cons (pe_ix (r := rIxT K) ix_tup (pv 6) pe_int (fun _ _ => rfl)) pa_nil))))
      (pss_one (ps_if (PW.pt (pw_or (pt_cmpR (r := rNeD K) (op_neD hr.units) (pv 7) (pv 5) (nomark _)) (pw_or1 (PW.pt (pw_and (pt_cmpR op_notN (pv 7) pe_non (nomark _)) (pw_and1 (pt_not (pt_val (pe_call G__law_whole (hr.mono (by decide)) rfl mg__law_whole k__law_whole b__law_whole .nil pass0 (pa_cons (pv 7) pa_nil)))))))))) (pss_one (ps_ret pe_bl)) pss_nil))))
      (pss_cons (ps_if (PW.pt (pw_or (pt_cmpR op_ne (pe_cmpR op_isN (pv 5) pe_non (nomark _)) (pe_cmpR (r := rEqD K) (op_eqD hr.units) (pe_call G__law_lean (hr.mono (by decide)) rfl mg__law_lean k__law_lean b__law_lean .nil pass0 (pa_cons (pv 2) pa_nil)) (pe_call G__law_lean (hr.mono (by decide)) rfl mg__law_lean k__law_lean b__law_lean .nil pass0 (pa_cons (pv 3) pa_nil)) (nomark _)) (nomark _)) (pw_or1 (pt_cmpR op_notN (pe_call G_parted_by (hr.mono (by decide)) rfl mg_parted_by k_parted_by b_parted_by .nil (passes_call (takes_of rfl rfl rfl rfl) (fun _ _ _ _ h => h)) (pa_cons (pe_ix (r := rIxL K) ix_list (pv 4) pe_int (fun _ _ => rfl)) (pa_cons (pe_ix (r := rIxL K) ix_list (pv 4) pe_int (fun _ _ => rfl)) pa_nil))) pe_non (nomark _))))) (pss_one (ps_ret pe_bl)) pss_nil)
      (pss_cons (ps_set (i := 8) nd rfl (by first | exact Or.inl rfl | exact Or.inr rfl) (pe_call G__law_bad_stack (hr.mono (by decide)) rfl mg__law_bad_stack k__law_bad_stack b__law_bad_stack .nil pass0 (pa_cons (pv 2) (pa_cons (pe_op op_fdivW (pe_call G__law_cell_at (hr.mono (by decide)) rfl mg__law_cell_at k__law_cell_at b__law_cell_at .nil pass0 (pa_cons (pv 0) (pa_cons pe_int pa_nil))) pe_int) pa_nil))))
      (pss_cons (ps_if (PW.pt (pw_or (pt_not (pt_val (pe_call G__law_refused (hr.mono (by decide)) rfl mg__law_refused k__law_refused b__law_refused .nil pass0 (pa_cons (pe_callTy (r := rListS K) call_list_of (by rfl) z_list (by decide +kernel) (pa_cons (pv 8) pa_nil)) (pa_cons (pe_ix (r := rIxL K) ix_list (pv 4) pe_int (fun _ _ => rfl)) pa_nil))))) (pw_or1 (pt_not (pt_val (pe_call G__law_refused (hr.mono (by decide)) rfl mg__law_refused k__law_refused b__law_refused .nil pass0 (pa_cons (pe_ix (r := rIxL K) ix_list (pv 4) pe_int (fun _ _ => rfl)) (pa_cons (pe_callTy (r := rListS K) call_list_of (by rfl) z_list (by decide +kernel) (pa_cons (pv 8) pa_nil)) pa_nil)))))))) (pss_one (ps_ret pe_bl)) pss_nil)
      (pss_one (ps_ret (pe_and (pe_call G__law_refused (hr.mono (by decide)) rfl mg__law_refused k__law_refused b__law_refused .nil pass0 (pa_cons (pe_callTy (r := rListS K) call_list_of (by rfl) z_list (by decide +kernel) (pa_cons (pv 8) pa_nil)) (pa_cons (pe_callTy (r := rListS K) call_list_of (by rfl) z_list (by decide +kernel) (pa_cons (pv 8) pa_nil)) pa_nil))) (pe_one (pe_cmpR (r := rEqD K) (op_eqD hr.units) (pv 4) (pe_lst (pa_cons (pv 2) (pa_cons (pv 3) pa_nil))) (nomark _))))))))))))))), ?_⟩
    have w := show Wp ce E H0 (m_law a0_script) _ from w
    unfold m_law at w
    refine q_asg G w (em_op (e_call0 (f := (fun a : (Scr × Int × Unit) => m_law_cell_at a.1 a.2.1)) (x := (a0_script, (0 : Int), ())) (e_cons (em_var rfl r0) (e_cons em_int ea_nil))) em_int fun _ _ => o_modM) fun many_1328 F_1329 H_1330 v_1332 g_1331 r_1333 w => ?_
    have G := G.tr g_1331
    have r0 := Rep.mo (K := K) g_1331.ff r0
    refine q_asg G w (Ev.nv (e_call0 (f := (fun a : ((List Int) × (List (Int × Int)) × Unit) => m_law_stack a.1 a.2.1)) (x := ((cut a0_script.l (some (2 : Int)) (some ((2 : Int) + many_1328))), ([] : (List (Int × Int))), ())) (e_cons (Ev.nv (e_slS (em_var rfl r0) (eo_some' (K := K) em_int) (eo_some' (K := K) (e2 em_int (em_var rfl r_1333) o_add)))) (e_cons (Ev.nv (e_lst (el_nil (α := (Int × Int))) (by decide))) ea_nil)))) fun one_1334 F_1335 H_1336 v_1338 g_1337 r_1339 w => ?_
    have G := G.tr g_1337
    have r0 := Rep.mo (K := K) g_1337.ff r0
    have r_1333 := Rep.mo (K := K) g_1337.ff r_1333
    refine q_asg G w (Ev.nv (em_call0 (f := (fun a : ((List Int) × (List Int) × Int × Unit) => m_law_other a.1 a.2.1 a.2.2.1)) (ea_cons (em_var rfl r_1339) (ea_cons (Ev.nv (e_slS (em_var rfl r0) (eo_some' (K := K) (e2 em_int (em_var rfl r_1333) o_add)) eo_none)) (ea_cons (e_call0 (f := (fun a : (Scr × Int × Unit) => m_law_cell_at a.1 a.2.1)) (x := (a0_script, (1 : Int), ())) (e_cons (em_var rfl r0) (e_cons em_int ea_nil))) ea_nil))))) fun other_1347 F_1348 H_1349 v_1351 g_1350 r_1352 w => ?_
    have G := G.tr g_1350
    have r0 := Rep.mo (K := K) g_1350.ff r0
    have r_1333 := Rep.mo (K := K) g_1350.ff r_1333
    have r_1339 := Rep.mo (K := K) g_1350.ff r_1339
    refine q_asg G w (Ev.nv (e_lst (e_lcons (Ev.nv (e_cb (e_cons (em_var rfl r_1339) ea_nil) a_list)) (e_lcons (Ev.nv (e_cb (e_cons (em_var rfl r_1352) ea_nil) a_list)) (el_nil (α := (List Int))))) (by simp))) fun handed_1353 F_1354 H_1355 v_1357 g_1356 r_1358 w => ?_
    have G := G.tr g_1356
    have r0 := Rep.mo (K := K) g_1356.ff r0
    have r_1333 := Rep.mo (K := K) g_1356.ff r_1333
    have r_1339 := Rep.mo (K := K) g_1356.ff r_1339
    have r_1352 := Rep.mo (K := K) g_1356.ff r_1352
    refine q_asg G w (e_call0 (f := (fun a : ((List Int) × (List Int) × Unit) => m_law_due a.1 a.2.1)) (x := (one_1334, other_1347, ())) (e_cons (em_var rfl r_1339) (e_cons (em_var rfl r_1352) ea_nil))) fun due_1359 F_1360 H_1361 v_1363 g_1362 r_1364 w => ?_
    have G := G.tr g_1362
    have r0 := Rep.mo (K := K) g_1362.ff r0
    have r_1333 := Rep.mo (K := K) g_1362.ff r_1333
    have r_1339 := Rep.mo (K := K) g_1362.ff r_1339
    have r_1352 := Rep.mo (K := K) g_1362.ff r_1352
    have r_1358 := Rep.mo (K := K) g_1362.ff r_1358
    refine q_for (S := Unit) (fun s F' H' σ' => ∃ (z_1382 : Option V) (z_1383 : Option V), σ' = [some v0, some v_1332, some v_1338, some v_1351, some v_1357, some v_1363, z_1382, z_1383, none] ∧ Gr F0 H0 F' H' ∧ Ex F_1360 F') G (ei_list (Ev.nv (em_lst' (el_cons (em_tup2 (em_op (em_var rfl r_1358) em_int fun _ _ => o_ixL) (em_op (em_var rfl r_1358) em_int fun _ _ => o_ixL)) (el_cons (em_tup2 (em_op (em_var rfl r_1358) em_int fun _ _ => o_ixL) (em_op (em_var rfl r_1358) em_int fun _ _ => o_ixL)) (el_nil (α := ((List Int) × (List Int))))))))) (tg_name (K := K)) w (fun _ _ g_1472 => ⟨_, _, rfl, G.tr g_1472, g_1472.ff⟩) (fun _ _ _ _ ⟨_, _, _, G, _⟩ => G) ?_ ?_
    · rintro x_1385 s_1384 F_1386 H_1387 _ ⟨z_1382, z_1383, hs_1388, G, e_1389⟩ F_1390 H_1391 σ_1392 g_1393 ⟨v_1401, h_1403, r_1402⟩ D_1398 P_1399 hrt_1400 hN_1394 hC_1395 hB_1396 hP_1397 w
      subst hs_1388
      subst h_1403
      have r0 := Rep.mo (K := K) e_1389 r0
      have r_1333 := Rep.mo (K := K) e_1389 r_1333
      have r_1339 := Rep.mo (K := K) e_1389 r_1339
      have r_1352 := Rep.mo (K := K) e_1389 r_1352
      have r_1358 := Rep.mo (K := K) e_1389 r_1358
      have r_1364 := Rep.mo (K := K) e_1389 r_1364
      have G := G.tr g_1393
      have r0 := Rep.mo (K := K) g_1393.ff r0
      have r_1333 := Rep.mo (K := K) g_1393.ff r_1333
      have r_1339 := Rep.mo (K := K) g_1393.ff r_1339
      have r_1352 := Rep.mo (K := K) g_1393.ff r_1352
      have r_1358 := Rep.mo (K := K) g_1393.ff r_1358
      have r_1364 := Rep.mo (K := K) g_1393.ff r_1364
      have e_1389 := Ex.tr e_1389 g_1393.ff
      have e_1404 := Ex.rf F_1390
      have hQ : ∀ r F1 H1 v, Gr F0 H0 F1 H1 → (rv K (ρ := Bool)) F0 H0 F1 H1 v r → P_1399 (.rt r) → D_1398.rt v H1 := fun r F1 H1 v g m p => by rw [hrt_1400]; exact hQ r F1 H1 v g m (hP_1397 _ p)
      unfold m_law_b1 at w
      refine q_asg G w (e_callX (f := (fun a : ((List Int) × (List Int) × Unit) => m_parted_by a.1 a.2.1)) (x := (x_1385.1, x_1385.2, ())) (e_cons (e2 (em_var rfl r_1402) em_int (o_fst rfl)) (e_cons (e2 (em_var rfl r_1402) em_int (o_snd rfl)) ea_nil))) fun found_1405 F_1406 H_1407 v_1409 g_1408 r_1410 w => ?_
      have G := G.tr g_1408
      have r0 := Rep.mo (K := K) g_1408.ff r0
      have r_1333 := Rep.mo (K := K) g_1408.ff r_1333
      have r_1339 := Rep.mo (K := K) g_1408.ff r_1339
      have r_1352 := Rep.mo (K := K) g_1408.ff r_1352
      have r_1358 := Rep.mo (K := K) g_1408.ff r_1358
      have r_1364 := Rep.mo (K := K) g_1408.ff r_1364
      have r_1402 := Rep.mo (K := K) g_1408.ff r_1402
      have e_1389 := Ex.tr e_1389 g_1408.ff
      have e_1404 := Ex.tr e_1404 g_1408.ff
      refine s_if2 G w (tm_or (t_of (e2 (em_var rfl r_1410) (em_var rfl r_1364) (o_neD (by decide)))) (tm_and (t_of (e2 (em_var rfl r_1410) em_unit o_notN)) (tm_not (t_B (em_call0 (f := (fun a : (Int × Unit) => m_law_whole a.1)) (ea_cons (em_get (em_var rfl r_1410)) ea_nil)))))) (fun F_1414 H_1415 g_1416 w => ?_) (fun F_1414 H_1415 g_1416 w => ?_)
      · have G := G.tr g_1416
        have r0 := Rep.mo (K := K) g_1416.ff r0
        have r_1333 := Rep.mo (K := K) g_1416.ff r_1333
        have r_1339 := Rep.mo (K := K) g_1416.ff r_1339
        have r_1352 := Rep.mo (K := K) g_1416.ff r_1352
        have r_1358 := Rep.mo (K := K) g_1416.ff r_1358
        have r_1364 := Rep.mo (K := K) g_1416.ff r_1364
        have r_1402 := Rep.mo (K := K) g_1416.ff r_1402
        have r_1410 := Rep.mo (K := K) g_1416.ff r_1410
        have e_1389 := Ex.tr e_1389 g_1416.ff
        have e_1404 := Ex.tr e_1404 g_1416.ff
        exact s_ret G w em_bl fun r F1 H1 v g m p => hQ r F1 H1 v g m p
      · have G := G.tr g_1416
        have r0 := Rep.mo (K := K) g_1416.ff r0
        have r_1333 := Rep.mo (K := K) g_1416.ff r_1333
        have r_1339 := Rep.mo (K := K) g_1416.ff r_1339
        have r_1352 := Rep.mo (K := K) g_1416.ff r_1352
        have r_1358 := Rep.mo (K := K) g_1416.ff r_1358
        have r_1364 := Rep.mo (K := K) g_1416.ff r_1364
        have r_1402 := Rep.mo (K := K) g_1416.ff r_1402
        have r_1410 := Rep.mo (K := K) g_1416.ff r_1410
        have e_1389 := Ex.tr e_1389 g_1416.ff
        have e_1404 := Ex.tr e_1404 g_1416.ff
        refine s_next ?_
        exact hN_1394 _ w _ _ _ e_1404 ⟨_, _, rfl, G, e_1389⟩
    · rintro s_1420 F_1421 H_1422 _ e_1423 ⟨z_1382, z_1383, hs_1418, G, e_1419⟩ w
      subst hs_1418
      have r0 := Rep.mo (K := K) e_1419 r0
      have r_1333 := Rep.mo (K := K) e_1419 r_1333
      have r_1339 := Rep.mo (K := K) e_1419 r_1339
      have r_1352 := Rep.mo (K := K) e_1419 r_1352
      have r_1358 := Rep.mo (K := K) e_1419 r_1358
      have r_1364 := Rep.mo (K := K) e_1419 r_1364
      refine q_if2 G w (tm_or (t_of (em_op (e2 (em_var rfl r_1364) em_unit o_isN) (em_op (Ev.nv (e_call0 (f := (fun a : ((List Int) × Unit) => m_law_lean a.1)) (x := (one_1334, ())) (e_cons (em_var rfl r_1339) ea_nil))) (Ev.nv (e_call0 (f := (fun a : ((List Int) × Unit) => m_law_lean a.1)) (x := (other_1347, ())) (e_cons (em_var rfl r_1352) ea_nil))) fun _ _ => (o_eqD (by decide))) fun _ _ => o_neB)) (t_of (em_op (em_callX (f := (fun a : ((List Int) × (List Int) × Unit) => m_parted_by a.1 a.2.1)) (ea_cons (em_op (em_var rfl r_1358) em_int fun _ _ => o_ixL) (ea_cons (em_op (em_var rfl r_1358) em_int fun _ _ => o_ixL) ea_nil))) em_unit fun _ _ => o_notN))) (fun F_1439 H_1440 g_1441 w => ?_) (fun F_1439 H_1440 g_1441 w => ?_)
      · have G := G.tr g_1441
        have r0 := Rep.mo (K := K) g_1441.ff r0
        have r_1333 := Rep.mo (K := K) g_1441.ff r_1333
        have r_1339 := Rep.mo (K := K) g_1441.ff r_1339
        have r_1352 := Rep.mo (K := K) g_1441.ff r_1352
        have r_1358 := Rep.mo (K := K) g_1441.ff r_1358
        have r_1364 := Rep.mo (K := K) g_1441.ff r_1364
        exact s_ret0 G w em_bl fun r F1 H1 v g m p => hQ r F1 H1 v g m p
      · have G := G.tr g_1441
        have r0 := Rep.mo (K := K) g_1441.ff r0
        have r_1333 := Rep.mo (K := K) g_1441.ff r_1333
        have r_1339 := Rep.mo (K := K) g_1441.ff r_1339
        have r_1352 := Rep.mo (K := K) g_1441.ff r_1352
        have r_1358 := Rep.mo (K := K) g_1441.ff r_1358
        have r_1364 := Rep.mo (K := K) g_1441.ff r_1364
        refine s_next ?_
        refine s_nx ?_
        refine q_asg G w (Ev.nv (em_call0 (f := (fun a : ((List Int) × Int × Unit) => m_law_bad_stack a.1 a.2.1)) (ea_cons (em_var rfl r_1339) (ea_cons (em_op (e_call0 (f := (fun a : (Scr × Int × Unit) => m_law_cell_at a.1 a.2.1)) (x := (a0_script, (1 : Int), ())) (e_cons (em_var rfl r0) (e_cons em_int ea_nil))) em_int fun _ _ => o_fdivM) ea_nil)))) fun bad_1449 F_1450 H_1451 v_1453 g_1452 r_1454 w => ?_
        have G := G.tr g_1452
        have r0 := Rep.mo (K := K) g_1452.ff r0
        have r_1333 := Rep.mo (K := K) g_1452.ff r_1333
        have r_1339 := Rep.mo (K := K) g_1452.ff r_1339
        have r_1352 := Rep.mo (K := K) g_1452.ff r_1352
        have r_1358 := Rep.mo (K := K) g_1452.ff r_1358
        have r_1364 := Rep.mo (K := K) g_1452.ff r_1364
        refine q_if2 G w (tm_or (tm_not (t_B (em_call0 (f := (fun a : ((List Int) × (List Int) × Unit) => m_law_refused a.1 a.2.1)) (ea_cons (Ev.nv (e_cb (e_cons (em_var rfl r_1454) ea_nil) a_list)) (ea_cons (em_op (em_var rfl r_1358) em_int fun _ _ => o_ixL) ea_nil))))) (tm_not (t_B (em_call0 (f := (fun a : ((List Int) × (List Int) × Unit) => m_law_refused a.1 a.2.1)) (ea_cons (em_op (em_var rfl r_1358) em_int fun _ _ => o_ixL) (ea_cons (Ev.nv (e_cb (e_cons (em_var rfl r_1454) ea_nil) a_list)) ea_nil)))))) (fun F_1469 H_1470 g_1471 w => ?_) (fun F_1469 H_1470 g_1471 w => ?_)
        · have G := G.tr g_1471
          have r0 := Rep.mo (K := K) g_1471.ff r0
          have r_1333 := Rep.mo (K := K) g_1471.ff r_1333
          have r_1339 := Rep.mo (K := K) g_1471.ff r_1339
          have r_1352 := Rep.mo (K := K) g_1471.ff r_1352
          have r_1358 := Rep.mo (K := K) g_1471.ff r_1358
          have r_1364 := Rep.mo (K := K) g_1471.ff r_1364
          have r_1454 := Rep.mo (K := K) g_1471.ff r_1454
          exact s_ret0 G w em_bl fun r F1 H1 v g m p => hQ r F1 H1 v g m p
        · have G := G.tr g_1471
          have r0 := Rep.mo (K := K) g_1471.ff r0
          have r_1333 := Rep.mo (K := K) g_1471.ff r_1333
          have r_1339 := Rep.mo (K := K) g_1471.ff r_1339
          have r_1352 := Rep.mo (K := K) g_1471.ff r_1352
          have r_1358 := Rep.mo (K := K) g_1471.ff r_1358
          have r_1364 := Rep.mo (K := K) g_1471.ff r_1364
          have r_1454 := Rep.mo (K := K) g_1471.ff r_1454
          refine s_next ?_
          refine s_nx ?_
          exact s_ret0 G w (em_andV (e_call0 (f := (fun a : ((List Int) × (List Int) × Unit) => m_law_refused a.1 a.2.1)) (x := (bad_1449, bad_1449, ())) (e_cons (Ev.nv (e_cb (e_cons (em_var rfl r_1454) ea_nil) a_list)) (e_cons (Ev.nv (e_cb (e_cons (em_var rfl r_1454) ea_nil) a_list)) ea_nil))) (e2 (em_var rfl r_1358) (Ev.nv (e_lst (e_lcons (em_var rfl r_1339) (e_lcons (em_var rfl r_1352) (el_nil (α := (List Int))))) (by simp))) (o_eqD (by decide)))) fun r F1 H1 v g m p => hQ r F1 H1 v g m p
end
def spLaw (K : PySem.W.Frag) : Sp := fun vs H Q _ => ∃ (a : Addr) (ns : List Int), vs = [.ref a] ∧ SqL K H a (ns.map V.int) ∧ ns.length ≤ 63 ∧ ∀ H', Q (.bl true) H'
theorem law_of {P : Program} {w : World} {K : PySem.W.Frag} {mg : Str → Option Value} {base : Heap} {ce : Ce} {k : Nat} {f : Addr} {fd : FuncData} (F : FnOk P w K mg base (L2.CX P w) k f fd ["script"] (sp_law K ce)) : FnOk P w K mg base CX0 k f fd ["script"] (spLaw K) :=
  fn_quiet F fun vs H Q E ⟨a, ns, h1, h2, h3, h4⟩ => ⟨H, (⟨ns⟩, ()), Ex.rf _, ⟨.ref a, [], h1, ⟨a, rfl, h2⟩, rfl⟩, by
    show Post ce (rv K) (m_law ⟨ns⟩) H H Q E0
    rw [law_true ns h3]
    intro F' H' v g r
    cases r
    exact h4 H'⟩
theorem all_mk {l : PySem.W.OpenLaw} {w : World} {K : PySem.W.Frag} {h : Heap} {mg : Str → Option Value} {fa f0 f1 f2 f3 f4 f5 f6 f7 f8 f9 f10 f11 f12 f13 f14 C_BadStack : Addr} {t_GREATEST : Tok} {t_MOST_MESHES : Tok} (X : K.In h) (G : h.Ns mainGlobals mg) (hfa : mg "law" = some (.ref fa))
    {od0 an0 : Option Addr} {sl0 : Array (Option Value)} {oc0 kV0 dc0 pm0 cd0 ct0 : Value}
    {od1 an1 : Option Addr} {sl1 : Array (Option Value)} {oc1 kV1 dc1 pm1 cd1 ct1 : Value}
    {od2 an2 : Option Addr} {sl2 : Array (Option Value)} {oc2 kV2 dc2 pm2 cd2 ct2 : Value}
    {od3 an3 : Option Addr} {sl3 : Array (Option Value)} {oc3 kV3 dc3 pm3 cd3 ct3 : Value}
    {od4 an4 : Option Addr} {sl4 : Array (Option Value)} {oc4 kV4 dc4 pm4 cd4 ct4 : Value}
    {od5 an5 : Option Addr} {sl5 : Array (Option Value)} {oc5 kV5 dc5 pm5 cd5 ct5 : Value}
    {od6 an6 : Option Addr} {sl6 : Array (Option Value)} {oc6 kV6 dc6 pm6 cd6 ct6 : Value}
    {od7 an7 : Option Addr} {sl7 : Array (Option Value)} {oc7 kV7 dc7 pm7 cd7 ct7 : Value}
    {od8 an8 : Option Addr} {sl8 : Array (Option Value)} {oc8 kV8 dc8 pm8 cd8 ct8 : Value}
    {od9 an9 : Option Addr} {sl9 : Array (Option Value)} {oc9 kV9 dc9 pm9 cd9 ct9 : Value}
    {od10 an10 : Option Addr} {sl10 : Array (Option Value)} {oc10 kV10 dc10 pm10 cd10 ct10 : Value}
    {od11 an11 : Option Addr} {sl11 : Array (Option Value)} {oc11 kV11 dc11 pm11 cd11 ct11 : Value}
    {od12 an12 : Option Addr} {sl12 : Array (Option Value)} {oc12 kV12 dc12 pm12 cd12 ct12 : Value}
    {od13 an13 : Option Addr} {sl13 : Array (Option Value)} {oc13 kV13 dc13 pm13 cd13 ct13 : Value}
    {od14 an14 : Option Addr} {sl14 : Array (Option Value)} {oc14 kV14 dc14 pm14 cd14 ct14 : Value}
    (a0 : PySem.W.nsIn K mainGlobals "_law_size" = some (some (.ref f0))) (l0 : K.lookup f0 = some ⟨oc0, od0, .func (PySem.W.fnOf "_law_size" "_law_size" (defArgs s_law_size) (defBody s_law_size) (defScope s_law_size) .none kV0 dc0 pm0 an0 cd0 ct0), sl0⟩) (c0 : PySem.W.codeIn K cd0 "_law_size" = true) (k0 : PySem.W.keepIn K (.ref f0) = true)
    (a1 : PySem.W.nsIn K mainGlobals "_law_stack" = some (some (.ref f1))) (l1 : K.lookup f1 = some ⟨oc1, od1, .func (PySem.W.fnOf "_law_stack" "_law_stack" (defArgs s_law_stack) (defBody s_law_stack) (defScope s_law_stack) .none kV1 dc1 pm1 an1 cd1 ct1), sl1⟩) (c1 : PySem.W.codeIn K cd1 "_law_stack" = true) (k1 : PySem.W.keepIn K (.ref f1) = true)
    (a2 : PySem.W.nsIn K mainGlobals "_law_other" = some (some (.ref f2))) (l2 : K.lookup f2 = some ⟨oc2, od2, .func (PySem.W.fnOf "_law_other" "_law_other" (defArgs s_law_other) (defBody s_law_other) (defScope s_law_other) .none kV2 dc2 pm2 an2 cd2 ct2), sl2⟩) (c2 : PySem.W.codeIn K cd2 "_law_other" = true) (k2 : PySem.W.keepIn K (.ref f2) = true)
    (a3 : PySem.W.nsIn K mainGlobals "_law_held" = some (some (.ref f3))) (l3 : K.lookup f3 = some ⟨oc3, od3, .func (PySem.W.fnOf "_law_held" "_law_held" (defArgs s_law_held) (defBody s_law_held) (defScope s_law_held) .none kV3 dc3 pm3 an3 cd3 ct3), sl3⟩) (c3 : PySem.W.codeIn K cd3 "_law_held" = true) (k3 : PySem.W.keepIn K (.ref f3) = true)
    (a4 : PySem.W.nsIn K mainGlobals "_law_due" = some (some (.ref f4))) (l4 : K.lookup f4 = some ⟨oc4, od4, .func (PySem.W.fnOf "_law_due" "_law_due" (defArgs s_law_due) (defBody s_law_due) (defScope s_law_due) .none kV4 dc4 pm4 an4 cd4 ct4), sl4⟩) (c4 : PySem.W.codeIn K cd4 "_law_due" = true) (k4 : PySem.W.keepIn K (.ref f4) = true)
    (a5 : PySem.W.nsIn K mainGlobals "_law_bad_stack" = some (some (.ref f5))) (l5 : K.lookup f5 = some ⟨oc5, od5, .func (PySem.W.fnOf "_law_bad_stack" "_law_bad_stack" (defArgs s_law_bad_stack) (defBody s_law_bad_stack) (defScope s_law_bad_stack) .none kV5 dc5 pm5 an5 cd5 ct5), sl5⟩) (c5 : PySem.W.codeIn K cd5 "_law_bad_stack" = true) (k5 : PySem.W.keepIn K (.ref f5) = true)
    (a6 : PySem.W.nsIn K mainGlobals "_law_cell_at" = some (some (.ref f6))) (l6 : K.lookup f6 = some ⟨oc6, od6, .func (PySem.W.fnOf "_law_cell_at" "_law_cell_at" (defArgs s_law_cell_at) (defBody s_law_cell_at) (defScope s_law_cell_at) .none kV6 dc6 pm6 an6 cd6 ct6), sl6⟩) (c6 : PySem.W.codeIn K cd6 "_law_cell_at" = true) (k6 : PySem.W.keepIn K (.ref f6) = true)
    (a7 : PySem.W.nsIn K mainGlobals "check_stack" = some (some (.ref f7))) (l7 : K.lookup f7 = some ⟨oc7, od7, .func (PySem.W.fnOf "check_stack" "check_stack" (defArgs s_check_stack) (defBody s_check_stack) (defScope s_check_stack) .none kV7 dc7 pm7 an7 cd7 ct7), sl7⟩) (c7 : PySem.W.codeIn K cd7 "check_stack" = true) (k7 : PySem.W.keepIn K (.ref f7) = true)
    (a8 : PySem.W.nsIn K mainGlobals "place_held" = some (some (.ref f8))) (l8 : K.lookup f8 = some ⟨oc8, od8, .func (PySem.W.fnOf "place_held" "place_held" (defArgs s_place_held) (defBody s_place_held) (defScope s_place_held) .none kV8 dc8 pm8 an8 cd8 ct8), sl8⟩) (c8 : PySem.W.codeIn K cd8 "place_held" = true) (k8 : PySem.W.keepIn K (.ref f8) = true)
    (a9 : PySem.W.nsIn K mainGlobals "holder" = some (some (.ref f9))) (l9 : K.lookup f9 = some ⟨oc9, od9, .func (PySem.W.fnOf "holder" "holder" (defArgs s_holder) (defBody s_holder) (defScope s_holder) .none kV9 dc9 pm9 an9 cd9 ct9), sl9⟩) (c9 : PySem.W.codeIn K cd9 "holder" = true) (k9 : PySem.W.keepIn K (.ref f9) = true)
    (a10 : PySem.W.nsIn K mainGlobals "parted_by" = some (some (.ref f10))) (l10 : K.lookup f10 = some ⟨oc10, od10, .func (PySem.W.fnOf "parted_by" "parted_by" (defArgs s_parted_by) (defBody s_parted_by) (defScope s_parted_by) .none kV10 dc10 pm10 an10 cd10 ct10), sl10⟩) (c10 : PySem.W.codeIn K cd10 "parted_by" = true) (k10 : PySem.W.keepIn K (.ref f10) = true)
    (a11 : PySem.W.nsIn K mainGlobals "_law_refused" = some (some (.ref f11))) (l11 : K.lookup f11 = some ⟨oc11, od11, .func (PySem.W.fnOf "_law_refused" "_law_refused" (defArgs s_law_refused) (defBody s_law_refused) (defScope s_law_refused) .none kV11 dc11 pm11 an11 cd11 ct11), sl11⟩) (c11 : PySem.W.codeIn K cd11 "_law_refused" = true) (k11 : PySem.W.keepIn K (.ref f11) = true)
    (a12 : PySem.W.nsIn K mainGlobals "_law_lean" = some (some (.ref f12))) (l12 : K.lookup f12 = some ⟨oc12, od12, .func (PySem.W.fnOf "_law_lean" "_law_lean" (defArgs s_law_lean) (defBody s_law_lean) (defScope s_law_lean) .none kV12 dc12 pm12 an12 cd12 ct12), sl12⟩) (c12 : PySem.W.codeIn K cd12 "_law_lean" = true) (k12 : PySem.W.keepIn K (.ref f12) = true)
    (a13 : PySem.W.nsIn K mainGlobals "_law_whole" = some (some (.ref f13))) (l13 : K.lookup f13 = some ⟨oc13, od13, .func (PySem.W.fnOf "_law_whole" "_law_whole" (defArgs s_law_whole) (defBody s_law_whole) (defScope s_law_whole) .none kV13 dc13 pm13 an13 cd13 ct13), sl13⟩) (c13 : PySem.W.codeIn K cd13 "_law_whole" = true) (k13 : PySem.W.keepIn K (.ref f13) = true)
    (a14 : PySem.W.nsIn K mainGlobals "law" = some (some (.ref f14))) (l14 : K.lookup f14 = some ⟨oc14, od14, .func (PySem.W.fnOf "law" "law" (defArgs s_law) (defBody s_law) (defScope s_law) .none kV14 dc14 pm14 an14 cd14 ct14), sl14⟩) (c14 : PySem.W.codeIn K cd14 "law" = true) (k14 : PySem.W.keepIn K (.ref f14) = true)
    (ea_BadStack : PySem.W.nsIn K mainGlobals "BadStack" = some (some (.ref C_BadStack))) (ex_BadStack : PySem.W.excIn K C_BadStack [.type "ValueError", .type "Exception", .type "BaseException", .type "object"] "ValueError.__new__" = true) (ek_BadStack : PySem.W.keepIn K (.ref C_BadStack) = true) (eb_BadStack : PySem.W.subIn K (.ref C_BadStack) (.type "BaseException") = some true) (et_BadStack : PySem.W.typeIn K (.ref C_BadStack) = some (.type "type"))
    (n_GREATEST : PySem.W.nsIn K mainGlobals "GREATEST" = some (some (.int 1000000000000000000000000000000000000000000000000000000000000 t_GREATEST)))
    (n_MOST_MESHES : PySem.W.nsIn K mainGlobals "MOST_MESHES" = some (some (.int 12 t_MOST_MESHES)))
    (z_bool : PySem.W.nsIn K mainGlobals "bool" = some none)
    (z_int : PySem.W.nsIn K mainGlobals "int" = some none)
    (z_isinstance : PySem.W.nsIn K mainGlobals "isinstance" = some none)
    (z_len : PySem.W.nsIn K mainGlobals "len" = some none)
    (z_list : PySem.W.nsIn K mainGlobals "list" = some none)
    (z_max : PySem.W.nsIn K mainGlobals "max" = some none)
    (z_min : PySem.W.nsIn K mainGlobals "min" = some none)
    (z_range : PySem.W.nsIn K mainGlobals "range" = some none)
    (z_sorted : PySem.W.nsIn K mainGlobals "sorted" = some none)
    (hm_BadStack_BadStack : PySem.W.exmOne K (.ref C_BadStack) (.ref C_BadStack) = some true) :
    ∃ fd : FuncData, (∀ (s : Shared) (v : Value), BindsTo s fd ⟨[v], []⟩ [("script", v)]) ∧ ∀ base : Heap, K.In base → base.Ns mainGlobals mg → FnOk l.prog w K mg base CX0 5 fa fd ["script"] (spLaw K) := by
  have e := hfa.symm.trans (PySem.W.mg_of X G a14)
  cases e
  let ce : Ce := fun n => if n = "BadStack" then C_BadStack else (fun _ => 0) n
  have x_BadStack : ErrC K mg (ce "BadStack") "BadStack" := by
    rw [show ce "BadStack" = C_BadStack from by simp [ce]]
    exact ⟨PySem.W.mg_of X G ea_BadStack, ex_BadStack, ek_BadStack, eb_BadStack, et_BadStack⟩
  have mc_BadStack : mg "BadStack" = some (.ref (ce "BadStack")) := by
    rw [show ce "BadStack" = C_BadStack from by simp [ce]]
    exact PySem.W.mg_of X G ea_BadStack
  have xm_BadStack_BadStack : PySem.W.exmOne K (.ref (ce "BadStack")) (.ref (ce "BadStack")) = some true := by
    rw [show ce "BadStack" = C_BadStack from by simp [ce]]
    exact hm_BadStack_BadStack
  have c_GREATEST := PySem.W.mg_of X G n_GREATEST
  have c_MOST_MESHES := PySem.W.mg_of X G n_MOST_MESHES
  have z_bool := PySem.W.mg_none_of X G z_bool
  have z_int := PySem.W.mg_none_of X G z_int
  have z_isinstance := PySem.W.mg_none_of X G z_isinstance
  have z_len := PySem.W.mg_none_of X G z_len
  have z_list := PySem.W.mg_none_of X G z_list
  have z_max := PySem.W.mg_none_of X G z_max
  have z_min := PySem.W.mg_none_of X G z_min
  have z_range := PySem.W.mg_none_of X G z_range
  have z_sorted := PySem.W.mg_none_of X G z_sorted
  have F0 := fun_mk (st := s_law_size) l0 c0 k0
  have b__law_size := F0.binds (ps := ["cell"]) fun _ _ _ _ _ _ us hl => match us, hl with | [_], _ => rfl
  have mg__law_size := PySem.W.mg_of X G a0
  have F1 := fun_mk (st := s_law_stack) l1 c1 k1
  have b__law_stack := F1.binds (ps := ["cells", "lot"]) fun _ _ _ _ _ _ us hl => match us, hl with | [_, _], _ => rfl
  have mg__law_stack := PySem.W.mg_of X G a1
  have F2 := fun_mk (st := s_law_other) l2 c2 k2
  have b__law_other := F2.binds (ps := ["stack", "cells", "cell"]) fun _ _ _ _ _ _ us hl => match us, hl with | [_, _, _], _ => rfl
  have mg__law_other := PySem.W.mg_of X G a2
  have F3 := fun_mk (st := s_law_held) l3 c3 k3
  have b__law_held := F3.binds (ps := ["stack", "size"]) fun _ _ _ _ _ _ us hl => match us, hl with | [_, _], _ => rfl
  have mg__law_held := PySem.W.mg_of X G a3
  have F4 := fun_mk (st := s_law_due) l4 c4 k4
  have b__law_due := F4.binds (ps := ["one", "other"]) fun _ _ _ _ _ _ us hl => match us, hl with | [_, _], _ => rfl
  have mg__law_due := PySem.W.mg_of X G a4
  have F5 := fun_mk (st := s_law_bad_stack) l5 c5 k5
  have b__law_bad_stack := F5.binds (ps := ["stack", "cell"]) fun _ _ _ _ _ _ us hl => match us, hl with | [_, _], _ => rfl
  have mg__law_bad_stack := PySem.W.mg_of X G a5
  have F6 := fun_mk (st := s_law_cell_at) l6 c6 k6
  have b__law_cell_at := F6.binds (ps := ["script", "k"]) fun _ _ _ _ _ _ us hl => match us, hl with | [_, _], _ => rfl
  have mg__law_cell_at := PySem.W.mg_of X G a6
  have F7 := fun_mk (st := s_check_stack) l7 c7 k7
  have b_check_stack := F7.binds (ps := ["stack"]) fun _ _ _ _ _ _ us hl => match us, hl with | [_], _ => rfl
  have mg_check_stack := PySem.W.mg_of X G a7
  have F8 := fun_mk (st := s_place_held) l8 c8 k8
  have b_place_held := F8.binds (ps := ["stack", "size"]) fun _ _ _ _ _ _ us hl => match us, hl with | [_, _], _ => rfl
  have mg_place_held := PySem.W.mg_of X G a8
  have F9 := fun_mk (st := s_holder) l9 c9 k9
  have b_holder := F9.binds (ps := ["stack", "size"]) fun _ _ _ _ _ _ us hl => match us, hl with | [_, _], _ => rfl
  have mg_holder := PySem.W.mg_of X G a9
  have F10 := fun_mk (st := s_parted_by) l10 c10 k10
  have b_parted_by := F10.binds (ps := ["one", "other"]) fun _ _ _ _ _ _ us hl => match us, hl with | [_, _], _ => rfl
  have mg_parted_by := PySem.W.mg_of X G a10
  have F11 := fun_mk (st := s_law_refused) l11 c11 k11
  have b__law_refused := F11.binds (ps := ["one", "other"]) fun _ _ _ _ _ _ us hl => match us, hl with | [_, _], _ => rfl
  have mg__law_refused := PySem.W.mg_of X G a11
  have F12 := fun_mk (st := s_law_lean) l12 c12 k12
  have b__law_lean := F12.binds (ps := ["stack"]) fun _ _ _ _ _ _ us hl => match us, hl with | [_], _ => rfl
  have mg__law_lean := PySem.W.mg_of X G a12
  have F13 := fun_mk (st := s_law_whole) l13 c13 k13
  have b__law_whole := F13.binds (ps := ["found"]) fun _ _ _ _ _ _ us hl => match us, hl with | [_], _ => rfl
  have mg__law_whole := PySem.W.mg_of X G a13
  have F14 := fun_mk (st := s_law) l14 c14 k14
  refine ⟨PySem.W.fnOf "law" "law" (defArgs s_law) (defBody s_law) (defScope s_law) .none kV14 dc14 pm14 an14 cd14 ct14, fun s v => .of_eq rfl, fun base _ _ => ?_⟩
  have G__law_size := ok_law_size (P := l.prog) (w := w) (mg := mg) (base := base) (ce := ce) F0
  have G__law_stack := ok_law_stack (P := l.prog) (w := w) (mg := mg) (base := base) (ce := ce) F1 G__law_size mg__law_size k0 b__law_size z_len z_max
  have G__law_other := ok_law_other (P := l.prog) (w := w) (mg := mg) (base := base) (ce := ce) F2 G__law_stack mg__law_stack k1 b__law_stack z_len z_list z_max z_min
  have G__law_held := ok_law_held (P := l.prog) (w := w) (mg := mg) (base := base) (ce := ce) F3
  have G__law_due := ok_law_due (P := l.prog) (w := w) (mg := mg) (base := base) (ce := ce) F4 G__law_held mg__law_held k3 b__law_held z_sorted
  have G__law_bad_stack := ok_law_bad_stack (P := l.prog) (w := w) (mg := mg) (base := base) (ce := ce) F5 z_len
  have G__law_cell_at := ok_law_cell_at (P := l.prog) (w := w) (mg := mg) (base := base) (ce := ce) F6 z_len
  have G_check_stack := ok_check_stack (P := l.prog) (w := w) (mg := mg) (base := base) (ce := ce) F7 c_GREATEST c_MOST_MESHES x_BadStack z_len
  have G_place_held := ok_place_held (P := l.prog) (w := w) (mg := mg) (base := base) (ce := ce) F8 z_len z_range
  have G_holder := ok_holder (P := l.prog) (w := w) (mg := mg) (base := base) (ce := ce) F9 G_check_stack mg_check_stack k7 b_check_stack G_place_held mg_place_held k8 b_place_held z_len
  have G_parted_by := ok_parted_by (P := l.prog) (w := w) (mg := mg) (base := base) (ce := ce) F10 G_check_stack mg_check_stack k7 b_check_stack G_holder mg_holder k9 b_holder z_sorted
  have G__law_refused := ok_law_refused (P := l.prog) (w := w) (mg := mg) (base := base) (ce := ce) F11 mc_BadStack G_parted_by mg_parted_by k10 b_parted_by xm_BadStack_BadStack
  have G__law_lean := ok_law_lean (P := l.prog) (w := w) (mg := mg) (base := base) (ce := ce) F12 z_len
  have G__law_whole := ok_law_whole (P := l.prog) (w := w) (mg := mg) (base := base) (ce := ce) F13 z_bool z_int z_isinstance
  exact law_of (ok_law (mg := mg) (ce := ce) F14 G__law_bad_stack mg__law_bad_stack k5 b__law_bad_stack G__law_cell_at mg__law_cell_at k6 b__law_cell_at G__law_due mg__law_due k4 b__law_due G__law_lean mg__law_lean k12 b__law_lean G__law_other mg__law_other k2 b__law_other G__law_refused mg__law_refused k11 b__law_refused G__law_stack mg__law_stack k1 b__law_stack G__law_whole mg__law_whole k13 b__law_whole G_parted_by mg_parted_by k10 b_parted_by z_list)
end Kx
open PySem PySem.W PyProof.Rows L2 Mw
set_option maxRecDepth 100000 in
set_option maxHeartbeats 0 in
theorem PySem.Challenge.cw_meshworks_k14_stacks_parted_holds : PySem.Challenge.rw_meshworks_k14_stacks_parted.Holds := by
  w_on; o_law; k_head; (case hw => w_witness2)
  k_fill
  refine L2.walk_of (l := PySem.Challenge.rw_meshworks_k14_stacks_parted) (n := 63) (k := 5) (x := "script") (CX := fun _ => L2.CX0) (sp := fun w => Kx.spLaw _) rfl (by decide) rfl ⟨rfl, by decide, by decide⟩ (fun w h Y => PySem.W.kIn_of Y) ?F (fun _ _ a ns hl _ hS => ⟨a, ns, rfl, hS, hl, fun _ => rfl⟩) (fun _ _ _ _ _ h => h)
  case F =>
    intro w mg fa h KX G hmg
    refine' Kx.all_mk KX G hmg ?a0 ?l0 ?c0 ?k0 ?a1 ?l1 ?c1 ?k1 ?a2 ?l2 ?c2 ?k2 ?a3 ?l3 ?c3 ?k3 ?a4 ?l4 ?c4 ?k4 ?a5 ?l5 ?c5 ?k5 ?a6 ?l6 ?c6 ?k6 ?a7 ?l7 ?c7 ?k7 ?a8 ?l8 ?c8 ?k8 ?a9 ?l9 ?c9 ?k9 ?a10 ?l10 ?c10 ?k10 ?a11 ?l11 ?c11 ?k11 ?a12 ?l12 ?c12 ?k12 ?a13 ?l13 ?c13 ?k13 ?a14 ?l14 ?c14 ?k14 ?ea_BadStack ?ex_BadStack ?ek_BadStack ?eb_BadStack ?et_BadStack ?n_GREATEST ?n_MOST_MESHES ?z_bool ?z_int ?z_isinstance ?z_len ?z_list ?z_max ?z_min ?z_range ?z_sorted ?hm_BadStack_BadStack
    (case a0 => k_is)
    (case l0 => k_is)
    (case c0 => k_is)
    (case k0 => k_is)
    (case a1 => k_is)
    (case l1 => k_is)
    (case c1 => k_is)
    (case k1 => k_is)
    (case a2 => k_is)
    (case l2 => k_is)
    (case c2 => k_is)
    (case k2 => k_is)
    (case a3 => k_is)
    (case l3 => k_is)
    (case c3 => k_is)
    (case k3 => k_is)
    (case a4 => k_is)
    (case l4 => k_is)
    (case c4 => k_is)
    (case k4 => k_is)
    (case a5 => k_is)
    (case l5 => k_is)
    (case c5 => k_is)
    (case k5 => k_is)
    (case a6 => k_is)
    (case l6 => k_is)
    (case c6 => k_is)
    (case k6 => k_is)
    (case a7 => k_is)
    (case l7 => k_is)
    (case c7 => k_is)
    (case k7 => k_is)
    (case a8 => k_is)
    (case l8 => k_is)
    (case c8 => k_is)
    (case k8 => k_is)
    (case a9 => k_is)
    (case l9 => k_is)
    (case c9 => k_is)
    (case k9 => k_is)
    (case a10 => k_is)
    (case l10 => k_is)
    (case c10 => k_is)
    (case k10 => k_is)
    (case a11 => k_is)
    (case l11 => k_is)
    (case c11 => k_is)
    (case k11 => k_is)
    (case a12 => k_is)
    (case l12 => k_is)
    (case c12 => k_is)
    (case k12 => k_is)
    (case a13 => k_is)
    (case l13 => k_is)
    (case c13 => k_is)
    (case k13 => k_is)
    (case a14 => k_is)
    (case l14 => k_is)
    (case c14 => k_is)
    (case k14 => k_is)
    (case ea_BadStack => k_is)
    (case ex_BadStack => k_exc)
    (case ek_BadStack => k_is)
    (case eb_BadStack => k_is)
    (case et_BadStack => k_is)
    (case n_GREATEST => k_is)
    (case n_MOST_MESHES => k_is)
    (case z_bool => k_is)
    (case z_int => k_is)
    (case z_isinstance => k_is)
    (case z_len => k_is)
    (case z_list => k_is)
    (case z_max => k_is)
    (case z_min => k_is)
    (case z_range => k_is)
    (case z_sorted => k_is)
    (case hm_BadStack_BadStack => exact PySem.W.exm_ref (by k_is) (by k_is) (by k_is) (by k_is))
