import PyProof.Rows.All
import Wide.All
import OpenK.AllK
import Wide.FinOn
import HandS.ForMost
import HandS.ForExc
import HandS.Wide
import HandS.SortInts
import HandS.SortRule
import HandS.IsInst
import HandS.ExcIs
import HandS.Flow
import HandS.Style
import HandS.Conv
import HandS.More
import HandS.Evl
import PySem.Challenge.RW_meshworks_k61_fractions_reckoned
set_option Elab.async false
set_option linter.all false
set_option maxRecDepth 100000
set_option maxHeartbeats 2000000
/-! Mw, part A: data by their types, what represents them; the monad of the mirrors; what an expression tells. -/
namespace Mw
open PySem L2
abbrev Ex (H H' : Hp) : Prop := ∀ a o, H a = some o → H' a = some o
theorem Ex.rf (H : Hp) : Ex H H := fun _ _ h => h
theorem Ex.tr {H H1 H2 : Hp} (a : Ex H H1) (b : Ex H1 H2) : Ex H H2 := fun x o h => b x o (a x o h)
theorem Ex.nw {H : Hp} {p : Addr} {o : HO} (h : H p = none) : Ex H (upd H p o) := fun a u e => by
  rw [upd_ne (ne_of_none e h)]
  exact e
theorem ex_rd {H H' : Hp} {a : Addr} {u : HO} (e : Ex H H') (h : Rd H a u) : Rd H' a u := by
  rcases h with h | ⟨o, h⟩
  · exact Or.inl (e a _ h)
  · exact Or.inr ⟨o, e a _ h⟩
theorem ex_l {K : PySem.W.Frag} {H H' : Hp} {a : Addr} {xs : List V} (e : Ex H H') (h : SqL K H a xs) : SqL K H' a xs := by
  rcases h with h | h
  · exact Or.inl (ex_rd e h)
  · exact Or.inr h
theorem ex_t {K : PySem.W.Frag} {H H' : Hp} {a : Addr} {xs : List V} (e : Ex H H') (h : SqT K H a xs) : SqT K H' a xs := by
  rcases h with h | h
  · exact Or.inl (ex_rd e h)
  · exact Or.inr h

/-! ### what the frame may lean on (F), and all that is tracked (H): both grow -/
structure Gr (F H F' H' : Hp) : Prop where
  ff : Ex F F'
  fh : Ex F' H'
  hh : Ex H H'
  nw : ∀ b, F b = none → H b ≠ none → F' b = none
theorem Gr.rf {F H : Hp} (h : Ex F H) : Gr F H F H := ⟨Ex.rf _, h, Ex.rf _, fun _ a _ => a⟩
theorem Ex.ne {H H' : Hp} (h : Ex H H') {b : Addr} (n : H b ≠ none) : H' b ≠ none := by
  cases e : H b with
  | none => exact absurd e n
  | some o => rw [h b o e]; exact fun z => by cases z
theorem Gr.tr {F H F1 H1 F2 H2 : Hp} (a : Gr F H F1 H1) (b : Gr F1 H1 F2 H2) : Gr F H F2 H2 :=
  ⟨a.ff.tr b.ff, b.fh, a.hh.tr b.hh, fun c h1 h2 => b.nw c (a.nw c h1 h2) (a.hh.ne h2)⟩
/-- a new object that all may lean on -/
theorem Gr.new {F H : Hp} {p : Addr} {o : HO} (h : Ex F H) (n : H p = none) : Gr F H (upd F p o) (upd H p o) where
  ff := fun a u e => by
    have : a ≠ p := fun z => by subst z; rw [h a u e] at n; cases n
    rw [upd_ne this]; exact e
  fh := fun a u e => by
    by_cases z : a = p
    · subst z; rw [upd_same] at e ⊢; exact e
    · rw [upd_ne z] at e ⊢; exact h a u e
  hh := Ex.nw n
  nw := fun b h1 h2 => by
    have : b ≠ p := fun z => by subst z; exact h2 n
    rw [upd_ne this]; exact h1
/-- a new object of one's own -/
theorem Gr.own {F H : Hp} {p : Addr} {o : HO} (h : Ex F H) (n : H p = none) : Gr F H F (upd H p o) where
  ff := Ex.rf _
  fh := fun a u e => by
    have : a ≠ p := fun z => by subst z; rw [h a u e] at n; cases n
    rw [upd_ne this]; exact h a u e
  hh := Ex.nw n
  nw := fun b h1 _ => h1
/-- one's own object is changed -/
theorem Gr.mut {F0 H0 F H : Hp} {p : Addr} {o : HO} (g : Gr F0 H0 F H) (n0 : H0 p = none) (nf : F p = none) : Gr F0 H0 F (upd H p o) where
  ff := g.ff
  fh := fun a u e => by
    have : a ≠ p := fun z => by subst z; rw [e] at nf; cases nf
    rw [upd_ne this]; exact g.fh a u e
  hh := fun a u e => by
    have : a ≠ p := fun z => by subst z; rw [e] at n0; cases n0
    rw [upd_ne this]; exact g.hh a u e
  nw := g.nw
theorem ex_back {H H' : Hp} {p : Addr} (e : Ex H H') (h : H' p = none) : H p = none := by
  cases h1 : H p with
  | none => rfl
  | some o => rw [e p o h1] at h; cases h

/-! ### data -/
class Rep (α : Type) where
  rp : PySem.W.Frag → Hp → V → α → Prop
  mo : ∀ {K : PySem.W.Frag} {H H' : Hp} {v : V} {x : α}, Ex H H' → rp K H v x → rp K H' v x
open Rep (rp)
theorem paired_mo {α : Type} [Rep α] {K : PySem.W.Frag} {H H' : Hp} (e : Ex H H') : ∀ {vs : List V} {xs : List α}, Paired (rp K H) vs xs → Paired (rp K H') vs xs
  | _, _, .nil => .nil
  | _, _, .cons h t => .cons (Rep.mo e h) (paired_mo e t)
structure T3 (α β γ : Type) where
  a : α
  b : β
  c : γ
  deriving DecidableEq
structure T4 (α β γ δ : Type) where
  a : α
  b : β
  c : γ
  d : δ
  deriving DecidableEq
instance : Rep Int := ⟨fun _ _ v x => v = .int x, fun _ h => h⟩
instance : Rep Bool := ⟨fun _ _ v x => v = .bl x, fun _ h => h⟩
instance : Rep Str := ⟨fun _ _ v x => v = .str x, fun _ h => h⟩
instance : Rep Unit := ⟨fun _ _ v _ => v = .non, fun _ h => h⟩
instance {α : Type} [Rep α] : Rep (Option α) := ⟨fun K H v x => match x with
  | none => v = .non
  | some y => rp K H v y ∧ v ≠ .non, fun {K H H' v x} e h => by
    cases x with
    | none => exact h
    | some y => exact ⟨Rep.mo e h.1, h.2⟩⟩
instance {α β : Type} [Rep α] [Rep β] : Rep (α × β) := ⟨fun K H v x => ∃ a u w, v = .ref a ∧ SqT K H a [u, w] ∧ rp K H u x.1 ∧ rp K H w x.2,
  fun e ⟨a, u, w, h1, h2, h3, h4⟩ => ⟨a, u, w, h1, ex_t e h2, Rep.mo e h3, Rep.mo e h4⟩⟩
instance {α β γ : Type} [Rep α] [Rep β] [Rep γ] : Rep (T3 α β γ) := ⟨fun K H v x => ∃ a u w z, v = .ref a ∧ SqT K H a [u, w, z] ∧ rp K H u x.a ∧ rp K H w x.b ∧ rp K H z x.c,
  fun e ⟨a, u, w, z, h1, h2, h3, h4, h5⟩ => ⟨a, u, w, z, h1, ex_t e h2, Rep.mo e h3, Rep.mo e h4, Rep.mo e h5⟩⟩
instance {α β γ δ : Type} [Rep α] [Rep β] [Rep γ] [Rep δ] : Rep (T4 α β γ δ) := ⟨fun K H v x => ∃ a u w z y, v = .ref a ∧ SqT K H a [u, w, z, y] ∧ rp K H u x.a ∧ rp K H w x.b ∧ rp K H z x.c ∧ rp K H y x.d,
  fun e ⟨a, u, w, z, y, h1, h2, h3, h4, h5, h6⟩ => ⟨a, u, w, z, y, h1, ex_t e h2, Rep.mo e h3, Rep.mo e h4, Rep.mo e h5, Rep.mo e h6⟩⟩
instance {α : Type} [Rep α] : Rep (List α) := ⟨fun K H v x => ∃ a vs, v = .ref a ∧ H a = some (.lst vs) ∧ Paired (rp K H) vs x,
  fun e ⟨a, vs, h1, h2, h3⟩ => ⟨a, vs, h1, e _ _ h2, paired_mo e h3⟩⟩
/-- the script: read alone -/
structure Scr where
  l : List Int
instance : Rep Scr := ⟨fun K H v x => ∃ a, v = .ref a ∧ SqL K H a (x.l.map V.int), fun e ⟨a, h1, h2⟩ => ⟨a, h1, ex_l e h2⟩⟩
theorem paired_map {α β : Type} {F : α → β → Prop} {f : β → α} (h : ∀ b, F (f b) b) : ∀ xs : List β, Paired F (xs.map f) xs
  | [] => .nil
  | x :: r => .cons (h x) (paired_map h r)
theorem paired_int {K : PySem.W.Frag} {H : Hp} : ∀ {vs : List V} {xs : List Int}, Paired (rp K H) vs xs → vs = xs.map V.int
  | _, _, .nil => rfl
  | _, _, .cons h t => by
    rw [List.map_cons, ← paired_int t]
    exact congrArg (· :: _) h
theorem paired_bl {K : PySem.W.Frag} {H : Hp} : ∀ {vs : List V} {xs : List Bool}, Paired (rp K H) vs xs → vs = xs.map V.bl
  | _, _, .nil => rfl
  | _, _, .cons h t => by
    rw [List.map_cons, ← paired_bl t]
    exact congrArg (· :: _) h
theorem rep_int {K : PySem.W.Frag} {H : Hp} (xs : List Int) : Paired (rp K H) (xs.map V.int) xs := paired_map (F := rp K H) (f := V.int) (fun _ => rfl) xs
theorem paired_get {α β : Type} {F : α → β → Prop} : ∀ {vs : List α} {xs : List β} {i : Nat} {x : β}, Paired F vs xs → xs[i]? = some x → ∃ v, vs[i]? = some v ∧ F v x
  | _, _, _, _, .nil, e => by simp at e
  | _, _, 0, _, .cons r _, e => by simp at e; subst e; exact ⟨_, rfl, r⟩
  | _, _, i + 1, x, .cons _ t, e => by
    obtain ⟨u, h1, h2⟩ := paired_get (i := i) (x := x) t (by simpa using e)
    exact ⟨u, by simpa using h1, h2⟩
theorem paired_get' {α β : Type} {F : α → β → Prop} : ∀ {vs : List α} {xs : List β} {i : Nat} {v : α}, Paired F vs xs → vs[i]? = some v → ∃ x, xs[i]? = some x ∧ F v x
  | _, _, _, _, .nil, e => by simp at e
  | _, _, 0, _, .cons r _, e => by simp at e; subst e; exact ⟨_, rfl, r⟩
  | _, _, i + 1, x, .cons _ t, e => by
    obtain ⟨u, h1, h2⟩ := paired_get' (i := i) (v := x) t (by simpa using e)
    exact ⟨u, by simpa using h1, h2⟩
theorem paired_app {α β : Type} {F : α → β → Prop} : ∀ {vs ws : List α} {xs ys : List β}, Paired F vs xs → Paired F ws ys → Paired F (vs ++ ws) (xs ++ ys)
  | _, _, _, _, .nil, s => s
  | _, _, _, _, .cons r t, s => .cons r (paired_app t s)
theorem paired_take {α β : Type} {F : α → β → Prop} : ∀ {vs : List α} {xs : List β} (n : Nat), Paired F vs xs → Paired F (vs.take n) (xs.take n)
  | _, _, 0, _ => .nil
  | _, _, _ + 1, .nil => .nil
  | _, _, n + 1, .cons r t => .cons r (paired_take n t)
theorem paired_drop {α β : Type} {F : α → β → Prop} : ∀ {vs : List α} {xs : List β} (n : Nat), Paired F vs xs → Paired F (vs.drop n) (xs.drop n)
  | _, _, 0, r => r
  | _, _, _ + 1, .nil => .nil
  | _, _, n + 1, .cons _ t => paired_drop n t
theorem paired_rev {α β : Type} {F : α → β → Prop} : ∀ {vs : List α} {xs : List β}, Paired F vs xs → Paired F vs.reverse xs.reverse
  | _, _, .nil => .nil
  | _, _, .cons r t => by
    rw [List.reverse_cons, List.reverse_cons]
    exact paired_app (paired_rev t) (.cons r .nil)
theorem paired_set {α β : Type} {F : α → β → Prop} {v : α} {x : β} (r : F v x) : ∀ {vs : List α} {xs : List β} (i : Nat), Paired F vs xs → Paired F (vs.set i v) (xs.set i x)
  | _, _, _, .nil => .nil
  | _, _, 0, .cons _ t => .cons r t
  | _, _, i + 1, .cons q t => .cons q (paired_set r i t)
theorem paired_rep {α β : Type} {F : α → β → Prop} {v : α} {x : β} (r : F v x) : ∀ n : Nat, Paired F (List.replicate n v) (List.replicate n x)
  | 0 => .nil
  | n + 1 => .cons r (paired_rep r n)

/-! ### data that lean on no list -/
def TupEx (F F' : Hp) : Prop := ∀ a xs, Rd F a (.tup xs) → Rd F' a (.tup xs)
class Flat (α : Type) [Rep α] : Prop where
  fl : ∀ {K : PySem.W.Frag} {F F' : Hp} {v : V} {x : α}, TupEx F F' → rp K F v x → rp K F' v x
theorem tup_t {K : PySem.W.Frag} {H H' : Hp} {a : Addr} {xs : List V} (e : TupEx H H') (h : SqT K H a xs) : SqT K H' a xs := by
  rcases h with h | h
  · exact Or.inl (e a xs h)
  · exact Or.inr h
instance : Flat Int := ⟨fun _ h => h⟩
instance : Flat Bool := ⟨fun _ h => h⟩
instance : Flat Str := ⟨fun _ h => h⟩
instance : Flat Unit := ⟨fun _ h => h⟩
instance {α : Type} [Rep α] [Flat α] : Flat (Option α) := ⟨fun {K F F' v x} e h => by
  cases x with
  | none => exact h
  | some y => exact ⟨Flat.fl e h.1, h.2⟩⟩
instance {α β : Type} [Rep α] [Rep β] [Flat α] [Flat β] : Flat (α × β) := ⟨fun e ⟨a, u, w, h1, h2, h3, h4⟩ => ⟨a, u, w, h1, tup_t e h2, Flat.fl e h3, Flat.fl e h4⟩⟩
instance {α β γ : Type} [Rep α] [Rep β] [Rep γ] [Flat α] [Flat β] [Flat γ] : Flat (T3 α β γ) := ⟨fun e ⟨a, u, w, z, h1, h2, h3, h4, h5⟩ => ⟨a, u, w, z, h1, tup_t e h2, Flat.fl e h3, Flat.fl e h4, Flat.fl e h5⟩⟩
instance {α β γ δ : Type} [Rep α] [Rep β] [Rep γ] [Rep δ] [Flat α] [Flat β] [Flat γ] [Flat δ] : Flat (T4 α β γ δ) := ⟨fun e ⟨a, u, w, z, y, h1, h2, h3, h4, h5, h6⟩ => ⟨a, u, w, z, y, h1, tup_t e h2, Flat.fl e h3, Flat.fl e h4, Flat.fl e h5, Flat.fl e h6⟩⟩
theorem paired_fl {α : Type} [Rep α] [Flat α] {K : PySem.W.Frag} {F F' : Hp} (e : TupEx F F') : ∀ {vs : List V} {xs : List α}, Paired (rp K F) vs xs → Paired (rp K F') vs xs
  | _, _, .nil => .nil
  | _, _, .cons h t => .cons (Flat.fl e h) (paired_fl e t)

/-! ### the mirrors' monad -/
structure Err where
  name : String
  deriving DecidableEq
inductive M (α : Type) where
  | ok (a : α)
  | er (c : Err)
  | bad
  deriving DecidableEq
def M.bind {α β : Type} : M α → (α → M β) → M β
  | .ok a, f => f a
  | .er c, _ => .er c
  | .bad, _ => .bad
@[simp] theorem M.ok_bind {α β : Type} (a : α) (f : α → M β) : (M.ok a).bind f = f a := rfl
@[simp] theorem M.er_bind {α β : Type} (c : Err) (f : α → M β) : (M.er c : M α).bind f = .er c := rfl
@[simp] theorem M.bad_bind {α β : Type} (f : α → M β) : (M.bad : M α).bind f = .bad := rfl

/-! ### what comes of a run -/
abbrev Md (ρ : Type) := Hp → Hp → Hp → Hp → V → ρ → Prop
/-- any value that represents it -/
def rv (K : PySem.W.Frag) {ρ : Type} [Rep ρ] : Md ρ := fun _ _ F' _ v r => rp K F' v r
/-- a new list of one's own -/
def rn (K : PySem.W.Frag) {α : Type} [Rep α] : Md (List α) := fun _ H F' H' v r => ∃ p vs, v = .ref p ∧ H p = none ∧ F' p = none ∧ H' p = some (.lst vs) ∧ Paired (rp K F') vs r
/-- the classes of errors by their names -/
abbrev Ce := String → Addr
def Post {ρ : Type} (ce : Ce) (md : Md ρ) (m : M ρ) (F H : Hp) (Q : VK) (E : XK) : Prop :=
  match m with
  | .ok r => ∀ F' H' v, Gr F H F' H' → md F H F' H' v r → Q v H'
  | .er c => ∀ H', Ex H H' → E (.ref (ce c.name)) none H'
  | .bad => False
class MdMo {ρ : Type} (md : Md ρ) : Prop where
  mo : ∀ {F H F1 H1 F2 H2 v r}, Gr F H F1 H1 → md F1 H1 F2 H2 v r → md F H F2 H2 v r
instance {K : PySem.W.Frag} {ρ : Type} [Rep ρ] : MdMo (rv K (ρ := ρ)) := ⟨fun _ h => h⟩
instance {K : PySem.W.Frag} {α : Type} [Rep α] : MdMo (rn K (α := α)) := ⟨fun g ⟨p, vs, h1, h2, h3⟩ => ⟨p, vs, h1, ex_back g.hh h2, h3⟩⟩
theorem Post.mo {ρ : Type} {ce : Ce} {md : Md ρ} [MdMo md] {m : M ρ} {F H F1 H1 : Hp} {Q : VK} {E : XK} (g : Gr F H F1 H1) (h : Post ce md m F H Q E) : Post ce md m F1 H1 Q E := by
  cases m with
  | ok r => exact fun F' H' v g' hm => h F' H' v (g.tr g') (MdMo.mo g hm)
  | er c => exact fun H' e => h H' (g.hh.tr e)
  | bad => exact h
/-- what an expression tells, whatever has been done meanwhile -/
def Ev {ρ : Type} (ce : Ce) (E : XK) (te : TE) (σ : L2.St) (F H : Hp) (md : Md ρ) (m : M ρ) : Prop := ∀ F1 H1, Gr F H F1 H1 → ∀ Q : VK, Post ce md m F1 H1 Q E → te σ H1 Q
/-- a test -/
def PostT (ce : Ce) (m : M Bool) (F H : Hp) (Q : Bool → Hp → Prop) (E : XK) : Prop :=
  match m with
  | .ok r => ∀ F' H', Gr F H F' H' → Q r H'
  | .er c => ∀ H', Ex H H' → E (.ref (ce c.name)) none H'
  | .bad => False
def EvT (ce : Ce) (E : XK) (tt : TT) (σ : L2.St) (F H : Hp) (m : M Bool) : Prop := ∀ F1 H1, Gr F H F1 H1 → ∀ Q : Bool → Hp → Prop, PostT ce m F1 H1 Q E → tt σ H1 Q
theorem PostT.mo {ce : Ce} {m : M Bool} {F H F1 H1 : Hp} {Q : Bool → Hp → Prop} {E : XK} (g : Gr F H F1 H1) (h : PostT ce m F H Q E) : PostT ce m F1 H1 Q E := by
  cases m with
  | ok r => exact fun F' H' g' => h F' H' (g.tr g')
  | er c => exact fun H' e => h H' (g.hh.tr e)
  | bad => exact h
section
variable {ρ α β γ : Type} [Rep α] [Rep β] [Rep γ] {ce : Ce} {E : XK} {K : PySem.W.Frag} {σ : L2.St} {F H F' H' : Hp} {te ta tb tc : TE} {tt tu : TT} {md : Md ρ} {m : M ρ}
theorem Ev.mo (g : Gr F H F' H') (h : Ev ce E te σ F H md m) : Ev ce E te σ F' H' md m := fun F1 H1 g1 Q q => h F1 H1 (g.tr g1) Q q
theorem EvT.mo {m : M Bool} (g : Gr F H F' H') (h : EvT ce E tt σ F H m) : EvT ce E tt σ F' H' m := fun F1 H1 g1 Q q => h F1 H1 (g.tr g1) Q q
/-- run a part, then what follows (F0, H0: the entry) -/
theorem Ev.run {m1 : M α} {k : α → M ρ} {Q Q' : VK} {F0 H0 : Hp} (h : Ev ce E ta σ F H (rv K) m1) (G : Gr F0 H0 F H) (q : Post ce md (m1.bind k) F0 H0 Q E)
    (c : ∀ x F1 H1 v, m1 = .ok x → Gr F H F1 H1 → rp K F1 v x → Post ce md (k x) F0 H0 Q E → Q' v H1) : ta σ H Q' := by
  refine h F H (Gr.rf G.fh) Q' ?_
  cases m1 with
  | ok x => exact fun F1 H1 v g r => c x F1 H1 v rfl g r q
  | er cc => exact fun H' e => q H' (G.hh.tr e)
  | bad => exact q
theorem Ev.runN {m1 : M (List α)} {k : List α → M ρ} {Q Q' : VK} {F0 H0 : Hp} (h : Ev ce E ta σ F H (rn K) m1) (G : Gr F0 H0 F H) (q : Post ce md (m1.bind k) F0 H0 Q E)
    (c : ∀ x F1 H1 p vs, m1 = .ok x → Gr F H F1 H1 → H p = none → F1 p = none → H1 p = some (.lst vs) → Paired (rp K F1) vs x → Post ce md (k x) F0 H0 Q E → Q' (.ref p) H1) : ta σ H Q' := by
  refine h F H (Gr.rf G.fh) Q' ?_
  cases m1 with
  | ok x =>
    rintro F1 H1 v g ⟨p, vs, rfl, h1, h2, h3, h4⟩
    exact c x F1 H1 p vs rfl g h1 h2 h3 h4 q
  | er cc => exact fun H' e => q H' (G.hh.tr e)
  | bad => exact q
theorem EvT.run {m1 : M Bool} {k : Bool → M ρ} {Q : VK} {Q' : Bool → Hp → Prop} {F0 H0 : Hp} (h : EvT ce E tt σ F H m1) (G : Gr F0 H0 F H) (q : Post ce md (m1.bind k) F0 H0 Q E)
    (c : ∀ x F1 H1, m1 = .ok x → Gr F H F1 H1 → Post ce md (k x) F0 H0 Q E → Q' x H1) : tt σ H Q' := by
  refine h F H (Gr.rf G.fh) Q' ?_
  cases m1 with
  | ok x => exact fun F1 H1 g => c x F1 H1 rfl g q
  | er cc => exact fun H' e => q H' (G.hh.tr e)
  | bad => exact q
/-- a new list may be leant on -/
theorem Ev.nv {m : M (List α)} (h : Ev ce E te σ F H (rn K) m) : Ev ce E te σ F H (rv K) m := by
  intro F1 H1 g Q q
  refine h F1 H1 g Q ?_
  cases m with
  | ok x =>
    rintro F2 H2 v g2 ⟨p, vs, rfl, h1, h2, h3, h4⟩
    refine q (upd F2 p (.lst vs)) H2 (.ref p) ⟨g2.ff.tr (Ex.nw h2), ?_, g2.hh, fun b a1 a2 => ?_⟩ ⟨p, vs, rfl, upd_same, paired_mo (Ex.nw h2) h4⟩
    · intro a u e
      by_cases z : a = p
      · subst z; rw [upd_same] at e; rw [h3]; exact e
      · rw [upd_ne z] at e; exact g2.fh a u e
    · have : b ≠ p := fun z => by subst z; exact a2 h1
      rw [upd_ne this]; exact g2.nw b a1 a2
  | er c => exact q
  | bad => exact q
/-! ### names, constants, operators -/
theorem em_var {i : Nat} {v : V} {x : α} (h : σ[i]? = some (some v)) (r : rp K F v x) : Ev ce E (tVar i) σ F H (rv K) (.ok x) :=
  fun F1 H1 g Q q => ⟨v, h, q F1 H1 v (Gr.rf g.fh) (Rep.mo g.ff r)⟩
theorem em_int {i : Int} : Ev ce E (tC (.int i)) σ F H (rv K) (.ok i) := fun F1 H1 g Q q => q F1 H1 _ (Gr.rf g.fh) rfl
theorem em_bl {b : Bool} : Ev ce E (tC (.bl b)) σ F H (rv K) (.ok b) := fun F1 H1 g Q q => q F1 H1 _ (Gr.rf g.fh) rfl
theorem em_str {s : Str} : Ev ce E (tC (.str s)) σ F H (rv K) (.ok s) := fun F1 H1 g Q q => q F1 H1 _ (Gr.rf g.fh) rfl
theorem em_unit : Ev ce E (tC .non) σ F H (rv K) (.ok ()) := fun F1 H1 g Q q => q F1 H1 _ (Gr.rf g.fh) rfl
theorem em_none : Ev ce E (tC .non) σ F H (rv K) (.ok (none : Option α)) := fun F1 H1 g Q q => q F1 H1 _ (Gr.rf g.fh) rfl
def Op1 (ce : Ce) (E : XK) (K : PySem.W.Frag) (r : V → Hp → VK → Prop) (md : Md ρ) (x : α) (m : M ρ) : Prop := ∀ F1 H1 vx, Ex F1 H1 → rp K F1 vx x → ∀ Q, Post ce md m F1 H1 Q E → r vx H1 Q
def Op2 (ce : Ce) (E : XK) (K : PySem.W.Frag) (r : R2) (md : Md ρ) (x : α) (y : β) (m : M ρ) : Prop := ∀ F1 H1 vx vy, Ex F1 H1 → rp K F1 vx x → rp K F1 vy y → ∀ Q, Post ce md m F1 H1 Q E → r vx vy H1 Q
theorem em_op [MdMo md] {r : R2} {m1 : M α} {m2 : M β} {g : α → β → M ρ} (ha : Ev ce E ta σ F H (rv K) m1) (hb : Ev ce E tb σ F H (rv K) m2) (hr : ∀ x y, Op2 ce E K r md x y (g x y)) :
    Ev ce E (tOp r ta tb) σ F H md (m1.bind fun x => m2.bind fun y => g x y) := by
  intro F1 H1 g1 Q q
  refine ha F1 H1 g1 _ ?_
  cases m1 with
  | ok x =>
    intro F2 H2 vx g2 rx
    refine hb F2 H2 (g1.tr g2) _ ?_
    cases m2 with
    | ok y => exact fun F3 H3 vy g3 ry => hr x y F3 H3 vx vy g3.fh (Rep.mo g3.ff rx) ry Q (Post.mo (g2.tr g3) q)
    | er c => exact fun H' e => q H' (g2.hh.tr e)
    | bad => exact q
  | er c => exact q
  | bad => exact q
theorem em_un [MdMo md] {r : V → Hp → VK → Prop} {m1 : M α} {g : α → M ρ} (ha : Ev ce E ta σ F H (rv K) m1) (hr : ∀ x, Op1 ce E K r md x (g x)) :
    Ev ce E (tUn r ta) σ F H md (m1.bind g) := by
  intro F1 H1 g1 Q q
  refine ha F1 H1 g1 _ ?_
  cases m1 with
  | ok x => exact fun F2 H2 vx g2 rx => hr x F2 H2 vx g2.fh rx Q (Post.mo g2 q)
  | er c => exact q
  | bad => exact q
theorem o_I0 {x y : Int} {g : Int → Int → V} {z : α} (h : ∀ F, rp K F (g x y) z) : Op2 ce E K (rI0 g) (rv K) x y (.ok z) := fun F1 H1 vx vy e rx ry Q q => by
  cases rx; cases ry
  exact ⟨x, y, rfl, rfl, q F1 H1 _ (Gr.rf e) (h F1)⟩
theorem o_I {C : Int → Int → Prop} {x y : Int} {g : Int → Int → V} {z : α} (hc : C x y) (h : ∀ F, rp K F (g x y) z) : Op2 ce E K (rI C g) (rv K) x y (.ok z) := fun F1 H1 vx vy e rx ry Q q => by
  cases rx; cases ry
  exact ⟨x, y, rfl, rfl, hc, q F1 H1 _ (Gr.rf e) (h F1)⟩
def chk {α : Type} (c : Prop) [Decidable c] (x : α) : M α := if c then .ok x else .bad
theorem o_Ic {C : Int → Int → Prop} [∀ i j, Decidable (C i j)] {x y : Int} {g : Int → Int → V} {z : α} (h : ∀ F, rp K F (g x y) z) : Op2 ce E K (rI C g) (rv K) x y (chk (C x y) z) := fun F1 H1 vx vy e rx ry Q q => by
  unfold chk at q
  split at q
  · rename_i hc
    exact o_I hc h F1 H1 vx vy e rx ry Q q
  · exact q.elim
end
end Mw

set_option Elab.async false
set_option linter.all false
set_option maxRecDepth 100000
set_option maxHeartbeats 2000000
/-! Mw, part B: the readings of expressions. -/
namespace Mw
open PySem L2
open Rep (rp)
/-! ### numbers with bounds -/
def CDivZ (_ j : Int) : Prop := j ≠ 0 ∧ j.natAbs.log2 < 9000
instance : ∀ i j, Decidable (CMulW i j) := fun i j => by unfold CMulW; infer_instance
instance : ∀ i j, Decidable (CDivW i j) := fun i j => by unfold CDivW; infer_instance
instance : ∀ i j, Decidable (CDivZ i j) := fun i j => by unfold CDivZ; infer_instance
instance : ∀ i j, Decidable (CPow i j) := fun i j => by unfold CPow; infer_instance
section
variable {X : Cx}
theorem op_fdivZ : OpR X (binaryOp .FloorDiv) (rI CDivZ fun i j => .int (i.fdiv j)) := by
  intro pins s σ H x y v u Q I rx ry h
  obtain ⟨i, j, rfl, rfl, hc, q⟩ := h
  obtain ⟨t, rfl⟩ := rx
  obtain ⟨t', rfl⟩ := ry
  exact PyProof.Rows.floordiv_int hc.1 ⟨.int _, H, I.tok _, ⟨_, rfl⟩, q⟩ (.inl (PyProof.noPylong_of_log2 hc.2))
end
def mulM (x y : Int) : M Int := chk (CMulW x y) (x * y)
def fdivM (x y : Int) : M Int := chk (CDivW x y) (x / y)
def fdivZ (x y : Int) : M Int := chk (CDivZ x y) (x.fdiv y)
def modM (x y : Int) : M Int := chk (0 < y) (x % y)
def powM (x y : Int) : M Int := chk (CPow x y) (x ^ y.toNat)
section
variable {ρ α β γ δ : Type} [Rep α] [Rep β] [Rep γ] [Rep δ] {ce : Ce} {E : XK} {K : PySem.W.Frag} {σ : L2.St} {F H F' H' : Hp} {te ta tb tc td : TE} {tt tu : TT} {md : Md ρ} {m : M ρ}
theorem o_add {x y : Int} : Op2 ce E K (rI0 fun i j => .int (i + j)) (rv K) x y (.ok (x + y)) := o_I0 fun _ => rfl
theorem o_sub {x y : Int} : Op2 ce E K (rI0 fun i j => .int (i - j)) (rv K) x y (.ok (x - y)) := o_I0 fun _ => rfl
theorem o_mul {x y : Int} : Op2 ce E K (rI CMulW fun i j => .int (i * j)) (rv K) x y (mulM x y) := o_Ic fun _ => rfl
theorem o_fdivM {x y : Int} : Op2 ce E K (rI CDivW fun i j => .int (i / j)) (rv K) x y (fdivM x y) := o_Ic fun _ => rfl
theorem o_fdivZ {x y : Int} : Op2 ce E K (rI CDivZ fun i j => .int (i.fdiv j)) (rv K) x y (fdivZ x y) := o_Ic fun _ => rfl
theorem o_modM {x y : Int} : Op2 ce E K (rI (fun _ j => 0 < j) fun i j => .int (i % j)) (rv K) x y (modM x y) := o_Ic fun _ => rfl
theorem o_powM {x y : Int} : Op2 ce E K (rI CPow fun i j => .int (i ^ j.toNat)) (rv K) x y (powM x y) := o_Ic fun _ => rfl
theorem o_lt {x y : Int} : Op2 ce E K (rI0 fun i j => .bl (decide (i < j))) (rv K) x y (.ok (decide (x < y))) := o_I0 fun _ => rfl
theorem o_le {x y : Int} : Op2 ce E K (rI0 fun i j => .bl (decide (i ≤ j))) (rv K) x y (.ok (decide (x ≤ y))) := o_I0 fun _ => rfl
theorem o_gt {x y : Int} : Op2 ce E K (rI0 fun i j => .bl (decide (j < i))) (rv K) x y (.ok (decide (y < x))) := o_I0 fun _ => rfl
theorem o_ge {x y : Int} : Op2 ce E K (rI0 fun i j => .bl (decide (j ≤ i))) (rv K) x y (.ok (decide (y ≤ x))) := o_I0 fun _ => rfl
/-- both sides plain: one rule for the operators on ints -/
theorem e2 {r : R2} {x : α} {y : β} {z : ρ} [MdMo md] (ha : Ev ce E ta σ F H (rv K) (.ok x)) (hb : Ev ce E tb σ F H (rv K) (.ok y)) (hr : Op2 ce E K r md x y (.ok z)) : Ev ce E (tOp r ta tb) σ F H md (.ok z) := by
  intro F1 H1 g1 Q q
  refine ha F1 H1 g1 _ fun F2 H2 vx g2 rx => hb F2 H2 (g1.tr g2) _ fun F3 H3 vy g3 ry => ?_
  exact hr F3 H3 vx vy g3.fh (Rep.mo g3.ff rx) ry Q (Post.mo (m := .ok z) (g2.tr g3) q)
theorem e_neg {x : Int} (ha : Ev ce E ta σ F H (rv K) (.ok x)) : Ev ce E (tUn (rU fun i => .int (-i)) ta) σ F H (rv K) (.ok (-x)) := by
  intro F1 H1 g1 Q q
  refine ha F1 H1 g1 _ fun F2 H2 vx g2 rx => ?_
  cases rx
  exact ⟨x, rfl, q F2 H2 _ g2 rfl⟩
theorem o_neg {x : Int} : Op1 ce E K (rU fun i => .int (-i)) (rv K) x (.ok (-x)) := fun F1 H1 vx e rx Q q => by
  cases rx
  exact ⟨x, rfl, q F1 H1 _ (Gr.rf e) rfl⟩
/-- a product, one factor written: below 2 ^ 64 -/
theorem o_mulL {x y : Int} (h : CMul x y) : Op2 ce E K (rI CMul fun i j => .int (i * j)) (rv K) x y (.ok (x * y)) := o_I h fun _ => rfl
theorem o_fdiv {x y : Int} (h : CDiv x y) : Op2 ce E K (rI CDiv fun i j => .int (i / j)) (rv K) x y (.ok (x / y)) := o_I h fun _ => rfl
theorem o_fdivW {x y : Int} (h : CDivW x y) : Op2 ce E K (rI CDivW fun i j => .int (i / j)) (rv K) x y (.ok (x / y)) := o_I h fun _ => rfl
theorem o_mod {x y : Int} (h : 0 < y) : Op2 ce E K (rI (fun _ j => 0 < j) fun i j => .int (i % j)) (rv K) x y (.ok (x % y)) := o_I h fun _ => rfl
theorem o_pow {x y : Int} (h : CPow x y) : Op2 ce E K (rI CPow fun i j => .int (i ^ j.toNat)) (rv K) x y (.ok (x ^ y.toNat)) := o_I h fun _ => rfl
/-- what is told in other words -/
theorem e_is {x y : ρ} (h : Ev ce E te σ F H md (.ok x)) (e : x = y) : Ev ce E te σ F H md (.ok y) := by rw [← e]; exact h
theorem em_is {m m' : M ρ} (h : Ev ce E te σ F H md m) (e : m = m') : Ev ce E te σ F H md m' := by rw [← e]; exact h

/-! ### tests -/
theorem t_of {m : M Bool} (h : Ev ce E te σ F H (rv K) m) : EvT ce E (tTest te) σ F H m := fun F1 H1 g1 Q q => by
  refine h F1 H1 g1 _ ?_
  cases m with
  | ok b => exact fun F2 H2 v g2 r => ⟨b, r, q F2 H2 g2⟩
  | er c => exact q
  | bad => exact q
theorem t_B {m : M Bool} (h : Ev ce E te σ F H (rv K) m) : EvT ce E (tB te) σ F H m := fun F1 H1 g1 Q q => by
  refine h F1 H1 g1 _ ?_
  cases m with
  | ok b => exact fun F2 H2 v g2 r => ⟨b, r, q F2 H2 g2⟩
  | er c => exact q
  | bad => exact q
theorem t_and {a b : Bool} (ha : EvT ce E tt σ F H (.ok a)) (hb : EvT ce E tu σ F H (.ok b)) : EvT ce E (tAnd tt tu) σ F H (.ok (a && b)) := fun F1 H1 g1 Q q => by
  refine ha F1 H1 g1 _ fun F2 H2 g2 => ?_
  cases a with
  | true => exact hb F2 H2 (g1.tr g2) _ fun F3 H3 g3 => q F3 H3 (g2.tr g3)
  | false => exact q F2 H2 g2
theorem t_or {a b : Bool} (ha : EvT ce E tt σ F H (.ok a)) (hb : EvT ce E tu σ F H (.ok b)) : EvT ce E (tOr tt tu) σ F H (.ok (a || b)) := fun F1 H1 g1 Q q => by
  refine ha F1 H1 g1 _ fun F2 H2 g2 => ?_
  cases a with
  | false => exact hb F2 H2 (g1.tr g2) _ fun F3 H3 g3 => q F3 H3 (g2.tr g3)
  | true => exact q F2 H2 g2
def andM (m : M Bool) (k : M Bool) : M Bool := m.bind fun a => if a then k else .ok false
def orM (m : M Bool) (k : M Bool) : M Bool := m.bind fun a => if a then .ok true else k
def notM (m : M Bool) : M Bool := m.bind fun a => .ok (!a)
@[simp] theorem andM_t (k : M Bool) : andM (.ok true) k = k := rfl
@[simp] theorem andM_f (k : M Bool) : andM (.ok false) k = .ok false := rfl
@[simp] theorem orM_t (k : M Bool) : orM (.ok true) k = .ok true := rfl
@[simp] theorem orM_f (k : M Bool) : orM (.ok false) k = k := rfl
@[simp] theorem notM_ok (a : Bool) : notM (.ok a) = .ok (!a) := rfl
theorem tm_and {m k : M Bool} (ha : EvT ce E tt σ F H m) (hb : EvT ce E tu σ F H k) : EvT ce E (tAnd tt tu) σ F H (andM m k) := fun F1 H1 g1 Q q => by
  refine ha F1 H1 g1 _ ?_
  cases m with
  | ok a =>
    intro F2 H2 g2
    cases a with
    | true => exact hb F2 H2 (g1.tr g2) _ (PostT.mo g2 q)
    | false => exact q F2 H2 g2
  | er c => exact q
  | bad => exact q
theorem tm_or {m k : M Bool} (ha : EvT ce E tt σ F H m) (hb : EvT ce E tu σ F H k) : EvT ce E (tOr tt tu) σ F H (orM m k) := fun F1 H1 g1 Q q => by
  refine ha F1 H1 g1 _ ?_
  cases m with
  | ok a =>
    intro F2 H2 g2
    cases a with
    | false => exact hb F2 H2 (g1.tr g2) _ (PostT.mo g2 q)
    | true => exact q F2 H2 g2
  | er c => exact q
  | bad => exact q
theorem t_not {a : Bool} (ha : EvT ce E tt σ F H (.ok a)) : EvT ce E (tNot tt) σ F H (.ok (!a)) := fun F1 H1 g1 Q q => ha F1 H1 g1 _ fun F2 H2 g2 => q F2 H2 g2
theorem tm_not {m : M Bool} (ha : EvT ce E tt σ F H m) : EvT ce E (tNot tt) σ F H (notM m) := fun F1 H1 g1 Q q => by
  refine ha F1 H1 g1 _ ?_
  cases m with
  | ok a => exact fun F2 H2 g2 => q F2 H2 g2
  | er c => exact q
  | bad => exact q
theorem e_andV {a b : Bool} (ha : Ev ce E ta σ F H (rv K) (.ok a)) (hb : Ev ce E tb σ F H (rv K) (.ok b)) : Ev ce E (tAndV ta tb) σ F H (rv K) (.ok (a && b)) := fun F1 H1 g1 Q q => by
  refine ha F1 H1 g1 _ fun F2 H2 v g2 r => ⟨a, r, ?_⟩
  cases a with
  | true => exact hb F2 H2 (g1.tr g2) _ fun F3 H3 v' g3 => q F3 H3 v' (g2.tr g3)
  | false => exact q F2 H2 _ g2 rfl
theorem e_orV {a b : Bool} (ha : Ev ce E ta σ F H (rv K) (.ok a)) (hb : Ev ce E tb σ F H (rv K) (.ok b)) : Ev ce E (tOrV ta tb) σ F H (rv K) (.ok (a || b)) := fun F1 H1 g1 Q q => by
  refine ha F1 H1 g1 _ fun F2 H2 v g2 r => ⟨a, r, ?_⟩
  cases a with
  | false => exact hb F2 H2 (g1.tr g2) _ fun F3 H3 v' g3 => q F3 H3 v' (g2.tr g3)
  | true => exact q F2 H2 _ g2 rfl
theorem em_andV {m k : M Bool} (ha : Ev ce E ta σ F H (rv K) m) (hb : Ev ce E tb σ F H (rv K) k) : Ev ce E (tAndV ta tb) σ F H (rv K) (andM m k) := fun F1 H1 g1 Q q => by
  refine ha F1 H1 g1 _ ?_
  cases m with
  | ok a =>
    refine fun F2 H2 v g2 r => ⟨a, r, ?_⟩
    cases a with
    | true => exact hb F2 H2 (g1.tr g2) _ (Post.mo g2 q)
    | false => exact q F2 H2 _ g2 rfl
  | er c => exact q
  | bad => exact q
theorem em_orV {m k : M Bool} (ha : Ev ce E ta σ F H (rv K) m) (hb : Ev ce E tb σ F H (rv K) k) : Ev ce E (tOrV ta tb) σ F H (rv K) (orM m k) := fun F1 H1 g1 Q q => by
  refine ha F1 H1 g1 _ ?_
  cases m with
  | ok a =>
    refine fun F2 H2 v g2 r => ⟨a, r, ?_⟩
    cases a with
    | false => exact hb F2 H2 (g1.tr g2) _ (Post.mo g2 q)
    | true => exact q F2 H2 _ g2 rfl
  | er c => exact q
  | bad => exact q
theorem e_notV {a : Bool} (ha : Ev ce E ta σ F H (rv K) (.ok a)) : Ev ce E (tNotV ta) σ F H (rv K) (.ok (!a)) := fun F1 H1 g1 Q q => ha F1 H1 g1 _ fun F2 H2 v g2 r => ⟨a, r, q F2 H2 _ g2 rfl⟩
theorem em_notV {m : M Bool} (ha : Ev ce E ta σ F H (rv K) m) : Ev ce E (tNotV ta) σ F H (rv K) (notM m) := fun F1 H1 g1 Q q => by
  refine ha F1 H1 g1 _ ?_
  cases m with
  | ok a => exact fun F2 H2 v g2 r => ⟨a, r, q F2 H2 _ g2 rfl⟩
  | er c => exact q
  | bad => exact q
theorem em_if [MdMo md] {b : M Bool} {m k : M ρ} (h : EvT ce E tt σ F H b) (ha : Ev ce E ta σ F H md m) (hb : Ev ce E tb σ F H md k) : Ev ce E (tIf tt ta tb) σ F H md (b.bind fun c => if c then m else k) := fun F1 H1 g1 Q q => by
  refine h F1 H1 g1 _ ?_
  cases b with
  | ok b =>
    refine fun F2 H2 g2 => ?_
    cases b with
    | true => exact ha F2 H2 (g1.tr g2) _ (Post.mo g2 q)
    | false => exact hb F2 H2 (g1.tr g2) _ (Post.mo g2 q)
  | er c => exact q
  | bad => exact q
/-- x < y < z and its like -/
theorem em_chain {r r' : R2} {m1 : M α} {m2 : M β} {m3 : M γ} {p : α → β → Bool} {p' : β → γ → Bool} (ha : Ev ce E ta σ F H (rv K) m1) (hb : Ev ce E tb σ F H (rv K) m2) (hc : Ev ce E tc σ F H (rv K) m3)
    (h : ∀ x y, Op2 ce E K r (rv K) x y (.ok (p x y))) (h' : ∀ x y, Op2 ce E K r' (rv K) x y (.ok (p' x y))) :
    Ev ce E (tChain r r' ta tb tc) σ F H (rv K) (m1.bind fun x => m2.bind fun y => if p x y then m3.bind fun z => .ok (p' y z) else .ok false) := fun F1 H1 g1 Q q => by
  refine ha F1 H1 g1 _ ?_
  cases m1 with
  | ok x =>
    intro F2 H2 vx g2 rx
    refine hb F2 H2 (g1.tr g2) _ ?_
    cases m2 with
    | ok y =>
      intro F3 H3 vy g3 ry
      refine h x y F3 H3 vx vy g3.fh (Rep.mo g3.ff rx) ry _ fun F4 H4 v4 g4 r4 => ⟨p x y, r4, ?_⟩
      have q' : Post ce (rv K) (if p x y then m3.bind fun z => .ok (p' y z) else .ok false) F1 H1 Q E := q
      cases e : p x y with
      | true =>
        rw [e] at q'
        refine hc F4 H4 (((g1.tr g2).tr g3).tr g4) _ ?_
        cases m3 with
        | ok z => exact fun F5 H5 vz g5 rz => h' y z F5 H5 vy vz g5.fh (Rep.mo (g4.ff.tr g5.ff) ry) rz Q (Post.mo (m := .ok (p' y z)) (((g2.tr g3).tr g4).tr g5) q')
        | er c => exact fun H' e => q' H' (((g2.tr g3).tr g4).hh.tr e)
        | bad => exact q'
      | false =>
        rw [e] at q'
        exact q' F4 H4 _ ((g2.tr g3).tr g4) rfl
    | er c => exact fun H' e => q H' (g2.hh.tr e)
    | bad => exact q
  | er c => exact q
  | bad => exact q

/-! ### argument lists: what stands for each -/
/-- RA tells that the values stand for the data -/
inductive RA (K : PySem.W.Frag) (F : Hp) : List V → List ((V → Prop)) → Prop
/-- the arguments are told one by one: k runs with all of them -/
def EvA (ce : Ce) (E : XK) (ta : TA) (σ : L2.St) (F H : Hp) (R : Hp → List V → Prop) : Prop := ∀ F1 H1, Gr F H F1 H1 → ∀ Q : List V → Hp → Prop, (∀ F2 H2 vs, Gr F1 H1 F2 H2 → R F2 vs → Q vs H2) → ta σ H1 Q
/-- .. with effects -/
def EvAM (ce : Ce) (E : XK) (ta : TA) (σ : L2.St) (F H : Hp) (m : M α) (R : Hp → List V → α → Prop) : Prop := ∀ F1 H1, Gr F H F1 H1 → ∀ Q : List V → Hp → Prop,
  (match m with
    | .ok x => ∀ F2 H2 vs, Gr F1 H1 F2 H2 → R F2 vs x → Q vs H2
    | .er c => ∀ H', Ex H1 H' → E (.ref (ce c.name)) none H'
    | .bad => False) → ta σ H1 Q
def R0 : Hp → List V → Unit → Prop := fun _ vs _ => vs = []
def RC (K : PySem.W.Frag) {α β : Type} [Rep α] (R : Hp → List V → β → Prop) : Hp → List V → α × β → Prop := fun F vs x => ∃ v r, vs = v :: r ∧ rp K F v x.1 ∧ R F r x.2
class RMo {α : Type} (R : Hp → List V → α → Prop) : Prop where
  mo : ∀ {F F' vs x}, Ex F F' → R F vs x → R F' vs x
instance : RMo R0 := ⟨fun _ h => h⟩
instance {K : PySem.W.Frag} {α β : Type} [Rep α] {R : Hp → List V → β → Prop} [RMo R] : RMo (RC K (α := α) R) := ⟨fun e ⟨v, r, h1, h2, h3⟩ => ⟨v, r, h1, Rep.mo e h2, RMo.mo e h3⟩⟩
theorem ea_nil : EvAM ce E tNil σ F H (.ok ()) R0 := fun F1 H1 g1 Q q => q F1 H1 [] (Gr.rf g1.fh) rfl
theorem ea_cons {tr : TA} {m1 : M α} {m2 : M β} {R : Hp → List V → β → Prop} (ha : Ev ce E ta σ F H (rv K) m1) (hr : EvAM ce E tr σ F H m2 R) :
    EvAM ce E (tCons ta tr) σ F H (m1.bind fun x => m2.bind fun y => .ok (x, y)) (RC K R) := fun F1 H1 g1 Q q => by
  refine ha F1 H1 g1 _ ?_
  cases m1 with
  | ok x =>
    intro F2 H2 vx g2 rx
    refine hr F2 H2 (g1.tr g2) _ ?_
    cases m2 with
    | ok y => exact fun F3 H3 vs g3 r3 => q F3 H3 (vx :: vs) (g2.tr g3) ⟨vx, vs, rfl, Rep.mo g3.ff rx, r3⟩
    | er c => exact fun H' e => q H' (g2.hh.tr e)
    | bad => exact q
  | er c => exact q
  | bad => exact q
theorem e_cons {tr : TA} {x : α} {y : β} {R : Hp → List V → β → Prop} (ha : Ev ce E ta σ F H (rv K) (.ok x)) (hr : EvAM ce E tr σ F H (.ok y) R) : EvAM ce E (tCons ta tr) σ F H (.ok (x, y)) (RC K R) := ea_cons (m1 := .ok x) (m2 := .ok y) ha hr
/-- a call of values that are known: r what it asks, m what comes of it -/
def OpA (ce : Ce) (E : XK) (R : Hp → List V → α → Prop) (r : List V → Hp → VK → Prop) (md : Md ρ) (x : α) (m : M ρ) : Prop := ∀ F1 H1 vs, Ex F1 H1 → R F1 vs x → ∀ Q, Post ce md m F1 H1 Q E → r vs H1 Q
theorem em_cb [MdMo md] {ta : TA} {r : List V → Hp → VK → Prop} {m1 : M α} {R : Hp → List V → α → Prop} {g : α → M ρ} (ha : EvAM ce E ta σ F H m1 R) (hr : ∀ x, OpA ce E R r md x (g x)) : Ev ce E (tCB r ta) σ F H md (m1.bind g) := fun F1 H1 g1 Q q => by
  refine ha F1 H1 g1 _ ?_
  cases m1 with
  | ok x => exact fun F2 H2 vs g2 r2 => hr x F2 H2 vs g2.fh r2 Q (Post.mo g2 q)
  | er c => exact q
  | bad => exact q
theorem e_cb [MdMo md] {ta : TA} {r : List V → Hp → VK → Prop} {x : α} {R : Hp → List V → α → Prop} {z : ρ} (ha : EvAM ce E ta σ F H (.ok x) R) (hr : OpA ce E R r md x (.ok z)) : Ev ce E (tCB r ta) σ F H md (.ok z) := fun F1 H1 g1 Q q =>
  ha F1 H1 g1 _ fun F2 H2 vs g2 r2 => hr F2 H2 vs g2.fh r2 Q (Post.mo (m := .ok z) g2 q)
/-- a call of a def by its promise -/
def SpA (ce : Ce) (R : Hp → List V → α → Prop) (sp : Sp) (md : Md ρ) (x : α) (m : M ρ) : Prop := ∀ F1 H1 vs, Ex F1 H1 → R F1 vs x → ∀ Q (E : XK), Post ce md m F1 H1 Q E → sp vs H1 Q E
theorem em_call [MdMo md] {ta : TA} {sp : Sp} {m1 : M α} {R : Hp → List V → α → Prop} {g : α → M ρ} (ha : EvAM ce E ta σ F H m1 R) (hr : ∀ x, SpA ce R sp md x (g x)) : Ev ce E (tCall sp [] E ta) σ F H md (m1.bind g) := fun F1 H1 g1 Q q => by
  refine ha F1 H1 g1 _ ?_
  cases m1 with
  | ok x =>
    intro F2 H2 vs g2 r2
    show sp (vs ++ []) H2 Q E
    rw [List.append_nil]
    exact hr x F2 H2 vs g2.fh r2 Q E (Post.mo g2 q)
  | er c => exact q
  | bad => exact q
theorem e_call [MdMo md] {ta : TA} {sp : Sp} {x : α} {R : Hp → List V → α → Prop} {m : M ρ} (ha : EvAM ce E ta σ F H (.ok x) R) (hr : SpA ce R sp md x m) : Ev ce E (tCall sp [] E ta) σ F H md m := fun F1 H1 g1 Q q =>
  ha F1 H1 g1 _ fun F2 H2 vs g2 r2 => by
    show sp (vs ++ []) H2 Q E
    rw [List.append_nil]
    exact hr F2 H2 vs g2.fh r2 Q E (Post.mo g2 q)

/-! ### displays -/
theorem gr_new {o : HO} {p : Addr} (h : Ex F H) (n : H p = none) : F p = none := ex_back h n
theorem em_tup {ta : TA} {m1 : M α} {R : Hp → List V → α → Prop} [RMo R] {g : α → ρ} [Rep ρ] (ha : EvAM ce E ta σ F H m1 R) (hs : ∀ F vs x, R F vs x → vs.length ≤ sizeLine)
    (hg : ∀ F p vs x, R F vs x → F p = some (.tup vs) → rp K F (.ref p) (g x)) : Ev ce E (tTup ta) σ F H (rv K) (m1.bind fun x => .ok (g x)) := fun F1 H1 g1 Q q => by
  refine ha F1 H1 g1 _ ?_
  cases m1 with
  | ok x =>
    refine fun F2 H2 vs g2 r2 => ⟨hs F2 vs x r2, fun p np => ?_⟩
    refine q (upd F2 p (.tup vs)) _ _ (g2.tr (Gr.new g2.fh np)) (hg _ p vs x (RMo.mo (Ex.nw (ex_back g2.fh np)) r2) upd_same)
  | er c => exact q
  | bad => exact q
theorem r2_len {F : Hp} {vs : List V} {x : α × β × Unit} (h : RC K (RC K R0) F vs x) : vs.length ≤ sizeLine := by
  obtain ⟨v, r, rfl, _, v', r', rfl, _, rfl⟩ := h
  show 2 ≤ sizeLine
  decide
theorem em_tup2 {m1 : M α} {m2 : M β} (ha : Ev ce E ta σ F H (rv K) m1) (hb : Ev ce E tb σ F H (rv K) m2) : Ev ce E (tTup (tCons ta (tCons tb tNil))) σ F H (rv K) (m1.bind fun x => m2.bind fun y => .ok (x, y)) := fun F1 H1 g1 Q q => by
  refine ha F1 H1 g1 _ ?_
  cases m1 with
  | ok x =>
    intro F2 H2 v2 g2 q2
    refine hb F2 H2 (g1.tr g2) _ ?_
    cases m2 with
    | ok y =>
      refine fun F3 H3 v3 g3 q3 => ⟨by show 2 ≤ sizeLine; decide, fun p np => ?_⟩
      have e := Ex.nw (o := .tup [v2, v3]) (ex_back g3.fh np)
      exact q _ _ _ ((g2.tr g3).tr (Gr.new g3.fh np)) ⟨p, v2, v3, rfl, SqT.of upd_same, Rep.mo (g3.ff.tr e) q2, Rep.mo e q3⟩
    | er c => exact fun H' e => q H' (g2.hh.tr e)
    | bad => exact q
  | er c => exact q
  | bad => exact q
theorem em_tup3 {m1 : M α} {m2 : M β} {m3 : M γ} (ha : Ev ce E ta σ F H (rv K) m1) (hb : Ev ce E tb σ F H (rv K) m2) (hc : Ev ce E tc σ F H (rv K) m3) :
    Ev ce E (tTup (tCons ta (tCons tb (tCons tc tNil)))) σ F H (rv K) (m1.bind fun x => m2.bind fun y => m3.bind fun z => .ok (T3.mk x y z)) := fun F1 H1 g1 Q q => by
  refine ha F1 H1 g1 _ ?_
  cases m1 with
  | ok x =>
    intro F2 H2 v2 g2 q2
    refine hb F2 H2 (g1.tr g2) _ ?_
    cases m2 with
    | ok y =>
      intro F3 H3 v3 g3 q3
      refine hc F3 H3 ((g1.tr g2).tr g3) _ ?_
      cases m3 with
      | ok z =>
        refine fun F4 H4 v4 g4 q4 => ⟨by show 3 ≤ sizeLine; decide, fun p np => ?_⟩
        have e := Ex.nw (o := .tup [v2, v3, v4]) (ex_back g4.fh np)
        exact q _ _ _ (((g2.tr g3).tr g4).tr (Gr.new g4.fh np)) ⟨p, v2, v3, v4, rfl, SqT.of upd_same, Rep.mo ((g3.ff.tr g4.ff).tr e) q2, Rep.mo (g4.ff.tr e) q3, Rep.mo e q4⟩
      | er c => exact fun H' e => q H' ((g2.tr g3).hh.tr e)
      | bad => exact q
    | er c => exact fun H' e => q H' (g2.hh.tr e)
    | bad => exact q
  | er c => exact q
  | bad => exact q
/-- a written list: its items one by one -/
def EvL (ce : Ce) (E : XK) (K : PySem.W.Frag) (ta : TA) (σ : L2.St) (F H : Hp) (m : M (List α)) : Prop := EvAM ce E ta σ F H m (fun F vs x => Paired (rp K F) vs x)
theorem el_nil : EvL ce E K tNil σ F H (.ok ([] : List α)) := fun F1 H1 g1 Q q => q F1 H1 [] (Gr.rf g1.fh) .nil
theorem el_cons {tr : TA} {m1 : M α} {m2 : M (List α)} (ha : Ev ce E ta σ F H (rv K) m1) (hr : EvL ce E K tr σ F H m2) : EvL ce E K (tCons ta tr) σ F H (m1.bind fun x => m2.bind fun y => .ok (x :: y)) := fun F1 H1 g1 Q q => by
  refine ha F1 H1 g1 _ ?_
  cases m1 with
  | ok x =>
    intro F2 H2 vx g2 rx
    refine hr F2 H2 (g1.tr g2) _ ?_
    cases m2 with
    | ok y => exact fun F3 H3 vs g3 r3 => q F3 H3 (vx :: vs) (g2.tr g3) (.cons (Rep.mo g3.ff rx) r3)
    | er c => exact fun H' e => q H' (g2.hh.tr e)
    | bad => exact q
  | er c => exact q
  | bad => exact q
theorem em_lst {ta : TA} {m : M (List α)} (ha : EvL ce E K ta σ F H m) (hs : ∀ x, m = .ok x → x.length ≤ 1000) : Ev ce E (tLst ta) σ F H (rn K) m := fun F1 H1 g1 Q q => by
  refine ha F1 H1 g1 _ ?_
  cases m with
  | ok x =>
    refine fun F2 H2 vs g2 r2 => ⟨Nat.le_of_lt (small1000 (by rw [Paired.length r2]; exact hs x rfl)), fun p np => ?_⟩
    exact q F2 _ _ (g2.tr (Gr.own g2.fh np)) ⟨p, vs, rfl, ex_back g2.hh np, ex_back g2.fh np, upd_same, r2⟩
  | er c => exact q
  | bad => exact q

/-! ### places, lengths, slices -/
def ixM (xs : List α) (i : Int) : M α := match atI xs i with
  | some x => .ok x
  | none => .bad
theorem atI_pair {F : V → α → Prop} {vs : List V} {xs : List α} {i : Int} {x : α} (h : Paired F vs xs) (e : atI xs i = some x) : ∃ v, atI vs i = some v ∧ F v x := by
  unfold atI at e ⊢
  rw [Paired.length h]
  cases q : ixN xs.length i with
  | none => rw [q] at e; cases e
  | some j =>
    rw [q] at e
    exact paired_get h e
theorem o_ixL {xs : List α} {i : Int} : Op2 ce E K (rIxL K) (rv K) xs i (ixM xs i) := fun F1 H1 vx vy e rx ry Q q => by
  obtain ⟨a, vs, rfl, h2, h3⟩ := rx
  cases ry
  unfold ixM at q
  split at q
  · rename_i x hx
    obtain ⟨v, hv, rv'⟩ := atI_pair h3 hx
    exact ⟨a, vs, i, v, rfl, rfl, SqL.of (e _ _ h2), hv, q F1 H1 v (Gr.rf e) rv'⟩
  · exact q.elim
theorem o_ixS {xs : Scr} {i : Int} : Op2 ce E K (rIxL K) (rv K) xs i (ixM xs.l i) := fun F1 H1 vx vy e rx ry Q q => by
  obtain ⟨a, rfl, h2⟩ := rx
  cases ry
  unfold ixM at q
  split at q
  · rename_i x hx
    obtain ⟨v, hv, rv'⟩ := atI_pair (rep_int (K := K) (H := F1) xs.l) hx
    exact ⟨a, _, i, v, rfl, rfl, ex_l e h2, hv, q F1 H1 v (Gr.rf e) rv'⟩
  · exact q.elim
/-- places of tuples -/
theorem e_fst {x : α × β} (ha : Ev ce E ta σ F H (rv K) (.ok x)) : Ev ce E (tOp (rIxT K) ta (tC (.int 0))) σ F H (rv K) (.ok x.1) := fun F1 H1 g1 Q q => by
  refine ha F1 H1 g1 _ fun F2 H2 vx g2 ⟨a, u, w, e1, e2, e3, e4⟩ => ?_
  subst e1
  exact ⟨a, [u, w], 0, u, rfl, rfl, ex_t g2.fh e2, rfl, q F2 H2 u g2 e3⟩
theorem e_snd {x : α × β} (ha : Ev ce E ta σ F H (rv K) (.ok x)) : Ev ce E (tOp (rIxT K) ta (tC (.int 1))) σ F H (rv K) (.ok x.2) := fun F1 H1 g1 Q q => by
  refine ha F1 H1 g1 _ fun F2 H2 vx g2 ⟨a, u, w, e1, e2, e3, e4⟩ => ?_
  subst e1
  exact ⟨a, [u, w], 1, w, rfl, rfl, ex_t g2.fh e2, rfl, q F2 H2 w g2 e4⟩
theorem o_fst {x : α × β} {i : Int} (hi : i = 0) : Op2 ce E K (rIxT K) (rv K) x i (.ok x.1) := fun F1 H1 vx vy e ⟨a, u, w, e1, e2, e3, e4⟩ ry Q q => by
  subst e1 hi
  cases ry
  exact ⟨a, [u, w], 0, u, rfl, rfl, ex_t e e2, rfl, q F1 H1 u (Gr.rf e) e3⟩
theorem o_snd {x : α × β} {i : Int} (hi : i = 1) : Op2 ce E K (rIxT K) (rv K) x i (.ok x.2) := fun F1 H1 vx vy e ⟨a, u, w, e1, e2, e3, e4⟩ ry Q q => by
  subst e1 hi
  cases ry
  exact ⟨a, [u, w], 1, w, rfl, rfl, ex_t e e2, rfl, q F1 H1 w (Gr.rf e) e4⟩
theorem o_a3 {x : T3 α β γ} {i : Int} (hi : i = 0) : Op2 ce E K (rIxT K) (rv K) x i (.ok x.a) := fun F1 H1 vx vy e ⟨a, u, w, z, e1, e2, e3, e4, e5⟩ ry Q q => by
  subst e1 hi
  cases ry
  exact ⟨a, [u, w, z], 0, u, rfl, rfl, ex_t e e2, rfl, q F1 H1 u (Gr.rf e) e3⟩
theorem o_b3 {x : T3 α β γ} {i : Int} (hi : i = 1) : Op2 ce E K (rIxT K) (rv K) x i (.ok x.b) := fun F1 H1 vx vy e ⟨a, u, w, z, e1, e2, e3, e4, e5⟩ ry Q q => by
  subst e1 hi
  cases ry
  exact ⟨a, [u, w, z], 1, w, rfl, rfl, ex_t e e2, rfl, q F1 H1 w (Gr.rf e) e4⟩
theorem o_c3 {x : T3 α β γ} {i : Int} (hi : i = 2) : Op2 ce E K (rIxT K) (rv K) x i (.ok x.c) := fun F1 H1 vx vy e ⟨a, u, w, z, e1, e2, e3, e4, e5⟩ ry Q q => by
  subst e1 hi
  cases ry
  exact ⟨a, [u, w, z], 2, z, rfl, rfl, ex_t e e2, rfl, q F1 H1 z (Gr.rf e) e5⟩
/-- len -/
def rLenS (K : PySem.W.Frag) : List V → Hp → VK → Prop := fun xs H Q => ∃ p ys, xs = [.ref p] ∧ (SqL K H p ys ∨ SqT K H p ys) ∧ Q (.int ys.length) H
theorem a_len {xs : List α} : OpA ce E (RC K R0) (rLenS K) (rv K) (xs, ()) (.ok (xs.length : Int)) := fun F1 H1 vs e ⟨v, r, e1, ⟨a, us, h1, h2, h3⟩, e3⟩ Q q => by
  cases e3
  subst e1 h1
  refine ⟨a, us, rfl, .inl (SqL.of (e _ _ h2)), ?_⟩
  rw [Paired.length h3]
  exact q F1 H1 _ (Gr.rf e) rfl
theorem a_lenS {xs : Scr} : OpA ce E (RC K R0) (rLenS K) (rv K) (xs, ()) (.ok (xs.l.length : Int)) := fun F1 H1 vs e ⟨v, r, e1, ⟨a, h1, h2⟩, e3⟩ Q q => by
  cases e3
  subst e1 h1
  refine ⟨a, _, rfl, .inl (ex_l e h2), ?_⟩
  rw [List.length_map]
  exact q F1 H1 _ (Gr.rf e) rfl
theorem a_len2 {x : α × β} : OpA ce E (RC K R0) (rLenS K) (rv K) (x, ()) (.ok (2 : Int)) := fun F1 H1 vs e ⟨v, r, e1, ⟨a, u, w, h1, h2, h3, h4⟩, e3⟩ Q q => by
  cases e3
  subst e1 h1
  exact ⟨a, _, rfl, .inr (ex_t e h2), q F1 H1 _ (Gr.rf e) rfl⟩
theorem a_len3 {x : T3 α β γ} : OpA ce E (RC K R0) (rLenS K) (rv K) (x, ()) (.ok (3 : Int)) := fun F1 H1 vs e ⟨v, r, e1, ⟨a, u, w, z, h1, h2, h3, h4, h5⟩, e3⟩ Q q => by
  cases e3
  subst e1 h1
  exact ⟨a, _, rfl, .inr (ex_t e h2), q F1 H1 _ (Gr.rf e) rfl⟩
/-- list(xs): a new one -/
def rListS (K : PySem.W.Frag) : List V → Hp → VK → Prop := fun xs H Q => ∃ p ys, xs = [.ref p] ∧ (SqL K H p ys ∨ SqT K H p ys) ∧ ∀ l, H l = none → Q (.ref l) (upd H l (.lst ys))
theorem a_list {xs : List α} : OpA ce E (RC K R0) (rListS K) (rn K) (xs, ()) (.ok xs) := fun F1 H1 vs e ⟨v, r, e1, ⟨a, us, h1, h2, h3⟩, e3⟩ Q q => by
  cases e3
  subst e1 h1
  exact ⟨a, us, rfl, .inl (SqL.of (e _ _ h2)), fun l nl => q F1 _ _ (Gr.own e nl) ⟨l, us, rfl, nl, ex_back e nl, upd_same, h3⟩⟩
theorem a_listS {xs : Scr} : OpA ce E (RC K R0) (rListS K) (rn K) (xs, ()) (.ok xs.l) := fun F1 H1 vs e ⟨v, r, e1, ⟨a, h1, h2⟩, e3⟩ Q q => by
  cases e3
  subst e1 h1
  exact ⟨a, _, rfl, .inl (ex_l e h2), fun l nl => q F1 _ _ (Gr.own e nl) ⟨l, _, rfl, nl, ex_back e nl, upd_same, rep_int _⟩⟩
/-- abs, max, min, int of what is known -/
theorem a_abs {x : Int} : OpA ce E (RC K R0) (fun xs H Q => ∃ i, xs = [.int i] ∧ Q (.int (if i < 0 then -i else i)) H) (rv K) (x, ()) (.ok (if x < 0 then -x else x)) := fun F1 H1 vs e ⟨v, r, e1, h1, e3⟩ Q q => by
  cases e3
  cases h1
  subst e1
  exact ⟨x, rfl, q F1 H1 _ (Gr.rf e) rfl⟩
theorem a_max2 {x y : Int} : OpA ce E (RC K (RC K R0)) (fun xs H Q => ∃ i j, xs = [.int i, .int j] ∧ Q (.int (if j > i then j else i)) H) (rv K) (x, y, ()) (.ok (if y > x then y else x)) := fun F1 H1 vs e ⟨v, r, e1, h1, v', r', e2, h2, e3⟩ Q q => by
  cases e3
  cases h1
  cases h2
  subst e2
  subst e1
  exact ⟨x, y, rfl, q F1 H1 _ (Gr.rf e) rfl⟩
theorem a_min2 {x y : Int} : OpA ce E (RC K (RC K R0)) (fun xs H Q => ∃ i j, xs = [.int i, .int j] ∧ Q (.int (if j < i then j else i)) H) (rv K) (x, y, ()) (.ok (if y < x then y else x)) := fun F1 H1 vs e ⟨v, r, e1, h1, v', r', e2, h2, e3⟩ Q q => by
  cases e3
  cases h1
  cases h2
  subst e2
  subst e1
  exact ⟨x, y, rfl, q F1 H1 _ (Gr.rf e) rfl⟩
theorem a_intB {x : Bool} : OpA ce E (RC K R0) (fun xs H Q => (∃ i, xs = [.int i] ∧ Q (.int i) H) ∨ ∃ k, xs = [.bl k] ∧ Q (.int (if k then 1 else 0)) H) (rv K) (x, ()) (.ok (if x then (1 : Int) else 0)) := fun F1 H1 vs e ⟨v, r, e1, h1, e3⟩ Q q => by
  cases e3
  cases h1
  subst e1
  exact .inr ⟨x, rfl, q F1 H1 _ (Gr.rf e) rfl⟩
/-- sum of ints -/
theorem a_sum {xs : List Int} : OpA ce E (RC K R0) (rSum K) (rv K) (xs, ()) (.ok xs.sum) := fun F1 H1 vs e ⟨v, r, e1, ⟨a, us, h1, h2, h3⟩, e3⟩ Q q => by
  cases e3
  subst e1 h1
  have := paired_int h3
  subst this
  exact ⟨a, xs, rfl, SqL.of (e _ _ h2), q F1 H1 _ (Gr.rf e) rfl⟩
/-- the greatest, the least of a list of ints -/
def maxL : List Int → Int
  | [] => 0
  | [x] => x
  | x :: r => max x (maxL r)
def minL : List Int → Int
  | [] => 0
  | [x] => x
  | x :: r => min x (minL r)
theorem maxL_mem : ∀ {xs : List Int}, xs ≠ [] → maxL xs ∈ xs ∧ ∀ y ∈ xs, y ≤ maxL xs
  | [], h => absurd rfl h
  | [x], _ => ⟨List.mem_singleton.mpr rfl, fun y hy => by rw [List.mem_singleton.mp hy]; exact Int.le_refl _⟩
  | x :: y :: r, _ => by
    obtain ⟨h1, h2⟩ := maxL_mem (xs := y :: r) (by simp)
    show max x (maxL (y :: r)) ∈ _ ∧ ∀ z ∈ _, z ≤ max x (maxL (y :: r))
    refine ⟨?_, fun z hz => ?_⟩
    · by_cases c : x ≤ maxL (y :: r)
      · rw [Int.max_eq_right c]; exact List.mem_cons_of_mem _ h1
      · rw [Int.max_eq_left (by omega)]; exact List.mem_cons_self
    · rcases List.mem_cons.mp hz with rfl | hz
      · exact Int.le_max_left _ _
      · exact Int.le_trans (h2 z hz) (Int.le_max_right _ _)
theorem minL_mem : ∀ {xs : List Int}, xs ≠ [] → minL xs ∈ xs ∧ ∀ y ∈ xs, minL xs ≤ y
  | [], h => absurd rfl h
  | [x], _ => ⟨List.mem_singleton.mpr rfl, fun y hy => by rw [List.mem_singleton.mp hy]; exact Int.le_refl _⟩
  | x :: y :: r, _ => by
    obtain ⟨h1, h2⟩ := minL_mem (xs := y :: r) (by simp)
    show min x (minL (y :: r)) ∈ _ ∧ ∀ z ∈ _, min x (minL (y :: r)) ≤ z
    refine ⟨?_, fun z hz => ?_⟩
    · by_cases c : x ≤ minL (y :: r)
      · rw [Int.min_eq_left c]; exact List.mem_cons_self
      · rw [Int.min_eq_right (by omega)]; exact List.mem_cons_of_mem _ h1
    · rcases List.mem_cons.mp hz with rfl | hz
      · exact Int.min_le_left _ _
      · exact Int.le_trans (Int.min_le_right _ _) (h2 z hz)
def maxM (xs : List Int) : M Int := chk (xs ≠ []) (maxL xs)
def minM (xs : List Int) : M Int := chk (xs ≠ []) (minL xs)
theorem a_max {xs : List Int} : OpA ce E (RC K R0) (rMax K) (rv K) (xs, ()) (maxM xs) := fun F1 H1 vs e ⟨v, r, e1, ⟨a, us, h1, h2, h3⟩, e3⟩ Q q => by
  cases e3
  subst e1 h1
  have := paired_int h3
  subst this
  unfold maxM chk at q
  split at q
  · rename_i hne
    refine ⟨a, xs, rfl, SqL.of (e _ _ h2), List.length_pos_iff.mpr hne, fun m hm hle => ?_⟩
    obtain ⟨k1, k2⟩ := maxL_mem hne
    have : m = maxL xs := Int.le_antisymm (k2 m hm) (hle _ k1)
    subst this
    exact q F1 H1 _ (Gr.rf e) rfl
  · exact q.elim
theorem a_min {xs : List Int} : OpA ce E (RC K R0) (rMin K) (rv K) (xs, ()) (minM xs) := fun F1 H1 vs e ⟨v, r, e1, ⟨a, us, h1, h2, h3⟩, e3⟩ Q q => by
  cases e3
  subst e1 h1
  have := paired_int h3
  subst this
  unfold minM chk at q
  split at q
  · rename_i hne
    refine ⟨a, xs, rfl, SqL.of (e _ _ h2), List.length_pos_iff.mpr hne, fun m hm hle => ?_⟩
    obtain ⟨k1, k2⟩ := minL_mem hne
    have : m = minL xs := Int.le_antisymm (hle _ k1) (k2 m hm)
    subst this
    exact q F1 H1 _ (Gr.rf e) rfl
  · exact q.elim
end
end Mw

set_option Elab.async false
set_option linter.all false
set_option maxRecDepth 100000
set_option maxHeartbeats 2000000
/-! Mw, part C: slices, sums of lists, comparisons of data, sorts, comprehensions. -/
namespace Mw
open PySem L2
open Rep (rp)
/-! ### slices, list + list, list * int -/
def cut {α : Type} (xs : List α) (lo hi : Option Int) : List α := (xs.drop (HT.sIx xs.length 0 lo)).take (HT.sIx xs.length xs.length hi - HT.sIx xs.length 0 lo)
theorem cutV_is (xs : List V) (lo hi : Option Int) : cutV xs lo hi = cut xs lo hi := rfl
theorem paired_cut {α β : Type} {F : α → β → Prop} {vs : List α} {xs : List β} (h : Paired F vs xs) (lo hi : Option Int) : Paired F (cut vs lo hi) (cut xs lo hi) := by
  unfold cut
  rw [Paired.length h]
  exact paired_take _ (paired_drop _ h)
section
variable {ρ α β γ δ : Type} [Rep α] [Rep β] [Rep γ] [Rep δ] {ce : Ce} {E : XK} {K : PySem.W.Frag} {σ : L2.St} {F H F' H' : Hp} {te ta tb tc td : TE} {tt tu : TT} {md : Md ρ} {m : M ρ}
def EvO (ce : Ce) (E : XK) (to : TO) (σ : L2.St) (F H : Hp) (m : M (Option Int)) : Prop := ∀ F1 H1, Gr F H F1 H1 → ∀ Q : Option Int → Hp → Prop,
  (match m with
    | .ok x => ∀ F2 H2, Gr F1 H1 F2 H2 → Q x H2
    | .er c => ∀ H', Ex H1 H' → E (.ref (ce c.name)) none H'
    | .bad => False) → to σ H1 Q
theorem eo_none : EvO ce E tNoPart σ F H (.ok none) := fun F1 H1 g1 Q q => q F1 H1 (Gr.rf g1.fh)
theorem eo_some {m : M Int} (h : Ev ce E te σ F H (rv K) m) : EvO ce E (tPart te) σ F H (m.bind fun i => .ok (some i)) := fun F1 H1 g1 Q q => by
  refine h F1 H1 g1 _ ?_
  cases m with
  | ok i => exact fun F2 H2 v g2 r => ⟨i, r, q F2 H2 g2⟩
  | er c => exact q
  | bad => exact q
theorem eo_some' {i : Int} (h : Ev ce E te σ F H (rv K) (.ok i)) : EvO ce E (tPart te) σ F H (.ok (some i)) := eo_some (m := .ok i) h
theorem em_sl {tl th : TO} {m1 : M (List α)} {m2 m3 : M (Option Int)} (ha : Ev ce E ta σ F H (rv K) m1) (hl : EvO ce E tl σ F H m2) (hh : EvO ce E th σ F H m3) :
    Ev ce E (tSl (rSlL K) ta tl th) σ F H (rn K) (m1.bind fun x => m2.bind fun lo => m3.bind fun hi => .ok (cut x lo hi)) := fun F1 H1 g1 Q q => by
  refine ha F1 H1 g1 _ ?_
  cases m1 with
  | ok x =>
    rintro F2 H2 vx g2 ⟨a, vs, e1, e2, e3⟩
    refine hl F2 H2 (g1.tr g2) _ ?_
    cases m2 with
    | ok lo =>
      intro F3 H3 g3
      refine hh F3 H3 ((g1.tr g2).tr g3) _ ?_
      cases m3 with
      | ok hi =>
        intro F4 H4 g4
        refine ⟨a, vs, e1, SqL.of (g4.hh _ _ (g3.hh _ _ (g2.fh _ _ e2))), fun p np => ?_⟩
        exact q F4 _ _ (((g2.tr g3).tr g4).tr (Gr.own g4.fh np)) ⟨p, _, rfl, ex_back ((g2.hh.tr g3.hh).tr g4.hh) np, ex_back g4.fh np, upd_same, paired_cut (paired_mo (g3.ff.tr g4.ff) e3) lo hi⟩
      | er c => exact fun H' e => q H' ((g2.tr g3).hh.tr e)
      | bad => exact q
    | er c => exact fun H' e => q H' (g2.hh.tr e)
    | bad => exact q
  | er c => exact q
  | bad => exact q
/-- a slice of the script -/
theorem em_slS {tl th : TO} {x : Scr} {m2 m3 : M (Option Int)} (ha : Ev ce E ta σ F H (rv K) (.ok x)) (hl : EvO ce E tl σ F H m2) (hh : EvO ce E th σ F H m3) :
    Ev ce E (tSl (rSlL K) ta tl th) σ F H (rn K) (m2.bind fun lo => m3.bind fun hi => .ok (cut x.l lo hi)) := fun F1 H1 g1 Q q => by
  refine ha F1 H1 g1 _ ?_
  rintro F2 H2 vx g2 ⟨a, e1, e2⟩
  refine hl F2 H2 (g1.tr g2) _ ?_
  cases m2 with
  | ok lo =>
    intro F3 H3 g3
    refine hh F3 H3 ((g1.tr g2).tr g3) _ ?_
    cases m3 with
    | ok hi =>
      intro F4 H4 g4
      refine ⟨a, _, e1, ex_l ((g2.fh.tr g3.hh).tr g4.hh) e2, fun p np => ?_⟩
      exact q F4 _ _ (((g2.tr g3).tr g4).tr (Gr.own g4.fh np)) ⟨p, _, rfl, ex_back ((g2.hh.tr g3.hh).tr g4.hh) np, ex_back g4.fh np, upd_same, paired_cut (rep_int x.l) lo hi⟩
    | er c => exact fun H' e => q H' ((g2.tr g3).hh.tr e)
    | bad => exact q
  | er c => exact fun H' e => q H' (g2.hh.tr e)
  | bad => exact q
theorem em_rev {m1 : M (List α)} (ha : Ev ce E ta σ F H (rv K) m1) : Ev ce E (tRevL K ta) σ F H (rn K) (m1.bind fun x => .ok x.reverse) := fun F1 H1 g1 Q q => by
  refine ha F1 H1 g1 _ ?_
  cases m1 with
  | ok x =>
    rintro F2 H2 vx g2 ⟨a, vs, e1, e2, e3⟩
    refine ⟨a, vs, e1, SqL.of (g2.fh _ _ e2), fun p np => ?_⟩
    exact q F2 _ _ (g2.tr (Gr.own g2.fh np)) ⟨p, _, rfl, ex_back g2.hh np, ex_back g2.fh np, upd_same, paired_rev e3⟩
  | er c => exact q
  | bad => exact q
def catM {α : Type} (xs ys : List α) : M (List α) := chk (xs.length + ys.length ≤ 16000000) (xs ++ ys)
theorem o_cat {xs ys : List α} : Op2 ce E K rCat (rn K) xs ys (catM xs ys) := fun F1 H1 vx vy e ⟨a, vs, h1, h2, h3⟩ ⟨b, ws, k1, k2, k3⟩ Q q => by
  unfold catM chk at q
  split at q
  · rename_i hc
    refine ⟨a, b, vs, ws, h1, k1, e _ _ h2, e _ _ k2, ?_, fun p np => ?_⟩
    · rw [Paired.length h3, Paired.length k3, sizeLine_eq]; omega
    · exact q F1 _ _ (Gr.own e np) ⟨p, _, rfl, np, ex_back e np, upd_same, paired_app h3 k3⟩
  · exact q.elim
theorem paired_flat {F : V → α → Prop} {vs : List V} {xs : List α} (h : Paired F vs xs) : ∀ n : Nat, Paired F (List.replicate n vs).flatten (List.replicate n xs).flatten
  | 0 => .nil
  | n + 1 => by
    rw [List.replicate_succ, List.replicate_succ, List.flatten_cons, List.flatten_cons]
    exact paired_app h (paired_flat h n)
def repM {α : Type} (xs : List α) (k : Int) : M (List α) := chk (-(2 ^ 63) ≤ k ∧ k < 2 ^ 63 ∧ xs.length * k.toNat ≤ 16000000) (List.replicate k.toNat xs).flatten
theorem o_rep {xs : List α} {k : Int} : Op2 ce E K rRep (rn K) xs k (repM xs k) := fun F1 H1 vx vy e ⟨a, vs, h1, h2, h3⟩ ry Q q => by
  cases ry
  unfold repM chk at q
  split at q
  · rename_i hc
    refine ⟨a, k, vs, h1, rfl, e _ _ h2, hc.1, hc.2.1, ?_, fun p np => ?_⟩
    · rw [Paired.length h3, sizeLine_eq]; omega
    · exact q F1 _ _ (Gr.own e np) ⟨p, _, rfl, np, ex_back e np, upd_same, paired_flat h3 _⟩
  · exact q.elim

/-! ### == of data -/
class Dat (α : Type) [Rep α] [DecidableEq α] where
  dat : α → PyData
  deep : Nat
  dp : ∀ {K : PySem.W.Frag} {H : Hp} {v : V} {x : α}, rp K H v x → Dp K H v (dat x)
  cl : ∀ x, (dat x).canLay0 = true
  de : ∀ x, (dat x).depth ≤ deep
  eq : ∀ x y, PyData.eqv (dat x) (dat y) = decide (x = y)
end
instance : Dat Int := ⟨fun i => .int i, 0, fun {K H v x} h => by cases h; exact .int x, fun _ => rfl, fun _ => Nat.le_refl _, fun x y => by simp only [PyData.eqv]; rw [Bool.eq_iff_iff]; simp⟩
instance : Dat Bool := ⟨fun i => .bool i, 0, fun {K H v x} h => by cases h; exact .bl x, fun _ => rfl, fun _ => Nat.le_refl _, fun x y => by simp only [PyData.eqv]; rw [Bool.eq_iff_iff]; simp⟩
/-- what is told apart from None -/
class NotN (α : Type) [Rep α] [DecidableEq α] [Dat α] : Prop where
  nn : ∀ x : α, PyData.eqv .none (Dat.dat x) = false ∧ PyData.eqv (Dat.dat x) .none = false
instance : NotN Int := ⟨fun x => ⟨by show PyData.eqv .none (.int x) = false; simp [PyData.eqv], by show PyData.eqv (.int x) .none = false; simp [PyData.eqv]⟩⟩
instance : NotN Bool := ⟨fun x => ⟨by show PyData.eqv .none (.bool x) = false; simp [PyData.eqv], by show PyData.eqv (.bool x) .none = false; simp [PyData.eqv]⟩⟩
instance {α : Type} [Rep α] [DecidableEq α] [Dat α] [NotN α] : Dat (Option α) where
  dat := fun x => match x with
    | none => .none
    | some y => Dat.dat y
  deep := Dat.deep α
  dp := fun {K H v x} h => by
    cases x with
    | none => cases h; exact .non
    | some y => exact Dat.dp h.1
  cl := fun x => by cases x with
    | none => rfl
    | some y => exact Dat.cl y
  de := fun x => by cases x with
    | none => exact Nat.zero_le _
    | some y => exact Dat.de y
  eq := fun x y => by
    cases x with
    | none => cases y with
      | none => simp [PyData.eqv]
      | some b => simpa using (NotN.nn b).1
    | some a => cases y with
      | none => simpa using (NotN.nn a).2
      | some b => simpa using Dat.eq a b
theorem dpAll_of {α : Type} [Rep α] [DecidableEq α] [Dat α] {K : PySem.W.Frag} {H : Hp} : ∀ {vs : List V} {xs : List α}, Paired (rp K H) vs xs → DpAll K H vs (xs.map Dat.dat)
  | _, _, .nil => .nil
  | _, _, .cons h t => .cons (Dat.dp h) (dpAll_of t)
theorem clAll {α : Type} [Rep α] [DecidableEq α] [Dat α] : ∀ xs : List α, PyData.canLayAll0 (xs.map Dat.dat) = true
  | [] => by simp [PyData.canLayAll0]
  | x :: r => by simp [PyData.canLayAll0, Dat.cl x, clAll r]
theorem deAll {α : Type} [Rep α] [DecidableEq α] [Dat α] : ∀ xs : List α, PyData.depthAll (xs.map Dat.dat) ≤ Dat.deep α
  | [] => Nat.zero_le _
  | x :: r => by
    show max (PyData.depth (Dat.dat x)) (PyData.depthAll (r.map Dat.dat)) ≤ _
    exact Nat.max_le.mpr ⟨Dat.de x, deAll r⟩
theorem eqAll {α : Type} [Rep α] [DecidableEq α] [Dat α] : ∀ xs ys : List α, PyData.eqvAll (xs.map Dat.dat) (ys.map Dat.dat) = decide (xs = ys)
  | [], [] => by simp [PyData.eqvAll]
  | [], _ :: _ => by simp [PyData.eqvAll]
  | _ :: _, [] => by simp [PyData.eqvAll]
  | x :: r, y :: s => by
    simp only [List.map_cons, PyData.eqvAll, Dat.eq x y, eqAll r s, List.cons.injEq]
    simp
instance {α : Type} [Rep α] [DecidableEq α] [Dat α] : Dat (List α) where
  dat := fun xs => .list (xs.map Dat.dat)
  deep := Dat.deep α + 1
  dp := fun {K H v x} ⟨a, vs, h1, h2, h3⟩ => by subst h1; exact .lst (SqL.of h2) (dpAll_of h3)
  cl := fun xs => by simpa [PyData.canLay0] using clAll xs
  de := fun xs => by
    show PyData.depthAll (xs.map Dat.dat) + 1 ≤ _
    exact Nat.succ_le_succ (deAll xs)
  eq := fun xs ys => by simpa [PyData.eqv] using eqAll xs ys
instance {α : Type} [Rep α] [DecidableEq α] [Dat α] : NotN (List α) := ⟨fun x => ⟨by show PyData.eqv .none (.list _) = false; simp [PyData.eqv], by show PyData.eqv (.list _) .none = false; simp [PyData.eqv]⟩⟩
instance {α β : Type} [Rep α] [Rep β] [DecidableEq α] [DecidableEq β] [Dat α] [Dat β] : Dat (α × β) where
  dat := fun x => .tuple [Dat.dat x.1, Dat.dat x.2]
  deep := max (Dat.deep α) (Dat.deep β) + 1
  dp := fun {K H v x} ⟨a, u, w, h1, h2, h3, h4⟩ => by subst h1; exact .tup h2 (.cons (Dat.dp h3) (.cons (Dat.dp h4) .nil))
  cl := fun x => by simp [PyData.canLay0, PyData.canLayAll0, Dat.cl]
  de := fun x => by
    show max (PyData.depth _) (max (PyData.depth _) 0) + 1 ≤ _
    have h1 := Dat.de x.1
    have h2 := Dat.de x.2
    omega
  eq := fun x y => by
    obtain ⟨x1, x2⟩ := x
    obtain ⟨y1, y2⟩ := y
    simp only [PyData.eqv, PyData.eqvAll, Dat.eq, Bool.and_true, Prod.mk.injEq]
    simp
instance {α β : Type} [Rep α] [Rep β] [DecidableEq α] [DecidableEq β] [Dat α] [Dat β] : NotN (α × β) := ⟨fun x => ⟨by show PyData.eqv .none (.tuple _) = false; simp [PyData.eqv], by show PyData.eqv (.tuple _) .none = false; simp [PyData.eqv]⟩⟩
instance {α β γ : Type} [Rep α] [Rep β] [Rep γ] [DecidableEq α] [DecidableEq β] [DecidableEq γ] [Dat α] [Dat β] [Dat γ] : Dat (T3 α β γ) where
  dat := fun x => .tuple [Dat.dat x.a, Dat.dat x.b, Dat.dat x.c]
  deep := max (Dat.deep α) (max (Dat.deep β) (Dat.deep γ)) + 1
  dp := fun {K H v x} ⟨a, u, w, z, h1, h2, h3, h4, h5⟩ => by subst h1; exact .tup h2 (.cons (Dat.dp h3) (.cons (Dat.dp h4) (.cons (Dat.dp h5) .nil)))
  cl := fun x => by simp [PyData.canLay0, PyData.canLayAll0, Dat.cl]
  de := fun x => by
    show max (PyData.depth _) (max (PyData.depth _) (max (PyData.depth _) 0)) + 1 ≤ _
    have h1 := Dat.de x.a
    have h2 := Dat.de x.b
    have h3 := Dat.de x.c
    omega
  eq := fun x y => by
    obtain ⟨x1, x2, x3⟩ := x
    obtain ⟨y1, y2, y3⟩ := y
    simp only [PyData.eqv, PyData.eqvAll, Dat.eq, Bool.and_true, T3.mk.injEq]
    simp
instance {α β γ : Type} [Rep α] [Rep β] [Rep γ] [DecidableEq α] [DecidableEq β] [DecidableEq γ] [Dat α] [Dat β] [Dat γ] : NotN (T3 α β γ) := ⟨fun x => ⟨by show PyData.eqv .none (.tuple _) = false; simp [PyData.eqv], by show PyData.eqv (.tuple _) .none = false; simp [PyData.eqv]⟩⟩
section
variable {ρ α β γ δ : Type} [Rep α] [Rep β] [Rep γ] [Rep δ] {ce : Ce} {E : XK} {K : PySem.W.Frag} {σ : L2.St} {F H F' H' : Hp} {te ta tb tc td : TE} {tt tu : TT} {md : Md ρ} {m : M ρ}
theorem shaped_of [DecidableEq α] [Dat α] (h : Dat.deep α ≤ 64) (x : α) : SeqAt.shaped (Dat.dat x) = true := by
  unfold SeqAt.shaped
  rw [Dat.cl x]
  exact decide_eq_true (Nat.le_trans (Dat.de x) h)
theorem o_eqD [DecidableEq α] [Dat α] {x y : α} (h : Dat.deep α ≤ 64) : Op2 ce E K (rEqD K) (rv K) x y (.ok (decide (x = y))) := fun F1 H1 vx vy e rx ry Q q => by
  refine ⟨Dat.dat x, Dat.dat y, Dat.dp (Rep.mo e rx), Dat.dp (Rep.mo e ry), shaped_of h x, shaped_of h y, ?_⟩
  rw [Dat.eq]
  exact q F1 H1 _ (Gr.rf e) rfl
theorem o_neD [DecidableEq α] [Dat α] {x y : α} (h : Dat.deep α ≤ 64) : Op2 ce E K (rNeD K) (rv K) x y (.ok (!decide (x = y))) := fun F1 H1 vx vy e rx ry Q q => by
  refine ⟨Dat.dat x, Dat.dat y, Dat.dp (Rep.mo e rx), Dat.dp (Rep.mo e ry), shaped_of h x, shaped_of h y, ?_⟩
  rw [Dat.eq]
  exact q F1 H1 _ (Gr.rf e) rfl
/-- x == y where the one may be None -/
theorem o_eqDo [DecidableEq α] [Dat α] [NotN α] {x : Option α} {y : α} (h : Dat.deep α ≤ 64) : Op2 ce E K (rEqD K) (rv K) x y (.ok (decide (x = some y))) := fun F1 H1 vx vy e rx ry Q q => by
  refine ⟨Dat.dat x, Dat.dat y, Dat.dp (Rep.mo e rx), Dat.dp (Rep.mo e ry), shaped_of (α := Option α) h x, shaped_of h y, ?_⟩
  rw [show PyData.eqv (Dat.dat x) (Dat.dat y) = decide (x = some y) from Dat.eq x (some y)]
  exact q F1 H1 _ (Gr.rf e) rfl
theorem o_neDo [DecidableEq α] [Dat α] [NotN α] {x : Option α} {y : α} (h : Dat.deep α ≤ 64) : Op2 ce E K (rNeD K) (rv K) x y (.ok (!decide (x = some y))) := fun F1 H1 vx vy e rx ry Q q => by
  refine ⟨Dat.dat x, Dat.dat y, Dat.dp (Rep.mo e rx), Dat.dp (Rep.mo e ry), shaped_of (α := Option α) h x, shaped_of h y, ?_⟩
  rw [show PyData.eqv (Dat.dat x) (Dat.dat y) = decide (x = some y) from Dat.eq x (some y)]
  exact q F1 H1 _ (Gr.rf e) rfl
theorem o_eqI {x y : Int} : Op2 ce E K rEq (rv K) x y (.ok (decide (x = y))) := fun F1 H1 vx vy e rx ry Q q => by
  cases rx; cases ry
  refine ⟨rfl, ?_⟩
  have : decide (V.int x = V.int y) = decide (x = y) := by rw [Bool.eq_iff_iff]; simp
  rw [this]
  exact q F1 H1 _ (Gr.rf e) rfl
theorem o_neI {x y : Int} : Op2 ce E K rNe (rv K) x y (.ok (!decide (x = y))) := fun F1 H1 vx vy e rx ry Q q => by
  cases rx; cases ry
  refine ⟨rfl, ?_⟩
  have : decide (V.int x = V.int y) = decide (x = y) := by rw [Bool.eq_iff_iff]; simp
  rw [this]
  exact q F1 H1 _ (Gr.rf e) rfl
theorem o_eqB {x y : Bool} : Op2 ce E K rEq (rv K) x y (.ok (decide (x = y))) := fun F1 H1 vx vy e rx ry Q q => by
  cases rx; cases ry
  refine ⟨rfl, ?_⟩
  have : decide (V.bl x = V.bl y) = decide (x = y) := by rw [Bool.eq_iff_iff]; simp
  rw [this]
  exact q F1 H1 _ (Gr.rf e) rfl
theorem o_neB {x y : Bool} : Op2 ce E K rNe (rv K) x y (.ok (!decide (x = y))) := fun F1 H1 vx vy e rx ry Q q => by
  cases rx; cases ry
  refine ⟨rfl, ?_⟩
  have : decide (V.bl x = V.bl y) = decide (x = y) := by rw [Bool.eq_iff_iff]; simp
  rw [this]
  exact q F1 H1 _ (Gr.rf e) rfl
theorem o_eqS {x y : Str} : Op2 ce E K rEq (rv K) x y (.ok (decide (x = y))) := fun F1 H1 vx vy e rx ry Q q => by
  cases rx; cases ry
  refine ⟨rfl, ?_⟩
  have : decide (V.str x = V.str y) = decide (x = y) := by rw [Bool.eq_iff_iff]; simp
  rw [this]
  exact q F1 H1 _ (Gr.rf e) rfl
theorem o_neS {x y : Str} : Op2 ce E K rNe (rv K) x y (.ok (!decide (x = y))) := fun F1 H1 vx vy e rx ry Q q => by
  cases rx; cases ry
  refine ⟨rfl, ?_⟩
  have : decide (V.str x = V.str y) = decide (x = y) := by rw [Bool.eq_iff_iff]; simp
  rw [this]
  exact q F1 H1 _ (Gr.rf e) rfl
/-- x is None, x is not None -/
def rIsN : R2 := fun x y H Q => y = .non ∧ Q (.bl (decide (x = .non))) H
def rNotN : R2 := fun x y H Q => y = .non ∧ Q (.bl (!decide (x = .non))) H
theorem o_isN {x : Option α} : Op2 ce E K rIsN (rv K) x () (.ok (!x.isSome)) := fun F1 H1 vx vy e rx ry Q q => by
  cases ry
  refine ⟨rfl, ?_⟩
  have : decide (vx = V.non) = !x.isSome := by
    cases x with
    | none => cases rx; rfl
    | some y => exact decide_eq_false rx.2
  rw [this]
  exact q F1 H1 _ (Gr.rf e) rfl
theorem o_notN {x : Option α} : Op2 ce E K rNotN (rv K) x () (.ok x.isSome) := fun F1 H1 vx vy e rx ry Q q => by
  cases ry
  refine ⟨rfl, ?_⟩
  have : (!decide (vx = V.non)) = x.isSome := by
    cases x with
    | none => cases rx; rfl
    | some y => rw [decide_eq_false rx.2] <;> rfl
  rw [this]
  exact q F1 H1 _ (Gr.rf e) rfl
theorem o_isU {x : Unit} : Op2 ce E K rIsN (rv K) x () (.ok true) := fun F1 H1 vx vy e rx ry Q q => by
  cases ry; cases rx
  exact ⟨rfl, q F1 H1 _ (Gr.rf e) rfl⟩
theorem o_notU {x : Unit} : Op2 ce E K rNotN (rv K) x () (.ok false) := fun F1 H1 vx vy e rx ry Q q => by
  cases ry; cases rx
  exact ⟨rfl, q F1 H1 _ (Gr.rf e) rfl⟩
/-- a value that may be None -/
class NN (α : Type) [Rep α] : Prop where
  nn : ∀ {K : PySem.W.Frag} {H : Hp} {v : V} {x : α}, rp K H v x → v ≠ .non
instance : NN Int := ⟨fun h => by cases h; exact fun z => nomatch z⟩
instance : NN Bool := ⟨fun h => by cases h; exact fun z => nomatch z⟩
instance : NN Str := ⟨fun h => by cases h; exact fun z => nomatch z⟩
instance : NN (List α) := ⟨fun ⟨a, vs, h1, _⟩ => by subst h1; exact fun z => nomatch z⟩
instance : NN (α × β) := ⟨fun ⟨a, u, w, h1, _⟩ => by subst h1; exact fun z => nomatch z⟩
instance : NN (T3 α β γ) := ⟨fun ⟨a, u, w, z, h1, _⟩ => by subst h1; exact fun z => nomatch z⟩
instance : NN (T4 α β γ δ) := ⟨fun ⟨a, u, w, z, y, h1, _⟩ => by subst h1; exact fun z => nomatch z⟩
theorem em_some [NN α] {m : M α} (h : Ev ce E te σ F H (rv K) m) : Ev ce E te σ F H (rv K) (m.bind fun x => .ok (some x)) := fun F1 H1 g1 Q q => by
  refine h F1 H1 g1 _ ?_
  cases m with
  | ok x => exact fun F2 H2 v g2 r => q F2 H2 v g2 ⟨r, NN.nn r⟩
  | er c => exact q
  | bad => exact q
/-- what is not None -/
def getM {α : Type} (x : Option α) : M α := match x with
  | some y => .ok y
  | none => .bad
theorem em_get {m : M (Option α)} (h : Ev ce E te σ F H (rv K) m) : Ev ce E te σ F H (rv K) (m.bind getM) := fun F1 H1 g1 Q q => by
  refine h F1 H1 g1 _ ?_
  cases m with
  | ok x =>
    cases x with
    | none => exact q.elim
    | some y => exact fun F2 H2 v g2 r => q F2 H2 v g2 r.1
  | er c => exact q
  | bad => exact q

/-! ### in a list -/
theorem inV_int (x : Int) : ∀ xs : List Int, inV (.int x) (xs.map V.int) = decide (x ∈ xs)
  | [] => by simp [inV]
  | y :: r => by
    have ih := inV_int x r
    unfold inV at ih ⊢
    rw [List.map_cons, List.any_cons, ih]
    have : eqV (V.int y) (V.int x) = decide (x = y) := by
      show (y == x) = decide (x = y)
      rw [Bool.eq_iff_iff, beq_iff_eq, decide_eq_true_eq]
      exact ⟨Eq.symm, Eq.symm⟩
    rw [this, Bool.eq_iff_iff]
    simp
theorem flat_ints : ∀ xs : List Int, (xs.map V.int).all flatV = true
  | [] => rfl
  | _ :: r => by rw [List.map_cons, List.all_cons, flat_ints r] <;> rfl
theorem o_in {x : Int} {xs : List Int} : Op2 ce E K (rIn K false) (rv K) x xs (.ok (decide (x ∈ xs))) := fun F1 H1 vx vy e rx ⟨a, vs, h1, h2, h3⟩ Q q => by
  cases rx
  have := paired_int h3
  subst this
  subst h1
  refine ⟨a, _, rfl, .inl (SqL.of (e _ _ h2)), rfl, flat_ints _, ?_⟩
  show Q (V.bl (if false = true then _ else _)) H1
  rw [if_neg Bool.false_ne_true, inV_int]
  exact q F1 H1 _ (Gr.rf e) rfl
theorem o_notIn {x : Int} {xs : List Int} : Op2 ce E K (rIn K true) (rv K) x xs (.ok (!decide (x ∈ xs))) := fun F1 H1 vx vy e rx ⟨a, vs, h1, h2, h3⟩ Q q => by
  cases rx
  have := paired_int h3
  subst this
  subst h1
  refine ⟨a, _, rfl, .inl (SqL.of (e _ _ h2)), rfl, flat_ints _, ?_⟩
  show Q (V.bl (if true = true then _ else _)) H1
  rw [if_pos rfl, inV_int]
  exact q F1 H1 _ (Gr.rf e) rfl

/-! ### sorted ints -/
def insI (x : Int) : List Int → List Int
  | [] => [x]
  | y :: r => if x ≤ y then x :: y :: r else y :: insI x r
def sortI : List Int → List Int
  | [] => []
  | x :: r => insI x (sortI r)
theorem insI_perm (x : Int) : ∀ xs, (insI x xs).Perm (x :: xs)
  | [] => List.Perm.refl _
  | y :: r => by
    unfold insI
    split
    · exact List.Perm.refl _
    · exact (List.Perm.cons y (insI_perm x r)).trans (List.Perm.swap x y r)
theorem sortI_perm : ∀ xs, (sortI xs).Perm xs
  | [] => List.Perm.refl _
  | x :: r => (insI_perm x _).trans (List.Perm.cons x (sortI_perm r))
theorem insI_sorted (x : Int) : ∀ {xs : List Int}, xs.Pairwise (· ≤ ·) → (insI x xs).Pairwise (· ≤ ·)
  | [], _ => List.pairwise_singleton _ _
  | y :: r, h => by
    unfold insI
    have hy := List.pairwise_cons.mp h
    split
    · rename_i c
      refine List.pairwise_cons.mpr ⟨fun z hz => ?_, h⟩
      rcases List.mem_cons.mp hz with rfl | hz
      · exact c
      · exact Int.le_trans c (hy.1 z hz)
    · rename_i c
      refine List.pairwise_cons.mpr ⟨fun z hz => ?_, insI_sorted x hy.2⟩
      rcases List.mem_cons.mp ((insI_perm x r).mem_iff.mp hz) with rfl | hz
      · omega
      · exact hy.1 z hz
theorem sortI_sorted : ∀ xs : List Int, (sortI xs).Pairwise (· ≤ ·)
  | [] => List.Pairwise.nil
  | x :: r => insI_sorted x (sortI_sorted r)
theorem sorted_same : ∀ {xs ys : List Int}, xs.Perm ys → xs.Pairwise (· ≤ ·) → ys.Pairwise (· ≤ ·) → xs = ys
  | [], ys, p, _, _ => (List.Perm.nil_eq p)
  | x :: r, [], p, _, _ => absurd p.length_eq (by simp)
  | x :: r, y :: s, p, h1, h2 => by
    have a1 := List.pairwise_cons.mp h1
    have a2 := List.pairwise_cons.mp h2
    have e : x = y := by
      have m1 : x ∈ y :: s := p.mem_iff.mp List.mem_cons_self
      have m2 : y ∈ x :: r := p.mem_iff.mpr List.mem_cons_self
      rcases List.mem_cons.mp m1 with rfl | m1
      · rfl
      · rcases List.mem_cons.mp m2 with rfl | m2
        · rfl
        · have := a1.1 y m2
          have := a2.1 x m1
          omega
    subst e
    rw [sorted_same (List.Perm.cons_inv p) a1.2 a2.2]
theorem a_sorted {xs : List Int} : OpA ce E (RC K R0) (rSortedI K) (rn K) (xs, ()) (.ok (sortI xs)) := fun F1 H1 vs e ⟨v, r, e1, ⟨a, us, h1, h2, h3⟩, e3⟩ Q q => by
  cases e3
  subst e1 h1
  have := paired_int h3
  subst this
  refine ⟨a, xs, rfl, SqL.of (e _ _ h2), fun ns p hp hs np => ?_⟩
  have : ns = sortI xs := sorted_same (hp.trans (sortI_perm xs).symm) hs (sortI_sorted xs)
  subst this
  exact q F1 _ _ (Gr.own e np) ⟨p, _, rfl, np, ex_back e np, upd_same, rep_int _⟩

/-! ### isinstance, by the types -/
theorem a_isI {n : String} {b : Bool} {x : Int} (hb : PySem.W.kitOne K (.type "int") (.type n) = some b) : OpA ce E (fun F vs (x : Int) => vs = [.int x, .ty n]) (rIsi K) (rv K) x (.ok b) := fun F1 H1 vs e h Q q => by
  subst h
  exact ⟨.int x, .ty n, _, _, b, rfl, .ty n, .base (.int x), hb, q F1 H1 _ (Gr.rf e) rfl⟩
end
end Mw

set_option Elab.async false
set_option linter.all false
set_option maxRecDepth 100000
set_option maxHeartbeats 2000000
/-! Mw, part D: statements, loops, comprehensions, defs. -/
namespace Mw
open PySem L2
open Rep (rp)
/-! ### what is left to be done -/
def Wp {τ : Type} (ce : Ce) (E : XK) (H0 : Hp) (m : M τ) (P : τ → Prop) : Prop :=
  match m with
  | .ok r => P r
  | .er c => ∀ H', Ex H0 H' → E (.ref (ce c.name)) none H'
  | .bad => False
def Fin {ρ : Type} (md : Md ρ) (F0 H0 : Hp) (Q : VK) : ρ → Prop := fun r => ∀ F' H' v, Gr F0 H0 F' H' → md F0 H0 F' H' v r → Q v H'
theorem wp_post {ρ : Type} {ce : Ce} {md : Md ρ} {m : M ρ} {F H : Hp} {Q : VK} {E : XK} (h : Post ce md m F H Q E) : Wp ce E H m (Fin md F H Q) := by
  cases m with
  | ok r => exact h
  | er c => exact h
  | bad => exact h
inductive Ctl (S τ : Type) where
  | nx (s : S)
  | br (s : S)
  | rt (r : τ)
def forM {α S τ : Type} (f : α → S → M (Ctl S τ)) (k : S → M τ) : List α → S → M τ
  | [], s => k s
  | x :: r, s => (f x s).bind fun c => match c with
    | .nx s' => forM f k r s'
    | .br s' => k s'
    | .rt r => .ok r
def whM {S τ : Type} (c : S → M Bool) (f : S → M (Ctl S τ)) (k : S → M τ) : Nat → S → M τ
  | 0, _ => .bad
  | n + 1, s => (c s).bind fun b => if b then (f s).bind fun z => match z with
    | .nx s' => whM c f k n s'
    | .br s' => k s'
    | .rt r => .ok r else k s
theorem forM_nil {α S τ : Type} (f : α → S → M (Ctl S τ)) (k : S → M τ) (s : S) : forM f k [] s = k s := rfl
theorem forM_cons {α S τ : Type} (f : α → S → M (Ctl S τ)) (k : S → M τ) (x : α) (r : List α) (s : S) : forM f k (x :: r) s = (f x s).bind fun c => match c with
    | .nx s' => forM f k r s'
    | .br s' => k s'
    | .rt r => .ok r := rfl
/-! ### comprehensions -/
def M.ne {α : Type} : M α → M α
  | .ok a => .ok a
  | _ => .bad
@[simp] theorem ne_ok {α : Type} (a : α) : (M.ok a).ne = .ok a := rfl
def compM {α β : Type} (c : α → M Bool) (e : α → M β) : List α → M (List β)
  | [] => .ok []
  | x :: r => (c x).ne.bind fun b => if b then (e x).ne.bind fun y => (compM c e r).bind fun ys => .ok (y :: ys) else compM c e r
def lcM {α β : Type} (c : α → M Bool) (e : α → M β) (xs : List α) : M (List β) := if xs.length ≤ 16000000 then compM c e xs else .bad
theorem compM_ok {α β : Type} (c : α → Bool) (e : α → β) : ∀ xs : List α, compM (fun x => .ok (c x)) (fun x => .ok (e x)) xs = .ok ((xs.filter c).map e)
  | [] => rfl
  | x :: r => by
    show (if c x = true then ((compM _ _ r).bind fun ys => M.ok (e x :: ys)) else compM _ _ r) = _
    rw [compM_ok c e r, List.filter_cons]
    split
    · rfl
    · rfl
theorem compM_all {α β : Type} (e : α → β) : ∀ xs : List α, compM (fun _ => .ok true) (fun x => .ok (e x)) xs = .ok (xs.map e)
  | [] => rfl
  | x :: r => by
    show ((compM _ _ r).bind fun ys => M.ok (e x :: ys)) = _
    rw [compM_all e r]
    rfl
theorem compM_congr {α β : Type} {c c' : α → M Bool} {e e' : α → M β} : ∀ {xs : List α}, (∀ x ∈ xs, c x = c' x) → (∀ x ∈ xs, c x = .ok true → e x = e' x) → compM c e xs = compM c' e' xs
  | [], _, _ => rfl
  | x :: r, h1, h2 => by
    have ih := compM_congr (xs := r) (fun y hy => h1 y (List.mem_cons_of_mem _ hy)) (fun y hy => h2 y (List.mem_cons_of_mem _ hy))
    unfold compM
    rw [ih, ← h1 x List.mem_cons_self]
    have h2' := h2 x List.mem_cons_self
    cases q : c x with
    | ok b =>
      cases b with
      | true => rw [h2' q]
      | false => rfl
    | er _ => rfl
    | bad => rfl
/-! ### what is walked -/
def Sq (K : PySem.W.Frag) {α : Type} [Rep α] (F : Hp) (J : It) (xs : List α) : Prop := ∀ i H, Ex F H →
  (∀ x, xs[i]? = some x → J.go i H ∧ ∀ v H', J.yld i H v H' → ∀ F1, Ex F F1 → Ex F1 H → ∃ F2, Gr F1 H F2 H' ∧ rp K F2 v x) ∧ (xs.length ≤ i → J.stop i H)
def EvI (ce : Ce) (E : XK) (K : PySem.W.Frag) {α : Type} [Rep α] (wi : TI) (σ : L2.St) (F H : Hp) (m : M (List α)) : Prop := ∀ F1 H1, Gr F H F1 H1 → ∀ R : It → Hp → Prop,
  Wp ce E H1 m (fun xs => ∀ F2 H2 J, Gr F1 H1 F2 H2 → Sq K F2 J xs → R J H2) → wi σ H1 R
section
variable {ρ α β γ δ S τ : Type} [Rep α] [Rep β] [Rep γ] [Rep δ] {ce : Ce} {E : XK} {K : PySem.W.Frag} {σ : L2.St} {F H F' H' F0 H0 : Hp} {te ta tb tc td : TE} {tt tu : TT} {md : Md ρ} {m : M ρ} {D : Ends} {ts tw : TS} {g : TG} {wi : TI} {P : τ → Prop}
theorem sq_list {a : Addr} {vs : List V} {xs : List α} (h : SqL K F a vs) (p : Paired (rp K F) vs xs) : Sq K F (Itl K a) xs := fun i H e => by
  have hl := Paired.length p
  refine ⟨fun x hx => ?_, fun hi => ⟨vs, ex_l e h, by omega⟩⟩
  obtain ⟨v, hv, rv'⟩ := paired_get p hx
  refine ⟨⟨vs, v, ex_l e h, hv⟩, fun w H' ⟨e1, e2⟩ F1 f1 f2 => ?_⟩
  subst e1
  have : some v = some w := hv.symm.trans (e2 vs (ex_l e h))
  cases this
  exact ⟨F1, Gr.rf f2, Rep.mo f1 rv'⟩
theorem ei_list {m : M (List α)} (h : Ev ce E te σ F H (rv K) m) : EvI ce E K (iList K te) σ F H m := fun F1 H1 g1 R q => by
  refine h F1 H1 g1 _ ?_
  cases m with
  | ok xs =>
    rintro F2 H2 v g2 ⟨a, vs, rfl, h2, h3⟩
    exact ⟨a, rfl, ⟨vs, SqL.of (g2.fh _ _ h2)⟩, q F2 H2 _ g2 (sq_list (SqL.of h2) h3)⟩
  | er c => exact q
  | bad => exact q
theorem ei_scr {x : Scr} (h : Ev ce E te σ F H (rv K) (.ok x)) : EvI ce E K (iList K te) σ F H (.ok x.l) := fun F1 H1 g1 R q => by
  refine h F1 H1 g1 _ ?_
  rintro F2 H2 v g2 ⟨a, rfl, h2⟩
  exact ⟨a, rfl, ⟨_, ex_l g2.fh h2⟩, q F2 H2 _ g2 (sq_list h2 (rep_int _))⟩
/-- range -/
def rng (lo hi : Int) : List Int := (List.range (hi - lo).toNat).map fun (k : Nat) => lo + (k : Int)
theorem rng_len (lo hi : Int) : (rng lo hi).length = (hi - lo).toNat := by unfold rng; rw [List.length_map, List.length_range]
theorem rng_get (lo hi : Int) (i : Nat) (h : i < (hi - lo).toNat) : (rng lo hi)[i]? = some (lo + (i : Int)) := by
  unfold rng
  rw [List.getElem?_map, List.getElem?_range h]
  rfl
theorem sq_rng {lo hi : Int} : Sq K F (Itr lo (hi - lo).toNat) (rng lo hi) := fun i H e => by
  refine ⟨fun x hx => ?_, fun h => ?_⟩
  · have hi' : i < (hi - lo).toNat := by
      have := (List.getElem?_eq_some_iff.mp hx).1
      rw [rng_len] at this
      exact this
    rw [rng_get _ _ _ hi'] at hx
    cases hx
    refine ⟨hi', fun v H' ⟨e1, e2⟩ F1 f1 f2 => ?_⟩
    subst e1 e2
    exact ⟨F1, Gr.rf f2, rfl⟩
  · rw [rng_len] at h
    exact h
def rng1M (hi : Int) : M (List Int) := chk (-(2 ^ 62) ≤ hi ∧ hi < 2 ^ 62) (rng 0 hi)
def rng2M (lo hi : Int) : M (List Int) := chk (-(2 ^ 62) ≤ lo ∧ lo < 2 ^ 62 ∧ -(2 ^ 62) ≤ hi ∧ hi < 2 ^ 62) (rng lo hi)
theorem ei_rng1 {m : M Int} (h : Ev ce E ta σ F H (rv K) m) : EvI ce E K (iRng1 (tCons ta tNil)) σ F H (m.bind rng1M) := fun F1 H1 g1 R q => by
  refine h F1 H1 g1 _ ?_
  cases m with
  | ok n =>
    intro F2 H2 v g2 r
    cases r
    have q' : Wp ce E H1 (rng1M n) (fun xs => ∀ F2 H2 J, Gr F1 H1 F2 H2 → Sq K F2 J xs → R J H2) := q
    unfold rng1M chk at q'
    by_cases hc : -(2 ^ 62) ≤ n ∧ n < 2 ^ 62
    · rw [if_pos hc] at q'
      refine ⟨n, rfl, hc.1, hc.2, q' F2 H2 _ g2 ?_⟩
      have := sq_rng (K := K) (F := F2) (lo := 0) (hi := n)
      rw [Int.sub_zero] at this
      exact this
    · rw [if_neg hc] at q'
      exact q'.elim
  | er c => exact q
  | bad => exact q
theorem ei_rng2 {m m2 : M Int} (h : Ev ce E ta σ F H (rv K) m) (h2 : Ev ce E tb σ F H (rv K) m2) : EvI ce E K (iRng2 (tCons ta (tCons tb tNil))) σ F H (m.bind fun lo => m2.bind fun hi => rng2M lo hi) := fun F1 H1 g1 R q => by
  refine h F1 H1 g1 _ ?_
  cases m with
  | ok lo =>
    intro F2 H2 v g2 r
    cases r
    refine h2 F2 H2 (g1.tr g2) _ ?_
    cases m2 with
    | ok n =>
      intro F3 H3 v g3 r
      cases r
      have q' : Wp ce E H1 (rng2M lo n) (fun xs => ∀ F2 H2 J, Gr F1 H1 F2 H2 → Sq K F2 J xs → R J H2) := q
      unfold rng2M chk at q'
      by_cases hc : -(2 ^ 62) ≤ lo ∧ lo < 2 ^ 62 ∧ -(2 ^ 62) ≤ n ∧ n < 2 ^ 62
      · rw [if_pos hc] at q'
        exact ⟨lo, n, rfl, hc, q' F3 H3 _ (g2.tr g3) sq_rng⟩
      · rw [if_neg hc] at q'
        exact q'.elim
    | er c => exact fun H' e => q H' (g2.hh.tr e)
    | bad => exact q
  | er c => exact q
  | bad => exact q

/-! ### targets -/
/-- behind the target's store of what x is, from the slots σ0 -/
def Tg (K : PySem.W.Frag) {α : Type} [Rep α] (g : TG) (R : L2.St → Hp → L2.St → α → Prop) : Prop := ∀ σ0 F H v x, Ex F H → rp K F v x → ∀ Q : L2.St → Hp → Prop, (∀ σ2, R σ0 F σ2 x → Q σ2 H) → g v σ0 H Q
def RName (K : PySem.W.Frag) {α : Type} [Rep α] (i : Nat) : L2.St → Hp → L2.St → α → Prop := fun σ0 F σ2 x => ∃ v, σ2 = σ0.set i (some v) ∧ rp K F v x
def RTup2 (K : PySem.W.Frag) {α β : Type} [Rep α] [Rep β] (i j : Nat) : L2.St → Hp → L2.St → α × β → Prop := fun σ0 F σ2 x => ∃ u w, σ2 = (σ0.set i (some u)).set j (some w) ∧ rp K F u x.1 ∧ rp K F w x.2
def RTup3 (K : PySem.W.Frag) {α β γ : Type} [Rep α] [Rep β] [Rep γ] (i j l : Nat) : L2.St → Hp → L2.St → T3 α β γ → Prop := fun σ0 F σ2 x => ∃ u w z, σ2 = ((σ0.set i (some u)).set j (some w)).set l (some z) ∧ rp K F u x.a ∧ rp K F w x.b ∧ rp K F z x.c
theorem tg_name {i : Nat} : Tg K (α := α) (gName i) (RName K i) := fun σ0 F H v x e r Q q => q _ ⟨v, rfl, r⟩
theorem tg_tup2 {i j : Nat} : Tg K (α := α × β) (gTup K 2 (gCons (gName i) (gCons (gName j) gNil))) (RTup2 K i j) := fun σ0 F H v x e ⟨a, u, w, h1, h2, h3, h4⟩ Q q =>
  ⟨a, [u, w], h1, ex_t e h2, rfl, u, [w], rfl, w, [], rfl, rfl, q _ ⟨u, w, rfl, h3, h4⟩⟩
theorem tg_tup3 {i j l : Nat} : Tg K (α := T3 α β γ) (gTup K 3 (gCons (gName i) (gCons (gName j) (gCons (gName l) gNil)))) (RTup3 K i j l) := fun σ0 F H v x e ⟨a, u, w, z, h1, h2, h3, h4, h5⟩ Q q =>
  ⟨a, [u, w, z], h1, ex_t e h2, rfl, u, [w, z], rfl, w, [z], rfl, z, [], rfl, rfl, q _ ⟨u, w, z, rfl, h3, h4, h5⟩⟩
theorem set_set_ne {σ : L2.St} {i j : Nat} {a b : Option V} (h : i ≠ j) : (σ.set i a).set j b = (σ.set j b).set i a := List.set_comm _ _ h
theorem wipe1 {σ : L2.St} {i : Nat} {v : Option V} : wipe ((wipe σ [i]).set i v) [i] = wipe σ [i] := by
  show ((σ.set i none).set i v).set i none = σ.set i none
  rw [List.set_set, List.set_set]
theorem wipe2 {σ : L2.St} {i j : Nat} {v w : Option V} : wipe (((wipe σ [i, j]).set i v).set j w) [i, j] = wipe σ [i, j] := by
  show (((((σ.set j none).set i none).set i v).set j w).set j none).set i none = (σ.set j none).set i none
  apply List.ext_getElem?
  intro n
  simp only [List.getElem?_set, List.length_set]
  by_cases a : i = n
  · subst a; simp
  · by_cases b : j = n
    · subst b; simp [a]
    · simp [a, b]
theorem wipe3 {σ : L2.St} {i j l : Nat} {u v w : Option V} : wipe ((((wipe σ [i, j, l]).set i u).set j v).set l w) [i, j, l] = wipe σ [i, j, l] := by
  show ((((((((σ.set l none).set j none).set i none).set i u).set j v).set l w).set l none).set j none).set i none = ((σ.set l none).set j none).set i none
  apply List.ext_getElem?
  intro n
  simp only [List.getElem?_set, List.length_set]
  by_cases a : i = n
  · subst a; simp
  · by_cases b : j = n
    · subst b; simp [a]
    · by_cases c : l = n
      · subst c; simp [a, b]
      · simp [a, b, c]
/-- [e for x in xs if c] -/
theorem em_lc {vs : List Nat} {m : M (List α)} {c : α → M Bool} {e : α → M β} {R : L2.St → Hp → L2.St → α → Prop} (hi : EvI ce E K wi σ F H m) (hg : Tg K g R)
    (hw : ∀ F σ2 (x : α), R (wipe σ vs) F σ2 x → wipe σ2 vs = wipe σ vs)
    (hc : ∀ x F1 H1 σ2, Gr F H F1 H1 → R (wipe σ vs) F1 σ2 x → EvT ce E0 tt σ2 F1 H1 (c x)) (he : ∀ x F1 H1 σ2, Gr F H F1 H1 → R (wipe σ vs) F1 σ2 x → Ev ce E0 te σ2 F1 H1 (rv K) (e x)) :
    Ev ce E (tLc wi g tt te vs) σ F H (rn K) (m.bind fun xs => lcM c e xs) := fun F1 H1 g1 Q q => by
  refine hi F1 H1 g1 _ ?_
  cases m with
  | er c => exact q
  | bad => exact q
  | ok xs =>
    intro F2 H2 J g2 sq Dl nd
    have q' : Post ce (rn K) (lcM c e xs) F1 H1 Q E := q
    unfold lcM at q'
    have hlen : xs.length ≤ 16000000 := by
      by_cases hlen : xs.length ≤ 16000000
      · exact hlen
      · rw [if_neg hlen] at q'
        exact q'.elim
    rw [if_pos hlen] at q'
    have nf : F2 Dl = none := ex_back g2.fh nd
    have gD : Gr F2 H2 F2 (upd H2 Dl (.lst [])) := Gr.own g2.fh nd
    -- the word: done so far, and what is left
    refine ⟨fun i m H' => m = xs.length - i ∧ i ≤ xs.length ∧ ∃ F' acc ys, Gr F2 H2 F' H' ∧ F' Dl = none ∧ H' Dl = some (.lst acc) ∧ acc.length ≤ i ∧ Paired (rp K F') acc ys ∧
      Post ce (rn K) ((compM c e (xs.drop i)).bind fun zs => .ok (ys ++ zs)) F1 H1 Q E, ⟨xs.length, by omega, Nat.zero_le _, F2, [], [], gD, nf, upd_same, Nat.zero_le _, .nil, ?_⟩, ?_⟩
    · rw [List.drop_zero]
      have : (compM c e xs).bind (fun zs => M.ok ([] ++ zs)) = compM c e xs := by
        cases compM c e xs <;> rfl
      rw [this]
      exact q'
    · rintro i mm H3 ⟨rfl, hi3, F3, acc, ys, g3, nf3, h3, hl3, p3, q3⟩
      have e3 : Ex F2 H3 := g3.ff.tr g3.fh
      by_cases hlt : i < xs.length
      · obtain ⟨x, hx⟩ : ∃ x, xs[i]? = some x := ⟨xs[i], List.getElem?_eq_getElem hlt⟩
        obtain ⟨go, yl⟩ := (sq i H3 e3).1 x hx
        have hd : xs.drop i = x :: xs.drop (i + 1) := by
          rw [List.drop_eq_getElem_cons hlt]
          rw [List.getElem?_eq_getElem hlt] at hx
          cases hx
          rfl
        rw [hd] at q3
        refine .inr ⟨go, fun H' => ∃ F' acc ys, Gr F2 H2 F' H' ∧ F' Dl = none ∧ H' Dl = some (.lst acc) ∧ acc.length ≤ i + 1 ∧ Paired (rp K F') acc ys ∧
          Post ce (rn K) ((compM c e (xs.drop (i + 1))).bind fun zs => .ok (ys ++ zs)) F1 H1 Q E, fun H' h' => ⟨xs.length - (i + 1), by omega, rfl, hlt, h'⟩, fun v H4 hy => ?_⟩
        obtain ⟨F4, g4, r4⟩ := yl v H4 hy F3 g3.ff g3.fh
        have g24 := g3.tr g4
        have gF : Gr F H F4 H4 := (g1.tr g2).tr g24
        refine hg _ F4 H4 v x g4.fh r4 _ fun σ2 hr => ⟨hw F4 σ2 x hr, ?_⟩
        -- the test
        have nf4 : F4 Dl = none := g4.nw Dl nf3 (by rw [h3]; exact fun z => nomatch z)
        have h4 : H4 Dl = some (.lst acc) := g4.hh _ _ h3
        refine hc x F4 H4 σ2 gF hr F4 H4 (Gr.rf g4.fh) _ ?_
        cases qc : c x with
        | er cc => exact (by
            have q3' := q3
            unfold compM at q3'
            rw [qc] at q3'
            exact q3'.elim)
        | bad => exact (by
            have q3' := q3
            unfold compM at q3'
            rw [qc] at q3'
            exact q3'.elim)
        | ok b =>
          intro F5 H5 g5
          have nf5 : F5 Dl = none := g5.nw Dl nf4 (by rw [h4]; exact fun z => nomatch z)
          have h5 : H5 Dl = some (.lst acc) := g5.hh _ _ h4
          cases b with
          | false =>
            show ∃ F' acc ys, _
            refine ⟨F5, acc, ys, g24.tr g5, nf5, h5, by omega, paired_mo (g4.ff.tr g5.ff) p3, ?_⟩
            have q3' := q3
            unfold compM at q3'
            rw [qc] at q3'
            exact q3'
          | true =>
            show te σ2 H5 _
            refine he x F4 H4 σ2 gF hr F5 H5 g5 _ ?_
            cases qe : e x with
            | er cc => exact (by
                have q3' := q3
                unfold compM at q3'
                rw [qc, qe] at q3'
                exact q3'.elim)
            | bad => exact (by
                have q3' := q3
                unfold compM at q3'
                rw [qc, qe] at q3'
                exact q3'.elim)
            | ok y =>
              intro F6 H6 v6 g6 r6
              have nf6 : F6 Dl = none := g6.nw Dl nf5 (by rw [h5]; exact fun z => nomatch z)
              have h6 : H6 Dl = some (.lst acc) := g6.hh _ _ h5
              refine ⟨acc, h6, ?_, F6, acc ++ [v6], ys ++ [y], Gr.mut ((g24.tr g5).tr g6) nd nf6, nf6, upd_same, ?_, paired_app (paired_mo ((g4.ff.tr g5.ff).tr g6.ff) p3) (.cons r6 .nil), ?_⟩
              · rw [sizeLine_eq]; omega
              · rw [List.length_append]
                show acc.length + 1 ≤ i + 1
                omega
              · have q3' := q3
                unfold compM at q3'
                rw [qc, qe] at q3'
                have ea : ((compM c e (xs.drop (i + 1))).bind fun zs => M.ok ((ys ++ [y]) ++ zs)) = (((compM c e (xs.drop (i + 1))).bind fun ys' => M.ok (y :: ys')).bind fun zs => M.ok (ys ++ zs)) := by
                  cases compM c e (xs.drop (i + 1)) with
                  | ok zs => show M.ok _ = M.ok _; rw [List.append_assoc]; rfl
                  | er _ => rfl
                  | bad => rfl
                rw [ea]
                exact q3'
      · have ei : i = xs.length := by omega
        refine .inl ⟨(sq i H3 e3).2 (by omega), ?_⟩
        rw [ei, List.drop_length] at q3
        have q3' : Post ce (rn K) (.ok (ys ++ [])) F1 H1 Q E := q3
        rw [List.append_nil] at q3'
        exact q3' F3 H3 _ (g2.tr g3) ⟨Dl, acc, rfl, ex_back g2.hh nd, nf3, h3, p3⟩
end
end Mw

set_option Elab.async false
set_option linter.all false
set_option maxRecDepth 100000
set_option maxHeartbeats 2000000
/-! Mw, part E: statements. -/
namespace Mw
open PySem L2
open Rep (rp)
/-! ### one's own lists lent out, and taken back -/
def fz (F H : Hp) (A : List Addr) : Hp := fun b => if b ∈ A then H b else F b
def th (F : Hp) (A : List Addr) : Hp := fun b => if b ∈ A then none else F b
theorem fz_ex {F H : Hp} {A : List Addr} (h : Ex F H) : Ex F (fz F H A) := fun a o e => by
  unfold fz
  split
  · exact h a o e
  · exact e
theorem fz_h {F H : Hp} {A : List Addr} (h : Ex F H) : Ex (fz F H A) H := fun a o e => by
  unfold fz at e
  split at e
  · exact e
  · exact h a o e
theorem fz_at {F H : Hp} {A : List Addr} {p : Addr} {o : HO} (m : p ∈ A) (h : H p = some o) : fz F H A p = some o := by
  unfold fz
  rw [if_pos m]
  exact h
theorem th_at {F : Hp} {A : List Addr} {p : Addr} (m : p ∈ A) : th F A p = none := by
  unfold th
  rw [if_pos m]
/-- the run went on from what was lent; now it is one's own again -/
theorem gr_th {F H F1 H1 : Hp} {A : List Addr} (hF : ∀ p ∈ A, F p = none) (hA : ∀ p ∈ A, H p ≠ none) (e : Ex F H) (g : Gr (fz F H A) H F1 H1) : Gr F H (th F1 A) H1 where
  ff := fun a o h => by
    have : a ∉ A := fun m => by rw [hF a m] at h; cases h
    unfold th
    rw [if_neg this]
    exact g.ff a o (fz_ex e a o h)
  fh := fun a o h => by
    unfold th at h
    split at h
    · cases h
    · exact g.fh a o h
  hh := g.hh
  nw := fun b h1 h2 => by
    unfold th
    split
    · rfl
    · rename_i hb
      refine g.nw b ?_ h2
      unfold fz
      rw [if_neg hb]
      exact h1
theorem th_tup {F : Hp} {A : List Addr} (h : ∀ p ∈ A, ∀ xs, ¬ Rd F p (.tup xs)) : TupEx F (th F A) := fun a xs r => by
  have : a ∉ A := fun m => h a m xs r
  rcases r with r | ⟨o, r⟩
  · refine .inl ?_
    unfold th
    rw [if_neg this]
    exact r
  · refine .inr ⟨o, ?_⟩
    unfold th
    rw [if_neg this]
    exact r
/-- p is one's own, a list that stands for xs -/
structure Own (K : PySem.W.Frag) {α : Type} [Rep α] (F H : Hp) (p : Addr) (xs : List α) : Prop where
  h : ∃ vs, H p = some (.lst vs) ∧ Paired (rp K F) vs xs
  f : F p = none
section
variable {ρ α β γ δ S τ : Type} [Rep α] [Rep β] [Rep γ] [Rep δ] {ce : Ce} {E : XK} {K : PySem.W.Frag} {σ : L2.St} {F H F' H' F0 H0 : Hp} {te ta tb tc td : TE} {tt tu : TT} {md : Md ρ} {m : M ρ} {D : Ends} {ts tw : TS} {g : TG} {wi : TI} {P : τ → Prop}
theorem Own.mo {p : Addr} {xs : List α} (o : Own K F H p xs) (g : Gr F H F' H') : Own K F' H' p xs := by
  obtain ⟨⟨vs, h1, h2⟩, h3⟩ := o
  exact ⟨⟨vs, g.hh _ _ h1, paired_mo g.ff h2⟩, g.nw p h3 (by rw [h1]; exact fun z => nomatch z)⟩
theorem Own.ne {p : Addr} {xs : List α} (o : Own K F H p xs) : H p ≠ none := by
  obtain ⟨⟨vs, h1, h2⟩, h3⟩ := o
  rw [h1]; exact fun z => nomatch z
theorem Own.upd {p q : Addr} {xs : List α} {u : HO} (o : Own K F H p xs) (h : p ≠ q) : Own K F (upd H q u) p xs := by
  obtain ⟨⟨vs, h1, h2⟩, h3⟩ := o
  exact ⟨⟨vs, by rw [upd_ne h]; exact h1, h2⟩, h3⟩
theorem Own.lent {p : Addr} {xs : List α} {A : List Addr} (o : Own K F H p xs) (e : Ex F H) (m : p ∈ A) : rp K (fz F H A) (.ref p) xs := by
  obtain ⟨⟨vs, h1, h2⟩, h3⟩ := o
  exact ⟨p, vs, rfl, fz_at m h1, paired_mo (fz_ex e) h2⟩
theorem own_new {p : Addr} {vs : List V} {xs : List α} (h1 : F p = none) (h2 : H p = some (.lst vs)) (h3 : Paired (rp K F) vs xs) : Own K F H p xs := ⟨⟨vs, h2, h3⟩, h1⟩

/-! ### statements -/
theorem s_seq {t1 t2 : TS} (h : t1 { D with nx := t2 D } σ H) : tSeq t1 t2 D σ H := h
theorem Ev.go {m1 : M α} {k : α → M τ} {Q' : VK} (h : Ev ce E ta σ F H (rv K) m1) (G : Gr F0 H0 F H) (q : Wp ce E H0 (m1.bind k) P)
    (c : ∀ x F1 H1 v, Gr F H F1 H1 → rp K F1 v x → Wp ce E H0 (k x) P → Q' v H1) : ta σ H Q' := by
  refine h F H (Gr.rf G.fh) Q' ?_
  cases m1 with
  | ok x => exact fun F1 H1 v g r => c x F1 H1 v g r q
  | er cc => exact fun H' e => q H' (G.hh.tr e)
  | bad => exact q
theorem Ev.goN {m1 : M (List α)} {k : List α → M τ} {Q' : VK} (h : Ev ce E ta σ F H (rn K) m1) (G : Gr F0 H0 F H) (q : Wp ce E H0 (m1.bind k) P)
    (c : ∀ x F1 H1 p, Gr F H F1 H1 → H p = none → Own K F1 H1 p x → Wp ce E H0 (k x) P → Q' (.ref p) H1) : ta σ H Q' := by
  refine h F H (Gr.rf G.fh) Q' ?_
  cases m1 with
  | ok x =>
    rintro F1 H1 v g ⟨p, vs, rfl, h1, h2, h3, h4⟩
    exact c x F1 H1 p g h1 ⟨⟨vs, h3, h4⟩, h2⟩ q
  | er cc => exact fun H' e => q H' (G.hh.tr e)
  | bad => exact q
theorem EvT.go {m1 : M Bool} {k : Bool → M τ} {Q' : Bool → Hp → Prop} (h : EvT ce E tt σ F H m1) (G : Gr F0 H0 F H) (q : Wp ce E H0 (m1.bind k) P)
    (c : ∀ x F1 H1, Gr F H F1 H1 → Wp ce E H0 (k x) P → Q' x H1) : tt σ H Q' := by
  refine h F H (Gr.rf G.fh) Q' ?_
  cases m1 with
  | ok x => exact fun F1 H1 g => c x F1 H1 g q
  | er cc => exact fun H' e => q H' (G.hh.tr e)
  | bad => exact q
/-- x = e -/
theorem s_asg {i : Nat} {m1 : M α} {k : α → M τ} (G : Gr F0 H0 F H) (q : Wp ce E H0 (m1.bind k) P) (h : Ev ce E te σ F H (rv K) m1)
    (c : ∀ x F1 H1 v, Gr F H F1 H1 → rp K F1 v x → Wp ce E H0 (k x) P → D.nx (σ.set i (some v)) H1) : tAsg te (gName i) D σ H := h.go G q fun x F1 H1 v g r w => c x F1 H1 v g r w
/-- x = a new list of one's own -/
theorem s_asgN {i : Nat} {m1 : M (List α)} {k : List α → M τ} (G : Gr F0 H0 F H) (q : Wp ce E H0 (m1.bind k) P) (h : Ev ce E te σ F H (rn K) m1)
    (c : ∀ x F1 H1 p, Gr F H F1 H1 → H p = none → Own K F1 H1 p x → Wp ce E H0 (k x) P → D.nx (σ.set i (some (.ref p))) H1) : tAsg te (gName i) D σ H := h.goN G q fun x F1 H1 p g n o w => c x F1 H1 p g n o w
/-- x = e, where e reads lists of one's own -/
theorem s_asgA (A : List Addr) {i : Nat} {m1 : M α} {k : α → M τ} [Flat α] (G : Gr F0 H0 F H) (q : Wp ce E H0 (m1.bind k) P) (hF : ∀ p ∈ A, F p = none) (hA : ∀ p ∈ A, ∃ vs, H p = some (.lst vs)) (h0 : ∀ p ∈ A, H0 p = none)
    (h : Ev ce E te σ (fz F H A) H (rv K) m1) (c : ∀ x F1 H1 v, Gr F H F1 H1 → rp K F1 v x → Wp ce E H0 (k x) P → D.nx (σ.set i (some v)) H1) : tAsg te (gName i) D σ H := by
  refine h _ H (Gr.rf (fz_h G.fh)) _ ?_
  have hA' : ∀ p ∈ A, H p ≠ none := fun p m => by obtain ⟨vs, e⟩ := hA p m; rw [e]; exact fun z => nomatch z
  cases m1 with
  | ok x =>
    intro F1 H1 v g r
    refine c x (th F1 A) H1 v (gr_th hF hA' G.fh g) (Flat.fl (th_tup fun p m xs r' => ?_) r) q
    obtain ⟨vs, e⟩ := hA p m
    have e1 : F1 p = some (.lst vs) := g.ff _ _ (fz_at m e)
    rcases r' with r' | ⟨o, r'⟩ <;> (rw [e1] at r'; cases r')
  | er cc => exact fun H' e => q H' (G.hh.tr e)
  | bad => exact q
/-- if, where the test reads lists of one's own -/
theorem s_ifA (A : List Addr) {m1 : M Bool} {k : Bool → M τ} (G : Gr F0 H0 F H) (q : Wp ce E H0 (m1.bind k) P) (hF : ∀ p ∈ A, F p = none) (hA : ∀ p ∈ A, ∃ vs, H p = some (.lst vs))
    (h : EvT ce E tt σ (fz F H A) H m1) (h1 : ∀ F1 H1, Gr F H F1 H1 → Wp ce E H0 (k true) P → ts D σ H1) (h2 : ∀ F1 H1, Gr F H F1 H1 → Wp ce E H0 (k false) P → tw D σ H1) : tIfS tt ts tw D σ H := by
  refine h _ H (Gr.rf (fz_h G.fh)) _ ?_
  have hA' : ∀ p ∈ A, H p ≠ none := fun p m => by obtain ⟨vs, e⟩ := hA p m; rw [e]; exact fun z => nomatch z
  cases m1 with
  | ok b =>
    intro F1 H1 g
    cases b with
    | true => exact h1 _ H1 (gr_th hF hA' G.fh g) q
    | false => exact h2 _ H1 (gr_th hF hA' G.fh g) q
  | er cc => exact fun H' e => q H' (G.hh.tr e)
  | bad => exact q
theorem s_if {m1 : M Bool} {k : Bool → M τ} (G : Gr F0 H0 F H) (q : Wp ce E H0 (m1.bind k) P) (h : EvT ce E tt σ F H m1)
    (h1 : ∀ F1 H1, Gr F H F1 H1 → Wp ce E H0 (k true) P → ts D σ H1) (h2 : ∀ F1 H1, Gr F H F1 H1 → Wp ce E H0 (k false) P → tw D σ H1) : tIfS tt ts tw D σ H :=
  h.go G q fun b F1 H1 g w => by
    cases b with
    | true => exact h1 F1 H1 g w
    | false => exact h2 F1 H1 g w
/-- what follows is shown once -/
theorem s_cut {t : TS} (I : L2.St → Hp → Prop) (h1 : ∀ σ1 H1, I σ1 H1 → D.nx σ1 H1) (h2 : (∀ σ1 H1, I σ1 H1 → D.nx σ1 H1) → t D σ H) : t D σ H := h2 h1
/-- return e -/
theorem s_ret {m1 : M ρ} {k : ρ → M τ} [Rep ρ] (G : Gr F0 H0 F H) (q : Wp ce E H0 (m1.bind k) P) (h : Ev ce E te σ F H (rv K) m1)
    (hD : ∀ r F1 H1 v, Gr F0 H0 F1 H1 → rp K F1 v r → Wp ce E H0 (k r) P → D.rt v H1) : tRet te D σ H := h.go G q fun x F1 H1 v g r w => hD x F1 H1 v (G.tr g) r w
theorem s_retN {m1 : M (List α)} {k : List α → M τ} (G : Gr F0 H0 F H) (q : Wp ce E H0 (m1.bind k) P) (h : Ev ce E te σ F H (rn K) m1)
    (hD : ∀ r F1 H1 v, Gr F0 H0 F1 H1 → rn K F0 H0 F1 H1 v r → Wp ce E H0 (k r) P → D.rt v H1) : tRet te D σ H := h.goN G q fun x F1 H1 p g n o w => by
  obtain ⟨⟨vs, h1, h2⟩, h3⟩ := o
  exact hD x F1 H1 _ (G.tr g) ⟨p, vs, rfl, ex_back G.hh n, h3, h1, h2⟩ w
theorem s_ret0 {m1 : M τ} [Rep τ] (G : Gr F0 H0 F H) (q : Wp ce E H0 m1 P) (h : Ev ce E te σ F H (rv K) m1) (hD : ∀ r F1 H1 v, Gr F0 H0 F1 H1 → rp K F1 v r → P r → D.rt v H1) : tRet te D σ H := by
  refine h F H (Gr.rf G.fh) _ ?_
  cases m1 with
  | ok x => exact fun F1 H1 v g r => hD x F1 H1 v (G.tr g) r q
  | er cc => exact fun H' e => q H' (G.hh.tr e)
  | bad => exact q
theorem s_retN0 {m1 : M (List α)} {P : List α → Prop} (G : Gr F0 H0 F H) (q : Wp ce E H0 m1 P) (h : Ev ce E te σ F H (rn K) m1) (hD : ∀ r F1 H1 v, Gr F0 H0 F1 H1 → rn K F0 H0 F1 H1 v r → P r → D.rt v H1) : tRet te D σ H := by
  refine h F H (Gr.rf G.fh) _ ?_
  cases m1 with
  | ok x =>
    intro F1 H1 v g r
    exact hD x F1 H1 v (G.tr g) (MdMo.mo G r) q
  | er cc => exact fun H' e => q H' (G.hh.tr e)
  | bad => exact q
/-- the lent heap is reached from the entry, too -/
theorem gr_fz {A : List Addr} (G : Gr F0 H0 F H) (h0 : ∀ p ∈ A, H0 p = none) : Gr F0 H0 (fz F H A) H :=
  ⟨G.ff.tr (fz_ex G.fh), fz_h G.fh, G.hh, fun b h1 h2 => by
    unfold fz
    split
    · rename_i hm
      exact absurd (h0 b hm) h2
    · exact G.nw b h1 h2⟩
/-- return p, a list of one's own -/
theorem rn_own {p : Addr} {xs : List α} (o : Own K F H p xs) (h0 : H0 p = none) : rn K F0 H0 F H (.ref p) xs := by
  obtain ⟨⟨vs, h1, h2⟩, h3⟩ := o
  exact ⟨p, vs, rfl, h0, h3, h1, h2⟩
/-- e, alone -/
theorem s_drop {m1 : M α} {k : α → M τ} (G : Gr F0 H0 F H) (q : Wp ce E H0 (m1.bind k) P) (h : Ev ce E te σ F H (rv K) m1)
    (c : ∀ x F1 H1, Gr F H F1 H1 → Wp ce E H0 (k x) P → D.nx σ H1) : tDrop te D σ H := h.go G q fun x F1 H1 v g r w => c x F1 H1 g w
theorem s_raise {c : Err} {cls : Value} (G : Gr F0 H0 F H) (q : Wp ce E H0 (.er c : M τ) P) (hc : cls = .ref (ce c.name)) : E cls none H := by
  subst hc
  exact q H G.hh
/-! ### one's own lists change -/
def appM {α : Type} (xs : List α) (x : α) : M (List α) := chk (xs.length < 16000000) (xs ++ [x])
/-- xs.append(e) -/
theorem s_app {i : Nat} {p : Addr} {xs : List α} {m1 : M α} {k : List α → M τ} (hp : σ[i]? = some (some (.ref p))) (o : Own K F H p xs) (n0 : H0 p = none) (G : Gr F0 H0 F H)
    (q : Wp ce E H0 (m1.bind fun x => (appM xs x).bind k) P) (h : Ev ce E te σ F H (rv K) m1)
    (c : ∀ ys F1 H1, Ex F F1 → Gr F0 H0 F1 H1 → Own K F1 H1 p ys → (∀ (β : Type) [Rep β] (q : Addr) (zs : List β), q ≠ p → Own K F H q zs → Own K F1 H1 q zs) → Wp ce E H0 (k ys) P → D.nx σ H1) :
    tDrop (tBM K "list" rAppend (tVar i) (tCons te tNil)) D σ H := by
  obtain ⟨⟨vs, h1, h2⟩, h3⟩ := o
  refine ⟨.ref p, hp, .inl ⟨rfl, vs, SqL.of h1⟩, h.go G q fun x F1 H1 v g r w => ?_⟩
  have w' : Wp ce E H0 ((appM xs x).bind k) P := w
  unfold appM chk at w'
  split at w'
  · rename_i hl
    refine ⟨p, vs, v, rfl, rfl, g.hh _ _ h1, ?_, ?_⟩
    · rw [Paired.length h2, sizeLine_eq]; omega
    · have hf1 : F1 p = none := g.nw p h3 (by rw [h1]; exact fun z => nomatch z)
      exact c (xs ++ [x]) F1 _ g.ff (Gr.mut (G.tr g) n0 hf1) ⟨⟨_, upd_same, paired_app (paired_mo g.ff h2) (.cons r .nil)⟩, hf1⟩ (fun β _ q zs hq o => (o.mo g).upd hq) w'
  · exact w'.elim
/-- xs.append(e), e reads lists of one's own -/
theorem s_appA (A : List Addr) {i : Nat} {p : Addr} {xs : List α} {m1 : M α} {k : List α → M τ} [Flat α] (hp : σ[i]? = some (some (.ref p))) (o : Own K F H p xs) (n0 : H0 p = none) (G : Gr F0 H0 F H)
    (q : Wp ce E H0 (m1.bind fun x => (appM xs x).bind k) P) (hF : ∀ p ∈ A, F p = none) (hA : ∀ p ∈ A, ∃ vs, H p = some (.lst vs)) (h : Ev ce E te σ (fz F H A) H (rv K) m1)
    (c : ∀ ys F1 H1, Ex F F1 → Gr F0 H0 F1 H1 → Own K F1 H1 p ys → (∀ (β : Type) [Rep β] (q : Addr) (zs : List β), q ≠ p → Own K F H q zs → Own K F1 H1 q zs) → Wp ce E H0 (k ys) P → D.nx σ H1) :
    tDrop (tBM K "list" rAppend (tVar i) (tCons te tNil)) D σ H := by
  obtain ⟨⟨vs, h1, h2⟩, h3⟩ := o
  refine ⟨.ref p, hp, .inl ⟨rfl, vs, SqL.of h1⟩, ?_⟩
  have hA' : ∀ p ∈ A, H p ≠ none := fun p m => by obtain ⟨vs, e⟩ := hA p m; rw [e]; exact fun z => nomatch z
  refine h _ H (Gr.rf (fz_h G.fh)) _ ?_
  cases m1 with
  | ok x =>
    intro F1 H1 v g0 r0
    have g := gr_th hF hA' G.fh g0
    have r : rp K (th F1 A) v x := Flat.fl (th_tup fun p m xs r' => by
      obtain ⟨vs, e⟩ := hA p m
      have e1 : F1 p = some (.lst vs) := g0.ff _ _ (fz_at m e)
      rcases r' with r' | ⟨o, r'⟩ <;> (rw [e1] at r'; cases r')) r0
    have w' : Wp ce E H0 ((appM xs x).bind k) P := q
    unfold appM chk at w'
    split at w'
    · rename_i hl
      refine ⟨p, vs, v, rfl, rfl, g.hh _ _ h1, ?_, ?_⟩
      · rw [Paired.length h2, sizeLine_eq]; omega
      · have hf1 : th F1 A p = none := g.nw p h3 (by rw [h1]; exact fun z => nomatch z)
        exact c (xs ++ [x]) _ _ g.ff (Gr.mut (G.tr g) n0 hf1) ⟨⟨_, upd_same, paired_app (paired_mo g.ff h2) (.cons r .nil)⟩, hf1⟩ (fun β _ q zs hq o => (o.mo g).upd hq) w'
    · exact w'.elim
  | er cc => exact fun H' e => q H' (G.hh.tr e)
  | bad => exact q
/-! ### loops -/
theorem s_for {f : α → S → M (Ctl S τ)} {k : S → M τ} {s0 : S} {m : M (List α)} {R : L2.St → Hp → L2.St → α → Prop} (I : S → Hp → Hp → L2.St → Prop) (G : Gr F0 H0 F H) (hi : EvI ce E K wi σ F H m) (hg : Tg K g R)
    (q : Wp ce E H0 (m.bind fun xs => forM f k xs s0) P) (h0 : ∀ F1 H1, Gr F H F1 H1 → I s0 F1 H1 σ) (hG : ∀ s F' H' σ', I s F' H' σ' → Gr F0 H0 F' H')
    (turn : ∀ x s F1 H1 σ1, I s F1 H1 σ1 → ∀ F2 H2 σ2, Gr F1 H1 F2 H2 → R σ1 F2 σ2 x → ∀ (D' : Ends) (P' : Ctl S τ → Prop), D'.rt = D.rt →
      (∀ s', P' (.nx s') → ∀ F3 H3 σ3, Ex F2 F3 → I s' F3 H3 σ3 → D'.nx σ3 H3) → (∀ s', P' (.nx s') → ∀ F3 H3 σ3, Ex F2 F3 → I s' F3 H3 σ3 → D'.ct σ3 H3) →
      (∀ s', P' (.br s') → ∀ F3 H3 σ3, Ex F2 F3 → I s' F3 H3 σ3 → D'.bk σ3 H3) → (∀ r, P' (.rt r) → P r) → Wp ce E H0 (f x s) P' → ts D' σ2 H2)
    (after : ∀ s F1 H1 σ1, Ex F F1 → I s F1 H1 σ1 → Wp ce E H0 (k s) P → D.nx σ1 H1) : tFor wi g ts D σ H := by
  refine hi F H (Gr.rf G.fh) _ ?_
  cases m with
  | er c => exact fun H' e => q H' (G.hh.tr e)
  | bad => exact q
  | ok xs =>
    intro F2 H2 J g2 sq
    have q' : Wp ce E H0 (forM f k xs s0) P := q
    refine ⟨fun i m σ' H' => m = xs.length - i ∧ i ≤ xs.length ∧ ∃ s F', Ex F2 F' ∧ I s F' H' σ' ∧ Wp ce E H0 (forM f k (xs.drop i) s) P, ⟨xs.length, by omega, Nat.zero_le _, s0, F2, Ex.rf _, h0 F2 H2 g2, q'⟩, ?_⟩
    rintro i mm σ' H' ⟨rfl, hi', s, F', f2, I', q2⟩
    have G' := hG s F' H' σ' I'
    by_cases hlt : i < xs.length
    · obtain ⟨x, hx⟩ : ∃ x, xs[i]? = some x := ⟨xs[i], List.getElem?_eq_getElem hlt⟩
      have hd : xs.drop i = x :: xs.drop (i + 1) := by
        rw [List.drop_eq_getElem_cons hlt]
        rw [List.getElem?_eq_getElem hlt] at hx
        cases hx
        rfl
      rw [hd, forM_cons] at q2
      obtain ⟨go, yl⟩ := (sq i H' (f2.tr G'.fh)).1 x hx
      refine .inr ⟨go, fun σ' H' => ∃ s F', Ex F2 F' ∧ I s F' H' σ' ∧ Wp ce E H0 (forM f k (xs.drop (i + 1)) s) P, fun σ' H' h => ⟨xs.length - (i + 1), by omega, rfl, hlt, h⟩, fun v H3 hy => ?_⟩
      obtain ⟨F3, g3, r3⟩ := yl v H3 hy F' f2 G'.fh
      refine hg σ' F3 H3 v x g3.fh r3 _ fun σ2 hr => ?_
      refine turn x s F' H' σ' I' F3 H3 σ2 g3 hr _ (fun c => match c with
        | .nx s' => Wp ce E H0 (forM f k (xs.drop (i + 1)) s') P
        | .br s' => Wp ce E H0 (k s') P
        | .rt r => P r) rfl (fun s' p F4 H4 σ4 f4 I4 => ⟨s', F4, (f2.tr g3.ff).tr f4, I4, p⟩) (fun s' p F4 H4 σ4 f4 I4 => ⟨s', F4, (f2.tr g3.ff).tr f4, I4, p⟩)
        (fun s' p F4 H4 σ4 f4 I4 => after s' F4 H4 σ4 (g2.ff.tr ((f2.tr g3.ff).tr f4)) I4 p) (fun r p => p) ?_
      cases qf : f x s with
      | ok c =>
        rw [qf] at q2
        cases c with
        | nx s' => exact q2
        | br s' => exact q2
        | rt r => exact q2
      | er c => rw [qf] at q2; exact q2
      | bad => rw [qf] at q2; exact q2
    · have ei : i = xs.length := by omega
      rw [ei, List.drop_length] at q2
      exact .inl ⟨(sq i H' (f2.tr G'.fh)).2 (by omega), after s F' H' σ' (g2.ff.tr f2) I' q2⟩
theorem s_while {c : S → M Bool} {f : S → M (Ctl S τ)} {k : S → M τ} {s0 : S} {n : Nat} (I : S → Hp → Hp → L2.St → Prop) (h0 : I s0 F H σ) (hG : ∀ s F' H' σ', I s F' H' σ' → Gr F0 H0 F' H')
    (q : Wp ce E H0 (whM c f k n s0) P) (hc : ∀ s F1 H1 σ1, I s F1 H1 σ1 → EvT ce E tt σ1 F1 H1 (c s)) (hI : ∀ s F1 H1 F2 H2 σ1, I s F1 H1 σ1 → Gr F1 H1 F2 H2 → I s F2 H2 σ1)
    (turn : ∀ s F1 H1 σ1, I s F1 H1 σ1 → ∀ (D' : Ends) (P' : Ctl S τ → Prop), D'.rt = D.rt →
      (∀ s', P' (.nx s') → ∀ F3 H3 σ3, I s' F3 H3 σ3 → D'.nx σ3 H3) → (∀ s', P' (.nx s') → ∀ F3 H3 σ3, I s' F3 H3 σ3 → D'.ct σ3 H3) →
      (∀ s', P' (.br s') → ∀ F3 H3 σ3, I s' F3 H3 σ3 → D'.bk σ3 H3) → (∀ r, P' (.rt r) → P r) → Wp ce E H0 (f s) P' → ts D' σ1 H1)
    (after : ∀ s F1 H1 σ1, I s F1 H1 σ1 → Wp ce E H0 (k s) P → D.nx σ1 H1) : tWhile tt ts D σ H := by
  refine ⟨fun m σ' H' => ∃ s F', I s F' H' σ' ∧ Wp ce E H0 (whM c f k m s) P, ⟨n, s0, F, h0, q⟩, ?_⟩
  rintro m σ' H' ⟨s, F', I', q'⟩
  have G' := hG s F' H' σ' I'
  cases m with
  | zero => exact False.elim q'
  | succ m =>
    unfold whM at q'
    refine (hc s F' H' σ' I').go G' q' fun b F1 H1 g w => ?_
    have I1 := hI s F' H' F1 H1 σ' I' g
    cases b with
    | false => exact after s F1 H1 σ' I1 w
    | true =>
      refine ⟨fun σ' H' => ∃ s F', I s F' H' σ' ∧ Wp ce E H0 (whM c f k m s) P, fun σ' H' h => ⟨m, Nat.lt_succ_self m, h⟩, ?_⟩
      refine turn s F1 H1 σ' I1 _ (fun c' => match c' with
        | .nx s' => Wp ce E H0 (whM c f k m s') P
        | .br s' => Wp ce E H0 (k s') P
        | .rt r => P r) rfl (fun s' p F4 H4 σ4 I4 => ⟨s', F4, I4, p⟩) (fun s' p F4 H4 σ4 I4 => ⟨s', F4, I4, p⟩) (fun s' p F4 H4 σ4 I4 => after s' F4 H4 σ4 I4 p) (fun r p => p) ?_
      have w' : Wp ce E H0 ((f s).bind fun z => match z with
        | .nx s' => whM c f k m s'
        | .br s' => k s'
        | .rt r => .ok r) P := w
      cases qf : f s with
      | ok z =>
        rw [qf] at w'
        cases z with
        | nx s' => exact w'
        | br s' => exact w'
        | rt r => exact w'
      | er c => rw [qf] at w'; exact w'
      | bad => rw [qf] at w'; exact w'
end
/-! ### defs -/
def SpF (ce : Ce) {α ρ : Type} (R : Hp → List V → α → Prop) (md : Md ρ) (f : α → M ρ) : Sp := fun vs H Q E => ∃ F x, Ex F H ∧ R F vs x ∧ Post ce md (f x) F H Q E
theorem spa {ce : Ce} {α ρ : Type} {R : Hp → List V → α → Prop} {md : Md ρ} {f : α → M ρ} (x : α) : SpA ce R (SpF ce R md f) md x (f x) := fun F1 H1 vs e r Q E q => ⟨F1, x, e, r, q⟩
end Mw

set_option Elab.async false
set_option linter.all false
set_option maxRecDepth 100000
set_option maxHeartbeats 2000000
/-! Mw, part F: calls of defs that raise nothing, isinstance, what else the printed walks use. -/
namespace Mw
open PySem L2
open Rep (rp)
@[simp] theorem bind_assoc {α β γ : Type} (m : M α) (f : α → M β) (g : β → M γ) : (m.bind f).bind g = m.bind fun x => (f x).bind g := by cases m <;> rfl
theorem wp_bind {τ α : Type} {ce : Ce} {E : XK} {H0 : Hp} {m : M α} {k : α → M τ} {P : τ → Prop} (h : Wp ce E H0 (m.bind k) P) : Wp ce E H0 m (fun x => Wp ce E H0 (k x) P) := by
  cases m with
  | ok x => exact h
  | er c => exact h
  | bad => exact h
/-- a def that raises nothing -/
def SpF0 (ce : Ce) {α ρ : Type} (R : Hp → List V → α → Prop) (md : Md ρ) (f : α → M ρ) : Sp := fun vs H Q _ => ∃ F x, Ex F H ∧ R F vs x ∧ Post ce md (f x) F H Q E0
theorem post_ne {ρ : Type} {ce : Ce} {md : Md ρ} {m : M ρ} {F H : Hp} {Q : VK} {E E' : XK} (h : Post ce md m.ne F H Q E) : Post ce md m F H Q E' := by
  cases m with
  | ok r => exact h
  | er c => exact h.elim
  | bad => exact h
section
variable {ρ α β γ δ W τ : Type} [Rep α] [Rep β] [Rep γ] [Rep δ] {ce : Ce} {E : XK} {K : PySem.W.Frag} {σ : L2.St} {F H F' H' F0 H0 : Hp} {te ta tb tc td : TE} {tt tu : TT} {md : Md ρ} {m : M ρ} {D : Ends} {ts tw : TS} {P : τ → Prop}
theorem e_call0 [MdMo md] {ta : TA} {x : α} {R : Hp → List V → α → Prop} {f : α → M ρ} (ha : EvAM ce E ta σ F H (.ok x) R) : Ev ce E (tCall (SpF0 ce R md f) [] E0 ta) σ F H md (f x).ne := fun F1 H1 g1 Q q =>
  ha F1 H1 g1 _ fun F2 H2 vs g2 r2 => by
    show SpF0 ce R md f (vs ++ []) H2 Q E0
    rw [List.append_nil]
    exact ⟨F2, x, g2.fh, r2, post_ne (Post.mo g2 q)⟩
theorem em_call0 [MdMo md] {ta : TA} {m1 : M α} {R : Hp → List V → α → Prop} {f : α → M ρ} (ha : EvAM ce E ta σ F H m1 R) : Ev ce E (tCall (SpF0 ce R md f) [] E0 ta) σ F H md (m1.bind fun x => (f x).ne) := fun F1 H1 g1 Q q => by
  refine ha F1 H1 g1 _ ?_
  cases m1 with
  | ok x =>
    intro F2 H2 vs g2 r2
    show SpF0 ce R md f (vs ++ []) H2 Q E0
    rw [List.append_nil]
    exact ⟨F2, x, g2.fh, r2, post_ne (Post.mo g2 q)⟩
  | er c => exact q
  | bad => exact q
theorem e_callX [MdMo md] {ta : TA} {x : α} {R : Hp → List V → α → Prop} {f : α → M ρ} (ha : EvAM ce E ta σ F H (.ok x) R) : Ev ce E (tCall (SpF ce R md f) [] E ta) σ F H md (f x) := e_call ha (spa x)
theorem em_callX [MdMo md] {ta : TA} {m1 : M α} {R : Hp → List V → α → Prop} {f : α → M ρ} (ha : EvAM ce E ta σ F H m1 R) : Ev ce E (tCall (SpF ce R md f) [] E ta) σ F H md (m1.bind fun x => f x) := em_call ha fun x => spa x
theorem e_some [NN α] {x : α} (h : Ev ce E te σ F H (rv K) (.ok x)) : Ev ce E te σ F H (rv K) (.ok (some x)) := em_some (m := .ok x) h
theorem e_neg' {x : Int} (ha : Ev ce E ta σ F H (rv K) (.ok x)) : Ev ce E (tUn (rU fun i => .int (-i)) ta) σ F H (rv K) (.ok (-x)) := e_neg ha
theorem em_neg {m1 : M Int} (ha : Ev ce E ta σ F H (rv K) m1) : Ev ce E (tUn (rU fun i => .int (-i)) ta) σ F H (rv K) (m1.bind fun x => .ok (-x)) := em_un ha fun x => o_neg
/-- x < y < z, plain -/
theorem e_chain {r r' : R2} {x : α} {y : β} {z : γ} {b b' : Bool} (ha : Ev ce E ta σ F H (rv K) (.ok x)) (hb : Ev ce E tb σ F H (rv K) (.ok y)) (hc : Ev ce E tc σ F H (rv K) (.ok z))
    (h : Op2 ce E K r (rv K) x y (.ok b)) (h' : Op2 ce E K r' (rv K) y z (.ok b')) : Ev ce E (tChain r r' ta tb tc) σ F H (rv K) (.ok (b && b')) := fun F1 H1 g1 Q q => by
  refine ha F1 H1 g1 _ fun F2 H2 vx g2 rx => hb F2 H2 (g1.tr g2) _ fun F3 H3 vy g3 ry => ?_
  refine h F3 H3 vx vy g3.fh (Rep.mo g3.ff rx) ry _ fun F4 H4 v4 g4 r4 => ⟨b, r4, ?_⟩
  cases b with
  | true => exact hc F4 H4 (((g1.tr g2).tr g3).tr g4) _ fun F5 H5 vz g5 rz => h' F5 H5 vy vz g5.fh (Rep.mo (g4.ff.tr g5.ff) ry) rz Q (Post.mo (m := .ok b') (((g2.tr g3).tr g4).tr g5) q)
  | false => exact q F4 H4 _ ((g2.tr g3).tr g4) rfl
theorem e_if {b : Bool} {x y : ρ} [MdMo md] (h : EvT ce E tt σ F H (.ok b)) (ha : Ev ce E ta σ F H md (.ok x)) (hb : Ev ce E tb σ F H md (.ok y)) : Ev ce E (tIf tt ta tb) σ F H md (.ok (if b then x else y)) := fun F1 H1 g1 Q q => by
  refine h F1 H1 g1 _ fun F2 H2 g2 => ?_
  cases b with
  | true => exact ha F2 H2 (g1.tr g2) _ (Post.mo (m := .ok x) g2 q)
  | false => exact hb F2 H2 (g1.tr g2) _ (Post.mo (m := .ok y) g2 q)
theorem e_tup2 {x : α} {y : β} (ha : Ev ce E ta σ F H (rv K) (.ok x)) (hb : Ev ce E tb σ F H (rv K) (.ok y)) : Ev ce E (tTup (tCons ta (tCons tb tNil))) σ F H (rv K) (.ok (x, y)) := em_tup2 (m1 := .ok x) (m2 := .ok y) ha hb
theorem e_tup3 {x : α} {y : β} {z : γ} (ha : Ev ce E ta σ F H (rv K) (.ok x)) (hb : Ev ce E tb σ F H (rv K) (.ok y)) (hc : Ev ce E tc σ F H (rv K) (.ok z)) : Ev ce E (tTup (tCons ta (tCons tb (tCons tc tNil)))) σ F H (rv K) (.ok (T3.mk x y z)) := em_tup3 (m1 := .ok x) (m2 := .ok y) (m3 := .ok z) ha hb hc
theorem e_lcons {tr : TA} {x : α} {y : List α} (ha : Ev ce E ta σ F H (rv K) (.ok x)) (hr : EvL ce E K tr σ F H (.ok y)) : EvL ce E K (tCons ta tr) σ F H (.ok (x :: y)) := el_cons (m1 := .ok x) (m2 := .ok y) ha hr
theorem e_lst {ta : TA} {x : List α} (ha : EvL ce E K ta σ F H (.ok x)) (hs : x.length ≤ 1000) : Ev ce E (tLst ta) σ F H (rn K) (.ok x) := em_lst ha fun y e => by cases e; exact hs
/-- a written list whose items are reckoned: its length is looked at -/
theorem em_lst' {ta : TA} {m : M (List α)} (ha : EvL ce E K ta σ F H m) : Ev ce E (tLst ta) σ F H (rn K) (m.bind fun x => chk (x.length ≤ 1000) x) := fun F1 H1 g1 Q q => by
  cases m with
  | ok x =>
    have q' : Post ce (rn K) (chk (x.length ≤ 1000) x) F1 H1 Q E := q
    unfold chk at q'
    by_cases hx : x.length ≤ 1000
    · rw [if_pos hx] at q'
      exact em_lst ha (fun y e => by cases e; exact hx) F1 H1 g1 Q q'
    · rw [if_neg hx] at q'
      exact q'.elim
  | er c => exact em_lst ha (fun y e => nomatch e) F1 H1 g1 Q q
  | bad => exact q.elim
theorem em_rev' {x : List α} (ha : Ev ce E ta σ F H (rv K) (.ok x)) : Ev ce E (tRevL K ta) σ F H (rn K) (.ok x.reverse) := em_rev (m1 := .ok x) ha
theorem e_sl {tl th : TO} {x : List α} {lo hi : Option Int} (ha : Ev ce E ta σ F H (rv K) (.ok x)) (hl : EvO ce E tl σ F H (.ok lo)) (hh : EvO ce E th σ F H (.ok hi)) : Ev ce E (tSl (rSlL K) ta tl th) σ F H (rn K) (.ok (cut x lo hi)) := em_sl (m1 := .ok x) (m2 := .ok lo) (m3 := .ok hi) ha hl hh
theorem e_slS {tl th : TO} {x : Scr} {lo hi : Option Int} (ha : Ev ce E ta σ F H (rv K) (.ok x)) (hl : EvO ce E tl σ F H (.ok lo)) (hh : EvO ce E th σ F H (.ok hi)) : Ev ce E (tSl (rSlL K) ta tl th) σ F H (rn K) (.ok (cut x.l lo hi)) := em_slS (m2 := .ok lo) (m3 := .ok hi) ha hl hh
/-! ### isinstance -/
class Ty (α : Type) [Rep α] where
  nm : String
  ty : ∀ {K : PySem.W.Frag} {F H : Hp} {v : V} {x : α}, Ex F H → rp K F v x → TyX K H v (.type nm)
instance : Ty Int := ⟨"int", fun {K F H v x} _ h => by cases h; exact .base (.int x)⟩
instance : Ty Bool := ⟨"bool", fun {K F H v x} _ h => by cases h; exact .base (.bl x)⟩
instance : Ty Str := ⟨"str", fun {K F H v x} _ h => by cases h; exact .base (.str x)⟩
instance : Ty Unit := ⟨"NoneType", fun {K F H v x} _ h => by cases h; exact .base .non⟩
instance : Ty (List α) := ⟨"list", fun {K F H v x} e ⟨a, vs, h1, h2, h3⟩ => by subst h1; exact .base (.lst (e _ _ h2))⟩
theorem tyx_tup {a : Addr} {xs : List V} (e : Ex F H) (h : SqT K F a xs) : TyX K H (.ref a) (.type "tuple") := by
  rcases h with (h | ⟨o, h⟩) | ⟨o, its, n, hk, hc, _⟩
  · exact .base (.tup (e _ _ h))
  · exact .fTuple (e _ _ h)
  · exact .kTuple hk hc
instance : Ty (α × β) := ⟨"tuple", fun {K F H v x} e ⟨a, u, w, h1, h2, _⟩ => by subst h1; exact tyx_tup e h2⟩
instance : Ty (T3 α β γ) := ⟨"tuple", fun {K F H v x} e ⟨a, u, w, z, h1, h2, _⟩ => by subst h1; exact tyx_tup e h2⟩
instance : Ty (T4 α β γ δ) := ⟨"tuple", fun {K F H v x} e ⟨a, u, w, z, y, h1, h2, _⟩ => by subst h1; exact tyx_tup e h2⟩
theorem e_isi [Ty α] {x : α} {n : String} {b : Bool} (ha : Ev ce E ta σ F H (rv K) (.ok x)) (hb : PySem.W.kitOne K (.type (Ty.nm α)) (.type n) = some b) : Ev ce E (tCB (rIsi K) (tCons ta (tCons (tC (.ty n)) tNil))) σ F H (rv K) (.ok b) := fun F1 H1 g1 Q q =>
  ha F1 H1 g1 _ fun F2 H2 v g2 r => ⟨v, .ty n, _, _, b, rfl, .ty n, Ty.ty g2.fh r, hb, q F2 H2 _ g2 rfl⟩
/-- isinstance(x, T) where x may be None -/
theorem e_isiO [Ty α] {x : Option α} {n : String} {b : Bool} (ha : Ev ce E ta σ F H (rv K) (.ok x)) (hn : PySem.W.kitOne K (.type "NoneType") (.type n) = some false) (hb : PySem.W.kitOne K (.type (Ty.nm α)) (.type n) = some b) :
    Ev ce E (tCB (rIsi K) (tCons ta (tCons (tC (.ty n)) tNil))) σ F H (rv K) (.ok (x.isSome && b)) := fun F1 H1 g1 Q q =>
  ha F1 H1 g1 _ fun F2 H2 v g2 r => by
    cases x with
    | none => cases r; exact ⟨_, .ty n, _, _, false, rfl, .ty n, .base .non, hn, q F2 H2 _ g2 rfl⟩
    | some y => exact ⟨v, .ty n, _, _, b, rfl, .ty n, Ty.ty g2.fh r.1, hb, q F2 H2 _ g2 rfl⟩
/-! ### ifs -/
theorem s_if2 {m1 : M Bool} {k1 k2 : M τ} (G : Gr F0 H0 F H) (q : Wp ce E H0 (m1.bind fun b => if b then k1 else k2) P) (h : EvT ce E tt σ F H m1)
    (h1 : ∀ F1 H1, Gr F H F1 H1 → Wp ce E H0 k1 P → ts D σ H1) (h2 : ∀ F1 H1, Gr F H F1 H1 → Wp ce E H0 k2 P → tw D σ H1) : tIfS tt ts tw D σ H := s_if G q h h1 h2
theorem s_if2A (A : List Addr) {m1 : M Bool} {k1 k2 : M τ} (G : Gr F0 H0 F H) (q : Wp ce E H0 (m1.bind fun b => if b then k1 else k2) P) (hF : ∀ p ∈ A, F p = none) (hA : ∀ p ∈ A, ∃ vs, H p = some (.lst vs))
    (h : EvT ce E tt σ (fz F H A) H m1) (h1 : ∀ F1 H1, Gr F H F1 H1 → Wp ce E H0 k1 P → ts D σ H1) (h2 : ∀ F1 H1, Gr F H F1 H1 → Wp ce E H0 k2 P → tw D σ H1) : tIfS tt ts tw D σ H := s_ifA A G q hF hA h h1 h2
theorem s_join {t : TS} {m1 : M W} {k : W → M τ} (J : W → Hp → Hp → L2.St → Prop) (q : Wp ce E H0 (m1.bind k) P)
    (h1 : ∀ w F1 H1 σ1, J w F1 H1 σ1 → Wp ce E H0 (k w) P → D.nx σ1 H1)
    (h2 : ∀ (P' : W → Prop), (∀ w, P' w → ∀ F1 H1 σ1, J w F1 H1 σ1 → D.nx σ1 H1) → Wp ce E H0 m1 P' → t D σ H) : t D σ H :=
  h2 (fun w => Wp ce E H0 (k w) P) (fun w p F1 H1 σ1 j => h1 w F1 H1 σ1 j p) (wp_bind q)
theorem own1 {Pp : Addr → Prop} {p : Addr} (h : Pp p) : ∀ q ∈ [p], Pp q := fun q m => by rw [List.mem_singleton.mp m]; exact h
theorem own2 {Pp : Addr → Prop} {p p' : Addr} (h : Pp p) (h' : Pp p') : ∀ q ∈ [p, p'], Pp q := fun q m => by
  rcases List.mem_cons.mp m with rfl | m
  · exact h
  · rw [List.mem_singleton.mp m]; exact h'
theorem own3 {Pp : Addr → Prop} {p p' p'' : Addr} (h : Pp p) (h' : Pp p') (h'' : Pp p'') : ∀ q ∈ [p, p', p''], Pp q := fun q m => by
  rcases List.mem_cons.mp m with rfl | m
  · exact h
  · exact own2 h' h'' q m
theorem Own.ls {p : Addr} {xs : List α} (o : Own K F H p xs) : ∃ vs, H p = some (.lst vs) := let ⟨⟨vs, h, _⟩, _⟩ := o; ⟨vs, h⟩
/-- a list of one's own from now on stays as it is -/
theorem own_fix {p : Addr} {xs : List α} (G : Gr F0 H0 F H) (o : Own K F H p xs) (n0 : H0 p = none) : ∃ F', Gr F0 H0 F' H ∧ Ex F F' ∧ rp K F' (.ref p) xs ∧ ∀ q, q ≠ p → F' q = F q := by
  obtain ⟨⟨vs, h1, h2⟩, h3⟩ := o
  refine ⟨upd F p (.lst vs), ⟨G.ff.tr (Ex.nw h3), fun a u e => ?_, G.hh, fun b a1 a2 => ?_⟩, Ex.nw h3, ⟨p, vs, rfl, upd_same, paired_mo (Ex.nw h3) h2⟩, fun q hq => upd_ne hq⟩
  · by_cases z : a = p
    · subst z; rw [upd_same] at e; rw [h1]; exact e
    · rw [upd_ne z] at e; exact G.fh a u e
  · have : b ≠ p := fun z => by subst z; exact a2 n0
    rw [upd_ne this]; exact G.nw b a1 a2
/-- x += e -/
theorem s_aug {i : Nat} {v : V} {a : Int} {f : Int → Int → Int} {m1 : M Int} {k : Int → M τ} (hv : σ[i]? = some (some v)) (r : rp K F v a) (G : Gr F0 H0 F H) (q : Wp ce E H0 (m1.bind fun y => k (f a y)) P) (h : Ev ce E te σ F H (rv K) m1)
    (c : ∀ x F1 H1 v, Gr F H F1 H1 → rp K F1 v x → Wp ce E H0 (k x) P → D.nx (σ.set i (some v)) H1) : tAug i te (ipI f) D σ H := by
  cases r
  exact ⟨.int a, hv, h.go G q fun x F1 H1 v g r w => by cases r; exact ⟨a, x, rfl, rfl, c (f a x) F1 H1 _ g rfl w⟩⟩
end
end Mw
namespace Mw
open PySem L2
/-- an error class of one's own over ValueError, as the top has written it -/
structure ErrC (K : PySem.W.Frag) (mg : Str → Option Value) (C : Addr) (nm : Str) : Prop where
  g : mg nm = some (.ref C)
  x : PySem.W.excIn K C [.type "ValueError", .type "Exception", .type "BaseException", .type "object"] "ValueError.__new__" = true
  k : PySem.W.keepIn K (.ref C) = true
  b : PySem.W.subIn K (.ref C) (.type "BaseException") = some true
  t : PySem.W.typeIn K (.ref C) = some (.type "type")
section
variable {ρ α β γ δ W τ : Type} [Rep α] [Rep β] [Rep γ] [Rep δ] {ce : Ce} {E : XK} {K : PySem.W.Frag} {σ : L2.St} {F H F' H' F0 H0 : Hp} {te ta tb tc td : TE} {tt tu : TT} {md : Md ρ} {m : M ρ} {D : Ends} {ts tw : TS} {P : τ → Prop}
theorem t_yes : EvT ce E tYes σ F H (.ok true) := fun F1 H1 g Q q => q F1 H1 (Gr.rf g.fh)
/-- one plain operand's place, of a reckoned thing -/
theorem em_ix {r : R2} {m1 : M α} {y : β} {g : α → γ} (ha : Ev ce E ta σ F H (rv K) m1) (hb : Ev ce E tb σ F H (rv K) (.ok y)) (hr : ∀ x, Op2 ce E K r (rv K) x y (.ok (g x))) : Ev ce E (tOp r ta tb) σ F H (rv K) (m1.bind fun x => .ok (g x)) := fun F1 H1 g1 Q q => by
  refine ha F1 H1 g1 _ ?_
  cases m1 with
  | ok x => exact fun F2 H2 vx g2 rx => hb F2 H2 (g1.tr g2) _ fun F3 H3 vy g3 ry => hr x F3 H3 vx vy g3.fh (Rep.mo g3.ff rx) ry Q (Post.mo (m := .ok (g x)) (g2.tr g3) q)
  | er c => exact q
  | bad => exact q
theorem em_cb1 [MdMo md] {ta : TA} {r : List V → Hp → VK → Prop} {x : α} {R : Hp → List V → α → Prop} {m : M ρ} (ha : EvAM ce E ta σ F H (.ok x) R) (hr : OpA ce E R r md x m) : Ev ce E (tCB r ta) σ F H md m := fun F1 H1 g1 Q q =>
  ha F1 H1 g1 _ fun F2 H2 vs g2 r2 => hr F2 H2 vs g2.fh r2 Q (Post.mo g2 q)
/-- a, b = e -/
theorem s_asgT {g : TG} {R : L2.St → Hp → L2.St → α → Prop} (hg : Tg K g R) {m1 : M α} {k : α → M τ} (G : Gr F0 H0 F H) (q : Wp ce E H0 (m1.bind k) P) (h : Ev ce E te σ F H (rv K) m1)
    (c : ∀ x F1 H1 σ1, Gr F H F1 H1 → R σ F1 σ1 x → Wp ce E H0 (k x) P → D.nx σ1 H1) : tAsg te g D σ H := h.go G q fun x F1 H1 v g r w => hg σ F1 H1 v x g.fh r _ fun σ2 hr => c x F1 H1 σ2 g hr w
/-- x = a new list, where e reads lists of one's own -/
theorem s_asgNA (A : List Addr) {i : Nat} {m1 : M (List α)} {k : List α → M τ} [Flat α] (G : Gr F0 H0 F H) (q : Wp ce E H0 (m1.bind k) P) (hF : ∀ p ∈ A, F p = none) (hA : ∀ p ∈ A, ∃ vs, H p = some (.lst vs)) (h0 : ∀ p ∈ A, H0 p = none)
    (h : Ev ce E te σ (fz F H A) H (rn K) m1) (c : ∀ x F1 H1 p, Gr F H F1 H1 → H p = none → Own K F1 H1 p x → Wp ce E H0 (k x) P → D.nx (σ.set i (some (.ref p))) H1) : tAsg te (gName i) D σ H := by
  refine h _ H (Gr.rf (fz_h G.fh)) _ ?_
  have hA' : ∀ p ∈ A, H p ≠ none := fun p m => by obtain ⟨vs, e⟩ := hA p m; rw [e]; exact fun z => nomatch z
  cases m1 with
  | ok x =>
    rintro F1 H1 v g ⟨p, vs, rfl, h1, h2, h3, h4⟩
    refine c x (th F1 A) H1 p (gr_th hF hA' G.fh g) h1 ⟨⟨vs, h3, paired_fl (th_tup fun p m xs r' => ?_) h4⟩, ?_⟩ q
    · obtain ⟨vs, e⟩ := hA p m
      have e1 : F1 p = some (.lst vs) := g.ff _ _ (fz_at m e)
      rcases r' with r' | ⟨o, r'⟩ <;> (rw [e1] at r'; cases r')
    · unfold th
      split
      · rfl
      · exact h2
  | er cc => exact fun H' e => q H' (G.hh.tr e)
  | bad => exact q
theorem Own.other {p q : Addr} {xs : List α} (o : Own K F H q xs) (e : Ex F F') (h : F' q = F q) : Own K F' H q xs := by
  obtain ⟨⟨vs, h1, h2⟩, h3⟩ := o
  exact ⟨⟨vs, h1, paired_mo e h2⟩, by rw [h]; exact h3⟩
end
end Mw
/-! ### the same with a rest -/
namespace Mw
open PySem L2
open Rep (rp)
section
variable {ρ α β γ δ S W τ : Type} [Rep α] [Rep β] [Rep γ] [Rep δ] {ce : Ce} {E : XK} {K : PySem.W.Frag} {σ : L2.St} {F H F' H' F0 H0 : Hp} {te ta tb tc td : TE} {tt tu : TT} {md : Md ρ} {m : M ρ} {D : Ends} {ts tw : TS} {g : TG} {wi : TI} {P : τ → Prop}
theorem s_next (h : D.nx σ H) : tNext D σ H := h
theorem s_nx {X : L2.St → Hp → Prop} {R : VK} {B C : L2.St → Hp → Prop} (h : X σ H) : (Ends.mk X R B C).nx σ H := h
theorem q_asg {t2 : TS} {i : Nat} {m1 : M α} {k : α → M τ} (G : Gr F0 H0 F H) (q : Wp ce E H0 (m1.bind k) P) (h : Ev ce E te σ F H (rv K) m1)
    (c : ∀ x F1 H1 v, Gr F H F1 H1 → rp K F1 v x → Wp ce E H0 (k x) P → t2 D (σ.set i (some v)) H1) : tSeq (tAsg te (gName i)) t2 D σ H := s_asg (D := { D with nx := t2 D }) G q h c
theorem q_asgN {t2 : TS} {i : Nat} {m1 : M (List α)} {k : List α → M τ} (G : Gr F0 H0 F H) (q : Wp ce E H0 (m1.bind k) P) (h : Ev ce E te σ F H (rn K) m1)
    (c : ∀ x F1 H1 p, Gr F H F1 H1 → H p = none → Own K F1 H1 p x → Wp ce E H0 (k x) P → t2 D (σ.set i (some (.ref p))) H1) : tSeq (tAsg te (gName i)) t2 D σ H := s_asgN (D := { D with nx := t2 D }) G q h c
theorem q_asgA {t2 : TS} (A : List Addr) {i : Nat} {m1 : M α} {k : α → M τ} [Flat α] (G : Gr F0 H0 F H) (q : Wp ce E H0 (m1.bind k) P) (hF : ∀ p ∈ A, F p = none) (hA : ∀ p ∈ A, ∃ vs, H p = some (.lst vs)) (h0 : ∀ p ∈ A, H0 p = none)
    (h : Ev ce E te σ (fz F H A) H (rv K) m1) (c : ∀ x F1 H1 v, Gr F H F1 H1 → rp K F1 v x → Wp ce E H0 (k x) P → t2 D (σ.set i (some v)) H1) : tSeq (tAsg te (gName i)) t2 D σ H := s_asgA (D := { D with nx := t2 D }) A G q hF hA h0 h c
theorem q_drop {t2 : TS} {m1 : M α} {k : α → M τ} (G : Gr F0 H0 F H) (q : Wp ce E H0 (m1.bind k) P) (h : Ev ce E te σ F H (rv K) m1)
    (c : ∀ x F1 H1, Gr F H F1 H1 → Wp ce E H0 (k x) P → t2 D σ H1) : tSeq (tDrop te) t2 D σ H := s_drop (D := { D with nx := t2 D }) G q h c
theorem q_app {t2 : TS} {i : Nat} {p : Addr} {xs : List α} {m1 : M α} {k : List α → M τ} (hp : σ[i]? = some (some (.ref p))) (o : Own K F H p xs) (n0 : H0 p = none) (G : Gr F0 H0 F H)
    (q : Wp ce E H0 (m1.bind fun x => (appM xs x).bind k) P) (h : Ev ce E te σ F H (rv K) m1)
    (c : ∀ ys F1 H1, Ex F F1 → Gr F0 H0 F1 H1 → Own K F1 H1 p ys → (∀ (β : Type) [Rep β] (q : Addr) (zs : List β), q ≠ p → Own K F H q zs → Own K F1 H1 q zs) → Wp ce E H0 (k ys) P → t2 D σ H1) : tSeq (tDrop (tBM K "list" rAppend (tVar i) (tCons te tNil))) t2 D σ H := s_app (D := { D with nx := t2 D }) hp o n0 G q h c
theorem q_appA {t2 : TS} (A : List Addr) {i : Nat} {p : Addr} {xs : List α} {m1 : M α} {k : List α → M τ} [Flat α] (hp : σ[i]? = some (some (.ref p))) (o : Own K F H p xs) (n0 : H0 p = none) (G : Gr F0 H0 F H)
    (q : Wp ce E H0 (m1.bind fun x => (appM xs x).bind k) P) (hF : ∀ p ∈ A, F p = none) (hA : ∀ p ∈ A, ∃ vs, H p = some (.lst vs)) (h : Ev ce E te σ (fz F H A) H (rv K) m1)
    (c : ∀ ys F1 H1, Ex F F1 → Gr F0 H0 F1 H1 → Own K F1 H1 p ys → (∀ (β : Type) [Rep β] (q : Addr) (zs : List β), q ≠ p → Own K F H q zs → Own K F1 H1 q zs) → Wp ce E H0 (k ys) P → t2 D σ H1) : tSeq (tDrop (tBM K "list" rAppend (tVar i) (tCons te tNil))) t2 D σ H := s_appA (D := { D with nx := t2 D }) A hp o n0 G q hF hA h c
theorem q_for {t2 : TS} {f : α → S → M (Ctl S τ)} {k : S → M τ} {s0 : S} {m : M (List α)} {R : L2.St → Hp → L2.St → α → Prop} (I : S → Hp → Hp → L2.St → Prop) (G : Gr F0 H0 F H) (hi : EvI ce E K wi σ F H m) (hg : Tg K g R)
    (q : Wp ce E H0 (m.bind fun xs => forM f k xs s0) P) (h0 : ∀ F1 H1, Gr F H F1 H1 → I s0 F1 H1 σ) (hG : ∀ s F' H' σ', I s F' H' σ' → Gr F0 H0 F' H')
    (turn : ∀ x s F1 H1 σ1, I s F1 H1 σ1 → ∀ F2 H2 σ2, Gr F1 H1 F2 H2 → R σ1 F2 σ2 x → ∀ (D' : Ends) (P' : Ctl S τ → Prop), D'.rt = D.rt →
      (∀ s', P' (.nx s') → ∀ F3 H3 σ3, Ex F2 F3 → I s' F3 H3 σ3 → D'.nx σ3 H3) → (∀ s', P' (.nx s') → ∀ F3 H3 σ3, Ex F2 F3 → I s' F3 H3 σ3 → D'.ct σ3 H3) →
      (∀ s', P' (.br s') → ∀ F3 H3 σ3, Ex F2 F3 → I s' F3 H3 σ3 → D'.bk σ3 H3) → (∀ r, P' (.rt r) → P r) → Wp ce E H0 (f x s) P' → ts D' σ2 H2)
    (after : ∀ s F1 H1 σ1, Ex F F1 → I s F1 H1 σ1 → Wp ce E H0 (k s) P → t2 D σ1 H1) : tSeq (tFor wi g ts) t2 D σ H := s_for (D := { D with nx := t2 D }) I G hi hg q h0 hG turn after
theorem q_while {t2 : TS} {c : S → M Bool} {f : S → M (Ctl S τ)} {k : S → M τ} {s0 : S} {n : Nat} (I : S → Hp → Hp → L2.St → Prop) (h0 : I s0 F H σ) (hG : ∀ s F' H' σ', I s F' H' σ' → Gr F0 H0 F' H')
    (q : Wp ce E H0 (whM c f k n s0) P) (hc : ∀ s F1 H1 σ1, I s F1 H1 σ1 → EvT ce E tt σ1 F1 H1 (c s)) (hI : ∀ s F1 H1 F2 H2 σ1, I s F1 H1 σ1 → Gr F1 H1 F2 H2 → I s F2 H2 σ1)
    (turn : ∀ s F1 H1 σ1, I s F1 H1 σ1 → ∀ (D' : Ends) (P' : Ctl S τ → Prop), D'.rt = D.rt →
      (∀ s', P' (.nx s') → ∀ F3 H3 σ3, I s' F3 H3 σ3 → D'.nx σ3 H3) → (∀ s', P' (.nx s') → ∀ F3 H3 σ3, I s' F3 H3 σ3 → D'.ct σ3 H3) →
      (∀ s', P' (.br s') → ∀ F3 H3 σ3, I s' F3 H3 σ3 → D'.bk σ3 H3) → (∀ r, P' (.rt r) → P r) → Wp ce E H0 (f s) P' → ts D' σ1 H1)
    (after : ∀ s F1 H1 σ1, I s F1 H1 σ1 → Wp ce E H0 (k s) P → t2 D σ1 H1) : tSeq (tWhile tt ts) t2 D σ H := s_while (D := { D with nx := t2 D }) I h0 hG q hc hI turn after
theorem q_asgNA {t2 : TS} (A : List Addr) {i : Nat} {m1 : M (List α)} {k : List α → M τ} [Flat α] (G : Gr F0 H0 F H) (q : Wp ce E H0 (m1.bind k) P) (hF : ∀ p ∈ A, F p = none) (hA : ∀ p ∈ A, ∃ vs, H p = some (.lst vs)) (h0 : ∀ p ∈ A, H0 p = none)
    (h : Ev ce E te σ (fz F H A) H (rn K) m1) (c : ∀ x F1 H1 p, Gr F H F1 H1 → H p = none → Own K F1 H1 p x → Wp ce E H0 (k x) P → t2 D (σ.set i (some (.ref p))) H1) : tSeq (tAsg te (gName i)) t2 D σ H := s_asgNA (D := { D with nx := t2 D }) A G q hF hA h0 h c
theorem q_asgT {t2 : TS} {g : TG} {R : L2.St → Hp → L2.St → α → Prop} (hg : Tg K g R) {m1 : M α} {k : α → M τ} (G : Gr F0 H0 F H) (q : Wp ce E H0 (m1.bind k) P) (h : Ev ce E te σ F H (rv K) m1)
    (c : ∀ x F1 H1 σ1, Gr F H F1 H1 → R σ F1 σ1 x → Wp ce E H0 (k x) P → t2 D σ1 H1) : tSeq (tAsg te g) t2 D σ H := s_asgT (D := { D with nx := t2 D }) hg G q h c
theorem q_if2 {t2 : TS} {m1 : M Bool} {k1 k2 : M τ} (G : Gr F0 H0 F H) (q : Wp ce E H0 (m1.bind fun b => if b then k1 else k2) P) (h : EvT ce E tt σ F H m1)
    (h1 : ∀ F1 H1, Gr F H F1 H1 → Wp ce E H0 k1 P → ts { D with nx := t2 D } σ H1) (h2 : ∀ F1 H1, Gr F H F1 H1 → Wp ce E H0 k2 P → tw { D with nx := t2 D } σ H1) : tSeq (tIfS tt ts tw) t2 D σ H := s_if2 (D := { D with nx := t2 D }) G q h h1 h2
theorem q_if2A {t2 : TS} (A : List Addr) {m1 : M Bool} {k1 k2 : M τ} (G : Gr F0 H0 F H) (q : Wp ce E H0 (m1.bind fun b => if b then k1 else k2) P) (hF : ∀ p ∈ A, F p = none) (hA : ∀ p ∈ A, ∃ vs, H p = some (.lst vs))
    (h : EvT ce E tt σ (fz F H A) H m1) (h1 : ∀ F1 H1, Gr F H F1 H1 → Wp ce E H0 k1 P → ts { D with nx := t2 D } σ H1) (h2 : ∀ F1 H1, Gr F H F1 H1 → Wp ce E H0 k2 P → tw { D with nx := t2 D } σ H1) : tSeq (tIfS tt ts tw) t2 D σ H := s_if2A (D := { D with nx := t2 D }) A G q hF hA h h1 h2
theorem q_aug {t2 : TS} {i : Nat} {v : V} {a : Int} {f : Int → Int → Int} {m1 : M Int} {k : Int → M τ} (hv : σ[i]? = some (some v)) (r : rp K F v a) (G : Gr F0 H0 F H) (q : Wp ce E H0 (m1.bind fun y => k (f a y)) P) (h : Ev ce E te σ F H (rv K) m1)
    (c : ∀ x F1 H1 v, Gr F H F1 H1 → rp K F1 v x → Wp ce E H0 (k x) P → t2 D (σ.set i (some v)) H1) : tSeq (tAug i te (ipI f)) t2 D σ H := s_aug (D := { D with nx := t2 D }) hv r G q h c
theorem q_join {t2 : TS} {t : TS} {m1 : M W} {k : W → M τ} (J : W → Hp → Hp → L2.St → Prop) (q : Wp ce E H0 (m1.bind k) P)
    (h1 : ∀ w F1 H1 σ1, J w F1 H1 σ1 → Wp ce E H0 (k w) P → t2 D σ1 H1)
    (h2 : ∀ (P' : W → Prop), (∀ w, P' w → ∀ F1 H1 σ1, J w F1 H1 σ1 → t2 D σ1 H1) → Wp ce E H0 m1 P' → t { D with nx := t2 D } σ H) : tSeq (t) t2 D σ H := s_join (D := { D with nx := t2 D }) J q h1 h2
end
end Mw

set_option Elab.async false
set_option linter.all false
set_option maxRecDepth 100000
set_option maxHeartbeats 2000000
/-! Mw, part G: plain laws that serve several mirrors. -/
namespace Mw
open PySem L2
theorem chk_pos {α : Type} {c : Prop} [Decidable c] (h : c) (x : α) : chk c x = .ok x := if_pos h
theorem mulM_ok {x y : Int} (hx : x.natAbs < 2 ^ 10000) (hy : y.natAbs < 2 ^ 10000) : mulM x y = .ok (x * y) := chk_pos (wide_mul hx hy (by decide) (by decide) (by decide)) _
theorem modM_ok {x y : Int} (h : 0 < y) : modM x y = .ok (x % y) := chk_pos h _
theorem fdivM_ok {x y : Int} (h : 0 < y) (hy : y.natAbs < 2 ^ 8000) : fdivM x y = .ok (x / y) := chk_pos (wide_div h hy (by decide) (by decide)) _
theorem fdivZ_ok {x y : Int} (h : y ≠ 0) (hy : y.natAbs < 2 ^ 8000) : fdivZ x y = .ok (x.fdiv y) := chk_pos ⟨h, Nat.lt_of_lt_of_le (PySem.Flt.log2_lt_of (by decide) hy) (by decide)⟩ _
theorem ixM_of {α : Type} [Rep α] {xs : List α} {i : Nat} {x : α} (h : xs[i]? = some x) : ixM xs (i : Int) = .ok x := by
  unfold ixM
  rw [atI_nat h]
theorem catM_ok {α : Type} {xs ys : List α} (h : xs.length + ys.length ≤ 16000000) : catM xs ys = .ok (xs ++ ys) := chk_pos h _
theorem appM_ok {α : Type} {xs : List α} {x : α} (h : xs.length < 16000000) : appM xs x = .ok (xs ++ [x]) := chk_pos h _
theorem rng1M_ok {n : Int} (h : -(2 ^ 62) ≤ n ∧ n < 2 ^ 62) : rng1M n = .ok (rng 0 n) := chk_pos h _
theorem lcM_ok {α β : Type} (c : α → Bool) (e : α → β) {xs : List α} (h : xs.length ≤ 16000000) : lcM (fun x => .ok (c x)) (fun x => .ok (e x)) xs = .ok ((xs.filter c).map e) := by
  unfold lcM
  rw [if_pos h, compM_ok]
theorem lcM_all {α β : Type} (e : α → β) {xs : List α} (h : xs.length ≤ 16000000) : lcM (fun _ => .ok true) (fun x => .ok (e x)) xs = .ok (xs.map e) := by
  unfold lcM
  rw [if_pos h, compM_all]
theorem lcM_congr {α β : Type} {c c' : α → M Bool} {e e' : α → M β} {xs : List α} (h1 : ∀ x ∈ xs, c x = c' x) (h2 : ∀ x ∈ xs, c x = .ok true → e x = e' x) : lcM c e xs = lcM c' e' xs := by
  unfold lcM
  rw [compM_congr h1 h2]
/-- a loop without a state that only looks -/
theorem forM_all {α τ : Type} {f : α → Unit → M (Ctl Unit τ)} {k : Unit → M τ} : ∀ {xs : List α}, (∀ x ∈ xs, f x () = .ok (.nx ())) → forM f k xs () = k ()
  | [], _ => rfl
  | x :: r, h => by
    rw [forM_cons, h x List.mem_cons_self]
    exact forM_all fun y hy => h y (List.mem_cons_of_mem _ hy)
/-- a loop that always goes on -/
theorem forM_fold {α S τ : Type} {f : α → S → M (Ctl S τ)} {k : S → M τ} {g : S → α → S} (I : S → Prop) : ∀ {xs : List α} {s : S}, I s → (∀ x ∈ xs, ∀ s, I s → f x s = .ok (.nx (g s x)) ∧ I (g s x)) → forM f k xs s = k (xs.foldl g s)
  | [], _, _, _ => rfl
  | x :: r, s, hs, h => by
    rw [forM_cons, (h x List.mem_cons_self s hs).1]
    exact forM_fold I (h x List.mem_cons_self s hs).2 fun y hy => h y (List.mem_cons_of_mem _ hy)
theorem gcd_step (a b : Int) (ha : 0 ≤ a) (hb : 0 ≤ b) : Int.gcd b (a % b) = Int.gcd a b := by
  obtain ⟨m, rfl⟩ := Int.eq_ofNat_of_zero_le ha
  obtain ⟨k, rfl⟩ := Int.eq_ofNat_of_zero_le hb
  show Nat.gcd k (m % k) = Nat.gcd m k
  rw [Nat.gcd_comm m k, Nat.gcd_rec k m, Nat.gcd_comm]
end Mw

set_option Elab.async false
set_option linter.all false
set_option maxRecDepth 100000
set_option maxHeartbeats 4000000
namespace Kx
open PySem L2 Mw
open Rep (rp)
def FUEL : Nat := 10000000000000000000000000000000000000000000000000000000000000000000000000000000000000000000000000000000000000000000000000000000000000000000000000000000000000000000000000000000000000000000000000000000000000000000000000000000000000000000000000000000000
theorem pow_10_30 : (10 : Int) ^ (30 : Int).toNat = 1000000000000000000000000000000 := by decide +kernel
theorem pow_10_60 : (10 : Int) ^ (60 : Int).toNat = 1000000000000000000000000000000000000000000000000000000000000 := by decide +kernel
/-! ### _law_part -/
@[irreducible] def m_law_part_b1  (s_60 : (Int × Int)) : M (Ctl (Int × Int) Int) :=
  (((M.ok s_60.1).bind fun x_86 => (M.ok s_60.2).bind fun y_87 => modM x_86 y_87).bind fun rest_88 => ((M.ok s_60.2).bind fun one_94 => ((M.ok rest_88).bind fun other_100 => (M.ok (.nx (one_94, other_100))))))
@[irreducible] def m_law_part_c1  (s_60 : (Int × Int)) : M Bool :=
  (M.ok (decide ((0 : Int) < s_60.2)))
@[irreducible] def m_law_part (a0_one : Int) (a1_other : Int) : M Int :=
  (whM m_law_part_c1 m_law_part_b1 (fun s_110 => (M.ok s_110.1)) FUEL (a0_one, a1_other))
/-! ### _law_fraction -/
@[irreducible] def m_law_fraction (a0_top : Int) (a1_bottom : Int) : M (Int × Int) :=
  ((m_law_part (if a0_top < 0 then -a0_top else a0_top) (if a1_bottom < 0 then -a1_bottom else a1_bottom)).ne.bind fun part_144 => (M.bind ((M.ok (decide (a1_bottom < (0 : Int)))).bind fun b => if b then ((M.ok (-part_144)).bind fun part_169 => (M.ok part_169)) else (M.ok part_144)) fun s_153 => (((M.ok a0_top).bind fun x_160 => (M.ok s_153).bind fun y_161 => fdivZ x_160 y_161).bind fun x_164 => ((M.ok a1_bottom).bind fun x_162 => (M.ok s_153).bind fun y_163 => fdivZ x_162 y_163).bind fun x_165 => .ok (x_164, x_165))))
/-! ### _law_drawn -/
@[irreducible] def m_law_drawn (a0_cell : Int) : M (Int × Int) :=
  (((M.ok [(4 : Int), (1000 : Int), (1000000000000000000000000000000 : Int)]).bind fun x_196 => (M.ok (a0_cell % (3 : Int))).bind fun y_197 => ixM x_196 y_197).bind fun far_198 => (((((M.ok (a0_cell / (6 : Int))).bind fun x_204 => (M.ok (((2 : Int) * far_198) + (1 : Int))).bind fun y_205 => modM x_204 y_205).bind fun x_206 => (M.ok far_198).bind fun y_207 => .ok (x_206 - y_207)).bind fun x_214 => (((M.ok (1 : Int)).bind fun x_210 => ((M.ok (((a0_cell / (7 : Int)) * (48271 : Int)) % (2147483647 : Int))).bind fun x_208 => (M.ok far_198).bind fun y_209 => modM x_208 y_209).bind fun y_211 => .ok (x_210 + y_211)).bind fun x_212 => (M.ok ()).bind fun y_213 => .ok (x_212, y_213)).bind fun y_215 => .ok (x_214, y_215)).bind fun a_216 => (m_law_fraction a_216.1 a_216.2.1).ne))
/-! ### fraction_less -/
@[irreducible] def m_fraction_less (a0_one : (Int × Int)) (a1_other : (Int × Int)) : M Bool :=
  (((M.ok a0_one.1).bind fun x_223 => (M.ok a1_other.2).bind fun y_224 => mulM x_223 y_224).bind fun x_227 => ((M.ok a1_other.1).bind fun x_225 => (M.ok a0_one.2).bind fun y_226 => mulM x_225 y_226).bind fun y_228 => .ok (decide (x_227 < y_228)))
/-! ### common_part -/
@[irreducible] def m_common_part_b1  (s_288 : (Int × Int)) : M (Ctl (Int × Int) Int) :=
  (((M.ok s_288.1).bind fun x_314 => (M.ok s_288.2).bind fun y_315 => modM x_314 y_315).bind fun rest_316 => ((M.ok s_288.2).bind fun one_322 => ((M.ok rest_316).bind fun other_328 => (M.ok (.nx (one_322, other_328))))))
@[irreducible] def m_common_part_c1  (s_288 : (Int × Int)) : M Bool :=
  (M.ok (decide ((0 : Int) < s_288.2)))
@[irreducible] def m_common_part (a0_one : Int) (a1_other : Int) : M Int :=
  (whM m_common_part_c1 m_common_part_b1 (fun s_338 => (M.ok s_338.1)) FUEL (a0_one, a1_other))
/-! ### fraction_of -/
@[irreducible] def m_fraction_of (a0_top : Int) (a1_bottom : Int) : M (Int × Int) :=
  ((m_common_part (if a0_top < 0 then -a0_top else a0_top) (if a1_bottom < 0 then -a1_bottom else a1_bottom)).ne.bind fun part_372 => (M.bind ((M.ok (decide (a1_bottom < (0 : Int)))).bind fun b => if b then ((M.ok (-part_372)).bind fun part_397 => (M.ok part_397)) else (M.ok part_372)) fun s_381 => (((M.ok a0_top).bind fun x_388 => (M.ok s_381).bind fun y_389 => fdivZ x_388 y_389).bind fun x_392 => ((M.ok a1_bottom).bind fun x_390 => (M.ok s_381).bind fun y_391 => fdivZ x_390 y_391).bind fun x_393 => .ok (x_392, x_393))))
/-! ### fraction_sum -/
@[irreducible] def m_fraction_sum (a0_one : (Int × Int)) (a1_other : (Int × Int)) : M (Int × Int) :=
  (((((M.ok a0_one.1).bind fun x_416 => (M.ok a1_other.2).bind fun y_417 => mulM x_416 y_417).bind fun x_420 => ((M.ok a1_other.1).bind fun x_418 => (M.ok a0_one.2).bind fun y_419 => mulM x_418 y_419).bind fun y_421 => .ok (x_420 + y_421)).bind fun x_426 => (((M.ok a0_one.2).bind fun x_422 => (M.ok a1_other.2).bind fun y_423 => mulM x_422 y_423).bind fun x_424 => (M.ok ()).bind fun y_425 => .ok (x_424, y_425)).bind fun y_427 => .ok (x_426, y_427)).bind fun a_428 => (m_fraction_of a_428.1 a_428.2.1).ne)
/-! ### fraction_times -/
@[irreducible] def m_fraction_times (a0_one : (Int × Int)) (a1_other : (Int × Int)) : M (Int × Int) :=
  ((((M.ok a0_one.1).bind fun x_438 => (M.ok a1_other.1).bind fun y_439 => mulM x_438 y_439).bind fun x_444 => (((M.ok a0_one.2).bind fun x_440 => (M.ok a1_other.2).bind fun y_441 => mulM x_440 y_441).bind fun x_442 => (M.ok ()).bind fun y_443 => .ok (x_442, y_443)).bind fun y_445 => .ok (x_444, y_445)).bind fun a_446 => (m_fraction_of a_446.1 a_446.2.1).ne)
/-! ### _law_whole -/
@[irreducible] def m_law_whole (a0_found : Int) : M Bool :=
  (M.ok (true && (!false)))
/-! ### _law_is_fraction -/
@[irreducible] def m_law_is_fraction (a0_found : (Int × Int)) : M Bool :=
  ((M.ok ((!true) || (!decide ((2 : Int) = (2 : Int))))).bind fun b => if b then (M.ok false) else ((orM (notM (m_law_whole a0_found.1).ne) (orM (notM (m_law_whole a0_found.2).ne) (M.ok (decide (a0_found.2 < (1 : Int)))))).bind fun b => if b then (M.ok false) else ((m_law_part (if a0_found.1 < 0 then -a0_found.1 else a0_found.1) a0_found.2).ne.bind fun x_461 => (M.ok (1 : Int)).bind fun y_462 => .ok (decide (x_461 = y_462)))))
/-! ### _law_fractions -/
@[irreducible] def m_law_fractions (a0_found : (List (Int × Int))) (a1_many : Int) : M Bool :=
  ((M.ok ((!true) || (!decide ((List.length a0_found : Int) = a1_many)))).bind fun b => if b then (M.ok false) else (((((M.ok a0_found).bind fun xs_485 => lcM (fun x_481 : (Int × Int) => (notM (m_law_is_fraction x_481).ne)) (fun x_481 : (Int × Int) => (M.ok x_481)) xs_485).bind fun x_486 => (M.ok ()).bind fun y_487 => .ok (x_486, y_487)).bind fun a_488 => .ok (List.length a_488.1 : Int)).bind fun x_489 => (M.ok (0 : Int)).bind fun y_490 => .ok (decide (x_489 = y_490))))
/-! ### _law_less -/
@[irreducible] def m_law_less (a0_one : (Int × Int)) (a1_other : (Int × Int)) : M Bool :=
  (((M.ok a0_one.1).bind fun x_497 => (M.ok a1_other.2).bind fun y_498 => mulM x_497 y_498).bind fun x_501 => ((M.ok a1_other.1).bind fun x_499 => (M.ok a0_one.2).bind fun y_500 => mulM x_499 y_500).bind fun y_502 => .ok (decide (x_501 < y_502)))
/-! ### _law_plus -/
@[irreducible] def m_law_plus (a0_one : (Int × Int)) (a1_other : (Int × Int)) : M (Int × Int) :=
  (((((M.ok a0_one.1).bind fun x_516 => (M.ok a1_other.2).bind fun y_517 => mulM x_516 y_517).bind fun x_520 => ((M.ok a1_other.1).bind fun x_518 => (M.ok a0_one.2).bind fun y_519 => mulM x_518 y_519).bind fun y_521 => .ok (x_520 + y_521)).bind fun x_526 => (((M.ok a0_one.2).bind fun x_522 => (M.ok a1_other.2).bind fun y_523 => mulM x_522 y_523).bind fun x_524 => (M.ok ()).bind fun y_525 => .ok (x_524, y_525)).bind fun y_527 => .ok (x_526, y_527)).bind fun a_528 => (m_law_fraction a_528.1 a_528.2.1).ne)
/-! ### _law_product -/
@[irreducible] def m_law_product (a0_one : (Int × Int)) (a1_other : (Int × Int)) : M (Int × Int) :=
  ((((M.ok a0_one.1).bind fun x_538 => (M.ok a1_other.1).bind fun y_539 => mulM x_538 y_539).bind fun x_544 => (((M.ok a0_one.2).bind fun x_540 => (M.ok a1_other.2).bind fun y_541 => mulM x_540 y_541).bind fun x_542 => (M.ok ()).bind fun y_543 => .ok (x_542, y_543)).bind fun y_545 => .ok (x_544, y_545)).bind fun a_546 => (m_law_fraction a_546.1 a_546.2.1).ne)
/-! ### law -/
@[irreducible] def m_law_b1  (x_681 : Int) (s_680 : Unit) : M (Ctl Unit Bool) :=
  ((M.ok (x_681 % (1000000000000000000000000000000000000000000000000000000000000 : Int))).bind fun cell_701 => ((m_law_drawn cell_701).ne.bind fun one_707 => (((((m_law_drawn (cell_701 / (13 : Int))).ne.bind fun x_715 => ((M.ok one_707).bind fun x_713 => (M.ok ([] : List (Int × Int))).bind fun y_714 => .ok (x_713 :: y_714)).bind fun y_716 => .ok (x_715 :: y_716)).bind fun x_717 => chk (x_717.length ≤ 1000) x_717).bind fun x_718 => (M.ok (if (decide (((cell_701 / (5 : Int)) % (6 : Int)) = (1 : Int))) then (1 : Int) else 0)).bind fun y_719 => ixM x_718 y_719).bind fun other_720 => ((((m_fraction_sum one_707 other_720).ne.bind fun x_728 => ((m_fraction_times one_707 other_720).ne.bind fun x_726 => (M.ok ([] : List (Int × Int))).bind fun y_727 => .ok (x_726 :: y_727)).bind fun y_729 => .ok (x_728 :: y_729)).bind fun x_730 => chk (x_730.length ≤ 1000) x_730).bind fun found_731 => ((orM (notM (m_law_fractions found_731 (2 : Int)).ne) ((M.ok found_731).bind fun x_742 => (((m_law_plus one_707 other_720).ne.bind fun x_739 => ((m_law_product one_707 other_720).ne.bind fun x_737 => (M.ok ([] : List (Int × Int))).bind fun y_738 => .ok (x_737 :: y_738)).bind fun y_740 => .ok (x_739 :: y_740)).bind fun x_741 => chk (x_741.length ≤ 1000) x_741).bind fun y_743 => .ok (!decide (x_742 = y_743)))).bind fun b => if b then ((M.ok false).bind fun r_747 => .ok (.rt r_747)) else ((m_fraction_less one_707 other_720).ne.bind fun told_748 => ((orM (M.ok (!true)) ((M.ok told_748).bind fun x_754 => (m_law_less one_707 other_720).ne.bind fun y_755 => .ok (!decide (x_754 = y_755)))).bind fun b => if b then ((M.ok false).bind fun r_759 => .ok (.rt r_759)) else (((M.ok [(1 : Int), (-(1 : Int)), (6 : Int), (-(10 : Int))]).bind fun x_760 => (M.ok ((cell_701 / (11 : Int)) % (4 : Int))).bind fun y_761 => ixM x_760 y_761).bind fun part_762 => (((((M.ok part_762).bind fun x_768 => (M.ok one_707.1).bind fun y_769 => mulM x_768 y_769).bind fun x_774 => (((M.ok part_762).bind fun x_770 => (M.ok one_707.2).bind fun y_771 => mulM x_770 y_771).bind fun x_772 => (M.ok ()).bind fun y_773 => .ok (x_772, y_773)).bind fun y_775 => .ok (x_774, y_775)).bind fun a_776 => (m_fraction_of a_776.1 a_776.2.1).ne).bind fun made_777 => ((orM (notM (m_law_is_fraction made_777).ne) (M.ok (!decide (made_777 = one_707)))).bind fun b => if b then ((M.ok false).bind fun r_786 => .ok (.rt r_786)) else (M.ok (.nx ()))))))))))))
@[irreducible] def m_law (a0_script : Scr) : M Bool :=
  (((M.ok a0_script.l).bind fun x_671 => (M.ok [(7 : Int)]).bind fun y_672 => catM x_671 y_672).bind fun xs_794 => forM m_law_b1 (fun s_789 => (M.ok true)) xs_794 ())
/-! ### the plain law -/
theorem part_go : ∀ (n : Nat) (a b : Int), 0 ≤ a → 0 ≤ b → b.toNat < n → whM m_law_part_c1 m_law_part_b1 (fun s => (M.ok s.1)) n (a, b) = .ok (Int.gcd a b : Int)
  | 0, _, _, _, _, h => absurd h (Nat.not_lt_zero _)
  | n + 1, a, b, ha, hb, h => by
    unfold whM
    have ec : m_law_part_c1 (a, b) = .ok (decide (0 < b)) := by unfold m_law_part_c1; rfl
    rw [ec]
    show (if decide (0 < b) = true then _ else _) = _
    by_cases c : 0 < b
    · rw [if_pos (decide_eq_true c)]
      have e : m_law_part_b1 (a, b) = .ok (.nx (b, a % b)) := by
        unfold m_law_part_b1
        show ((modM a b).bind fun rest => _) = _
        rw [modM_ok c]
        rfl
      rw [e]
      show whM m_law_part_c1 m_law_part_b1 (fun s => (M.ok s.1)) n (b, a % b) = _
      have h1 := Int.emod_nonneg a (by omega : b ≠ 0)
      have h2 := Int.emod_lt_of_pos a c
      rw [part_go n b (a % b) hb h1 (by omega), gcd_step a b ha hb]
    · rw [if_neg (by simpa using c)]
      have : b = 0 := by omega
      subst this
      show M.ok a = _
      rw [Int.gcd_zero_right]
      congr 1
      omega
theorem part_is (a b : Int) (ha : 0 ≤ a) (hb : 0 ≤ b) (h : b < 10 ^ 240) : m_law_part a b = .ok (Int.gcd a b : Int) := by
  unfold m_law_part
  refine part_go _ a b ha hb ?_
  have h2 : b.toNat < 10 ^ 240 := by
    have : ((b.toNat : Nat) : Int) < ((10 ^ 240 : Nat) : Int) := by
      rw [Int.toNat_of_nonneg hb]
      exact h
    exact Int.ofNat_lt.mp this
  exact Nat.lt_of_lt_of_le h2 (by decide +kernel)
theorem part_same : m_common_part = m_law_part := by
  have e1 : m_common_part_c1 = m_law_part_c1 := by funext s; unfold m_common_part_c1 m_law_part_c1; rfl
  have e2 : m_common_part_b1 = m_law_part_b1 := by funext s; unfold m_common_part_b1 m_law_part_b1; rfl
  funext a b
  unfold m_common_part m_law_part
  rw [e1, e2]
theorem frac_same : m_fraction_of = m_law_fraction := by
  funext a b
  unfold m_fraction_of m_law_fraction
  rw [part_same]
theorem sum_same : m_fraction_sum = m_law_plus := by
  funext a b
  unfold m_fraction_sum m_law_plus
  rw [frac_same]
theorem times_same : m_fraction_times = m_law_product := by
  funext a b
  unfold m_fraction_times m_law_product
  rw [frac_same]
theorem less_same : m_fraction_less = m_law_less := by
  funext a b
  unfold m_fraction_less m_law_less
  rfl
/-- a fraction as it should be, within bounds -/
structure Good (B : Int) (x : Int × Int) : Prop where
  pos : 1 ≤ x.2
  one : Int.gcd x.1 x.2 = 1
  b1 : -B ≤ x.1 ∧ x.1 ≤ B
  b2 : x.2 ≤ B
theorem abs_if (a : Int) : (if a < 0 then -a else a) = (a.natAbs : Int) := by
  by_cases h : a < 0
  · rw [if_pos h]; omega
  · rw [if_neg h]; omega
/-- the sign of the bottom, put to the part -/
def part (a b : Int) : Int := if b < 0 then -(Int.gcd a b : Int) else (Int.gcd a b : Int)
theorem fraction_is (a b : Int) (hb : b ≠ 0) (h : (b.natAbs : Int) < 10 ^ 240) : m_law_fraction a b = .ok (a.fdiv (part a b), b.fdiv (part a b)) := by
  have hg : 0 < Int.gcd a b := by
    rcases Nat.eq_zero_or_pos (Int.gcd a b) with z | z
    · exact absurd ((Int.gcd_eq_zero_iff).mp z).2 hb
    · exact z
  have hl : Int.gcd a b ≤ b.natAbs := by
    have := Int.gcd_le_natAbs_right a hb
    exact this
  have hn : (part a b).natAbs = Int.gcd a b := by
    unfold part
    split <;> simp
  have hz : part a b ≠ 0 := by
    intro z
    rw [z] at hn
    simp at hn
    omega
  have hs : (part a b).natAbs < 2 ^ 8000 := by
    rw [hn]
    have h1 : b.natAbs < 10 ^ 240 := by omega
    exact Nat.lt_of_le_of_lt hl (Nat.lt_trans h1 (by decide +kernel))
  unfold m_law_fraction
  rw [abs_if, abs_if, part_is _ _ (by omega) (by omega) h]
  have e : ((a.natAbs : Int).gcd (b.natAbs : Int)) = Int.gcd a b := by
    show Nat.gcd _ _ = Nat.gcd _ _
    simp
  rw [e]
  simp only [ne_ok, M.ok_bind]
  have e2 : (if decide (b < 0) = true then (M.ok (-(Int.gcd a b : Int))) else (M.ok (Int.gcd a b : Int))) = .ok (part a b) := by
    unfold part
    by_cases c : b < 0
    · simp [c]
    · simp [c]
  rw [e2]
  simp only [M.ok_bind]
  rw [fdivZ_ok hz hs, fdivZ_ok hz hs]
  rfl
theorem gcd_div (a b : Int) (hb : b ≠ 0) : ∃ p q : Int, a = part a b * p ∧ b = part a b * q ∧ 1 ≤ q ∧ Int.gcd p q = 1 ∧ part a b ≠ 0 := by
  have hg : Int.gcd a b ≠ 0 := fun z => hb ((Int.gcd_eq_zero_iff).mp z).2
  have d1 : part a b ∣ a := by
    unfold part
    split
    · exact Int.neg_dvd.mpr (Int.gcd_dvd_left a b)
    · exact Int.gcd_dvd_left a b
  have d2 : part a b ∣ b := by
    unfold part
    split
    · exact Int.neg_dvd.mpr (Int.gcd_dvd_right a b)
    · exact Int.gcd_dvd_right a b
  have hn : (part a b).natAbs = Int.gcd a b := by
    unfold part
    split <;> simp
  have hz : part a b ≠ 0 := by
    intro z
    rw [z] at hn
    simp at hn
    omega
  obtain ⟨p, hp⟩ := d1
  obtain ⟨q, hq⟩ := d2
  refine ⟨p, q, hp, hq, ?_, ?_, hz⟩
  · -- the signs
    by_cases c : b < 0
    · have hneg : part a b < 0 := by
        unfold part
        rw [if_pos c]
        omega
      have : 0 < q := by
        by_cases h0 : 0 < q
        · exact h0
        · have : 0 ≤ part a b * q := Int.mul_nonneg_of_nonpos_of_nonpos (by omega) (by omega)
          omega
      omega
    · have hpos : 0 < part a b := by
        unfold part
        rw [if_neg c]
        omega
      have : 0 < q := by
        by_cases h0 : 0 < q
        · exact h0
        · have : part a b * q ≤ 0 := Int.mul_nonpos_of_nonneg_of_nonpos (by omega) (by omega)
          omega
      omega
  · have h1 : Int.gcd a b = (part a b).natAbs * Int.gcd p q := by
      have : Int.gcd a b = Int.gcd (part a b * p) (part a b * q) := by rw [← hp, ← hq]
      rw [this, Int.gcd_mul_left]
    rw [hn] at h1
    have : Int.gcd a b * 1 = Int.gcd a b * Int.gcd p q := by omega
    exact (Nat.eq_of_mul_eq_mul_left (by omega) this).symm
theorem natAbs_mul_le {a b : Int} (h : a ≠ 0) : b.natAbs ≤ (a * b).natAbs := by
  rw [Int.natAbs_mul]
  exact Nat.le_mul_of_pos_left _ (by omega)
/-- what comes of reckoning: a good fraction -/
theorem fraction_good (a b B : Int) (hb : b ≠ 0) (hB : B < 10 ^ 240) (h1 : (a.natAbs : Int) ≤ B) (h2 : (b.natAbs : Int) ≤ B) : ∃ x, m_law_fraction a b = .ok x ∧ Good B x := by
  obtain ⟨p, q, hp, hq, h3, h4, hz⟩ := gcd_div a b hb
  refine ⟨_, fraction_is a b hb (by omega), ?_⟩
  have e1 : a.fdiv (part a b) = p := by
    have := Int.mul_fdiv_cancel_left p hz
    rw [← hp] at this
    exact this
  have e2 : b.fdiv (part a b) = q := by
    have := Int.mul_fdiv_cancel_left q hz
    rw [← hq] at this
    exact this
  rw [e1, e2]
  have l1 : p.natAbs ≤ a.natAbs := by
    have := natAbs_mul_le (b := p) hz
    rw [← hp] at this
    exact this
  have l2 : q.natAbs ≤ b.natAbs := by
    have := natAbs_mul_le (b := q) hz
    rw [← hq] at this
    exact this
  exact ⟨h3, h4, ⟨by omega, by omega⟩, by omega⟩
/-- a good fraction, both numbers taken k times, is itself again -/
theorem fraction_back (k : Int) (x : Int × Int) (B : Int) (hB : B < 10 ^ 150) (hk : k ≠ 0) (hk2 : k.natAbs ≤ 100) (g : Good B x) : m_law_fraction (k * x.1) (k * x.2) = .ok x := by
  obtain ⟨x1, x2⟩ := x
  obtain ⟨g1, g2, g3, g4⟩ := g
  dsimp only at g1 g2 g3 g4
  have hb : k * x2 ≠ 0 := Int.mul_ne_zero hk (by omega)
  have hn : ((k * x2).natAbs : Int) < 10 ^ 240 := by
    rw [Int.natAbs_mul]
    have h1 : k.natAbs * x2.natAbs ≤ 100 * x2.natAbs := Nat.mul_le_mul_right _ hk2
    have h2 : (x2.natAbs : Int) < 10 ^ 150 := by omega
    have h3 : (100 : Int) * 10 ^ 150 < 10 ^ 240 := by decide +kernel
    have h4 : ((k.natAbs * x2.natAbs : Nat) : Int) ≤ ((100 * x2.natAbs : Nat) : Int) := Int.ofNat_le.mpr h1
    have h5 : ((100 * x2.natAbs : Nat) : Int) = 100 * (x2.natAbs : Int) := by simp
    omega
  rw [fraction_is _ _ hb hn]
  have hg : Int.gcd (k * x1) (k * x2) = k.natAbs := by
    rw [Int.gcd_mul_left, g2, Nat.mul_one]
  have hp : part (k * x1) (k * x2) = k := by
    unfold part
    rw [hg]
    by_cases c : k < 0
    · have : k * x2 < 0 := Int.mul_neg_of_neg_of_pos c (by omega)
      rw [if_pos this]
      omega
    · have : ¬ k * x2 < 0 := by
        have : 0 ≤ k * x2 := Int.mul_nonneg (by omega) (by omega)
        omega
      rw [if_neg this]
      omega
  rw [hp, Int.mul_fdiv_cancel_left _ hk, Int.mul_fdiv_cancel_left _ hk]
theorem whole_is (a : Int) : m_law_whole a = .ok true := by
  unfold m_law_whole
  rfl
theorem is_fraction_ok {B : Int} (hB : B < 10 ^ 240) {x : Int × Int} (g : Good B x) : m_law_is_fraction x = .ok true := by
  obtain ⟨g1, g2, g3, g4⟩ := g
  unfold m_law_is_fraction
  rw [whole_is, whole_is, abs_if, part_is _ _ (by omega) (by omega) (by omega)]
  have e : ((x.1.natAbs : Int).gcd x.2) = Int.gcd x.1 x.2 := by
    show Nat.gcd _ _ = Nat.gcd _ _
    simp
  rw [e, g2]
  have : ¬ x.2 < 1 := by omega
  simp [this]
theorem is_fractions_ok {B : Int} (hB : B < 10 ^ 240) {x y : Int × Int} (g : Good B x) (g' : Good B y) : m_law_fractions [x, y] 2 = .ok true := by
  unfold m_law_fractions
  have e : lcM (fun x_481 : (Int × Int) => (notM (m_law_is_fraction x_481).ne)) (fun x_481 : (Int × Int) => (M.ok x_481)) [x, y] = .ok [] := by
    unfold lcM
    rw [if_pos (by simp)]
    unfold compM
    rw [is_fraction_ok hB g]
    unfold compM
    rw [is_fraction_ok hB g']
    rfl
  simp [e]
theorem mul_bd {x y : Int} (h1 : -(10 ^ 30) ≤ x ∧ x ≤ 10 ^ 30) (h2 : -(10 ^ 30) ≤ y ∧ y ≤ 10 ^ 30) : mulM x y = .ok (x * y) ∧ (x * y).natAbs ≤ 10 ^ 60 := by
  have a1 : x.natAbs ≤ 10 ^ 30 := by omega
  have a2 : y.natAbs ≤ 10 ^ 30 := by omega
  have l : (10 : Nat) ^ 30 < 2 ^ 10000 := by decide +kernel
  refine ⟨mulM_ok (Nat.lt_of_le_of_lt a1 l) (Nat.lt_of_le_of_lt a2 l), ?_⟩
  rw [Int.natAbs_mul]
  exact Nat.le_trans (Nat.mul_le_mul a1 a2) (by decide +kernel)
theorem drawn_good (c : Int) : ∃ x, m_law_drawn c = .ok x ∧ Good (10 ^ 30) x := by
  unfold m_law_drawn
  have hf : ∃ far : Int, ixM [(4 : Int), (1000 : Int), (1000000000000000000000000000000 : Int)] (c % 3) = .ok far ∧ 1 ≤ far ∧ far ≤ 10 ^ 30 := by
    have h1 := Int.emod_nonneg c (by decide : (3 : Int) ≠ 0)
    have h2 := Int.emod_lt_of_pos c (by decide : (0 : Int) < 3)
    have h3 : c % 3 = 0 ∨ c % 3 = 1 ∨ c % 3 = 2 := by omega
    rcases h3 with e | e | e <;> rw [e]
    · exact ⟨4, rfl, by decide, by decide +kernel⟩
    · exact ⟨1000, rfl, by decide, by decide +kernel⟩
    · exact ⟨1000000000000000000000000000000, rfl, by decide, by decide +kernel⟩
  obtain ⟨far, e, f1, f2⟩ := hf
  simp only [M.ok_bind, e]
  rw [modM_ok (by omega), modM_ok (by omega)]
  simp only [M.ok_bind]
  have a1 := Int.emod_nonneg (c / 6) (by omega : (2 * far + 1) ≠ 0)
  have a2 := Int.emod_lt_of_pos (c / 6) (by omega : 0 < 2 * far + 1)
  have a3 := Int.emod_nonneg (c / 7 * 48271 % 2147483647) (by omega : far ≠ 0)
  have a4 := Int.emod_lt_of_pos (c / 7 * 48271 % 2147483647) (by omega : 0 < far)
  generalize c / 6 % (2 * far + 1) = u at *
  generalize c / 7 * 48271 % 2147483647 % far = v at *
  obtain ⟨x, h1, h2⟩ := fraction_good (u - far) (1 + v) (10 ^ 30) (by omega) (by decide +kernel) (by omega) (by omega)
  refine ⟨x, ?_, h2⟩
  rw [h1]
  rfl
theorem law_turn (x : Int) : m_law_b1 x () = .ok (.nx ()) := by
  unfold m_law_b1
  generalize x % 1000000000000000000000000000000000000000000000000000000000000 = c
  obtain ⟨one, e1, g1⟩ := drawn_good c
  obtain ⟨o2, e2, g2⟩ := drawn_good (c / 13)
  have ho : ∃ other, ixM [o2, one] (if (decide (c / 5 % 6 = 1)) = true then (1 : Int) else 0) = .ok other ∧ Good (10 ^ 30) other := by
    by_cases q : c / 5 % 6 = 1
    · simp only [q, decide_true, if_true]
      exact ⟨one, rfl, g1⟩
    · have q' : decide (c / 5 % 6 = 1) = false := decide_eq_false q
      rw [q', if_neg (by decide)]
      exact ⟨o2, rfl, g2⟩
  obtain ⟨other, e3, g3⟩ := ho
  -- the sum and the product
  have big : (10 : Int) ^ 30 < 10 ^ 150 := by decide +kernel
  have b1 : -(10 ^ 30) ≤ one.1 ∧ one.1 ≤ 10 ^ 30 := g1.b1
  have b2 : -(10 ^ 30) ≤ one.2 ∧ one.2 ≤ 10 ^ 30 := ⟨by have := g1.pos; omega, g1.b2⟩
  have b3 : -(10 ^ 30) ≤ other.1 ∧ other.1 ≤ 10 ^ 30 := g3.b1
  have b4 : -(10 ^ 30) ≤ other.2 ∧ other.2 ≤ 10 ^ 30 := ⟨by have := g3.pos; omega, g3.b2⟩
  obtain ⟨m1, l1⟩ := mul_bd b1 b4
  obtain ⟨m2, l2⟩ := mul_bd b3 b2
  obtain ⟨m3, l3⟩ := mul_bd b2 b4
  obtain ⟨m4, l4⟩ := mul_bd b1 b3
  have n1 : one.2 * other.2 ≠ 0 := Int.mul_ne_zero (by have := g1.pos; omega) (by have := g3.pos; omega)
  have hB : (2 * 10 ^ 60 : Int) < 10 ^ 240 := by decide +kernel
  obtain ⟨s, hs, gs⟩ := fraction_good (one.1 * other.2 + other.1 * one.2) (one.2 * other.2) (2 * 10 ^ 60) n1 hB (by omega) (by omega)
  obtain ⟨t, ht, gt⟩ := fraction_good (one.1 * other.1) (one.2 * other.2) (2 * 10 ^ 60) n1 hB (by omega) (by omega)
  have es : m_law_plus one other = .ok s := by
    unfold m_law_plus
    simp only [M.ok_bind, m1, m2, m3, hs, ne_ok]
  have et : m_law_product one other = .ok t := by
    unfold m_law_product
    simp only [M.ok_bind, m4, m3, ht, ne_ok]
  have el : ∃ b, m_law_less one other = .ok b := by
    unfold m_law_less
    simp only [M.ok_bind, m1, m2]
    exact ⟨_, rfl⟩
  obtain ⟨b, eb⟩ := el
  -- the part
  have hp : ∃ k : Int, ixM [(1 : Int), (-(1 : Int)), (6 : Int), (-(10 : Int))] (c / 11 % 4) = .ok k ∧ k ≠ 0 ∧ k.natAbs ≤ 100 := by
    have h1 := Int.emod_nonneg (c / 11) (by decide : (4 : Int) ≠ 0)
    have h2 := Int.emod_lt_of_pos (c / 11) (by decide : (0 : Int) < 4)
    have h3 : c / 11 % 4 = 0 ∨ c / 11 % 4 = 1 ∨ c / 11 % 4 = 2 ∨ c / 11 % 4 = 3 := by omega
    rcases h3 with e | e | e | e <;> rw [e]
    · exact ⟨1, rfl, by decide, by decide⟩
    · exact ⟨-1, rfl, by decide, by decide⟩
    · exact ⟨6, rfl, by decide, by decide⟩
    · exact ⟨-10, rfl, by decide, by decide⟩
  obtain ⟨k, ek, k0, k1⟩ := hp
  have kb : -(10 ^ 30) ≤ k ∧ k ≤ 10 ^ 30 := by omega
  obtain ⟨m5, _⟩ := mul_bd kb b1
  obtain ⟨m6, _⟩ := mul_bd kb b2
  have hm := fraction_back k one (10 ^ 30) big k0 k1 g1
  simp only [sum_same, times_same, frac_same, less_same, e1, e2, M.ok_bind, ne_ok, chk_pos (show ([o2, one] : List (Int × Int)).length ≤ 1000 by simp), e3, es, et, eb, is_fractions_ok hB gs gt, notM_ok, Bool.not_true, orM_f, ek, m5, m6, hm, is_fraction_ok (by decide +kernel : (10 : Int) ^ 30 < 10 ^ 240) g1,
    chk_pos (show ([s, t] : List (Int × Int)).length ≤ 1000 by simp), decide_true]
  rfl
theorem law_true (ns : List Int) (h : ns.length ≤ 63) : m_law ⟨ns⟩ = .ok true := by
  unfold m_law
  simp only [M.ok_bind]
  rw [catM_ok (by simp; omega)]
  simp only [M.ok_bind]
  exact forM_all fun x _ => law_turn x

def topS (i : Nat) : Stmt := PySem.Challenge.pw_meshworks_k61_fractions_reckoned.main.body.getD i (.Pass ⟨0, 0, 0, 0⟩)
section
variable {P : Program} {w : World} {K : PySem.W.Frag} {mg : Str → Option Value} {base : Heap} {ce : Ce}
/-! ### _law_part -/
abbrev s_law_part : Stmt := topS 8
abbrev N_law_part : List Str := ["one", "other", "rest"]
theorem sc_law_part : FnScope N_law_part ["one", "other"] (defScope s_law_part) := ⟨rfl, rfl, rfl, by decide +kernel, rfl, by decide +kernel, by decide +kernel⟩
abbrev sp_law_part (K : PySem.W.Frag) (ce : Ce) : Sp := SpF0 ce (RC K (α := Int) (RC K (α := Int) R0)) (rv K (ρ := Int)) (fun a : (Int × Int × Unit) => m_law_part a.1 a.2.1)
theorem ok_law_part {f : Addr} {fd : FuncData} (FF : Fun K "_law_part" "_law_part" s_law_part f fd) : FnOk P w K mg base CX0 1 f fd ["one", "other"] (sp_law_part K ce) := by
  refine FF.ok sc_law_part (fun vs H0 Q E h => ?_) (fun cdv A outer s H0 vs Q E hr h => ?_)
  · obtain ⟨F0, ⟨a0_one, a1_other, _⟩, e0, ⟨v0, _, rfl, r0, ⟨v1, _, rfl, r1, rfl⟩⟩, w⟩ := h
    rfl
  · obtain ⟨F0, ⟨a0_one, a1_other, _⟩, e0, ⟨v0, _, rfl, r0, ⟨v1, _, rfl, r1, rfl⟩⟩, w⟩ := h
    have w := wp_post w
    have G := Gr.rf e0
    have nd := sc_law_part.nd
    have hQ : ∀ r F1 H1 v, Gr F0 H0 F1 H1 → (rv K (ρ := Int)) F0 H0 F1 H1 v r → Fin (rv K (ρ := Int)) F0 H0 Q r → Q v H1 := fun r F1 H1 v g m p => p F1 H1 v g m
    refine ⟨_, (pss_cons (ps_while (by first | exact PassesOwn.never | exact passes_of rfl) (pt_cmpR op_gt (pv 1) pe_int (nomark _)) (pss_cons (ps_set (i := 2) nd rfl (by first | exact Or.inl rfl | exact Or.inr rfl) (pe_op op_mod (pv 0) (pv 1)))
      (pss_cons (ps_set (i := 0) nd rfl (by first | exact Or.inl rfl | exact Or.inr rfl) (pv 1))
      (pss_one (ps_set (i := 1) nd rfl (by first | exact Or.inl rfl | exact Or.inr rfl) (pv 2))))))
      (pss_one (ps_ret (pv 0)))), ?_⟩
    have w := show Wp ce E0 H0 (m_law_part a0_one a1_other) _ from w
    unfold m_law_part at w
    refine q_while (S := (Int × Int)) (fun s F' H' σ' => ∃ (v_57 : V) (v_58 : V) (z_59 : Option V), σ' = [some v_57, some v_58, z_59] ∧ Gr F0 H0 F' H' ∧ Ex F0 F' ∧ rp (α := Int) K F' v_57 s.1 ∧ rp (α := Int) K F' v_58 s.2) ⟨_, _, _, rfl, G, Ex.rf _, r0, r1⟩ (fun _ _ _ _ ⟨_, _, _, _, G, _⟩ => G) w ?_ ?_ ?_ ?_
    · rintro s_60 F_61 H_62 _ ⟨v_57, v_58, z_59, hs_64, G, e_65, r_66, r_67⟩
      subst hs_64
      unfold m_law_part_c1
      exact (t_of (e2 (em_var rfl r_67) em_int o_gt))
    · rintro s_60 _ _ _ _ _ ⟨v_57, v_58, z_59, hs_68, G, e_69, r_70, r_71⟩ g_72
      subst hs_68
      exact ⟨_, _, _, rfl, G.tr g_72, Ex.tr e_69 g_72.ff, Rep.mo (K := K) g_72.ff r_70, Rep.mo (K := K) g_72.ff r_71⟩
    · rintro s_60 F_73 H_74 _ ⟨v_57, v_58, z_59, hs_75, G, e_76, r_77, r_78⟩ D_83 P_84 hrt_85 hN_79 hC_80 hB_81 hP_82 w
      subst hs_75
      have hQ : ∀ r F1 H1 v, Gr F0 H0 F1 H1 → (rv K (ρ := Int)) F0 H0 F1 H1 v r → P_84 (.rt r) → D_83.rt v H1 := fun r F1 H1 v g m p => by rw [hrt_85]; exact hQ r F1 H1 v g m (hP_82 _ p)
      unfold m_law_part_b1 at w
      refine q_asg G w (em_op (em_var rfl r_77) (em_var rfl r_78) fun _ _ => o_modM) fun rest_88 F_89 H_90 v_92 g_91 r_93 w => ?_
      have G := G.tr g_91
      have r_77 := Rep.mo (K := K) g_91.ff r_77
      have r_78 := Rep.mo (K := K) g_91.ff r_78
      have e_76 := Ex.tr e_76 g_91.ff
      refine q_asg G w (em_var rfl r_78) fun one_94 F_95 H_96 v_98 g_97 r_99 w => ?_
      have G := G.tr g_97
      have r_78 := Rep.mo (K := K) g_97.ff r_78
      have r_93 := Rep.mo (K := K) g_97.ff r_93
      have e_76 := Ex.tr e_76 g_97.ff
      refine s_asg G w (em_var rfl r_93) fun other_100 F_101 H_102 v_104 g_103 r_105 w => ?_
      have G := G.tr g_103
      have r_93 := Rep.mo (K := K) g_103.ff r_93
      have r_99 := Rep.mo (K := K) g_103.ff r_99
      have e_76 := Ex.tr e_76 g_103.ff
      exact hN_79 _ w _ _ _ ⟨_, _, _, rfl, G, e_76, r_99, r_105⟩
    · rintro s_110 F_111 H_112 _ ⟨v_57, v_58, z_59, hs_106, G, e_107, r_108, r_109⟩ w
      subst hs_106
      exact s_ret0 G w (em_var rfl r_108) fun r F1 H1 v g m p => hQ r F1 H1 v g m p
/-! ### _law_fraction -/
abbrev s_law_fraction : Stmt := topS 9
abbrev N_law_fraction : List Str := ["top", "bottom", "part"]
theorem sc_law_fraction : FnScope N_law_fraction ["top", "bottom"] (defScope s_law_fraction) := ⟨rfl, rfl, rfl, by decide +kernel, rfl, by decide +kernel, by decide +kernel⟩
abbrev sp_law_fraction (K : PySem.W.Frag) (ce : Ce) : Sp := SpF0 ce (RC K (α := Int) (RC K (α := Int) R0)) (rv K (ρ := (Int × Int))) (fun a : (Int × Int × Unit) => m_law_fraction a.1 a.2.1)
theorem ok_law_fraction {f : Addr} {fd : FuncData} (FF : Fun K "_law_fraction" "_law_fraction" s_law_fraction f fd) {a__law_part : Addr} {d__law_part : FuncData} (G__law_part : FnOk P w K mg base CX0 1 a__law_part d__law_part ["one", "other"] (sp_law_part K ce)) (mg__law_part : mg "_law_part" = some (.ref a__law_part)) (k__law_part : PySem.W.keepIn K (.ref a__law_part) = true) (b__law_part : Binds K d__law_part ["one", "other"] []) (z_abs : mg "abs" = none) : FnOk P w K mg base CX0 2 f fd ["top", "bottom"] (sp_law_fraction K ce) := by
  refine FF.ok sc_law_fraction (fun vs H0 Q E h => ?_) (fun cdv A outer s H0 vs Q E hr h => ?_)
  · obtain ⟨F0, ⟨a0_top, a1_bottom, _⟩, e0, ⟨v0, _, rfl, r0, ⟨v1, _, rfl, r1, rfl⟩⟩, w⟩ := h
    rfl
  · obtain ⟨F0, ⟨a0_top, a1_bottom, _⟩, e0, ⟨v0, _, rfl, r0, ⟨v1, _, rfl, r1, rfl⟩⟩, w⟩ := h
    have w := wp_post w
    have G := Gr.rf e0
    have nd := sc_law_fraction.nd
    have hQ : ∀ r F1 H1 v, Gr F0 H0 F1 H1 → (rv K (ρ := (Int × Int))) F0 H0 F1 H1 v r → Fin (rv K (ρ := (Int × Int))) F0 H0 Q r → Q v H1 := fun r F1 H1 v g m p => p F1 H1 v g m
    refine ⟨_, (pss_cons (ps_set (i := 2) nd rfl (by first | exact Or.inl rfl | exact Or.inr rfl) (pe_call G__law_part (hr.mono (by decide)) rfl mg__law_part k__law_part b__law_part .nil pass0 (pa_cons (pe_callB call_abs (by rfl) z_abs (by decide +kernel) (pa_cons (pv 0) pa_nil)) (pa_cons (pe_callB call_abs (by rfl) z_abs (by decide +kernel) (pa_cons (pv 1) pa_nil)) pa_nil))))
      (pss_cons (ps_if (pt_cmpR op_lt (pv 1) pe_int (nomark _)) (pss_one (ps_set (i := 2) nd rfl (by first | exact Or.inl rfl | exact Or.inr rfl) (pe_un un_neg (pv 2)))) pss_nil)
      (pss_one (ps_ret (pe_tup (pa_cons (pe_op op_fdivZ (pv 0) (pv 2)) (pa_cons (pe_op op_fdivZ (pv 1) (pv 2)) pa_nil))))))), ?_⟩
    have w := show Wp ce E0 H0 (m_law_fraction a0_top a1_bottom) _ from w
    unfold m_law_fraction at w
    refine q_asg G w (e_call0 (f := (fun a : (Int × Int × Unit) => m_law_part a.1 a.2.1)) (x := ((if a0_top < 0 then -a0_top else a0_top), (if a1_bottom < 0 then -a1_bottom else a1_bottom), ())) (e_cons (e_cb (e_cons (em_var rfl r0) ea_nil) a_abs) (e_cons (e_cb (e_cons (em_var rfl r1) ea_nil) a_abs) ea_nil))) fun part_144 F_145 H_146 v_148 g_147 r_149 w => ?_
    have G := G.tr g_147
    have r0 := Rep.mo (K := K) g_147.ff r0
    have r1 := Rep.mo (K := K) g_147.ff r1
    refine q_join (W := Int) (fun s F' H' σ' => ∃ (v_154 : V), σ' = [some v0, some v1, some v_154] ∧ Gr F0 H0 F' H' ∧ Ex F_145 F' ∧ rp (α := Int) K F' v_154 s) w ?_ ?_
    · rintro s_153 F_158 H_159 σs_153 ⟨v_154, hs_155, G, e_156, r_157⟩ w
      subst hs_155
      have r0 := Rep.mo (K := K) e_156 r0
      have r1 := Rep.mo (K := K) e_156 r1
      exact s_ret0 G w (em_tup2 (em_op (em_var rfl r0) (em_var rfl r_157) fun _ _ => o_fdivZ) (em_op (em_var rfl r1) (em_var rfl r_157) fun _ _ => o_fdivZ)) fun r F1 H1 v g m p => hQ r F1 H1 v g m p
    · intro P_167 hk_166 w
      refine s_if2 G w (t_of (e2 (em_var rfl r1) em_int o_lt)) (fun F_150 H_151 g_152 w => ?_) (fun F_150 H_151 g_152 w => ?_)
      · have e_168 : Ex F_145 F_150 := g_152.ff
        have G := G.tr g_152
        have r0 := Rep.mo (K := K) g_152.ff r0
        have r1 := Rep.mo (K := K) g_152.ff r1
        have r_149 := Rep.mo (K := K) g_152.ff r_149
        refine s_asg G w (e_neg (em_var rfl r_149)) fun part_169 F_170 H_171 v_173 g_172 r_174 w => ?_
        have G := G.tr g_172
        have r0 := Rep.mo (K := K) g_172.ff r0
        have r1 := Rep.mo (K := K) g_172.ff r1
        have e_168 := Ex.tr e_168 g_172.ff
        exact hk_166 _ w _ _ _ ⟨_, rfl, G, e_168, r_174⟩
      · have e_168 : Ex F_145 F_150 := g_152.ff
        have G := G.tr g_152
        have r0 := Rep.mo (K := K) g_152.ff r0
        have r1 := Rep.mo (K := K) g_152.ff r1
        have r_149 := Rep.mo (K := K) g_152.ff r_149
        refine s_next ?_
        exact hk_166 _ w _ _ _ ⟨_, rfl, G, e_168, r_149⟩
/-! ### _law_drawn -/
abbrev s_law_drawn : Stmt := topS 15
abbrev N_law_drawn : List Str := ["cell", "far"]
theorem sc_law_drawn : FnScope N_law_drawn ["cell"] (defScope s_law_drawn) := ⟨rfl, rfl, rfl, by decide +kernel, rfl, by decide +kernel, by decide +kernel⟩
abbrev sp_law_drawn (K : PySem.W.Frag) (ce : Ce) : Sp := SpF0 ce (RC K (α := Int) R0) (rv K (ρ := (Int × Int))) (fun a : (Int × Unit) => m_law_drawn a.1)
theorem ok_law_drawn {f : Addr} {fd : FuncData} (FF : Fun K "_law_drawn" "_law_drawn" s_law_drawn f fd) {a__law_fraction : Addr} {d__law_fraction : FuncData} (G__law_fraction : FnOk P w K mg base CX0 2 a__law_fraction d__law_fraction ["top", "bottom"] (sp_law_fraction K ce)) (mg__law_fraction : mg "_law_fraction" = some (.ref a__law_fraction)) (k__law_fraction : PySem.W.keepIn K (.ref a__law_fraction) = true) (b__law_fraction : Binds K d__law_fraction ["top", "bottom"] []) : FnOk P w K mg base CX0 3 f fd ["cell"] (sp_law_drawn K ce) := by
  refine FF.ok sc_law_drawn (fun vs H0 Q E h => ?_) (fun cdv A outer s H0 vs Q E hr h => ?_)
  · obtain ⟨F0, ⟨a0_cell, _⟩, e0, ⟨v0, _, rfl, r0, rfl⟩, w⟩ := h
    rfl
  · obtain ⟨F0, ⟨a0_cell, _⟩, e0, ⟨v0, _, rfl, r0, rfl⟩, w⟩ := h
    have w := wp_post w
    have G := Gr.rf e0
    have nd := sc_law_drawn.nd
    have hQ : ∀ r F1 H1 v, Gr F0 H0 F1 H1 → (rv K (ρ := (Int × Int))) F0 H0 F1 H1 v r → Fin (rv K (ρ := (Int × Int))) F0 H0 Q r → Q v H1 := fun r F1 H1 v g m p => p F1 H1 v g m
    refine ⟨_, (pss_cons (ps_set (i := 1) nd rfl (by first | exact Or.inl rfl | exact Or.inr rfl) (pe_ix ix_list (pe_lst (pa_cons pe_int (pa_cons pe_int (pa_cons (pe_op op_pow pe_int pe_int) pa_nil)))) (pe_op op_mod (pv 0) pe_int) (fun _ _ => rfl)))
      (pss_one (ps_ret (pe_call G__law_fraction (hr.mono (by decide)) rfl mg__law_fraction k__law_fraction b__law_fraction .nil pass0 (pa_cons (pe_op op_sub (pe_op op_mod (pe_op op_fdiv (pv 0) pe_int) (pe_op op_add (pe_op op_mul pe_int (pv 1)) pe_int)) (pv 1)) (pa_cons (pe_op op_add pe_int (pe_op op_mod (pe_op op_mod (pe_op op_mul (pe_op op_fdiv (pv 0) pe_int) pe_int) pe_int) (pv 1))) pa_nil)))))), ?_⟩
    have w := show Wp ce E0 H0 (m_law_drawn a0_cell) _ from w
    unfold m_law_drawn at w
    refine q_asg G w (em_op (Ev.nv (e_lst (e_lcons em_int (e_lcons em_int (e_lcons (e_is (e2 em_int em_int (o_pow (by decide))) pow_10_30) (el_nil (α := Int))))) (by simp))) (e2 (em_var rfl r0) em_int (o_mod (by decide))) fun _ _ => o_ixL) fun far_198 F_199 H_200 v_202 g_201 r_203 w => ?_
    have G := G.tr g_201
    have r0 := Rep.mo (K := K) g_201.ff r0
    exact s_ret0 G w (em_call0 (f := (fun a : (Int × Int × Unit) => m_law_fraction a.1 a.2.1)) (ea_cons (em_op (em_op (e2 (em_var rfl r0) em_int (o_fdiv ⟨by decide, by decide⟩)) (e2 (e2 em_int (em_var rfl r_203) (o_mulL (.inl ⟨by decide, by decide⟩))) em_int o_add) fun _ _ => o_modM) (em_var rfl r_203) fun _ _ => o_sub) (ea_cons (em_op em_int (em_op (e2 (e2 (e2 (em_var rfl r0) em_int (o_fdiv ⟨by decide, by decide⟩)) em_int (o_mulL (.inr ⟨by decide, by decide⟩))) em_int (o_mod (by decide))) (em_var rfl r_203) fun _ _ => o_modM) fun _ _ => o_add) ea_nil))) fun r F1 H1 v g m p => hQ r F1 H1 v g m p
/-! ### fraction_less -/
abbrev s_fraction_less : Stmt := topS 5
abbrev N_fraction_less : List Str := ["one", "other"]
theorem sc_fraction_less : FnScope N_fraction_less ["one", "other"] (defScope s_fraction_less) := ⟨rfl, rfl, rfl, by decide +kernel, rfl, by decide +kernel, by decide +kernel⟩
abbrev sp_fraction_less (K : PySem.W.Frag) (ce : Ce) : Sp := SpF0 ce (RC K (α := (Int × Int)) (RC K (α := (Int × Int)) R0)) (rv K (ρ := Bool)) (fun a : ((Int × Int) × (Int × Int) × Unit) => m_fraction_less a.1 a.2.1)
theorem ok_fraction_less {f : Addr} {fd : FuncData} (FF : Fun K "fraction_less" "fraction_less" s_fraction_less f fd) : FnOk P w K mg base CX0 1 f fd ["one", "other"] (sp_fraction_less K ce) := by
  refine FF.ok sc_fraction_less (fun vs H0 Q E h => ?_) (fun cdv A outer s H0 vs Q E hr h => ?_)
  · obtain ⟨F0, ⟨a0_one, a1_other, _⟩, e0, ⟨v0, _, rfl, r0, ⟨v1, _, rfl, r1, rfl⟩⟩, w⟩ := h
    rfl
  · obtain ⟨F0, ⟨a0_one, a1_other, _⟩, e0, ⟨v0, _, rfl, r0, ⟨v1, _, rfl, r1, rfl⟩⟩, w⟩ := h
    have w := wp_post w
    have G := Gr.rf e0
    have nd := sc_fraction_less.nd
    have hQ : ∀ r F1 H1 v, Gr F0 H0 F1 H1 → (rv K (ρ := Bool)) F0 H0 F1 H1 v r → Fin (rv K (ρ := Bool)) F0 H0 Q r → Q v H1 := fun r F1 H1 v g m p => p F1 H1 v g m
    refine ⟨_, (pss_one (ps_ret (pe_cmpR op_lt (pe_op op_mulW (pe_ix ix_tup (pv 0) pe_int (fun _ _ => rfl)) (pe_ix ix_tup (pv 1) pe_int (fun _ _ => rfl))) (pe_op op_mulW (pe_ix ix_tup (pv 1) pe_int (fun _ _ => rfl)) (pe_ix ix_tup (pv 0) pe_int (fun _ _ => rfl))) (nomark _)))), ?_⟩
    have w := show Wp ce E0 H0 (m_fraction_less a0_one a1_other) _ from w
    unfold m_fraction_less at w
    exact s_ret0 G w (em_op (em_op (e2 (em_var rfl r0) em_int (o_fst rfl)) (e2 (em_var rfl r1) em_int (o_snd rfl)) fun _ _ => o_mul) (em_op (e2 (em_var rfl r1) em_int (o_fst rfl)) (e2 (em_var rfl r0) em_int (o_snd rfl)) fun _ _ => o_mul) fun _ _ => o_lt) fun r F1 H1 v g m p => hQ r F1 H1 v g m p
/-! ### common_part -/
abbrev s_common_part : Stmt := topS 1
abbrev N_common_part : List Str := ["one", "other", "rest"]
theorem sc_common_part : FnScope N_common_part ["one", "other"] (defScope s_common_part) := ⟨rfl, rfl, rfl, by decide +kernel, rfl, by decide +kernel, by decide +kernel⟩
abbrev sp_common_part (K : PySem.W.Frag) (ce : Ce) : Sp := SpF0 ce (RC K (α := Int) (RC K (α := Int) R0)) (rv K (ρ := Int)) (fun a : (Int × Int × Unit) => m_common_part a.1 a.2.1)
theorem ok_common_part {f : Addr} {fd : FuncData} (FF : Fun K "common_part" "common_part" s_common_part f fd) : FnOk P w K mg base CX0 1 f fd ["one", "other"] (sp_common_part K ce) := by
  refine FF.ok sc_common_part (fun vs H0 Q E h => ?_) (fun cdv A outer s H0 vs Q E hr h => ?_)
  · obtain ⟨F0, ⟨a0_one, a1_other, _⟩, e0, ⟨v0, _, rfl, r0, ⟨v1, _, rfl, r1, rfl⟩⟩, w⟩ := h
    rfl
  · obtain ⟨F0, ⟨a0_one, a1_other, _⟩, e0, ⟨v0, _, rfl, r0, ⟨v1, _, rfl, r1, rfl⟩⟩, w⟩ := h
    have w := wp_post w
    have G := Gr.rf e0
    have nd := sc_common_part.nd
    have hQ : ∀ r F1 H1 v, Gr F0 H0 F1 H1 → (rv K (ρ := Int)) F0 H0 F1 H1 v r → Fin (rv K (ρ := Int)) F0 H0 Q r → Q v H1 := fun r F1 H1 v g m p => p F1 H1 v g m
    refine ⟨_, (pss_cons (ps_while (by first | exact PassesOwn.never | exact passes_of rfl) (pt_cmpR op_gt (pv 1) pe_int (nomark _)) (pss_cons (ps_set (i := 2) nd rfl (by first | exact Or.inl rfl | exact Or.inr rfl) (pe_op op_mod (pv 0) (pv 1)))
      (pss_cons (ps_set (i := 0) nd rfl (by first | exact Or.inl rfl | exact Or.inr rfl) (pv 1))
      (pss_one (ps_set (i := 1) nd rfl (by first | exact Or.inl rfl | exact Or.inr rfl) (pv 2))))))
      (pss_one (ps_ret (pv 0)))), ?_⟩
    have w := show Wp ce E0 H0 (m_common_part a0_one a1_other) _ from w
    unfold m_common_part at w
    refine q_while (S := (Int × Int)) (fun s F' H' σ' => ∃ (v_285 : V) (v_286 : V) (z_287 : Option V), σ' = [some v_285, some v_286, z_287] ∧ Gr F0 H0 F' H' ∧ Ex F0 F' ∧ rp (α := Int) K F' v_285 s.1 ∧ rp (α := Int) K F' v_286 s.2) ⟨_, _, _, rfl, G, Ex.rf _, r0, r1⟩ (fun _ _ _ _ ⟨_, _, _, _, G, _⟩ => G) w ?_ ?_ ?_ ?_
    · rintro s_288 F_289 H_290 _ ⟨v_285, v_286, z_287, hs_292, G, e_293, r_294, r_295⟩
      subst hs_292
      unfold m_common_part_c1
      exact (t_of (e2 (em_var rfl r_295) em_int o_gt))
    · rintro s_288 _ _ _ _ _ ⟨v_285, v_286, z_287, hs_296, G, e_297, r_298, r_299⟩ g_300
      subst hs_296
      exact ⟨_, _, _, rfl, G.tr g_300, Ex.tr e_297 g_300.ff, Rep.mo (K := K) g_300.ff r_298, Rep.mo (K := K) g_300.ff r_299⟩
    · rintro s_288 F_301 H_302 _ ⟨v_285, v_286, z_287, hs_303, G, e_304, r_305, r_306⟩ D_311 P_312 hrt_313 hN_307 hC_308 hB_309 hP_310 w
      subst hs_303
      have hQ : ∀ r F1 H1 v, Gr F0 H0 F1 H1 → (rv K (ρ := Int)) F0 H0 F1 H1 v r → P_312 (.rt r) → D_311.rt v H1 := fun r F1 H1 v g m p => by rw [hrt_313]; exact hQ r F1 H1 v g m (hP_310 _ p)
      unfold m_common_part_b1 at w
      refine q_asg G w (em_op (em_var rfl r_305) (em_var rfl r_306) fun _ _ => o_modM) fun rest_316 F_317 H_318 v_320 g_319 r_321 w => ?_
      have G := G.tr g_319
      have r_305 := Rep.mo (K := K) g_319.ff r_305
      have r_306 := Rep.mo (K := K) g_319.ff r_306
      have e_304 := Ex.tr e_304 g_319.ff
      refine q_asg G w (em_var rfl r_306) fun one_322 F_323 H_324 v_326 g_325 r_327 w => ?_
      have G := G.tr g_325
      have r_306 := Rep.mo (K := K) g_325.ff r_306
      have r_321 := Rep.mo (K := K) g_325.ff r_321
      have e_304 := Ex.tr e_304 g_325.ff
      refine s_asg G w (em_var rfl r_321) fun other_328 F_329 H_330 v_332 g_331 r_333 w => ?_
      have G := G.tr g_331
      have r_321 := Rep.mo (K := K) g_331.ff r_321
      have r_327 := Rep.mo (K := K) g_331.ff r_327
      have e_304 := Ex.tr e_304 g_331.ff
      exact hN_307 _ w _ _ _ ⟨_, _, _, rfl, G, e_304, r_327, r_333⟩
    · rintro s_338 F_339 H_340 _ ⟨v_285, v_286, z_287, hs_334, G, e_335, r_336, r_337⟩ w
      subst hs_334
      exact s_ret0 G w (em_var rfl r_336) fun r F1 H1 v g m p => hQ r F1 H1 v g m p
/-! ### fraction_of -/
abbrev s_fraction_of : Stmt := topS 2
abbrev N_fraction_of : List Str := ["top", "bottom", "part"]
theorem sc_fraction_of : FnScope N_fraction_of ["top", "bottom"] (defScope s_fraction_of) := ⟨rfl, rfl, rfl, by decide +kernel, rfl, by decide +kernel, by decide +kernel⟩
abbrev sp_fraction_of (K : PySem.W.Frag) (ce : Ce) : Sp := SpF0 ce (RC K (α := Int) (RC K (α := Int) R0)) (rv K (ρ := (Int × Int))) (fun a : (Int × Int × Unit) => m_fraction_of a.1 a.2.1)
theorem ok_fraction_of {f : Addr} {fd : FuncData} (FF : Fun K "fraction_of" "fraction_of" s_fraction_of f fd) {a_common_part : Addr} {d_common_part : FuncData} (G_common_part : FnOk P w K mg base CX0 1 a_common_part d_common_part ["one", "other"] (sp_common_part K ce)) (mg_common_part : mg "common_part" = some (.ref a_common_part)) (k_common_part : PySem.W.keepIn K (.ref a_common_part) = true) (b_common_part : Binds K d_common_part ["one", "other"] []) (z_abs : mg "abs" = none) : FnOk P w K mg base CX0 2 f fd ["top", "bottom"] (sp_fraction_of K ce) := by
  refine FF.ok sc_fraction_of (fun vs H0 Q E h => ?_) (fun cdv A outer s H0 vs Q E hr h => ?_)
  · obtain ⟨F0, ⟨a0_top, a1_bottom, _⟩, e0, ⟨v0, _, rfl, r0, ⟨v1, _, rfl, r1, rfl⟩⟩, w⟩ := h
    rfl
  · obtain ⟨F0, ⟨a0_top, a1_bottom, _⟩, e0, ⟨v0, _, rfl, r0, ⟨v1, _, rfl, r1, rfl⟩⟩, w⟩ := h
    have w := wp_post w
    have G := Gr.rf e0
    have nd := sc_fraction_of.nd
    have hQ : ∀ r F1 H1 v, Gr F0 H0 F1 H1 → (rv K (ρ := (Int × Int))) F0 H0 F1 H1 v r → Fin (rv K (ρ := (Int × Int))) F0 H0 Q r → Q v H1 := fun r F1 H1 v g m p => p F1 H1 v g m
    refine ⟨_, (pss_cons (ps_set (i := 2) nd rfl (by first | exact Or.inl rfl | exact Or.inr rfl) (pe_call G_common_part (hr.mono (by decide)) rfl mg_common_part k_common_part b_common_part .nil pass0 (pa_cons (pe_callB call_abs (by rfl) z_abs (by decide +kernel) (pa_cons (pv 0) pa_nil)) (pa_cons (pe_callB call_abs (by rfl) z_abs (by decide +kernel) (pa_cons (pv 1) pa_nil)) pa_nil))))
      (pss_cons (ps_if (pt_cmpR op_lt (pv 1) pe_int (nomark _)) (pss_one (ps_set (i := 2) nd rfl (by first | exact Or.inl rfl | exact Or.inr rfl) (pe_un un_neg (pv 2)))) pss_nil)
      (pss_one (ps_ret (pe_tup (pa_cons (pe_op op_fdivZ (pv 0) (pv 2)) (pa_cons (pe_op op_fdivZ (pv 1) (pv 2)) pa_nil))))))), ?_⟩
    have w := show Wp ce E0 H0 (m_fraction_of a0_top a1_bottom) _ from w
    unfold m_fraction_of at w
    refine q_asg G w (e_call0 (f := (fun a : (Int × Int × Unit) => m_common_part a.1 a.2.1)) (x := ((if a0_top < 0 then -a0_top else a0_top), (if a1_bottom < 0 then -a1_bottom else a1_bottom), ())) (e_cons (e_cb (e_cons (em_var rfl r0) ea_nil) a_abs) (e_cons (e_cb (e_cons (em_var rfl r1) ea_nil) a_abs) ea_nil))) fun part_372 F_373 H_374 v_376 g_375 r_377 w => ?_
    have G := G.tr g_375
    have r0 := Rep.mo (K := K) g_375.ff r0
    have r1 := Rep.mo (K := K) g_375.ff r1
    refine q_join (W := Int) (fun s F' H' σ' => ∃ (v_382 : V), σ' = [some v0, some v1, some v_382] ∧ Gr F0 H0 F' H' ∧ Ex F_373 F' ∧ rp (α := Int) K F' v_382 s) w ?_ ?_
    · rintro s_381 F_386 H_387 σs_381 ⟨v_382, hs_383, G, e_384, r_385⟩ w
      subst hs_383
      have r0 := Rep.mo (K := K) e_384 r0
      have r1 := Rep.mo (K := K) e_384 r1
      exact s_ret0 G w (em_tup2 (em_op (em_var rfl r0) (em_var rfl r_385) fun _ _ => o_fdivZ) (em_op (em_var rfl r1) (em_var rfl r_385) fun _ _ => o_fdivZ)) fun r F1 H1 v g m p => hQ r F1 H1 v g m p
    · intro P_395 hk_394 w
      refine s_if2 G w (t_of (e2 (em_var rfl r1) em_int o_lt)) (fun F_378 H_379 g_380 w => ?_) (fun F_378 H_379 g_380 w => ?_)
      · have e_396 : Ex F_373 F_378 := g_380.ff
        have G := G.tr g_380
        have r0 := Rep.mo (K := K) g_380.ff r0
        have r1 := Rep.mo (K := K) g_380.ff r1
        have r_377 := Rep.mo (K := K) g_380.ff r_377
        refine s_asg G w (e_neg (em_var rfl r_377)) fun part_397 F_398 H_399 v_401 g_400 r_402 w => ?_
        have G := G.tr g_400
        have r0 := Rep.mo (K := K) g_400.ff r0
        have r1 := Rep.mo (K := K) g_400.ff r1
        have e_396 := Ex.tr e_396 g_400.ff
        exact hk_394 _ w _ _ _ ⟨_, rfl, G, e_396, r_402⟩
      · have e_396 : Ex F_373 F_378 := g_380.ff
        have G := G.tr g_380
        have r0 := Rep.mo (K := K) g_380.ff r0
        have r1 := Rep.mo (K := K) g_380.ff r1
        have r_377 := Rep.mo (K := K) g_380.ff r_377
        refine s_next ?_
        exact hk_394 _ w _ _ _ ⟨_, rfl, G, e_396, r_377⟩
/-! ### fraction_sum -/
abbrev s_fraction_sum : Stmt := topS 3
abbrev N_fraction_sum : List Str := ["one", "other"]
theorem sc_fraction_sum : FnScope N_fraction_sum ["one", "other"] (defScope s_fraction_sum) := ⟨rfl, rfl, rfl, by decide +kernel, rfl, by decide +kernel, by decide +kernel⟩
abbrev sp_fraction_sum (K : PySem.W.Frag) (ce : Ce) : Sp := SpF0 ce (RC K (α := (Int × Int)) (RC K (α := (Int × Int)) R0)) (rv K (ρ := (Int × Int))) (fun a : ((Int × Int) × (Int × Int) × Unit) => m_fraction_sum a.1 a.2.1)
theorem ok_fraction_sum {f : Addr} {fd : FuncData} (FF : Fun K "fraction_sum" "fraction_sum" s_fraction_sum f fd) {a_fraction_of : Addr} {d_fraction_of : FuncData} (G_fraction_of : FnOk P w K mg base CX0 2 a_fraction_of d_fraction_of ["top", "bottom"] (sp_fraction_of K ce)) (mg_fraction_of : mg "fraction_of" = some (.ref a_fraction_of)) (k_fraction_of : PySem.W.keepIn K (.ref a_fraction_of) = true) (b_fraction_of : Binds K d_fraction_of ["top", "bottom"] []) : FnOk P w K mg base CX0 3 f fd ["one", "other"] (sp_fraction_sum K ce) := by
  refine FF.ok sc_fraction_sum (fun vs H0 Q E h => ?_) (fun cdv A outer s H0 vs Q E hr h => ?_)
  · obtain ⟨F0, ⟨a0_one, a1_other, _⟩, e0, ⟨v0, _, rfl, r0, ⟨v1, _, rfl, r1, rfl⟩⟩, w⟩ := h
    rfl
  · obtain ⟨F0, ⟨a0_one, a1_other, _⟩, e0, ⟨v0, _, rfl, r0, ⟨v1, _, rfl, r1, rfl⟩⟩, w⟩ := h
    have w := wp_post w
    have G := Gr.rf e0
    have nd := sc_fraction_sum.nd
    have hQ : ∀ r F1 H1 v, Gr F0 H0 F1 H1 → (rv K (ρ := (Int × Int))) F0 H0 F1 H1 v r → Fin (rv K (ρ := (Int × Int))) F0 H0 Q r → Q v H1 := fun r F1 H1 v g m p => p F1 H1 v g m
    refine ⟨_, (pss_one (ps_ret (pe_call G_fraction_of (hr.mono (by decide)) rfl mg_fraction_of k_fraction_of b_fraction_of .nil pass0 (pa_cons (pe_op op_add (pe_op op_mulW (pe_ix ix_tup (pv 0) pe_int (fun _ _ => rfl)) (pe_ix ix_tup (pv 1) pe_int (fun _ _ => rfl))) (pe_op op_mulW (pe_ix ix_tup (pv 1) pe_int (fun _ _ => rfl)) (pe_ix ix_tup (pv 0) pe_int (fun _ _ => rfl)))) (pa_cons (pe_op op_mulW (pe_ix ix_tup (pv 0) pe_int (fun _ _ => rfl)) (pe_ix ix_tup (pv 1) pe_int (fun _ _ => rfl))) pa_nil))))), ?_⟩
    have w := show Wp ce E0 H0 (m_fraction_sum a0_one a1_other) _ from w
    unfold m_fraction_sum at w
    exact s_ret0 G w (em_call0 (f := (fun a : (Int × Int × Unit) => m_fraction_of a.1 a.2.1)) (ea_cons (em_op (em_op (e2 (em_var rfl r0) em_int (o_fst rfl)) (e2 (em_var rfl r1) em_int (o_snd rfl)) fun _ _ => o_mul) (em_op (e2 (em_var rfl r1) em_int (o_fst rfl)) (e2 (em_var rfl r0) em_int (o_snd rfl)) fun _ _ => o_mul) fun _ _ => o_add) (ea_cons (em_op (e2 (em_var rfl r0) em_int (o_snd rfl)) (e2 (em_var rfl r1) em_int (o_snd rfl)) fun _ _ => o_mul) ea_nil))) fun r F1 H1 v g m p => hQ r F1 H1 v g m p
/-! ### fraction_times -/
abbrev s_fraction_times : Stmt := topS 4
abbrev N_fraction_times : List Str := ["one", "other"]
theorem sc_fraction_times : FnScope N_fraction_times ["one", "other"] (defScope s_fraction_times) := ⟨rfl, rfl, rfl, by decide +kernel, rfl, by decide +kernel, by decide +kernel⟩
abbrev sp_fraction_times (K : PySem.W.Frag) (ce : Ce) : Sp := SpF0 ce (RC K (α := (Int × Int)) (RC K (α := (Int × Int)) R0)) (rv K (ρ := (Int × Int))) (fun a : ((Int × Int) × (Int × Int) × Unit) => m_fraction_times a.1 a.2.1)
theorem ok_fraction_times {f : Addr} {fd : FuncData} (FF : Fun K "fraction_times" "fraction_times" s_fraction_times f fd) {a_fraction_of : Addr} {d_fraction_of : FuncData} (G_fraction_of : FnOk P w K mg base CX0 2 a_fraction_of d_fraction_of ["top", "bottom"] (sp_fraction_of K ce)) (mg_fraction_of : mg "fraction_of" = some (.ref a_fraction_of)) (k_fraction_of : PySem.W.keepIn K (.ref a_fraction_of) = true) (b_fraction_of : Binds K d_fraction_of ["top", "bottom"] []) : FnOk P w K mg base CX0 3 f fd ["one", "other"] (sp_fraction_times K ce) := by
  refine FF.ok sc_fraction_times (fun vs H0 Q E h => ?_) (fun cdv A outer s H0 vs Q E hr h => ?_)
  · obtain ⟨F0, ⟨a0_one, a1_other, _⟩, e0, ⟨v0, _, rfl, r0, ⟨v1, _, rfl, r1, rfl⟩⟩, w⟩ := h
    rfl
  · obtain ⟨F0, ⟨a0_one, a1_other, _⟩, e0, ⟨v0, _, rfl, r0, ⟨v1, _, rfl, r1, rfl⟩⟩, w⟩ := h
    have w := wp_post w
    have G := Gr.rf e0
    have nd := sc_fraction_times.nd
    have hQ : ∀ r F1 H1 v, Gr F0 H0 F1 H1 → (rv K (ρ := (Int × Int))) F0 H0 F1 H1 v r → Fin (rv K (ρ := (Int × Int))) F0 H0 Q r → Q v H1 := fun r F1 H1 v g m p => p F1 H1 v g m
    refine ⟨_, (pss_one (ps_ret (pe_call G_fraction_of (hr.mono (by decide)) rfl mg_fraction_of k_fraction_of b_fraction_of .nil pass0 (pa_cons (pe_op op_mulW (pe_ix ix_tup (pv 0) pe_int (fun _ _ => rfl)) (pe_ix ix_tup (pv 1) pe_int (fun _ _ => rfl))) (pa_cons (pe_op op_mulW (pe_ix ix_tup (pv 0) pe_int (fun _ _ => rfl)) (pe_ix ix_tup (pv 1) pe_int (fun _ _ => rfl))) pa_nil))))), ?_⟩
    have w := show Wp ce E0 H0 (m_fraction_times a0_one a1_other) _ from w
    unfold m_fraction_times at w
    exact s_ret0 G w (em_call0 (f := (fun a : (Int × Int × Unit) => m_fraction_of a.1 a.2.1)) (ea_cons (em_op (e2 (em_var rfl r0) em_int (o_fst rfl)) (e2 (em_var rfl r1) em_int (o_fst rfl)) fun _ _ => o_mul) (ea_cons (em_op (e2 (em_var rfl r0) em_int (o_snd rfl)) (e2 (em_var rfl r1) em_int (o_snd rfl)) fun _ _ => o_mul) ea_nil))) fun r F1 H1 v g m p => hQ r F1 H1 v g m p
/-! ### _law_whole -/
abbrev s_law_whole : Stmt := topS 7
abbrev N_law_whole : List Str := ["found"]
theorem sc_law_whole : FnScope N_law_whole ["found"] (defScope s_law_whole) := ⟨rfl, rfl, rfl, by decide +kernel, rfl, by decide +kernel, by decide +kernel⟩
abbrev sp_law_whole (K : PySem.W.Frag) (ce : Ce) : Sp := SpF0 ce (RC K (α := Int) R0) (rv K (ρ := Bool)) (fun a : (Int × Unit) => m_law_whole a.1)
theorem ok_law_whole {f : Addr} {fd : FuncData} (FF : Fun K "_law_whole" "_law_whole" s_law_whole f fd) (z_bool : mg "bool" = none) (z_int : mg "int" = none) (z_isinstance : mg "isinstance" = none) : FnOk P w K mg base CX0 1 f fd ["found"] (sp_law_whole K ce) := by
  refine FF.ok sc_law_whole (fun vs H0 Q E h => ?_) (fun cdv A outer s H0 vs Q E hr h => ?_)
  · obtain ⟨F0, ⟨a0_found, _⟩, e0, ⟨v0, _, rfl, r0, rfl⟩, w⟩ := h
    rfl
  · obtain ⟨F0, ⟨a0_found, _⟩, e0, ⟨v0, _, rfl, r0, rfl⟩, w⟩ := h
    have w := wp_post w
    have G := Gr.rf e0
    have nd := sc_law_whole.nd
    have hQ : ∀ r F1 H1 v, Gr F0 H0 F1 H1 → (rv K (ρ := Bool)) F0 H0 F1 H1 v r → Fin (rv K (ρ := Bool)) F0 H0 Q r → Q v H1 := fun r F1 H1 v g m p => p F1 H1 v g m
    refine ⟨_, (pss_one (ps_ret (pe_and (pe_callB call_isi (by rfl) z_isinstance (by decide +kernel) (pa_cons (pv 0) (pa_cons (pe_bltn (v := .ty "int") (by rfl) z_int (by decide +kernel) rfl) pa_nil))) (pe_one (pe_not (pe_callB call_isi (by rfl) z_isinstance (by decide +kernel) (pa_cons (pv 0) (pa_cons (pe_bltn (v := .ty "bool") (by rfl) z_bool (by decide +kernel) rfl) pa_nil)))))))), ?_⟩
    have w := show Wp ce E0 H0 (m_law_whole a0_found) _ from w
    unfold m_law_whole at w
    exact s_ret0 G w (e_andV (e_isi (b := true) (em_var rfl r0) (kit_ty (by decide +kernel))) (e_notV (e_isi (b := false) (em_var rfl r0) (kit_ty (by decide +kernel))))) fun r F1 H1 v g m p => hQ r F1 H1 v g m p
/-! ### _law_is_fraction -/
abbrev s_law_is_fraction : Stmt := topS 13
abbrev N_law_is_fraction : List Str := ["found"]
theorem sc_law_is_fraction : FnScope N_law_is_fraction ["found"] (defScope s_law_is_fraction) := ⟨rfl, rfl, rfl, by decide +kernel, rfl, by decide +kernel, by decide +kernel⟩
abbrev sp_law_is_fraction (K : PySem.W.Frag) (ce : Ce) : Sp := SpF0 ce (RC K (α := (Int × Int)) R0) (rv K (ρ := Bool)) (fun a : ((Int × Int) × Unit) => m_law_is_fraction a.1)
theorem ok_law_is_fraction {f : Addr} {fd : FuncData} (FF : Fun K "_law_is_fraction" "_law_is_fraction" s_law_is_fraction f fd) {a__law_part : Addr} {d__law_part : FuncData} (G__law_part : FnOk P w K mg base CX0 1 a__law_part d__law_part ["one", "other"] (sp_law_part K ce)) (mg__law_part : mg "_law_part" = some (.ref a__law_part)) (k__law_part : PySem.W.keepIn K (.ref a__law_part) = true) (b__law_part : Binds K d__law_part ["one", "other"] []) {a__law_whole : Addr} {d__law_whole : FuncData} (G__law_whole : FnOk P w K mg base CX0 1 a__law_whole d__law_whole ["found"] (sp_law_whole K ce)) (mg__law_whole : mg "_law_whole" = some (.ref a__law_whole)) (k__law_whole : PySem.W.keepIn K (.ref a__law_whole) = true) (b__law_whole : Binds K d__law_whole ["found"] []) (z_abs : mg "abs" = none) (z_isinstance : mg "isinstance" = none) (z_len : mg "len" = none) (z_tuple : mg "tuple" = none) : FnOk P w K mg base CX0 2 f fd ["found"] (sp_law_is_fraction K ce) := by
  refine FF.ok sc_law_is_fraction (fun vs H0 Q E h => ?_) (fun cdv A outer s H0 vs Q E hr h => ?_)
  · obtain ⟨F0, ⟨a0_found, _⟩, e0, ⟨v0, _, rfl, r0, rfl⟩, w⟩ := h
    rfl
  · obtain ⟨F0, ⟨a0_found, _⟩, e0, ⟨v0, _, rfl, r0, rfl⟩, w⟩ := h
    have w := wp_post w
    have G := Gr.rf e0
    have nd := sc_law_is_fraction.nd
    have hQ : ∀ r F1 H1 v, Gr F0 H0 F1 H1 → (rv K (ρ := Bool)) F0 H0 F1 H1 v r → Fin (rv K (ρ := Bool)) F0 H0 Q r → Q v H1 := fun r F1 H1 v g m p => p F1 H1 v g m
    refine ⟨_, (pss_cons (ps_if (PW.pt (pw_or (pt_not (pt_val (pe_callB call_isi (by rfl) z_isinstance (by decide +kernel) (pa_cons (pv 0) (pa_cons (pe_bltn (v := .ty "tuple") (by rfl) z_tuple (by decide +kernel) rfl) pa_nil))))) (pw_or1 (pt_cmpR op_ne (pe_callB call_len_seq (by rfl) z_len (by decide +kernel) (pa_cons (pv 0) pa_nil)) pe_int (nomark _))))) (pss_one (ps_ret pe_bl)) pss_nil)
      (pss_cons (ps_if (PW.pt (pw_or (pt_not (pt_val (pe_call G__law_whole (hr.mono (by decide)) rfl mg__law_whole k__law_whole b__law_whole .nil pass0 (pa_cons (pe_ix ix_tup (pv 0) pe_int (fun _ _ => rfl)) pa_nil)))) (pw_or (pt_not (pt_val (pe_call G__law_whole (hr.mono (by decide)) rfl mg__law_whole k__law_whole b__law_whole .nil pass0 (pa_cons (pe_ix ix_tup (pv 0) pe_int (fun _ _ => rfl)) pa_nil)))) (pw_or1 (pt_cmpR op_lt (pe_ix ix_tup (pv 0) pe_int (fun _ _ => rfl)) pe_int (nomark _)))))) (pss_one (ps_ret pe_bl)) pss_nil)
      (pss_one (ps_ret (pe_cmpR op_eq (pe_call G__law_part (hr.mono (by decide)) rfl mg__law_part k__law_part b__law_part .nil pass0 (pa_cons (pe_callB call_abs (by rfl) z_abs (by decide +kernel) (pa_cons (pe_ix ix_tup (pv 0) pe_int (fun _ _ => rfl)) pa_nil)) (pa_cons (pe_ix ix_tup (pv 0) pe_int (fun _ _ => rfl)) pa_nil))) pe_int (nomark _)))))), ?_⟩
    have w := show Wp ce E0 H0 (m_law_is_fraction a0_found) _ from w
    unfold m_law_is_fraction at w
    refine q_if2 G w (t_or (t_not (t_B (e_isi (b := true) (em_var rfl r0) (kit_ty (by decide +kernel))))) (t_of (e2 (e_cb (e_cons (em_var rfl r0) ea_nil) a_len2) em_int o_neI))) (fun F_455 H_456 g_457 w => ?_) (fun F_455 H_456 g_457 w => ?_)
    · have G := G.tr g_457
      have r0 := Rep.mo (K := K) g_457.ff r0
      exact s_ret0 G w em_bl fun r F1 H1 v g m p => hQ r F1 H1 v g m p
    · have G := G.tr g_457
      have r0 := Rep.mo (K := K) g_457.ff r0
      refine s_next ?_
      refine s_nx ?_
      refine q_if2 G w (tm_or (tm_not (t_B (e_call0 (f := (fun a : (Int × Unit) => m_law_whole a.1)) (x := (a0_found.1, ())) (e_cons (e2 (em_var rfl r0) em_int (o_fst rfl)) ea_nil)))) (tm_or (tm_not (t_B (e_call0 (f := (fun a : (Int × Unit) => m_law_whole a.1)) (x := (a0_found.2, ())) (e_cons (e2 (em_var rfl r0) em_int (o_snd rfl)) ea_nil)))) (t_of (e2 (e2 (em_var rfl r0) em_int (o_snd rfl)) em_int o_lt)))) (fun F_458 H_459 g_460 w => ?_) (fun F_458 H_459 g_460 w => ?_)
      · have G := G.tr g_460
        have r0 := Rep.mo (K := K) g_460.ff r0
        exact s_ret0 G w em_bl fun r F1 H1 v g m p => hQ r F1 H1 v g m p
      · have G := G.tr g_460
        have r0 := Rep.mo (K := K) g_460.ff r0
        refine s_next ?_
        refine s_nx ?_
        exact s_ret0 G w (em_op (e_call0 (f := (fun a : (Int × Int × Unit) => m_law_part a.1 a.2.1)) (x := ((if a0_found.1 < 0 then -a0_found.1 else a0_found.1), a0_found.2, ())) (e_cons (e_cb (e_cons (e2 (em_var rfl r0) em_int (o_fst rfl)) ea_nil) a_abs) (e_cons (e2 (em_var rfl r0) em_int (o_snd rfl)) ea_nil))) em_int fun _ _ => o_eqI) fun r F1 H1 v g m p => hQ r F1 H1 v g m p
/-! ### _law_fractions -/
abbrev s_law_fractions : Stmt := topS 14
abbrev N_law_fractions : List Str := ["found", "many", "one"]
theorem sc_law_fractions : FnScope N_law_fractions ["found", "many"] (defScope s_law_fractions) := ⟨rfl, rfl, rfl, by decide +kernel, rfl, by decide +kernel, by decide +kernel⟩
abbrev sp_law_fractions (K : PySem.W.Frag) (ce : Ce) : Sp := SpF0 ce (RC K (α := (List (Int × Int))) (RC K (α := Int) R0)) (rv K (ρ := Bool)) (fun a : ((List (Int × Int)) × Int × Unit) => m_law_fractions a.1 a.2.1)
theorem ok_law_fractions {f : Addr} {fd : FuncData} (FF : Fun K "_law_fractions" "_law_fractions" s_law_fractions f fd) {a__law_is_fraction : Addr} {d__law_is_fraction : FuncData} (G__law_is_fraction : FnOk P w K mg base CX0 2 a__law_is_fraction d__law_is_fraction ["found"] (sp_law_is_fraction K ce)) (mg__law_is_fraction : mg "_law_is_fraction" = some (.ref a__law_is_fraction)) (k__law_is_fraction : PySem.W.keepIn K (.ref a__law_is_fraction) = true) (b__law_is_fraction : Binds K d__law_is_fraction ["found"] []) (z_isinstance : mg "isinstance" = none) (z_len : mg "len" = none) (z_list : mg "list" = none) : FnOk P w K mg base CX0 3 f fd ["found", "many"] (sp_law_fractions K ce) := by
  refine FF.ok sc_law_fractions (fun vs H0 Q E h => ?_) (fun cdv A outer s H0 vs Q E hr h => ?_)
  · obtain ⟨F0, ⟨a0_found, a1_many, _⟩, e0, ⟨v0, _, rfl, r0, ⟨v1, _, rfl, r1, rfl⟩⟩, w⟩ := h
    rfl
  · obtain ⟨F0, ⟨a0_found, a1_many, _⟩, e0, ⟨v0, _, rfl, r0, ⟨v1, _, rfl, r1, rfl⟩⟩, w⟩ := h
    have w := wp_post w
    have G := Gr.rf e0
    have nd := sc_law_fractions.nd
    have hQ : ∀ r F1 H1 v, Gr F0 H0 F1 H1 → (rv K (ρ := Bool)) F0 H0 F1 H1 v r → Fin (rv K (ρ := Bool)) F0 H0 Q r → Q v H1 := fun r F1 H1 v g m p => p F1 H1 v g m
    refine ⟨_, (pss_cons (ps_if (PW.pt (pw_or (pt_not (pt_val (pe_callB call_isi (by rfl) z_isinstance (by decide +kernel) (pa_cons (pv 0) (pa_cons (pe_bltn (v := .ty "list") (by rfl) z_list (by decide +kernel) rfl) pa_nil))))) (pw_or1 (pt_cmpR op_ne (pe_callB call_len_seq (by rfl) z_len (by decide +kernel) (pa_cons (pv 0) pa_nil)) (pv 1) (nomark _))))) (pss_one (ps_ret pe_bl)) pss_nil)
      (pss_one (ps_ret (pe_cmpR op_eq (pe_callB call_len_seq (by rfl) z_len (by decide +kernel) (pa_cons (pe_lc (own := [("one", 2)]) (by rfl) nd (pi_list (pv 0)) (blkOk_by (own := [("one", 2)]) (N := N_law_fractions) (sc := defScope s_law_fractions) (by decide +kernel)) (fun _ _ _ _ _ => (pg_name (i := 2) nd rfl (by first | exact Or.inl rfl | exact Or.inr rfl))) (fun _ _ _ _ _ => (pts_one (pt_not (pt_val (pe_call G__law_is_fraction (hr.mono (by decide)) rfl mg__law_is_fraction k__law_is_fraction b__law_is_fraction .nil pass0 (pa_cons (pv 2) pa_nil)))))) (fun _ _ _ _ _ => (pv 2))) pa_nil)) pe_int (nomark _))))), ?_⟩
    have w := show Wp ce E0 H0 (m_law_fractions a0_found a1_many) _ from w
    unfold m_law_fractions at w
    refine q_if2 G w (t_or (t_not (t_B (e_isi (b := true) (em_var rfl r0) (kit_ty (by decide +kernel))))) (t_of (e2 (e_cb (e_cons (em_var rfl r0) ea_nil) a_len) (em_var rfl r1) o_neI))) (fun F_477 H_478 g_479 w => ?_) (fun F_477 H_478 g_479 w => ?_)
    · have G := G.tr g_479
      have r0 := Rep.mo (K := K) g_479.ff r0
      have r1 := Rep.mo (K := K) g_479.ff r1
      exact s_ret0 G w em_bl fun r F1 H1 v g m p => hQ r F1 H1 v g m p
    · have G := G.tr g_479
      have r0 := Rep.mo (K := K) g_479.ff r0
      have r1 := Rep.mo (K := K) g_479.ff r1
      refine s_next ?_
      refine s_nx ?_
      exact s_ret0 G w (em_op (em_cb (ea_cons (Ev.nv (em_lc (c := (fun x_481 : (Int × Int) => (notM (m_law_is_fraction x_481).ne))) (e := (fun x_481 : (Int × Int) => (M.ok x_481))) (ei_list (em_var rfl r0)) (tg_name (K := K)) (fun _ _ _ ⟨_, h, _⟩ => by rw [h]; exact wipe1) (fun x_481 _ _ _ g_480 ⟨v_482, h_484, r_483⟩ => by subst h_484; exact (tm_not (t_B (e_call0 (f := (fun a : ((Int × Int) × Unit) => m_law_is_fraction a.1)) (x := (x_481, ())) (e_cons (em_var rfl r_483) ea_nil))))) (fun x_481 _ _ _ g_480 ⟨v_482, h_484, r_483⟩ => by subst h_484; exact (em_var rfl r_483)))) ea_nil) fun _ => a_len) em_int fun _ _ => o_eqI) fun r F1 H1 v g m p => hQ r F1 H1 v g m p
/-! ### _law_less -/
abbrev s_law_less : Stmt := topS 12
abbrev N_law_less : List Str := ["one", "other"]
theorem sc_law_less : FnScope N_law_less ["one", "other"] (defScope s_law_less) := ⟨rfl, rfl, rfl, by decide +kernel, rfl, by decide +kernel, by decide +kernel⟩
abbrev sp_law_less (K : PySem.W.Frag) (ce : Ce) : Sp := SpF0 ce (RC K (α := (Int × Int)) (RC K (α := (Int × Int)) R0)) (rv K (ρ := Bool)) (fun a : ((Int × Int) × (Int × Int) × Unit) => m_law_less a.1 a.2.1)
theorem ok_law_less {f : Addr} {fd : FuncData} (FF : Fun K "_law_less" "_law_less" s_law_less f fd) : FnOk P w K mg base CX0 1 f fd ["one", "other"] (sp_law_less K ce) := by
  refine FF.ok sc_law_less (fun vs H0 Q E h => ?_) (fun cdv A outer s H0 vs Q E hr h => ?_)
  · obtain ⟨F0, ⟨a0_one, a1_other, _⟩, e0, ⟨v0, _, rfl, r0, ⟨v1, _, rfl, r1, rfl⟩⟩, w⟩ := h
    rfl
  · obtain ⟨F0, ⟨a0_one, a1_other, _⟩, e0, ⟨v0, _, rfl, r0, ⟨v1, _, rfl, r1, rfl⟩⟩, w⟩ := h
    have w := wp_post w
    have G := Gr.rf e0
    have nd := sc_law_less.nd
    have hQ : ∀ r F1 H1 v, Gr F0 H0 F1 H1 → (rv K (ρ := Bool)) F0 H0 F1 H1 v r → Fin (rv K (ρ := Bool)) F0 H0 Q r → Q v H1 := fun r F1 H1 v g m p => p F1 H1 v g m
    refine ⟨_, (pss_one (ps_ret (pe_cmpR op_lt (pe_op op_mulW (pe_ix ix_tup (pv 0) pe_int (fun _ _ => rfl)) (pe_ix ix_tup (pv 1) pe_int (fun _ _ => rfl))) (pe_op op_mulW (pe_ix ix_tup (pv 1) pe_int (fun _ _ => rfl)) (pe_ix ix_tup (pv 0) pe_int (fun _ _ => rfl))) (nomark _)))), ?_⟩
    have w := show Wp ce E0 H0 (m_law_less a0_one a1_other) _ from w
    unfold m_law_less at w
    exact s_ret0 G w (em_op (em_op (e2 (em_var rfl r0) em_int (o_fst rfl)) (e2 (em_var rfl r1) em_int (o_snd rfl)) fun _ _ => o_mul) (em_op (e2 (em_var rfl r1) em_int (o_fst rfl)) (e2 (em_var rfl r0) em_int (o_snd rfl)) fun _ _ => o_mul) fun _ _ => o_lt) fun r F1 H1 v g m p => hQ r F1 H1 v g m p
/-! ### _law_plus -/
abbrev s_law_plus : Stmt := topS 10
abbrev N_law_plus : List Str := ["one", "other"]
theorem sc_law_plus : FnScope N_law_plus ["one", "other"] (defScope s_law_plus) := ⟨rfl, rfl, rfl, by decide +kernel, rfl, by decide +kernel, by decide +kernel⟩
abbrev sp_law_plus (K : PySem.W.Frag) (ce : Ce) : Sp := SpF0 ce (RC K (α := (Int × Int)) (RC K (α := (Int × Int)) R0)) (rv K (ρ := (Int × Int))) (fun a : ((Int × Int) × (Int × Int) × Unit) => m_law_plus a.1 a.2.1)
theorem ok_law_plus {f : Addr} {fd : FuncData} (FF : Fun K "_law_plus" "_law_plus" s_law_plus f fd) {a__law_fraction : Addr} {d__law_fraction : FuncData} (G__law_fraction : FnOk P w K mg base CX0 2 a__law_fraction d__law_fraction ["top", "bottom"] (sp_law_fraction K ce)) (mg__law_fraction : mg "_law_fraction" = some (.ref a__law_fraction)) (k__law_fraction : PySem.W.keepIn K (.ref a__law_fraction) = true) (b__law_fraction : Binds K d__law_fraction ["top", "bottom"] []) : FnOk P w K mg base CX0 3 f fd ["one", "other"] (sp_law_plus K ce) := by
  refine FF.ok sc_law_plus (fun vs H0 Q E h => ?_) (fun cdv A outer s H0 vs Q E hr h => ?_)
  · obtain ⟨F0, ⟨a0_one, a1_other, _⟩, e0, ⟨v0, _, rfl, r0, ⟨v1, _, rfl, r1, rfl⟩⟩, w⟩ := h
    rfl
  · obtain ⟨F0, ⟨a0_one, a1_other, _⟩, e0, ⟨v0, _, rfl, r0, ⟨v1, _, rfl, r1, rfl⟩⟩, w⟩ := h
    have w := wp_post w
    have G := Gr.rf e0
    have nd := sc_law_plus.nd
    have hQ : ∀ r F1 H1 v, Gr F0 H0 F1 H1 → (rv K (ρ := (Int × Int))) F0 H0 F1 H1 v r → Fin (rv K (ρ := (Int × Int))) F0 H0 Q r → Q v H1 := fun r F1 H1 v g m p => p F1 H1 v g m
    refine ⟨_, (pss_one (ps_ret (pe_call G__law_fraction (hr.mono (by decide)) rfl mg__law_fraction k__law_fraction b__law_fraction .nil pass0 (pa_cons (pe_op op_add (pe_op op_mulW (pe_ix ix_tup (pv 0) pe_int (fun _ _ => rfl)) (pe_ix ix_tup (pv 1) pe_int (fun _ _ => rfl))) (pe_op op_mulW (pe_ix ix_tup (pv 1) pe_int (fun _ _ => rfl)) (pe_ix ix_tup (pv 0) pe_int (fun _ _ => rfl)))) (pa_cons (pe_op op_mulW (pe_ix ix_tup (pv 0) pe_int (fun _ _ => rfl)) (pe_ix ix_tup (pv 1) pe_int (fun _ _ => rfl))) pa_nil))))), ?_⟩
    have w := show Wp ce E0 H0 (m_law_plus a0_one a1_other) _ from w
    unfold m_law_plus at w
    exact s_ret0 G w (em_call0 (f := (fun a : (Int × Int × Unit) => m_law_fraction a.1 a.2.1)) (ea_cons (em_op (em_op (e2 (em_var rfl r0) em_int (o_fst rfl)) (e2 (em_var rfl r1) em_int (o_snd rfl)) fun _ _ => o_mul) (em_op (e2 (em_var rfl r1) em_int (o_fst rfl)) (e2 (em_var rfl r0) em_int (o_snd rfl)) fun _ _ => o_mul) fun _ _ => o_add) (ea_cons (em_op (e2 (em_var rfl r0) em_int (o_snd rfl)) (e2 (em_var rfl r1) em_int (o_snd rfl)) fun _ _ => o_mul) ea_nil))) fun r F1 H1 v g m p => hQ r F1 H1 v g m p
/-! ### _law_product -/
abbrev s_law_product : Stmt := topS 11
abbrev N_law_product : List Str := ["one", "other"]
theorem sc_law_product : FnScope N_law_product ["one", "other"] (defScope s_law_product) := ⟨rfl, rfl, rfl, by decide +kernel, rfl, by decide +kernel, by decide +kernel⟩
abbrev sp_law_product (K : PySem.W.Frag) (ce : Ce) : Sp := SpF0 ce (RC K (α := (Int × Int)) (RC K (α := (Int × Int)) R0)) (rv K (ρ := (Int × Int))) (fun a : ((Int × Int) × (Int × Int) × Unit) => m_law_product a.1 a.2.1)
theorem ok_law_product {f : Addr} {fd : FuncData} (FF : Fun K "_law_product" "_law_product" s_law_product f fd) {a__law_fraction : Addr} {d__law_fraction : FuncData} (G__law_fraction : FnOk P w K mg base CX0 2 a__law_fraction d__law_fraction ["top", "bottom"] (sp_law_fraction K ce)) (mg__law_fraction : mg "_law_fraction" = some (.ref a__law_fraction)) (k__law_fraction : PySem.W.keepIn K (.ref a__law_fraction) = true) (b__law_fraction : Binds K d__law_fraction ["top", "bottom"] []) : FnOk P w K mg base CX0 3 f fd ["one", "other"] (sp_law_product K ce) := by
  refine FF.ok sc_law_product (fun vs H0 Q E h => ?_) (fun cdv A outer s H0 vs Q E hr h => ?_)
  · obtain ⟨F0, ⟨a0_one, a1_other, _⟩, e0, ⟨v0, _, rfl, r0, ⟨v1, _, rfl, r1, rfl⟩⟩, w⟩ := h
    rfl
  · obtain ⟨F0, ⟨a0_one, a1_other, _⟩, e0, ⟨v0, _, rfl, r0, ⟨v1, _, rfl, r1, rfl⟩⟩, w⟩ := h
    have w := wp_post w
    have G := Gr.rf e0
    have nd := sc_law_product.nd
    have hQ : ∀ r F1 H1 v, Gr F0 H0 F1 H1 → (rv K (ρ := (Int × Int))) F0 H0 F1 H1 v r → Fin (rv K (ρ := (Int × Int))) F0 H0 Q r → Q v H1 := fun r F1 H1 v g m p => p F1 H1 v g m
    refine ⟨_, (pss_one (ps_ret (pe_call G__law_fraction (hr.mono (by decide)) rfl mg__law_fraction k__law_fraction b__law_fraction .nil pass0 (pa_cons (pe_op op_mulW (pe_ix ix_tup (pv 0) pe_int (fun _ _ => rfl)) (pe_ix ix_tup (pv 1) pe_int (fun _ _ => rfl))) (pa_cons (pe_op op_mulW (pe_ix ix_tup (pv 0) pe_int (fun _ _ => rfl)) (pe_ix ix_tup (pv 1) pe_int (fun _ _ => rfl))) pa_nil))))), ?_⟩
    have w := show Wp ce E0 H0 (m_law_product a0_one a1_other) _ from w
    unfold m_law_product at w
    exact s_ret0 G w (em_call0 (f := (fun a : (Int × Int × Unit) => m_law_fraction a.1 a.2.1)) (ea_cons (em_op (e2 (em_var rfl r0) em_int (o_fst rfl)) (e2 (em_var rfl r1) em_int (o_fst rfl)) fun _ _ => o_mul) (ea_cons (em_op (e2 (em_var rfl r0) em_int (o_snd rfl)) (e2 (em_var rfl r1) em_int (o_snd rfl)) fun _ _ => o_mul) ea_nil))) fun r F1 H1 v g m p => hQ r F1 H1 v g m p
/-! ### law -/
abbrev s_law : Stmt := topS 16
abbrev N_law : List Str := ["script", "cell", "one", "other", "found", "told", "part", "made"]
theorem sc_law : FnScope N_law ["script"] (defScope s_law) := ⟨rfl, rfl, rfl, by decide +kernel, rfl, by decide +kernel, by decide +kernel⟩
abbrev sp_law (K : PySem.W.Frag) (ce : Ce) : Sp := SpF0 ce (RC K (α := Scr) R0) (rv K (ρ := Bool)) (fun a : (Scr × Unit) => m_law a.1)
theorem ok_law {f : Addr} {fd : FuncData} (FF : Fun K "law" "law" s_law f fd) {a__law_drawn : Addr} {d__law_drawn : FuncData} (G__law_drawn : FnOk P w K mg base CX0 3 a__law_drawn d__law_drawn ["cell"] (sp_law_drawn K ce)) (mg__law_drawn : mg "_law_drawn" = some (.ref a__law_drawn)) (k__law_drawn : PySem.W.keepIn K (.ref a__law_drawn) = true) (b__law_drawn : Binds K d__law_drawn ["cell"] []) {a__law_fractions : Addr} {d__law_fractions : FuncData} (G__law_fractions : FnOk P w K mg base CX0 3 a__law_fractions d__law_fractions ["found", "many"] (sp_law_fractions K ce)) (mg__law_fractions : mg "_law_fractions" = some (.ref a__law_fractions)) (k__law_fractions : PySem.W.keepIn K (.ref a__law_fractions) = true) (b__law_fractions : Binds K d__law_fractions ["found", "many"] []) {a__law_is_fraction : Addr} {d__law_is_fraction : FuncData} (G__law_is_fraction : FnOk P w K mg base CX0 2 a__law_is_fraction d__law_is_fraction ["found"] (sp_law_is_fraction K ce)) (mg__law_is_fraction : mg "_law_is_fraction" = some (.ref a__law_is_fraction)) (k__law_is_fraction : PySem.W.keepIn K (.ref a__law_is_fraction) = true) (b__law_is_fraction : Binds K d__law_is_fraction ["found"] []) {a__law_less : Addr} {d__law_less : FuncData} (G__law_less : FnOk P w K mg base CX0 1 a__law_less d__law_less ["one", "other"] (sp_law_less K ce)) (mg__law_less : mg "_law_less" = some (.ref a__law_less)) (k__law_less : PySem.W.keepIn K (.ref a__law_less) = true) (b__law_less : Binds K d__law_less ["one", "other"] []) {a__law_plus : Addr} {d__law_plus : FuncData} (G__law_plus : FnOk P w K mg base CX0 3 a__law_plus d__law_plus ["one", "other"] (sp_law_plus K ce)) (mg__law_plus : mg "_law_plus" = some (.ref a__law_plus)) (k__law_plus : PySem.W.keepIn K (.ref a__law_plus) = true) (b__law_plus : Binds K d__law_plus ["one", "other"] []) {a__law_product : Addr} {d__law_product : FuncData} (G__law_product : FnOk P w K mg base CX0 3 a__law_product d__law_product ["one", "other"] (sp_law_product K ce)) (mg__law_product : mg "_law_product" = some (.ref a__law_product)) (k__law_product : PySem.W.keepIn K (.ref a__law_product) = true) (b__law_product : Binds K d__law_product ["one", "other"] []) {a_fraction_less : Addr} {d_fraction_less : FuncData} (G_fraction_less : FnOk P w K mg base CX0 1 a_fraction_less d_fraction_less ["one", "other"] (sp_fraction_less K ce)) (mg_fraction_less : mg "fraction_less" = some (.ref a_fraction_less)) (k_fraction_less : PySem.W.keepIn K (.ref a_fraction_less) = true) (b_fraction_less : Binds K d_fraction_less ["one", "other"] []) {a_fraction_of : Addr} {d_fraction_of : FuncData} (G_fraction_of : FnOk P w K mg base CX0 2 a_fraction_of d_fraction_of ["top", "bottom"] (sp_fraction_of K ce)) (mg_fraction_of : mg "fraction_of" = some (.ref a_fraction_of)) (k_fraction_of : PySem.W.keepIn K (.ref a_fraction_of) = true) (b_fraction_of : Binds K d_fraction_of ["top", "bottom"] []) {a_fraction_sum : Addr} {d_fraction_sum : FuncData} (G_fraction_sum : FnOk P w K mg base CX0 3 a_fraction_sum d_fraction_sum ["one", "other"] (sp_fraction_sum K ce)) (mg_fraction_sum : mg "fraction_sum" = some (.ref a_fraction_sum)) (k_fraction_sum : PySem.W.keepIn K (.ref a_fraction_sum) = true) (b_fraction_sum : Binds K d_fraction_sum ["one", "other"] []) {a_fraction_times : Addr} {d_fraction_times : FuncData} (G_fraction_times : FnOk P w K mg base CX0 3 a_fraction_times d_fraction_times ["one", "other"] (sp_fraction_times K ce)) (mg_fraction_times : mg "fraction_times" = some (.ref a_fraction_times)) (k_fraction_times : PySem.W.keepIn K (.ref a_fraction_times) = true) (b_fraction_times : Binds K d_fraction_times ["one", "other"] []) (z_bool : mg "bool" = none) (z_int : mg "int" = none) (z_isinstance : mg "isinstance" = none) (z_list : mg "list" = none) : FnOk P w K mg base CX0 4 f fd ["script"] (sp_law K ce) := by
  refine FF.ok sc_law (fun vs H0 Q E h => ?_) (fun cdv A outer s H0 vs Q E hr h => ?_)
  · obtain ⟨F0, ⟨a0_script, _⟩, e0, ⟨v0, _, rfl, r0, rfl⟩, w⟩ := h
    rfl
  · obtain ⟨F0, ⟨a0_script, _⟩, e0, ⟨v0, _, rfl, r0, rfl⟩, w⟩ := h
    have w := wp_post w
    have G := Gr.rf e0
    have nd := sc_law.nd
    have hQ : ∀ r F1 H1 v, Gr F0 H0 F1 H1 → (rv K (ρ := Bool)) F0 H0 F1 H1 v r → Fin (rv K (ρ := Bool)) F0 H0 Q r → Q v H1 := fun r F1 H1 v g m p => p F1 H1 v g m
    refine ⟨_, (pss_cons (ps_for (by first | exact PassesOwn.never | exact passes_of rfl) rfl (pi_list (pe_op op_cat (pe_callTy call_list_of (by rfl) z_list (by decide +kernel) (pa_cons (pv 0) pa_nil)) (pe_lst (pa_cons pe_int pa_nil)))) (pg_name (i := 1) nd rfl (by first | exact Or.inl rfl | exact Or.inr rfl)) (pss_cons (ps_set (i := 1) nd rfl (by first | exact Or.inl rfl | exact Or.inr rfl) (pe_op op_mod (pv 1) (pe_op op_pow pe_int pe_int)))
      (pss_cons (ps_set (i := 2) nd rfl (by first | exact Or.inl rfl | exact Or.inr rfl) (pe_call G__law_drawn (hr.mono (by decide)) rfl mg__law_drawn k__law_drawn b__law_drawn .nil pass0 (pa_cons (pv 1) pa_nil)))
      (pss_cons (ps_set (i := 3) nd rfl (by first | exact Or.inl rfl | exact Or.inr rfl) (pe_ix ix_list (pe_lst (pa_cons (pe_call G__law_drawn (hr.mono (by decide)) rfl mg__law_drawn k__law_drawn b__law_drawn .nil pass0 (pa_cons (pe_op op_fdiv (pv 1) pe_int) pa_nil)) (pa_cons (pv 2) pa_nil))) (pe_callTy call_int1 (by rfl) z_int (by decide +kernel) (pa_cons (pe_cmpR op_eq (pe_op op_mod (pe_op op_fdiv (pv 1) pe_int) pe_int) pe_int (nomark _)) pa_nil)) (fun _ _ => rfl)))
      (pss_cons (ps_set (i := 4) nd rfl (by first | exact Or.inl rfl | exact Or.inr rfl) (pe_lst (pa_cons (pe_call G_fraction_sum (hr.mono (by decide)) rfl mg_fraction_sum k_fraction_sum b_fraction_sum .nil pass0 (pa_cons (pv 2) (pa_cons (pv 3) pa_nil))) (pa_cons (pe_call G_fraction_times (hr.mono (by decide)) rfl mg_fraction_times k_fraction_times b_fraction_times .nil pass0 (pa_cons (pv 2) (pa_cons (pv 3) pa_nil))) pa_nil))))
      (pss_cons (ps_if (PW.pt (pw_or (pt_not (pt_val (pe_call G__law_fractions (hr.mono (by decide)) rfl mg__law_fractions k__law_fractions b__law_fractions .nil pass0 (pa_cons (pv 4) (pa_cons pe_int pa_nil))))) (pw_or1 (pt_cmpR (op_neD hr.units) (pv 4) (pe_lst (pa_cons (pe_call G__law_plus (hr.mono (by decide)) rfl mg__law_plus k__law_plus b__law_plus .nil pass0 (pa_cons (pv 2) (pa_cons (pv 3) pa_nil))) (pa_cons (pe_call G__law_product (hr.mono (by decide)) rfl mg__law_product k__law_product b__law_product .nil pass0 (pa_cons (pv 2) (pa_cons (pv 3) pa_nil))) pa_nil))) (nomark _))))) (pss_one (ps_ret pe_bl)) pss_nil)
      (pss_cons (ps_set (i := 5) nd rfl (by first | exact Or.inl rfl | exact Or.inr rfl) (pe_call G_fraction_less (hr.mono (by decide)) rfl mg_fraction_less k_fraction_less b_fraction_less .nil pass0 (pa_cons (pv 2) (pa_cons (pv 3) pa_nil))))
      (pss_cons (ps_if (PW.pt (pw_or (pt_not (pt_val (pe_callB call_isi (by rfl) z_isinstance (by decide +kernel) (pa_cons (pv 5) (pa_cons (pe_bltn (v := .ty "bool") (by rfl) z_bool (by decide +kernel) rfl) pa_nil))))) (pw_or1 (pt_cmpR op_ne (pv 5) (pe_call G__law_less (hr.mono (by decide)) rfl mg__law_less k__law_less b__law_less .nil pass0 (pa_cons (pv 2) (pa_cons (pv 3) pa_nil))) (nomark _))))) (pss_one (ps_ret pe_bl)) pss_nil)
      (pss_cons (ps_set (i := 6) nd rfl (by first | exact Or.inl rfl | exact Or.inr rfl) (pe_ix ix_list (pe_lst (pa_cons pe_int (pa_cons (pe_un un_neg pe_int) (pa_cons pe_int (pa_cons (pe_un un_neg pe_int) pa_nil))))) (pe_op op_mod (pe_op op_fdiv (pv 1) pe_int) pe_int) (fun _ _ => rfl)))
      (pss_cons (ps_set (i := 7) nd rfl (by first | exact Or.inl rfl | exact Or.inr rfl) (pe_call G_fraction_of (hr.mono (by decide)) rfl mg_fraction_of k_fraction_of b_fraction_of .nil pass0 (pa_cons (pe_op op_mulW (pv 6) (pe_ix ix_tup (pv 2) pe_int (fun _ _ => rfl))) (pa_cons (pe_op op_mulW (pv 6) (pe_ix ix_tup (pv 2) pe_int (fun _ _ => rfl))) pa_nil))))
      (pss_one (ps_if (PW.pt (pw_or (pt_not (pt_val (pe_call G__law_is_fraction (hr.mono (by decide)) rfl mg__law_is_fraction k__law_is_fraction b__law_is_fraction .nil pass0 (pa_cons (pv 7) pa_nil)))) (pw_or1 (pt_cmpR (op_neD hr.units) (pv 7) (pv 2) (nomark _))))) (pss_one (ps_ret pe_bl)) pss_nil))))))))))))
      (pss_one (ps_ret pe_bl))), ?_⟩
    have w := show Wp ce E0 H0 (m_law a0_script) _ from w
    unfold m_law at w
    refine q_for (S := Unit) (fun s F' H' σ' => ∃ (z_673 : Option V) (z_674 : Option V) (z_675 : Option V) (z_676 : Option V) (z_677 : Option V) (z_678 : Option V) (z_679 : Option V), σ' = [some v0, z_673, z_674, z_675, z_676, z_677, z_678, z_679] ∧ Gr F0 H0 F' H' ∧ Ex F0 F') G (ei_list (Ev.nv (em_op (Ev.nv (e_cb (e_cons (em_var rfl r0) ea_nil) a_listS)) (Ev.nv (e_lst (e_lcons em_int (el_nil (α := Int))) (by simp))) fun _ _ => o_cat))) (tg_name (K := K)) w (fun _ _ g_793 => ⟨_, _, _, _, _, _, _, rfl, G.tr g_793, g_793.ff⟩) (fun _ _ _ _ ⟨_, _, _, _, _, _, _, _, G, _⟩ => G) ?_ ?_
    · rintro x_681 s_680 F_682 H_683 _ ⟨z_673, z_674, z_675, z_676, z_677, z_678, z_679, hs_684, G, e_685⟩ F_686 H_687 σ_688 g_689 ⟨v_697, h_699, r_698⟩ D_694 P_695 hrt_696 hN_690 hC_691 hB_692 hP_693 w
      subst hs_684
      subst h_699
      have r0 := Rep.mo (K := K) e_685 r0
      have G := G.tr g_689
      have r0 := Rep.mo (K := K) g_689.ff r0
      have e_685 := Ex.tr e_685 g_689.ff
      have e_700 := Ex.rf F_686
      have hQ : ∀ r F1 H1 v, Gr F0 H0 F1 H1 → (rv K (ρ := Bool)) F0 H0 F1 H1 v r → P_695 (.rt r) → D_694.rt v H1 := fun r F1 H1 v g m p => by rw [hrt_696]; exact hQ r F1 H1 v g m (hP_693 _ p)
      unfold m_law_b1 at w
      refine q_asg G w (e2 (em_var rfl r_698) (e_is (e2 em_int em_int (o_pow (by decide))) pow_10_60) (o_mod (by decide))) fun cell_701 F_702 H_703 v_705 g_704 r_706 w => ?_
      have G := G.tr g_704
      have r0 := Rep.mo (K := K) g_704.ff r0
      have e_685 := Ex.tr e_685 g_704.ff
      have e_700 := Ex.tr e_700 g_704.ff
      refine q_asg G w (e_call0 (f := (fun a : (Int × Unit) => m_law_drawn a.1)) (x := (cell_701, ())) (e_cons (em_var rfl r_706) ea_nil)) fun one_707 F_708 H_709 v_711 g_710 r_712 w => ?_
      have G := G.tr g_710
      have r0 := Rep.mo (K := K) g_710.ff r0
      have r_706 := Rep.mo (K := K) g_710.ff r_706
      have e_685 := Ex.tr e_685 g_710.ff
      have e_700 := Ex.tr e_700 g_710.ff
      refine q_asg G w (em_op (Ev.nv (em_lst' (el_cons (e_call0 (f := (fun a : (Int × Unit) => m_law_drawn a.1)) (x := ((cell_701 / (13 : Int)), ())) (e_cons (e2 (em_var rfl r_706) em_int (o_fdiv ⟨by decide, by decide⟩)) ea_nil)) (el_cons (em_var rfl r_712) (el_nil (α := (Int × Int))))))) (e_cb (e_cons (e2 (e2 (e2 (em_var rfl r_706) em_int (o_fdiv ⟨by decide, by decide⟩)) em_int (o_mod (by decide))) em_int o_eqI) ea_nil) a_intB) fun _ _ => o_ixL) fun other_720 F_721 H_722 v_724 g_723 r_725 w => ?_
      have G := G.tr g_723
      have r0 := Rep.mo (K := K) g_723.ff r0
      have r_706 := Rep.mo (K := K) g_723.ff r_706
      have r_712 := Rep.mo (K := K) g_723.ff r_712
      have e_685 := Ex.tr e_685 g_723.ff
      have e_700 := Ex.tr e_700 g_723.ff
      refine q_asg G w (Ev.nv (em_lst' (el_cons (e_call0 (f := (fun a : ((Int × Int) × (Int × Int) × Unit) => m_fraction_sum a.1 a.2.1)) (x := (one_707, other_720, ())) (e_cons (em_var rfl r_712) (e_cons (em_var rfl r_725) ea_nil))) (el_cons (e_call0 (f := (fun a : ((Int × Int) × (Int × Int) × Unit) => m_fraction_times a.1 a.2.1)) (x := (one_707, other_720, ())) (e_cons (em_var rfl r_712) (e_cons (em_var rfl r_725) ea_nil))) (el_nil (α := (Int × Int))))))) fun found_731 F_732 H_733 v_735 g_734 r_736 w => ?_
      have G := G.tr g_734
      have r0 := Rep.mo (K := K) g_734.ff r0
      have r_706 := Rep.mo (K := K) g_734.ff r_706
      have r_712 := Rep.mo (K := K) g_734.ff r_712
      have r_725 := Rep.mo (K := K) g_734.ff r_725
      have e_685 := Ex.tr e_685 g_734.ff
      have e_700 := Ex.tr e_700 g_734.ff
      refine q_if2 G w (tm_or (tm_not (t_B (e_call0 (f := (fun a : ((List (Int × Int)) × Int × Unit) => m_law_fractions a.1 a.2.1)) (x := (found_731, (2 : Int), ())) (e_cons (em_var rfl r_736) (e_cons em_int ea_nil))))) (t_of (em_op (em_var rfl r_736) (Ev.nv (em_lst' (el_cons (e_call0 (f := (fun a : ((Int × Int) × (Int × Int) × Unit) => m_law_plus a.1 a.2.1)) (x := (one_707, other_720, ())) (e_cons (em_var rfl r_712) (e_cons (em_var rfl r_725) ea_nil))) (el_cons (e_call0 (f := (fun a : ((Int × Int) × (Int × Int) × Unit) => m_law_product a.1 a.2.1)) (x := (one_707, other_720, ())) (e_cons (em_var rfl r_712) (e_cons (em_var rfl r_725) ea_nil))) (el_nil (α := (Int × Int))))))) fun _ _ => (o_neD (by decide))))) (fun F_744 H_745 g_746 w => ?_) (fun F_744 H_745 g_746 w => ?_)
      · have G := G.tr g_746
        have r0 := Rep.mo (K := K) g_746.ff r0
        have r_706 := Rep.mo (K := K) g_746.ff r_706
        have r_712 := Rep.mo (K := K) g_746.ff r_712
        have r_725 := Rep.mo (K := K) g_746.ff r_725
        have r_736 := Rep.mo (K := K) g_746.ff r_736
        have e_685 := Ex.tr e_685 g_746.ff
        have e_700 := Ex.tr e_700 g_746.ff
        exact s_ret G w em_bl fun r F1 H1 v g m p => hQ r F1 H1 v g m p
      · have G := G.tr g_746
        have r0 := Rep.mo (K := K) g_746.ff r0
        have r_706 := Rep.mo (K := K) g_746.ff r_706
        have r_712 := Rep.mo (K := K) g_746.ff r_712
        have r_725 := Rep.mo (K := K) g_746.ff r_725
        have r_736 := Rep.mo (K := K) g_746.ff r_736
        have e_685 := Ex.tr e_685 g_746.ff
        have e_700 := Ex.tr e_700 g_746.ff
        refine s_next ?_
        refine s_nx ?_
        refine q_asg G w (e_call0 (f := (fun a : ((Int × Int) × (Int × Int) × Unit) => m_fraction_less a.1 a.2.1)) (x := (one_707, other_720, ())) (e_cons (em_var rfl r_712) (e_cons (em_var rfl r_725) ea_nil))) fun told_748 F_749 H_750 v_752 g_751 r_753 w => ?_
        have G := G.tr g_751
        have r0 := Rep.mo (K := K) g_751.ff r0
        have r_706 := Rep.mo (K := K) g_751.ff r_706
        have r_712 := Rep.mo (K := K) g_751.ff r_712
        have r_725 := Rep.mo (K := K) g_751.ff r_725
        have r_736 := Rep.mo (K := K) g_751.ff r_736
        have e_685 := Ex.tr e_685 g_751.ff
        have e_700 := Ex.tr e_700 g_751.ff
        refine q_if2 G w (tm_or (t_not (t_B (e_isi (b := true) (em_var rfl r_753) (kit_ty (by decide +kernel))))) (t_of (em_op (em_var rfl r_753) (e_call0 (f := (fun a : ((Int × Int) × (Int × Int) × Unit) => m_law_less a.1 a.2.1)) (x := (one_707, other_720, ())) (e_cons (em_var rfl r_712) (e_cons (em_var rfl r_725) ea_nil))) fun _ _ => o_neB))) (fun F_756 H_757 g_758 w => ?_) (fun F_756 H_757 g_758 w => ?_)
        · have G := G.tr g_758
          have r0 := Rep.mo (K := K) g_758.ff r0
          have r_706 := Rep.mo (K := K) g_758.ff r_706
          have r_712 := Rep.mo (K := K) g_758.ff r_712
          have r_725 := Rep.mo (K := K) g_758.ff r_725
          have r_736 := Rep.mo (K := K) g_758.ff r_736
          have r_753 := Rep.mo (K := K) g_758.ff r_753
          have e_685 := Ex.tr e_685 g_758.ff
          have e_700 := Ex.tr e_700 g_758.ff
          exact s_ret G w em_bl fun r F1 H1 v g m p => hQ r F1 H1 v g m p
        · have G := G.tr g_758
          have r0 := Rep.mo (K := K) g_758.ff r0
          have r_706 := Rep.mo (K := K) g_758.ff r_706
          have r_712 := Rep.mo (K := K) g_758.ff r_712
          have r_725 := Rep.mo (K := K) g_758.ff r_725
          have r_736 := Rep.mo (K := K) g_758.ff r_736
          have r_753 := Rep.mo (K := K) g_758.ff r_753
          have e_685 := Ex.tr e_685 g_758.ff
          have e_700 := Ex.tr e_700 g_758.ff
          refine s_next ?_
          refine s_nx ?_
          refine q_asg G w (em_op (Ev.nv (e_lst (e_lcons em_int (e_lcons (e_neg em_int) (e_lcons em_int (e_lcons (e_neg em_int) (el_nil (α := Int)))))) (by simp))) (e2 (e2 (em_var rfl r_706) em_int (o_fdiv ⟨by decide, by decide⟩)) em_int (o_mod (by decide))) fun _ _ => o_ixL) fun part_762 F_763 H_764 v_766 g_765 r_767 w => ?_
          have G := G.tr g_765
          have r0 := Rep.mo (K := K) g_765.ff r0
          have r_706 := Rep.mo (K := K) g_765.ff r_706
          have r_712 := Rep.mo (K := K) g_765.ff r_712
          have r_725 := Rep.mo (K := K) g_765.ff r_725
          have r_736 := Rep.mo (K := K) g_765.ff r_736
          have r_753 := Rep.mo (K := K) g_765.ff r_753
          have e_685 := Ex.tr e_685 g_765.ff
          have e_700 := Ex.tr e_700 g_765.ff
          refine q_asg G w (em_call0 (f := (fun a : (Int × Int × Unit) => m_fraction_of a.1 a.2.1)) (ea_cons (em_op (em_var rfl r_767) (e2 (em_var rfl r_712) em_int (o_fst rfl)) fun _ _ => o_mul) (ea_cons (em_op (em_var rfl r_767) (e2 (em_var rfl r_712) em_int (o_snd rfl)) fun _ _ => o_mul) ea_nil))) fun made_777 F_778 H_779 v_781 g_780 r_782 w => ?_
          have G := G.tr g_780
          have r0 := Rep.mo (K := K) g_780.ff r0
          have r_706 := Rep.mo (K := K) g_780.ff r_706
          have r_712 := Rep.mo (K := K) g_780.ff r_712
          have r_725 := Rep.mo (K := K) g_780.ff r_725
          have r_736 := Rep.mo (K := K) g_780.ff r_736
          have r_753 := Rep.mo (K := K) g_780.ff r_753
          have r_767 := Rep.mo (K := K) g_780.ff r_767
          have e_685 := Ex.tr e_685 g_780.ff
          have e_700 := Ex.tr e_700 g_780.ff
          refine s_if2 G w (tm_or (tm_not (t_B (e_call0 (f := (fun a : ((Int × Int) × Unit) => m_law_is_fraction a.1)) (x := (made_777, ())) (e_cons (em_var rfl r_782) ea_nil)))) (t_of (e2 (em_var rfl r_782) (em_var rfl r_712) (o_neD (by decide))))) (fun F_783 H_784 g_785 w => ?_) (fun F_783 H_784 g_785 w => ?_)
          · have G := G.tr g_785
            have r0 := Rep.mo (K := K) g_785.ff r0
            have r_706 := Rep.mo (K := K) g_785.ff r_706
            have r_712 := Rep.mo (K := K) g_785.ff r_712
            have r_725 := Rep.mo (K := K) g_785.ff r_725
            have r_736 := Rep.mo (K := K) g_785.ff r_736
            have r_753 := Rep.mo (K := K) g_785.ff r_753
            have r_767 := Rep.mo (K := K) g_785.ff r_767
            have r_782 := Rep.mo (K := K) g_785.ff r_782
            have e_685 := Ex.tr e_685 g_785.ff
            have e_700 := Ex.tr e_700 g_785.ff
            exact s_ret G w em_bl fun r F1 H1 v g m p => hQ r F1 H1 v g m p
          · have G := G.tr g_785
            have r0 := Rep.mo (K := K) g_785.ff r0
            have r_706 := Rep.mo (K := K) g_785.ff r_706
            have r_712 := Rep.mo (K := K) g_785.ff r_712
            have r_725 := Rep.mo (K := K) g_785.ff r_725
            have r_736 := Rep.mo (K := K) g_785.ff r_736
            have r_753 := Rep.mo (K := K) g_785.ff r_753
            have r_767 := Rep.mo (K := K) g_785.ff r_767
            have r_782 := Rep.mo (K := K) g_785.ff r_782
            have e_685 := Ex.tr e_685 g_785.ff
            have e_700 := Ex.tr e_700 g_785.ff
            refine s_next ?_
            exact hN_690 _ w _ _ _ e_700 ⟨_, _, _, _, _, _, _, rfl, G, e_685⟩
    · rintro s_789 F_790 H_791 _ e_792 ⟨z_673, z_674, z_675, z_676, z_677, z_678, z_679, hs_787, G, e_788⟩ w
      subst hs_787
      have r0 := Rep.mo (K := K) e_788 r0
      exact s_ret0 G w em_bl fun r F1 H1 v g m p => hQ r F1 H1 v g m p
end
def spLaw (K : PySem.W.Frag) : Sp := fun vs H Q _ => ∃ (a : Addr) (ns : List Int), vs = [.ref a] ∧ SqL K H a (ns.map V.int) ∧ ns.length ≤ 63 ∧ ∀ H', Q (.bl true) H'
theorem law_of {P : Program} {w : World} {K : PySem.W.Frag} {mg : Str → Option Value} {base : Heap} {ce : Ce} {k : Nat} {f : Addr} {fd : FuncData} (F : FnOk P w K mg base CX0 k f fd ["script"] (sp_law K ce)) : FnOk P w K mg base CX0 k f fd ["script"] (spLaw K) :=
  F.imp fun vs H Q E ⟨a, ns, h1, h2, h3, h4⟩ => ⟨H, (⟨ns⟩, ()), Ex.rf _, ⟨.ref a, [], h1, ⟨a, rfl, h2⟩, rfl⟩, by
    show Post ce (rv K) (m_law ⟨ns⟩) H H Q E0
    rw [law_true ns h3]
    intro F' H' v g r
    cases r
    exact h4 H'⟩
theorem all_mk {l : PySem.W.OpenLaw} {w : World} {K : PySem.W.Frag} {h : Heap} {mg : Str → Option Value} {fa f0 f1 f2 f3 f4 f5 f6 f7 f8 f9 f10 f11 f12 f13 f14 : Addr}  (X : K.In h) (G : h.Ns mainGlobals mg) (hfa : mg "law" = some (.ref fa))
    {od0 an0 : Option Addr} {sl0 : Array (Option Value)} {oc0 kV0 dc0 pm0 cd0 ct0 : Value}
    {od1 an1 : Option Addr} {sl1 : Array (Option Value)} {oc1 kV1 dc1 pm1 cd1 ct1 : Value}
    {od2 an2 : Option Addr} {sl2 : Array (Option Value)} {oc2 kV2 dc2 pm2 cd2 ct2 : Value}
    {od3 an3 : Option Addr} {sl3 : Array (Option Value)} {oc3 kV3 dc3 pm3 cd3 ct3 : Value}
    {od4 an4 : Option Addr} {sl4 : Array (Option Value)} {oc4 kV4 dc4 pm4 cd4 ct4 : Value}
    {od5 an5 : Option Addr} {sl5 : Array (Option Value)} {oc5 kV5 dc5 pm5 cd5 ct5 : Value}
    {od6 an6 : Option Addr} {sl6 : Array (Option Value)} {oc6 kV6 dc6 pm6 cd6 ct6 : Value}
    {od7 an7 : Option Addr} {sl7 : Array (Option Value)} {oc7 kV7 dc7 pm7 cd7 ct7 : Value}
    {od8 an8 : Option Addr} {sl8 : Array (Option Value)} {oc8 kV8 dc8 pm8 cd8 ct8 : Value}
    {od9 an9 : Option Addr} {sl9 : Array (Option Value)} {oc9 kV9 dc9 pm9 cd9 ct9 : Value}
    {od10 an10 : Option Addr} {sl10 : Array (Option Value)} {oc10 kV10 dc10 pm10 cd10 ct10 : Value}
    {od11 an11 : Option Addr} {sl11 : Array (Option Value)} {oc11 kV11 dc11 pm11 cd11 ct11 : Value}
    {od12 an12 : Option Addr} {sl12 : Array (Option Value)} {oc12 kV12 dc12 pm12 cd12 ct12 : Value}
    {od13 an13 : Option Addr} {sl13 : Array (Option Value)} {oc13 kV13 dc13 pm13 cd13 ct13 : Value}
    {od14 an14 : Option Addr} {sl14 : Array (Option Value)} {oc14 kV14 dc14 pm14 cd14 ct14 : Value}
    (a0 : PySem.W.nsIn K mainGlobals "_law_part" = some (some (.ref f0))) (l0 : K.lookup f0 = some ⟨oc0, od0, .func (PySem.W.fnOf "_law_part" "_law_part" (defArgs s_law_part) (defBody s_law_part) (defScope s_law_part) .none kV0 dc0 pm0 an0 cd0 ct0), sl0⟩) (c0 : PySem.W.codeIn K cd0 "_law_part" = true) (k0 : PySem.W.keepIn K (.ref f0) = true)
    (a1 : PySem.W.nsIn K mainGlobals "_law_fraction" = some (some (.ref f1))) (l1 : K.lookup f1 = some ⟨oc1, od1, .func (PySem.W.fnOf "_law_fraction" "_law_fraction" (defArgs s_law_fraction) (defBody s_law_fraction) (defScope s_law_fraction) .none kV1 dc1 pm1 an1 cd1 ct1), sl1⟩) (c1 : PySem.W.codeIn K cd1 "_law_fraction" = true) (k1 : PySem.W.keepIn K (.ref f1) = true)
    (a2 : PySem.W.nsIn K mainGlobals "_law_drawn" = some (some (.ref f2))) (l2 : K.lookup f2 = some ⟨oc2, od2, .func (PySem.W.fnOf "_law_drawn" "_law_drawn" (defArgs s_law_drawn) (defBody s_law_drawn) (defScope s_law_drawn) .none kV2 dc2 pm2 an2 cd2 ct2), sl2⟩) (c2 : PySem.W.codeIn K cd2 "_law_drawn" = true) (k2 : PySem.W.keepIn K (.ref f2) = true)
    (a3 : PySem.W.nsIn K mainGlobals "fraction_less" = some (some (.ref f3))) (l3 : K.lookup f3 = some ⟨oc3, od3, .func (PySem.W.fnOf "fraction_less" "fraction_less" (defArgs s_fraction_less) (defBody s_fraction_less) (defScope s_fraction_less) .none kV3 dc3 pm3 an3 cd3 ct3), sl3⟩) (c3 : PySem.W.codeIn K cd3 "fraction_less" = true) (k3 : PySem.W.keepIn K (.ref f3) = true)
    (a4 : PySem.W.nsIn K mainGlobals "common_part" = some (some (.ref f4))) (l4 : K.lookup f4 = some ⟨oc4, od4, .func (PySem.W.fnOf "common_part" "common_part" (defArgs s_common_part) (defBody s_common_part) (defScope s_common_part) .none kV4 dc4 pm4 an4 cd4 ct4), sl4⟩) (c4 : PySem.W.codeIn K cd4 "common_part" = true) (k4 : PySem.W.keepIn K (.ref f4) = true)
    (a5 : PySem.W.nsIn K mainGlobals "fraction_of" = some (some (.ref f5))) (l5 : K.lookup f5 = some ⟨oc5, od5, .func (PySem.W.fnOf "fraction_of" "fraction_of" (defArgs s_fraction_of) (defBody s_fraction_of) (defScope s_fraction_of) .none kV5 dc5 pm5 an5 cd5 ct5), sl5⟩) (c5 : PySem.W.codeIn K cd5 "fraction_of" = true) (k5 : PySem.W.keepIn K (.ref f5) = true)
    (a6 : PySem.W.nsIn K mainGlobals "fraction_sum" = some (some (.ref f6))) (l6 : K.lookup f6 = some ⟨oc6, od6, .func (PySem.W.fnOf "fraction_sum" "fraction_sum" (defArgs s_fraction_sum) (defBody s_fraction_sum) (defScope s_fraction_sum) .none kV6 dc6 pm6 an6 cd6 ct6), sl6⟩) (c6 : PySem.W.codeIn K cd6 "fraction_sum" = true) (k6 : PySem.W.keepIn K (.ref f6) = true)
    (a7 : PySem.W.nsIn K mainGlobals "fraction_times" = some (some (.ref f7))) (l7 : K.lookup f7 = some ⟨oc7, od7, .func (PySem.W.fnOf "fraction_times" "fraction_times" (defArgs s_fraction_times) (defBody s_fraction_times) (defScope s_fraction_times) .none kV7 dc7 pm7 an7 cd7 ct7), sl7⟩) (c7 : PySem.W.codeIn K cd7 "fraction_times" = true) (k7 : PySem.W.keepIn K (.ref f7) = true)
    (a8 : PySem.W.nsIn K mainGlobals "_law_whole" = some (some (.ref f8))) (l8 : K.lookup f8 = some ⟨oc8, od8, .func (PySem.W.fnOf "_law_whole" "_law_whole" (defArgs s_law_whole) (defBody s_law_whole) (defScope s_law_whole) .none kV8 dc8 pm8 an8 cd8 ct8), sl8⟩) (c8 : PySem.W.codeIn K cd8 "_law_whole" = true) (k8 : PySem.W.keepIn K (.ref f8) = true)
    (a9 : PySem.W.nsIn K mainGlobals "_law_is_fraction" = some (some (.ref f9))) (l9 : K.lookup f9 = some ⟨oc9, od9, .func (PySem.W.fnOf "_law_is_fraction" "_law_is_fraction" (defArgs s_law_is_fraction) (defBody s_law_is_fraction) (defScope s_law_is_fraction) .none kV9 dc9 pm9 an9 cd9 ct9), sl9⟩) (c9 : PySem.W.codeIn K cd9 "_law_is_fraction" = true) (k9 : PySem.W.keepIn K (.ref f9) = true)
    (a10 : PySem.W.nsIn K mainGlobals "_law_fractions" = some (some (.ref f10))) (l10 : K.lookup f10 = some ⟨oc10, od10, .func (PySem.W.fnOf "_law_fractions" "_law_fractions" (defArgs s_law_fractions) (defBody s_law_fractions) (defScope s_law_fractions) .none kV10 dc10 pm10 an10 cd10 ct10), sl10⟩) (c10 : PySem.W.codeIn K cd10 "_law_fractions" = true) (k10 : PySem.W.keepIn K (.ref f10) = true)
    (a11 : PySem.W.nsIn K mainGlobals "_law_less" = some (some (.ref f11))) (l11 : K.lookup f11 = some ⟨oc11, od11, .func (PySem.W.fnOf "_law_less" "_law_less" (defArgs s_law_less) (defBody s_law_less) (defScope s_law_less) .none kV11 dc11 pm11 an11 cd11 ct11), sl11⟩) (c11 : PySem.W.codeIn K cd11 "_law_less" = true) (k11 : PySem.W.keepIn K (.ref f11) = true)
    (a12 : PySem.W.nsIn K mainGlobals "_law_plus" = some (some (.ref f12))) (l12 : K.lookup f12 = some ⟨oc12, od12, .func (PySem.W.fnOf "_law_plus" "_law_plus" (defArgs s_law_plus) (defBody s_law_plus) (defScope s_law_plus) .none kV12 dc12 pm12 an12 cd12 ct12), sl12⟩) (c12 : PySem.W.codeIn K cd12 "_law_plus" = true) (k12 : PySem.W.keepIn K (.ref f12) = true)
    (a13 : PySem.W.nsIn K mainGlobals "_law_product" = some (some (.ref f13))) (l13 : K.lookup f13 = some ⟨oc13, od13, .func (PySem.W.fnOf "_law_product" "_law_product" (defArgs s_law_product) (defBody s_law_product) (defScope s_law_product) .none kV13 dc13 pm13 an13 cd13 ct13), sl13⟩) (c13 : PySem.W.codeIn K cd13 "_law_product" = true) (k13 : PySem.W.keepIn K (.ref f13) = true)
    (a14 : PySem.W.nsIn K mainGlobals "law" = some (some (.ref f14))) (l14 : K.lookup f14 = some ⟨oc14, od14, .func (PySem.W.fnOf "law" "law" (defArgs s_law) (defBody s_law) (defScope s_law) .none kV14 dc14 pm14 an14 cd14 ct14), sl14⟩) (c14 : PySem.W.codeIn K cd14 "law" = true) (k14 : PySem.W.keepIn K (.ref f14) = true)
    (z_abs : PySem.W.nsIn K mainGlobals "abs" = some none)
    (z_bool : PySem.W.nsIn K mainGlobals "bool" = some none)
    (z_int : PySem.W.nsIn K mainGlobals "int" = some none)
    (z_isinstance : PySem.W.nsIn K mainGlobals "isinstance" = some none)
    (z_len : PySem.W.nsIn K mainGlobals "len" = some none)
    (z_list : PySem.W.nsIn K mainGlobals "list" = some none)
    (z_tuple : PySem.W.nsIn K mainGlobals "tuple" = some none) :
    ∃ fd : FuncData, (∀ (s : Shared) (v : Value), BindsTo s fd ⟨[v], []⟩ [("script", v)]) ∧ ∀ base : Heap, K.In base → base.Ns mainGlobals mg → FnOk l.prog w K mg base CX0 4 fa fd ["script"] (spLaw K) := by
  have e := hfa.symm.trans (PySem.W.mg_of X G a14)
  cases e
  let ce : Ce := fun _ => 0
  have z_abs := PySem.W.mg_none_of X G z_abs
  have z_bool := PySem.W.mg_none_of X G z_bool
  have z_int := PySem.W.mg_none_of X G z_int
  have z_isinstance := PySem.W.mg_none_of X G z_isinstance
  have z_len := PySem.W.mg_none_of X G z_len
  have z_list := PySem.W.mg_none_of X G z_list
  have z_tuple := PySem.W.mg_none_of X G z_tuple
  have F0 := fun_mk (st := s_law_part) l0 c0 k0
  have b__law_part := F0.binds (ps := ["one", "other"]) fun _ _ _ _ _ _ us hl => match us, hl with | [_, _], _ => rfl
  have mg__law_part := PySem.W.mg_of X G a0
  have F1 := fun_mk (st := s_law_fraction) l1 c1 k1
  have b__law_fraction := F1.binds (ps := ["top", "bottom"]) fun _ _ _ _ _ _ us hl => match us, hl with | [_, _], _ => rfl
  have mg__law_fraction := PySem.W.mg_of X G a1
  have F2 := fun_mk (st := s_law_drawn) l2 c2 k2
  have b__law_drawn := F2.binds (ps := ["cell"]) fun _ _ _ _ _ _ us hl => match us, hl with | [_], _ => rfl
  have mg__law_drawn := PySem.W.mg_of X G a2
  have F3 := fun_mk (st := s_fraction_less) l3 c3 k3
  have b_fraction_less := F3.binds (ps := ["one", "other"]) fun _ _ _ _ _ _ us hl => match us, hl with | [_, _], _ => rfl
  have mg_fraction_less := PySem.W.mg_of X G a3
  have F4 := fun_mk (st := s_common_part) l4 c4 k4
  have b_common_part := F4.binds (ps := ["one", "other"]) fun _ _ _ _ _ _ us hl => match us, hl with | [_, _], _ => rfl
  have mg_common_part := PySem.W.mg_of X G a4
  have F5 := fun_mk (st := s_fraction_of) l5 c5 k5
  have b_fraction_of := F5.binds (ps := ["top", "bottom"]) fun _ _ _ _ _ _ us hl => match us, hl with | [_, _], _ => rfl
  have mg_fraction_of := PySem.W.mg_of X G a5
  have F6 := fun_mk (st := s_fraction_sum) l6 c6 k6
  have b_fraction_sum := F6.binds (ps := ["one", "other"]) fun _ _ _ _ _ _ us hl => match us, hl with | [_, _], _ => rfl
  have mg_fraction_sum := PySem.W.mg_of X G a6
  have F7 := fun_mk (st := s_fraction_times) l7 c7 k7
  have b_fraction_times := F7.binds (ps := ["one", "other"]) fun _ _ _ _ _ _ us hl => match us, hl with | [_, _], _ => rfl
  have mg_fraction_times := PySem.W.mg_of X G a7
  have F8 := fun_mk (st := s_law_whole) l8 c8 k8
  have b__law_whole := F8.binds (ps := ["found"]) fun _ _ _ _ _ _ us hl => match us, hl with | [_], _ => rfl
  have mg__law_whole := PySem.W.mg_of X G a8
  have F9 := fun_mk (st := s_law_is_fraction) l9 c9 k9
  have b__law_is_fraction := F9.binds (ps := ["found"]) fun _ _ _ _ _ _ us hl => match us, hl with | [_], _ => rfl
  have mg__law_is_fraction := PySem.W.mg_of X G a9
  have F10 := fun_mk (st := s_law_fractions) l10 c10 k10
  have b__law_fractions := F10.binds (ps := ["found", "many"]) fun _ _ _ _ _ _ us hl => match us, hl with | [_, _], _ => rfl
  have mg__law_fractions := PySem.W.mg_of X G a10
  have F11 := fun_mk (st := s_law_less) l11 c11 k11
  have b__law_less := F11.binds (ps := ["one", "other"]) fun _ _ _ _ _ _ us hl => match us, hl with | [_, _], _ => rfl
  have mg__law_less := PySem.W.mg_of X G a11
  have F12 := fun_mk (st := s_law_plus) l12 c12 k12
  have b__law_plus := F12.binds (ps := ["one", "other"]) fun _ _ _ _ _ _ us hl => match us, hl with | [_, _], _ => rfl
  have mg__law_plus := PySem.W.mg_of X G a12
  have F13 := fun_mk (st := s_law_product) l13 c13 k13
  have b__law_product := F13.binds (ps := ["one", "other"]) fun _ _ _ _ _ _ us hl => match us, hl with | [_, _], _ => rfl
  have mg__law_product := PySem.W.mg_of X G a13
  have F14 := fun_mk (st := s_law) l14 c14 k14
  refine ⟨PySem.W.fnOf "law" "law" (defArgs s_law) (defBody s_law) (defScope s_law) .none kV14 dc14 pm14 an14 cd14 ct14, fun s v => .of_eq rfl, fun base _ _ => ?_⟩
  have G__law_part := ok_law_part (P := l.prog) (w := w) (mg := mg) (base := base) (ce := ce) F0
  have G__law_fraction := ok_law_fraction (P := l.prog) (w := w) (mg := mg) (base := base) (ce := ce) F1 G__law_part mg__law_part k0 b__law_part z_abs
  have G__law_drawn := ok_law_drawn (P := l.prog) (w := w) (mg := mg) (base := base) (ce := ce) F2 G__law_fraction mg__law_fraction k1 b__law_fraction
  have G_fraction_less := ok_fraction_less (P := l.prog) (w := w) (mg := mg) (base := base) (ce := ce) F3
  have G_common_part := ok_common_part (P := l.prog) (w := w) (mg := mg) (base := base) (ce := ce) F4
  have G_fraction_of := ok_fraction_of (P := l.prog) (w := w) (mg := mg) (base := base) (ce := ce) F5 G_common_part mg_common_part k4 b_common_part z_abs
  have G_fraction_sum := ok_fraction_sum (P := l.prog) (w := w) (mg := mg) (base := base) (ce := ce) F6 G_fraction_of mg_fraction_of k5 b_fraction_of
  have G_fraction_times := ok_fraction_times (P := l.prog) (w := w) (mg := mg) (base := base) (ce := ce) F7 G_fraction_of mg_fraction_of k5 b_fraction_of
  have G__law_whole := ok_law_whole (P := l.prog) (w := w) (mg := mg) (base := base) (ce := ce) F8 z_bool z_int z_isinstance
  have G__law_is_fraction := ok_law_is_fraction (P := l.prog) (w := w) (mg := mg) (base := base) (ce := ce) F9 G__law_part mg__law_part k0 b__law_part G__law_whole mg__law_whole k8 b__law_whole z_abs z_isinstance z_len z_tuple
  have G__law_fractions := ok_law_fractions (P := l.prog) (w := w) (mg := mg) (base := base) (ce := ce) F10 G__law_is_fraction mg__law_is_fraction k9 b__law_is_fraction z_isinstance z_len z_list
  have G__law_less := ok_law_less (P := l.prog) (w := w) (mg := mg) (base := base) (ce := ce) F11
  have G__law_plus := ok_law_plus (P := l.prog) (w := w) (mg := mg) (base := base) (ce := ce) F12 G__law_fraction mg__law_fraction k1 b__law_fraction
  have G__law_product := ok_law_product (P := l.prog) (w := w) (mg := mg) (base := base) (ce := ce) F13 G__law_fraction mg__law_fraction k1 b__law_fraction
  exact law_of (ok_law (mg := mg) (ce := ce) F14 G__law_drawn mg__law_drawn k2 b__law_drawn G__law_fractions mg__law_fractions k10 b__law_fractions G__law_is_fraction mg__law_is_fraction k9 b__law_is_fraction G__law_less mg__law_less k11 b__law_less G__law_plus mg__law_plus k12 b__law_plus G__law_product mg__law_product k13 b__law_product G_fraction_less mg_fraction_less k3 b_fraction_less G_fraction_of mg_fraction_of k5 b_fraction_of G_fraction_sum mg_fraction_sum k6 b_fraction_sum G_fraction_times mg_fraction_times k7 b_fraction_times z_bool z_int z_isinstance z_list)
end Kx
open PySem PySem.W PyProof.Rows
set_option maxRecDepth 100000 in
set_option maxHeartbeats 0 in
theorem PySem.Challenge.cw_meshworks_k61_fractions_reckoned_holds : PySem.Challenge.rw_meshworks_k61_fractions_reckoned.Holds := by
  w_on; o_law; k_head; (case hw => w_witness2)
  k_fill
  refine L2.walk_of (l := PySem.Challenge.rw_meshworks_k61_fractions_reckoned) (n := 63) (k := 4) (x := "script") (CX := fun _ => L2.CX0) (sp := fun w => Kx.spLaw _) rfl (by decide) rfl ⟨rfl, by decide, by decide⟩ (fun w h Y => PySem.W.kIn_of Y) ?F (fun _ _ a ns hl _ hS => ⟨a, ns, rfl, hS, hl, fun _ => rfl⟩) (fun _ _ _ _ _ h => h)
  case F =>
    intro w mg fa h KX G hmg
    refine' Kx.all_mk KX G hmg ?a0 ?l0 ?c0 ?k0 ?a1 ?l1 ?c1 ?k1 ?a2 ?l2 ?c2 ?k2 ?a3 ?l3 ?c3 ?k3 ?a4 ?l4 ?c4 ?k4 ?a5 ?l5 ?c5 ?k5 ?a6 ?l6 ?c6 ?k6 ?a7 ?l7 ?c7 ?k7 ?a8 ?l8 ?c8 ?k8 ?a9 ?l9 ?c9 ?k9 ?a10 ?l10 ?c10 ?k10 ?a11 ?l11 ?c11 ?k11 ?a12 ?l12 ?c12 ?k12 ?a13 ?l13 ?c13 ?k13 ?a14 ?l14 ?c14 ?k14 ?z_abs ?z_bool ?z_int ?z_isinstance ?z_len ?z_list ?z_tuple
    (case a0 => k_is)
    (case l0 => k_is)
    (case c0 => k_is)
    (case k0 => k_is)
    (case a1 => k_is)
    (case l1 => k_is)
    (case c1 => k_is)
    (case k1 => k_is)
    (case a2 => k_is)
    (case l2 => k_is)
    (case c2 => k_is)
    (case k2 => k_is)
    (case a3 => k_is)
    (case l3 => k_is)
    (case c3 => k_is)
    (case k3 => k_is)
    (case a4 => k_is)
    (case l4 => k_is)
    (case c4 => k_is)
    (case k4 => k_is)
    (case a5 => k_is)
    (case l5 => k_is)
    (case c5 => k_is)
    (case k5 => k_is)
    (case a6 => k_is)
    (case l6 => k_is)
    (case c6 => k_is)
    (case k6 => k_is)
    (case a7 => k_is)
    (case l7 => k_is)
    (case c7 => k_is)
    (case k7 => k_is)
    (case a8 => k_is)
    (case l8 => k_is)
    (case c8 => k_is)
    (case k8 => k_is)
    (case a9 => k_is)
    (case l9 => k_is)
    (case c9 => k_is)
    (case k9 => k_is)
    (case a10 => k_is)
    (case l10 => k_is)
    (case c10 => k_is)
    (case k10 => k_is)
    (case a11 => k_is)
    (case l11 => k_is)
    (case c11 => k_is)
    (case k11 => k_is)
    (case a12 => k_is)
    (case l12 => k_is)
    (case c12 => k_is)
    (case k12 => k_is)
    (case a13 => k_is)
    (case l13 => k_is)
    (case c13 => k_is)
    (case k13 => k_is)
    (case a14 => k_is)
    (case l14 => k_is)
    (case c14 => k_is)
    (case k14 => k_is)
    (case z_abs => k_is)
    (case z_bool => k_is)
    (case z_int => k_is)
    (case z_isinstance => k_is)
    (case z_len => k_is)
    (case z_list => k_is)
    (case z_tuple => k_is)
