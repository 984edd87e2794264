import PyProof.Rows.All
import Wide.All
import OpenK.AllK
import Wide.FinOn
import HandS.ForMost
import HandS.ForExc
import HandS.Wide
import HandS.SortInts
import HandS.SortRule
import HandS.IsInst
import HandS.ExcIs
import HandS.Flow
import HandS.Style
import HandS.Conv
import HandS.More
import HandS.Evl
import HandS.ForDict
import HandS.Strs
import HandS.SetFor
import HandS.TupSets
import PySem.Challenge.RW_meshworks_k04_taken_out
set_option Elab.async false
set_option linter.all false
set_option maxRecDepth 100000
set_option maxHeartbeats 2000000
/-! Mw, part A: data by their types, what represents them; the monad of the mirrors; what an expression tells. -/
namespace Mw
open PySem L2
abbrev Ex (H H' : Hp) : Prop := ∀ a o, H a = some o → H' a = some o
theorem Ex.rf (H : Hp) : Ex H H := fun _ _ h => h
theorem Ex.tr {H H1 H2 : Hp} (a : Ex H H1) (b : Ex H1 H2) : Ex H H2 := fun x o h => b x o (a x o h)
theorem Ex.nw {H : Hp} {p : Addr} {o : HO} (h : H p = none) : Ex H (upd H p o) := fun a u e => by
  rw [upd_ne (ne_of_none e h)]
  exact e
theorem ex_rd {H H' : Hp} {a : Addr} {u : HO} (e : Ex H H') (h : Rd H a u) : Rd H' a u := by
  rcases h with h | ⟨o, h⟩
  · exact Or.inl (e a _ h)
  · exact Or.inr ⟨o, e a _ h⟩
theorem ex_l {K : PySem.W.Frag} {H H' : Hp} {a : Addr} {xs : List V} (e : Ex H H') (h : SqL K H a xs) : SqL K H' a xs := by
  rcases h with h | h
  · exact Or.inl (ex_rd e h)
  · exact Or.inr h
theorem ex_t {K : PySem.W.Frag} {H H' : Hp} {a : Addr} {xs : List V} (e : Ex H H') (h : SqT K H a xs) : SqT K H' a xs := by
  rcases h with h | h
  · exact Or.inl (ex_rd e h)
  · exact Or.inr h

/-! ### what the frame may lean on (F), and all that is tracked (H): both grow -/
structure Gr (F H F' H' : Hp) : Prop where
  ff : Ex F F'
  fh : Ex F' H'
  hh : Ex H H'
  nw : ∀ b, F b = none → H b ≠ none → F' b = none
theorem Gr.rf {F H : Hp} (h : Ex F H) : Gr F H F H := ⟨Ex.rf _, h, Ex.rf _, fun _ a _ => a⟩
theorem Ex.ne {H H' : Hp} (h : Ex H H') {b : Addr} (n : H b ≠ none) : H' b ≠ none := by
  cases e : H b with
  | none => exact absurd e n
  | some o => rw [h b o e]; exact fun z => by cases z
theorem Gr.tr {F H F1 H1 F2 H2 : Hp} (a : Gr F H F1 H1) (b : Gr F1 H1 F2 H2) : Gr F H F2 H2 :=
  ⟨a.ff.tr b.ff, b.fh, a.hh.tr b.hh, fun c h1 h2 => b.nw c (a.nw c h1 h2) (a.hh.ne h2)⟩
/-- a new object that all may lean on -/
theorem Gr.new {F H : Hp} {p : Addr} {o : HO} (h : Ex F H) (n : H p = none) : Gr F H (upd F p o) (upd H p o) where
  ff := fun a u e => by
    have : a ≠ p := fun z => by subst z; rw [h a u e] at n; cases n
    rw [upd_ne this]; exact e
  fh := fun a u e => by
    by_cases z : a = p
    · subst z; rw [upd_same] at e ⊢; exact e
    · rw [upd_ne z] at e ⊢; exact h a u e
  hh := Ex.nw n
  nw := fun b h1 h2 => by
    have : b ≠ p := fun z => by subst z; exact h2 n
    rw [upd_ne this]; exact h1
/-- a new object of one's own -/
theorem Gr.own {F H : Hp} {p : Addr} {o : HO} (h : Ex F H) (n : H p = none) : Gr F H F (upd H p o) where
  ff := Ex.rf _
  fh := fun a u e => by
    have : a ≠ p := fun z => by subst z; rw [h a u e] at n; cases n
    rw [upd_ne this]; exact h a u e
  hh := Ex.nw n
  nw := fun b h1 _ => h1
/-- one's own object is changed -/
theorem Gr.mut {F0 H0 F H : Hp} {p : Addr} {o : HO} (g : Gr F0 H0 F H) (n0 : H0 p = none) (nf : F p = none) : Gr F0 H0 F (upd H p o) where
  ff := g.ff
  fh := fun a u e => by
    have : a ≠ p := fun z => by subst z; rw [e] at nf; cases nf
    rw [upd_ne this]; exact g.fh a u e
  hh := fun a u e => by
    have : a ≠ p := fun z => by subst z; rw [e] at n0; cases n0
    rw [upd_ne this]; exact g.hh a u e
  nw := g.nw
theorem ex_back {H H' : Hp} {p : Addr} (e : Ex H H') (h : H' p = none) : H p = none := by
  cases h1 : H p with
  | none => rfl
  | some o => rw [e p o h1] at h; cases h

/-! ### data -/
class Rep (α : Type) where
  rp : PySem.W.Frag → Hp → V → α → Prop
  mo : ∀ {K : PySem.W.Frag} {H H' : Hp} {v : V} {x : α}, Ex H H' → rp K H v x → rp K H' v x
open Rep (rp)
theorem paired_mo {α : Type} [Rep α] {K : PySem.W.Frag} {H H' : Hp} (e : Ex H H') : ∀ {vs : List V} {xs : List α}, Paired (rp K H) vs xs → Paired (rp K H') vs xs
  | _, _, .nil => .nil
  | _, _, .cons h t => .cons (Rep.mo e h) (paired_mo e t)
structure T3 (α β γ : Type) where
  a : α
  b : β
  c : γ
  deriving DecidableEq
structure T4 (α β γ δ : Type) where
  a : α
  b : β
  c : γ
  d : δ
  deriving DecidableEq
instance : Rep Int := ⟨fun _ _ v x => v = .int x, fun _ h => h⟩
instance : Rep Bool := ⟨fun _ _ v x => v = .bl x, fun _ h => h⟩
instance : Rep Str := ⟨fun _ _ v x => v = .str x, fun _ h => h⟩
instance : Rep Unit := ⟨fun _ _ v _ => v = .non, fun _ h => h⟩
instance {α : Type} [Rep α] : Rep (Option α) := ⟨fun K H v x => match x with
  | none => v = .non
  | some y => rp K H v y ∧ v ≠ .non, fun {K H H' v x} e h => by
    cases x with
    | none => exact h
    | some y => exact ⟨Rep.mo e h.1, h.2⟩⟩
instance {α β : Type} [Rep α] [Rep β] : Rep (α × β) := ⟨fun K H v x => ∃ a u w, v = .ref a ∧ SqT K H a [u, w] ∧ rp K H u x.1 ∧ rp K H w x.2,
  fun e ⟨a, u, w, h1, h2, h3, h4⟩ => ⟨a, u, w, h1, ex_t e h2, Rep.mo e h3, Rep.mo e h4⟩⟩
instance {α β γ : Type} [Rep α] [Rep β] [Rep γ] : Rep (T3 α β γ) := ⟨fun K H v x => ∃ a u w z, v = .ref a ∧ SqT K H a [u, w, z] ∧ rp K H u x.a ∧ rp K H w x.b ∧ rp K H z x.c,
  fun e ⟨a, u, w, z, h1, h2, h3, h4, h5⟩ => ⟨a, u, w, z, h1, ex_t e h2, Rep.mo e h3, Rep.mo e h4, Rep.mo e h5⟩⟩
instance {α β γ δ : Type} [Rep α] [Rep β] [Rep γ] [Rep δ] : Rep (T4 α β γ δ) := ⟨fun K H v x => ∃ a u w z y, v = .ref a ∧ SqT K H a [u, w, z, y] ∧ rp K H u x.a ∧ rp K H w x.b ∧ rp K H z x.c ∧ rp K H y x.d,
  fun e ⟨a, u, w, z, y, h1, h2, h3, h4, h5, h6⟩ => ⟨a, u, w, z, y, h1, ex_t e h2, Rep.mo e h3, Rep.mo e h4, Rep.mo e h5, Rep.mo e h6⟩⟩
instance {α : Type} [Rep α] : Rep (List α) := ⟨fun K H v x => ∃ a vs, v = .ref a ∧ H a = some (.lst vs) ∧ Paired (rp K H) vs x,
  fun e ⟨a, vs, h1, h2, h3⟩ => ⟨a, vs, h1, e _ _ h2, paired_mo e h3⟩⟩
/-- the script: read alone -/
structure Scr where
  l : List Int
instance : Rep Scr := ⟨fun K H v x => ∃ a, v = .ref a ∧ SqL K H a (x.l.map V.int), fun e ⟨a, h1, h2⟩ => ⟨a, h1, ex_l e h2⟩⟩
theorem paired_map {α β : Type} {F : α → β → Prop} {f : β → α} (h : ∀ b, F (f b) b) : ∀ xs : List β, Paired F (xs.map f) xs
  | [] => .nil
  | x :: r => .cons (h x) (paired_map h r)
theorem paired_int {K : PySem.W.Frag} {H : Hp} : ∀ {vs : List V} {xs : List Int}, Paired (rp K H) vs xs → vs = xs.map V.int
  | _, _, .nil => rfl
  | _, _, .cons h t => by
    rw [List.map_cons, ← paired_int t]
    exact congrArg (· :: _) h
theorem paired_bl {K : PySem.W.Frag} {H : Hp} : ∀ {vs : List V} {xs : List Bool}, Paired (rp K H) vs xs → vs = xs.map V.bl
  | _, _, .nil => rfl
  | _, _, .cons h t => by
    rw [List.map_cons, ← paired_bl t]
    exact congrArg (· :: _) h
theorem rep_int {K : PySem.W.Frag} {H : Hp} (xs : List Int) : Paired (rp K H) (xs.map V.int) xs := paired_map (F := rp K H) (f := V.int) (fun _ => rfl) xs
theorem paired_get {α β : Type} {F : α → β → Prop} : ∀ {vs : List α} {xs : List β} {i : Nat} {x : β}, Paired F vs xs → xs[i]? = some x → ∃ v, vs[i]? = some v ∧ F v x
  | _, _, _, _, .nil, e => by simp at e
  | _, _, 0, _, .cons r _, e => by simp at e; subst e; exact ⟨_, rfl, r⟩
  | _, _, i + 1, x, .cons _ t, e => by
    obtain ⟨u, h1, h2⟩ := paired_get (i := i) (x := x) t (by simpa using e)
    exact ⟨u, by simpa using h1, h2⟩
theorem paired_get' {α β : Type} {F : α → β → Prop} : ∀ {vs : List α} {xs : List β} {i : Nat} {v : α}, Paired F vs xs → vs[i]? = some v → ∃ x, xs[i]? = some x ∧ F v x
  | _, _, _, _, .nil, e => by simp at e
  | _, _, 0, _, .cons r _, e => by simp at e; subst e; exact ⟨_, rfl, r⟩
  | _, _, i + 1, x, .cons _ t, e => by
    obtain ⟨u, h1, h2⟩ := paired_get' (i := i) (v := x) t (by simpa using e)
    exact ⟨u, by simpa using h1, h2⟩
theorem paired_app {α β : Type} {F : α → β → Prop} : ∀ {vs ws : List α} {xs ys : List β}, Paired F vs xs → Paired F ws ys → Paired F (vs ++ ws) (xs ++ ys)
  | _, _, _, _, .nil, s => s
  | _, _, _, _, .cons r t, s => .cons r (paired_app t s)
theorem paired_take {α β : Type} {F : α → β → Prop} : ∀ {vs : List α} {xs : List β} (n : Nat), Paired F vs xs → Paired F (vs.take n) (xs.take n)
  | _, _, 0, _ => .nil
  | _, _, _ + 1, .nil => .nil
  | _, _, n + 1, .cons r t => .cons r (paired_take n t)
theorem paired_drop {α β : Type} {F : α → β → Prop} : ∀ {vs : List α} {xs : List β} (n : Nat), Paired F vs xs → Paired F (vs.drop n) (xs.drop n)
  | _, _, 0, r => r
  | _, _, _ + 1, .nil => .nil
  | _, _, n + 1, .cons _ t => paired_drop n t
theorem paired_rev {α β : Type} {F : α → β → Prop} : ∀ {vs : List α} {xs : List β}, Paired F vs xs → Paired F vs.reverse xs.reverse
  | _, _, .nil => .nil
  | _, _, .cons r t => by
    rw [List.reverse_cons, List.reverse_cons]
    exact paired_app (paired_rev t) (.cons r .nil)
theorem paired_set {α β : Type} {F : α → β → Prop} {v : α} {x : β} (r : F v x) : ∀ {vs : List α} {xs : List β} (i : Nat), Paired F vs xs → Paired F (vs.set i v) (xs.set i x)
  | _, _, _, .nil => .nil
  | _, _, 0, .cons _ t => .cons r t
  | _, _, i + 1, .cons q t => .cons q (paired_set r i t)
theorem paired_rep {α β : Type} {F : α → β → Prop} {v : α} {x : β} (r : F v x) : ∀ n : Nat, Paired F (List.replicate n v) (List.replicate n x)
  | 0 => .nil
  | n + 1 => .cons r (paired_rep r n)

/-! ### data that lean on no list -/
def TupEx (F F' : Hp) : Prop := ∀ a xs, Rd F a (.tup xs) → Rd F' a (.tup xs)
class Flat (α : Type) [Rep α] : Prop where
  fl : ∀ {K : PySem.W.Frag} {F F' : Hp} {v : V} {x : α}, TupEx F F' → rp K F v x → rp K F' v x
theorem tup_t {K : PySem.W.Frag} {H H' : Hp} {a : Addr} {xs : List V} (e : TupEx H H') (h : SqT K H a xs) : SqT K H' a xs := by
  rcases h with h | h
  · exact Or.inl (e a xs h)
  · exact Or.inr h
instance : Flat Int := ⟨fun _ h => h⟩
instance : Flat Bool := ⟨fun _ h => h⟩
instance : Flat Str := ⟨fun _ h => h⟩
instance : Flat Unit := ⟨fun _ h => h⟩
instance {α : Type} [Rep α] [Flat α] : Flat (Option α) := ⟨fun {K F F' v x} e h => by
  cases x with
  | none => exact h
  | some y => exact ⟨Flat.fl e h.1, h.2⟩⟩
instance {α β : Type} [Rep α] [Rep β] [Flat α] [Flat β] : Flat (α × β) := ⟨fun e ⟨a, u, w, h1, h2, h3, h4⟩ => ⟨a, u, w, h1, tup_t e h2, Flat.fl e h3, Flat.fl e h4⟩⟩
instance {α β γ : Type} [Rep α] [Rep β] [Rep γ] [Flat α] [Flat β] [Flat γ] : Flat (T3 α β γ) := ⟨fun e ⟨a, u, w, z, h1, h2, h3, h4, h5⟩ => ⟨a, u, w, z, h1, tup_t e h2, Flat.fl e h3, Flat.fl e h4, Flat.fl e h5⟩⟩
instance {α β γ δ : Type} [Rep α] [Rep β] [Rep γ] [Rep δ] [Flat α] [Flat β] [Flat γ] [Flat δ] : Flat (T4 α β γ δ) := ⟨fun e ⟨a, u, w, z, y, h1, h2, h3, h4, h5, h6⟩ => ⟨a, u, w, z, y, h1, tup_t e h2, Flat.fl e h3, Flat.fl e h4, Flat.fl e h5, Flat.fl e h6⟩⟩
theorem paired_fl {α : Type} [Rep α] [Flat α] {K : PySem.W.Frag} {F F' : Hp} (e : TupEx F F') : ∀ {vs : List V} {xs : List α}, Paired (rp K F) vs xs → Paired (rp K F') vs xs
  | _, _, .nil => .nil
  | _, _, .cons h t => .cons (Flat.fl e h) (paired_fl e t)

/-! ### the mirrors' monad -/
structure Err where
  name : String
  deriving DecidableEq
inductive M (α : Type) where
  | ok (a : α)
  | er (c : Err)
  | bad
  deriving DecidableEq
def M.bind {α β : Type} : M α → (α → M β) → M β
  | .ok a, f => f a
  | .er c, _ => .er c
  | .bad, _ => .bad
@[simp] theorem M.ok_bind {α β : Type} (a : α) (f : α → M β) : (M.ok a).bind f = f a := (rfl)
@[simp] theorem M.er_bind {α β : Type} (c : Err) (f : α → M β) : (M.er c : M α).bind f = .er c := (rfl)
@[simp] theorem M.bad_bind {α β : Type} (f : α → M β) : (M.bad : M α).bind f = .bad := (rfl)

/-! ### what comes of a run -/
abbrev Md (ρ : Type) := Hp → Hp → Hp → Hp → V → ρ → Prop
/-- any value that represents it -/
def rv (K : PySem.W.Frag) {ρ : Type} [Rep ρ] : Md ρ := fun _ _ F' _ v r => rp K F' v r
/-- a new list of one's own -/
def rn (K : PySem.W.Frag) {α : Type} [Rep α] : Md (List α) := fun _ H F' H' v r => ∃ p vs, v = .ref p ∧ H p = none ∧ F' p = none ∧ H' p = some (.lst vs) ∧ Paired (rp K F') vs r
/-- the classes of errors by their names -/
abbrev Ce := String → Addr
def Post {ρ : Type} (ce : Ce) (md : Md ρ) (m : M ρ) (F H : Hp) (Q : VK) (E : XK) : Prop :=
  match m with
  | .ok r => ∀ F' H' v, Gr F H F' H' → md F H F' H' v r → Q v H'
  | .er c => ∀ H', Ex H H' → E (.ref (ce c.name)) none H'
  | .bad => False
class MdMo {ρ : Type} (md : Md ρ) : Prop where
  mo : ∀ {F H F1 H1 F2 H2 v r}, Gr F H F1 H1 → md F1 H1 F2 H2 v r → md F H F2 H2 v r
instance {K : PySem.W.Frag} {ρ : Type} [Rep ρ] : MdMo (rv K (ρ := ρ)) := ⟨fun _ h => h⟩
instance {K : PySem.W.Frag} {α : Type} [Rep α] : MdMo (rn K (α := α)) := ⟨fun g ⟨p, vs, h1, h2, h3⟩ => ⟨p, vs, h1, ex_back g.hh h2, h3⟩⟩
theorem Post.mo {ρ : Type} {ce : Ce} {md : Md ρ} [MdMo md] {m : M ρ} {F H F1 H1 : Hp} {Q : VK} {E : XK} (g : Gr F H F1 H1) (h : Post ce md m F H Q E) : Post ce md m F1 H1 Q E := by
  cases m with
  | ok r => exact fun F' H' v g' hm => h F' H' v (g.tr g') (MdMo.mo g hm)
  | er c => exact fun H' e => h H' (g.hh.tr e)
  | bad => exact h
/-- what an expression tells, whatever has been done meanwhile -/
def Ev {ρ : Type} (ce : Ce) (E : XK) (te : TE) (σ : L2.St) (F H : Hp) (md : Md ρ) (m : M ρ) : Prop := ∀ F1 H1, Gr F H F1 H1 → ∀ Q : VK, Post ce md m F1 H1 Q E → te σ H1 Q
/-- a test -/
def PostT (ce : Ce) (m : M Bool) (F H : Hp) (Q : Bool → Hp → Prop) (E : XK) : Prop :=
  match m with
  | .ok r => ∀ F' H', Gr F H F' H' → Q r H'
  | .er c => ∀ H', Ex H H' → E (.ref (ce c.name)) none H'
  | .bad => False
def EvT (ce : Ce) (E : XK) (tt : TT) (σ : L2.St) (F H : Hp) (m : M Bool) : Prop := ∀ F1 H1, Gr F H F1 H1 → ∀ Q : Bool → Hp → Prop, PostT ce m F1 H1 Q E → tt σ H1 Q
theorem PostT.mo {ce : Ce} {m : M Bool} {F H F1 H1 : Hp} {Q : Bool → Hp → Prop} {E : XK} (g : Gr F H F1 H1) (h : PostT ce m F H Q E) : PostT ce m F1 H1 Q E := by
  cases m with
  | ok r => exact fun F' H' g' => h F' H' (g.tr g')
  | er c => exact fun H' e => h H' (g.hh.tr e)
  | bad => exact h
section
variable {ρ α β γ : Type} [Rep α] [Rep β] [Rep γ] {ce : Ce} {E : XK} {K : PySem.W.Frag} {σ : L2.St} {F H F' H' : Hp} {te ta tb tc : TE} {tt tu : TT} {md : Md ρ} {m : M ρ}
theorem Ev.mo (g : Gr F H F' H') (h : Ev ce E te σ F H md m) : Ev ce E te σ F' H' md m := fun F1 H1 g1 Q q => h F1 H1 (g.tr g1) Q q
theorem EvT.mo {m : M Bool} (g : Gr F H F' H') (h : EvT ce E tt σ F H m) : EvT ce E tt σ F' H' m := fun F1 H1 g1 Q q => h F1 H1 (g.tr g1) Q q
/-- run a part, then what follows (F0, H0: the entry) -/
theorem Ev.run {m1 : M α} {k : α → M ρ} {Q Q' : VK} {F0 H0 : Hp} (h : Ev ce E ta σ F H (rv K) m1) (G : Gr F0 H0 F H) (q : Post ce md (m1.bind k) F0 H0 Q E)
    (c : ∀ x F1 H1 v, m1 = .ok x → Gr F H F1 H1 → rp K F1 v x → Post ce md (k x) F0 H0 Q E → Q' v H1) : ta σ H Q' := by
  refine h F H (Gr.rf G.fh) Q' ?_
  cases m1 with
  | ok x => exact fun F1 H1 v g r => c x F1 H1 v rfl g r q
  | er cc => exact fun H' e => q H' (G.hh.tr e)
  | bad => exact q
theorem Ev.runN {m1 : M (List α)} {k : List α → M ρ} {Q Q' : VK} {F0 H0 : Hp} (h : Ev ce E ta σ F H (rn K) m1) (G : Gr F0 H0 F H) (q : Post ce md (m1.bind k) F0 H0 Q E)
    (c : ∀ x F1 H1 p vs, m1 = .ok x → Gr F H F1 H1 → H p = none → F1 p = none → H1 p = some (.lst vs) → Paired (rp K F1) vs x → Post ce md (k x) F0 H0 Q E → Q' (.ref p) H1) : ta σ H Q' := by
  refine h F H (Gr.rf G.fh) Q' ?_
  cases m1 with
  | ok x =>
    rintro F1 H1 v g ⟨p, vs, rfl, h1, h2, h3, h4⟩
    exact c x F1 H1 p vs rfl g h1 h2 h3 h4 q
  | er cc => exact fun H' e => q H' (G.hh.tr e)
  | bad => exact q
theorem EvT.run {m1 : M Bool} {k : Bool → M ρ} {Q : VK} {Q' : Bool → Hp → Prop} {F0 H0 : Hp} (h : EvT ce E tt σ F H m1) (G : Gr F0 H0 F H) (q : Post ce md (m1.bind k) F0 H0 Q E)
    (c : ∀ x F1 H1, m1 = .ok x → Gr F H F1 H1 → Post ce md (k x) F0 H0 Q E → Q' x H1) : tt σ H Q' := by
  refine h F H (Gr.rf G.fh) Q' ?_
  cases m1 with
  | ok x => exact fun F1 H1 g => c x F1 H1 rfl g q
  | er cc => exact fun H' e => q H' (G.hh.tr e)
  | bad => exact q
/-- a new list may be leant on -/
theorem Ev.nv {m : M (List α)} (h : Ev ce E te σ F H (rn K) m) : Ev ce E te σ F H (rv K) m := by
  intro F1 H1 g Q q
  refine h F1 H1 g Q ?_
  cases m with
  | ok x =>
    rintro F2 H2 v g2 ⟨p, vs, rfl, h1, h2, h3, h4⟩
    refine q (upd F2 p (.lst vs)) H2 (.ref p) ⟨g2.ff.tr (Ex.nw h2), ?_, g2.hh, fun b a1 a2 => ?_⟩ ⟨p, vs, rfl, upd_same, paired_mo (Ex.nw h2) h4⟩
    · intro a u e
      by_cases z : a = p
      · subst z; rw [upd_same] at e; rw [h3]; exact e
      · rw [upd_ne z] at e; exact g2.fh a u e
    · have : b ≠ p := fun z => by subst z; exact a2 h1
      rw [upd_ne this]; exact g2.nw b a1 a2
  | er c => exact q
  | bad => exact q
/-! ### names, constants, operators -/
theorem em_var {i : Nat} {v : V} {x : α} (h : σ[i]? = some (some v)) (r : rp K F v x) : Ev ce E (tVar i) σ F H (rv K) (.ok x) :=
  fun F1 H1 g Q q => ⟨v, h, q F1 H1 v (Gr.rf g.fh) (Rep.mo g.ff r)⟩
theorem em_int {i : Int} : Ev ce E (tC (.int i)) σ F H (rv K) (.ok i) := fun F1 H1 g Q q => q F1 H1 _ (Gr.rf g.fh) rfl
theorem em_bl {b : Bool} : Ev ce E (tC (.bl b)) σ F H (rv K) (.ok b) := fun F1 H1 g Q q => q F1 H1 _ (Gr.rf g.fh) rfl
theorem em_str {s : Str} : Ev ce E (tC (.str s)) σ F H (rv K) (.ok s) := fun F1 H1 g Q q => q F1 H1 _ (Gr.rf g.fh) rfl
theorem em_unit : Ev ce E (tC .non) σ F H (rv K) (.ok ()) := fun F1 H1 g Q q => q F1 H1 _ (Gr.rf g.fh) rfl
theorem em_none : Ev ce E (tC .non) σ F H (rv K) (.ok (none : Option α)) := fun F1 H1 g Q q => q F1 H1 _ (Gr.rf g.fh) rfl
def Op1 (ce : Ce) (E : XK) (K : PySem.W.Frag) (r : V → Hp → VK → Prop) (md : Md ρ) (x : α) (m : M ρ) : Prop := ∀ F1 H1 vx, Ex F1 H1 → rp K F1 vx x → ∀ Q, Post ce md m F1 H1 Q E → r vx H1 Q
def Op2 (ce : Ce) (E : XK) (K : PySem.W.Frag) (r : R2) (md : Md ρ) (x : α) (y : β) (m : M ρ) : Prop := ∀ F1 H1 vx vy, Ex F1 H1 → rp K F1 vx x → rp K F1 vy y → ∀ Q, Post ce md m F1 H1 Q E → r vx vy H1 Q
theorem em_op [MdMo md] {r : R2} {m1 : M α} {m2 : M β} {g : α → β → M ρ} (ha : Ev ce E ta σ F H (rv K) m1) (hb : Ev ce E tb σ F H (rv K) m2) (hr : ∀ x y, Op2 ce E K r md x y (g x y)) :
    Ev ce E (tOp r ta tb) σ F H md (m1.bind fun x => m2.bind fun y => g x y) := by
  intro F1 H1 g1 Q q
  refine ha F1 H1 g1 _ ?_
  cases m1 with
  | ok x =>
    intro F2 H2 vx g2 rx
    refine hb F2 H2 (g1.tr g2) _ ?_
    cases m2 with
    | ok y => exact fun F3 H3 vy g3 ry => hr x y F3 H3 vx vy g3.fh (Rep.mo g3.ff rx) ry Q (Post.mo (g2.tr g3) q)
    | er c => exact fun H' e => q H' (g2.hh.tr e)
    | bad => exact q
  | er c => exact q
  | bad => exact q
theorem em_un [MdMo md] {r : V → Hp → VK → Prop} {m1 : M α} {g : α → M ρ} (ha : Ev ce E ta σ F H (rv K) m1) (hr : ∀ x, Op1 ce E K r md x (g x)) :
    Ev ce E (tUn r ta) σ F H md (m1.bind g) := by
  intro F1 H1 g1 Q q
  refine ha F1 H1 g1 _ ?_
  cases m1 with
  | ok x => exact fun F2 H2 vx g2 rx => hr x F2 H2 vx g2.fh rx Q (Post.mo g2 q)
  | er c => exact q
  | bad => exact q
theorem o_I0 {x y : Int} {g : Int → Int → V} {z : α} (h : ∀ F, rp K F (g x y) z) : Op2 ce E K (rI0 g) (rv K) x y (.ok z) := fun F1 H1 vx vy e rx ry Q q => by
  cases rx; cases ry
  exact ⟨x, y, rfl, rfl, q F1 H1 _ (Gr.rf e) (h F1)⟩
theorem o_I {C : Int → Int → Prop} {x y : Int} {g : Int → Int → V} {z : α} (hc : C x y) (h : ∀ F, rp K F (g x y) z) : Op2 ce E K (rI C g) (rv K) x y (.ok z) := fun F1 H1 vx vy e rx ry Q q => by
  cases rx; cases ry
  exact ⟨x, y, rfl, rfl, hc, q F1 H1 _ (Gr.rf e) (h F1)⟩
/-- (decided classically: so that no kernel sets out to reckon the test) -/
noncomputable def chk {α : Type} (c : Prop) (x : α) : M α := @ite _ c (Classical.propDecidable c) (.ok x) .bad
theorem o_Ic {C : Int → Int → Prop} [∀ i j, Decidable (C i j)] {x y : Int} {g : Int → Int → V} {z : α} (h : ∀ F, rp K F (g x y) z) : Op2 ce E K (rI C g) (rv K) x y (chk (C x y) z) := fun F1 H1 vx vy e rx ry Q q => by
  unfold chk at q
  split at q
  · rename_i hc
    exact o_I hc h F1 H1 vx vy e rx ry Q q
  · exact q.elim
end
end Mw

set_option Elab.async false
set_option linter.all false
set_option maxRecDepth 100000
set_option maxHeartbeats 2000000
/-! Mw, part B: the readings of expressions. -/
namespace Mw
open PySem L2
open Rep (rp)
/-! ### numbers with bounds -/
def CDivZ (_ j : Int) : Prop := j ≠ 0 ∧ j.natAbs.log2 < 9000
instance : ∀ i j, Decidable (CMulW i j) := fun i j => by unfold CMulW; infer_instance
instance : ∀ i j, Decidable (CDivW i j) := fun i j => by unfold CDivW; infer_instance
instance : ∀ i j, Decidable (CDivZ i j) := fun i j => by unfold CDivZ; infer_instance
instance : ∀ i j, Decidable (CPow i j) := fun i j => by unfold CPow; infer_instance
section
variable {X : Cx}
theorem op_fdivZ : OpR X (binaryOp .FloorDiv) (rI CDivZ fun i j => .int (i.fdiv j)) := by
  intro pins s σ H x y v u Q I rx ry h
  obtain ⟨i, j, rfl, rfl, hc, q⟩ := h
  obtain ⟨t, rfl⟩ := rx
  obtain ⟨t', rfl⟩ := ry
  exact PyProof.Rows.floordiv_int hc.1 ⟨.int _, H, I.tok _, ⟨_, rfl⟩, q⟩ (.inl (PyProof.noPylong_of_log2 hc.2))
end
noncomputable def mulM (x y : Int) : M Int := chk (CMulW x y) (x * y)
noncomputable def fdivM (x y : Int) : M Int := chk (CDivW x y) (x / y)
noncomputable def fdivZ (x y : Int) : M Int := chk (CDivZ x y) (x.fdiv y)
noncomputable def modM (x y : Int) : M Int := chk (0 < y) (x % y)
noncomputable def powM (x y : Int) : M Int := chk (CPow x y) (x ^ y.toNat)
section
variable {ρ α β γ δ : Type} [Rep α] [Rep β] [Rep γ] [Rep δ] {ce : Ce} {E : XK} {K : PySem.W.Frag} {σ : L2.St} {F H F' H' : Hp} {te ta tb tc td : TE} {tt tu : TT} {md : Md ρ} {m : M ρ}
theorem o_add {x y : Int} : Op2 ce E K (rI0 fun i j => .int (i + j)) (rv K) x y (.ok (x + y)) := o_I0 fun _ => rfl
theorem o_sub {x y : Int} : Op2 ce E K (rI0 fun i j => .int (i - j)) (rv K) x y (.ok (x - y)) := o_I0 fun _ => rfl
theorem o_mul {x y : Int} : Op2 ce E K (rI CMulW fun i j => .int (i * j)) (rv K) x y (mulM x y) := o_Ic fun _ => rfl
theorem o_fdivM {x y : Int} : Op2 ce E K (rI CDivW fun i j => .int (i / j)) (rv K) x y (fdivM x y) := o_Ic fun _ => rfl
theorem o_fdivZ {x y : Int} : Op2 ce E K (rI CDivZ fun i j => .int (i.fdiv j)) (rv K) x y (fdivZ x y) := o_Ic fun _ => rfl
theorem o_modM {x y : Int} : Op2 ce E K (rI (fun _ j => 0 < j) fun i j => .int (i % j)) (rv K) x y (modM x y) := o_Ic fun _ => rfl
theorem o_powM {x y : Int} : Op2 ce E K (rI CPow fun i j => .int (i ^ j.toNat)) (rv K) x y (powM x y) := o_Ic fun _ => rfl
theorem o_lt {x y : Int} : Op2 ce E K (rI0 fun i j => .bl (decide (i < j))) (rv K) x y (.ok (decide (x < y))) := o_I0 fun _ => rfl
theorem o_le {x y : Int} : Op2 ce E K (rI0 fun i j => .bl (decide (i ≤ j))) (rv K) x y (.ok (decide (x ≤ y))) := o_I0 fun _ => rfl
theorem o_gt {x y : Int} : Op2 ce E K (rI0 fun i j => .bl (decide (j < i))) (rv K) x y (.ok (decide (y < x))) := o_I0 fun _ => rfl
theorem o_ge {x y : Int} : Op2 ce E K (rI0 fun i j => .bl (decide (j ≤ i))) (rv K) x y (.ok (decide (y ≤ x))) := o_I0 fun _ => rfl
/-- both sides plain: one rule for the operators on ints -/
theorem e2 {r : R2} {x : α} {y : β} {z : ρ} [MdMo md] (ha : Ev ce E ta σ F H (rv K) (.ok x)) (hb : Ev ce E tb σ F H (rv K) (.ok y)) (hr : Op2 ce E K r md x y (.ok z)) : Ev ce E (tOp r ta tb) σ F H md (.ok z) := by
  intro F1 H1 g1 Q q
  refine ha F1 H1 g1 _ fun F2 H2 vx g2 rx => hb F2 H2 (g1.tr g2) _ fun F3 H3 vy g3 ry => ?_
  exact hr F3 H3 vx vy g3.fh (Rep.mo g3.ff rx) ry Q (Post.mo (m := .ok z) (g2.tr g3) q)
theorem e_neg {x : Int} (ha : Ev ce E ta σ F H (rv K) (.ok x)) : Ev ce E (tUn (rU fun i => .int (-i)) ta) σ F H (rv K) (.ok (-x)) := by
  intro F1 H1 g1 Q q
  refine ha F1 H1 g1 _ fun F2 H2 vx g2 rx => ?_
  cases rx
  exact ⟨x, rfl, q F2 H2 _ g2 rfl⟩
theorem o_neg {x : Int} : Op1 ce E K (rU fun i => .int (-i)) (rv K) x (.ok (-x)) := fun F1 H1 vx e rx Q q => by
  cases rx
  exact ⟨x, rfl, q F1 H1 _ (Gr.rf e) rfl⟩
/-- a product, one factor written: below 2 ^ 64 -/
theorem o_mulL {x y : Int} (h : CMul x y) : Op2 ce E K (rI CMul fun i j => .int (i * j)) (rv K) x y (.ok (x * y)) := o_I h fun _ => rfl
theorem o_fdiv {x y : Int} (h : CDiv x y) : Op2 ce E K (rI CDiv fun i j => .int (i / j)) (rv K) x y (.ok (x / y)) := o_I h fun _ => rfl
theorem o_fdivW {x y : Int} (h : CDivW x y) : Op2 ce E K (rI CDivW fun i j => .int (i / j)) (rv K) x y (.ok (x / y)) := o_I h fun _ => rfl
theorem o_mod {x y : Int} (h : 0 < y) : Op2 ce E K (rI (fun _ j => 0 < j) fun i j => .int (i % j)) (rv K) x y (.ok (x % y)) := o_I h fun _ => rfl
theorem o_pow {x y : Int} (h : CPow x y) : Op2 ce E K (rI CPow fun i j => .int (i ^ j.toNat)) (rv K) x y (.ok (x ^ y.toNat)) := o_I h fun _ => rfl
/-- what is told in other words -/
theorem e_is {x y : ρ} (h : Ev ce E te σ F H md (.ok x)) (e : x = y) : Ev ce E te σ F H md (.ok y) := by rw [← e]; exact h
theorem em_is {m m' : M ρ} (h : Ev ce E te σ F H md m) (e : m = m') : Ev ce E te σ F H md m' := by rw [← e]; exact h

/-! ### tests -/
theorem t_of {m : M Bool} (h : Ev ce E te σ F H (rv K) m) : EvT ce E (tTest te) σ F H m := fun F1 H1 g1 Q q => by
  refine h F1 H1 g1 _ ?_
  cases m with
  | ok b => exact fun F2 H2 v g2 r => ⟨b, r, q F2 H2 g2⟩
  | er c => exact q
  | bad => exact q
theorem t_B {m : M Bool} (h : Ev ce E te σ F H (rv K) m) : EvT ce E (tB te) σ F H m := fun F1 H1 g1 Q q => by
  refine h F1 H1 g1 _ ?_
  cases m with
  | ok b => exact fun F2 H2 v g2 r => ⟨b, r, q F2 H2 g2⟩
  | er c => exact q
  | bad => exact q
theorem t_and {a b : Bool} (ha : EvT ce E tt σ F H (.ok a)) (hb : EvT ce E tu σ F H (.ok b)) : EvT ce E (tAnd tt tu) σ F H (.ok (a && b)) := fun F1 H1 g1 Q q => by
  refine ha F1 H1 g1 _ fun F2 H2 g2 => ?_
  cases a with
  | true => exact hb F2 H2 (g1.tr g2) _ fun F3 H3 g3 => q F3 H3 (g2.tr g3)
  | false => exact q F2 H2 g2
theorem t_or {a b : Bool} (ha : EvT ce E tt σ F H (.ok a)) (hb : EvT ce E tu σ F H (.ok b)) : EvT ce E (tOr tt tu) σ F H (.ok (a || b)) := fun F1 H1 g1 Q q => by
  refine ha F1 H1 g1 _ fun F2 H2 g2 => ?_
  cases a with
  | false => exact hb F2 H2 (g1.tr g2) _ fun F3 H3 g3 => q F3 H3 (g2.tr g3)
  | true => exact q F2 H2 g2
def andM (m : M Bool) (k : M Bool) : M Bool := m.bind fun a => if a then k else .ok false
def orM (m : M Bool) (k : M Bool) : M Bool := m.bind fun a => if a then .ok true else k
def notM (m : M Bool) : M Bool := m.bind fun a => .ok (!a)
@[simp] theorem andM_t (k : M Bool) : andM (.ok true) k = k := rfl
@[simp] theorem andM_f (k : M Bool) : andM (.ok false) k = .ok false := rfl
@[simp] theorem orM_t (k : M Bool) : orM (.ok true) k = .ok true := rfl
@[simp] theorem orM_f (k : M Bool) : orM (.ok false) k = k := rfl
@[simp] theorem notM_ok (a : Bool) : notM (.ok a) = .ok (!a) := rfl
theorem tm_and {m k : M Bool} (ha : EvT ce E tt σ F H m) (hb : EvT ce E tu σ F H k) : EvT ce E (tAnd tt tu) σ F H (andM m k) := fun F1 H1 g1 Q q => by
  refine ha F1 H1 g1 _ ?_
  cases m with
  | ok a =>
    intro F2 H2 g2
    cases a with
    | true => exact hb F2 H2 (g1.tr g2) _ (PostT.mo g2 q)
    | false => exact q F2 H2 g2
  | er c => exact q
  | bad => exact q
theorem tm_or {m k : M Bool} (ha : EvT ce E tt σ F H m) (hb : EvT ce E tu σ F H k) : EvT ce E (tOr tt tu) σ F H (orM m k) := fun F1 H1 g1 Q q => by
  refine ha F1 H1 g1 _ ?_
  cases m with
  | ok a =>
    intro F2 H2 g2
    cases a with
    | false => exact hb F2 H2 (g1.tr g2) _ (PostT.mo g2 q)
    | true => exact q F2 H2 g2
  | er c => exact q
  | bad => exact q
theorem t_not {a : Bool} (ha : EvT ce E tt σ F H (.ok a)) : EvT ce E (tNot tt) σ F H (.ok (!a)) := fun F1 H1 g1 Q q => ha F1 H1 g1 _ fun F2 H2 g2 => q F2 H2 g2
theorem tm_not {m : M Bool} (ha : EvT ce E tt σ F H m) : EvT ce E (tNot tt) σ F H (notM m) := fun F1 H1 g1 Q q => by
  refine ha F1 H1 g1 _ ?_
  cases m with
  | ok a => exact fun F2 H2 g2 => q F2 H2 g2
  | er c => exact q
  | bad => exact q
theorem e_andV {a b : Bool} (ha : Ev ce E ta σ F H (rv K) (.ok a)) (hb : Ev ce E tb σ F H (rv K) (.ok b)) : Ev ce E (tAndV ta tb) σ F H (rv K) (.ok (a && b)) := fun F1 H1 g1 Q q => by
  refine ha F1 H1 g1 _ fun F2 H2 v g2 r => ⟨a, r, ?_⟩
  cases a with
  | true => exact hb F2 H2 (g1.tr g2) _ fun F3 H3 v' g3 => q F3 H3 v' (g2.tr g3)
  | false => exact q F2 H2 _ g2 rfl
theorem e_orV {a b : Bool} (ha : Ev ce E ta σ F H (rv K) (.ok a)) (hb : Ev ce E tb σ F H (rv K) (.ok b)) : Ev ce E (tOrV ta tb) σ F H (rv K) (.ok (a || b)) := fun F1 H1 g1 Q q => by
  refine ha F1 H1 g1 _ fun F2 H2 v g2 r => ⟨a, r, ?_⟩
  cases a with
  | false => exact hb F2 H2 (g1.tr g2) _ fun F3 H3 v' g3 => q F3 H3 v' (g2.tr g3)
  | true => exact q F2 H2 _ g2 rfl
theorem em_andV {m k : M Bool} (ha : Ev ce E ta σ F H (rv K) m) (hb : Ev ce E tb σ F H (rv K) k) : Ev ce E (tAndV ta tb) σ F H (rv K) (andM m k) := fun F1 H1 g1 Q q => by
  refine ha F1 H1 g1 _ ?_
  cases m with
  | ok a =>
    refine fun F2 H2 v g2 r => ⟨a, r, ?_⟩
    cases a with
    | true => exact hb F2 H2 (g1.tr g2) _ (Post.mo g2 q)
    | false => exact q F2 H2 _ g2 rfl
  | er c => exact q
  | bad => exact q
theorem em_orV {m k : M Bool} (ha : Ev ce E ta σ F H (rv K) m) (hb : Ev ce E tb σ F H (rv K) k) : Ev ce E (tOrV ta tb) σ F H (rv K) (orM m k) := fun F1 H1 g1 Q q => by
  refine ha F1 H1 g1 _ ?_
  cases m with
  | ok a =>
    refine fun F2 H2 v g2 r => ⟨a, r, ?_⟩
    cases a with
    | false => exact hb F2 H2 (g1.tr g2) _ (Post.mo g2 q)
    | true => exact q F2 H2 _ g2 rfl
  | er c => exact q
  | bad => exact q
theorem e_notV {a : Bool} (ha : Ev ce E ta σ F H (rv K) (.ok a)) : Ev ce E (tNotV ta) σ F H (rv K) (.ok (!a)) := fun F1 H1 g1 Q q => ha F1 H1 g1 _ fun F2 H2 v g2 r => ⟨a, r, q F2 H2 _ g2 rfl⟩
theorem em_notV {m : M Bool} (ha : Ev ce E ta σ F H (rv K) m) : Ev ce E (tNotV ta) σ F H (rv K) (notM m) := fun F1 H1 g1 Q q => by
  refine ha F1 H1 g1 _ ?_
  cases m with
  | ok a => exact fun F2 H2 v g2 r => ⟨a, r, q F2 H2 _ g2 rfl⟩
  | er c => exact q
  | bad => exact q
theorem em_if [MdMo md] {b : M Bool} {m k : M ρ} (h : EvT ce E tt σ F H b) (ha : Ev ce E ta σ F H md m) (hb : Ev ce E tb σ F H md k) : Ev ce E (tIf tt ta tb) σ F H md (b.bind fun c => if c then m else k) := fun F1 H1 g1 Q q => by
  refine h F1 H1 g1 _ ?_
  cases b with
  | ok b =>
    refine fun F2 H2 g2 => ?_
    cases b with
    | true => exact ha F2 H2 (g1.tr g2) _ (Post.mo g2 q)
    | false => exact hb F2 H2 (g1.tr g2) _ (Post.mo g2 q)
  | er c => exact q
  | bad => exact q
/-- x < y < z and its like -/
theorem em_chain {r r' : R2} {m1 : M α} {m2 : M β} {m3 : M γ} {p : α → β → Bool} {p' : β → γ → Bool} (ha : Ev ce E ta σ F H (rv K) m1) (hb : Ev ce E tb σ F H (rv K) m2) (hc : Ev ce E tc σ F H (rv K) m3)
    (h : ∀ x y, Op2 ce E K r (rv K) x y (.ok (p x y))) (h' : ∀ x y, Op2 ce E K r' (rv K) x y (.ok (p' x y))) :
    Ev ce E (tChain r r' ta tb tc) σ F H (rv K) (m1.bind fun x => m2.bind fun y => if p x y then m3.bind fun z => .ok (p' y z) else .ok false) := fun F1 H1 g1 Q q => by
  refine ha F1 H1 g1 _ ?_
  cases m1 with
  | ok x =>
    intro F2 H2 vx g2 rx
    refine hb F2 H2 (g1.tr g2) _ ?_
    cases m2 with
    | ok y =>
      intro F3 H3 vy g3 ry
      refine h x y F3 H3 vx vy g3.fh (Rep.mo g3.ff rx) ry _ fun F4 H4 v4 g4 r4 => ⟨p x y, r4, ?_⟩
      have q' : Post ce (rv K) (if p x y then m3.bind fun z => .ok (p' y z) else .ok false) F1 H1 Q E := q
      cases e : p x y with
      | true =>
        rw [e] at q'
        refine hc F4 H4 (((g1.tr g2).tr g3).tr g4) _ ?_
        cases m3 with
        | ok z => exact fun F5 H5 vz g5 rz => h' y z F5 H5 vy vz g5.fh (Rep.mo (g4.ff.tr g5.ff) ry) rz Q (Post.mo (m := .ok (p' y z)) (((g2.tr g3).tr g4).tr g5) q')
        | er c => exact fun H' e => q' H' (((g2.tr g3).tr g4).hh.tr e)
        | bad => exact q'
      | false =>
        rw [e] at q'
        exact q' F4 H4 _ ((g2.tr g3).tr g4) rfl
    | er c => exact fun H' e => q H' (g2.hh.tr e)
    | bad => exact q
  | er c => exact q
  | bad => exact q

/-! ### argument lists: what stands for each -/
/-- RA tells that the values stand for the data -/
inductive RA (K : PySem.W.Frag) (F : Hp) : List V → List ((V → Prop)) → Prop
/-- the arguments are told one by one: k runs with all of them -/
def EvA (ce : Ce) (E : XK) (ta : TA) (σ : L2.St) (F H : Hp) (R : Hp → List V → Prop) : Prop := ∀ F1 H1, Gr F H F1 H1 → ∀ Q : List V → Hp → Prop, (∀ F2 H2 vs, Gr F1 H1 F2 H2 → R F2 vs → Q vs H2) → ta σ H1 Q
/-- .. with effects -/
def EvAM (ce : Ce) (E : XK) (ta : TA) (σ : L2.St) (F H : Hp) (m : M α) (R : Hp → List V → α → Prop) : Prop := ∀ F1 H1, Gr F H F1 H1 → ∀ Q : List V → Hp → Prop,
  (match m with
    | .ok x => ∀ F2 H2 vs, Gr F1 H1 F2 H2 → R F2 vs x → Q vs H2
    | .er c => ∀ H', Ex H1 H' → E (.ref (ce c.name)) none H'
    | .bad => False) → ta σ H1 Q
def R0 : Hp → List V → Unit → Prop := fun _ vs _ => vs = []
def RC (K : PySem.W.Frag) {α β : Type} [Rep α] (R : Hp → List V → β → Prop) : Hp → List V → α × β → Prop := fun F vs x => ∃ v r, vs = v :: r ∧ rp K F v x.1 ∧ R F r x.2
class RMo {α : Type} (R : Hp → List V → α → Prop) : Prop where
  mo : ∀ {F F' vs x}, Ex F F' → R F vs x → R F' vs x
instance : RMo R0 := ⟨fun _ h => h⟩
instance {K : PySem.W.Frag} {α β : Type} [Rep α] {R : Hp → List V → β → Prop} [RMo R] : RMo (RC K (α := α) R) := ⟨fun e ⟨v, r, h1, h2, h3⟩ => ⟨v, r, h1, Rep.mo e h2, RMo.mo e h3⟩⟩
theorem ea_nil : EvAM ce E tNil σ F H (.ok ()) R0 := fun F1 H1 g1 Q q => q F1 H1 [] (Gr.rf g1.fh) rfl
theorem ea_cons {tr : TA} {m1 : M α} {m2 : M β} {R : Hp → List V → β → Prop} (ha : Ev ce E ta σ F H (rv K) m1) (hr : EvAM ce E tr σ F H m2 R) :
    EvAM ce E (tCons ta tr) σ F H (m1.bind fun x => m2.bind fun y => .ok (x, y)) (RC K R) := fun F1 H1 g1 Q q => by
  refine ha F1 H1 g1 _ ?_
  cases m1 with
  | ok x =>
    intro F2 H2 vx g2 rx
    refine hr F2 H2 (g1.tr g2) _ ?_
    cases m2 with
    | ok y => exact fun F3 H3 vs g3 r3 => q F3 H3 (vx :: vs) (g2.tr g3) ⟨vx, vs, rfl, Rep.mo g3.ff rx, r3⟩
    | er c => exact fun H' e => q H' (g2.hh.tr e)
    | bad => exact q
  | er c => exact q
  | bad => exact q
theorem e_cons {tr : TA} {x : α} {y : β} {R : Hp → List V → β → Prop} (ha : Ev ce E ta σ F H (rv K) (.ok x)) (hr : EvAM ce E tr σ F H (.ok y) R) : EvAM ce E (tCons ta tr) σ F H (.ok (x, y)) (RC K R) := ea_cons (m1 := .ok x) (m2 := .ok y) ha hr
/-- a call of values that are known: r what it asks, m what comes of it -/
def OpA (ce : Ce) (E : XK) (R : Hp → List V → α → Prop) (r : List V → Hp → VK → Prop) (md : Md ρ) (x : α) (m : M ρ) : Prop := ∀ F1 H1 vs, Ex F1 H1 → R F1 vs x → ∀ Q, Post ce md m F1 H1 Q E → r vs H1 Q
theorem em_cb [MdMo md] {ta : TA} {r : List V → Hp → VK → Prop} {m1 : M α} {R : Hp → List V → α → Prop} {g : α → M ρ} (ha : EvAM ce E ta σ F H m1 R) (hr : ∀ x, OpA ce E R r md x (g x)) : Ev ce E (tCB r ta) σ F H md (m1.bind g) := fun F1 H1 g1 Q q => by
  refine ha F1 H1 g1 _ ?_
  cases m1 with
  | ok x => exact fun F2 H2 vs g2 r2 => hr x F2 H2 vs g2.fh r2 Q (Post.mo g2 q)
  | er c => exact q
  | bad => exact q
theorem e_cb [MdMo md] {ta : TA} {r : List V → Hp → VK → Prop} {x : α} {R : Hp → List V → α → Prop} {z : ρ} (ha : EvAM ce E ta σ F H (.ok x) R) (hr : OpA ce E R r md x (.ok z)) : Ev ce E (tCB r ta) σ F H md (.ok z) := fun F1 H1 g1 Q q =>
  ha F1 H1 g1 _ fun F2 H2 vs g2 r2 => hr F2 H2 vs g2.fh r2 Q (Post.mo (m := .ok z) g2 q)
/-- a call of a def by its promise -/
def SpA (ce : Ce) (R : Hp → List V → α → Prop) (sp : Sp) (md : Md ρ) (x : α) (m : M ρ) : Prop := ∀ F1 H1 vs, Ex F1 H1 → R F1 vs x → ∀ Q (E : XK), Post ce md m F1 H1 Q E → sp vs H1 Q E
theorem em_call [MdMo md] {ta : TA} {sp : Sp} {m1 : M α} {R : Hp → List V → α → Prop} {g : α → M ρ} (ha : EvAM ce E ta σ F H m1 R) (hr : ∀ x, SpA ce R sp md x (g x)) : Ev ce E (tCall sp [] E ta) σ F H md (m1.bind g) := fun F1 H1 g1 Q q => by
  refine ha F1 H1 g1 _ ?_
  cases m1 with
  | ok x =>
    intro F2 H2 vs g2 r2
    show sp (vs ++ []) H2 Q E
    rw [List.append_nil]
    exact hr x F2 H2 vs g2.fh r2 Q E (Post.mo g2 q)
  | er c => exact q
  | bad => exact q
theorem e_call [MdMo md] {ta : TA} {sp : Sp} {x : α} {R : Hp → List V → α → Prop} {m : M ρ} (ha : EvAM ce E ta σ F H (.ok x) R) (hr : SpA ce R sp md x m) : Ev ce E (tCall sp [] E ta) σ F H md m := fun F1 H1 g1 Q q =>
  ha F1 H1 g1 _ fun F2 H2 vs g2 r2 => by
    show sp (vs ++ []) H2 Q E
    rw [List.append_nil]
    exact hr F2 H2 vs g2.fh r2 Q E (Post.mo g2 q)

/-! ### displays -/
theorem gr_new {o : HO} {p : Addr} (h : Ex F H) (n : H p = none) : F p = none := ex_back h n
theorem em_tup {ta : TA} {m1 : M α} {R : Hp → List V → α → Prop} [RMo R] {g : α → ρ} [Rep ρ] (ha : EvAM ce E ta σ F H m1 R) (hs : ∀ F vs x, R F vs x → vs.length ≤ sizeLine)
    (hg : ∀ F p vs x, R F vs x → F p = some (.tup vs) → rp K F (.ref p) (g x)) : Ev ce E (tTup ta) σ F H (rv K) (m1.bind fun x => .ok (g x)) := fun F1 H1 g1 Q q => by
  refine ha F1 H1 g1 _ ?_
  cases m1 with
  | ok x =>
    refine fun F2 H2 vs g2 r2 => ⟨hs F2 vs x r2, fun p np => ?_⟩
    refine q (upd F2 p (.tup vs)) _ _ (g2.tr (Gr.new g2.fh np)) (hg _ p vs x (RMo.mo (Ex.nw (ex_back g2.fh np)) r2) upd_same)
  | er c => exact q
  | bad => exact q
theorem r2_len {F : Hp} {vs : List V} {x : α × β × Unit} (h : RC K (RC K R0) F vs x) : vs.length ≤ sizeLine := by
  obtain ⟨v, r, rfl, _, v', r', rfl, _, rfl⟩ := h
  show 2 ≤ sizeLine
  decide
theorem em_tup2 {m1 : M α} {m2 : M β} (ha : Ev ce E ta σ F H (rv K) m1) (hb : Ev ce E tb σ F H (rv K) m2) : Ev ce E (tTup (tCons ta (tCons tb tNil))) σ F H (rv K) (m1.bind fun x => m2.bind fun y => .ok (x, y)) := fun F1 H1 g1 Q q => by
  refine ha F1 H1 g1 _ ?_
  cases m1 with
  | ok x =>
    intro F2 H2 v2 g2 q2
    refine hb F2 H2 (g1.tr g2) _ ?_
    cases m2 with
    | ok y =>
      refine fun F3 H3 v3 g3 q3 => ⟨by show 2 ≤ sizeLine; decide, fun p np => ?_⟩
      have e := Ex.nw (o := .tup [v2, v3]) (ex_back g3.fh np)
      exact q _ _ _ ((g2.tr g3).tr (Gr.new g3.fh np)) ⟨p, v2, v3, rfl, SqT.of upd_same, Rep.mo (g3.ff.tr e) q2, Rep.mo e q3⟩
    | er c => exact fun H' e => q H' (g2.hh.tr e)
    | bad => exact q
  | er c => exact q
  | bad => exact q
theorem em_tup3 {m1 : M α} {m2 : M β} {m3 : M γ} (ha : Ev ce E ta σ F H (rv K) m1) (hb : Ev ce E tb σ F H (rv K) m2) (hc : Ev ce E tc σ F H (rv K) m3) :
    Ev ce E (tTup (tCons ta (tCons tb (tCons tc tNil)))) σ F H (rv K) (m1.bind fun x => m2.bind fun y => m3.bind fun z => .ok (T3.mk x y z)) := fun F1 H1 g1 Q q => by
  refine ha F1 H1 g1 _ ?_
  cases m1 with
  | ok x =>
    intro F2 H2 v2 g2 q2
    refine hb F2 H2 (g1.tr g2) _ ?_
    cases m2 with
    | ok y =>
      intro F3 H3 v3 g3 q3
      refine hc F3 H3 ((g1.tr g2).tr g3) _ ?_
      cases m3 with
      | ok z =>
        refine fun F4 H4 v4 g4 q4 => ⟨by show 3 ≤ sizeLine; decide, fun p np => ?_⟩
        have e := Ex.nw (o := .tup [v2, v3, v4]) (ex_back g4.fh np)
        exact q _ _ _ (((g2.tr g3).tr g4).tr (Gr.new g4.fh np)) ⟨p, v2, v3, v4, rfl, SqT.of upd_same, Rep.mo ((g3.ff.tr g4.ff).tr e) q2, Rep.mo (g4.ff.tr e) q3, Rep.mo e q4⟩
      | er c => exact fun H' e => q H' ((g2.tr g3).hh.tr e)
      | bad => exact q
    | er c => exact fun H' e => q H' (g2.hh.tr e)
    | bad => exact q
  | er c => exact q
  | bad => exact q
/-- a written list: its items one by one -/
def EvL (ce : Ce) (E : XK) (K : PySem.W.Frag) (ta : TA) (σ : L2.St) (F H : Hp) (m : M (List α)) : Prop := EvAM ce E ta σ F H m (fun F vs x => Paired (rp K F) vs x)
theorem el_nil : EvL ce E K tNil σ F H (.ok ([] : List α)) := fun F1 H1 g1 Q q => q F1 H1 [] (Gr.rf g1.fh) .nil
theorem el_cons {tr : TA} {m1 : M α} {m2 : M (List α)} (ha : Ev ce E ta σ F H (rv K) m1) (hr : EvL ce E K tr σ F H m2) : EvL ce E K (tCons ta tr) σ F H (m1.bind fun x => m2.bind fun y => .ok (x :: y)) := fun F1 H1 g1 Q q => by
  refine ha F1 H1 g1 _ ?_
  cases m1 with
  | ok x =>
    intro F2 H2 vx g2 rx
    refine hr F2 H2 (g1.tr g2) _ ?_
    cases m2 with
    | ok y => exact fun F3 H3 vs g3 r3 => q F3 H3 (vx :: vs) (g2.tr g3) (.cons (Rep.mo g3.ff rx) r3)
    | er c => exact fun H' e => q H' (g2.hh.tr e)
    | bad => exact q
  | er c => exact q
  | bad => exact q
theorem em_lst {ta : TA} {m : M (List α)} (ha : EvL ce E K ta σ F H m) (hs : ∀ x, m = .ok x → x.length ≤ 1000) : Ev ce E (tLst ta) σ F H (rn K) m := fun F1 H1 g1 Q q => by
  refine ha F1 H1 g1 _ ?_
  cases m with
  | ok x =>
    refine fun F2 H2 vs g2 r2 => ⟨Nat.le_of_lt (small1000 (by rw [Paired.length r2]; exact hs x rfl)), fun p np => ?_⟩
    exact q F2 _ _ (g2.tr (Gr.own g2.fh np)) ⟨p, vs, rfl, ex_back g2.hh np, ex_back g2.fh np, upd_same, r2⟩
  | er c => exact q
  | bad => exact q

/-! ### places, lengths, slices -/
def ixM (xs : List α) (i : Int) : M α := match atI xs i with
  | some x => .ok x
  | none => .bad
theorem atI_pair {F : V → α → Prop} {vs : List V} {xs : List α} {i : Int} {x : α} (h : Paired F vs xs) (e : atI xs i = some x) : ∃ v, atI vs i = some v ∧ F v x := by
  unfold atI at e ⊢
  rw [Paired.length h]
  cases q : ixN xs.length i with
  | none => rw [q] at e; cases e
  | some j =>
    rw [q] at e
    exact paired_get h e
theorem o_ixL {xs : List α} {i : Int} : Op2 ce E K (rIxL K) (rv K) xs i (ixM xs i) := fun F1 H1 vx vy e rx ry Q q => by
  obtain ⟨a, vs, rfl, h2, h3⟩ := rx
  cases ry
  unfold ixM at q
  split at q
  · rename_i x hx
    obtain ⟨v, hv, rv'⟩ := atI_pair h3 hx
    exact ⟨a, vs, i, v, rfl, rfl, SqL.of (e _ _ h2), hv, q F1 H1 v (Gr.rf e) rv'⟩
  · exact q.elim
theorem o_ixS {xs : Scr} {i : Int} : Op2 ce E K (rIxL K) (rv K) xs i (ixM xs.l i) := fun F1 H1 vx vy e rx ry Q q => by
  obtain ⟨a, rfl, h2⟩ := rx
  cases ry
  unfold ixM at q
  split at q
  · rename_i x hx
    obtain ⟨v, hv, rv'⟩ := atI_pair (rep_int (K := K) (H := F1) xs.l) hx
    exact ⟨a, _, i, v, rfl, rfl, ex_l e h2, hv, q F1 H1 v (Gr.rf e) rv'⟩
  · exact q.elim
/-- places of tuples -/
theorem e_fst {x : α × β} (ha : Ev ce E ta σ F H (rv K) (.ok x)) : Ev ce E (tOp (rIxT K) ta (tC (.int 0))) σ F H (rv K) (.ok x.1) := fun F1 H1 g1 Q q => by
  refine ha F1 H1 g1 _ fun F2 H2 vx g2 ⟨a, u, w, e1, e2, e3, e4⟩ => ?_
  subst e1
  exact ⟨a, [u, w], 0, u, rfl, rfl, ex_t g2.fh e2, rfl, q F2 H2 u g2 e3⟩
theorem e_snd {x : α × β} (ha : Ev ce E ta σ F H (rv K) (.ok x)) : Ev ce E (tOp (rIxT K) ta (tC (.int 1))) σ F H (rv K) (.ok x.2) := fun F1 H1 g1 Q q => by
  refine ha F1 H1 g1 _ fun F2 H2 vx g2 ⟨a, u, w, e1, e2, e3, e4⟩ => ?_
  subst e1
  exact ⟨a, [u, w], 1, w, rfl, rfl, ex_t g2.fh e2, rfl, q F2 H2 w g2 e4⟩
theorem o_fst {x : α × β} {i : Int} (hi : i = 0) : Op2 ce E K (rIxT K) (rv K) x i (.ok x.1) := fun F1 H1 vx vy e ⟨a, u, w, e1, e2, e3, e4⟩ ry Q q => by
  subst e1 hi
  cases ry
  exact ⟨a, [u, w], 0, u, rfl, rfl, ex_t e e2, rfl, q F1 H1 u (Gr.rf e) e3⟩
theorem o_snd {x : α × β} {i : Int} (hi : i = 1) : Op2 ce E K (rIxT K) (rv K) x i (.ok x.2) := fun F1 H1 vx vy e ⟨a, u, w, e1, e2, e3, e4⟩ ry Q q => by
  subst e1 hi
  cases ry
  exact ⟨a, [u, w], 1, w, rfl, rfl, ex_t e e2, rfl, q F1 H1 w (Gr.rf e) e4⟩
theorem o_a3 {x : T3 α β γ} {i : Int} (hi : i = 0) : Op2 ce E K (rIxT K) (rv K) x i (.ok x.a) := fun F1 H1 vx vy e ⟨a, u, w, z, e1, e2, e3, e4, e5⟩ ry Q q => by
  subst e1 hi
  cases ry
  exact ⟨a, [u, w, z], 0, u, rfl, rfl, ex_t e e2, rfl, q F1 H1 u (Gr.rf e) e3⟩
theorem o_b3 {x : T3 α β γ} {i : Int} (hi : i = 1) : Op2 ce E K (rIxT K) (rv K) x i (.ok x.b) := fun F1 H1 vx vy e ⟨a, u, w, z, e1, e2, e3, e4, e5⟩ ry Q q => by
  subst e1 hi
  cases ry
  exact ⟨a, [u, w, z], 1, w, rfl, rfl, ex_t e e2, rfl, q F1 H1 w (Gr.rf e) e4⟩
theorem o_c3 {x : T3 α β γ} {i : Int} (hi : i = 2) : Op2 ce E K (rIxT K) (rv K) x i (.ok x.c) := fun F1 H1 vx vy e ⟨a, u, w, z, e1, e2, e3, e4, e5⟩ ry Q q => by
  subst e1 hi
  cases ry
  exact ⟨a, [u, w, z], 2, z, rfl, rfl, ex_t e e2, rfl, q F1 H1 z (Gr.rf e) e5⟩
/-- len -/
def rLenS (K : PySem.W.Frag) : List V → Hp → VK → Prop := fun xs H Q => ∃ p ys, xs = [.ref p] ∧ (SqL K H p ys ∨ SqT K H p ys) ∧ Q (.int ys.length) H
theorem a_len {xs : List α} : OpA ce E (RC K R0) (rLenS K) (rv K) (xs, ()) (.ok (xs.length : Int)) := fun F1 H1 vs e ⟨v, r, e1, ⟨a, us, h1, h2, h3⟩, e3⟩ Q q => by
  cases e3
  subst e1 h1
  refine ⟨a, us, rfl, .inl (SqL.of (e _ _ h2)), ?_⟩
  rw [Paired.length h3]
  exact q F1 H1 _ (Gr.rf e) rfl
theorem a_lenS {xs : Scr} : OpA ce E (RC K R0) (rLenS K) (rv K) (xs, ()) (.ok (xs.l.length : Int)) := fun F1 H1 vs e ⟨v, r, e1, ⟨a, h1, h2⟩, e3⟩ Q q => by
  cases e3
  subst e1 h1
  refine ⟨a, _, rfl, .inl (ex_l e h2), ?_⟩
  rw [List.length_map]
  exact q F1 H1 _ (Gr.rf e) rfl
theorem a_len2 {x : α × β} : OpA ce E (RC K R0) (rLenS K) (rv K) (x, ()) (.ok (2 : Int)) := fun F1 H1 vs e ⟨v, r, e1, ⟨a, u, w, h1, h2, h3, h4⟩, e3⟩ Q q => by
  cases e3
  subst e1 h1
  exact ⟨a, _, rfl, .inr (ex_t e h2), q F1 H1 _ (Gr.rf e) rfl⟩
theorem a_len3 {x : T3 α β γ} : OpA ce E (RC K R0) (rLenS K) (rv K) (x, ()) (.ok (3 : Int)) := fun F1 H1 vs e ⟨v, r, e1, ⟨a, u, w, z, h1, h2, h3, h4, h5⟩, e3⟩ Q q => by
  cases e3
  subst e1 h1
  exact ⟨a, _, rfl, .inr (ex_t e h2), q F1 H1 _ (Gr.rf e) rfl⟩
/-- list(xs): a new one -/
def rListS (K : PySem.W.Frag) : List V → Hp → VK → Prop := fun xs H Q => ∃ p ys, xs = [.ref p] ∧ (SqL K H p ys ∨ SqT K H p ys) ∧ ∀ l, H l = none → Q (.ref l) (upd H l (.lst ys))
theorem a_list {xs : List α} : OpA ce E (RC K R0) (rListS K) (rn K) (xs, ()) (.ok xs) := fun F1 H1 vs e ⟨v, r, e1, ⟨a, us, h1, h2, h3⟩, e3⟩ Q q => by
  cases e3
  subst e1 h1
  exact ⟨a, us, rfl, .inl (SqL.of (e _ _ h2)), fun l nl => q F1 _ _ (Gr.own e nl) ⟨l, us, rfl, nl, ex_back e nl, upd_same, h3⟩⟩
theorem a_listS {xs : Scr} : OpA ce E (RC K R0) (rListS K) (rn K) (xs, ()) (.ok xs.l) := fun F1 H1 vs e ⟨v, r, e1, ⟨a, h1, h2⟩, e3⟩ Q q => by
  cases e3
  subst e1 h1
  exact ⟨a, _, rfl, .inl (ex_l e h2), fun l nl => q F1 _ _ (Gr.own e nl) ⟨l, _, rfl, nl, ex_back e nl, upd_same, rep_int _⟩⟩
/-- abs, max, min, int of what is known -/
theorem a_abs {x : Int} : OpA ce E (RC K R0) (fun xs H Q => ∃ i, xs = [.int i] ∧ Q (.int (if i < 0 then -i else i)) H) (rv K) (x, ()) (.ok (if x < 0 then -x else x)) := fun F1 H1 vs e ⟨v, r, e1, h1, e3⟩ Q q => by
  cases e3
  cases h1
  subst e1
  exact ⟨x, rfl, q F1 H1 _ (Gr.rf e) rfl⟩
theorem a_max2 {x y : Int} : OpA ce E (RC K (RC K R0)) (fun xs H Q => ∃ i j, xs = [.int i, .int j] ∧ Q (.int (if j > i then j else i)) H) (rv K) (x, y, ()) (.ok (if y > x then y else x)) := fun F1 H1 vs e ⟨v, r, e1, h1, v', r', e2, h2, e3⟩ Q q => by
  cases e3
  cases h1
  cases h2
  subst e2
  subst e1
  exact ⟨x, y, rfl, q F1 H1 _ (Gr.rf e) rfl⟩
theorem a_min2 {x y : Int} : OpA ce E (RC K (RC K R0)) (fun xs H Q => ∃ i j, xs = [.int i, .int j] ∧ Q (.int (if j < i then j else i)) H) (rv K) (x, y, ()) (.ok (if y < x then y else x)) := fun F1 H1 vs e ⟨v, r, e1, h1, v', r', e2, h2, e3⟩ Q q => by
  cases e3
  cases h1
  cases h2
  subst e2
  subst e1
  exact ⟨x, y, rfl, q F1 H1 _ (Gr.rf e) rfl⟩
theorem a_intB {x : Bool} : OpA ce E (RC K R0) (fun xs H Q => (∃ i, xs = [.int i] ∧ Q (.int i) H) ∨ ∃ k, xs = [.bl k] ∧ Q (.int (if k then 1 else 0)) H) (rv K) (x, ()) (.ok (if x then (1 : Int) else 0)) := fun F1 H1 vs e ⟨v, r, e1, h1, e3⟩ Q q => by
  cases e3
  cases h1
  subst e1
  exact .inr ⟨x, rfl, q F1 H1 _ (Gr.rf e) rfl⟩
/-- sum of ints -/
theorem a_sum {xs : List Int} : OpA ce E (RC K R0) (rSum K) (rv K) (xs, ()) (.ok xs.sum) := fun F1 H1 vs e ⟨v, r, e1, ⟨a, us, h1, h2, h3⟩, e3⟩ Q q => by
  cases e3
  subst e1 h1
  have := paired_int h3
  subst this
  exact ⟨a, xs, rfl, SqL.of (e _ _ h2), q F1 H1 _ (Gr.rf e) rfl⟩
/-- the greatest, the least of a list of ints -/
def maxL : List Int → Int
  | [] => 0
  | [x] => x
  | x :: r => max x (maxL r)
def minL : List Int → Int
  | [] => 0
  | [x] => x
  | x :: r => min x (minL r)
theorem maxL_mem : ∀ {xs : List Int}, xs ≠ [] → maxL xs ∈ xs ∧ ∀ y ∈ xs, y ≤ maxL xs
  | [], h => absurd rfl h
  | [x], _ => ⟨List.mem_singleton.mpr rfl, fun y hy => by rw [List.mem_singleton.mp hy]; exact Int.le_refl _⟩
  | x :: y :: r, _ => by
    obtain ⟨h1, h2⟩ := maxL_mem (xs := y :: r) (by simp)
    show max x (maxL (y :: r)) ∈ _ ∧ ∀ z ∈ _, z ≤ max x (maxL (y :: r))
    refine ⟨?_, fun z hz => ?_⟩
    · by_cases c : x ≤ maxL (y :: r)
      · rw [Int.max_eq_right c]; exact List.mem_cons_of_mem _ h1
      · rw [Int.max_eq_left (by omega)]; exact List.mem_cons_self
    · rcases List.mem_cons.mp hz with rfl | hz
      · exact Int.le_max_left _ _
      · exact Int.le_trans (h2 z hz) (Int.le_max_right _ _)
theorem minL_mem : ∀ {xs : List Int}, xs ≠ [] → minL xs ∈ xs ∧ ∀ y ∈ xs, minL xs ≤ y
  | [], h => absurd rfl h
  | [x], _ => ⟨List.mem_singleton.mpr rfl, fun y hy => by rw [List.mem_singleton.mp hy]; exact Int.le_refl _⟩
  | x :: y :: r, _ => by
    obtain ⟨h1, h2⟩ := minL_mem (xs := y :: r) (by simp)
    show min x (minL (y :: r)) ∈ _ ∧ ∀ z ∈ _, min x (minL (y :: r)) ≤ z
    refine ⟨?_, fun z hz => ?_⟩
    · by_cases c : x ≤ minL (y :: r)
      · rw [Int.min_eq_left c]; exact List.mem_cons_self
      · rw [Int.min_eq_right (by omega)]; exact List.mem_cons_of_mem _ h1
    · rcases List.mem_cons.mp hz with rfl | hz
      · exact Int.min_le_left _ _
      · exact Int.le_trans (Int.min_le_right _ _) (h2 z hz)
noncomputable def maxM (xs : List Int) : M Int := chk (xs ≠ []) (maxL xs)
noncomputable def minM (xs : List Int) : M Int := chk (xs ≠ []) (minL xs)
theorem a_max {xs : List Int} : OpA ce E (RC K R0) (rMax K) (rv K) (xs, ()) (maxM xs) := fun F1 H1 vs e ⟨v, r, e1, ⟨a, us, h1, h2, h3⟩, e3⟩ Q q => by
  cases e3
  subst e1 h1
  have := paired_int h3
  subst this
  unfold maxM chk at q
  split at q
  · rename_i hne
    refine ⟨a, xs, rfl, SqL.of (e _ _ h2), List.length_pos_iff.mpr hne, fun m hm hle => ?_⟩
    obtain ⟨k1, k2⟩ := maxL_mem hne
    have : m = maxL xs := Int.le_antisymm (k2 m hm) (hle _ k1)
    subst this
    exact q F1 H1 _ (Gr.rf e) rfl
  · exact q.elim
theorem a_min {xs : List Int} : OpA ce E (RC K R0) (rMin K) (rv K) (xs, ()) (minM xs) := fun F1 H1 vs e ⟨v, r, e1, ⟨a, us, h1, h2, h3⟩, e3⟩ Q q => by
  cases e3
  subst e1 h1
  have := paired_int h3
  subst this
  unfold minM chk at q
  split at q
  · rename_i hne
    refine ⟨a, xs, rfl, SqL.of (e _ _ h2), List.length_pos_iff.mpr hne, fun m hm hle => ?_⟩
    obtain ⟨k1, k2⟩ := minL_mem hne
    have : m = minL xs := Int.le_antisymm (hle _ k1) (k2 m hm)
    subst this
    exact q F1 H1 _ (Gr.rf e) rfl
  · exact q.elim
end
end Mw

set_option Elab.async false
set_option linter.all false
set_option maxRecDepth 100000
set_option maxHeartbeats 2000000
/-! Mw, part C: slices, sums of lists, comparisons of data, sorts, comprehensions. -/
namespace Mw
open PySem L2
open Rep (rp)
/-! ### slices, list + list, list * int -/
def cut {α : Type} (xs : List α) (lo hi : Option Int) : List α := (xs.drop (HT.sIx xs.length 0 lo)).take (HT.sIx xs.length xs.length hi - HT.sIx xs.length 0 lo)
theorem cutV_is (xs : List V) (lo hi : Option Int) : cutV xs lo hi = cut xs lo hi := rfl
theorem paired_cut {α β : Type} {F : α → β → Prop} {vs : List α} {xs : List β} (h : Paired F vs xs) (lo hi : Option Int) : Paired F (cut vs lo hi) (cut xs lo hi) := by
  unfold cut
  rw [Paired.length h]
  exact paired_take _ (paired_drop _ h)
section
variable {ρ α β γ δ : Type} [Rep α] [Rep β] [Rep γ] [Rep δ] {ce : Ce} {E : XK} {K : PySem.W.Frag} {σ : L2.St} {F H F' H' : Hp} {te ta tb tc td : TE} {tt tu : TT} {md : Md ρ} {m : M ρ}
def EvO (ce : Ce) (E : XK) (to : TO) (σ : L2.St) (F H : Hp) (m : M (Option Int)) : Prop := ∀ F1 H1, Gr F H F1 H1 → ∀ Q : Option Int → Hp → Prop,
  (match m with
    | .ok x => ∀ F2 H2, Gr F1 H1 F2 H2 → Q x H2
    | .er c => ∀ H', Ex H1 H' → E (.ref (ce c.name)) none H'
    | .bad => False) → to σ H1 Q
theorem eo_none : EvO ce E tNoPart σ F H (.ok none) := fun F1 H1 g1 Q q => q F1 H1 (Gr.rf g1.fh)
theorem eo_some {m : M Int} (h : Ev ce E te σ F H (rv K) m) : EvO ce E (tPart te) σ F H (m.bind fun i => .ok (some i)) := fun F1 H1 g1 Q q => by
  refine h F1 H1 g1 _ ?_
  cases m with
  | ok i => exact fun F2 H2 v g2 r => ⟨i, r, q F2 H2 g2⟩
  | er c => exact q
  | bad => exact q
theorem eo_some' {i : Int} (h : Ev ce E te σ F H (rv K) (.ok i)) : EvO ce E (tPart te) σ F H (.ok (some i)) := eo_some (m := .ok i) h
theorem em_sl {tl th : TO} {m1 : M (List α)} {m2 m3 : M (Option Int)} (ha : Ev ce E ta σ F H (rv K) m1) (hl : EvO ce E tl σ F H m2) (hh : EvO ce E th σ F H m3) :
    Ev ce E (tSl (rSlL K) ta tl th) σ F H (rn K) (m1.bind fun x => m2.bind fun lo => m3.bind fun hi => .ok (cut x lo hi)) := fun F1 H1 g1 Q q => by
  refine ha F1 H1 g1 _ ?_
  cases m1 with
  | ok x =>
    rintro F2 H2 vx g2 ⟨a, vs, e1, e2, e3⟩
    refine hl F2 H2 (g1.tr g2) _ ?_
    cases m2 with
    | ok lo =>
      intro F3 H3 g3
      refine hh F3 H3 ((g1.tr g2).tr g3) _ ?_
      cases m3 with
      | ok hi =>
        intro F4 H4 g4
        refine ⟨a, vs, e1, SqL.of (g4.hh _ _ (g3.hh _ _ (g2.fh _ _ e2))), fun p np => ?_⟩
        exact q F4 _ _ (((g2.tr g3).tr g4).tr (Gr.own g4.fh np)) ⟨p, _, rfl, ex_back ((g2.hh.tr g3.hh).tr g4.hh) np, ex_back g4.fh np, upd_same, paired_cut (paired_mo (g3.ff.tr g4.ff) e3) lo hi⟩
      | er c => exact fun H' e => q H' ((g2.tr g3).hh.tr e)
      | bad => exact q
    | er c => exact fun H' e => q H' (g2.hh.tr e)
    | bad => exact q
  | er c => exact q
  | bad => exact q
/-- a slice of the script -/
theorem em_slS {tl th : TO} {x : Scr} {m2 m3 : M (Option Int)} (ha : Ev ce E ta σ F H (rv K) (.ok x)) (hl : EvO ce E tl σ F H m2) (hh : EvO ce E th σ F H m3) :
    Ev ce E (tSl (rSlL K) ta tl th) σ F H (rn K) (m2.bind fun lo => m3.bind fun hi => .ok (cut x.l lo hi)) := fun F1 H1 g1 Q q => by
  refine ha F1 H1 g1 _ ?_
  rintro F2 H2 vx g2 ⟨a, e1, e2⟩
  refine hl F2 H2 (g1.tr g2) _ ?_
  cases m2 with
  | ok lo =>
    intro F3 H3 g3
    refine hh F3 H3 ((g1.tr g2).tr g3) _ ?_
    cases m3 with
    | ok hi =>
      intro F4 H4 g4
      refine ⟨a, _, e1, ex_l ((g2.fh.tr g3.hh).tr g4.hh) e2, fun p np => ?_⟩
      exact q F4 _ _ (((g2.tr g3).tr g4).tr (Gr.own g4.fh np)) ⟨p, _, rfl, ex_back ((g2.hh.tr g3.hh).tr g4.hh) np, ex_back g4.fh np, upd_same, paired_cut (rep_int x.l) lo hi⟩
    | er c => exact fun H' e => q H' ((g2.tr g3).hh.tr e)
    | bad => exact q
  | er c => exact fun H' e => q H' (g2.hh.tr e)
  | bad => exact q
theorem em_rev {m1 : M (List α)} (ha : Ev ce E ta σ F H (rv K) m1) : Ev ce E (tRevL K ta) σ F H (rn K) (m1.bind fun x => .ok x.reverse) := fun F1 H1 g1 Q q => by
  refine ha F1 H1 g1 _ ?_
  cases m1 with
  | ok x =>
    rintro F2 H2 vx g2 ⟨a, vs, e1, e2, e3⟩
    refine ⟨a, vs, e1, SqL.of (g2.fh _ _ e2), fun p np => ?_⟩
    exact q F2 _ _ (g2.tr (Gr.own g2.fh np)) ⟨p, _, rfl, ex_back g2.hh np, ex_back g2.fh np, upd_same, paired_rev e3⟩
  | er c => exact q
  | bad => exact q
noncomputable def catM {α : Type} (xs ys : List α) : M (List α) := chk (xs.length + ys.length ≤ 16000000) (xs ++ ys)
theorem o_cat {xs ys : List α} : Op2 ce E K rCat (rn K) xs ys (catM xs ys) := fun F1 H1 vx vy e ⟨a, vs, h1, h2, h3⟩ ⟨b, ws, k1, k2, k3⟩ Q q => by
  unfold catM chk at q
  split at q
  · rename_i hc
    refine ⟨a, b, vs, ws, h1, k1, e _ _ h2, e _ _ k2, ?_, fun p np => ?_⟩
    · rw [Paired.length h3, Paired.length k3, sizeLine_eq]; omega
    · exact q F1 _ _ (Gr.own e np) ⟨p, _, rfl, np, ex_back e np, upd_same, paired_app h3 k3⟩
  · exact q.elim
theorem paired_flat {F : V → α → Prop} {vs : List V} {xs : List α} (h : Paired F vs xs) : ∀ n : Nat, Paired F (List.replicate n vs).flatten (List.replicate n xs).flatten
  | 0 => .nil
  | n + 1 => by
    rw [List.replicate_succ, List.replicate_succ, List.flatten_cons, List.flatten_cons]
    exact paired_app h (paired_flat h n)
noncomputable def repM {α : Type} (xs : List α) (k : Int) : M (List α) := chk (-(2 ^ 63) ≤ k ∧ k < 2 ^ 63 ∧ xs.length * k.toNat ≤ 16000000) (List.replicate k.toNat xs).flatten
theorem o_rep {xs : List α} {k : Int} : Op2 ce E K rRep (rn K) xs k (repM xs k) := fun F1 H1 vx vy e ⟨a, vs, h1, h2, h3⟩ ry Q q => by
  cases ry
  unfold repM chk at q
  split at q
  · rename_i hc
    refine ⟨a, k, vs, h1, rfl, e _ _ h2, hc.1, hc.2.1, ?_, fun p np => ?_⟩
    · rw [Paired.length h3, sizeLine_eq]; omega
    · exact q F1 _ _ (Gr.own e np) ⟨p, _, rfl, np, ex_back e np, upd_same, paired_flat h3 _⟩
  · exact q.elim

/-! ### == of data -/
class Dat (α : Type) [Rep α] [DecidableEq α] where
  dat : α → PyData
  deep : Nat
  dp : ∀ {K : PySem.W.Frag} {H : Hp} {v : V} {x : α}, rp K H v x → Dp K H v (dat x)
  cl : ∀ x, (dat x).canLay0 = true
  de : ∀ x, (dat x).depth ≤ deep
  eq : ∀ x y, PyData.eqv (dat x) (dat y) = decide (x = y)
end
instance : Dat Int := ⟨fun i => .int i, 0, fun {K H v x} h => by cases h; exact .int x, fun _ => rfl, fun _ => Nat.le_refl _, fun x y => by simp only [PyData.eqv]; rw [Bool.eq_iff_iff]; simp⟩
instance : Dat Bool := ⟨fun i => .bool i, 0, fun {K H v x} h => by cases h; exact .bl x, fun _ => rfl, fun _ => Nat.le_refl _, fun x y => by simp only [PyData.eqv]; rw [Bool.eq_iff_iff]; simp⟩
/-- what is told apart from None -/
class NotN (α : Type) [Rep α] [DecidableEq α] [Dat α] : Prop where
  nn : ∀ x : α, PyData.eqv .none (Dat.dat x) = false ∧ PyData.eqv (Dat.dat x) .none = false
instance : NotN Int := ⟨fun x => ⟨by show PyData.eqv .none (.int x) = false; simp [PyData.eqv], by show PyData.eqv (.int x) .none = false; simp [PyData.eqv]⟩⟩
instance : NotN Bool := ⟨fun x => ⟨by show PyData.eqv .none (.bool x) = false; simp [PyData.eqv], by show PyData.eqv (.bool x) .none = false; simp [PyData.eqv]⟩⟩
instance {α : Type} [Rep α] [DecidableEq α] [Dat α] [NotN α] : Dat (Option α) where
  dat := fun x => match x with
    | none => .none
    | some y => Dat.dat y
  deep := Dat.deep α
  dp := fun {K H v x} h => by
    cases x with
    | none => cases h; exact .non
    | some y => exact Dat.dp h.1
  cl := fun x => by cases x with
    | none => rfl
    | some y => exact Dat.cl y
  de := fun x => by cases x with
    | none => exact Nat.zero_le _
    | some y => exact Dat.de y
  eq := fun x y => by
    cases x with
    | none => cases y with
      | none => simp [PyData.eqv]
      | some b => simpa using (NotN.nn b).1
    | some a => cases y with
      | none => simpa using (NotN.nn a).2
      | some b => simpa using Dat.eq a b
theorem dpAll_of {α : Type} [Rep α] [DecidableEq α] [Dat α] {K : PySem.W.Frag} {H : Hp} : ∀ {vs : List V} {xs : List α}, Paired (rp K H) vs xs → DpAll K H vs (xs.map Dat.dat)
  | _, _, .nil => .nil
  | _, _, .cons h t => .cons (Dat.dp h) (dpAll_of t)
theorem clAll {α : Type} [Rep α] [DecidableEq α] [Dat α] : ∀ xs : List α, PyData.canLayAll0 (xs.map Dat.dat) = true
  | [] => by simp [PyData.canLayAll0]
  | x :: r => by simp [PyData.canLayAll0, Dat.cl x, clAll r]
theorem deAll {α : Type} [Rep α] [DecidableEq α] [Dat α] : ∀ xs : List α, PyData.depthAll (xs.map Dat.dat) ≤ Dat.deep α
  | [] => Nat.zero_le _
  | x :: r => by
    show max (PyData.depth (Dat.dat x)) (PyData.depthAll (r.map Dat.dat)) ≤ _
    exact Nat.max_le.mpr ⟨Dat.de x, deAll r⟩
theorem eqAll {α : Type} [Rep α] [DecidableEq α] [Dat α] : ∀ xs ys : List α, PyData.eqvAll (xs.map Dat.dat) (ys.map Dat.dat) = decide (xs = ys)
  | [], [] => by simp [PyData.eqvAll]
  | [], _ :: _ => by simp [PyData.eqvAll]
  | _ :: _, [] => by simp [PyData.eqvAll]
  | x :: r, y :: s => by
    simp only [List.map_cons, PyData.eqvAll, Dat.eq x y, eqAll r s, List.cons.injEq]
    simp
instance {α : Type} [Rep α] [DecidableEq α] [Dat α] : Dat (List α) where
  dat := fun xs => .list (xs.map Dat.dat)
  deep := Dat.deep α + 1
  dp := fun {K H v x} ⟨a, vs, h1, h2, h3⟩ => by subst h1; exact .lst (SqL.of h2) (dpAll_of h3)
  cl := fun xs => by simpa [PyData.canLay0] using clAll xs
  de := fun xs => by
    show PyData.depthAll (xs.map Dat.dat) + 1 ≤ _
    exact Nat.succ_le_succ (deAll xs)
  eq := fun xs ys => by simpa [PyData.eqv] using eqAll xs ys
instance {α : Type} [Rep α] [DecidableEq α] [Dat α] : NotN (List α) := ⟨fun x => ⟨by show PyData.eqv .none (.list _) = false; simp [PyData.eqv], by show PyData.eqv (.list _) .none = false; simp [PyData.eqv]⟩⟩
instance {α β : Type} [Rep α] [Rep β] [DecidableEq α] [DecidableEq β] [Dat α] [Dat β] : Dat (α × β) where
  dat := fun x => .tuple [Dat.dat x.1, Dat.dat x.2]
  deep := max (Dat.deep α) (Dat.deep β) + 1
  dp := fun {K H v x} ⟨a, u, w, h1, h2, h3, h4⟩ => by subst h1; exact .tup h2 (.cons (Dat.dp h3) (.cons (Dat.dp h4) .nil))
  cl := fun x => by simp [PyData.canLay0, PyData.canLayAll0, Dat.cl]
  de := fun x => by
    show max (PyData.depth _) (max (PyData.depth _) 0) + 1 ≤ _
    have h1 := Dat.de x.1
    have h2 := Dat.de x.2
    omega
  eq := fun x y => by
    obtain ⟨x1, x2⟩ := x
    obtain ⟨y1, y2⟩ := y
    simp only [PyData.eqv, PyData.eqvAll, Dat.eq, Bool.and_true, Prod.mk.injEq]
    simp
instance {α β : Type} [Rep α] [Rep β] [DecidableEq α] [DecidableEq β] [Dat α] [Dat β] : NotN (α × β) := ⟨fun x => ⟨by show PyData.eqv .none (.tuple _) = false; simp [PyData.eqv], by show PyData.eqv (.tuple _) .none = false; simp [PyData.eqv]⟩⟩
instance {α β γ : Type} [Rep α] [Rep β] [Rep γ] [DecidableEq α] [DecidableEq β] [DecidableEq γ] [Dat α] [Dat β] [Dat γ] : Dat (T3 α β γ) where
  dat := fun x => .tuple [Dat.dat x.a, Dat.dat x.b, Dat.dat x.c]
  deep := max (Dat.deep α) (max (Dat.deep β) (Dat.deep γ)) + 1
  dp := fun {K H v x} ⟨a, u, w, z, h1, h2, h3, h4, h5⟩ => by subst h1; exact .tup h2 (.cons (Dat.dp h3) (.cons (Dat.dp h4) (.cons (Dat.dp h5) .nil)))
  cl := fun x => by simp [PyData.canLay0, PyData.canLayAll0, Dat.cl]
  de := fun x => by
    show max (PyData.depth _) (max (PyData.depth _) (max (PyData.depth _) 0)) + 1 ≤ _
    have h1 := Dat.de x.a
    have h2 := Dat.de x.b
    have h3 := Dat.de x.c
    omega
  eq := fun x y => by
    obtain ⟨x1, x2, x3⟩ := x
    obtain ⟨y1, y2, y3⟩ := y
    simp only [PyData.eqv, PyData.eqvAll, Dat.eq, Bool.and_true, T3.mk.injEq]
    simp
instance {α β γ : Type} [Rep α] [Rep β] [Rep γ] [DecidableEq α] [DecidableEq β] [DecidableEq γ] [Dat α] [Dat β] [Dat γ] : NotN (T3 α β γ) := ⟨fun x => ⟨by show PyData.eqv .none (.tuple _) = false; simp [PyData.eqv], by show PyData.eqv (.tuple _) .none = false; simp [PyData.eqv]⟩⟩
section
variable {ρ α β γ δ : Type} [Rep α] [Rep β] [Rep γ] [Rep δ] {ce : Ce} {E : XK} {K : PySem.W.Frag} {σ : L2.St} {F H F' H' : Hp} {te ta tb tc td : TE} {tt tu : TT} {md : Md ρ} {m : M ρ}
theorem shaped_of [DecidableEq α] [Dat α] (h : Dat.deep α ≤ 64) (x : α) : SeqAt.shaped (Dat.dat x) = true := by
  unfold SeqAt.shaped
  rw [Dat.cl x]
  exact decide_eq_true (Nat.le_trans (Dat.de x) h)
theorem o_eqD [DecidableEq α] [Dat α] {x y : α} (h : Dat.deep α ≤ 64) : Op2 ce E K (rEqD K) (rv K) x y (.ok (decide (x = y))) := fun F1 H1 vx vy e rx ry Q q => by
  refine ⟨Dat.dat x, Dat.dat y, Dat.dp (Rep.mo e rx), Dat.dp (Rep.mo e ry), shaped_of h x, shaped_of h y, ?_⟩
  rw [Dat.eq]
  exact q F1 H1 _ (Gr.rf e) rfl
theorem o_neD [DecidableEq α] [Dat α] {x y : α} (h : Dat.deep α ≤ 64) : Op2 ce E K (rNeD K) (rv K) x y (.ok (!decide (x = y))) := fun F1 H1 vx vy e rx ry Q q => by
  refine ⟨Dat.dat x, Dat.dat y, Dat.dp (Rep.mo e rx), Dat.dp (Rep.mo e ry), shaped_of h x, shaped_of h y, ?_⟩
  rw [Dat.eq]
  exact q F1 H1 _ (Gr.rf e) rfl
/-- x == y where the one may be None -/
theorem o_eqDo [DecidableEq α] [Dat α] [NotN α] {x : Option α} {y : α} (h : Dat.deep α ≤ 64) : Op2 ce E K (rEqD K) (rv K) x y (.ok (decide (x = some y))) := fun F1 H1 vx vy e rx ry Q q => by
  refine ⟨Dat.dat x, Dat.dat y, Dat.dp (Rep.mo e rx), Dat.dp (Rep.mo e ry), shaped_of (α := Option α) h x, shaped_of h y, ?_⟩
  rw [show PyData.eqv (Dat.dat x) (Dat.dat y) = decide (x = some y) from Dat.eq x (some y)]
  exact q F1 H1 _ (Gr.rf e) rfl
theorem o_neDo [DecidableEq α] [Dat α] [NotN α] {x : Option α} {y : α} (h : Dat.deep α ≤ 64) : Op2 ce E K (rNeD K) (rv K) x y (.ok (!decide (x = some y))) := fun F1 H1 vx vy e rx ry Q q => by
  refine ⟨Dat.dat x, Dat.dat y, Dat.dp (Rep.mo e rx), Dat.dp (Rep.mo e ry), shaped_of (α := Option α) h x, shaped_of h y, ?_⟩
  rw [show PyData.eqv (Dat.dat x) (Dat.dat y) = decide (x = some y) from Dat.eq x (some y)]
  exact q F1 H1 _ (Gr.rf e) rfl
theorem o_eqI {x y : Int} : Op2 ce E K rEq (rv K) x y (.ok (decide (x = y))) := fun F1 H1 vx vy e rx ry Q q => by
  cases rx; cases ry
  refine ⟨rfl, ?_⟩
  have : decide (V.int x = V.int y) = decide (x = y) := by rw [Bool.eq_iff_iff]; simp
  rw [this]
  exact q F1 H1 _ (Gr.rf e) rfl
theorem o_neI {x y : Int} : Op2 ce E K rNe (rv K) x y (.ok (!decide (x = y))) := fun F1 H1 vx vy e rx ry Q q => by
  cases rx; cases ry
  refine ⟨rfl, ?_⟩
  have : decide (V.int x = V.int y) = decide (x = y) := by rw [Bool.eq_iff_iff]; simp
  rw [this]
  exact q F1 H1 _ (Gr.rf e) rfl
theorem o_eqB {x y : Bool} : Op2 ce E K rEq (rv K) x y (.ok (decide (x = y))) := fun F1 H1 vx vy e rx ry Q q => by
  cases rx; cases ry
  refine ⟨rfl, ?_⟩
  have : decide (V.bl x = V.bl y) = decide (x = y) := by rw [Bool.eq_iff_iff]; simp
  rw [this]
  exact q F1 H1 _ (Gr.rf e) rfl
theorem o_neB {x y : Bool} : Op2 ce E K rNe (rv K) x y (.ok (!decide (x = y))) := fun F1 H1 vx vy e rx ry Q q => by
  cases rx; cases ry
  refine ⟨rfl, ?_⟩
  have : decide (V.bl x = V.bl y) = decide (x = y) := by rw [Bool.eq_iff_iff]; simp
  rw [this]
  exact q F1 H1 _ (Gr.rf e) rfl
theorem o_eqS {x y : Str} : Op2 ce E K rEq (rv K) x y (.ok (decide (x = y))) := fun F1 H1 vx vy e rx ry Q q => by
  cases rx; cases ry
  refine ⟨rfl, ?_⟩
  have : decide (V.str x = V.str y) = decide (x = y) := by rw [Bool.eq_iff_iff]; simp
  rw [this]
  exact q F1 H1 _ (Gr.rf e) rfl
theorem o_neS {x y : Str} : Op2 ce E K rNe (rv K) x y (.ok (!decide (x = y))) := fun F1 H1 vx vy e rx ry Q q => by
  cases rx; cases ry
  refine ⟨rfl, ?_⟩
  have : decide (V.str x = V.str y) = decide (x = y) := by rw [Bool.eq_iff_iff]; simp
  rw [this]
  exact q F1 H1 _ (Gr.rf e) rfl
/-- x is None, x is not None -/
def rIsN : R2 := fun x y H Q => y = .non ∧ Q (.bl (decide (x = .non))) H
def rNotN : R2 := fun x y H Q => y = .non ∧ Q (.bl (!decide (x = .non))) H
theorem o_isN {x : Option α} : Op2 ce E K rIsN (rv K) x () (.ok (!x.isSome)) := fun F1 H1 vx vy e rx ry Q q => by
  cases ry
  refine ⟨rfl, ?_⟩
  have : decide (vx = V.non) = !x.isSome := by
    cases x with
    | none => cases rx; rfl
    | some y => exact decide_eq_false rx.2
  rw [this]
  exact q F1 H1 _ (Gr.rf e) rfl
theorem o_notN {x : Option α} : Op2 ce E K rNotN (rv K) x () (.ok x.isSome) := fun F1 H1 vx vy e rx ry Q q => by
  cases ry
  refine ⟨rfl, ?_⟩
  have : (!decide (vx = V.non)) = x.isSome := by
    cases x with
    | none => cases rx; rfl
    | some y => rw [decide_eq_false rx.2] <;> rfl
  rw [this]
  exact q F1 H1 _ (Gr.rf e) rfl
theorem o_isU {x : Unit} : Op2 ce E K rIsN (rv K) x () (.ok true) := fun F1 H1 vx vy e rx ry Q q => by
  cases ry; cases rx
  exact ⟨rfl, q F1 H1 _ (Gr.rf e) rfl⟩
theorem o_notU {x : Unit} : Op2 ce E K rNotN (rv K) x () (.ok false) := fun F1 H1 vx vy e rx ry Q q => by
  cases ry; cases rx
  exact ⟨rfl, q F1 H1 _ (Gr.rf e) rfl⟩
/-- a value that may be None -/
class NN (α : Type) [Rep α] : Prop where
  nn : ∀ {K : PySem.W.Frag} {H : Hp} {v : V} {x : α}, rp K H v x → v ≠ .non
instance : NN Int := ⟨fun h => by cases h; exact fun z => nomatch z⟩
instance : NN Bool := ⟨fun h => by cases h; exact fun z => nomatch z⟩
instance : NN Str := ⟨fun h => by cases h; exact fun z => nomatch z⟩
instance : NN (List α) := ⟨fun ⟨a, vs, h1, _⟩ => by subst h1; exact fun z => nomatch z⟩
instance : NN (α × β) := ⟨fun ⟨a, u, w, h1, _⟩ => by subst h1; exact fun z => nomatch z⟩
instance : NN (T3 α β γ) := ⟨fun ⟨a, u, w, z, h1, _⟩ => by subst h1; exact fun z => nomatch z⟩
instance : NN (T4 α β γ δ) := ⟨fun ⟨a, u, w, z, y, h1, _⟩ => by subst h1; exact fun z => nomatch z⟩
theorem em_some [NN α] {m : M α} (h : Ev ce E te σ F H (rv K) m) : Ev ce E te σ F H (rv K) (m.bind fun x => .ok (some x)) := fun F1 H1 g1 Q q => by
  refine h F1 H1 g1 _ ?_
  cases m with
  | ok x => exact fun F2 H2 v g2 r => q F2 H2 v g2 ⟨r, NN.nn r⟩
  | er c => exact q
  | bad => exact q
/-- what is not None -/
def getM {α : Type} (x : Option α) : M α := match x with
  | some y => .ok y
  | none => .bad
theorem em_get {m : M (Option α)} (h : Ev ce E te σ F H (rv K) m) : Ev ce E te σ F H (rv K) (m.bind getM) := fun F1 H1 g1 Q q => by
  refine h F1 H1 g1 _ ?_
  cases m with
  | ok x =>
    cases x with
    | none => exact q.elim
    | some y => exact fun F2 H2 v g2 r => q F2 H2 v g2 r.1
  | er c => exact q
  | bad => exact q

/-! ### in a list -/
theorem inV_int (x : Int) : ∀ xs : List Int, inV (.int x) (xs.map V.int) = decide (x ∈ xs)
  | [] => by simp [inV]
  | y :: r => by
    have ih := inV_int x r
    unfold inV at ih ⊢
    rw [List.map_cons, List.any_cons, ih]
    have : eqV (V.int y) (V.int x) = decide (x = y) := by
      show (y == x) = decide (x = y)
      rw [Bool.eq_iff_iff, beq_iff_eq, decide_eq_true_eq]
      exact ⟨Eq.symm, Eq.symm⟩
    rw [this, Bool.eq_iff_iff]
    simp
theorem flat_ints : ∀ xs : List Int, (xs.map V.int).all flatV = true
  | [] => rfl
  | _ :: r => by rw [List.map_cons, List.all_cons, flat_ints r] <;> rfl
theorem o_in {x : Int} {xs : List Int} : Op2 ce E K (rIn K false) (rv K) x xs (.ok (decide (x ∈ xs))) := fun F1 H1 vx vy e rx ⟨a, vs, h1, h2, h3⟩ Q q => by
  cases rx
  have := paired_int h3
  subst this
  subst h1
  refine ⟨a, _, rfl, .inl (SqL.of (e _ _ h2)), rfl, flat_ints _, ?_⟩
  show Q (V.bl (if false = true then _ else _)) H1
  rw [if_neg Bool.false_ne_true, inV_int]
  exact q F1 H1 _ (Gr.rf e) rfl
theorem o_notIn {x : Int} {xs : List Int} : Op2 ce E K (rIn K true) (rv K) x xs (.ok (!decide (x ∈ xs))) := fun F1 H1 vx vy e rx ⟨a, vs, h1, h2, h3⟩ Q q => by
  cases rx
  have := paired_int h3
  subst this
  subst h1
  refine ⟨a, _, rfl, .inl (SqL.of (e _ _ h2)), rfl, flat_ints _, ?_⟩
  show Q (V.bl (if true = true then _ else _)) H1
  rw [if_pos rfl, inV_int]
  exact q F1 H1 _ (Gr.rf e) rfl

/-! ### sorted ints -/
def insI (x : Int) : List Int → List Int
  | [] => [x]
  | y :: r => if x ≤ y then x :: y :: r else y :: insI x r
def sortI : List Int → List Int
  | [] => []
  | x :: r => insI x (sortI r)
theorem insI_perm (x : Int) : ∀ xs, (insI x xs).Perm (x :: xs)
  | [] => List.Perm.refl _
  | y :: r => by
    unfold insI
    split
    · exact List.Perm.refl _
    · exact (List.Perm.cons y (insI_perm x r)).trans (List.Perm.swap x y r)
theorem sortI_perm : ∀ xs, (sortI xs).Perm xs
  | [] => List.Perm.refl _
  | x :: r => (insI_perm x _).trans (List.Perm.cons x (sortI_perm r))
theorem insI_sorted (x : Int) : ∀ {xs : List Int}, xs.Pairwise (· ≤ ·) → (insI x xs).Pairwise (· ≤ ·)
  | [], _ => List.pairwise_singleton _ _
  | y :: r, h => by
    unfold insI
    have hy := List.pairwise_cons.mp h
    split
    · rename_i c
      refine List.pairwise_cons.mpr ⟨fun z hz => ?_, h⟩
      rcases List.mem_cons.mp hz with rfl | hz
      · exact c
      · exact Int.le_trans c (hy.1 z hz)
    · rename_i c
      refine List.pairwise_cons.mpr ⟨fun z hz => ?_, insI_sorted x hy.2⟩
      rcases List.mem_cons.mp ((insI_perm x r).mem_iff.mp hz) with rfl | hz
      · omega
      · exact hy.1 z hz
theorem sortI_sorted : ∀ xs : List Int, (sortI xs).Pairwise (· ≤ ·)
  | [] => List.Pairwise.nil
  | x :: r => insI_sorted x (sortI_sorted r)
theorem sorted_same : ∀ {xs ys : List Int}, xs.Perm ys → xs.Pairwise (· ≤ ·) → ys.Pairwise (· ≤ ·) → xs = ys
  | [], ys, p, _, _ => (List.Perm.nil_eq p)
  | x :: r, [], p, _, _ => absurd p.length_eq (by simp)
  | x :: r, y :: s, p, h1, h2 => by
    have a1 := List.pairwise_cons.mp h1
    have a2 := List.pairwise_cons.mp h2
    have e : x = y := by
      have m1 : x ∈ y :: s := p.mem_iff.mp List.mem_cons_self
      have m2 : y ∈ x :: r := p.mem_iff.mpr List.mem_cons_self
      rcases List.mem_cons.mp m1 with rfl | m1
      · rfl
      · rcases List.mem_cons.mp m2 with rfl | m2
        · rfl
        · have := a1.1 y m2
          have := a2.1 x m1
          omega
    subst e
    rw [sorted_same (List.Perm.cons_inv p) a1.2 a2.2]
theorem a_sorted {xs : List Int} : OpA ce E (RC K R0) (rSortedI K) (rn K) (xs, ()) (.ok (sortI xs)) := fun F1 H1 vs e ⟨v, r, e1, ⟨a, us, h1, h2, h3⟩, e3⟩ Q q => by
  cases e3
  subst e1 h1
  have := paired_int h3
  subst this
  refine ⟨a, xs, rfl, SqL.of (e _ _ h2), fun ns p hp hs np => ?_⟩
  have : ns = sortI xs := sorted_same (hp.trans (sortI_perm xs).symm) hs (sortI_sorted xs)
  subst this
  exact q F1 _ _ (Gr.own e np) ⟨p, _, rfl, np, ex_back e np, upd_same, rep_int _⟩

/-! ### isinstance, by the types -/
theorem a_isI {n : String} {b : Bool} {x : Int} (hb : PySem.W.kitOne K (.type "int") (.type n) = some b) : OpA ce E (fun F vs (x : Int) => vs = [.int x, .ty n]) (rIsi K) (rv K) x (.ok b) := fun F1 H1 vs e h Q q => by
  subst h
  exact ⟨.int x, .ty n, _, _, b, rfl, .ty n, .base (.int x), hb, q F1 H1 _ (Gr.rf e) rfl⟩
end
end Mw

set_option Elab.async false
set_option linter.all false
set_option maxRecDepth 100000
set_option maxHeartbeats 2000000
/-! Mw, part D: statements, loops, comprehensions, defs. -/
namespace Mw
open PySem L2
open Rep (rp)
/-! ### what is left to be done -/
def Wp {τ : Type} (ce : Ce) (E : XK) (H0 : Hp) (m : M τ) (P : τ → Prop) : Prop :=
  match m with
  | .ok r => P r
  | .er c => ∀ H', Ex H0 H' → E (.ref (ce c.name)) none H'
  | .bad => False
def Fin {ρ : Type} (md : Md ρ) (F0 H0 : Hp) (Q : VK) : ρ → Prop := fun r => ∀ F' H' v, Gr F0 H0 F' H' → md F0 H0 F' H' v r → Q v H'
theorem wp_post {ρ : Type} {ce : Ce} {md : Md ρ} {m : M ρ} {F H : Hp} {Q : VK} {E : XK} (h : Post ce md m F H Q E) : Wp ce E H m (Fin md F H Q) := by
  cases m with
  | ok r => exact h
  | er c => exact h
  | bad => exact h
inductive Ctl (S τ : Type) where
  | nx (s : S)
  | br (s : S)
  | rt (r : τ)
def forM {α S τ : Type} (f : α → S → M (Ctl S τ)) (k : S → M τ) : List α → S → M τ
  | [], s => k s
  | x :: r, s => (f x s).bind fun c => match c with
    | .nx s' => forM f k r s'
    | .br s' => k s'
    | .rt r => .ok r
def whM {S τ : Type} (c : S → M Bool) (f : S → M (Ctl S τ)) (k : S → M τ) : Nat → S → M τ
  | 0, _ => .bad
  | n + 1, s => (c s).bind fun b => if b then (f s).bind fun z => match z with
    | .nx s' => whM c f k n s'
    | .br s' => k s'
    | .rt r => .ok r else k s
theorem forM_nil {α S τ : Type} (f : α → S → M (Ctl S τ)) (k : S → M τ) (s : S) : forM f k [] s = k s := rfl
theorem forM_cons {α S τ : Type} (f : α → S → M (Ctl S τ)) (k : S → M τ) (x : α) (r : List α) (s : S) : forM f k (x :: r) s = (f x s).bind fun c => match c with
    | .nx s' => forM f k r s'
    | .br s' => k s'
    | .rt r => .ok r := rfl
/-! ### comprehensions -/
def M.ne {α : Type} : M α → M α
  | .ok a => .ok a
  | _ => .bad
@[simp] theorem ne_ok {α : Type} (a : α) : (M.ok a).ne = .ok a := (rfl)
def compM {α β : Type} (c : α → M Bool) (e : α → M β) : List α → M (List β)
  | [] => .ok []
  | x :: r => (c x).ne.bind fun b => if b then (e x).ne.bind fun y => (compM c e r).bind fun ys => .ok (y :: ys) else compM c e r
noncomputable def lcM {α β : Type} (c : α → M Bool) (e : α → M β) (xs : List α) : M (List β) := @ite _ (xs.length ≤ 16000000) (Classical.propDecidable _) (compM c e xs) .bad
theorem compM_ok {α β : Type} (c : α → Bool) (e : α → β) : ∀ xs : List α, compM (fun x => .ok (c x)) (fun x => .ok (e x)) xs = .ok ((xs.filter c).map e)
  | [] => rfl
  | x :: r => by
    show (if c x = true then ((compM _ _ r).bind fun ys => M.ok (e x :: ys)) else compM _ _ r) = _
    rw [compM_ok c e r, List.filter_cons]
    split
    · rfl
    · rfl
theorem compM_all {α β : Type} (e : α → β) : ∀ xs : List α, compM (fun _ => .ok true) (fun x => .ok (e x)) xs = .ok (xs.map e)
  | [] => rfl
  | x :: r => by
    show ((compM _ _ r).bind fun ys => M.ok (e x :: ys)) = _
    rw [compM_all e r]
    rfl
theorem compM_congr {α β : Type} {c c' : α → M Bool} {e e' : α → M β} : ∀ {xs : List α}, (∀ x ∈ xs, c x = c' x) → (∀ x ∈ xs, c x = .ok true → e x = e' x) → compM c e xs = compM c' e' xs
  | [], _, _ => rfl
  | x :: r, h1, h2 => by
    have ih := compM_congr (xs := r) (fun y hy => h1 y (List.mem_cons_of_mem _ hy)) (fun y hy => h2 y (List.mem_cons_of_mem _ hy))
    unfold compM
    rw [ih, ← h1 x List.mem_cons_self]
    have h2' := h2 x List.mem_cons_self
    cases q : c x with
    | ok b =>
      cases b with
      | true => rw [h2' q]
      | false => rfl
    | er _ => rfl
    | bad => rfl
/-! ### what is walked -/
def Sq (K : PySem.W.Frag) {α : Type} [Rep α] (F : Hp) (J : It) (xs : List α) : Prop := ∀ i H, Ex F H →
  (∀ x, xs[i]? = some x → J.go i H ∧ ∀ v H', J.yld i H v H' → ∀ F1, Ex F F1 → Ex F1 H → ∃ F2, Gr F1 H F2 H' ∧ rp K F2 v x) ∧ (xs.length ≤ i → J.stop i H)
def EvI (ce : Ce) (E : XK) (K : PySem.W.Frag) {α : Type} [Rep α] (wi : TI) (σ : L2.St) (F H : Hp) (m : M (List α)) : Prop := ∀ F1 H1, Gr F H F1 H1 → ∀ R : It → Hp → Prop,
  Wp ce E H1 m (fun xs => ∀ F2 H2 J, Gr F1 H1 F2 H2 → Sq K F2 J xs → R J H2) → wi σ H1 R
section
variable {ρ α β γ δ S τ : Type} [Rep α] [Rep β] [Rep γ] [Rep δ] {ce : Ce} {E : XK} {K : PySem.W.Frag} {σ : L2.St} {F H F' H' F0 H0 : Hp} {te ta tb tc td : TE} {tt tu : TT} {md : Md ρ} {m : M ρ} {D : Ends} {ts tw : TS} {g : TG} {wi : TI} {P : τ → Prop}
theorem sq_list {a : Addr} {vs : List V} {xs : List α} (h : SqL K F a vs) (p : Paired (rp K F) vs xs) : Sq K F (Itl K a) xs := fun i H e => by
  have hl := Paired.length p
  refine ⟨fun x hx => ?_, fun hi => ⟨vs, ex_l e h, by omega⟩⟩
  obtain ⟨v, hv, rv'⟩ := paired_get p hx
  refine ⟨⟨vs, v, ex_l e h, hv⟩, fun w H' ⟨e1, e2⟩ F1 f1 f2 => ?_⟩
  subst e1
  have : some v = some w := hv.symm.trans (e2 vs (ex_l e h))
  cases this
  exact ⟨F1, Gr.rf f2, Rep.mo f1 rv'⟩
theorem ei_list {m : M (List α)} (h : Ev ce E te σ F H (rv K) m) : EvI ce E K (iList K te) σ F H m := fun F1 H1 g1 R q => by
  refine h F1 H1 g1 _ ?_
  cases m with
  | ok xs =>
    rintro F2 H2 v g2 ⟨a, vs, rfl, h2, h3⟩
    exact ⟨a, rfl, ⟨vs, SqL.of (g2.fh _ _ h2)⟩, q F2 H2 _ g2 (sq_list (SqL.of h2) h3)⟩
  | er c => exact q
  | bad => exact q
theorem ei_scr {x : Scr} (h : Ev ce E te σ F H (rv K) (.ok x)) : EvI ce E K (iList K te) σ F H (.ok x.l) := fun F1 H1 g1 R q => by
  refine h F1 H1 g1 _ ?_
  rintro F2 H2 v g2 ⟨a, rfl, h2⟩
  exact ⟨a, rfl, ⟨_, ex_l g2.fh h2⟩, q F2 H2 _ g2 (sq_list h2 (rep_int _))⟩
/-- range -/
def rng (lo hi : Int) : List Int := (List.range (hi - lo).toNat).map fun (k : Nat) => lo + (k : Int)
theorem rng_len (lo hi : Int) : (rng lo hi).length = (hi - lo).toNat := by unfold rng; rw [List.length_map, List.length_range]
theorem rng_get (lo hi : Int) (i : Nat) (h : i < (hi - lo).toNat) : (rng lo hi)[i]? = some (lo + (i : Int)) := by
  unfold rng
  rw [List.getElem?_map, List.getElem?_range h]
  rfl
theorem sq_rng {lo hi : Int} : Sq K F (Itr lo (hi - lo).toNat) (rng lo hi) := fun i H e => by
  refine ⟨fun x hx => ?_, fun h => ?_⟩
  · have hi' : i < (hi - lo).toNat := by
      have := (List.getElem?_eq_some_iff.mp hx).1
      rw [rng_len] at this
      exact this
    rw [rng_get _ _ _ hi'] at hx
    cases hx
    refine ⟨hi', fun v H' ⟨e1, e2⟩ F1 f1 f2 => ?_⟩
    subst e1 e2
    exact ⟨F1, Gr.rf f2, rfl⟩
  · rw [rng_len] at h
    exact h
noncomputable def rng1M (hi : Int) : M (List Int) := chk (-(2 ^ 62) ≤ hi ∧ hi < 2 ^ 62) (rng 0 hi)
noncomputable def rng2M (lo hi : Int) : M (List Int) := chk (-(2 ^ 62) ≤ lo ∧ lo < 2 ^ 62 ∧ -(2 ^ 62) ≤ hi ∧ hi < 2 ^ 62) (rng lo hi)
theorem ei_rng1 {m : M Int} (h : Ev ce E ta σ F H (rv K) m) : EvI ce E K (iRng1 (tCons ta tNil)) σ F H (m.bind rng1M) := fun F1 H1 g1 R q => by
  refine h F1 H1 g1 _ ?_
  cases m with
  | ok n =>
    intro F2 H2 v g2 r
    cases r
    have q' : Wp ce E H1 (rng1M n) (fun xs => ∀ F2 H2 J, Gr F1 H1 F2 H2 → Sq K F2 J xs → R J H2) := q
    unfold rng1M chk at q'
    by_cases hc : -(2 ^ 62) ≤ n ∧ n < 2 ^ 62
    · rw [if_pos hc] at q'
      refine ⟨n, rfl, hc.1, hc.2, q' F2 H2 _ g2 ?_⟩
      have := sq_rng (K := K) (F := F2) (lo := 0) (hi := n)
      rw [Int.sub_zero] at this
      exact this
    · rw [if_neg hc] at q'
      exact q'.elim
  | er c => exact q
  | bad => exact q
theorem ei_rng2 {m m2 : M Int} (h : Ev ce E ta σ F H (rv K) m) (h2 : Ev ce E tb σ F H (rv K) m2) : EvI ce E K (iRng2 (tCons ta (tCons tb tNil))) σ F H (m.bind fun lo => m2.bind fun hi => rng2M lo hi) := fun F1 H1 g1 R q => by
  refine h F1 H1 g1 _ ?_
  cases m with
  | ok lo =>
    intro F2 H2 v g2 r
    cases r
    refine h2 F2 H2 (g1.tr g2) _ ?_
    cases m2 with
    | ok n =>
      intro F3 H3 v g3 r
      cases r
      have q' : Wp ce E H1 (rng2M lo n) (fun xs => ∀ F2 H2 J, Gr F1 H1 F2 H2 → Sq K F2 J xs → R J H2) := q
      unfold rng2M chk at q'
      by_cases hc : -(2 ^ 62) ≤ lo ∧ lo < 2 ^ 62 ∧ -(2 ^ 62) ≤ n ∧ n < 2 ^ 62
      · rw [if_pos hc] at q'
        exact ⟨lo, n, rfl, hc, q' F3 H3 _ (g2.tr g3) sq_rng⟩
      · rw [if_neg hc] at q'
        exact q'.elim
    | er c => exact fun H' e => q H' (g2.hh.tr e)
    | bad => exact q
  | er c => exact q
  | bad => exact q

/-! ### targets -/
/-- behind the target's store of what x is, from the slots σ0 -/
def Tg (K : PySem.W.Frag) {α : Type} [Rep α] (g : TG) (R : L2.St → Hp → L2.St → α → Prop) : Prop := ∀ σ0 F H v x, Ex F H → rp K F v x → ∀ Q : L2.St → Hp → Prop, (∀ σ2, R σ0 F σ2 x → Q σ2 H) → g v σ0 H Q
def RName (K : PySem.W.Frag) {α : Type} [Rep α] (i : Nat) : L2.St → Hp → L2.St → α → Prop := fun σ0 F σ2 x => ∃ v, σ2 = σ0.set i (some v) ∧ rp K F v x
def RTup2 (K : PySem.W.Frag) {α β : Type} [Rep α] [Rep β] (i j : Nat) : L2.St → Hp → L2.St → α × β → Prop := fun σ0 F σ2 x => ∃ u w, σ2 = (σ0.set i (some u)).set j (some w) ∧ rp K F u x.1 ∧ rp K F w x.2
def RTup3 (K : PySem.W.Frag) {α β γ : Type} [Rep α] [Rep β] [Rep γ] (i j l : Nat) : L2.St → Hp → L2.St → T3 α β γ → Prop := fun σ0 F σ2 x => ∃ u w z, σ2 = ((σ0.set i (some u)).set j (some w)).set l (some z) ∧ rp K F u x.a ∧ rp K F w x.b ∧ rp K F z x.c
theorem tg_name {i : Nat} : Tg K (α := α) (gName i) (RName K i) := fun σ0 F H v x e r Q q => q _ ⟨v, rfl, r⟩
theorem tg_tup2 {i j : Nat} : Tg K (α := α × β) (gTup K 2 (gCons (gName i) (gCons (gName j) gNil))) (RTup2 K i j) := fun σ0 F H v x e ⟨a, u, w, h1, h2, h3, h4⟩ Q q =>
  ⟨a, [u, w], h1, ex_t e h2, rfl, u, [w], rfl, w, [], rfl, rfl, q _ ⟨u, w, rfl, h3, h4⟩⟩
theorem tg_tup3 {i j l : Nat} : Tg K (α := T3 α β γ) (gTup K 3 (gCons (gName i) (gCons (gName j) (gCons (gName l) gNil)))) (RTup3 K i j l) := fun σ0 F H v x e ⟨a, u, w, z, h1, h2, h3, h4, h5⟩ Q q =>
  ⟨a, [u, w, z], h1, ex_t e h2, rfl, u, [w, z], rfl, w, [z], rfl, z, [], rfl, rfl, q _ ⟨u, w, z, rfl, h3, h4, h5⟩⟩
theorem set_set_ne {σ : L2.St} {i j : Nat} {a b : Option V} (h : i ≠ j) : (σ.set i a).set j b = (σ.set j b).set i a := List.set_comm _ _ h
theorem wipe1 {σ : L2.St} {i : Nat} {v : Option V} : wipe ((wipe σ [i]).set i v) [i] = wipe σ [i] := by
  show ((σ.set i none).set i v).set i none = σ.set i none
  rw [List.set_set, List.set_set]
theorem wipe2 {σ : L2.St} {i j : Nat} {v w : Option V} : wipe (((wipe σ [i, j]).set i v).set j w) [i, j] = wipe σ [i, j] := by
  show (((((σ.set j none).set i none).set i v).set j w).set j none).set i none = (σ.set j none).set i none
  apply List.ext_getElem?
  intro n
  simp only [List.getElem?_set, List.length_set]
  by_cases a : i = n
  · subst a; simp
  · by_cases b : j = n
    · subst b; simp [a]
    · simp [a, b]
theorem wipe3 {σ : L2.St} {i j l : Nat} {u v w : Option V} : wipe ((((wipe σ [i, j, l]).set i u).set j v).set l w) [i, j, l] = wipe σ [i, j, l] := by
  show ((((((((σ.set l none).set j none).set i none).set i u).set j v).set l w).set l none).set j none).set i none = ((σ.set l none).set j none).set i none
  apply List.ext_getElem?
  intro n
  simp only [List.getElem?_set, List.length_set]
  by_cases a : i = n
  · subst a; simp
  · by_cases b : j = n
    · subst b; simp [a]
    · by_cases c : l = n
      · subst c; simp [a, b]
      · simp [a, b, c]
/-- [e for x in xs if c] -/
theorem em_lc {vs : List Nat} {m : M (List α)} {c : α → M Bool} {e : α → M β} {R : L2.St → Hp → L2.St → α → Prop} (hi : EvI ce E K wi σ F H m) (hg : Tg K g R)
    (hw : ∀ F σ2 (x : α), R (wipe σ vs) F σ2 x → wipe σ2 vs = wipe σ vs)
    (hc : ∀ x F1 H1 σ2, Gr F H F1 H1 → R (wipe σ vs) F1 σ2 x → EvT ce E0 tt σ2 F1 H1 (c x)) (he : ∀ x F1 H1 σ2, Gr F H F1 H1 → R (wipe σ vs) F1 σ2 x → Ev ce E0 te σ2 F1 H1 (rv K) (e x)) :
    Ev ce E (tLc wi g tt te vs) σ F H (rn K) (m.bind fun xs => lcM c e xs) := fun F1 H1 g1 Q q => by
  refine hi F1 H1 g1 _ ?_
  cases m with
  | er c => exact q
  | bad => exact q
  | ok xs =>
    intro F2 H2 J g2 sq Dl nd
    have q' : Post ce (rn K) (lcM c e xs) F1 H1 Q E := q
    unfold lcM at q'
    have hlen : xs.length ≤ 16000000 := by
      by_cases hlen : xs.length ≤ 16000000
      · exact hlen
      · rw [if_neg hlen] at q'
        exact q'.elim
    rw [if_pos hlen] at q'
    have nf : F2 Dl = none := ex_back g2.fh nd
    have gD : Gr F2 H2 F2 (upd H2 Dl (.lst [])) := Gr.own g2.fh nd
    -- the word: done so far, and what is left
    refine ⟨fun i m H' => m = xs.length - i ∧ i ≤ xs.length ∧ ∃ F' acc ys, Gr F2 H2 F' H' ∧ F' Dl = none ∧ H' Dl = some (.lst acc) ∧ acc.length ≤ i ∧ Paired (rp K F') acc ys ∧
      Post ce (rn K) ((compM c e (xs.drop i)).bind fun zs => .ok (ys ++ zs)) F1 H1 Q E, ⟨xs.length, by omega, Nat.zero_le _, F2, [], [], gD, nf, upd_same, Nat.zero_le _, .nil, ?_⟩, ?_⟩
    · rw [List.drop_zero]
      have : (compM c e xs).bind (fun zs => M.ok ([] ++ zs)) = compM c e xs := by
        cases compM c e xs <;> rfl
      rw [this]
      exact q'
    · rintro i mm H3 ⟨rfl, hi3, F3, acc, ys, g3, nf3, h3, hl3, p3, q3⟩
      have e3 : Ex F2 H3 := g3.ff.tr g3.fh
      by_cases hlt : i < xs.length
      · obtain ⟨x, hx⟩ : ∃ x, xs[i]? = some x := ⟨xs[i], List.getElem?_eq_getElem hlt⟩
        obtain ⟨go, yl⟩ := (sq i H3 e3).1 x hx
        have hd : xs.drop i = x :: xs.drop (i + 1) := by
          rw [List.drop_eq_getElem_cons hlt]
          rw [List.getElem?_eq_getElem hlt] at hx
          cases hx
          rfl
        rw [hd] at q3
        refine .inr ⟨go, fun H' => ∃ F' acc ys, Gr F2 H2 F' H' ∧ F' Dl = none ∧ H' Dl = some (.lst acc) ∧ acc.length ≤ i + 1 ∧ Paired (rp K F') acc ys ∧
          Post ce (rn K) ((compM c e (xs.drop (i + 1))).bind fun zs => .ok (ys ++ zs)) F1 H1 Q E, fun H' h' => ⟨xs.length - (i + 1), by omega, rfl, hlt, h'⟩, fun v H4 hy => ?_⟩
        obtain ⟨F4, g4, r4⟩ := yl v H4 hy F3 g3.ff g3.fh
        have g24 := g3.tr g4
        have gF : Gr F H F4 H4 := (g1.tr g2).tr g24
        refine hg _ F4 H4 v x g4.fh r4 _ fun σ2 hr => ⟨hw F4 σ2 x hr, ?_⟩
        -- the test
        have nf4 : F4 Dl = none := g4.nw Dl nf3 (by rw [h3]; exact fun z => nomatch z)
        have h4 : H4 Dl = some (.lst acc) := g4.hh _ _ h3
        refine hc x F4 H4 σ2 gF hr F4 H4 (Gr.rf g4.fh) _ ?_
        cases qc : c x with
        | er cc => exact (by
            have q3' := q3
            unfold compM at q3'
            rw [qc] at q3'
            exact q3'.elim)
        | bad => exact (by
            have q3' := q3
            unfold compM at q3'
            rw [qc] at q3'
            exact q3'.elim)
        | ok b =>
          intro F5 H5 g5
          have nf5 : F5 Dl = none := g5.nw Dl nf4 (by rw [h4]; exact fun z => nomatch z)
          have h5 : H5 Dl = some (.lst acc) := g5.hh _ _ h4
          cases b with
          | false =>
            show ∃ F' acc ys, _
            refine ⟨F5, acc, ys, g24.tr g5, nf5, h5, by omega, paired_mo (g4.ff.tr g5.ff) p3, ?_⟩
            have q3' := q3
            unfold compM at q3'
            rw [qc] at q3'
            exact q3'
          | true =>
            show te σ2 H5 _
            refine he x F4 H4 σ2 gF hr F5 H5 g5 _ ?_
            cases qe : e x with
            | er cc => exact (by
                have q3' := q3
                unfold compM at q3'
                rw [qc, qe] at q3'
                exact q3'.elim)
            | bad => exact (by
                have q3' := q3
                unfold compM at q3'
                rw [qc, qe] at q3'
                exact q3'.elim)
            | ok y =>
              intro F6 H6 v6 g6 r6
              have nf6 : F6 Dl = none := g6.nw Dl nf5 (by rw [h5]; exact fun z => nomatch z)
              have h6 : H6 Dl = some (.lst acc) := g6.hh _ _ h5
              refine ⟨acc, h6, ?_, F6, acc ++ [v6], ys ++ [y], Gr.mut ((g24.tr g5).tr g6) nd nf6, nf6, upd_same, ?_, paired_app (paired_mo ((g4.ff.tr g5.ff).tr g6.ff) p3) (.cons r6 .nil), ?_⟩
              · rw [sizeLine_eq]; omega
              · rw [List.length_append]
                show acc.length + 1 ≤ i + 1
                omega
              · have q3' := q3
                unfold compM at q3'
                rw [qc, qe] at q3'
                have ea : ((compM c e (xs.drop (i + 1))).bind fun zs => M.ok ((ys ++ [y]) ++ zs)) = (((compM c e (xs.drop (i + 1))).bind fun ys' => M.ok (y :: ys')).bind fun zs => M.ok (ys ++ zs)) := by
                  cases compM c e (xs.drop (i + 1)) with
                  | ok zs => show M.ok _ = M.ok _; rw [List.append_assoc]; rfl
                  | er _ => rfl
                  | bad => rfl
                rw [ea]
                exact q3'
      · have ei : i = xs.length := by omega
        refine .inl ⟨(sq i H3 e3).2 (by omega), ?_⟩
        rw [ei, List.drop_length] at q3
        have q3' : Post ce (rn K) (.ok (ys ++ [])) F1 H1 Q E := q3
        rw [List.append_nil] at q3'
        exact q3' F3 H3 _ (g2.tr g3) ⟨Dl, acc, rfl, ex_back g2.hh nd, nf3, h3, p3⟩
end
end Mw

set_option Elab.async false
set_option linter.all false
set_option maxRecDepth 100000
set_option maxHeartbeats 2000000
/-! Mw, part E: statements. -/
namespace Mw
open PySem L2
open Rep (rp)
/-! ### one's own lists lent out, and taken back -/
def fz (F H : Hp) (A : List Addr) : Hp := fun b => if b ∈ A then H b else F b
def th (F : Hp) (A : List Addr) : Hp := fun b => if b ∈ A then none else F b
theorem fz_ex {F H : Hp} {A : List Addr} (h : Ex F H) : Ex F (fz F H A) := fun a o e => by
  unfold fz
  split
  · exact h a o e
  · exact e
theorem fz_h {F H : Hp} {A : List Addr} (h : Ex F H) : Ex (fz F H A) H := fun a o e => by
  unfold fz at e
  split at e
  · exact e
  · exact h a o e
theorem fz_at {F H : Hp} {A : List Addr} {p : Addr} {o : HO} (m : p ∈ A) (h : H p = some o) : fz F H A p = some o := by
  unfold fz
  rw [if_pos m]
  exact h
theorem th_at {F : Hp} {A : List Addr} {p : Addr} (m : p ∈ A) : th F A p = none := by
  unfold th
  rw [if_pos m]
/-- the run went on from what was lent; now it is one's own again -/
theorem gr_th {F H F1 H1 : Hp} {A : List Addr} (hF : ∀ p ∈ A, F p = none) (hA : ∀ p ∈ A, H p ≠ none) (e : Ex F H) (g : Gr (fz F H A) H F1 H1) : Gr F H (th F1 A) H1 where
  ff := fun a o h => by
    have : a ∉ A := fun m => by rw [hF a m] at h; cases h
    unfold th
    rw [if_neg this]
    exact g.ff a o (fz_ex e a o h)
  fh := fun a o h => by
    unfold th at h
    split at h
    · cases h
    · exact g.fh a o h
  hh := g.hh
  nw := fun b h1 h2 => by
    unfold th
    split
    · rfl
    · rename_i hb
      refine g.nw b ?_ h2
      unfold fz
      rw [if_neg hb]
      exact h1
theorem th_tup {F : Hp} {A : List Addr} (h : ∀ p ∈ A, ∀ xs, ¬ Rd F p (.tup xs)) : TupEx F (th F A) := fun a xs r => by
  have : a ∉ A := fun m => h a m xs r
  rcases r with r | ⟨o, r⟩
  · refine .inl ?_
    unfold th
    rw [if_neg this]
    exact r
  · refine .inr ⟨o, ?_⟩
    unfold th
    rw [if_neg this]
    exact r
/-- no tuple -/
def NoTup (o : HO) : Prop := (∀ xs, o ≠ .tup xs) ∧ ∀ u xs, o ≠ .frz u (.tup xs)
/-- data that stand for one object -/
class Obj (T : Type) [Rep T] where
  ho : PySem.W.Frag → Hp → HO → T → Prop
  mo : ∀ {K : PySem.W.Frag} {H H' : Hp} {o : HO} {x : T}, Ex H H' → ho K H o x → ho K H' o x
  rep : ∀ {K : PySem.W.Frag} {H : Hp} {p : Addr} {o : HO} {x : T}, H p = some o → ho K H o x → rp K H (.ref p) x
  nt : ∀ {K : PySem.W.Frag} {H : Hp} {o : HO} {x : T}, ho K H o x → NoTup o
instance {α : Type} [Rep α] : Obj (List α) where
  ho := fun K H o x => ∃ vs, o = .lst vs ∧ Paired (rp K H) vs x
  mo := fun e ⟨vs, h1, h2⟩ => ⟨vs, h1, paired_mo e h2⟩
  rep := fun {K H p o x} e ⟨vs, h1, h2⟩ => by subst h1; exact ⟨p, vs, rfl, e, h2⟩
  nt := fun {K H o x} ⟨vs, h1, _⟩ => by subst h1; exact ⟨(fun _ z => nomatch z), (fun _ _ z => nomatch z)⟩
/-- p is one's own, an object that stands for x -/
structure Own (K : PySem.W.Frag) {T : Type} [Rep T] [Obj T] (F H : Hp) (p : Addr) (x : T) : Prop where
  h : ∃ o, H p = some o ∧ Obj.ho K F o x
  f : F p = none
theorem th_of {F H F1 H1 : Hp} {A : List Addr} (hA : ∀ p ∈ A, ∃ o, H p = some o ∧ NoTup o) (g : Gr (fz F H A) H F1 H1) : TupEx F1 (th F1 A) := th_tup fun p m xs r' => by
  obtain ⟨o, e, n1, n2⟩ := hA p m
  have e1 : F1 p = some o := g.ff _ _ (fz_at m e)
  rcases r' with r' | ⟨u, r'⟩
  · rw [e1] at r'
    exact n1 xs (Option.some.inj r')
  · rw [e1] at r'
    exact n2 u xs (Option.some.inj r')
section
variable {ρ α β γ δ S τ : Type} [Rep α] [Rep β] [Rep γ] [Rep δ] {ce : Ce} {E : XK} {K : PySem.W.Frag} {σ : L2.St} {F H F' H' F0 H0 : Hp} {te ta tb tc td : TE} {tt tu : TT} {md : Md ρ} {m : M ρ} {D : Ends} {ts tw : TS} {g : TG} {wi : TI} {P : τ → Prop}
variable {T : Type} [Rep T] [Obj T]
theorem Own.mo {p : Addr} {x : T} (o : Own K F H p x) (g : Gr F H F' H') : Own K F' H' p x := by
  obtain ⟨⟨u, h1, h2⟩, h3⟩ := o
  exact ⟨⟨u, g.hh _ _ h1, Obj.mo g.ff h2⟩, g.nw p h3 (by rw [h1]; exact fun z => nomatch z)⟩
theorem Own.ne {p : Addr} {x : T} (o : Own K F H p x) : H p ≠ none := by
  obtain ⟨⟨u, h1, h2⟩, h3⟩ := o
  rw [h1]; exact fun z => nomatch z
theorem Own.upd {p q : Addr} {x : T} {u : HO} (o : Own K F H p x) (h : p ≠ q) : Own K F (upd H q u) p x := by
  obtain ⟨⟨w, h1, h2⟩, h3⟩ := o
  exact ⟨⟨w, by rw [upd_ne h]; exact h1, h2⟩, h3⟩
theorem Own.lent {p : Addr} {x : T} {A : List Addr} (o : Own K F H p x) (e : Ex F H) (m : p ∈ A) : rp K (fz F H A) (.ref p) x := by
  obtain ⟨⟨u, h1, h2⟩, h3⟩ := o
  exact Obj.rep (fz_at m h1) (Obj.mo (fz_ex e) h2)
theorem own_new {p : Addr} {vs : List V} {xs : List α} (h1 : F p = none) (h2 : H p = some (.lst vs)) (h3 : Paired (rp K F) vs xs) : Own K F H p xs := ⟨⟨_, h2, vs, rfl, h3⟩, h1⟩
theorem Own.lst {p : Addr} {xs : List α} (o : Own K F H p xs) : ∃ vs, H p = some (.lst vs) ∧ Paired (rp K F) vs xs := by
  obtain ⟨⟨u, h1, vs, h2, h3⟩, _⟩ := o
  subst h2
  exact ⟨vs, h1, h3⟩

/-! ### statements -/
theorem s_seq {t1 t2 : TS} (h : t1 { D with nx := t2 D } σ H) : tSeq t1 t2 D σ H := h
theorem Ev.go {m1 : M α} {k : α → M τ} {Q' : VK} (h : Ev ce E ta σ F H (rv K) m1) (G : Gr F0 H0 F H) (q : Wp ce E H0 (m1.bind k) P)
    (c : ∀ x F1 H1 v, Gr F H F1 H1 → rp K F1 v x → Wp ce E H0 (k x) P → Q' v H1) : ta σ H Q' := by
  refine h F H (Gr.rf G.fh) Q' ?_
  cases m1 with
  | ok x => exact fun F1 H1 v g r => c x F1 H1 v g r q
  | er cc => exact fun H' e => q H' (G.hh.tr e)
  | bad => exact q
theorem Ev.goN {m1 : M (List α)} {k : List α → M τ} {Q' : VK} (h : Ev ce E ta σ F H (rn K) m1) (G : Gr F0 H0 F H) (q : Wp ce E H0 (m1.bind k) P)
    (c : ∀ x F1 H1 p, Gr F H F1 H1 → H p = none → Own K F1 H1 p x → Wp ce E H0 (k x) P → Q' (.ref p) H1) : ta σ H Q' := by
  refine h F H (Gr.rf G.fh) Q' ?_
  cases m1 with
  | ok x =>
    rintro F1 H1 v g ⟨p, vs, rfl, h1, h2, h3, h4⟩
    exact c x F1 H1 p g h1 (own_new h2 h3 h4) q
  | er cc => exact fun H' e => q H' (G.hh.tr e)
  | bad => exact q
theorem EvT.go {m1 : M Bool} {k : Bool → M τ} {Q' : Bool → Hp → Prop} (h : EvT ce E tt σ F H m1) (G : Gr F0 H0 F H) (q : Wp ce E H0 (m1.bind k) P)
    (c : ∀ x F1 H1, Gr F H F1 H1 → Wp ce E H0 (k x) P → Q' x H1) : tt σ H Q' := by
  refine h F H (Gr.rf G.fh) Q' ?_
  cases m1 with
  | ok x => exact fun F1 H1 g => c x F1 H1 g q
  | er cc => exact fun H' e => q H' (G.hh.tr e)
  | bad => exact q
/-- x = e -/
theorem s_asg {i : Nat} {m1 : M α} {k : α → M τ} (G : Gr F0 H0 F H) (q : Wp ce E H0 (m1.bind k) P) (h : Ev ce E te σ F H (rv K) m1)
    (c : ∀ x F1 H1 v, Gr F H F1 H1 → rp K F1 v x → Wp ce E H0 (k x) P → D.nx (σ.set i (some v)) H1) : tAsg te (gName i) D σ H := h.go G q fun x F1 H1 v g r w => c x F1 H1 v g r w
/-- x = a new list of one's own -/
theorem s_asgN {i : Nat} {m1 : M (List α)} {k : List α → M τ} (G : Gr F0 H0 F H) (q : Wp ce E H0 (m1.bind k) P) (h : Ev ce E te σ F H (rn K) m1)
    (c : ∀ x F1 H1 p, Gr F H F1 H1 → H p = none → Own K F1 H1 p x → Wp ce E H0 (k x) P → D.nx (σ.set i (some (.ref p))) H1) : tAsg te (gName i) D σ H := h.goN G q fun x F1 H1 p g n o w => c x F1 H1 p g n o w
/-- x = e, where e reads lists of one's own -/
theorem s_asgA (A : List Addr) {i : Nat} {m1 : M α} {k : α → M τ} [Flat α] (G : Gr F0 H0 F H) (q : Wp ce E H0 (m1.bind k) P) (hF : ∀ p ∈ A, F p = none) (hA : ∀ p ∈ A, ∃ o, H p = some o ∧ NoTup o) (h0 : ∀ p ∈ A, H0 p = none)
    (h : Ev ce E te σ (fz F H A) H (rv K) m1) (c : ∀ x F1 H1 v, Gr F H F1 H1 → rp K F1 v x → Wp ce E H0 (k x) P → D.nx (σ.set i (some v)) H1) : tAsg te (gName i) D σ H := by
  refine h _ H (Gr.rf (fz_h G.fh)) _ ?_
  have hA' : ∀ p ∈ A, H p ≠ none := fun p m => by obtain ⟨o, e, _⟩ := hA p m; rw [e]; exact fun z => nomatch z
  cases m1 with
  | ok x =>
    intro F1 H1 v g r
    exact c x (th F1 A) H1 v (gr_th hF hA' G.fh g) (Flat.fl (th_of hA g) r) q
  | er cc => exact fun H' e => q H' (G.hh.tr e)
  | bad => exact q
/-- if, where the test reads lists of one's own -/
theorem s_ifA (A : List Addr) {m1 : M Bool} {k : Bool → M τ} (G : Gr F0 H0 F H) (q : Wp ce E H0 (m1.bind k) P) (hF : ∀ p ∈ A, F p = none) (hA : ∀ p ∈ A, ∃ o, H p = some o ∧ NoTup o)
    (h : EvT ce E tt σ (fz F H A) H m1) (h1 : ∀ F1 H1, Gr F H F1 H1 → Wp ce E H0 (k true) P → ts D σ H1) (h2 : ∀ F1 H1, Gr F H F1 H1 → Wp ce E H0 (k false) P → tw D σ H1) : tIfS tt ts tw D σ H := by
  refine h _ H (Gr.rf (fz_h G.fh)) _ ?_
  have hA' : ∀ p ∈ A, H p ≠ none := fun p m => by obtain ⟨o, e, _⟩ := hA p m; rw [e]; exact fun z => nomatch z
  cases m1 with
  | ok b =>
    intro F1 H1 g
    cases b with
    | true => exact h1 _ H1 (gr_th hF hA' G.fh g) q
    | false => exact h2 _ H1 (gr_th hF hA' G.fh g) q
  | er cc => exact fun H' e => q H' (G.hh.tr e)
  | bad => exact q
theorem s_if {m1 : M Bool} {k : Bool → M τ} (G : Gr F0 H0 F H) (q : Wp ce E H0 (m1.bind k) P) (h : EvT ce E tt σ F H m1)
    (h1 : ∀ F1 H1, Gr F H F1 H1 → Wp ce E H0 (k true) P → ts D σ H1) (h2 : ∀ F1 H1, Gr F H F1 H1 → Wp ce E H0 (k false) P → tw D σ H1) : tIfS tt ts tw D σ H :=
  h.go G q fun b F1 H1 g w => by
    cases b with
    | true => exact h1 F1 H1 g w
    | false => exact h2 F1 H1 g w
/-- what follows is shown once -/
theorem s_cut {t : TS} (I : L2.St → Hp → Prop) (h1 : ∀ σ1 H1, I σ1 H1 → D.nx σ1 H1) (h2 : (∀ σ1 H1, I σ1 H1 → D.nx σ1 H1) → t D σ H) : t D σ H := h2 h1
/-- return e -/
theorem s_ret {m1 : M ρ} {k : ρ → M τ} [Rep ρ] (G : Gr F0 H0 F H) (q : Wp ce E H0 (m1.bind k) P) (h : Ev ce E te σ F H (rv K) m1)
    (hD : ∀ r F1 H1 v, Gr F0 H0 F1 H1 → rp K F1 v r → Wp ce E H0 (k r) P → D.rt v H1) : tRet te D σ H := h.go G q fun x F1 H1 v g r w => hD x F1 H1 v (G.tr g) r w
theorem s_retN {m1 : M (List α)} {k : List α → M τ} (G : Gr F0 H0 F H) (q : Wp ce E H0 (m1.bind k) P) (h : Ev ce E te σ F H (rn K) m1)
    (hD : ∀ r F1 H1 v, Gr F0 H0 F1 H1 → rn K F0 H0 F1 H1 v r → Wp ce E H0 (k r) P → D.rt v H1) : tRet te D σ H := h.goN G q fun x F1 H1 p g n o w => by
  obtain ⟨vs, h1, h2⟩ := o.lst
  exact hD x F1 H1 _ (G.tr g) ⟨p, vs, rfl, ex_back G.hh n, o.f, h1, h2⟩ w
theorem s_ret0 {m1 : M τ} [Rep τ] (G : Gr F0 H0 F H) (q : Wp ce E H0 m1 P) (h : Ev ce E te σ F H (rv K) m1) (hD : ∀ r F1 H1 v, Gr F0 H0 F1 H1 → rp K F1 v r → P r → D.rt v H1) : tRet te D σ H := by
  refine h F H (Gr.rf G.fh) _ ?_
  cases m1 with
  | ok x => exact fun F1 H1 v g r => hD x F1 H1 v (G.tr g) r q
  | er cc => exact fun H' e => q H' (G.hh.tr e)
  | bad => exact q
theorem s_retN0 {m1 : M (List α)} {P : List α → Prop} (G : Gr F0 H0 F H) (q : Wp ce E H0 m1 P) (h : Ev ce E te σ F H (rn K) m1) (hD : ∀ r F1 H1 v, Gr F0 H0 F1 H1 → rn K F0 H0 F1 H1 v r → P r → D.rt v H1) : tRet te D σ H := by
  refine h F H (Gr.rf G.fh) _ ?_
  cases m1 with
  | ok x =>
    intro F1 H1 v g r
    exact hD x F1 H1 v (G.tr g) (MdMo.mo G r) q
  | er cc => exact fun H' e => q H' (G.hh.tr e)
  | bad => exact q
/-- the lent heap is reached from the entry, too -/
theorem gr_fz {A : List Addr} (G : Gr F0 H0 F H) (h0 : ∀ p ∈ A, H0 p = none) : Gr F0 H0 (fz F H A) H :=
  ⟨G.ff.tr (fz_ex G.fh), fz_h G.fh, G.hh, fun b h1 h2 => by
    unfold fz
    split
    · rename_i hm
      exact absurd (h0 b hm) h2
    · exact G.nw b h1 h2⟩
/-- return p, a list of one's own -/
theorem rn_own {p : Addr} {xs : List α} (o : Own K F H p xs) (h0 : H0 p = none) : rn K F0 H0 F H (.ref p) xs := by
  obtain ⟨vs, h1, h2⟩ := o.lst
  exact ⟨p, vs, rfl, h0, o.f, h1, h2⟩
/-- e, alone -/
theorem s_drop {m1 : M α} {k : α → M τ} (G : Gr F0 H0 F H) (q : Wp ce E H0 (m1.bind k) P) (h : Ev ce E te σ F H (rv K) m1)
    (c : ∀ x F1 H1, Gr F H F1 H1 → Wp ce E H0 (k x) P → D.nx σ H1) : tDrop te D σ H := h.go G q fun x F1 H1 v g r w => c x F1 H1 g w
theorem s_raise {c : Err} {cls : Value} (G : Gr F0 H0 F H) (q : Wp ce E H0 (.er c : M τ) P) (hc : cls = .ref (ce c.name)) : E cls none H := by
  subst hc
  exact q H G.hh
/-! ### one's own lists change -/
noncomputable def appM {α : Type} (xs : List α) (x : α) : M (List α) := chk (xs.length < 16000000) (xs ++ [x])
/-- xs.append(e) -/
theorem s_app {i : Nat} {p : Addr} {xs : List α} {m1 : M α} {k : List α → M τ} (hp : σ[i]? = some (some (.ref p))) (o : Own K F H p xs) (n0 : H0 p = none) (G : Gr F0 H0 F H)
    (q : Wp ce E H0 (m1.bind fun x => (appM xs x).bind k) P) (h : Ev ce E te σ F H (rv K) m1)
    (c : ∀ ys F1 H1, Ex F F1 → Gr F0 H0 F1 H1 → Own K F1 H1 p ys → (∀ (T : Type) [Rep T] [Obj T] (q : Addr) (z : T), q ≠ p → Own K F H q z → Own K F1 H1 q z) → Wp ce E H0 (k ys) P → D.nx σ H1) :
    tDrop (tBM K "list" rAppend (tVar i) (tCons te tNil)) D σ H := by
  obtain ⟨vs, h1, h2⟩ := o.lst
  have h3 := o.f
  refine ⟨.ref p, hp, .inl ⟨rfl, vs, SqL.of h1⟩, h.go G q fun x F1 H1 v g r w => ?_⟩
  have w' : Wp ce E H0 ((appM xs x).bind k) P := w
  unfold appM chk at w'
  split at w'
  · rename_i hl
    refine ⟨p, vs, v, rfl, rfl, g.hh _ _ h1, ?_, ?_⟩
    · rw [Paired.length h2, sizeLine_eq]; omega
    · have hf1 : F1 p = none := g.nw p h3 (by rw [h1]; exact fun z => nomatch z)
      exact c (xs ++ [x]) F1 _ g.ff (Gr.mut (G.tr g) n0 hf1) (own_new hf1 upd_same (paired_app (paired_mo g.ff h2) (.cons r .nil))) (fun T _ _ q z hq o => (o.mo g).upd hq) w'
  · exact w'.elim
/-- xs.append(e), e reads lists of one's own -/
theorem s_appA (A : List Addr) {i : Nat} {p : Addr} {xs : List α} {m1 : M α} {k : List α → M τ} [Flat α] (hp : σ[i]? = some (some (.ref p))) (o : Own K F H p xs) (n0 : H0 p = none) (G : Gr F0 H0 F H)
    (q : Wp ce E H0 (m1.bind fun x => (appM xs x).bind k) P) (hF : ∀ p ∈ A, F p = none) (hA : ∀ p ∈ A, ∃ o, H p = some o ∧ NoTup o) (h : Ev ce E te σ (fz F H A) H (rv K) m1)
    (c : ∀ ys F1 H1, Ex F F1 → Gr F0 H0 F1 H1 → Own K F1 H1 p ys → (∀ (T : Type) [Rep T] [Obj T] (q : Addr) (z : T), q ≠ p → Own K F H q z → Own K F1 H1 q z) → Wp ce E H0 (k ys) P → D.nx σ H1) :
    tDrop (tBM K "list" rAppend (tVar i) (tCons te tNil)) D σ H := by
  obtain ⟨vs, h1, h2⟩ := o.lst
  have h3 := o.f
  refine ⟨.ref p, hp, .inl ⟨rfl, vs, SqL.of h1⟩, ?_⟩
  have hA' : ∀ p ∈ A, H p ≠ none := fun p m => by obtain ⟨o, e, _⟩ := hA p m; rw [e]; exact fun z => nomatch z
  refine h _ H (Gr.rf (fz_h G.fh)) _ ?_
  cases m1 with
  | ok x =>
    intro F1 H1 v g0 r0
    have g := gr_th hF hA' G.fh g0
    have r : rp K (th F1 A) v x := Flat.fl (th_of hA g0) r0
    have w' : Wp ce E H0 ((appM xs x).bind k) P := q
    unfold appM chk at w'
    split at w'
    · rename_i hl
      refine ⟨p, vs, v, rfl, rfl, g.hh _ _ h1, ?_, ?_⟩
      · rw [Paired.length h2, sizeLine_eq]; omega
      · have hf1 : th F1 A p = none := g.nw p h3 (by rw [h1]; exact fun z => nomatch z)
        exact c (xs ++ [x]) _ _ g.ff (Gr.mut (G.tr g) n0 hf1) (own_new hf1 upd_same (paired_app (paired_mo g.ff h2) (.cons r .nil))) (fun T _ _ q z hq o => (o.mo g).upd hq) w'
    · exact w'.elim
  | er cc => exact fun H' e => q H' (G.hh.tr e)
  | bad => exact q
/-! ### loops -/
theorem s_for {f : α → S → M (Ctl S τ)} {k : S → M τ} {s0 : S} {m : M (List α)} {R : L2.St → Hp → L2.St → α → Prop} (I : S → Hp → Hp → L2.St → Prop) (G : Gr F0 H0 F H) (hi : EvI ce E K wi σ F H m) (hg : Tg K g R)
    (q : Wp ce E H0 (m.bind fun xs => forM f k xs s0) P) (h0 : ∀ F1 H1, Gr F H F1 H1 → I s0 F1 H1 σ) (hG : ∀ s F' H' σ', I s F' H' σ' → Gr F0 H0 F' H')
    (turn : ∀ x s F1 H1 σ1, I s F1 H1 σ1 → ∀ F2 H2 σ2, Gr F1 H1 F2 H2 → R σ1 F2 σ2 x → ∀ (D' : Ends) (P' : Ctl S τ → Prop), D'.rt = D.rt →
      (∀ s', P' (.nx s') → ∀ F3 H3 σ3, Ex F2 F3 → I s' F3 H3 σ3 → D'.nx σ3 H3) → (∀ s', P' (.nx s') → ∀ F3 H3 σ3, Ex F2 F3 → I s' F3 H3 σ3 → D'.ct σ3 H3) →
      (∀ s', P' (.br s') → ∀ F3 H3 σ3, Ex F2 F3 → I s' F3 H3 σ3 → D'.bk σ3 H3) → (∀ r, P' (.rt r) → P r) → Wp ce E H0 (f x s) P' → ts D' σ2 H2)
    (after : ∀ s F1 H1 σ1, Ex F F1 → I s F1 H1 σ1 → Wp ce E H0 (k s) P → D.nx σ1 H1) : tFor wi g ts D σ H := by
  refine hi F H (Gr.rf G.fh) _ ?_
  cases m with
  | er c => exact fun H' e => q H' (G.hh.tr e)
  | bad => exact q
  | ok xs =>
    intro F2 H2 J g2 sq
    have q' : Wp ce E H0 (forM f k xs s0) P := q
    refine ⟨fun i m σ' H' => m = xs.length - i ∧ i ≤ xs.length ∧ ∃ s F', Ex F2 F' ∧ I s F' H' σ' ∧ Wp ce E H0 (forM f k (xs.drop i) s) P, ⟨xs.length, by omega, Nat.zero_le _, s0, F2, Ex.rf _, h0 F2 H2 g2, q'⟩, ?_⟩
    rintro i mm σ' H' ⟨rfl, hi', s, F', f2, I', q2⟩
    have G' := hG s F' H' σ' I'
    by_cases hlt : i < xs.length
    · obtain ⟨x, hx⟩ : ∃ x, xs[i]? = some x := ⟨xs[i], List.getElem?_eq_getElem hlt⟩
      have hd : xs.drop i = x :: xs.drop (i + 1) := by
        rw [List.drop_eq_getElem_cons hlt]
        rw [List.getElem?_eq_getElem hlt] at hx
        cases hx
        rfl
      rw [hd, forM_cons] at q2
      obtain ⟨go, yl⟩ := (sq i H' (f2.tr G'.fh)).1 x hx
      refine .inr ⟨go, fun σ' H' => ∃ s F', Ex F2 F' ∧ I s F' H' σ' ∧ Wp ce E H0 (forM f k (xs.drop (i + 1)) s) P, fun σ' H' h => ⟨xs.length - (i + 1), by omega, rfl, hlt, h⟩, fun v H3 hy => ?_⟩
      obtain ⟨F3, g3, r3⟩ := yl v H3 hy F' f2 G'.fh
      refine hg σ' F3 H3 v x g3.fh r3 _ fun σ2 hr => ?_
      refine turn x s F' H' σ' I' F3 H3 σ2 g3 hr _ (fun c => match c with
        | .nx s' => Wp ce E H0 (forM f k (xs.drop (i + 1)) s') P
        | .br s' => Wp ce E H0 (k s') P
        | .rt r => P r) rfl (fun s' p F4 H4 σ4 f4 I4 => ⟨s', F4, (f2.tr g3.ff).tr f4, I4, p⟩) (fun s' p F4 H4 σ4 f4 I4 => ⟨s', F4, (f2.tr g3.ff).tr f4, I4, p⟩)
        (fun s' p F4 H4 σ4 f4 I4 => after s' F4 H4 σ4 (g2.ff.tr ((f2.tr g3.ff).tr f4)) I4 p) (fun r p => p) ?_
      cases qf : f x s with
      | ok c =>
        rw [qf] at q2
        cases c with
        | nx s' => exact q2
        | br s' => exact q2
        | rt r => exact q2
      | er c => rw [qf] at q2; exact q2
      | bad => rw [qf] at q2; exact q2
    · have ei : i = xs.length := by omega
      rw [ei, List.drop_length] at q2
      exact .inl ⟨(sq i H' (f2.tr G'.fh)).2 (by omega), after s F' H' σ' (g2.ff.tr f2) I' q2⟩
theorem s_while {c : S → M Bool} {f : S → M (Ctl S τ)} {k : S → M τ} {s0 : S} {n : Nat} (I : S → Hp → Hp → L2.St → Prop) (h0 : I s0 F H σ) (hG : ∀ s F' H' σ', I s F' H' σ' → Gr F0 H0 F' H')
    (q : Wp ce E H0 (whM c f k n s0) P) (hc : ∀ s F1 H1 σ1, I s F1 H1 σ1 → EvT ce E tt σ1 F1 H1 (c s)) (hI : ∀ s F1 H1 F2 H2 σ1, I s F1 H1 σ1 → Gr F1 H1 F2 H2 → I s F2 H2 σ1)
    (turn : ∀ s F1 H1 σ1, I s F1 H1 σ1 → ∀ (D' : Ends) (P' : Ctl S τ → Prop), D'.rt = D.rt →
      (∀ s', P' (.nx s') → ∀ F3 H3 σ3, I s' F3 H3 σ3 → D'.nx σ3 H3) → (∀ s', P' (.nx s') → ∀ F3 H3 σ3, I s' F3 H3 σ3 → D'.ct σ3 H3) →
      (∀ s', P' (.br s') → ∀ F3 H3 σ3, I s' F3 H3 σ3 → D'.bk σ3 H3) → (∀ r, P' (.rt r) → P r) → Wp ce E H0 (f s) P' → ts D' σ1 H1)
    (after : ∀ s F1 H1 σ1, I s F1 H1 σ1 → Wp ce E H0 (k s) P → D.nx σ1 H1) : tWhile tt ts D σ H := by
  refine ⟨fun m σ' H' => ∃ s F', I s F' H' σ' ∧ Wp ce E H0 (whM c f k m s) P, ⟨n, s0, F, h0, q⟩, ?_⟩
  rintro m σ' H' ⟨s, F', I', q'⟩
  have G' := hG s F' H' σ' I'
  cases m with
  | zero => exact False.elim q'
  | succ m =>
    unfold whM at q'
    refine (hc s F' H' σ' I').go G' q' fun b F1 H1 g w => ?_
    have I1 := hI s F' H' F1 H1 σ' I' g
    cases b with
    | false => exact after s F1 H1 σ' I1 w
    | true =>
      refine ⟨fun σ' H' => ∃ s F', I s F' H' σ' ∧ Wp ce E H0 (whM c f k m s) P, fun σ' H' h => ⟨m, Nat.lt_succ_self m, h⟩, ?_⟩
      refine turn s F1 H1 σ' I1 _ (fun c' => match c' with
        | .nx s' => Wp ce E H0 (whM c f k m s') P
        | .br s' => Wp ce E H0 (k s') P
        | .rt r => P r) rfl (fun s' p F4 H4 σ4 I4 => ⟨s', F4, I4, p⟩) (fun s' p F4 H4 σ4 I4 => ⟨s', F4, I4, p⟩) (fun s' p F4 H4 σ4 I4 => after s' F4 H4 σ4 I4 p) (fun r p => p) ?_
      have w' : Wp ce E H0 ((f s).bind fun z => match z with
        | .nx s' => whM c f k m s'
        | .br s' => k s'
        | .rt r => .ok r) P := w
      cases qf : f s with
      | ok z =>
        rw [qf] at w'
        cases z with
        | nx s' => exact w'
        | br s' => exact w'
        | rt r => exact w'
      | er c => rw [qf] at w'; exact w'
      | bad => rw [qf] at w'; exact w'
end
/-! ### defs -/
def SpF (ce : Ce) {α ρ : Type} (R : Hp → List V → α → Prop) (md : Md ρ) (f : α → M ρ) : Sp := fun vs H Q E => ∃ F x, Ex F H ∧ R F vs x ∧ Post ce md (f x) F H Q E
theorem spa {ce : Ce} {α ρ : Type} {R : Hp → List V → α → Prop} {md : Md ρ} {f : α → M ρ} (x : α) : SpA ce R (SpF ce R md f) md x (f x) := fun F1 H1 vs e r Q E q => ⟨F1, x, e, r, q⟩
end Mw

set_option Elab.async false
set_option linter.all false
set_option maxRecDepth 100000
set_option maxHeartbeats 2000000
/-! Mw, part F: calls of defs that raise nothing, isinstance, what else the printed walks use. -/
namespace Mw
open PySem L2
open Rep (rp)
@[simp] theorem bind_assoc {α β γ : Type} (m : M α) (f : α → M β) (g : β → M γ) : (m.bind f).bind g = m.bind fun x => (f x).bind g := by cases m <;> rfl
theorem wp_bind {τ α : Type} {ce : Ce} {E : XK} {H0 : Hp} {m : M α} {k : α → M τ} {P : τ → Prop} (h : Wp ce E H0 (m.bind k) P) : Wp ce E H0 m (fun x => Wp ce E H0 (k x) P) := by
  cases m with
  | ok x => exact h
  | er c => exact h
  | bad => exact h
/-- a def that raises nothing -/
def SpF0 (ce : Ce) {α ρ : Type} (R : Hp → List V → α → Prop) (md : Md ρ) (f : α → M ρ) : Sp := fun vs H Q _ => ∃ F x, Ex F H ∧ R F vs x ∧ Post ce md (f x) F H Q E0
theorem post_ne {ρ : Type} {ce : Ce} {md : Md ρ} {m : M ρ} {F H : Hp} {Q : VK} {E E' : XK} (h : Post ce md m.ne F H Q E) : Post ce md m F H Q E' := by
  cases m with
  | ok r => exact h
  | er c => exact h.elim
  | bad => exact h
section
variable {ρ α β γ δ W τ : Type} [Rep α] [Rep β] [Rep γ] [Rep δ] {ce : Ce} {E : XK} {K : PySem.W.Frag} {σ : L2.St} {F H F' H' F0 H0 : Hp} {te ta tb tc td : TE} {tt tu : TT} {md : Md ρ} {m : M ρ} {D : Ends} {ts tw : TS} {P : τ → Prop}
theorem e_call0 [MdMo md] {ta : TA} {x : α} {R : Hp → List V → α → Prop} {f : α → M ρ} (ha : EvAM ce E ta σ F H (.ok x) R) : Ev ce E (tCall (SpF0 ce R md f) [] E0 ta) σ F H md (f x).ne := fun F1 H1 g1 Q q =>
  ha F1 H1 g1 _ fun F2 H2 vs g2 r2 => by
    show SpF0 ce R md f (vs ++ []) H2 Q E0
    rw [List.append_nil]
    exact ⟨F2, x, g2.fh, r2, post_ne (Post.mo g2 q)⟩
theorem em_call0 [MdMo md] {ta : TA} {m1 : M α} {R : Hp → List V → α → Prop} {f : α → M ρ} (ha : EvAM ce E ta σ F H m1 R) : Ev ce E (tCall (SpF0 ce R md f) [] E0 ta) σ F H md (m1.bind fun x => (f x).ne) := fun F1 H1 g1 Q q => by
  refine ha F1 H1 g1 _ ?_
  cases m1 with
  | ok x =>
    intro F2 H2 vs g2 r2
    show SpF0 ce R md f (vs ++ []) H2 Q E0
    rw [List.append_nil]
    exact ⟨F2, x, g2.fh, r2, post_ne (Post.mo g2 q)⟩
  | er c => exact q
  | bad => exact q
theorem e_callX [MdMo md] {ta : TA} {x : α} {R : Hp → List V → α → Prop} {f : α → M ρ} (ha : EvAM ce E ta σ F H (.ok x) R) : Ev ce E (tCall (SpF ce R md f) [] E ta) σ F H md (f x) := e_call ha (spa x)
theorem em_callX [MdMo md] {ta : TA} {m1 : M α} {R : Hp → List V → α → Prop} {f : α → M ρ} (ha : EvAM ce E ta σ F H m1 R) : Ev ce E (tCall (SpF ce R md f) [] E ta) σ F H md (m1.bind fun x => f x) := em_call ha fun x => spa x
theorem e_some [NN α] {x : α} (h : Ev ce E te σ F H (rv K) (.ok x)) : Ev ce E te σ F H (rv K) (.ok (some x)) := em_some (m := .ok x) h
theorem e_neg' {x : Int} (ha : Ev ce E ta σ F H (rv K) (.ok x)) : Ev ce E (tUn (rU fun i => .int (-i)) ta) σ F H (rv K) (.ok (-x)) := e_neg ha
theorem em_neg {m1 : M Int} (ha : Ev ce E ta σ F H (rv K) m1) : Ev ce E (tUn (rU fun i => .int (-i)) ta) σ F H (rv K) (m1.bind fun x => .ok (-x)) := em_un ha fun x => o_neg
/-- x < y < z, plain -/
theorem e_chain {r r' : R2} {x : α} {y : β} {z : γ} {b b' : Bool} (ha : Ev ce E ta σ F H (rv K) (.ok x)) (hb : Ev ce E tb σ F H (rv K) (.ok y)) (hc : Ev ce E tc σ F H (rv K) (.ok z))
    (h : Op2 ce E K r (rv K) x y (.ok b)) (h' : Op2 ce E K r' (rv K) y z (.ok b')) : Ev ce E (tChain r r' ta tb tc) σ F H (rv K) (.ok (b && b')) := fun F1 H1 g1 Q q => by
  refine ha F1 H1 g1 _ fun F2 H2 vx g2 rx => hb F2 H2 (g1.tr g2) _ fun F3 H3 vy g3 ry => ?_
  refine h F3 H3 vx vy g3.fh (Rep.mo g3.ff rx) ry _ fun F4 H4 v4 g4 r4 => ⟨b, r4, ?_⟩
  cases b with
  | true => exact hc F4 H4 (((g1.tr g2).tr g3).tr g4) _ fun F5 H5 vz g5 rz => h' F5 H5 vy vz g5.fh (Rep.mo (g4.ff.tr g5.ff) ry) rz Q (Post.mo (m := .ok b') (((g2.tr g3).tr g4).tr g5) q)
  | false => exact q F4 H4 _ ((g2.tr g3).tr g4) rfl
theorem e_if {b : Bool} {x y : ρ} [MdMo md] (h : EvT ce E tt σ F H (.ok b)) (ha : Ev ce E ta σ F H md (.ok x)) (hb : Ev ce E tb σ F H md (.ok y)) : Ev ce E (tIf tt ta tb) σ F H md (.ok (if b then x else y)) := fun F1 H1 g1 Q q => by
  refine h F1 H1 g1 _ fun F2 H2 g2 => ?_
  cases b with
  | true => exact ha F2 H2 (g1.tr g2) _ (Post.mo (m := .ok x) g2 q)
  | false => exact hb F2 H2 (g1.tr g2) _ (Post.mo (m := .ok y) g2 q)
theorem e_tup2 {x : α} {y : β} (ha : Ev ce E ta σ F H (rv K) (.ok x)) (hb : Ev ce E tb σ F H (rv K) (.ok y)) : Ev ce E (tTup (tCons ta (tCons tb tNil))) σ F H (rv K) (.ok (x, y)) := em_tup2 (m1 := .ok x) (m2 := .ok y) ha hb
theorem e_tup3 {x : α} {y : β} {z : γ} (ha : Ev ce E ta σ F H (rv K) (.ok x)) (hb : Ev ce E tb σ F H (rv K) (.ok y)) (hc : Ev ce E tc σ F H (rv K) (.ok z)) : Ev ce E (tTup (tCons ta (tCons tb (tCons tc tNil)))) σ F H (rv K) (.ok (T3.mk x y z)) := em_tup3 (m1 := .ok x) (m2 := .ok y) (m3 := .ok z) ha hb hc
theorem e_lcons {tr : TA} {x : α} {y : List α} (ha : Ev ce E ta σ F H (rv K) (.ok x)) (hr : EvL ce E K tr σ F H (.ok y)) : EvL ce E K (tCons ta tr) σ F H (.ok (x :: y)) := el_cons (m1 := .ok x) (m2 := .ok y) ha hr
theorem e_lst {ta : TA} {x : List α} (ha : EvL ce E K ta σ F H (.ok x)) (hs : x.length ≤ 1000) : Ev ce E (tLst ta) σ F H (rn K) (.ok x) := em_lst ha fun y e => by cases e; exact hs
/-- a written list whose items are reckoned: its length is looked at -/
theorem em_lst' {ta : TA} {m : M (List α)} (ha : EvL ce E K ta σ F H m) : Ev ce E (tLst ta) σ F H (rn K) (m.bind fun x => chk (x.length ≤ 1000) x) := fun F1 H1 g1 Q q => by
  cases m with
  | ok x =>
    have q' : Post ce (rn K) (chk (x.length ≤ 1000) x) F1 H1 Q E := q
    unfold chk at q'
    by_cases hx : x.length ≤ 1000
    · rw [if_pos hx] at q'
      exact em_lst ha (fun y e => by cases e; exact hx) F1 H1 g1 Q q'
    · rw [if_neg hx] at q'
      exact q'.elim
  | er c => exact em_lst ha (fun y e => nomatch e) F1 H1 g1 Q q
  | bad => exact q.elim
theorem em_rev' {x : List α} (ha : Ev ce E ta σ F H (rv K) (.ok x)) : Ev ce E (tRevL K ta) σ F H (rn K) (.ok x.reverse) := em_rev (m1 := .ok x) ha
theorem e_sl {tl th : TO} {x : List α} {lo hi : Option Int} (ha : Ev ce E ta σ F H (rv K) (.ok x)) (hl : EvO ce E tl σ F H (.ok lo)) (hh : EvO ce E th σ F H (.ok hi)) : Ev ce E (tSl (rSlL K) ta tl th) σ F H (rn K) (.ok (cut x lo hi)) := em_sl (m1 := .ok x) (m2 := .ok lo) (m3 := .ok hi) ha hl hh
theorem e_slS {tl th : TO} {x : Scr} {lo hi : Option Int} (ha : Ev ce E ta σ F H (rv K) (.ok x)) (hl : EvO ce E tl σ F H (.ok lo)) (hh : EvO ce E th σ F H (.ok hi)) : Ev ce E (tSl (rSlL K) ta tl th) σ F H (rn K) (.ok (cut x.l lo hi)) := em_slS (m2 := .ok lo) (m3 := .ok hi) ha hl hh
/-! ### isinstance -/
class Ty (α : Type) [Rep α] where
  nm : String
  ty : ∀ {K : PySem.W.Frag} {F H : Hp} {v : V} {x : α}, Ex F H → rp K F v x → TyX K H v (.type nm)
instance : Ty Int := ⟨"int", fun {K F H v x} _ h => by cases h; exact .base (.int x)⟩
instance : Ty Bool := ⟨"bool", fun {K F H v x} _ h => by cases h; exact .base (.bl x)⟩
instance : Ty Str := ⟨"str", fun {K F H v x} _ h => by cases h; exact .base (.str x)⟩
instance : Ty Unit := ⟨"NoneType", fun {K F H v x} _ h => by cases h; exact .base .non⟩
instance : Ty (List α) := ⟨"list", fun {K F H v x} e ⟨a, vs, h1, h2, h3⟩ => by subst h1; exact .base (.lst (e _ _ h2))⟩
theorem tyx_tup {a : Addr} {xs : List V} (e : Ex F H) (h : SqT K F a xs) : TyX K H (.ref a) (.type "tuple") := by
  rcases h with (h | ⟨o, h⟩) | ⟨o, its, n, hk, hc, _⟩
  · exact .base (.tup (e _ _ h))
  · exact .fTuple (e _ _ h)
  · exact .kTuple hk hc
instance : Ty (α × β) := ⟨"tuple", fun {K F H v x} e ⟨a, u, w, h1, h2, _⟩ => by subst h1; exact tyx_tup e h2⟩
instance : Ty (T3 α β γ) := ⟨"tuple", fun {K F H v x} e ⟨a, u, w, z, h1, h2, _⟩ => by subst h1; exact tyx_tup e h2⟩
instance : Ty (T4 α β γ δ) := ⟨"tuple", fun {K F H v x} e ⟨a, u, w, z, y, h1, h2, _⟩ => by subst h1; exact tyx_tup e h2⟩
theorem e_isi [Ty α] {x : α} {n : String} {b : Bool} (ha : Ev ce E ta σ F H (rv K) (.ok x)) (hb : PySem.W.kitOne K (.type (Ty.nm α)) (.type n) = some b) : Ev ce E (tCB (rIsi K) (tCons ta (tCons (tC (.ty n)) tNil))) σ F H (rv K) (.ok b) := fun F1 H1 g1 Q q =>
  ha F1 H1 g1 _ fun F2 H2 v g2 r => ⟨v, .ty n, _, _, b, rfl, .ty n, Ty.ty g2.fh r, hb, q F2 H2 _ g2 rfl⟩
/-- isinstance(x, T) where x may be None -/
theorem e_isiO [Ty α] {x : Option α} {n : String} {b : Bool} (ha : Ev ce E ta σ F H (rv K) (.ok x)) (hn : PySem.W.kitOne K (.type "NoneType") (.type n) = some false) (hb : PySem.W.kitOne K (.type (Ty.nm α)) (.type n) = some b) :
    Ev ce E (tCB (rIsi K) (tCons ta (tCons (tC (.ty n)) tNil))) σ F H (rv K) (.ok (x.isSome && b)) := fun F1 H1 g1 Q q =>
  ha F1 H1 g1 _ fun F2 H2 v g2 r => by
    cases x with
    | none => cases r; exact ⟨_, .ty n, _, _, false, rfl, .ty n, .base .non, hn, q F2 H2 _ g2 rfl⟩
    | some y => exact ⟨v, .ty n, _, _, b, rfl, .ty n, Ty.ty g2.fh r.1, hb, q F2 H2 _ g2 rfl⟩
theorem em_isi [Ty α] {m : M α} {n : String} {b : Bool} (ha : Ev ce E ta σ F H (rv K) m) (hb : PySem.W.kitOne K (.type (Ty.nm α)) (.type n) = some b) : Ev ce E (tCB (rIsi K) (tCons ta (tCons (tC (.ty n)) tNil))) σ F H (rv K) (m.bind fun _ => .ok b) := fun F1 H1 g1 Q q => by
  refine ha F1 H1 g1 _ ?_
  cases m with
  | ok x => exact fun F2 H2 v g2 r => ⟨v, .ty n, _, _, b, rfl, .ty n, Ty.ty g2.fh r, hb, q F2 H2 _ g2 rfl⟩
  | er c => exact q
  | bad => exact q
theorem em_isiO [Ty α] {m : M (Option α)} {n : String} {b : Bool} (ha : Ev ce E ta σ F H (rv K) m) (hn : PySem.W.kitOne K (.type "NoneType") (.type n) = some false) (hb : PySem.W.kitOne K (.type (Ty.nm α)) (.type n) = some b) :
    Ev ce E (tCB (rIsi K) (tCons ta (tCons (tC (.ty n)) tNil))) σ F H (rv K) (m.bind fun x => .ok (x.isSome && b)) := fun F1 H1 g1 Q q => by
  refine ha F1 H1 g1 _ ?_
  cases m with
  | ok x =>
    intro F2 H2 v g2 r
    cases x with
    | none => cases r; exact ⟨_, .ty n, _, _, false, rfl, .ty n, .base .non, hn, q F2 H2 _ g2 rfl⟩
    | some y => exact ⟨v, .ty n, _, _, b, rfl, .ty n, Ty.ty g2.fh r.1, hb, q F2 H2 _ g2 rfl⟩
  | er c => exact q
  | bad => exact q
/-! ### ifs -/
theorem s_if2 {m1 : M Bool} {k1 k2 : M τ} (G : Gr F0 H0 F H) (q : Wp ce E H0 (m1.bind fun b => if b then k1 else k2) P) (h : EvT ce E tt σ F H m1)
    (h1 : ∀ F1 H1, Gr F H F1 H1 → Wp ce E H0 k1 P → ts D σ H1) (h2 : ∀ F1 H1, Gr F H F1 H1 → Wp ce E H0 k2 P → tw D σ H1) : tIfS tt ts tw D σ H := s_if G q h h1 h2
theorem s_if2A (A : List Addr) {m1 : M Bool} {k1 k2 : M τ} (G : Gr F0 H0 F H) (q : Wp ce E H0 (m1.bind fun b => if b then k1 else k2) P) (hF : ∀ p ∈ A, F p = none) (hA : ∀ p ∈ A, ∃ o, H p = some o ∧ NoTup o)
    (h : EvT ce E tt σ (fz F H A) H m1) (h1 : ∀ F1 H1, Gr F H F1 H1 → Wp ce E H0 k1 P → ts D σ H1) (h2 : ∀ F1 H1, Gr F H F1 H1 → Wp ce E H0 k2 P → tw D σ H1) : tIfS tt ts tw D σ H := s_ifA A G q hF hA h h1 h2
theorem s_join {t : TS} {m1 : M W} {k : W → M τ} (J : W → Hp → Hp → L2.St → Prop) (q : Wp ce E H0 (m1.bind k) P)
    (h1 : ∀ w F1 H1 σ1, J w F1 H1 σ1 → Wp ce E H0 (k w) P → D.nx σ1 H1)
    (h2 : ∀ (P' : W → Prop), (∀ w, P' w → ∀ F1 H1 σ1, J w F1 H1 σ1 → D.nx σ1 H1) → Wp ce E H0 m1 P' → t D σ H) : t D σ H :=
  h2 (fun w => Wp ce E H0 (k w) P) (fun w p F1 H1 σ1 j => h1 w F1 H1 σ1 j p) (wp_bind q)
theorem own1 {Pp : Addr → Prop} {p : Addr} (h : Pp p) : ∀ q ∈ [p], Pp q := fun q m => by rw [List.mem_singleton.mp m]; exact h
theorem own2 {Pp : Addr → Prop} {p p' : Addr} (h : Pp p) (h' : Pp p') : ∀ q ∈ [p, p'], Pp q := fun q m => by
  rcases List.mem_cons.mp m with rfl | m
  · exact h
  · rw [List.mem_singleton.mp m]; exact h'
theorem own3 {Pp : Addr → Prop} {p p' p'' : Addr} (h : Pp p) (h' : Pp p') (h'' : Pp p'') : ∀ q ∈ [p, p', p''], Pp q := fun q m => by
  rcases List.mem_cons.mp m with rfl | m
  · exact h
  · exact own2 h' h'' q m
variable {T : Type} [Rep T] [Obj T]
theorem Own.ls {p : Addr} {x : T} (o : Own K F H p x) : ∃ o, H p = some o ∧ NoTup o := let ⟨⟨u, h, h2⟩, _⟩ := o; ⟨u, h, Obj.nt h2⟩
/-- a list of one's own from now on stays as it is -/
theorem own_fix {p : Addr} {x : T} (G : Gr F0 H0 F H) (o : Own K F H p x) (n0 : H0 p = none) : ∃ F', Gr F0 H0 F' H ∧ Ex F F' ∧ rp K F' (.ref p) x ∧ ∀ q, q ≠ p → F' q = F q := by
  obtain ⟨⟨u, h1, h2⟩, h3⟩ := o
  refine ⟨upd F p u, ⟨G.ff.tr (Ex.nw h3), fun a w e => ?_, G.hh, fun b a1 a2 => ?_⟩, Ex.nw h3, Obj.rep upd_same (Obj.mo (Ex.nw h3) h2), fun q hq => upd_ne hq⟩
  · by_cases z : a = p
    · subst z; rw [upd_same] at e; rw [h1]; exact e
    · rw [upd_ne z] at e; exact G.fh a w e
  · have : b ≠ p := fun z => by subst z; exact a2 n0
    rw [upd_ne this]; exact G.nw b a1 a2
/-- x += e -/
theorem s_aug {i : Nat} {v : V} {a : Int} {f : Int → Int → Int} {m1 : M Int} {k : Int → M τ} (hv : σ[i]? = some (some v)) (r : rp K F v a) (G : Gr F0 H0 F H) (q : Wp ce E H0 (m1.bind fun y => k (f a y)) P) (h : Ev ce E te σ F H (rv K) m1)
    (c : ∀ x F1 H1 v, Gr F H F1 H1 → rp K F1 v x → Wp ce E H0 (k x) P → D.nx (σ.set i (some v)) H1) : tAug i te (ipI f) D σ H := by
  cases r
  exact ⟨.int a, hv, h.go G q fun x F1 H1 v g r w => by cases r; exact ⟨a, x, rfl, rfl, c (f a x) F1 H1 _ g rfl w⟩⟩
end
end Mw
namespace Mw
open PySem L2
/-- an error class of one's own over ValueError, as the top has written it -/
structure ErrC (K : PySem.W.Frag) (mg : Str → Option Value) (C : Addr) (nm : Str) : Prop where
  g : mg nm = some (.ref C)
  x : PySem.W.excIn K C [.type "ValueError", .type "Exception", .type "BaseException", .type "object"] "ValueError.__new__" = true
  k : PySem.W.keepIn K (.ref C) = true
  b : PySem.W.subIn K (.ref C) (.type "BaseException") = some true
  t : PySem.W.typeIn K (.ref C) = some (.type "type")
section
variable {ρ α β γ δ W τ : Type} [Rep α] [Rep β] [Rep γ] [Rep δ] {ce : Ce} {E : XK} {K : PySem.W.Frag} {σ : L2.St} {F H F' H' F0 H0 : Hp} {te ta tb tc td : TE} {tt tu : TT} {md : Md ρ} {m : M ρ} {D : Ends} {ts tw : TS} {P : τ → Prop}
theorem t_yes : EvT ce E tYes σ F H (.ok true) := fun F1 H1 g Q q => q F1 H1 (Gr.rf g.fh)
/-- one plain operand's place, of a reckoned thing -/
theorem em_ix {r : R2} {m1 : M α} {y : β} {g : α → γ} (ha : Ev ce E ta σ F H (rv K) m1) (hb : Ev ce E tb σ F H (rv K) (.ok y)) (hr : ∀ x, Op2 ce E K r (rv K) x y (.ok (g x))) : Ev ce E (tOp r ta tb) σ F H (rv K) (m1.bind fun x => .ok (g x)) := fun F1 H1 g1 Q q => by
  refine ha F1 H1 g1 _ ?_
  cases m1 with
  | ok x => exact fun F2 H2 vx g2 rx => hb F2 H2 (g1.tr g2) _ fun F3 H3 vy g3 ry => hr x F3 H3 vx vy g3.fh (Rep.mo g3.ff rx) ry Q (Post.mo (m := .ok (g x)) (g2.tr g3) q)
  | er c => exact q
  | bad => exact q
theorem em_cb1 [MdMo md] {ta : TA} {r : List V → Hp → VK → Prop} {x : α} {R : Hp → List V → α → Prop} {m : M ρ} (ha : EvAM ce E ta σ F H (.ok x) R) (hr : OpA ce E R r md x m) : Ev ce E (tCB r ta) σ F H md m := fun F1 H1 g1 Q q =>
  ha F1 H1 g1 _ fun F2 H2 vs g2 r2 => hr F2 H2 vs g2.fh r2 Q (Post.mo g2 q)
/-- a, b = e -/
theorem s_asgT {g : TG} {R : L2.St → Hp → L2.St → α → Prop} (hg : Tg K g R) {m1 : M α} {k : α → M τ} (G : Gr F0 H0 F H) (q : Wp ce E H0 (m1.bind k) P) (h : Ev ce E te σ F H (rv K) m1)
    (c : ∀ x F1 H1 σ1, Gr F H F1 H1 → R σ F1 σ1 x → Wp ce E H0 (k x) P → D.nx σ1 H1) : tAsg te g D σ H := h.go G q fun x F1 H1 v g r w => hg σ F1 H1 v x g.fh r _ fun σ2 hr => c x F1 H1 σ2 g hr w
/-- x = a new list, where e reads lists of one's own -/
theorem s_asgNA (A : List Addr) {i : Nat} {m1 : M (List α)} {k : List α → M τ} [Flat α] (G : Gr F0 H0 F H) (q : Wp ce E H0 (m1.bind k) P) (hF : ∀ p ∈ A, F p = none) (hA : ∀ p ∈ A, ∃ o, H p = some o ∧ NoTup o) (h0 : ∀ p ∈ A, H0 p = none)
    (h : Ev ce E te σ (fz F H A) H (rn K) m1) (c : ∀ x F1 H1 p, Gr F H F1 H1 → H p = none → Own K F1 H1 p x → Wp ce E H0 (k x) P → D.nx (σ.set i (some (.ref p))) H1) : tAsg te (gName i) D σ H := by
  refine h _ H (Gr.rf (fz_h G.fh)) _ ?_
  have hA' : ∀ p ∈ A, H p ≠ none := fun p m => by obtain ⟨o, e, _⟩ := hA p m; rw [e]; exact fun z => nomatch z
  cases m1 with
  | ok x =>
    rintro F1 H1 v g ⟨p, vs, rfl, h1, h2, h3, h4⟩
    refine c x (th F1 A) H1 p (gr_th hF hA' G.fh g) h1 (own_new ?_ h3 (paired_fl (th_of hA g) h4)) q
    · unfold th
      split
      · rfl
      · exact h2
  | er cc => exact fun H' e => q H' (G.hh.tr e)
  | bad => exact q
theorem Own.other {T : Type} [Rep T] [Obj T] {q : Addr} {x : T} (o : Own K F H q x) (e : Ex F F') (h : F' q = F q) : Own K F' H q x := by
  obtain ⟨⟨u, h1, h2⟩, h3⟩ := o
  exact ⟨⟨u, h1, Obj.mo e h2⟩, by rw [h]; exact h3⟩
end
end Mw
/-! ### the same with a rest -/
namespace Mw
open PySem L2
open Rep (rp)
section
variable {ρ α β γ δ S W τ : Type} [Rep α] [Rep β] [Rep γ] [Rep δ] {ce : Ce} {E : XK} {K : PySem.W.Frag} {σ : L2.St} {F H F' H' F0 H0 : Hp} {te ta tb tc td : TE} {tt tu : TT} {md : Md ρ} {m : M ρ} {D : Ends} {ts tw : TS} {g : TG} {wi : TI} {P : τ → Prop}
theorem s_next (h : D.nx σ H) : tNext D σ H := h
theorem s_nx {X : L2.St → Hp → Prop} {R : VK} {B C : L2.St → Hp → Prop} (h : X σ H) : (Ends.mk X R B C).nx σ H := h
theorem q_asg {t2 : TS} {i : Nat} {m1 : M α} {k : α → M τ} (G : Gr F0 H0 F H) (q : Wp ce E H0 (m1.bind k) P) (h : Ev ce E te σ F H (rv K) m1)
    (c : ∀ x F1 H1 v, Gr F H F1 H1 → rp K F1 v x → Wp ce E H0 (k x) P → t2 D (σ.set i (some v)) H1) : tSeq (tAsg te (gName i)) t2 D σ H := s_asg (D := { D with nx := t2 D }) G q h c
theorem q_asgN {t2 : TS} {i : Nat} {m1 : M (List α)} {k : List α → M τ} (G : Gr F0 H0 F H) (q : Wp ce E H0 (m1.bind k) P) (h : Ev ce E te σ F H (rn K) m1)
    (c : ∀ x F1 H1 p, Gr F H F1 H1 → H p = none → Own K F1 H1 p x → Wp ce E H0 (k x) P → t2 D (σ.set i (some (.ref p))) H1) : tSeq (tAsg te (gName i)) t2 D σ H := s_asgN (D := { D with nx := t2 D }) G q h c
theorem q_asgA {t2 : TS} (A : List Addr) {i : Nat} {m1 : M α} {k : α → M τ} [Flat α] (G : Gr F0 H0 F H) (q : Wp ce E H0 (m1.bind k) P) (hF : ∀ p ∈ A, F p = none) (hA : ∀ p ∈ A, ∃ o, H p = some o ∧ NoTup o) (h0 : ∀ p ∈ A, H0 p = none)
    (h : Ev ce E te σ (fz F H A) H (rv K) m1) (c : ∀ x F1 H1 v, Gr F H F1 H1 → rp K F1 v x → Wp ce E H0 (k x) P → t2 D (σ.set i (some v)) H1) : tSeq (tAsg te (gName i)) t2 D σ H := s_asgA (D := { D with nx := t2 D }) A G q hF hA h0 h c
theorem q_drop {t2 : TS} {m1 : M α} {k : α → M τ} (G : Gr F0 H0 F H) (q : Wp ce E H0 (m1.bind k) P) (h : Ev ce E te σ F H (rv K) m1)
    (c : ∀ x F1 H1, Gr F H F1 H1 → Wp ce E H0 (k x) P → t2 D σ H1) : tSeq (tDrop te) t2 D σ H := s_drop (D := { D with nx := t2 D }) G q h c
theorem q_app {t2 : TS} {i : Nat} {p : Addr} {xs : List α} {m1 : M α} {k : List α → M τ} (hp : σ[i]? = some (some (.ref p))) (o : Own K F H p xs) (n0 : H0 p = none) (G : Gr F0 H0 F H)
    (q : Wp ce E H0 (m1.bind fun x => (appM xs x).bind k) P) (h : Ev ce E te σ F H (rv K) m1)
    (c : ∀ ys F1 H1, Ex F F1 → Gr F0 H0 F1 H1 → Own K F1 H1 p ys → (∀ (T : Type) [Rep T] [Obj T] (q : Addr) (z : T), q ≠ p → Own K F H q z → Own K F1 H1 q z) → Wp ce E H0 (k ys) P → t2 D σ H1) : tSeq (tDrop (tBM K "list" rAppend (tVar i) (tCons te tNil))) t2 D σ H := s_app (D := { D with nx := t2 D }) hp o n0 G q h c
theorem q_appA {t2 : TS} (A : List Addr) {i : Nat} {p : Addr} {xs : List α} {m1 : M α} {k : List α → M τ} [Flat α] (hp : σ[i]? = some (some (.ref p))) (o : Own K F H p xs) (n0 : H0 p = none) (G : Gr F0 H0 F H)
    (q : Wp ce E H0 (m1.bind fun x => (appM xs x).bind k) P) (hF : ∀ p ∈ A, F p = none) (hA : ∀ p ∈ A, ∃ o, H p = some o ∧ NoTup o) (h : Ev ce E te σ (fz F H A) H (rv K) m1)
    (c : ∀ ys F1 H1, Ex F F1 → Gr F0 H0 F1 H1 → Own K F1 H1 p ys → (∀ (T : Type) [Rep T] [Obj T] (q : Addr) (z : T), q ≠ p → Own K F H q z → Own K F1 H1 q z) → Wp ce E H0 (k ys) P → t2 D σ H1) : tSeq (tDrop (tBM K "list" rAppend (tVar i) (tCons te tNil))) t2 D σ H := s_appA (D := { D with nx := t2 D }) A hp o n0 G q hF hA h c
theorem q_for {t2 : TS} {f : α → S → M (Ctl S τ)} {k : S → M τ} {s0 : S} {m : M (List α)} {R : L2.St → Hp → L2.St → α → Prop} (I : S → Hp → Hp → L2.St → Prop) (G : Gr F0 H0 F H) (hi : EvI ce E K wi σ F H m) (hg : Tg K g R)
    (q : Wp ce E H0 (m.bind fun xs => forM f k xs s0) P) (h0 : ∀ F1 H1, Gr F H F1 H1 → I s0 F1 H1 σ) (hG : ∀ s F' H' σ', I s F' H' σ' → Gr F0 H0 F' H')
    (turn : ∀ x s F1 H1 σ1, I s F1 H1 σ1 → ∀ F2 H2 σ2, Gr F1 H1 F2 H2 → R σ1 F2 σ2 x → ∀ (D' : Ends) (P' : Ctl S τ → Prop), D'.rt = D.rt →
      (∀ s', P' (.nx s') → ∀ F3 H3 σ3, Ex F2 F3 → I s' F3 H3 σ3 → D'.nx σ3 H3) → (∀ s', P' (.nx s') → ∀ F3 H3 σ3, Ex F2 F3 → I s' F3 H3 σ3 → D'.ct σ3 H3) →
      (∀ s', P' (.br s') → ∀ F3 H3 σ3, Ex F2 F3 → I s' F3 H3 σ3 → D'.bk σ3 H3) → (∀ r, P' (.rt r) → P r) → Wp ce E H0 (f x s) P' → ts D' σ2 H2)
    (after : ∀ s F1 H1 σ1, Ex F F1 → I s F1 H1 σ1 → Wp ce E H0 (k s) P → t2 D σ1 H1) : tSeq (tFor wi g ts) t2 D σ H := s_for (D := { D with nx := t2 D }) I G hi hg q h0 hG turn after
theorem q_while {t2 : TS} {c : S → M Bool} {f : S → M (Ctl S τ)} {k : S → M τ} {s0 : S} {n : Nat} (I : S → Hp → Hp → L2.St → Prop) (h0 : I s0 F H σ) (hG : ∀ s F' H' σ', I s F' H' σ' → Gr F0 H0 F' H')
    (q : Wp ce E H0 (whM c f k n s0) P) (hc : ∀ s F1 H1 σ1, I s F1 H1 σ1 → EvT ce E tt σ1 F1 H1 (c s)) (hI : ∀ s F1 H1 F2 H2 σ1, I s F1 H1 σ1 → Gr F1 H1 F2 H2 → I s F2 H2 σ1)
    (turn : ∀ s F1 H1 σ1, I s F1 H1 σ1 → ∀ (D' : Ends) (P' : Ctl S τ → Prop), D'.rt = D.rt →
      (∀ s', P' (.nx s') → ∀ F3 H3 σ3, I s' F3 H3 σ3 → D'.nx σ3 H3) → (∀ s', P' (.nx s') → ∀ F3 H3 σ3, I s' F3 H3 σ3 → D'.ct σ3 H3) →
      (∀ s', P' (.br s') → ∀ F3 H3 σ3, I s' F3 H3 σ3 → D'.bk σ3 H3) → (∀ r, P' (.rt r) → P r) → Wp ce E H0 (f s) P' → ts D' σ1 H1)
    (after : ∀ s F1 H1 σ1, I s F1 H1 σ1 → Wp ce E H0 (k s) P → t2 D σ1 H1) : tSeq (tWhile tt ts) t2 D σ H := s_while (D := { D with nx := t2 D }) I h0 hG q hc hI turn after
theorem q_asgNA {t2 : TS} (A : List Addr) {i : Nat} {m1 : M (List α)} {k : List α → M τ} [Flat α] (G : Gr F0 H0 F H) (q : Wp ce E H0 (m1.bind k) P) (hF : ∀ p ∈ A, F p = none) (hA : ∀ p ∈ A, ∃ o, H p = some o ∧ NoTup o) (h0 : ∀ p ∈ A, H0 p = none)
    (h : Ev ce E te σ (fz F H A) H (rn K) m1) (c : ∀ x F1 H1 p, Gr F H F1 H1 → H p = none → Own K F1 H1 p x → Wp ce E H0 (k x) P → t2 D (σ.set i (some (.ref p))) H1) : tSeq (tAsg te (gName i)) t2 D σ H := s_asgNA (D := { D with nx := t2 D }) A G q hF hA h0 h c
theorem q_asgT {t2 : TS} {g : TG} {R : L2.St → Hp → L2.St → α → Prop} (hg : Tg K g R) {m1 : M α} {k : α → M τ} (G : Gr F0 H0 F H) (q : Wp ce E H0 (m1.bind k) P) (h : Ev ce E te σ F H (rv K) m1)
    (c : ∀ x F1 H1 σ1, Gr F H F1 H1 → R σ F1 σ1 x → Wp ce E H0 (k x) P → t2 D σ1 H1) : tSeq (tAsg te g) t2 D σ H := s_asgT (D := { D with nx := t2 D }) hg G q h c
theorem q_if2 {t2 : TS} {m1 : M Bool} {k1 k2 : M τ} (G : Gr F0 H0 F H) (q : Wp ce E H0 (m1.bind fun b => if b then k1 else k2) P) (h : EvT ce E tt σ F H m1)
    (h1 : ∀ F1 H1, Gr F H F1 H1 → Wp ce E H0 k1 P → ts { D with nx := t2 D } σ H1) (h2 : ∀ F1 H1, Gr F H F1 H1 → Wp ce E H0 k2 P → tw { D with nx := t2 D } σ H1) : tSeq (tIfS tt ts tw) t2 D σ H := s_if2 (D := { D with nx := t2 D }) G q h h1 h2
theorem q_if2A {t2 : TS} (A : List Addr) {m1 : M Bool} {k1 k2 : M τ} (G : Gr F0 H0 F H) (q : Wp ce E H0 (m1.bind fun b => if b then k1 else k2) P) (hF : ∀ p ∈ A, F p = none) (hA : ∀ p ∈ A, ∃ o, H p = some o ∧ NoTup o)
    (h : EvT ce E tt σ (fz F H A) H m1) (h1 : ∀ F1 H1, Gr F H F1 H1 → Wp ce E H0 k1 P → ts { D with nx := t2 D } σ H1) (h2 : ∀ F1 H1, Gr F H F1 H1 → Wp ce E H0 k2 P → tw { D with nx := t2 D } σ H1) : tSeq (tIfS tt ts tw) t2 D σ H := s_if2A (D := { D with nx := t2 D }) A G q hF hA h h1 h2
theorem q_aug {t2 : TS} {i : Nat} {v : V} {a : Int} {f : Int → Int → Int} {m1 : M Int} {k : Int → M τ} (hv : σ[i]? = some (some v)) (r : rp K F v a) (G : Gr F0 H0 F H) (q : Wp ce E H0 (m1.bind fun y => k (f a y)) P) (h : Ev ce E te σ F H (rv K) m1)
    (c : ∀ x F1 H1 v, Gr F H F1 H1 → rp K F1 v x → Wp ce E H0 (k x) P → t2 D (σ.set i (some v)) H1) : tSeq (tAug i te (ipI f)) t2 D σ H := s_aug (D := { D with nx := t2 D }) hv r G q h c
theorem q_join {t2 : TS} {t : TS} {m1 : M W} {k : W → M τ} (J : W → Hp → Hp → L2.St → Prop) (q : Wp ce E H0 (m1.bind k) P)
    (h1 : ∀ w F1 H1 σ1, J w F1 H1 σ1 → Wp ce E H0 (k w) P → t2 D σ1 H1)
    (h2 : ∀ (P' : W → Prop), (∀ w, P' w → ∀ F1 H1 σ1, J w F1 H1 σ1 → t2 D σ1 H1) → Wp ce E H0 m1 P' → t { D with nx := t2 D } σ H) : tSeq (t) t2 D σ H := s_join (D := { D with nx := t2 D }) J q h1 h2
end
end Mw

set_option Elab.async false
set_option linter.all false
set_option maxRecDepth 100000
set_option maxHeartbeats 2000000
/-! Mw, part G: plain laws that serve several mirrors. -/
namespace Mw
open PySem L2
theorem chk_pos {α : Type} {c : Prop} (h : c) (x : α) : chk c x = .ok x := if_pos h
theorem mulM_ok {x y : Int} (hx : x.natAbs < 2 ^ 10000) (hy : y.natAbs < 2 ^ 10000) : mulM x y = .ok (x * y) := chk_pos (wide_mul hx hy (by decide) (by decide) (by decide)) _
theorem modM_ok {x y : Int} (h : 0 < y) : modM x y = .ok (x % y) := chk_pos h _
theorem fdivM_ok {x y : Int} (h : 0 < y) (hy : y.natAbs < 2 ^ 8000) : fdivM x y = .ok (x / y) := chk_pos (wide_div h hy (by decide) (by decide)) _
theorem fdivZ_ok {x y : Int} (h : y ≠ 0) (hy : y.natAbs < 2 ^ 8000) : fdivZ x y = .ok (x.fdiv y) := chk_pos ⟨h, Nat.lt_of_lt_of_le (PySem.Flt.log2_lt_of (by decide) hy) (by decide)⟩ _
theorem ixM_of {α : Type} [Rep α] {xs : List α} {i : Nat} {x : α} (h : xs[i]? = some x) : ixM xs (i : Int) = .ok x := by
  unfold ixM
  rw [atI_nat h]
theorem catM_ok {α : Type} {xs ys : List α} (h : xs.length + ys.length ≤ 16000000) : catM xs ys = .ok (xs ++ ys) := chk_pos h _
theorem appM_ok {α : Type} {xs : List α} {x : α} (h : xs.length < 16000000) : appM xs x = .ok (xs ++ [x]) := chk_pos h _
theorem rng1M_ok {n : Int} (h : -(2 ^ 62) ≤ n ∧ n < 2 ^ 62) : rng1M n = .ok (rng 0 n) := by
  unfold rng1M
  exact chk_pos h _
theorem lcM_ok {α β : Type} (c : α → Bool) (e : α → β) {xs : List α} (h : xs.length ≤ 16000000) : lcM (fun x => .ok (c x)) (fun x => .ok (e x)) xs = .ok ((xs.filter c).map e) := by
  unfold lcM
  rw [if_pos h, compM_ok]
theorem lcM_all {α β : Type} (e : α → β) {xs : List α} (h : xs.length ≤ 16000000) : lcM (fun _ => .ok true) (fun x => .ok (e x)) xs = .ok (xs.map e) := by
  unfold lcM
  rw [if_pos h, compM_all]
theorem lcM_congr {α β : Type} {c c' : α → M Bool} {e e' : α → M β} {xs : List α} (h1 : ∀ x ∈ xs, c x = c' x) (h2 : ∀ x ∈ xs, c x = .ok true → e x = e' x) : lcM c e xs = lcM c' e' xs := by
  unfold lcM
  rw [compM_congr h1 h2]
/-- a loop without a state that only looks -/
theorem forM_all {α τ : Type} {f : α → Unit → M (Ctl Unit τ)} {k : Unit → M τ} : ∀ {xs : List α}, (∀ x ∈ xs, f x () = .ok (.nx ())) → forM f k xs () = k ()
  | [], _ => rfl
  | x :: r, h => by
    rw [forM_cons, h x List.mem_cons_self]
    exact forM_all fun y hy => h y (List.mem_cons_of_mem _ hy)
/-- a loop that always goes on -/
theorem forM_fold {α S τ : Type} {f : α → S → M (Ctl S τ)} {k : S → M τ} {g : S → α → S} (I : S → Prop) : ∀ {xs : List α} {s : S}, I s → (∀ x ∈ xs, ∀ s, I s → f x s = .ok (.nx (g s x)) ∧ I (g s x)) → forM f k xs s = k (xs.foldl g s)
  | [], _, _, _ => rfl
  | x :: r, s, hs, h => by
    rw [forM_cons, (h x List.mem_cons_self s hs).1]
    exact forM_fold I (h x List.mem_cons_self s hs).2 fun y hy => h y (List.mem_cons_of_mem _ hy)
theorem gcd_step (a b : Int) (ha : 0 ≤ a) (hb : 0 ≤ b) : Int.gcd b (a % b) = Int.gcd a b := by
  obtain ⟨m, rfl⟩ := Int.eq_ofNat_of_zero_le ha
  obtain ⟨k, rfl⟩ := Int.eq_ofNat_of_zero_le hb
  show Nat.gcd k (m % k) = Nat.gcd m k
  rw [Nat.gcd_comm m k, Nat.gcd_rec k m, Nat.gcd_comm]
/-- a loop that always goes on: what is told of what it has met -/
theorem forM_ex {α S τ : Type} {f : α → S → M (Ctl S τ)} {k : S → M τ} (J : List α → S → Prop) : ∀ (xs pre : List α) (s : S), J pre s →
    (∀ p x s, (p ++ [x]) <+: (pre ++ xs) → J p s → ∃ s', f x s = .ok (.nx s') ∧ J (p ++ [x]) s') → ∃ s', J (pre ++ xs) s' ∧ forM f k xs s = k s'
  | [], pre, s, h, _ => ⟨s, by rw [List.append_nil]; exact h, rfl⟩
  | x :: r, pre, s, h, hs => by
    have e0 : pre ++ x :: r = (pre ++ [x]) ++ r := by simp
    obtain ⟨s', e1, h1⟩ := hs pre x s (by rw [e0]; exact List.prefix_append _ _) h
    obtain ⟨s2, h2, e2⟩ := forM_ex (k := k) J r (pre ++ [x]) s' h1 (by rw [← e0]; exact hs)
    rw [e0]
    exact ⟨s2, h2, by rw [forM_cons, e1]; exact e2⟩
theorem pre_mem {α : Type} {p xs : List α} {x : α} (h : (p ++ [x]) <+: xs) : x ∈ xs := h.subset (List.mem_append_right p (List.mem_singleton.mpr rfl))
theorem pre_len {α : Type} {p xs : List α} {x : α} (h : (p ++ [x]) <+: xs) : p.length < xs.length := by
  have := h.length_le
  simp at this
  omega
theorem cut_sub {α : Type} {xs : List α} {lo hi : Option Int} {x : α} (h : x ∈ cut xs lo hi) : x ∈ xs := List.mem_of_mem_drop (List.mem_of_mem_take h)
theorem cut_len {α : Type} (xs : List α) (lo hi : Option Int) : (cut xs lo hi).length ≤ xs.length := by
  unfold cut
  rw [List.length_take, List.length_drop]
  omega
theorem six_nat {n d : Nat} {i : Nat} (h : i ≤ n) : HT.sIx n d (some (i : Int)) = i := by
  unfold HT.sIx
  dsimp only
  split <;> omega
theorem cut_take {α : Type} (xs : List α) {i : Nat} (h : i ≤ xs.length) : cut xs none (some (i : Int)) = xs.take i := by
  unfold cut
  rw [six_nat h]
  rfl
theorem cut_drop {α : Type} (xs : List α) {i : Nat} (h : i ≤ xs.length) : cut xs (some (i : Int)) none = xs.drop i := by
  unfold cut
  rw [six_nat h]
  show (xs.drop i).take (xs.length - i) = _
  rw [List.take_of_length_le (by rw [List.length_drop]; omega)]
theorem compM_ex {α β : Type} {e : α → M β} {Q : α → β → Prop} : ∀ {xs : List α}, (∀ x ∈ xs, ∃ v, e x = .ok v ∧ Q x v) → ∃ ys, compM (fun _ => .ok true) e xs = .ok ys ∧ ys.length = xs.length ∧ ∀ y ∈ ys, ∃ x ∈ xs, Q x y
  | [], _ => ⟨[], rfl, rfl, fun _ z => nomatch z⟩
  | x :: r, h => by
    obtain ⟨v, ev, hv⟩ := h x List.mem_cons_self
    obtain ⟨ys, e1, e2, e3⟩ := compM_ex fun y hy => h y (List.mem_cons_of_mem x hy)
    refine ⟨v :: ys, ?_, by simp [e2], fun y hy => ?_⟩
    · unfold compM
      rw [ev, e1]
      rfl
    · rcases List.mem_cons.mp hy with z | z
      · exact ⟨x, List.mem_cons_self, z ▸ hv⟩
      · obtain ⟨w, hw, q⟩ := e3 y z
        exact ⟨w, List.mem_cons_of_mem _ hw, q⟩
theorem lcM_ex {α β : Type} {e : α → M β} {Q : α → β → Prop} {xs : List α} (hl : xs.length ≤ 16000000) (h : ∀ x ∈ xs, ∃ v, e x = .ok v ∧ Q x v) : ∃ ys, lcM (fun _ => .ok true) e xs = .ok ys ∧ ys.length = xs.length ∧ ∀ y ∈ ys, ∃ x ∈ xs, Q x y := by
  unfold lcM
  rw [if_pos hl]
  exact compM_ex h
theorem rng_pre {p : List Int} {x : Int} {n : Nat} (h : (p ++ [x]) <+: rng 0 (n : Int)) : x = (p.length : Int) ∧ p.length < n := by
  have hl := pre_len h
  have e : (rng 0 (n : Int)).length = n := by unfold rng; simp
  rw [e] at hl
  refine ⟨?_, hl⟩
  obtain ⟨t, ht⟩ := h
  have h2 : (rng 0 (n : Int))[p.length]? = some x := by rw [← ht]; simp
  unfold rng at h2
  rw [List.getElem?_map] at h2
  obtain ⟨j, hj, e2⟩ := Option.map_eq_some_iff.mp h2
  have hj2 : p.length < (List.range ((n : Int) - 0).toNat).length := (List.getElem?_eq_some_iff.mp hj).1
  rw [List.getElem?_range (by simpa using hl)] at hj
  cases hj
  rw [← e2]
  omega
theorem ixM_last {α : Type} [Rep α] (k : List α) (m : α) : ixM (k ++ [m]) (-1) = .ok m := by
  unfold ixM
  have : atI (k ++ [m]) (-1) = some m := by
    have e : ixN (k ++ [m]).length (-1) = some k.length := by
      unfold ixN
      rw [if_neg (by decide), List.length_append, List.length_singleton]
      rw [if_pos (by omega)]
      congr 1
      omega
    unfold atI
    rw [e]
    simp
  rw [this]
end Mw

set_option Elab.async false
set_option linter.all false
set_option maxRecDepth 100000
set_option maxHeartbeats 2000000
/-! Mw, part H: dicts whose keys are whole numbers. -/
namespace Mw
open PySem L2
open Rep (rp)
structure Dc (α : Type) where
  kvs : List (Int × α)
def dlook {α : Type} (k : Int) (d : List (Int × α)) : Option α := (d.find? fun p => decide (p.1 = k)).map (·.2)
def dput {α : Type} (d : List (Int × α)) (k : Int) (x : α) : List (Int × α) := if (d.any fun p => decide (p.1 = k)) = true then d.map (fun p => if p.1 = k then (p.1, x) else p) else d ++ [(k, x)]
def dmerge {α : Type} (d more : List (Int × α)) : List (Int × α) := more.foldl (fun a p => dput a p.1 p.2) d
abbrev DRel (K : PySem.W.Frag) {α : Type} [Rep α] (H : Hp) : List (Key × V) → List (Int × α) → Prop := Paired fun q p => q.1 = Sum.inl p.1 ∧ rp K H q.2 p.2
theorem drel_mo {K : PySem.W.Frag} {α : Type} [Rep α] {H H' : Hp} (e : Ex H H') : ∀ {vs : List (Key × V)} {d : List (Int × α)}, DRel K H vs d → DRel K H' vs d
  | _, _, .nil => .nil
  | _, _, .cons h t => .cons ⟨h.1, Rep.mo e h.2⟩ (drel_mo e t)
instance {α : Type} [Rep α] : Rep (Dc α) := ⟨fun K H v x => ∃ a vs, v = .ref a ∧ H a = some (.dK vs) ∧ DRel K H vs x.kvs, fun e ⟨a, vs, h1, h2, h3⟩ => ⟨a, vs, h1, e _ _ h2, drel_mo e h3⟩⟩
instance {α : Type} [Rep α] : Obj (Dc α) where
  ho := fun K H o x => ∃ vs, o = .dK vs ∧ DRel K H vs x.kvs
  mo := fun e ⟨vs, h1, h2⟩ => ⟨vs, h1, drel_mo e h2⟩
  rep := fun {K H p o x} e ⟨vs, h1, h2⟩ => by subst h1; exact ⟨p, vs, rfl, e, h2⟩
  nt := fun {K H o x} ⟨vs, h1, _⟩ => by subst h1; exact ⟨(fun _ z => nomatch z), (fun _ _ z => nomatch z)⟩
section
variable {K : PySem.W.Frag} {α : Type} [Rep α] {H : Hp}
theorem key_dec {q : Key × V} {p : Int × α} (h : q.1 = Sum.inl p.1) (k : Int) : decide (q.1 = Sum.inl k) = decide (p.1 = k) := by
  rw [h, key_ll, Bool.eq_iff_iff]
  simp
theorem drel_any (k : Int) : ∀ {vs : List (Key × V)} {d : List (Int × α)}, DRel K H vs d → (vs.any fun q => decide (q.1 = Sum.inl k)) = d.any fun p => decide (p.1 = k)
  | _, _, .nil => rfl
  | _, _, .cons h t => by
    rw [List.any_cons, List.any_cons, drel_any k t, key_dec h.1]
theorem drel_look (k : Int) : ∀ {vs : List (Key × V)} {d : List (Int × α)}, DRel K H vs d → (∀ x, dlook k d = some x → ∃ v, valV vs (Sum.inl k) = some v ∧ rp K H v x) ∧ (dlook k d = none → valV vs (Sum.inl k) = none)
  | _, _, .nil => ⟨(fun x e => nomatch e), (fun _ => rfl)⟩
  | _, _, .cons (a := q) (b := p) (l₁ := vs) (l₂ := d) h t => by
    by_cases e : p.1 = k
    · have e1 : q.1 = Sum.inl k := by rw [h.1, e]
      have e2 : dlook k (p :: d) = some p.2 := by unfold dlook; rw [List.find?_cons, decide_eq_true e] <;> rfl
      rw [e2, valV_pos e1]
      exact ⟨fun x z => ⟨q.2, rfl, by cases z; exact h.2⟩, fun z => nomatch z⟩
    · have e1 : ¬ q.1 = Sum.inl k := by rw [h.1]; exact fun z => e (Sum.inl.inj z)
      have e2 : dlook k (p :: d) = dlook k d := by unfold dlook; rw [List.find?_cons, decide_eq_false e]
      rw [e2, valV_neg e1]
      exact drel_look k t
theorem drel_map {k : Int} {v : V} {x : α} (r : rp K H v x) : ∀ {vs : List (Key × V)} {d : List (Int × α)}, DRel K H vs d → DRel K H (vs.map fun q => if q.1 = Sum.inl k then (q.1, v) else q) (d.map fun p => if p.1 = k then (p.1, x) else p)
  | _, _, .nil => .nil
  | _, _, .cons (a := q) (b := p) h t => by
    refine .cons ?_ (drel_map r t)
    by_cases e : p.1 = k
    · have e1 : q.1 = Sum.inl k := by rw [h.1, e]
      dsimp only
      rw [if_pos e, if_pos e1]
      exact ⟨h.1, r⟩
    · have e1 : ¬ q.1 = Sum.inl k := by rw [h.1]; exact fun z => e (Sum.inl.inj z)
      dsimp only
      rw [if_neg e, if_neg e1]
      exact h
theorem drel_put {k : Int} {v : V} {x : α} {vs : List (Key × V)} {d : List (Int × α)} (h : DRel K H vs d) (r : rp K H v x) : DRel K H (putK vs (Sum.inl k) v) (dput d k x) := by
  unfold putK dput
  rw [drel_any k h]
  split
  · exact drel_map r h
  · exact paired_app h (.cons ⟨rfl, r⟩ .nil)
theorem drel_merge : ∀ {ws : List (Key × V)} {e : List (Int × α)} {vs : List (Key × V)} {d : List (Int × α)}, DRel K H ws e → DRel K H vs d → DRel K H (mergeK vs ws) (dmerge d e)
  | _, _, _, _, .nil, h => h
  | _, _, _, _, .cons (a := q) (b := p) g t, h => by
    show DRel K H (mergeK (putK _ q.1 q.2) _) (dmerge (dput _ p.1 p.2) _)
    rw [g.1]
    exact drel_merge t (drel_put h g.2)
theorem drel_len {vs : List (Key × V)} {d : List (Int × α)} (h : DRel K H vs d) : vs.length = d.length := Paired.length h
theorem drel_keys : ∀ {vs : List (Key × V)} {d : List (Int × α)}, DRel K H vs d → vs.map (·.1) = (d.map (·.1)).map Sum.inl
  | _, _, .nil => rfl
  | _, _, .cons h t => by rw [List.map_cons, List.map_cons, List.map_cons, drel_keys t, h.1]
theorem drel_keyV : ∀ {vs : List (Key × V)} {d : List (Int × α)}, DRel K H vs d → (vs.map fun q => kV q.1) = (d.map (·.1)).map V.int
  | _, _, .nil => rfl
  | _, _, .cons h t => by rw [List.map_cons, List.map_cons, List.map_cons, drel_keyV t, h.1] <;> rfl
theorem pairs_split : ∀ {vs : List V} {xs : List (Int × α)}, Paired (rp K H) vs xs → ∃ ps ws, vs = ps.map V.ref ∧ Paired (fun p kv => SqT K H p [kV kv.1, kv.2]) ps ws ∧ DRel K H ws xs
  | _, _, .nil => ⟨[], [], rfl, .nil, .nil⟩
  | _, _, .cons (b := x) ⟨a, u, w, h1, h2, h3, h4⟩ t => by
    obtain ⟨ps, ws, e, p, d⟩ := pairs_split t
    cases h3
    subst h1 e
    exact ⟨a :: ps, (Sum.inl x.1, w) :: ws, rfl, .cons h2 p, .cons ⟨rfl, h4⟩ d⟩
end
/-- a new object of one's own -/
def ro (K : PySem.W.Frag) {T : Type} [Rep T] [Obj T] : Md T := fun _ H F' H' v r => ∃ p, v = .ref p ∧ H p = none ∧ Own K F' H' p r
instance {K : PySem.W.Frag} {T : Type} [Rep T] [Obj T] : MdMo (ro K (T := T)) := ⟨fun g ⟨p, h1, h2, h3⟩ => ⟨p, h1, ex_back g.hh h2, h3⟩⟩
section
variable {ρ α β γ δ S W τ T : Type} [Rep α] [Rep β] [Rep γ] [Rep δ] [Rep T] [Obj T] {ce : Ce} {E : XK} {K : PySem.W.Frag} {σ : L2.St} {F H F' H' F0 H0 : Hp} {te ta tb tc td ty tx : TE} {tt tu : TT} {md : Md ρ} {m : M ρ} {D : Ends} {ts tw : TS} {g : TG} {wi : TI} {P : τ → Prop}
/-- a new object may be leant on -/
theorem Ev.ov {m : M T} (h : Ev ce E te σ F H (ro K) m) : Ev ce E te σ F H (rv K) m := by
  intro F1 H1 g Q q
  refine h F1 H1 g Q ?_
  cases m with
  | ok x =>
    rintro F2 H2 v g2 ⟨p, rfl, h1, ⟨u, h3, h4⟩, h2⟩
    refine q (upd F2 p u) H2 (.ref p) ⟨g2.ff.tr (Ex.nw h2), ?_, g2.hh, fun b a1 a2 => ?_⟩ (Obj.rep upd_same (Obj.mo (Ex.nw h2) h4))
    · intro a w e
      by_cases z : a = p
      · subst z; rw [upd_same] at e; rw [h3]; exact e
      · rw [upd_ne z] at e; exact g2.fh a w e
    · have : b ≠ p := fun z => by subst z; exact a2 h1
      rw [upd_ne this]; exact g2.nw b a1 a2
  | er c => exact q
  | bad => exact q
/-- x = a new object of one's own -/
theorem s_asgO {i : Nat} {m1 : M T} {k : T → M τ} (G : Gr F0 H0 F H) (q : Wp ce E H0 (m1.bind k) P) (h : Ev ce E te σ F H (ro K) m1)
    (c : ∀ x F1 H1 p, Gr F H F1 H1 → H p = none → Own K F1 H1 p x → Wp ce E H0 (k x) P → D.nx (σ.set i (some (.ref p))) H1) : tAsg te (gName i) D σ H := by
  refine h F H (Gr.rf G.fh) _ ?_
  cases m1 with
  | ok x =>
    rintro F1 H1 v g ⟨p, rfl, h1, o⟩
    exact c x F1 H1 p g h1 o q
  | er cc => exact fun H' e => q H' (G.hh.tr e)
  | bad => exact q
theorem em_dnew : Ev ce E tDNewK σ F H (ro K) (.ok (⟨[]⟩ : Dc α)) := fun F1 H1 g1 Q q p np =>
  q F1 _ _ (Gr.own g1.fh np) ⟨p, rfl, np, ⟨_, upd_same, [], rfl, .nil⟩, ex_back g1.fh np⟩
theorem a_dictP {xs : List (Int × α)} : OpA ce E (RC K R0) (fun xs H Q => ∃ (a : Addr) (ps : List Addr) (kvs : List (Key × V)), xs = [.ref a] ∧ SqL K H a (ps.map V.ref) ∧ Paired (fun p kv => SqT K H p [kV kv.1, kv.2]) ps kvs ∧
    ∀ p, H p = none → Q (.ref p) (upd H p (.dK (mergeK [] kvs)))) (ro K) (xs, ()) (.ok (⟨dmerge [] xs⟩ : Dc α)) := fun F1 H1 vs e ⟨v, r, e1, ⟨a, us, h1, h2, h3⟩, e3⟩ Q q => by
  cases e3
  subst e1 h1
  obtain ⟨ps, ws, rfl, hp, hd⟩ := pairs_split h3
  refine ⟨a, ps, ws, rfl, SqL.of (e _ _ h2), Paired.mapP hp fun p kv h => ex_t e h, fun p np => ?_⟩
  exact q F1 _ _ (Gr.own e np) ⟨p, rfl, np, ⟨_, upd_same, _, rfl, drel_merge hd .nil⟩, ex_back e np⟩
theorem a_dictD {d : Dc α} : OpA ce E (RC K R0) (fun xs H Q => ∃ (a : Addr) (kvs : List (Key × V)), xs = [.ref a] ∧ Rd H a (.dK kvs) ∧ ∀ p, H p = none → Q (.ref p) (upd H p (.dK kvs))) (ro K) (d, ()) (.ok d) := fun F1 H1 vs e ⟨v, r, e1, ⟨a, us, h1, h2, h3⟩, e3⟩ Q q => by
  cases e3
  subst e1 h1
  exact ⟨a, us, rfl, .inl (e _ _ h2), fun p np => q F1 _ _ (Gr.own e np) ⟨p, rfl, np, ⟨_, upd_same, _, rfl, h3⟩, ex_back e np⟩⟩
theorem a_listD {d : Dc α} : OpA ce E (RC K R0) (fun xs H Q => ∃ (a : Addr) (kvs : List (Key × V)), xs = [.ref a] ∧ Rd H a (.dK kvs) ∧ ∀ p, H p = none → Q (.ref p) (upd H p (.lst (kvs.map fun kv => kV kv.1)))) (rn K) (d, ()) (.ok (d.kvs.map (·.1))) := fun F1 H1 vs e ⟨v, r, e1, ⟨a, us, h1, h2, h3⟩, e3⟩ Q q => by
  cases e3
  subst e1 h1
  refine ⟨a, us, rfl, .inl (e _ _ h2), fun p np => ?_⟩
  rw [drel_keyV h3]
  exact q F1 _ _ (Gr.own e np) ⟨p, _, rfl, np, ex_back e np, upd_same, rep_int _⟩
noncomputable def sortDM {α : Type} (d : Dc α) : M (List Int) := chk (d.kvs.length < 64) (sortI (d.kvs.map (·.1)))
theorem a_sortedD {d : Dc α} : OpA ce E (RC K R0) (fun xs H Q => ∃ (a : Addr) (kvs : List (Key × V)) (ks : List Int), xs = [.ref a] ∧ Rd H a (.dK kvs) ∧ kvs.map (·.1) = ks.map Sum.inl ∧ ks.length < 64 ∧
    ∀ (ys : List Int) (p : Addr), ys.Perm ks → ys.Pairwise (· ≤ ·) → H p = none → Q (.ref p) (upd H p (.lst (ys.map V.int)))) (rn K) (d, ()) (sortDM d) := fun F1 H1 vs e ⟨v, r, e1, ⟨a, us, h1, h2, h3⟩, e3⟩ Q q => by
  cases e3
  subst e1 h1
  unfold sortDM chk at q
  split at q
  · rename_i hl
    refine ⟨a, us, d.kvs.map (·.1), rfl, .inl (e _ _ h2), drel_keys h3, by rw [List.length_map]; exact hl, fun ys p hp hs np => ?_⟩
    have : ys = sortI (d.kvs.map (·.1)) := sorted_same (hp.trans (sortI_perm _).symm) hs (sortI_sorted _)
    subst this
    exact q F1 _ _ (Gr.own e np) ⟨p, _, rfl, np, ex_back e np, upd_same, rep_int _⟩
  · exact q.elim
theorem a_lenD {d : Dc α} : OpA ce E (RC K R0) (fun xs H Q => ∃ a kvs, xs = [V.ref a] ∧ H a = some (.dK kvs) ∧ Q (.int kvs.length) H) (rv K) (d, ()) (.ok (d.kvs.length : Int)) := fun F1 H1 vs e ⟨v, r, e1, ⟨a, us, h1, h2, h3⟩, e3⟩ Q q => by
  cases e3
  subst e1 h1
  refine ⟨a, us, rfl, e _ _ h2, ?_⟩
  rw [drel_len h3]
  exact q F1 H1 _ (Gr.rf e) rfl
def dgetM {α : Type} (d : Dc α) (k : Int) : M α := match dlook k d.kvs with
  | some x => .ok x
  | none => .bad
/-- d[k] -/
theorem em_dget {m1 : M (Dc α)} {m2 : M Int} (ha : Ev ce E td σ F H (rv K) m1) (hb : Ev ce E ty σ F H (rv K) m2) : Ev ce E (tDGet td ty) σ F H (rv K) (m1.bind fun d => m2.bind fun k => dgetM d k) := fun F1 H1 g1 Q q => by
  refine ha F1 H1 g1 _ ?_
  cases m1 with
  | ok d =>
    rintro F2 H2 vx g2 ⟨a, vs, e1, e2, e3⟩
    refine hb F2 H2 (g1.tr g2) _ ?_
    cases m2 with
    | ok k =>
      rintro F3 H3 vk g3 rfl
      have q' : Post ce (rv K) (dgetM d k) F1 H1 Q E := q
      unfold dgetM at q'
      split at q'
      · rename_i x hx
        obtain ⟨v, hv, r⟩ := (drel_look k (drel_mo g3.ff e3)).1 x hx
        refine ⟨a, v, e1, ?_, q' F3 H3 v (g2.tr g3) r⟩
        have := DGet.k (k := Sum.inl k) (g3.hh _ _ (g2.fh _ _ e2))
        rw [hv] at this
        exact this
      · exact q'.elim
    | er c => exact fun H' e => q H' (g2.hh.tr e)
    | bad => exact q
  | er c => exact q
  | bad => exact q
/-- d.get(k, x) -/
theorem em_dget2 {m1 : M (Dc α)} {m2 : M Int} {m3 : M α} (ha : Ev ce E td σ F H (rv K) m1) (hb : Ev ce E ty σ F H (rv K) m2) (hc : Ev ce E tx σ F H (rv K) m3) :
    Ev ce E (tDGet2 td ty tx) σ F H (rv K) (m1.bind fun d => m2.bind fun k => m3.bind fun x => .ok ((dlook k d.kvs).getD x)) := fun F1 H1 g1 Q q => by
  refine ha F1 H1 g1 _ ?_
  cases m1 with
  | ok d =>
    rintro F2 H2 vx g2 ⟨a, vs, e1, e2, e3⟩
    refine ⟨a, e1, .inl ⟨vs, .inl (g2.fh _ _ e2)⟩, hb F2 H2 (g1.tr g2) _ ?_⟩
    cases m2 with
    | ok k =>
      rintro F3 H3 vk g3 rfl
      refine hc F3 H3 ((g1.tr g2).tr g3) _ ?_
      cases m3 with
      | ok x =>
        intro F4 H4 v4 g4 r4
        refine ⟨_, DGet.k (k := Sum.inl k) (g4.hh _ _ (g3.hh _ _ (g2.fh _ _ e2))), ?_⟩
        have hl := drel_look k (drel_mo (g3.ff.tr g4.ff) e3)
        cases hd : dlook k d.kvs with
        | some y =>
          obtain ⟨v, hv, r⟩ := hl.1 y hd
          rw [hv]
          refine q F4 H4 v ((g2.tr g3).tr g4) ?_
          rw [hd]
          exact r
        | none =>
          rw [hl.2 hd]
          refine q F4 H4 v4 ((g2.tr g3).tr g4) ?_
          rw [hd]
          exact r4
      | er c => exact fun H' e => q H' ((g2.tr g3).hh.tr e)
      | bad => exact q
    | er c => exact fun H' e => q H' (g2.hh.tr e)
    | bad => exact q
  | er c => exact q
  | bad => exact q
/-- k in d, k not in d -/
theorem em_din {m1 : M (Dc α)} {m2 : M Int} (hb : Ev ce E ty σ F H (rv K) m2) (ha : Ev ce E td σ F H (rv K) m1) : Ev ce E (tDIn ty td) σ F H (rv K) (m2.bind fun k => m1.bind fun d => .ok (dlook k d.kvs).isSome) := fun F1 H1 g1 Q q => by
  refine hb F1 H1 g1 _ ?_
  cases m2 with
  | ok k =>
    rintro F2 H2 vk g2 rfl
    refine ha F2 H2 (g1.tr g2) _ ?_
    cases m1 with
    | ok d =>
      rintro F3 H3 vx g3 ⟨a, vs, e1, e2, e3⟩
      refine ⟨a, _, e1, DGet.k (k := Sum.inl k) (g3.fh _ _ e2), ?_⟩
      have hl := drel_look k e3
      refine q F3 H3 _ (g2.tr g3) ?_
      show V.bl _ = V.bl _
      cases hd : dlook k d.kvs with
      | some y =>
        obtain ⟨v, hv, r⟩ := hl.1 y hd
        rw [hv] <;> rfl
      | none => rw [hl.2 hd] <;> rfl
    | er c => exact fun H' e => q H' (g2.hh.tr e)
    | bad => exact q
  | er c => exact q
  | bad => exact q
theorem em_dnotin {m1 : M (Dc α)} {m2 : M Int} (hb : Ev ce E ty σ F H (rv K) m2) (ha : Ev ce E td σ F H (rv K) m1) : Ev ce E (tDNotIn ty td) σ F H (rv K) (m2.bind fun k => m1.bind fun d => .ok (!(dlook k d.kvs).isSome)) := fun F1 H1 g1 Q q => by
  refine hb F1 H1 g1 _ ?_
  cases m2 with
  | ok k =>
    rintro F2 H2 vk g2 rfl
    refine ha F2 H2 (g1.tr g2) _ ?_
    cases m1 with
    | ok d =>
      rintro F3 H3 vx g3 ⟨a, vs, e1, e2, e3⟩
      refine ⟨a, _, e1, DGet.k (k := Sum.inl k) (g3.fh _ _ e2), ?_⟩
      have hl := drel_look k e3
      refine q F3 H3 _ (g2.tr g3) ?_
      show V.bl _ = V.bl _
      cases hd : dlook k d.kvs with
      | some y =>
        obtain ⟨v, hv, r⟩ := hl.1 y hd
        rw [hv] <;> rfl
      | none => rw [hl.2 hd] <;> rfl
    | er c => exact fun H' e => q H' (g2.hh.tr e)
    | bad => exact q
  | er c => exact q
  | bad => exact q
noncomputable def dputM {α : Type} (d : Dc α) (k : Int) (x : α) : M (Dc α) := chk (d.kvs.length < 16000000) ⟨dput d.kvs k x⟩
/-- d[k] = e: the value first, then the key; both may read what is one's own -/
theorem s_dput (A : List Addr) {i : Nat} {p : Addr} {d : Dc α} {m1 : M α} {m2 : M Int} {k : Dc α → M τ} [Flat α] (hp : σ[i]? = some (some (.ref p))) (o : Own K F H p d) (n0 : H0 p = none) (G : Gr F0 H0 F H)
    (q : Wp ce E H0 (m1.bind fun x => m2.bind fun y => (dputM d y x).bind k) P) (hF : ∀ p ∈ A, F p = none) (hA : ∀ p ∈ A, ∃ o, H p = some o ∧ NoTup o) (h : Ev ce E te σ (fz F H A) H (rv K) m1) (hk : Ev ce E ty σ (fz F H A) H (rv K) m2)
    (c : ∀ d' F1 H1, Ex F F1 → Gr F0 H0 F1 H1 → Own K F1 H1 p d' → (∀ (T : Type) [Rep T] [Obj T] (q : Addr) (z : T), q ≠ p → Own K F H q z → Own K F1 H1 q z) → Wp ce E H0 (k d') P → D.nx σ H1) :
    sDPut (tVar i) ty te D σ H := by
  obtain ⟨⟨u, h1, vs, h2, h3⟩, hf⟩ := o
  subst h2
  have hA' : ∀ p ∈ A, H p ≠ none := fun p m => by obtain ⟨o, e, _⟩ := hA p m; rw [e]; exact fun z => nomatch z
  refine h _ H (Gr.rf (fz_h G.fh)) _ ?_
  cases m1 with
  | ok x =>
    intro F1 H1 v g0 r0
    refine ⟨.ref p, hp, hk F1 H1 g0 _ ?_⟩
    have q2 : Wp ce E H0 (m2.bind fun y => (dputM d y x).bind k) P := q
    cases m2 with
    | ok y =>
      rintro F2 H2 vy g1 rfl
      have gg := g0.tr g1
      have g := gr_th hF hA' G.fh gg
      have r : rp K (th F2 A) v x := Flat.fl (th_of hA gg) (Rep.mo g1.ff r0)
      have w' : Wp ce E H0 ((dputM d y x).bind k) P := q2
      unfold dputM chk at w'
      split at w'
      · rename_i hl
        refine ⟨p, _, rfl, DPut.k (k := Sum.inl y) (g.hh _ _ h1) ?_, ?_⟩
        · rw [drel_len h3, sizeLine_eq]; omega
        · have hf1 : th F2 A p = none := g.nw p hf (by rw [h1]; exact fun z => nomatch z)
          exact c _ _ _ g.ff (Gr.mut (G.tr g) n0 hf1) ⟨⟨_, upd_same, _, rfl, drel_put (drel_mo g.ff h3) r⟩, hf1⟩ (fun T _ _ q z hq o => (o.mo g).upd hq) w'
      · exact w'.elim
    | er cc => exact fun H' e => q2 H' ((G.hh.tr g0.hh).tr e)
    | bad => exact q2
  | er cc => exact fun H' e => q H' (G.hh.tr e)
  | bad => exact q
theorem q_asgO {t2 : TS} {i : Nat} {m1 : M T} {k : T → M τ} (G : Gr F0 H0 F H) (q : Wp ce E H0 (m1.bind k) P) (h : Ev ce E te σ F H (ro K) m1)
    (c : ∀ x F1 H1 p, Gr F H F1 H1 → H p = none → Own K F1 H1 p x → Wp ce E H0 (k x) P → t2 D (σ.set i (some (.ref p))) H1) : tSeq (tAsg te (gName i)) t2 D σ H := s_asgO (D := { D with nx := t2 D }) G q h c
theorem q_dput {t2 : TS} (A : List Addr) {i : Nat} {p : Addr} {d : Dc α} {m1 : M α} {m2 : M Int} {k : Dc α → M τ} [Flat α] (hp : σ[i]? = some (some (.ref p))) (o : Own K F H p d) (n0 : H0 p = none) (G : Gr F0 H0 F H)
    (q : Wp ce E H0 (m1.bind fun x => m2.bind fun y => (dputM d y x).bind k) P) (hF : ∀ p ∈ A, F p = none) (hA : ∀ p ∈ A, ∃ o, H p = some o ∧ NoTup o) (h : Ev ce E te σ (fz F H A) H (rv K) m1) (hk : Ev ce E ty σ (fz F H A) H (rv K) m2)
    (c : ∀ d' F1 H1, Ex F F1 → Gr F0 H0 F1 H1 → Own K F1 H1 p d' → (∀ (T : Type) [Rep T] [Obj T] (q : Addr) (z : T), q ≠ p → Own K F H q z → Own K F1 H1 q z) → Wp ce E H0 (k d') P → t2 D σ H1) :
    tSeq (sDPut (tVar i) ty te) t2 D σ H := s_dput (D := { D with nx := t2 D }) A hp o n0 G q hF hA h hk c
end
end Mw

set_option Elab.async false
set_option linter.all false
set_option maxRecDepth 100000
set_option maxHeartbeats 2000000
/-! Mw, part I: enumerate, zip, reversed; try and what a suite asks of the error. -/
namespace Mw
open PySem L2
open Rep (rp)
abbrev ixS (x : Scr) (i : Int) : M Int := ixM x.l i
def enumL {α : Type} (xs : List α) : List (Int × α) := xs.zipIdx.map fun p => ((p.2 : Int), p.1)
theorem enumL_get {α : Type} (xs : List α) (i : Nat) (p : Int × α) (h : (enumL xs)[i]? = some p) : p.1 = (i : Int) ∧ xs[i]? = some p.2 := by
  unfold enumL at h
  rw [List.getElem?_map, List.getElem?_zipIdx] at h
  cases e : xs[i]? with
  | none => rw [e] at h; cases h
  | some x =>
    rw [e] at h
    cases h
    exact ⟨by simp, rfl⟩
theorem enumL_len {α : Type} (xs : List α) : (enumL xs).length = xs.length := by unfold enumL; simp
theorem zip_get {α β : Type} (xs : List α) (ys : List β) (i : Nat) (p : α × β) (h : (xs.zip ys)[i]? = some p) : xs[i]? = some p.1 ∧ ys[i]? = some p.2 := by
  rw [List.getElem?_zip_eq_some] at h
  exact h
section
variable {ρ α β γ δ S τ : Type} [Rep α] [Rep β] [Rep γ] [Rep δ] {ce : Ce} {E : XK} {K : PySem.W.Frag} {σ : L2.St} {F H F' H' F0 H0 : Hp} {te ta tb tc td : TE} {tt tu : TT} {md : Md ρ} {m : M ρ} {D : Ends} {ts tw : TS} {g : TG} {wi : TI} {P : τ → Prop}
theorem ei_enum {m : M (List α)} (h : Ev ce E te σ F H (rv K) m) : EvI ce E K (iEnum K (tCons te tNil)) σ F H (m.bind fun x => .ok (enumL x)) := fun F1 H1 g1 R q => by
  refine h F1 H1 g1 _ ?_
  cases m with
  | ok xs =>
    rintro F2 H2 v g2 ⟨a, vs, rfl, h2, h3⟩
    refine ⟨a, vs, rfl, SqL.of (g2.fh _ _ h2), q F2 H2 _ g2 fun i H e => ?_⟩
    have hl := Paired.length h3
    refine ⟨fun x hx => ?_, fun hi => ⟨vs, SqL.of (e _ _ h2), by rw [enumL_len] at hi; omega⟩⟩
    obtain ⟨e1, e2⟩ := enumL_get xs i x hx
    obtain ⟨w, hw, rw'⟩ := paired_get h3 e2
    refine ⟨⟨vs, w, SqL.of (e _ _ h2), hw⟩, fun v H' ⟨T, y, ev, nT, eH, hy⟩ F1' f1 f2 => ?_⟩
    have : some w = some y := hw.symm.trans (hy vs (SqL.of (e _ _ h2)))
    cases this
    subst ev eH
    refine ⟨_, Gr.new f2 nT, T, .int (i : Nat), w, rfl, SqT.of upd_same, ?_, Rep.mo (f1.tr (Ex.nw (ex_back f2 nT))) rw'⟩
    show V.int _ = V.int _
    rw [e1]
  | er c => exact q
  | bad => exact q
theorem ei_zip {m : M (List α)} {m2 : M (List β)} (h : Ev ce E ta σ F H (rv K) m) (h' : Ev ce E tb σ F H (rv K) m2) : EvI ce E K (iZip K (tCons ta (tCons tb tNil))) σ F H (m.bind fun x => m2.bind fun y => .ok (x.zip y)) := fun F1 H1 g1 R q => by
  refine h F1 H1 g1 _ ?_
  cases m with
  | ok xs =>
    rintro F2 H2 v g2 ⟨a, vs, rfl, h2, h3⟩
    refine h' F2 H2 (g1.tr g2) _ ?_
    cases m2 with
    | ok ys =>
      rintro F3 H3 v g3 ⟨b, ws, rfl, k2, k3⟩
      have h2' := g3.ff _ _ h2
      refine ⟨a, b, vs, ws, rfl, SqL.of (g3.fh _ _ h2'), SqL.of (g3.fh _ _ k2), q F3 H3 _ (g2.tr g3) fun i H e => ?_⟩
      have hl := Paired.length h3
      have hl2 := Paired.length k3
      refine ⟨fun x hx => ?_, fun hi => ⟨vs, ws, SqL.of (e _ _ h2'), SqL.of (e _ _ k2), by rw [List.length_zip] at hi; omega⟩⟩
      obtain ⟨e1, e2⟩ := zip_get xs ys i x hx
      obtain ⟨w1, hw1, r1⟩ := paired_get h3 e1
      obtain ⟨w2, hw2, r2⟩ := paired_get k3 e2
      refine ⟨⟨vs, ws, w1, w2, SqL.of (e _ _ h2'), SqL.of (e _ _ k2), hw1, hw2⟩, fun v H' ⟨T, y1, y2, ev, nT, eH, hy1, hy2⟩ F1' f1 f2 => ?_⟩
      have z1 : some w1 = some y1 := hw1.symm.trans (hy1 vs (SqL.of (e _ _ h2')))
      have z2 : some w2 = some y2 := hw2.symm.trans (hy2 ws (SqL.of (e _ _ k2)))
      cases z1
      cases z2
      subst ev eH
      have ee := Ex.nw (o := .tup [w1, w2]) (ex_back f2 nT)
      exact ⟨_, Gr.new f2 nT, T, w1, w2, rfl, SqT.of upd_same, Rep.mo ((g3.ff.tr f1).tr ee) r1, Rep.mo (f1.tr ee) r2⟩
    | er c => exact fun H' e => q H' (g2.hh.tr e)
    | bad => exact q
  | er c => exact q
  | bad => exact q
theorem ei_rev {m : M (List α)} (h : Ev ce E te σ F H (rv K) m) : EvI ce E K (iRev K (tCons te tNil)) σ F H (m.bind fun x => .ok x.reverse) := fun F1 H1 g1 R q => by
  refine h F1 H1 g1 _ ?_
  cases m with
  | ok xs =>
    rintro F2 H2 v g2 ⟨a, vs, rfl, h2, h3⟩
    refine ⟨a, vs, rfl, SqL.of (g2.fh _ _ h2), q F2 H2 _ g2 fun i H e => ?_⟩
    have hl := Paired.length h3
    refine ⟨fun x hx => ?_, fun hi => by rw [List.length_reverse] at hi; show vs.length ≤ i; omega⟩
    have hi : i < xs.length := by
      have := (List.getElem?_eq_some_iff.mp hx).1
      rw [List.length_reverse] at this
      exact this
    rw [List.getElem?_reverse hi] at hx
    obtain ⟨w, hw, rw'⟩ := paired_get h3 hx
    have hw' : vs[vs.length - 1 - i]? = some w := by rw [hl]; exact hw
    refine ⟨⟨by omega, vs, w, SqL.of (e _ _ h2), hw'⟩, fun v H' ⟨eH, hy⟩ F1' f1 f2 => ?_⟩
    have : some w = some v := hw'.symm.trans (hy vs (SqL.of (e _ _ h2)))
    cases this
    subst eH
    exact ⟨_, Gr.rf f2, Rep.mo f1 rw'⟩
  | er c => exact q
  | bad => exact q

/-! ### try -/
def catchM {α τ : Type} (m : M α) (h : Err → M τ) (k : α → M τ) : M τ := match m with
  | .ok x => k x
  | .er c => h c
  | .bad => .bad
@[simp] theorem catch_ok {α τ : Type} (x : α) (h : Err → M τ) (k : α → M τ) : catchM (.ok x) h k = k x := rfl
@[simp] theorem catch_er {α τ : Type} (c : Err) (h : Err → M τ) (k : α → M τ) : catchM (.er c) h k = h c := rfl
theorem s_try {W : WX} {tb : WX → TS} {m : M α} {h : Err → M τ} {k : α → M τ} (q : Wp ce E H0 (catchM m h k) P) (hh : ∀ c H', Ex H H' → Wp ce E H0 (h c) P → W (.ref (ce c.name)) none σ H')
    (hb : ∀ P' : α → Prop, (∀ x, P' x → Wp ce E H0 (k x) P) → Wp ce (WE W σ) H m P' → tb W D σ H) : tb W D σ H := by
  refine hb (fun x => Wp ce E H0 (k x) P) (fun x p => p) ?_
  cases m with
  | ok x => exact q
  | er c => exact fun H' e => hh c H' e q
  | bad => exact q
/-- a call within a try's body -/
theorem e_callT [MdMo md] {W : WX} {ta : TA} {x : α} {R : Hp → List V → α → Prop} {f : α → M ρ} (ha : EvAM ce (WE W σ) ta σ F H (.ok x) R) : Ev ce (WE W σ) (tCallS (SpF ce R md f) (WE W) ta) σ F H md (f x) := fun F1 H1 g1 Q q =>
  ha F1 H1 g1 _ fun F2 H2 vs g2 r2 => ⟨F2, x, g2.fh, r2, Post.mo g2 q⟩
theorem em_callT [MdMo md] {W : WX} {ta : TA} {m1 : M α} {R : Hp → List V → α → Prop} {f : α → M ρ} (ha : EvAM ce (WE W σ) ta σ F H m1 R) : Ev ce (WE W σ) (tCallS (SpF ce R md f) (WE W) ta) σ F H md (m1.bind fun x => f x) := fun F1 H1 g1 Q q => by
  refine ha F1 H1 g1 _ ?_
  cases m1 with
  | ok x => exact fun F2 H2 vs g2 r2 => ⟨F2, x, g2.fh, r2, Post.mo g2 q⟩
  | er c => exact q
  | bad => exact q
/-- the suite's reading, for an error of a class C that isinstance may be asked of -/
def tsOf (K : PySem.W.Frag) (t1 : Addr → Addr → TS) : Addr → Value → Option Addr → TS := fun a cls d D σ H => ∃ C, cls = .ref C ∧ d = none ∧ ExcC K C ∧ t1 C a D σ H
theorem suite_by {X : Cx} {suite : List Stmt} {t1 : Addr → Addr → TS} (h : ∀ (C a : Addr) (oe : PySem.Obj) (pn : List (Addr × PySem.Obj)), ExcC X.K C → Zc (.ref C) none oe → (∃ vs, oe.data = .fields vs) → PSs (X.suite a ((a, oe) :: pn)) suite (t1 C a))
    (a : Addr) (oe : PySem.Obj) (cls : Value) (d : Option Addr) (pn : List (Addr × PySem.Obj)) (hz : Zc cls d oe) (hf : ∃ vs, oe.data = .fields vs) : PSs (X.suite a ((a, oe) :: pn)) suite (tsOf X.K t1 a cls d) := by
  refine ⟨fun pins s σ H D I hh => ?_⟩
  obtain ⟨C, rfl, rfl, ex, hh⟩ := hh
  exact (h C a oe pn ex hz hf).run pins s σ H D I hh
theorem e_isE {i : Nat} {C a : Addr} {c : V} {cv : Value} {b : Bool} (hs : σ[i]? = some (some (.ref a))) (hc : ∀ u, RelV c u → u = cv) (hk : PySem.W.kitOne K (.ref C) cv = some b) : Ev ce E (tCB (rIsE K C a) (tCons (tVar i) (tCons (tC c) tNil))) σ F H (rv K) (.ok b) := fun F1 H1 g1 Q q =>
  ⟨.ref a, hs, c, cv, b, rfl, hc, hk, q F1 H1 _ (Gr.rf g1.fh) rfl⟩
/-- isinstance(e, (c1, c2, ..)) -/
def rIsET (K : PySem.W.Frag) (D a : Addr) : List V → Hp → VK → Prop := fun xs H Q => ∃ (tp : Addr) (cs : List V) (us : List Value) (b : Bool), xs = [.ref a, .ref tp] ∧ H tp = some (.tup cs) ∧ Paired ClsV cs us ∧ PySem.W.kitAny K (.ref D) us = some b ∧ Q (.bl b) H
theorem call_isET {X : Cx} {a D : Addr} {oe : PySem.Obj} {pn : List (Addr × PySem.Obj)} (C : ExcC X.K D) (hz : Zc (.ref D) none oe) (hf : ∃ vs, oe.data = .fields vs) : CallR (X.suite a ((a, oe) :: pn)) (.builtin "isinstance") (rIsET X.K D a) := by
  intro pins s σ H xs us Q I r h
  obtain ⟨tp, cs, ws, b, rfl, hT, k, e, q⟩ := h
  obtain ⟨u1, u2, rfl, r1, r2⟩ := vals2 r
  cases (show u1 = Value.ref a from r1)
  cases (show u2 = Value.ref tp from r2)
  obtain ⟨hget, _⟩ := I.pin (a, oe) (List.mem_append.mpr (.inl List.mem_cons_self))
  obtain ⟨vs, hv⟩ := hf
  have J : PySem.W.InstAt s.heap a oe D none := by
    obtain ⟨oc, od, oda, osl⟩ := oe
    obtain ⟨h1, h2⟩ := hz
    dsimp only at h1 h2 hv
    subst h1 h2 hv
    exact ⟨hget, rfl, rfl, trivial⟩
  obtain ⟨_, its, rv, o, h1, h2, n, h3⟩ := (show ObjOk X.prog X.w H s.heap tp (.tup cs) from I.hok tp _ hT)
  have e3 := ClsV.all k rv
  subst e3
  obtain ⟨oc, od, dt, sl⟩ := o
  simp only at h2 h3
  subst h2 h3
  exact PySem.W.kia_tup (PySem.W.handS_kitx_exc C.hg C.hk C.hs C.hd C.ha C.hn C.ht C.hm) I.kIn J h1 e (fun z => nomatch z) fun tk => ⟨.bl b, H, I.kept (t' := tk) fun _ _ z => z, rfl, q⟩
theorem e_isE2 {i : Nat} {C a : Addr} {c c' : V} {cv cv' : Value} {b : Bool} (hs : σ[i]? = some (some (.ref a))) (h1 : ClsV c cv) (h2 : ClsV c' cv') (hk : PySem.W.kitAny K (.ref C) [cv, cv'] = some b) : Ev ce E (tCB (rIsET K C a) (tCons (tVar i) (tCons (tTup (tCons (tC c) (tCons (tC c') tNil))) tNil))) σ F H (rv K) (.ok b) := fun F1 H1 g1 Q q =>
  ⟨.ref a, hs, by show 2 ≤ sizeLine; decide, fun tp np => ⟨tp, [c, c'], [cv, cv'], b, rfl, upd_same, .cons h1 (.cons h2 .nil), hk, q _ _ _ (Gr.new g1.fh np) rfl⟩⟩
theorem e_isE3 {i : Nat} {C a : Addr} {c c' c2 : V} {cv cv' cv2 : Value} {b : Bool} (hs : σ[i]? = some (some (.ref a))) (h1 : ClsV c cv) (h2 : ClsV c' cv') (h3 : ClsV c2 cv2) (hk : PySem.W.kitAny K (.ref C) [cv, cv', cv2] = some b) : Ev ce E (tCB (rIsET K C a) (tCons (tVar i) (tCons (tTup (tCons (tC c) (tCons (tC c') (tCons (tC c2) tNil)))) tNil))) σ F H (rv K) (.ok b) := fun F1 H1 g1 Q q =>
  ⟨.ref a, hs, by show 3 ≤ sizeLine; decide, fun tp np => ⟨tp, [c, c', c2], [cv, cv', cv2], b, rfl, upd_same, .cons h1 (.cons h2 (.cons h3 .nil)), hk, q _ _ _ (Gr.new g1.fh np) rfl⟩⟩
end
/-- a def that may raise, where what it computes raises nothing -/
theorem fn_quiet {P : Program} {w : World} {K : PySem.W.Frag} {mg : Str → Option Value} {base : Heap} {k : Nat} {f : Addr} {fd : FuncData} {ps : List Str} {sp sp' : Sp} (F : FnOk P w K mg base (L2.CX P w) k f fd ps sp)
    (h : ∀ vs H Q E, sp' vs H Q E → sp vs H Q E0) : FnOk P w K mg base CX0 k f fd ps sp' :=
  ⟨fun vs H Q E q => F.len vs H Q E0 (h _ _ _ _ q), fun A outer s H args us vs Q E hr he hb hv hs => codeAny_mono (F.run A outer s H args us vs Q E0 hr he hb hv (h _ _ _ _ hs)) fun r s' x => by
    cases r with
    | error e =>
      obtain ⟨_, _, _, _, _, _, _, _, _, _, _, _, z⟩ := x
      exact z.elim
    | ok v => cases v <;> exact x⟩
end Mw

set_option Elab.async false
set_option linter.all false
set_option maxRecDepth 100000
set_option maxHeartbeats 2000000
/-! Mw, part J: slices with a step. -/
namespace L2
open PySem PySem.Spec PyProof.Rows
/-- the items of xs[lo:hi:st] -/
def pickV {α : Type} (xs : List α) (lo hi : Option Int) (st : Int) : List α :=
  (sliceRange (PySem.sliceBounds lo hi (some st) xs.length).1 (PySem.sliceBounds lo hi (some st) xs.length).2.1 (PySem.sliceBounds lo hi (some st) xs.length).2.2).filterMap (xs[·]?)
def rSlP (K : PySem.W.Frag) (st : Int) : V → Option Int → Option Int → Hp → VK → Prop := fun x lo hi H Q => ∃ a xs, x = .ref a ∧ SqL K H a xs ∧ ∀ p, H p = none → Q (.ref p) (upd H p (.lst (pickV xs lo hi st)))
theorem vals_pick {xs : List V} {its : List Value} (r : Vals xs its) : ∀ l : List Nat, Vals (l.filterMap (xs[·]?)) (l.filterMap (its[·]?))
  | [] => .nil
  | i :: l => by
    rw [List.filterMap_cons, List.filterMap_cons]
    have h : (xs[i]? = none ∧ its[i]? = none) ∨ ∃ x v, xs[i]? = some x ∧ its[i]? = some v ∧ RelV x v := by
      induction r generalizing i with
      | nil => exact .inl ⟨rfl, rfl⟩
      | cons h t ih =>
        cases i with
        | zero => exact .inr ⟨_, _, rfl, rfl, h⟩
        | succ j => exact ih j
    rcases h with ⟨h1, h2⟩ | ⟨x, v, h1, h2, h3⟩
    · rw [h1, h2]; exact vals_pick r l
    · rw [h1, h2]; exact .cons h3 (vals_pick r l)
section
variable {X : Cx} {e : Expr} {lo hi : Option Expr} {te : TE} {tl th : TO}
theorem pe_sliceS {st : Int} {k : Nat} {p1 p3 pos : Pos} (h0 : st ≠ 0) (he : PE X e te) (hl : PO X lo tl) (hu : PO X hi th) : PE X (.Subscript e (.Slice lo hi (some (.Constant (.int st) k p1)) p3) pos) (tSl (rSlP X.K st) te tl th) := by
  refine ⟨fun pins s σ H Q I h => ?_⟩
  refine Subscript_ (thn (he.run pins s σ H _ I h) fun v s1 ⟨x, H1, I1, r1, q1⟩ => ?_)
  have hst : PO X (some (.Constant (.int st) k p1)) (tPart (tC (.int st))) := po_some pe_int
  refine wpAny_Slice (thn (hl.run pins s1 σ H1 _ I1 q1) fun vl s2 ⟨l, H2, I2, pl, q2⟩ => thn (hu.run pins s2 σ H2 _ I2 q2) fun vu s3 ⟨u, H3, I3, pu, q3⟩ => ?_)
  obtain ⟨a, xs, ex, hx, q⟩ := q3
  subst ex
  cases r1
  refine thn (hst.run pins s3 σ H3 (fun o H4 => o = some st ∧ H4 = H3) I3 ⟨st, rfl, rfl, rfl⟩) fun vs s4 ⟨o, H4, I4, ps, eo, e4⟩ => ?_
  subst eo e4
  have I5 : Inv X pins σ H4 { s4 with heap := s4.heap.push { cls := .type "slice", data := .fields #[vl, vu, vs] } } := I4.kept (t' := s4.toks) fun b ob q => Heap.get?_push_of_some _ q
  obtain ⟨its, r, ht, hz⟩ := I5.list hx
  have hlen := r.length
  show wpAny (model X.prog X.w) X.A (subscriptTail e (.Slice lo hi (some (.Constant (.int st) k p1)) p3) (.ref a) (.ref s4.heap.objs.size)) (EP X pins σ Q) X.xe { s4 with heap := s4.heap.push { cls := .type "slice", data := .fields #[vl, vu, vs] } }
  refine tail_any (ops := [.ref a, .ref s4.heap.objs.size]) ht.isList.typeIs (PySem.slot_list_getitem.lookup) ?_ (by with_unfolding_all rfl)
  refine wpAny_getItem_list_slice ht.isList (Heap.IsSliceOf.new _ vl vu vs) pl pu ps (fun z => h0 (Option.some.inj z)) ?_ (by rw [List.size_toArray]; omega)
  have e1 : slicePick its.toArray l u (some st) = (pickV its l u st).toArray := by
    unfold slicePick pickV
    simp
  rw [e1]
  have r2 : Vals (pickV xs l u st) (pickV its l u st) := by
    unfold pickV
    rw [hlen]
    exact vals_pick r _
  have hle : (pickV xs l u st).length ≤ sizeLine := by
    have := slicePick_size_le its.toArray l u (some st)
    rw [e1, List.size_toArray, List.size_toArray, ← r2.length] at this
    omega
  exact ⟨.ref _, _, I5.laid (t' := s4.toks) (o := .lst (pickV xs l u st)) (fun b ob q => Heap.get?_push_of_some _ q) (Nat.le_refl _) ⟨hle, _, 0, r2, Heap.get?_push_size _ rfl⟩, rfl, q _ (I5.hok.fresh (Nat.le_refl _))⟩
end
end L2
namespace Mw
open PySem L2
open Rep (rp)
theorem paired_pick {α β : Type} {F : α → β → Prop} {vs : List α} {xs : List β} (r : Paired F vs xs) (lo hi : Option Int) (st : Int) : Paired F (pickV vs lo hi st) (pickV xs lo hi st) := by
  unfold pickV
  rw [Paired.length r]
  have go : ∀ l : List Nat, Paired F (l.filterMap (vs[·]?)) (l.filterMap (xs[·]?)) := by
    intro l
    induction l with
    | nil => exact .nil
    | cons i l ih =>
      rw [List.filterMap_cons, List.filterMap_cons]
      cases e : xs[i]? with
      | some x =>
        obtain ⟨w, hw, rw'⟩ := paired_get r e
        rw [hw]
        exact .cons rw' ih
      | none =>
        have : vs[i]? = none := by
          rw [List.getElem?_eq_none_iff] at e ⊢
          have := Paired.length r
          omega
        rw [this]
        exact ih
  exact go _
section
variable {ρ α β γ δ S τ : Type} [Rep α] [Rep β] [Rep γ] [Rep δ] {ce : Ce} {E : XK} {K : PySem.W.Frag} {σ : L2.St} {F H F' H' F0 H0 : Hp} {te ta tb tc td : TE} {md : Md ρ} {m : M ρ}
theorem em_pk {tl th : TO} {st : Int} {m1 : M (List α)} {m2 m3 : M (Option Int)} (ha : Ev ce E ta σ F H (rv K) m1) (hl : EvO ce E tl σ F H m2) (hh : EvO ce E th σ F H m3) :
    Ev ce E (tSl (rSlP K st) ta tl th) σ F H (rn K) (m1.bind fun x => m2.bind fun lo => m3.bind fun hi => .ok (pickV x lo hi st)) := fun F1 H1 g1 Q q => by
  refine ha F1 H1 g1 _ ?_
  cases m1 with
  | ok x =>
    rintro F2 H2 vx g2 ⟨a, vs, e1, e2, e3⟩
    refine hl F2 H2 (g1.tr g2) _ ?_
    cases m2 with
    | ok lo =>
      intro F3 H3 g3
      refine hh F3 H3 ((g1.tr g2).tr g3) _ ?_
      cases m3 with
      | ok hi =>
        intro F4 H4 g4
        refine ⟨a, vs, e1, SqL.of (g4.hh _ _ (g3.hh _ _ (g2.fh _ _ e2))), fun p np => ?_⟩
        exact q F4 _ _ (((g2.tr g3).tr g4).tr (Gr.own g4.fh np)) ⟨p, _, rfl, ex_back ((g2.hh.tr g3.hh).tr g4.hh) np, ex_back g4.fh np, upd_same, paired_pick (paired_mo (g3.ff.tr g4.ff) e3) lo hi st⟩
      | er c => exact fun H' e => q H' ((g2.tr g3).hh.tr e)
      | bad => exact q
    | er c => exact fun H' e => q H' (g2.hh.tr e)
    | bad => exact q
  | er c => exact q
  | bad => exact q
theorem em_pkS {tl th : TO} {st : Int} {x : Scr} {m2 m3 : M (Option Int)} (ha : Ev ce E ta σ F H (rv K) (.ok x)) (hl : EvO ce E tl σ F H m2) (hh : EvO ce E th σ F H m3) :
    Ev ce E (tSl (rSlP K st) ta tl th) σ F H (rn K) (m2.bind fun lo => m3.bind fun hi => .ok (pickV x.l lo hi st)) := fun F1 H1 g1 Q q => by
  refine ha F1 H1 g1 _ ?_
  rintro F2 H2 vx g2 ⟨a, e1, e2⟩
  refine hl F2 H2 (g1.tr g2) _ ?_
  cases m2 with
  | ok lo =>
    intro F3 H3 g3
    refine hh F3 H3 ((g1.tr g2).tr g3) _ ?_
    cases m3 with
    | ok hi =>
      intro F4 H4 g4
      refine ⟨a, _, e1, ex_l ((g2.fh.tr g3.hh).tr g4.hh) e2, fun p np => ?_⟩
      exact q F4 _ _ (((g2.tr g3).tr g4).tr (Gr.own g4.fh np)) ⟨p, _, rfl, ex_back ((g2.hh.tr g3.hh).tr g4.hh) np, ex_back g4.fh np, upd_same, paired_pick (rep_int x.l) lo hi st⟩
    | er c => exact fun H' e => q H' ((g2.tr g3).hh.tr e)
    | bad => exact q
  | er c => exact fun H' e => q H' (g2.hh.tr e)
  | bad => exact q
theorem pick_sub {α : Type} {xs : List α} {lo hi : Option Int} {st : Int} {x : α} (h : x ∈ pickV xs lo hi st) : x ∈ xs := by
  unfold pickV at h
  obtain ⟨i, _, hi⟩ := List.mem_filterMap.mp h
  exact List.mem_of_getElem? hi
end
end Mw

set_option Elab.async false
set_option linter.all false
set_option maxRecDepth 100000
set_option maxHeartbeats 2000000
/-! Mw, part K: try, as statements of the walk. -/
namespace Mw
open PySem L2
open Rep (rp)
def tTryAs (tb : WX → TS) (K : PySem.W.Frag) (c : Value) (i : Nat) (ts : Addr → Value → Option Addr → TS) (Wout : WX) : TS := fun D σ H => tb (wAs K c i ts Wout D) D σ H
def tTryOn (tb : WX → TS) (K : PySem.W.Frag) (c : Value) (ts : Addr → Value → Option Addr → TS) (Wout : WX) : TS := fun D σ H => tb (wOnly K c ts Wout D) D σ H
section
variable {X : Cx} {x n : Str} {c : Value} {i : Nat} {body suite : List Stmt} {b₀ : Stmt} {np pos pos' : Pos} {tb : WX → TS} {ts : Addr → Value → Option Addr → TS} {Wout : WX}
theorem ps_tryA (hs : X.stack = X.env :: X.outer) (hf : X.env.frame = some X.env.locals) (hN : X.N.Nodup) (hi : X.N[i]? = some n) (hln : X.env.kindOf n = some .local) (hc : Names X x c) (tk : Takes X Wout)
    (hb : ∀ (W : WX) (pn : List (Addr × PySem.Obj)) (xe : Value → Shared → Prop), Takes (X.tr pn xe) W → PassesOwn (model X.prog X.w) X.A X.env xe → PSs (X.tr pn xe) body (tb W))
    (hsu : ∀ (a : Addr) (oe : PySem.Obj) (cls : Value) (d : Option Addr) (pn : List (Addr × PySem.Obj)), Zc cls d oe → (∃ vs, oe.data = .fields vs) → PSs (X.suite a ((a, oe) :: pn)) (b₀ :: suite) (ts a cls d)) :
    PS X (.Try body [.ExceptHandler (some (.Name x np)) (some n) (b₀ :: suite) pos'] [] [] pos) (tTryAs tb X.K c i ts Wout) := ps_try_as hs hf hN hi hln hc tk hb hsu
theorem ps_tryO (hs : X.stack = X.env :: X.outer) (hf : X.env.frame = some X.env.locals) (hc : Names X x c) (tk : Takes X Wout)
    (hb : ∀ (W : WX) (pn : List (Addr × PySem.Obj)) (xe : Value → Shared → Prop), Takes (X.tr pn xe) W → PassesOwn (model X.prog X.w) X.A X.env xe → PSs (X.tr pn xe) body (tb W))
    (hsu : ∀ (a : Addr) (oe : PySem.Obj) (cls : Value) (d : Option Addr) (pn : List (Addr × PySem.Obj)), Zc cls d oe → (∃ vs, oe.data = .fields vs) → PSs (X.suite a ((a, oe) :: pn)) (b₀ :: suite) (ts a cls d)) :
    PS X (.Try body [.ExceptHandler (some (.Name x np)) none (b₀ :: suite) pos'] [] [] pos) (tTryOn tb X.K c ts Wout) := ps_try_only hs hf hc tk hb hsu
end
section
variable {ρ α β S τ Z : Type} [Rep α] {ce : Ce} {E : XK} {K : PySem.W.Frag} {σ : L2.St} {F H F0 H0 : Hp} {md : Md ρ} {D : Ends} {P : τ → Prop} {tb : WX → TS} {t1 : Addr → Addr → TS} {ts : Addr → Value → Option Addr → TS} {cv : Value} {i : Nat} {Wout : WX}
theorem Gr.er {F H F' H' H2 : Hp} (g : Gr F H F' H') (e : Ex H' H2) : Gr F H F' H2 := ⟨g.ff, g.fh.tr e, g.hh.tr e, fun b a c => g.nw b a c⟩
theorem Own.er {T : Type} [Rep T] [Obj T] {H2 : Hp} {p : Addr} {x : T} (o : Own K F H p x) (e : Ex H H2) : Own K F H2 p x := by
  obtain ⟨⟨u, h1, h2⟩, f⟩ := o
  exact ⟨⟨u, e _ _ h1, h2⟩, f⟩
theorem rn_up {α : Type} [Rep α] {F F1 H1 : Hp} {v : V} {r : List α} (hh : Ex H0 H) (m : rn K F H F1 H1 v r) : rn K F0 H0 F1 H1 v r := by
  obtain ⟨p, vs, h1, h2, h3⟩ := m
  exact ⟨p, vs, h1, ex_back hh h2, h3⟩
theorem s_tryAs {α : Type} (sl : Z → L2.St) (J : α → Hp → Hp → L2.St → Prop) {m : M α} {h : Err → M τ} {k : α → M τ} (q : Wp ce E H0 (catchM m h k) P)
    (hh : ∀ c H' z, Ex H H' → Wp ce E H0 (h c) P → wAs K cv i (tsOf K t1) Wout D (.ref (ce c.name)) none (sl z) H')
    (h1 : ∀ x F1 H1 σ1, J x F1 H1 σ1 → Wp ce E H0 (k x) P → D.nx σ1 H1)
    (hb : ∀ (E' : XK) (P' : α → Prop), (∀ cls d H', E' cls d H' → ∀ z, wAs K cv i (tsOf K t1) Wout D cls d (sl z) H') → (∀ x, P' x → Wp ce E H0 (k x) P) → (∀ x, P' x → ∀ F1 H1 σ1, J x F1 H1 σ1 → D.nx σ1 H1) → Wp ce E' H m P' →
      tb (wAs K cv i (tsOf K t1) Wout D) D σ H) : tTryAs tb K cv i (tsOf K t1) Wout D σ H := by
  refine hb (fun cls d H' => ∀ z, wAs K cv i (tsOf K t1) Wout D cls d (sl z) H') (fun x => Wp ce E H0 (k x) P) (fun _ _ _ e => e) (fun _ p => p) (fun x p F1 H1 σ1 j => h1 x F1 H1 σ1 j p) ?_
  cases m with
  | ok x => exact q
  | er c => exact fun H' e z => hh c H' z e q
  | bad => exact q
theorem s_tryOn {α : Type} (sl : Z → L2.St) (J : α → Hp → Hp → L2.St → Prop) {m : M α} {h : Err → M τ} {k : α → M τ} (q : Wp ce E H0 (catchM m h k) P)
    (hh : ∀ c H' z, Ex H H' → Wp ce E H0 (h c) P → wOnly K cv ts Wout D (.ref (ce c.name)) none (sl z) H')
    (h1 : ∀ x F1 H1 σ1, J x F1 H1 σ1 → Wp ce E H0 (k x) P → D.nx σ1 H1)
    (hb : ∀ (E' : XK) (P' : α → Prop), (∀ cls d H', E' cls d H' → ∀ z, wOnly K cv ts Wout D cls d (sl z) H') → (∀ x, P' x → Wp ce E H0 (k x) P) → (∀ x, P' x → ∀ F1 H1 σ1, J x F1 H1 σ1 → D.nx σ1 H1) → Wp ce E' H m P' →
      tb (wOnly K cv ts Wout D) D σ H) : tTryOn tb K cv ts Wout D σ H := by
  refine hb (fun cls d H' => ∀ z, wOnly K cv ts Wout D cls d (sl z) H') (fun x => Wp ce E H0 (k x) P) (fun _ _ _ e => e) (fun _ p => p) (fun x p F1 H1 σ1 j => h1 x F1 H1 σ1 j p) ?_
  cases m with
  | ok x => exact q
  | er c => exact fun H' e z => hh c H' z e q
  | bad => exact q
theorem q_tryAs {t2 : TS} {α : Type} (sl : Z → L2.St) (J : α → Hp → Hp → L2.St → Prop) {m : M α} {h : Err → M τ} {k : α → M τ} (q : Wp ce E H0 (catchM m h k) P)
    (hh : ∀ c H' z, Ex H H' → Wp ce E H0 (h c) P → wAs K cv i (tsOf K t1) Wout { D with nx := t2 D } (.ref (ce c.name)) none (sl z) H')
    (h1 : ∀ x F1 H1 σ1, J x F1 H1 σ1 → Wp ce E H0 (k x) P → t2 D σ1 H1)
    (hb : ∀ (E' : XK) (P' : α → Prop), (∀ cls d H', E' cls d H' → ∀ z, wAs K cv i (tsOf K t1) Wout { D with nx := t2 D } cls d (sl z) H') → (∀ x, P' x → Wp ce E H0 (k x) P) → (∀ x, P' x → ∀ F1 H1 σ1, J x F1 H1 σ1 → t2 D σ1 H1) → Wp ce E' H m P' →
      tb (wAs K cv i (tsOf K t1) Wout { D with nx := t2 D }) { D with nx := t2 D } σ H) : tSeq (tTryAs tb K cv i (tsOf K t1) Wout) t2 D σ H := s_tryAs (D := { D with nx := t2 D }) sl J q hh h1 hb
theorem q_tryOn {t2 : TS} {α : Type} (sl : Z → L2.St) (J : α → Hp → Hp → L2.St → Prop) {m : M α} {h : Err → M τ} {k : α → M τ} (q : Wp ce E H0 (catchM m h k) P)
    (hh : ∀ c H' z, Ex H H' → Wp ce E H0 (h c) P → wOnly K cv ts Wout { D with nx := t2 D } (.ref (ce c.name)) none (sl z) H')
    (h1 : ∀ x F1 H1 σ1, J x F1 H1 σ1 → Wp ce E H0 (k x) P → t2 D σ1 H1)
    (hb : ∀ (E' : XK) (P' : α → Prop), (∀ cls d H', E' cls d H' → ∀ z, wOnly K cv ts Wout { D with nx := t2 D } cls d (sl z) H') → (∀ x, P' x → Wp ce E H0 (k x) P) → (∀ x, P' x → ∀ F1 H1 σ1, J x F1 H1 σ1 → t2 D σ1 H1) → Wp ce E' H m P' →
      tb (wOnly K cv ts Wout { D with nx := t2 D }) { D with nx := t2 D } σ H) : tSeq (tTryOn tb K cv ts Wout) t2 D σ H := s_tryOn (D := { D with nx := t2 D }) sl J q hh h1 hb
theorem was_yes {A : Addr} (hx : PySem.W.exmOne K (.ref A) cv = some true) (hc : ExcC K A)
    (h : ∀ a, H a = none → t1 A a { nx := fun σ' H' => D.nx (σ'.set i none) H', rt := D.rt, bk := fun σ' H' => D.bk (σ'.set i none) H', ct := fun σ' H' => D.ct (σ'.set i none) H' } (σ.set i (some (.ref a))) H) :
    wAs K cv i (tsOf K t1) Wout D (.ref A) none σ H := ⟨true, hx, fun _ a na => ⟨A, rfl, rfl, hc, h a na⟩, fun z => nomatch z⟩
theorem wonly_yes {A : Addr} {t : TS} (hx : PySem.W.exmOne K (.ref A) cv = some true) (h : t D σ H) : wOnly K cv (fun _ _ _ => t) Wout D (.ref A) none σ H := ⟨true, hx, fun _ a na => h, fun z => nomatch z⟩
/-- a call that may raise, within a try -/
theorem e_callU [MdMo md] {α : Type} {E' : XK} {W : WX} {ta : TA} {x : α} {R : Hp → List V → α → Prop} {f : α → M ρ} (hE : ∀ cls d H', E' cls d H' → W cls d σ H') (ha : EvAM ce E' ta σ F H (.ok x) R) : Ev ce E' (tCallS (SpF ce R md f) (WE W) ta) σ F H md (f x) := fun F1 H1 g1 Q q =>
  ha F1 H1 g1 _ fun F2 H2 vs g2 r2 => ⟨F2, x, g2.fh, r2, by
    have q' := Post.mo g2 q
    cases hm : f x with
    | ok r => rw [hm] at q'; exact q'
    | er c => rw [hm] at q'; exact fun H' e => hE _ _ _ (q' H' e)
    | bad => rw [hm] at q'; exact q'⟩
theorem em_callU [MdMo md] {α : Type} {E' : XK} {W : WX} {ta : TA} {m1 : M α} {R : Hp → List V → α → Prop} {f : α → M ρ} (hE : ∀ cls d H', E' cls d H' → W cls d σ H') (ha : EvAM ce E' ta σ F H m1 R) : Ev ce E' (tCallS (SpF ce R md f) (WE W) ta) σ F H md (m1.bind fun x => f x) := fun F1 H1 g1 Q q => by
  refine ha F1 H1 g1 _ ?_
  cases m1 with
  | ok x =>
    exact fun F2 H2 vs g2 r2 => ⟨F2, x, g2.fh, r2, by
      have q' := Post.mo g2 q
      cases hm : f x with
      | ok r => have e : (M.ok x : M α).bind (fun x => f x) = .ok r := hm; rw [e] at q'; exact q'
      | er c => have e : (M.ok x : M α).bind (fun x => f x) = .er c := hm; rw [e] at q'; exact fun H' e => hE _ _ _ (q' H' e)
      | bad => have e : (M.ok x : M α).bind (fun x => f x) = .bad := hm; rw [e] at q'; exact q'⟩
  | er c => exact q
  | bad => exact q
theorem wp_pos {c : Prop} [Decidable c] {m1 m2 : M τ} (h : c) (w : Wp ce E H0 (if c then m1 else m2) P) : Wp ce E H0 m1 P := by rwa [if_pos h] at w
theorem wp_neg {c : Prop} [Decidable c] {m1 m2 : M τ} (h : ¬ c) (w : Wp ce E H0 (if c then m1 else m2) P) : Wp ce E H0 m2 P := by rwa [if_neg h] at w
end
/-! ### what isinstance and except ask of classes -/
theorem kit_own {K : PySem.W.Frag} {A T : Addr} {b : Bool} (hd : PySem.W.hasDictIn K T = true) (ht : PySem.W.typeIn K (.ref T) = some (.type "type")) (hs : PySem.W.subIn K (.ref A) (.ref T) = some b) (hb : (A == T) = true → b = true) : PySem.W.kitOne K (.ref A) (.ref T) = some b := by
  obtain ⟨cd, hc, _⟩ := PySem.W.any_some hd
  unfold PySem.W.kitOne
  by_cases e : (Value.ref A == Value.ref T) = true
  · rw [if_pos e, hb (by
      have := beq_iff_eq.mp e
      cases this
      exact beq_self_eq_true A)]
  · rw [if_neg e]
    show (if ((PySem.W.clsIn K T).isSome && PySem.W.typeIn K (.ref T) == some (.type "type")) = true then PySem.W.subIn K (.ref A) (.ref T) else none) = some b
    rw [if_pos (by rw [hc, ht]; rfl)]
    exact hs
theorem kit_bt {K : PySem.W.Frag} {A : Addr} {T : String} {b : Bool} (hm : PySem.W.kitMeta T = true) (hs : PySem.W.subIn K (.ref A) (.type T) = some b) : PySem.W.kitOne K (.ref A) (.type T) = some b := by
  unfold PySem.W.kitOne
  have e : ¬ (Value.ref A == Value.type T) = true := fun z => by
    have := beq_iff_eq.mp z
    cases this
  rw [if_neg e]
  show (if PySem.W.kitMeta T = true then PySem.W.subIn K (.ref A) (.type T) else none) = some b
  rw [if_pos hm]
  exact hs
end Mw

set_option Elab.async false
set_option linter.all false
set_option maxRecDepth 100000
set_option maxHeartbeats 2000000
/-! Mw, part L: all, any. -/
namespace Mw
open PySem L2
open Rep (rp)
section
variable {ρ α β : Type} [Rep α] {ce : Ce} {E : XK} {K : PySem.W.Frag}
theorem paired_bool {H : Hp} : ∀ {vs : List V} {xs : List Bool}, Paired (rp K H) vs xs → vs = xs.map V.bl
  | _, _, .nil => rfl
  | _, _, .cons h t => by
    cases h
    rw [paired_bool t]
    rfl
theorem a_all {xs : List Bool} : OpA ce E (RC K R0) (rAll K) (rv K) (xs, ()) (.ok (xs.all id)) := fun F1 H1 vs e ⟨v, r, e1, ⟨a, us, h1, h2, h3⟩, e3⟩ Q q => by
  cases e3
  subst e1 h1
  have := paired_bool h3
  subst this
  exact ⟨a, xs, rfl, SqL.of (e _ _ h2), q _ _ _ (Gr.rf e) rfl⟩
theorem a_any {xs : List Bool} : OpA ce E (RC K R0) (rAny K) (rv K) (xs, ()) (.ok (xs.any id)) := fun F1 H1 vs e ⟨v, r, e1, ⟨a, us, h1, h2, h3⟩, e3⟩ Q q => by
  cases e3
  subst e1 h1
  have := paired_bool h3
  subst this
  exact ⟨a, xs, rfl, SqL.of (e _ _ h2), q _ _ _ (Gr.rf e) rfl⟩
end
noncomputable def setM {α : Type} (xs : List α) (i : Int) (x : α) : M (List α) := match ixN xs.length i with
  | some j => .ok (xs.set j x)
  | none => .bad
noncomputable def insM {α : Type} (xs : List α) (i : Int) (x : α) : M (List α) := chk (xs.length < 16000000 ∧ 0 ≤ i ∧ i < 2 ^ 63) (xs.take i.toNat ++ [x] ++ xs.drop i.toNat)
noncomputable def popAtM {α : Type} (xs : List α) (i : Int) : M (List α) := match seqIndex? i xs.length with
  | some j => chk (-(2 ^ 63) ≤ i ∧ i < 2 ^ 63 ∧ j < xs.length) (xs.eraseIdx j)
  | none => .bad
theorem paired_setA {α β : Type} {F : α → β → Prop} {v : α} {x : β} (h : F v x) : ∀ {vs : List α} {xs : List β} (j : Nat), Paired F vs xs → Paired F (vs.set j v) (xs.set j x)
  | _, _, _, .nil => .nil
  | _, _, 0, .cons _ t => .cons h t
  | _, _, j + 1, .cons a t => .cons a (paired_setA h j t)
theorem paired_erase {α β : Type} {F : α → β → Prop} : ∀ {vs : List α} {xs : List β} (j : Nat), Paired F vs xs → Paired F (vs.eraseIdx j) (xs.eraseIdx j)
  | _, _, _, .nil => .nil
  | _, _, 0, .cons _ t => t
  | _, _, j + 1, .cons a t => .cons a (paired_erase j t)
def rIns : V → List V → Hp → VK → Prop := fun x vs H Q => ∃ (l : Addr) (xs : List V) (i : Int) (y : V), x = .ref l ∧ vs = [.int i, y] ∧ H l = some (.lst xs) ∧ xs.length < sizeLine ∧ 0 ≤ i ∧ i < 2 ^ 63 ∧ Q .non (upd H l (.lst (xs.take i.toNat ++ [y] ++ xs.drop i.toNat)))
section
variable {τ α : Type} [Rep α] {ce : Ce} {E : XK} {K : PySem.W.Frag} {σ : L2.St} {F H F0 H0 : Hp} {te ti : TE} {D : Ends} {P : τ → Prop}
theorem s_setl (A : List Addr) {i : Nat} {p : Addr} {xs : List α} {m1 : M α} {m2 : M Int} {k : List α → M τ} [Flat α] (hp : σ[i]? = some (some (.ref p))) (o : Own K F H p xs) (n0 : H0 p = none) (G : Gr F0 H0 F H)
    (q : Wp ce E H0 (m1.bind fun x => m2.bind fun y => (setM xs y x).bind k) P) (hF : ∀ p ∈ A, F p = none) (hA : ∀ p ∈ A, ∃ o, H p = some o ∧ NoTup o) (h : Ev ce E te σ (fz F H A) H (rv K) m1) (hk : Ev ce E ti σ (fz F H A) H (rv K) m2)
    (c : ∀ ys F1 H1, Ex F F1 → Gr F0 H0 F1 H1 → Own K F1 H1 p ys → (∀ (T : Type) [Rep T] [Obj T] (q : Addr) (z : T), q ≠ p → Own K F H q z → Own K F1 H1 q z) → Wp ce E H0 (k ys) P → D.nx σ H1) :
    tAsg te (gSub (tVar i) ti rSetL) D σ H := by
  obtain ⟨vs, h1, h2⟩ := o.lst
  have hf := o.f
  have hA' : ∀ p ∈ A, H p ≠ none := fun p m => by obtain ⟨o, e, _⟩ := hA p m; rw [e]; exact fun z => nomatch z
  refine h _ H (Gr.rf (fz_h G.fh)) _ ?_
  cases m1 with
  | ok x =>
    intro F1 H1 v g0 r0
    refine ⟨.ref p, hp, hk F1 H1 g0 _ ?_⟩
    have q2 : Wp ce E H0 (m2.bind fun y => (setM xs y x).bind k) P := q
    cases m2 with
    | ok y =>
      rintro F2 H2 vy g1 rfl
      have gg := g0.tr g1
      have g := gr_th hF hA' G.fh gg
      have r : rp K (th F2 A) v x := Flat.fl (th_of hA gg) (Rep.mo g1.ff r0)
      have w' : Wp ce E H0 ((setM xs y x).bind k) P := q2
      unfold setM at w'
      split at w'
      · rename_i j hj
        rw [← Paired.length h2] at hj
        have hf1 : th F2 A p = none := g.nw p hf (by rw [h1]; exact fun z => nomatch z)
        exact ⟨p, vs, y, j, rfl, rfl, g.hh _ _ h1, hj, c _ _ _ g.ff (Gr.mut (G.tr g) n0 hf1) (own_new hf1 upd_same (paired_setA r j (paired_mo g.ff h2))) (fun T _ _ q z hq o => (o.mo g).upd hq) w'⟩
      · exact w'.elim
    | er cc => exact fun H' e => q2 H' ((G.hh.tr g0.hh).tr e)
    | bad => exact q2
  | er cc => exact fun H' e => q H' (G.hh.tr e)
  | bad => exact q
theorem s_insl (A : List Addr) {i : Nat} {p : Addr} {xs : List α} {m1 : M Int} {m2 : M α} {k : List α → M τ} [Flat α] (hp : σ[i]? = some (some (.ref p))) (o : Own K F H p xs) (n0 : H0 p = none) (G : Gr F0 H0 F H)
    (q : Wp ce E H0 (m1.bind fun y => m2.bind fun x => (insM xs y x).bind k) P) (hF : ∀ p ∈ A, F p = none) (hA : ∀ p ∈ A, ∃ o, H p = some o ∧ NoTup o) (hk : Ev ce E ti σ (fz F H A) H (rv K) m1) (h : Ev ce E te σ (fz F H A) H (rv K) m2)
    (c : ∀ ys F1 H1, Ex F F1 → Gr F0 H0 F1 H1 → Own K F1 H1 p ys → (∀ (T : Type) [Rep T] [Obj T] (q : Addr) (z : T), q ≠ p → Own K F H q z → Own K F1 H1 q z) → Wp ce E H0 (k ys) P → D.nx σ H1) :
    tDrop (tBM K "list" rIns (tVar i) (tCons ti (tCons te tNil))) D σ H := by
  obtain ⟨vs, h1, h2⟩ := o.lst
  have hf := o.f
  have hA' : ∀ p ∈ A, H p ≠ none := fun p m => by obtain ⟨o, e, _⟩ := hA p m; rw [e]; exact fun z => nomatch z
  refine ⟨.ref p, hp, .inl ⟨rfl, vs, SqL.of h1⟩, hk _ H (Gr.rf (fz_h G.fh)) _ ?_⟩
  cases m1 with
  | ok y =>
    rintro F1 H1 vy g0 rfl
    refine h F1 H1 g0 _ ?_
    have q2 : Wp ce E H0 (m2.bind fun x => (insM xs y x).bind k) P := q
    cases m2 with
    | ok x =>
      intro F2 H2 v g1 r0
      have gg := g0.tr g1
      have g := gr_th hF hA' G.fh gg
      have r : rp K (th F2 A) v x := Flat.fl (th_of hA gg) r0
      have w' : Wp ce E H0 ((insM xs y x).bind k) P := q2
      unfold insM chk at w'
      split at w'
      · rename_i hc
        have hf1 : th F2 A p = none := g.nw p hf (by rw [h1]; exact fun z => nomatch z)
        refine ⟨p, vs, y, v, rfl, rfl, g.hh _ _ h1, by rw [Paired.length h2, sizeLine_eq]; omega, hc.2.1, hc.2.2, ?_⟩
        have pm := paired_mo (K := K) g.ff h2
        exact c _ _ _ g.ff (Gr.mut (G.tr g) n0 hf1) (own_new hf1 upd_same (paired_app (paired_app (paired_take _ pm) (.cons r .nil)) (paired_drop _ pm))) (fun T _ _ q z hq o => (o.mo g).upd hq) w'
      · exact w'.elim
    | er cc => exact fun H' e => q2 H' ((G.hh.tr g0.hh).tr e)
    | bad => exact q2
  | er cc => exact fun H' e => q H' (G.hh.tr e)
  | bad => exact q
theorem s_popl (A : List Addr) {i : Nat} {p : Addr} {xs : List α} {m1 : M Int} {k : List α → M τ} (hp : σ[i]? = some (some (.ref p))) (o : Own K F H p xs) (n0 : H0 p = none) (G : Gr F0 H0 F H)
    (q : Wp ce E H0 (m1.bind fun y => (popAtM xs y).bind k) P) (hF : ∀ p ∈ A, F p = none) (hA : ∀ p ∈ A, ∃ o, H p = some o ∧ NoTup o) (hk : Ev ce E ti σ (fz F H A) H (rv K) m1)
    (c : ∀ ys F1 H1, Ex F F1 → Gr F0 H0 F1 H1 → Own K F1 H1 p ys → (∀ (T : Type) [Rep T] [Obj T] (q : Addr) (z : T), q ≠ p → Own K F H q z → Own K F1 H1 q z) → Wp ce E H0 (k ys) P → D.nx σ H1) :
    tDrop (tBM K "list" rPopAt (tVar i) (tCons ti tNil)) D σ H := by
  obtain ⟨vs, h1, h2⟩ := o.lst
  have hf := o.f
  have hA' : ∀ p ∈ A, H p ≠ none := fun p m => by obtain ⟨o, e, _⟩ := hA p m; rw [e]; exact fun z => nomatch z
  refine ⟨.ref p, hp, .inl ⟨rfl, vs, SqL.of h1⟩, hk _ H (Gr.rf (fz_h G.fh)) _ ?_⟩
  cases m1 with
  | ok y =>
    rintro F1 H1 vy g0 rfl
    have g := gr_th hF hA' G.fh g0
    have w' : Wp ce E H0 ((popAtM xs y).bind k) P := q
    unfold popAtM at w'
    split at w'
    · rename_i j hj
      unfold chk at w'
      split at w'
      · rename_i hc
        rw [← Paired.length h2] at hj
        have hl : j < vs.length := by rw [Paired.length h2]; exact hc.2.2
        have hf1 : th F1 A p = none := g.nw p hf (by rw [h1]; exact fun z => nomatch z)
        exact ⟨p, vs, y, j, _, rfl, rfl, g.hh _ _ h1, hc.1, hc.2.1, hj, List.getElem?_eq_getElem hl, c _ _ _ g.ff (Gr.mut (G.tr g) n0 hf1) (own_new hf1 upd_same (paired_erase j (paired_mo g.ff h2))) (fun T _ _ q z hq o => (o.mo g).upd hq) w'⟩
      · exact w'.elim
    · exact w'.elim
  | er cc => exact fun H' e => q H' (G.hh.tr e)
  | bad => exact q
variable {t2 : TS}
theorem q_setl (A : List Addr) {i : Nat} {p : Addr} {xs : List α} {m1 : M α} {m2 : M Int} {k : List α → M τ} [Flat α] (hp : σ[i]? = some (some (.ref p))) (o : Own K F H p xs) (n0 : H0 p = none) (G : Gr F0 H0 F H)
    (q : Wp ce E H0 (m1.bind fun x => m2.bind fun y => (setM xs y x).bind k) P) (hF : ∀ p ∈ A, F p = none) (hA : ∀ p ∈ A, ∃ o, H p = some o ∧ NoTup o) (h : Ev ce E te σ (fz F H A) H (rv K) m1) (hk : Ev ce E ti σ (fz F H A) H (rv K) m2)
    (c : ∀ ys F1 H1, Ex F F1 → Gr F0 H0 F1 H1 → Own K F1 H1 p ys → (∀ (T : Type) [Rep T] [Obj T] (q : Addr) (z : T), q ≠ p → Own K F H q z → Own K F1 H1 q z) → Wp ce E H0 (k ys) P → t2 D σ H1) :
    tSeq (tAsg te (gSub (tVar i) ti rSetL)) t2 D σ H := s_setl (D := { D with nx := t2 D }) A hp o n0 G q hF hA h hk c
theorem q_insl (A : List Addr) {i : Nat} {p : Addr} {xs : List α} {m1 : M Int} {m2 : M α} {k : List α → M τ} [Flat α] (hp : σ[i]? = some (some (.ref p))) (o : Own K F H p xs) (n0 : H0 p = none) (G : Gr F0 H0 F H)
    (q : Wp ce E H0 (m1.bind fun y => m2.bind fun x => (insM xs y x).bind k) P) (hF : ∀ p ∈ A, F p = none) (hA : ∀ p ∈ A, ∃ o, H p = some o ∧ NoTup o) (hk : Ev ce E ti σ (fz F H A) H (rv K) m1) (h : Ev ce E te σ (fz F H A) H (rv K) m2)
    (c : ∀ ys F1 H1, Ex F F1 → Gr F0 H0 F1 H1 → Own K F1 H1 p ys → (∀ (T : Type) [Rep T] [Obj T] (q : Addr) (z : T), q ≠ p → Own K F H q z → Own K F1 H1 q z) → Wp ce E H0 (k ys) P → t2 D σ H1) :
    tSeq (tDrop (tBM K "list" rIns (tVar i) (tCons ti (tCons te tNil)))) t2 D σ H := s_insl (D := { D with nx := t2 D }) A hp o n0 G q hF hA hk h c
theorem q_popl (A : List Addr) {i : Nat} {p : Addr} {xs : List α} {m1 : M Int} {k : List α → M τ} (hp : σ[i]? = some (some (.ref p))) (o : Own K F H p xs) (n0 : H0 p = none) (G : Gr F0 H0 F H)
    (q : Wp ce E H0 (m1.bind fun y => (popAtM xs y).bind k) P) (hF : ∀ p ∈ A, F p = none) (hA : ∀ p ∈ A, ∃ o, H p = some o ∧ NoTup o) (hk : Ev ce E ti σ (fz F H A) H (rv K) m1)
    (c : ∀ ys F1 H1, Ex F F1 → Gr F0 H0 F1 H1 → Own K F1 H1 p ys → (∀ (T : Type) [Rep T] [Obj T] (q : Addr) (z : T), q ≠ p → Own K F H q z → Own K F1 H1 q z) → Wp ce E H0 (k ys) P → t2 D σ H1) :
    tSeq (tDrop (tBM K "list" rPopAt (tVar i) (tCons ti tNil))) t2 D σ H := s_popl (D := { D with nx := t2 D }) A hp o n0 G q hF hA hk c
end
end Mw

set_option Elab.async false
set_option linter.all false
set_option maxRecDepth 100000
set_option maxHeartbeats 2000000
/-! Mw, part M: lists of two unlike things. -/
namespace Mw
open PySem L2
open Rep (rp)
/-- a word: a text that may stand in data that is compared -/
structure Wd where
  s : Str
  ok : PyData.canLay0 (.str s) = true
  deriving DecidableEq
def wd (x : Str) : Wd := if h : PyData.canLay0 (.str x) = true then ⟨x, h⟩ else ⟨Str.ofString "", by decide +kernel⟩
instance : Rep Wd := ⟨fun _ _ v x => v = .str x.s, fun _ h => h⟩
instance : Dat Wd := ⟨fun w => .str w.s, 0, fun {K H v x} h => by cases h; exact .str x.s, fun x => x.ok, fun _ => Nat.le_refl _, fun x y => by
  obtain ⟨x, hx⟩ := x
  obtain ⟨y, hy⟩ := y
  simp only [PyData.eqv, Wd.mk.injEq]
  rw [Bool.eq_iff_iff]; simp⟩
instance : NotN Wd := ⟨fun x => ⟨by show PyData.eqv .none (.str x.s) = false; simp [PyData.eqv], by show PyData.eqv (.str x.s) .none = false; simp [PyData.eqv]⟩⟩
instance : NN Wd := ⟨fun h => by cases h; exact fun z => nomatch z⟩
theorem wd_s {x : Str} (h : PyData.canLay0 (.str x) = true) : (wd x).s = x := by unfold wd; rw [dif_pos h]
structure H2 (α β : Type) where
  a : α
  b : β
  deriving DecidableEq
instance {α β : Type} [Rep α] [Rep β] : Rep (H2 α β) := ⟨fun K H v x => ∃ p u w, v = .ref p ∧ H p = some (.lst [u, w]) ∧ rp K H u x.a ∧ rp K H w x.b, fun e ⟨p, u, w, h1, h2, h3, h4⟩ => ⟨p, u, w, h1, e _ _ h2, Rep.mo e h3, Rep.mo e h4⟩⟩
instance {α β : Type} [Rep α] [Rep β] [DecidableEq α] [DecidableEq β] [Dat α] [Dat β] : Dat (H2 α β) where
  dat := fun x => .list [Dat.dat x.a, Dat.dat x.b]
  deep := max (Dat.deep α) (Dat.deep β) + 1
  dp := fun {K H v x} ⟨a, u, w, h1, h2, h3, h4⟩ => by subst h1; exact .lst (SqL.of h2) (.cons (Dat.dp h3) (.cons (Dat.dp h4) .nil))
  cl := fun x => by simp [PyData.canLay0, PyData.canLayAll0, Dat.cl]
  de := fun x => by
    show max (PyData.depth _) (max (PyData.depth _) 0) + 1 ≤ _
    have h1 := Dat.de x.a
    have h2 := Dat.de x.b
    omega
  eq := fun x y => by
    obtain ⟨x1, x2⟩ := x
    obtain ⟨y1, y2⟩ := y
    simp only [PyData.eqv, PyData.eqvAll, Dat.eq, Bool.and_true, H2.mk.injEq]
    simp
section
variable {α β : Type} [Rep α] [Rep β] {ce : Ce} {E : XK} {K : PySem.W.Frag} {σ : L2.St} {F H : Hp} {ta tb : TE}
theorem em_h2 {m1 : M α} {m2 : M β} (ha : Ev ce E ta σ F H (rv K) m1) (hb : Ev ce E tb σ F H (rv K) m2) : Ev ce E (tLst (tCons ta (tCons tb tNil))) σ F H (rv K) (m1.bind fun x => m2.bind fun y => .ok (H2.mk x y)) := fun F1 H1 g1 Q q => by
  refine ha F1 H1 g1 _ ?_
  cases m1 with
  | ok x =>
    intro F2 H2 v2 g2 q2
    refine hb F2 H2 (g1.tr g2) _ ?_
    cases m2 with
    | ok y =>
      refine fun F3 H3 v3 g3 q3 => ⟨by show 2 ≤ sizeLine; decide, fun p np => ?_⟩
      have e := Ex.nw (o := .lst [v2, v3]) (ex_back g3.fh np)
      exact q _ _ _ ((g2.tr g3).tr (Gr.new g3.fh np)) ⟨p, v2, v3, rfl, upd_same, Rep.mo (g3.ff.tr e) q2, Rep.mo e q3⟩
    | er c => exact fun H' e => q H' (g2.hh.tr e)
    | bad => exact q
  | er c => exact q
  | bad => exact q
theorem e_h2 {x : α} {y : β} (ha : Ev ce E ta σ F H (rv K) (.ok x)) (hb : Ev ce E tb σ F H (rv K) (.ok y)) : Ev ce E (tLst (tCons ta (tCons tb tNil))) σ F H (rv K) (.ok (H2.mk x y)) := em_h2 (m1 := .ok x) (m2 := .ok y) ha hb
theorem o_h2a {x : H2 α β} {i : Int} (hi : i = 0) : Op2 ce E K (rIxL K) (rv K) x i (.ok x.a) := fun F1 H1 vx vy e rx ry Q q => by
  obtain ⟨p, u, w, rfl, h2, h3, h4⟩ := rx
  cases ry
  subst hi
  exact ⟨p, [u, w], 0, u, rfl, rfl, SqL.of (e _ _ h2), rfl, q F1 H1 u (Gr.rf e) h3⟩
theorem o_h2b {x : H2 α β} {i : Int} (hi : i = 1) : Op2 ce E K (rIxL K) (rv K) x i (.ok x.b) := fun F1 H1 vx vy e rx ry Q q => by
  obtain ⟨p, u, w, rfl, h2, h3, h4⟩ := rx
  cases ry
  subst hi
  exact ⟨p, [u, w], 1, w, rfl, rfl, SqL.of (e _ _ h2), rfl, q F1 H1 w (Gr.rf e) h4⟩
theorem em_wd {x : Str} (h : PyData.canLay0 (.str x) = true) : Ev ce E (tC (.str x)) σ F H (rv K) (.ok (wd x)) := fun F1 H1 g Q q => q F1 H1 _ (Gr.rf g.fh) (by show V.str x = V.str (wd x).s; rw [wd_s h])
theorem wd_eq {x y : Wd} : decide (V.str x.s = V.str y.s) = decide (x = y) := by
  obtain ⟨x, hx⟩ := x
  obtain ⟨y, hy⟩ := y
  rw [Bool.eq_iff_iff]
  simp
theorem o_eqW {x y : Wd} : Op2 ce E K rEq (rv K) x y (.ok (decide (x = y))) := fun F1 H1 vx vy e rx ry Q q => by
  cases rx; cases ry
  refine ⟨rfl, ?_⟩
  rw [wd_eq]
  exact q F1 H1 _ (Gr.rf e) rfl
theorem o_neW {x y : Wd} : Op2 ce E K rNe (rv K) x y (.ok (!decide (x = y))) := fun F1 H1 vx vy e rx ry Q q => by
  cases rx; cases ry
  refine ⟨rfl, ?_⟩
  rw [wd_eq]
  exact q F1 H1 _ (Gr.rf e) rfl
end
end Mw

set_option Elab.async false
set_option linter.all false
set_option maxRecDepth 100000
set_option maxHeartbeats 2000000
/-! Mw, part N: quadruples; trees of triples over ints. -/
namespace Mw
open PySem L2
open Rep (rp)
instance {α β γ δ : Type} [Rep α] [Rep β] [Rep γ] [Rep δ] [DecidableEq α] [DecidableEq β] [DecidableEq γ] [DecidableEq δ] [Dat α] [Dat β] [Dat γ] [Dat δ] : Dat (T4 α β γ δ) where
  dat := fun x => .tuple [Dat.dat x.a, Dat.dat x.b, Dat.dat x.c, Dat.dat x.d]
  deep := max (Dat.deep α) (max (Dat.deep β) (max (Dat.deep γ) (Dat.deep δ))) + 1
  dp := fun {K H v x} ⟨a, u, w, z, y, h1, h2, h3, h4, h5, h6⟩ => by subst h1; exact .tup h2 (.cons (Dat.dp h3) (.cons (Dat.dp h4) (.cons (Dat.dp h5) (.cons (Dat.dp h6) .nil))))
  cl := fun x => by simp [PyData.canLay0, PyData.canLayAll0, Dat.cl]
  de := fun x => by
    show max (PyData.depth _) (max (PyData.depth _) (max (PyData.depth _) (max (PyData.depth _) 0))) + 1 ≤ _
    have h1 := Dat.de x.a
    have h2 := Dat.de x.b
    have h3 := Dat.de x.c
    have h4 := Dat.de x.d
    omega
  eq := fun x y => by
    obtain ⟨x1, x2, x3, x4⟩ := x
    obtain ⟨y1, y2, y3, y4⟩ := y
    simp only [PyData.eqv, PyData.eqvAll, Dat.eq, Bool.and_true, T4.mk.injEq]
    simp
instance {α β γ δ : Type} [Rep α] [Rep β] [Rep γ] [Rep δ] [DecidableEq α] [DecidableEq β] [DecidableEq γ] [DecidableEq δ] [Dat α] [Dat β] [Dat γ] [Dat δ] : NotN (T4 α β γ δ) := ⟨fun x => ⟨by show PyData.eqv .none (.tuple _) = false; simp [PyData.eqv], by show PyData.eqv (.tuple _) .none = false; simp [PyData.eqv]⟩⟩
section
variable {ρ α β γ δ W τ : Type} [Rep α] [Rep β] [Rep γ] [Rep δ] {ce : Ce} {E : XK} {K : PySem.W.Frag} {σ : L2.St} {F H F' H' F0 H0 : Hp} {te ta tb tc td : TE} {tt tu : TT} {md : Md ρ} {m : M ρ}
theorem em_tup4 {m1 : M α} {m2 : M β} {m3 : M γ} {m4 : M δ} (ha : Ev ce E ta σ F H (rv K) m1) (hb : Ev ce E tb σ F H (rv K) m2) (hc : Ev ce E tc σ F H (rv K) m3) (hd : Ev ce E td σ F H (rv K) m4) :
    Ev ce E (tTup (tCons ta (tCons tb (tCons tc (tCons td tNil))))) σ F H (rv K) (m1.bind fun x => m2.bind fun y => m3.bind fun z => m4.bind fun u => .ok (T4.mk x y z u)) := fun F1 H1 g1 Q q => by
  refine ha F1 H1 g1 _ ?_
  cases m1 with
  | ok x =>
    intro F2 H2 v2 g2 q2
    refine hb F2 H2 (g1.tr g2) _ ?_
    cases m2 with
    | ok y =>
      intro F3 H3 v3 g3 q3
      refine hc F3 H3 ((g1.tr g2).tr g3) _ ?_
      cases m3 with
      | ok z =>
        intro F4 H4 v4 g4 q4
        refine hd F4 H4 (((g1.tr g2).tr g3).tr g4) _ ?_
        cases m4 with
        | ok u =>
          refine fun F5 H5 v5 g5 q5 => ⟨by show 4 ≤ sizeLine; decide, fun p np => ?_⟩
          have e := Ex.nw (o := .tup [v2, v3, v4, v5]) (ex_back g5.fh np)
          exact q _ _ _ ((((g2.tr g3).tr g4).tr g5).tr (Gr.new g5.fh np)) ⟨p, v2, v3, v4, v5, rfl, SqT.of upd_same, Rep.mo (((g3.ff.tr g4.ff).tr g5.ff).tr e) q2, Rep.mo ((g4.ff.tr g5.ff).tr e) q3, Rep.mo (g5.ff.tr e) q4, Rep.mo e q5⟩
        | er c => exact fun H' e => q H' (((g2.tr g3).tr g4).hh.tr e)
        | bad => exact q
      | er c => exact fun H' e => q H' ((g2.tr g3).hh.tr e)
      | bad => exact q
    | er c => exact fun H' e => q H' (g2.hh.tr e)
    | bad => exact q
  | er c => exact q
  | bad => exact q
theorem e_tup4 {x : α} {y : β} {z : γ} {u : δ} (ha : Ev ce E ta σ F H (rv K) (.ok x)) (hb : Ev ce E tb σ F H (rv K) (.ok y)) (hc : Ev ce E tc σ F H (rv K) (.ok z)) (hd : Ev ce E td σ F H (rv K) (.ok u)) : Ev ce E (tTup (tCons ta (tCons tb (tCons tc (tCons td tNil))))) σ F H (rv K) (.ok (T4.mk x y z u)) := em_tup4 (m1 := .ok x) (m2 := .ok y) (m3 := .ok z) (m4 := .ok u) ha hb hc hd
theorem o_a4 {x : T4 α β γ δ} {i : Int} (hi : i = 0) : Op2 ce E K (rIxT K) (rv K) x i (.ok x.a) := fun F1 H1 vx vy e ⟨a, u, w, z, y, e1, e2, e3, e4, e5, e6⟩ ry Q q => by
  subst e1 hi
  cases ry
  exact ⟨a, [u, w, z, y], 0, u, rfl, rfl, ex_t e e2, rfl, q F1 H1 u (Gr.rf e) e3⟩
theorem o_b4 {x : T4 α β γ δ} {i : Int} (hi : i = 1) : Op2 ce E K (rIxT K) (rv K) x i (.ok x.b) := fun F1 H1 vx vy e ⟨a, u, w, z, y, e1, e2, e3, e4, e5, e6⟩ ry Q q => by
  subst e1 hi
  cases ry
  exact ⟨a, [u, w, z, y], 1, w, rfl, rfl, ex_t e e2, rfl, q F1 H1 w (Gr.rf e) e4⟩
theorem o_c4 {x : T4 α β γ δ} {i : Int} (hi : i = 2) : Op2 ce E K (rIxT K) (rv K) x i (.ok x.c) := fun F1 H1 vx vy e ⟨a, u, w, z, y, e1, e2, e3, e4, e5, e6⟩ ry Q q => by
  subst e1 hi
  cases ry
  exact ⟨a, [u, w, z, y], 2, z, rfl, rfl, ex_t e e2, rfl, q F1 H1 z (Gr.rf e) e5⟩
theorem o_d4 {x : T4 α β γ δ} {i : Int} (hi : i = 3) : Op2 ce E K (rIxT K) (rv K) x i (.ok x.d) := fun F1 H1 vx vy e ⟨a, u, w, z, y, e1, e2, e3, e4, e5, e6⟩ ry Q q => by
  subst e1 hi
  cases ry
  exact ⟨a, [u, w, z, y], 3, y, rfl, rfl, ex_t e e2, rfl, q F1 H1 y (Gr.rf e) e6⟩
theorem a_len4 {x : T4 α β γ δ} : OpA ce E (RC K R0) (rLenS K) (rv K) (x, ()) (.ok (4 : Int)) := fun F1 H1 vs e ⟨v, r, e1, ⟨a, u, w, z, y, h1, h2, h3, h4, h5, h6⟩, e3⟩ Q q => by
  cases e3
  subst e1 h1
  exact ⟨a, _, rfl, .inr (ex_t e h2), q F1 H1 _ (Gr.rf e) rfl⟩
def RTup4 (K : PySem.W.Frag) {α β γ δ : Type} [Rep α] [Rep β] [Rep γ] [Rep δ] (i j l n : Nat) : L2.St → Hp → L2.St → T4 α β γ δ → Prop := fun σ0 F σ2 x => ∃ u w z y, σ2 = (((σ0.set i (some u)).set j (some w)).set l (some z)).set n (some y) ∧ rp K F u x.a ∧ rp K F w x.b ∧ rp K F z x.c ∧ rp K F y x.d
theorem tg_tup4 {i j l n : Nat} : Tg K (α := T4 α β γ δ) (gTup K 4 (gCons (gName i) (gCons (gName j) (gCons (gName l) (gCons (gName n) gNil))))) (RTup4 K i j l n) := fun σ0 F H v x e ⟨a, u, w, z, y, h1, h2, h3, h4, h5, h6⟩ Q q =>
  ⟨a, [u, w, z, y], h1, ex_t e h2, rfl, u, [w, z, y], rfl, w, [z, y], rfl, z, [y], rfl, y, [], rfl, rfl, q _ ⟨u, w, z, y, rfl, h3, h4, h5, h6⟩⟩
theorem wipe4 {σ : L2.St} {i j l m : Nat} {u v w x : Option V} : wipe (((((wipe σ [i, j, l, m]).set i u).set j v).set l w).set m x) [i, j, l, m] = wipe σ [i, j, l, m] := by
  show (((((((((((σ.set m none).set l none).set j none).set i none).set i u).set j v).set l w).set m x).set m none).set l none).set j none).set i none = (((σ.set m none).set l none).set j none).set i none
  apply List.ext_getElem?
  intro n
  simp only [List.getElem?_set, List.length_set]
  by_cases a : i = n
  · subst a; simp
  · by_cases b : j = n
    · subst b; simp [a]
    · by_cases c : l = n
      · subst c; simp [a, b]
      · by_cases d : m = n
        · subst d; simp [a, b, c]
        · simp [a, b, c, d]
end
/-! ### a list of one's own is walked: lent to the loop, taken back behind it -/
section
variable {K : PySem.W.Frag} {F H F' H' F0 H0 F1 H1 : Hp} {T : Type} [Rep T] [Obj T]
theorem own_lend {p : Addr} {x : T} (G : Gr F0 H0 F H) (o : Own K F H p x) (n0 : H0 p = none) : ∃ F', Gr F0 H0 F' H ∧ Ex F F' ∧ rp K F' (.ref p) x ∧ (∀ q, q ≠ p → F' q = F q) ∧ F' p = H p := by
  obtain ⟨⟨u, h1, h2⟩, h3⟩ := o
  refine ⟨upd F p u, ⟨G.ff.tr (Ex.nw h3), fun a w e => ?_, G.hh, fun b a1 a2 => ?_⟩, Ex.nw h3, Obj.rep upd_same (Obj.mo (Ex.nw h3) h2), fun q hq => upd_ne hq, by rw [upd_same, h1]⟩
  · by_cases z : a = p
    · subst z; rw [upd_same] at e; rw [h1]; exact e
    · rw [upd_ne z] at e; exact G.fh a w e
  · have : b ≠ p := fun z => by subst z; exact a2 n0
    rw [upd_ne this]; exact G.nw b a1 a2
theorem own_back {p : Addr} {x : T} (o : Own K F H p x) (n0 : F0 p = none) (e : Ex F F') (hp : F' p = H p) (e1 : Ex F' F1) (G : Gr F0 H0 F1 H1) : ∃ Fu, Gr F0 H0 Fu H1 ∧ Ex F Fu ∧ Own K Fu H1 p x ∧ TupEx F1 Fu ∧ (∀ q, q ≠ p → Fu q = F1 q) := by
  obtain ⟨⟨u, h1, h2⟩, h3⟩ := o
  have a1 : F1 p = some u := e1 _ _ (by rw [hp]; exact h1)
  have a2 : H1 p = some u := G.fh _ _ a1
  have aq : ∀ q, q ≠ p → th F1 [p] q = F1 q := fun q hq => by unfold th; rw [if_neg (by simpa using hq)]
  have ap : th F1 [p] p = none := by unfold th; rw [if_pos (by simp)]
  have ee : Ex F (th F1 [p]) := fun a w h => by
    have : a ≠ p := fun z => by subst z; rw [h3] at h; cases h
    rw [aq a this]; exact e1 _ _ (e _ _ h)
  refine ⟨th F1 [p], ⟨fun a w h => ?_, fun a w h => ?_, G.hh, fun b b1 b2 => ?_⟩, ee, ⟨⟨u, a2, Obj.mo ee h2⟩, ap⟩, ?_, aq⟩
  · have : a ≠ p := fun z => by subst z; rw [n0] at h; cases h
    rw [aq a this]; exact G.ff a w h
  · have : a ≠ p := fun z => by subst z; rw [ap] at h; cases h
    rw [aq a this] at h; exact G.fh a w h
  · by_cases z : b = p
    · subst z; exact ap
    · rw [aq b z]; exact G.nw b b1 b2
  · refine th_tup fun q m xs r => ?_
    rw [List.mem_singleton.mp m] at r
    have nt := Obj.nt h2
    rcases r with r | ⟨w, r⟩
    · rw [a1] at r; exact nt.1 xs (Option.some.inj r)
    · rw [a1] at r; exact nt.2 w xs (Option.some.inj r)
theorem own_fl {α : Type} [Rep α] [Flat α] {q : Addr} {x : List α} (o : Own K F H q x) (e : TupEx F F') (h : F' q = F q) : Own K F' H q x := by
  obtain ⟨⟨u, h1, vs, h2, h4⟩, h3⟩ := o
  exact ⟨⟨u, h1, vs, h2, paired_fl e h4⟩, by rw [h]; exact h3⟩
end
/-! ### trees -/
inductive Tr where
  | lf (n : Int)
  | nd (s : Int) (a b : Tr)
  deriving DecidableEq
def Tr.isN : Tr → Bool
  | .lf _ => false
  | .nd _ _ _ => true
def rTr (K : PySem.W.Frag) (H : Hp) : Tr → V → Prop
  | .lf n, v => v = .int n
  | .nd s a b, v => ∃ p w z, v = .ref p ∧ SqT K H p [.int s, w, z] ∧ rTr K H a w ∧ rTr K H b z
theorem rTr_mo {K : PySem.W.Frag} {H H' : Hp} (e : Ex H H') : ∀ {x : Tr} {v : V}, rTr K H x v → rTr K H' x v
  | .lf _, _, h => h
  | .nd _ _ _, _, ⟨p, w, z, h1, h2, h3, h4⟩ => ⟨p, w, z, h1, ex_t e h2, rTr_mo e h3, rTr_mo e h4⟩
instance : Rep Tr := ⟨fun K H v x => rTr K H x v, fun e h => rTr_mo e h⟩
theorem rTr_fl {K : PySem.W.Frag} {H H' : Hp} (e : TupEx H H') : ∀ {x : Tr} {v : V}, rTr K H x v → rTr K H' x v
  | .lf _, _, h => h
  | .nd _ _ _, _, ⟨p, w, z, h1, h2, h3, h4⟩ => ⟨p, w, z, h1, tup_t e h2, rTr_fl e h3, rTr_fl e h4⟩
instance : Flat Tr := ⟨fun e h => rTr_fl e h⟩
instance : NN Tr := ⟨fun {K F v x} h => by
  cases x with
  | lf n => rw [show v = .int n from h]; exact fun z => nomatch z
  | nd s a b => obtain ⟨p, w, z, h1, _⟩ := h; rw [h1]; exact fun z => nomatch z⟩
def trI : Tr → M Int
  | .lf n => .ok n
  | .nd _ _ _ => .bad
def trA : Tr → M Int
  | .nd s _ _ => .ok s
  | .lf _ => .bad
def trK : Tr → Int → M Tr
  | .nd s a b, i => if i = 0 then .ok (.lf s) else if i = 1 then .ok a else if i = 2 then .ok b else .bad
  | .lf _, _ => .bad
section
variable {ρ : Type} {ce : Ce} {E : XK} {K : PySem.W.Frag} {σ : L2.St} {F H F' H' F0 H0 : Hp} {te ta tb tc td : TE} {tt tu : TT}
theorem em_trl {m : M Int} (h : Ev ce E te σ F H (rv K) m) : Ev ce E te σ F H (rv K) (m.bind fun x => .ok (Tr.lf x)) := fun F1 H1 g1 Q q => by
  refine h F1 H1 g1 _ ?_
  cases m with
  | ok x => exact fun F2 H2 v g2 r => q F2 H2 v g2 r
  | er c => exact q
  | bad => exact q
theorem e_trl {x : Int} (h : Ev ce E te σ F H (rv K) (.ok x)) : Ev ce E te σ F H (rv K) (.ok (Tr.lf x)) := em_trl (m := .ok x) h
theorem em_trn {m : M (T3 Int Tr Tr)} (h : Ev ce E te σ F H (rv K) m) : Ev ce E te σ F H (rv K) (m.bind fun x => .ok (Tr.nd x.a x.b x.c)) := fun F1 H1 g1 Q q => by
  refine h F1 H1 g1 _ ?_
  cases m with
  | ok x =>
    intro F2 H2 v g2 ⟨a, u, w, z, h1, h2, h3, h4, h5⟩
    have h3' : u = .int x.a := h3
    exact q F2 H2 v g2 ⟨a, w, z, h1, by rw [← h3']; exact h2, h4, h5⟩
  | er c => exact q
  | bad => exact q
theorem e_trn {x : T3 Int Tr Tr} (h : Ev ce E te σ F H (rv K) (.ok x)) : Ev ce E te σ F H (rv K) (.ok (Tr.nd x.a x.b x.c)) := em_trn (m := .ok x) h
theorem em_trI {m : M Tr} (h : Ev ce E te σ F H (rv K) m) : Ev ce E te σ F H (rv K) (m.bind trI) := fun F1 H1 g1 Q q => by
  refine h F1 H1 g1 _ ?_
  cases m with
  | ok x =>
    cases x with
    | lf n => exact fun F2 H2 v g2 r => q F2 H2 v g2 r
    | nd s a b => exact q.elim
  | er c => exact q
  | bad => exact q
theorem o_trA {x : Tr} {i : Int} (hi : i = 0) : Op2 ce E K (rIxT K) (rv K) x i (trA x) := fun F1 H1 vx vy e rx ry Q q => by
  subst hi
  cases ry
  cases x with
  | lf n => exact q.elim
  | nd s a b =>
    obtain ⟨p, w, z, h1, h2, h3, h4⟩ := rx
    subst h1
    exact ⟨p, [.int s, w, z], 0, .int s, rfl, rfl, ex_t e h2, rfl, q F1 H1 _ (Gr.rf e) rfl⟩
theorem o_trK {x : Tr} {i : Int} : Op2 ce E K (rIxT K) (rv K) x i (trK x i) := fun F1 H1 vx vy e rx ry Q q => by
  cases ry
  cases x with
  | lf n => exact q.elim
  | nd s a b =>
    obtain ⟨p, w, z, h1, h2, h3, h4⟩ := rx
    subst h1
    by_cases c0 : i = 0
    · subst c0
      exact ⟨p, [.int s, w, z], 0, .int s, rfl, rfl, ex_t e h2, rfl, q F1 H1 _ (Gr.rf e) rfl⟩
    · by_cases c1 : i = 1
      · subst c1
        exact ⟨p, [.int s, w, z], 1, w, rfl, rfl, ex_t e h2, rfl, q F1 H1 _ (Gr.rf e) h3⟩
      · by_cases c2 : i = 2
        · subst c2
          exact ⟨p, [.int s, w, z], 2, z, rfl, rfl, ex_t e h2, rfl, q F1 H1 _ (Gr.rf e) h4⟩
        · rw [show trK (.nd s a b) i = .bad from by unfold trK; dsimp only; rw [if_neg c0, if_neg c1, if_neg c2]] at q
          exact q.elim
/-- one plain operand's place, that may fail -/
theorem em_ixm {α β γ : Type} [Rep α] [Rep β] [Rep γ] {r : R2} {m1 : M α} {y : β} {g : α → M γ} (ha : Ev ce E ta σ F H (rv K) m1) (hb : Ev ce E tb σ F H (rv K) (.ok y)) (hr : ∀ x, Op2 ce E K r (rv K) x y (g x)) : Ev ce E (tOp r ta tb) σ F H (rv K) (m1.bind g) := fun F1 H1 g1 Q q => by
  refine ha F1 H1 g1 _ ?_
  cases m1 with
  | ok x => exact fun F2 H2 vx g2 rx => hb F2 H2 (g1.tr g2) _ fun F3 H3 vy g3 ry => hr x F3 H3 vx vy g3.fh (Rep.mo g3.ff rx) ry Q (Post.mo (g2.tr g3) q)
  | er c => exact q
  | bad => exact q
theorem em_isiT {m : M Tr} {n : String} {b c : Bool} (ha : Ev ce E ta σ F H (rv K) m) (hn : PySem.W.kitOne K (.type "int") (.type n) = some c) (hb : PySem.W.kitOne K (.type "tuple") (.type n) = some b) :
    Ev ce E (tCB (rIsi K) (tCons ta (tCons (tC (.ty n)) tNil))) σ F H (rv K) (m.bind fun x => .ok (if x.isN then b else c)) := fun F1 H1 g1 Q q => by
  refine ha F1 H1 g1 _ ?_
  cases m with
  | ok x =>
    intro F2 H2 v g2 r
    cases x with
    | lf i => cases (show v = .int i from r); exact ⟨_, .ty n, _, _, c, rfl, .ty n, .base (.int i), hn, q F2 H2 _ g2 rfl⟩
    | nd s a d =>
      obtain ⟨p, w, z, h1, h2, h3, h4⟩ := r
      subst h1
      exact ⟨_, .ty n, _, _, b, rfl, .ty n, tyx_tup g2.fh h2, hb, q F2 H2 _ g2 rfl⟩
  | er c => exact q
  | bad => exact q
end
end Mw

set_option Elab.async false
set_option linter.all false
set_option maxRecDepth 100000
set_option maxHeartbeats 2000000
/-! Mw, part O: script + [..]. -/
namespace Mw
open PySem L2
open Rep (rp)
def rCatL (K : PySem.W.Frag) : R2 := fun x y H Q => ∃ l b xs zs, x = V.ref l ∧ y = V.ref b ∧ SqL K H l xs ∧ SqL K H b zs ∧ xs.length + zs.length ≤ sizeLine ∧ ∀ p, H p = none → Q (V.ref p) (upd H p (HO.lst (xs ++ zs)))
theorem op_catL {X : Cx} : OpR X (binaryOp .Add) (rCatL X.K) := by
  intro pins s σ H x y v u Q I rx ry h
  obtain ⟨l, b, xs, zs, rfl, rfl, h1, h2, hz, q⟩ := h
  cases rx
  cases ry
  obtain ⟨i1, r1, p1, l1⟩ := I.list h1
  obtain ⟨i2, r2, p2, l2⟩ := I.list h2
  obtain ⟨⟨c1, d1, a1, s1⟩, n1, g1, hc1, hd1, ha1⟩ := p1
  obtain ⟨⟨c2, d2, a2, s2⟩, n2, g2, hc2, hd2, ha2⟩ := p2
  dsimp only at hc1 hd1 ha1 hc2 hd2 ha2
  subst hc1 ha1 hc2 ha2
  have e1 := r1.length
  have e2 := r2.length
  refine concat_meets ⟨_, g1, rfl⟩ ⟨_, g2, rfl⟩ noFill_list_add seq_list_add PySem.F.slot_list_add PySem.F.entry_list_add (PySem.F.args_list_add_2 (Value.ref l) (Value.ref b)) (PyProof.Rows.list_addW l b i1.toArray i2.toArray n1 n2 d1 d2 s1 s2 (by simp; omega)) ⟨g1, g2, ?_⟩
  rw [List.append_toArray]
  exact ⟨V.ref s.heap.objs.size, upd H s.heap.objs.size (HO.lst (xs ++ zs)), I.lnew (r1.append r2) (by rw [List.length_append]; exact hz), rfl, q s.heap.objs.size I.fresh⟩
section
variable {ce : Ce} {E : XK} {K : PySem.W.Frag}
theorem o_catS {xs : Scr} {ys : List Int} : Op2 ce E K (rCatL K) (rn K) xs ys (catM xs.l ys) := fun F1 H1 vx vy e ⟨a, h1, h2⟩ ⟨b, ws, k1, k2, k3⟩ Q q => by
  unfold catM chk at q
  split at q
  · rename_i hc
    refine ⟨a, b, _, ws, h1, k1, ex_l e h2, SqL.of (e _ _ k2), ?_, fun p np => ?_⟩
    · rw [Paired.length k3, List.length_map, sizeLine_eq]; omega
    · exact q F1 _ _ (Gr.own e np) ⟨p, _, rfl, np, ex_back e np, upd_same, paired_app (rep_int xs.l) k3⟩
  · exact q.elim
end
/-- a loop by what is known behind each turn -/
theorem forM_by {α S τ : Type} {f : α → S → M (Ctl S τ)} {k : S → M τ} {P : M τ → Prop} (J : List α → S → Prop) {xs : List α} {s : S} (h0 : J [] s)
    (hs : ∀ p x s, (p ++ [x]) <+: xs → J p s → ∃ s', f x s = .ok (.nx s') ∧ J (p ++ [x]) s') (hk : ∀ s', J xs s' → P (k s')) : P (forM f k xs s) := by
  obtain ⟨s', h1, e⟩ := forM_ex (f := f) (k := k) J xs [] s h0 hs
  rw [e]
  exact hk s' h1
/-! ### a list of three unlike things -/
structure H3 (α β γ : Type) where
  a : α
  b : β
  c : γ
  deriving DecidableEq
instance {α β γ : Type} [Rep α] [Rep β] [Rep γ] : Rep (H3 α β γ) := ⟨fun K H v x => ∃ p u w z, v = .ref p ∧ H p = some (.lst [u, w, z]) ∧ rp K H u x.a ∧ rp K H w x.b ∧ rp K H z x.c, fun e ⟨p, u, w, z, h1, h2, h3, h4, h5⟩ => ⟨p, u, w, z, h1, e _ _ h2, Rep.mo e h3, Rep.mo e h4, Rep.mo e h5⟩⟩
instance {α β γ : Type} [Rep α] [Rep β] [Rep γ] [DecidableEq α] [DecidableEq β] [DecidableEq γ] [Dat α] [Dat β] [Dat γ] : Dat (H3 α β γ) where
  dat := fun x => .list [Dat.dat x.a, Dat.dat x.b, Dat.dat x.c]
  deep := max (Dat.deep α) (max (Dat.deep β) (Dat.deep γ)) + 1
  dp := fun {K H v x} ⟨a, u, w, z, h1, h2, h3, h4, h5⟩ => by subst h1; exact .lst (SqL.of h2) (.cons (Dat.dp h3) (.cons (Dat.dp h4) (.cons (Dat.dp h5) .nil)))
  cl := fun x => by simp [PyData.canLay0, PyData.canLayAll0, Dat.cl]
  de := fun x => by
    show max (PyData.depth _) (max (PyData.depth _) (max (PyData.depth _) 0)) + 1 ≤ _
    have h1 := Dat.de x.a
    have h2 := Dat.de x.b
    have h3 := Dat.de x.c
    omega
  eq := fun x y => by
    obtain ⟨x1, x2, x3⟩ := x
    obtain ⟨y1, y2, y3⟩ := y
    simp only [PyData.eqv, PyData.eqvAll, Dat.eq, Bool.and_true, H3.mk.injEq]
    simp
section
variable {α β γ : Type} [Rep α] [Rep β] [Rep γ] {ce : Ce} {E : XK} {K : PySem.W.Frag} {σ : L2.St} {F H : Hp} {ta tb tc : TE}
theorem em_h3 {m1 : M α} {m2 : M β} {m3 : M γ} (ha : Ev ce E ta σ F H (rv K) m1) (hb : Ev ce E tb σ F H (rv K) m2) (hc : Ev ce E tc σ F H (rv K) m3) : Ev ce E (tLst (tCons ta (tCons tb (tCons tc tNil)))) σ F H (rv K) (m1.bind fun x => m2.bind fun y => m3.bind fun z => .ok (H3.mk x y z)) := fun F1 H1 g1 Q q => by
  refine ha F1 H1 g1 _ ?_
  cases m1 with
  | ok x =>
    intro F2 H2 v2 g2 q2
    refine hb F2 H2 (g1.tr g2) _ ?_
    cases m2 with
    | ok y =>
      intro F3 H3 v3 g3 q3
      refine hc F3 H3 ((g1.tr g2).tr g3) _ ?_
      cases m3 with
      | ok z =>
        refine fun F4 H4 v4 g4 q4 => ⟨by show 3 ≤ sizeLine; decide, fun p np => ?_⟩
        have e := Ex.nw (o := .lst [v2, v3, v4]) (ex_back g4.fh np)
        exact q _ _ _ (((g2.tr g3).tr g4).tr (Gr.new g4.fh np)) ⟨p, v2, v3, v4, rfl, upd_same, Rep.mo ((g3.ff.tr g4.ff).tr e) q2, Rep.mo (g4.ff.tr e) q3, Rep.mo e q4⟩
      | er c => exact fun H' e => q H' ((g2.tr g3).hh.tr e)
      | bad => exact q
    | er c => exact fun H' e => q H' (g2.hh.tr e)
    | bad => exact q
  | er c => exact q
  | bad => exact q
theorem e_h3 {x : α} {y : β} {z : γ} (ha : Ev ce E ta σ F H (rv K) (.ok x)) (hb : Ev ce E tb σ F H (rv K) (.ok y)) (hc : Ev ce E tc σ F H (rv K) (.ok z)) : Ev ce E (tLst (tCons ta (tCons tb (tCons tc tNil)))) σ F H (rv K) (.ok (H3.mk x y z)) := em_h3 (m1 := .ok x) (m2 := .ok y) (m3 := .ok z) ha hb hc
theorem o_h3a {x : H3 α β γ} {i : Int} (hi : i = 0) : Op2 ce E K (rIxL K) (rv K) x i (.ok x.a) := fun F1 H1 vx vy e rx ry Q q => by
  obtain ⟨p, u, w, z, rfl, h2, h3, h4, h5⟩ := rx
  cases ry
  subst hi
  exact ⟨p, [u, w, z], 0, u, rfl, rfl, SqL.of (e _ _ h2), rfl, q F1 H1 u (Gr.rf e) h3⟩
theorem o_h3b {x : H3 α β γ} {i : Int} (hi : i = 1) : Op2 ce E K (rIxL K) (rv K) x i (.ok x.b) := fun F1 H1 vx vy e rx ry Q q => by
  obtain ⟨p, u, w, z, rfl, h2, h3, h4, h5⟩ := rx
  cases ry
  subst hi
  exact ⟨p, [u, w, z], 1, w, rfl, rfl, SqL.of (e _ _ h2), rfl, q F1 H1 w (Gr.rf e) h4⟩
theorem o_h3c {x : H3 α β γ} {i : Int} (hi : i = 2) : Op2 ce E K (rIxL K) (rv K) x i (.ok x.c) := fun F1 H1 vx vy e rx ry Q q => by
  obtain ⟨p, u, w, z, rfl, h2, h3, h4, h5⟩ := rx
  cases ry
  subst hi
  exact ⟨p, [u, w, z], 2, z, rfl, rfl, SqL.of (e _ _ h2), rfl, q F1 H1 z (Gr.rf e) h5⟩
end
end Mw

set_option Elab.async false
set_option linter.all false
set_option maxRecDepth 100000
set_option maxHeartbeats 2000000
/-! Mw, part P: tests over one's own lists; rows of ints and words; a parameter of one's own; the object with parts and rows. -/
namespace Mw
open PySem L2
open Rep (rp)
section
variable {ce : Ce} {E : XK} {K : PySem.W.Frag} {σ : L2.St} {F H : Hp} {tt : TT}
/-- a test that reads lists of one's own -/
theorem t_lend (A : List Addr) {m : M Bool} (hF : ∀ p ∈ A, F p = none) (hA : ∀ p ∈ A, ∃ o, H p = some o ∧ NoTup o) (h : EvT ce E tt σ (fz F H A) H m) : EvT ce E tt σ F H m := fun F1 H1 g Q q => by
  have hA' : ∀ p ∈ A, H p ≠ none := fun p m => by obtain ⟨o, e, _⟩ := hA p m; rw [e]; exact fun z => nomatch z
  have hF1 : ∀ p ∈ A, F1 p = none := fun p m => g.nw p (hF p m) (hA' p m)
  have hA1 : ∀ p ∈ A, H1 p ≠ none := fun p m => g.hh.ne (hA' p m)
  have gz : Gr (fz F H A) H (fz F1 H1 A) H1 := ⟨fun a o e => by
    unfold fz at e ⊢
    split
    · rename_i c; rw [if_pos c] at e; exact g.hh a o e
    · rename_i c; rw [if_neg c] at e; exact g.ff a o e, fz_h g.fh, g.hh, fun b h1 h2 => by
    unfold fz at h1 ⊢
    split
    · rename_i c; rw [if_pos c] at h1; exact absurd h1 h2
    · rename_i c; rw [if_neg c] at h1; exact g.nw b h1 h2⟩
  refine h (fz F1 H1 A) H1 gz Q ?_
  cases m with
  | ok r => exact fun F2 H2 g2 => q (th F2 A) H2 (gr_th hF1 hA1 g.fh g2)
  | er c => exact q
  | bad => exact q
end
/-! ### cells and rows -/
inductive Cl where
  | i (n : Int)
  | w (s : Wd)
  deriving DecidableEq
def rCl : Cl → V → Prop
  | .i n, v => v = .int n
  | .w s, v => v = .str s.s
instance : Rep Cl := ⟨fun _ _ v x => rCl x v, fun _ h => h⟩
instance : Flat Cl := ⟨fun _ h => h⟩
instance : NN Cl := ⟨fun {K F v x} h => by
  cases x with
  | i n => rw [show v = .int n from h]; exact fun z => nomatch z
  | w s => rw [show v = .str s.s from h]; exact fun z => nomatch z⟩
instance : Dat Cl where
  dat := fun x => match x with
    | .i n => .int n
    | .w s => .str s.s
  deep := 0
  dp := fun {K H v x} h => by
    cases x with
    | i n => rw [show v = .int n from h]; exact .int n
    | w s => rw [show v = .str s.s from h]; exact .str s.s
  cl := fun x => by
    cases x with
    | i n => rfl
    | w s => exact s.ok
  de := fun x => by cases x <;> exact Nat.le_refl _
  eq := fun x y => by
    rw [Bool.eq_iff_iff]
    cases x with
    | i n => cases y <;> simp [PyData.eqv]
    | w s =>
      cases y with
      | i n => simp [PyData.eqv]
      | w t =>
        obtain ⟨s, hs⟩ := s
        obtain ⟨t, ht⟩ := t
        simp [PyData.eqv]
structure Row where
  cs : List Cl
  deriving DecidableEq
instance : Rep Row := ⟨fun K H v x => ∃ a vs, v = .ref a ∧ SqT K H a vs ∧ Paired (rp K H) vs x.cs, fun e ⟨a, vs, h1, h2, h3⟩ => ⟨a, vs, h1, ex_t e h2, paired_mo e h3⟩⟩
instance : Flat Row := ⟨fun e ⟨a, vs, h1, h2, h3⟩ => ⟨a, vs, h1, tup_t e h2, paired_fl e h3⟩⟩
instance : NN Row := ⟨fun ⟨a, vs, h1, _⟩ => by subst h1; exact fun z => nomatch z⟩
instance : Dat Row where
  dat := fun x => .tuple (x.cs.map Dat.dat)
  deep := 1
  dp := fun {K H v x} ⟨a, vs, h1, h2, h3⟩ => by subst h1; exact .tup h2 (dpAll_of h3)
  cl := fun x => by simpa [PyData.canLay0] using clAll x.cs
  de := fun x => by
    show PyData.depthAll (x.cs.map Dat.dat) + 1 ≤ _
    exact Nat.succ_le_succ (deAll x.cs)
  eq := fun x y => by
    obtain ⟨x⟩ := x
    obtain ⟨y⟩ := y
    simpa [PyData.eqv] using eqAll x y
instance : NotN Row := ⟨fun x => ⟨by show PyData.eqv .none (.tuple _) = false; simp [PyData.eqv], by show PyData.eqv (.tuple _) .none = false; simp [PyData.eqv]⟩⟩
def clI : Cl → M Int
  | .i n => .ok n
  | .w _ => .bad
section
variable {α β γ ρ : Type} [Rep α] [Rep β] [Rep γ] {ce : Ce} {E : XK} {K : PySem.W.Frag} {σ : L2.St} {F H F' H' F0 H0 : Hp} {te ta tb tc td : TE} {tt tu : TT}
instance : Ty Row := ⟨"tuple", fun {K F H v x} e ⟨a, vs, h1, h2, _⟩ => by subst h1; exact tyx_tup e h2⟩
theorem em_clI {m : M Cl} (h : Ev ce E te σ F H (rv K) m) : Ev ce E te σ F H (rv K) (m.bind clI) := fun F1 H1 g1 Q q => by
  refine h F1 H1 g1 _ ?_
  cases m with
  | ok x =>
    cases x with
    | i n => exact fun F2 H2 v g2 r => q F2 H2 v g2 r
    | w s => exact q.elim
  | er c => exact q
  | bad => exact q
theorem em_cli {m : M Int} (h : Ev ce E te σ F H (rv K) m) : Ev ce E te σ F H (rv K) (m.bind fun x => .ok (Cl.i x)) := fun F1 H1 g1 Q q => by
  refine h F1 H1 g1 _ ?_
  cases m with
  | ok x => exact fun F2 H2 v g2 r => q F2 H2 v g2 r
  | er c => exact q
  | bad => exact q
theorem e_cli {x : Int} (h : Ev ce E te σ F H (rv K) (.ok x)) : Ev ce E te σ F H (rv K) (.ok (Cl.i x)) := em_cli (m := .ok x) h
theorem em_clw {m : M Wd} (h : Ev ce E te σ F H (rv K) m) : Ev ce E te σ F H (rv K) (m.bind fun x => .ok (Cl.w x)) := fun F1 H1 g1 Q q => by
  refine h F1 H1 g1 _ ?_
  cases m with
  | ok x => exact fun F2 H2 v g2 r => q F2 H2 v g2 r
  | er c => exact q
  | bad => exact q
theorem e_clw {x : Wd} (h : Ev ce E te σ F H (rv K) (.ok x)) : Ev ce E te σ F H (rv K) (.ok (Cl.w x)) := em_clw (m := .ok x) h
theorem o_rowix {xs : Row} {i : Int} : Op2 ce E K (rIxT K) (rv K) xs i (ixM xs.cs i) := fun F1 H1 vx vy e ⟨a, vs, h1, h2, h3⟩ ry Q q => by
  subst h1
  cases ry
  unfold ixM at q
  split at q
  · rename_i x hx
    obtain ⟨v, hv, rv'⟩ := atI_pair h3 hx
    exact ⟨a, vs, i, v, rfl, rfl, ex_t e h2, hv, q F1 H1 v (Gr.rf e) rv'⟩
  · exact q.elim
theorem a_lenR {x : Row} : OpA ce E (RC K R0) (rLenS K) (rv K) (x, ()) (.ok (x.cs.length : Int)) := fun F1 H1 vs e ⟨v, r, e1, ⟨a, us, h1, h2, h3⟩, e3⟩ Q q => by
  cases e3
  subst e1 h1
  refine ⟨a, _, rfl, .inr (ex_t e h2), ?_⟩
  rw [Paired.length h3]
  exact q F1 H1 _ (Gr.rf e) rfl
theorem em_row {ta : TA} {m : M (List Cl)} (ha : EvL ce E K ta σ F H m) : Ev ce E (tTup ta) σ F H (rv K) (m.bind fun x => chk (x.length ≤ 1000) (Row.mk x)) := fun F1 H1 g1 Q q => by
  refine ha F1 H1 g1 _ ?_
  cases m with
  | ok x =>
    have q' : Post ce (rv K) (chk (x.length ≤ 1000) (Row.mk x)) F1 H1 Q E := q
    unfold chk at q'
    intro F2 H2 vs g2 r2
    by_cases hx : x.length ≤ 1000
    · rw [if_pos hx] at q'
      refine ⟨Nat.le_of_lt (small1000 (by rw [Paired.length r2]; exact hx)), fun p np => ?_⟩
      have e := Ex.nw (o := .tup vs) (ex_back g2.fh np)
      exact q' _ _ _ (g2.tr (Gr.new g2.fh np)) ⟨p, vs, rfl, SqT.of upd_same, paired_mo e r2⟩
    · rw [if_neg hx] at q'
      exact q'.elim
  | er c => exact q
  | bad => exact q
end
/-! ### a parameter of one's own: the first one -/
def SpO (ce : Ce) (K : PySem.W.Frag) {α β ρ : Type} [Rep α] (R : Hp → List V → β → Prop) (md : Md ρ) (f : List α × β → M ρ) : Sp := fun vs H Q E => ∃ F H0 p us x y r, vs = .ref p :: r ∧ Ex F H0 ∧ H0 p = none ∧ H = upd H0 p (.lst us) ∧ Paired (rp K F) us x ∧ R F r y ∧ Post ce md (f (x, y)) F H0 Q E
def SpO0 (ce : Ce) (K : PySem.W.Frag) {α β ρ : Type} [Rep α] (R : Hp → List V → β → Prop) (md : Md ρ) (f : List α × β → M ρ) : Sp := fun vs H Q _ => ∃ F H0 p us x y r, vs = .ref p :: r ∧ Ex F H0 ∧ H0 p = none ∧ H = upd H0 p (.lst us) ∧ Paired (rp K F) us x ∧ R F r y ∧ Post ce md (f (x, y)) F H0 Q E0
section
variable {α β ρ : Type} [Rep α] {ce : Ce} {E : XK} {K : PySem.W.Frag} {σ : L2.St} {F H : Hp} {ta : TE} {tr : TA} {md : Md ρ}
theorem own_start {p : Addr} {us : List V} {x : List α} (e : Ex F H) (h : H p = none) (r : Paired (rp K F) us x) : Gr F H F (upd H p (.lst us)) ∧ Own K F (upd H p (.lst us)) p x :=
  ⟨Gr.own e h, ⟨⟨.lst us, upd_same, us, rfl, r⟩, ex_back e h⟩⟩
theorem callO [MdMo md] {m1 : M (List α)} {m2 : M β} {R : Hp → List V → β → Prop} {f : List α × β → M ρ} {Ec : XK} {P : List V → Hp → VK → Prop}
    (hP : ∀ F1 H1 p us x y r (Q : VK), Ex F1 H1 → H1 p = none → Paired (rp K F1) us x → R F1 r y → Post ce md (f (x, y)) F1 H1 Q E → P (.ref p :: r) (upd H1 p (.lst us)) Q)
    (ha : Ev ce E ta σ F H (rn K) m1) (hb : EvAM ce E tr σ F H m2 R) : ∀ F1 H1, Gr F H F1 H1 → ∀ Q : VK, Post ce md (m1.bind fun x => m2.bind fun y => f (x, y)) F1 H1 Q E → tCons ta tr σ H1 fun vs H2 => P vs H2 Q := fun F1 H1 g1 Q q => by
  refine ha F1 H1 g1 _ ?_
  cases m1 with
  | ok x =>
    rintro F2 H2 v g2 ⟨p, us, rfl, p1, p2, p3, p4⟩
    refine hb F2 H2 (g1.tr g2) _ ?_
    cases m2 with
    | ok y =>
      intro F3 H3 vs g3 r3
      have n3 : F3 p = none := g3.nw p p2 (by rw [p3]; exact fun z => nomatch z)
      have h3 : H3 p = some (.lst us) := g3.hh _ _ p3
      have eH : H3 = upd (th H3 [p]) p (.lst us) := by
        funext b
        by_cases z : b = p
        · subst z; rw [upd_same, h3]
        · rw [upd_ne z]; unfold th; rw [if_neg (by simpa using z)]
      have tp : th H3 [p] p = none := by unfold th; rw [if_pos (by simp)]
      have tq : ∀ b, b ≠ p → th H3 [p] b = H3 b := fun b z => by unfold th; rw [if_neg (by simpa using z)]
      have e3 : Ex F3 (th H3 [p]) := fun a o h => by
        have : a ≠ p := fun z => by subst z; rw [n3] at h; cases h
        rw [tq a this]; exact g3.fh a o h
      have gg : Gr F1 H1 F3 (th H3 [p]) := ⟨(g2.tr g3).ff, e3, fun a o h => by
        have : a ≠ p := fun z => by subst z; rw [p1] at h; cases h
        rw [tq a this]; exact (g2.tr g3).hh a o h, (g2.tr g3).nw⟩
      rw [eH]
      exact hP F3 (th H3 [p]) p us x y vs Q e3 tp (paired_mo g3.ff p4) r3 (Post.mo gg q)
    | er c => exact fun H' e => q H' (g2.hh.tr e)
    | bad => exact q
  | er c => exact q
  | bad => exact q
theorem em_callO0 [MdMo md] {m1 : M (List α)} {m2 : M β} {R : Hp → List V → β → Prop} {f : List α × β → M ρ} (ha : Ev ce E ta σ F H (rn K) m1) (hb : EvAM ce E tr σ F H m2 R) :
    Ev ce E (tCall (SpO0 ce K R md f) [] E0 (tCons ta tr)) σ F H md (m1.bind fun x => m2.bind fun y => (f (x, y)).ne) := fun F1 H1 g1 Q q =>
  callO (md := md) (f := fun a => (f a).ne) (P := fun vs H Q => SpO0 ce K R md f (vs ++ []) H Q E0) (Ec := E) (fun F1 H1 p us x y r Q e n pr rr q => by
    rw [List.append_nil]
    exact ⟨F1, H1, p, us, x, y, r, rfl, e, n, rfl, pr, rr, post_ne q⟩) ha hb F1 H1 g1 Q q
theorem em_callOX [MdMo md] {m1 : M (List α)} {m2 : M β} {R : Hp → List V → β → Prop} {f : List α × β → M ρ} (ha : Ev ce E ta σ F H (rn K) m1) (hb : EvAM ce E tr σ F H m2 R) :
    Ev ce E (tCall (SpO ce K R md f) [] E (tCons ta tr)) σ F H md (m1.bind fun x => m2.bind fun y => f (x, y)) := fun F1 H1 g1 Q q =>
  callO (md := md) (f := f) (P := fun vs H Q => SpO ce K R md f (vs ++ []) H Q E) (Ec := E) (fun F1 H1 p us x y r Q e n pr rr q => by
    rw [List.append_nil]
    exact ⟨F1, H1, p, us, x, y, r, rfl, e, n, rfl, pr, rr, q⟩) ha hb F1 H1 g1 Q q
end
/-! ### an object that is being made; the works -/
structure RawO where
  C : Addr
  dx : Addr
  fs : List (Str × V)
instance : Rep RawO := ⟨fun _ H v x => ∃ p, v = .ref p ∧ H p = some (.ins x.C x.dx x.fs), fun e ⟨p, h1, h2⟩ => ⟨p, h1, e _ _ h2⟩⟩
instance : Obj RawO where
  ho := fun _ _ o x => o = .ins x.C x.dx x.fs
  mo := fun _ h => h
  rep := fun {K H p o x} e h => ⟨p, rfl, by rw [e, h]⟩
  nt := fun {K H o x} h => by subst h; exact ⟨(fun _ z => nomatch z), (fun _ _ z => nomatch z)⟩
structure Wk where
  parts : Int
  rows : List Row
instance : Rep Wk := ⟨fun K H v x => ∃ a C dx fs u w, v = .ref a ∧ H a = some (.ins C dx fs) ∧ Cls K C ∧ NoAttr K C "parts" ∧ NoAttr K C "rows" ∧ fs.lookup ("parts" : Str) = some u ∧ fs.lookup ("rows" : Str) = some w ∧ rp K H u x.parts ∧ rp K H w x.rows,
  fun e ⟨a, C, dx, fs, u, w, h1, h2, h3, h4, h5, h6, h7, h8, h9⟩ => ⟨a, C, dx, fs, u, w, h1, e _ _ h2, h3, h4, h5, h6, h7, Rep.mo e h8, Rep.mo e h9⟩⟩
instance : NN Wk := ⟨fun ⟨a, _, _, _, _, _, h1, _⟩ => by subst h1; exact fun z => nomatch z⟩
section
variable {ρ τ : Type} [Rep ρ] {ce : Ce} {E : XK} {K : PySem.W.Frag} {σ : L2.St} {F H F0 H0 : Hp} {te ta : TE} {md : Md ρ} {D : Ends} {P : τ → Prop}
theorem em_wkp {m : M Wk} (ha : Ev ce E ta σ F H (rv K) m) : Ev ce E (tFld K ta "parts") σ F H (rv K) (m.bind fun x => .ok x.parts) := fun F1 H1 g1 Q q => by
  refine ha F1 H1 g1 _ ?_
  cases m with
  | ok x =>
    rintro F2 H2 v g2 ⟨a, C, dx, fs, u, w, h1, h2, h3, h4, h5, h6, h7, h8, h9⟩
    exact ⟨a, C, dx, fs, u, h1, g2.fh _ _ h2, h3, h4, h6, q F2 H2 u g2 h8⟩
  | er c => exact q
  | bad => exact q
theorem em_wkr {m : M Wk} (ha : Ev ce E ta σ F H (rv K) m) : Ev ce E (tFld K ta "rows") σ F H (rv K) (m.bind fun x => .ok x.rows) := fun F1 H1 g1 Q q => by
  refine ha F1 H1 g1 _ ?_
  cases m with
  | ok x =>
    rintro F2 H2 v g2 ⟨a, C, dx, fs, u, w, h1, h2, h3, h4, h5, h6, h7, h8, h9⟩
    exact ⟨a, C, dx, fs, w, h1, g2.fh _ _ h2, h3, h5, h7, q F2 H2 w g2 h9⟩
  | er c => exact q
  | bad => exact q
theorem e_wkp {x : Wk} (ha : Ev ce E ta σ F H (rv K) (.ok x)) : Ev ce E (tFld K ta "parts") σ F H (rv K) (.ok x.parts) := em_wkp (m := .ok x) ha
theorem e_wkr {x : Wk} (ha : Ev ce E ta σ F H (rv K) (.ok x)) : Ev ce E (tFld K ta "rows") σ F H (rv K) (.ok x.rows) := em_wkr (m := .ok x) ha
/-- self.f = e, in __init__: the object is one's own -/
theorem s_setf {α : Type} [Rep α] {i : Nat} {p : Addr} {o : RawO} {f : Str} {m1 : M α} {k : α → M τ} (hp : σ[i]? = some (some (.ref p))) (c : Cls K o.C) (na : NoAttr K o.C f) (hl : o.fs.length < 1000) (ow : Own K F H p o) (n0 : H0 p = none) (G : Gr F0 H0 F H)
    (q : Wp ce E H0 (m1.bind k) P) (h : Ev ce E te σ F H (rv K) m1)
    (cc : ∀ x F1 H1 v, Ex F F1 → Gr F0 H0 F1 H1 → rp K F1 v x → Own K F1 H1 p (RawO.mk o.C o.dx (putF f v o.fs)) → Wp ce E H0 (k x) P → D.nx σ H1) : sFld K (tVar i) te f D σ H := by
  show te σ H fun y H1 => tVar i σ H1 fun x H2 => _
  refine h.go G q fun x F1 H1 v g r w => ?_
  refine ⟨.ref p, hp, ?_⟩
  have o1 := ow.mo g
  obtain ⟨⟨u, h1, h2⟩, h3⟩ := o1
  have h2' : u = .ins o.C o.dx o.fs := h2
  subst h2'
  refine ⟨p, o.C, o.dx, o.fs, rfl, h1, c, na, hl, ?_⟩
  exact cc x F1 _ v g.ff (Gr.mut (G.tr g) n0 h3) r ⟨⟨_, upd_same, rfl⟩, h3⟩ w
theorem q_setf {t2 : TS} {α : Type} [Rep α] {i : Nat} {p : Addr} {o : RawO} {f : Str} {m1 : M α} {k : α → M τ} (hp : σ[i]? = some (some (.ref p))) (c : Cls K o.C) (na : NoAttr K o.C f) (hl : o.fs.length < 1000) (ow : Own K F H p o) (n0 : H0 p = none) (G : Gr F0 H0 F H)
    (q : Wp ce E H0 (m1.bind k) P) (h : Ev ce E te σ F H (rv K) m1)
    (cc : ∀ x F1 H1 v, Ex F F1 → Gr F0 H0 F1 H1 → rp K F1 v x → Own K F1 H1 p (RawO.mk o.C o.dx (putF f v o.fs)) → Wp ce E H0 (k x) P → t2 D σ H1) : tSeq (sFld K (tVar i) te f) t2 D σ H := s_setf (D := { D with nx := t2 D }) hp c na hl ow n0 G q h cc
/-- the promise of __init__ -/
def SpI (ce : Ce) (K : PySem.W.Frag) (C : Addr) {α : Type} (R : Hp → List V → α → Prop) (f : α → M Wk) : Sp := fun vs H Q E => ∃ F H0 p dx x r, vs = .ref p :: r ∧ Ex F H0 ∧ H0 p = none ∧ H0 dx = none ∧ dx ≠ p ∧ H = upd (upd H0 dx (.own p)) p (.ins C dx []) ∧ R F r x ∧ Post ce (rv K) (f x) F H0 (fun v H' => v = .ref p → Q .non H') E
theorem raw_start {C p dx : Addr} (e : Ex F H) (h : H p = none) (hd : H dx = none) (ne : dx ≠ p) : Gr F H F (upd (upd H dx (.own p)) p (.ins C dx [])) ∧ Own K F (upd (upd H dx (.own p)) p (.ins C dx [])) p (RawO.mk C dx []) :=
  ⟨(Gr.own e hd).tr (Gr.own (Gr.own e hd).fh (by rw [upd_ne ne.symm]; exact h)), ⟨⟨_, upd_same, rfl⟩, ex_back e h⟩⟩
/-- the object is whole -/
theorem wk_done {C dx p : Addr} {u w : V} {pa : Int} {rs : List Row} (G : Gr F0 H0 F H) (n0 : H0 p = none) (o : Own K F H p (RawO.mk C dx (putF "rows" w (putF "parts" u [])))) (c : Cls K C) (n1 : NoAttr K C "parts") (n2 : NoAttr K C "rows") (r1 : rp K F u pa) (r2 : rp K F w rs) :
    ∃ F', Gr F0 H0 F' H ∧ rp K F' (.ref p) (Wk.mk pa rs) := by
  obtain ⟨F', g, e, ⟨p', h1, h2⟩, _⟩ := own_fix G o n0
  cases h1
  refine ⟨F', g, p, C, dx, _, u, w, rfl, h2, c, n1, n2, ?_, ?_, Rep.mo e r1, Rep.mo e r2⟩
  · rw [lookup_putF, if_neg (by decide +kernel), lookup_putF, if_pos rfl]
  · rw [lookup_putF, if_pos rfl]
theorem em_makeX {α : Type} {C : Addr} {ta : TA} {m1 : M α} {R : Hp → List V → α → Prop} {f : α → M Wk} (ha : EvAM ce E ta σ F H m1 R) : Ev ce E (tMake C (SpI ce K C R f) [] E ta) σ F H (rv K) (m1.bind fun x => f x) := fun F1 H1 g1 Q q => by
  refine ha F1 H1 g1 _ ?_
  cases m1 with
  | ok x =>
    intro F2 H2 vs g2 r2 p dx np nd ne
    rw [List.append_nil]
    refine ⟨F2, H2, p, dx, x, vs, rfl, g2.fh, np, nd, ne, rfl, r2, ?_⟩
    have q' := Post.mo g2 q
    have q'' : Post ce (rv K) (f x) F2 H2 Q E := q'
    revert q''
    cases f x with
    | ok r => exact fun z F3 H3 v g3 r3 e => ⟨rfl, by rw [← e]; exact z F3 H3 v g3 r3⟩
    | er c => exact fun z => z
    | bad => exact fun z => z
  | er c => exact q
  | bad => exact q
end
def trLen : Tr → M Int
  | .nd _ _ _ => .ok 3
  | .lf _ => .bad
theorem a_lenT {ce : Ce} {E : XK} {K : PySem.W.Frag} {x : Tr} : OpA ce E (RC K R0) (rLenS K) (rv K) (x, ()) (trLen x) := fun F1 H1 vs e ⟨v, r, e1, h, e3⟩ Q q => by
  cases e3
  cases x with
  | lf n => exact q.elim
  | nd s a b =>
    obtain ⟨p, w, z, h1, h2, h3, h4⟩ := h
    subst e1 h1
    exact ⟨p, _, rfl, .inr (ex_t e h2), q F1 H1 _ (Gr.rf e) rfl⟩
end Mw

set_option Elab.async false
set_option linter.all false
set_option maxRecDepth 100000
set_option maxHeartbeats 2000000
/-! Mw, part Q: told borders or trees. -/
namespace Mw
open PySem L2
open Rep (rp)
/-- ("shut", a pair) or ("tree", a tree) -/
inductive Sh where
  | shut (p : Int × Int)
  | tree (t : Tr)
  deriving DecidableEq
def wShut : Wd := wd (Str.ofString "shut")
def wTree : Wd := wd (Str.ofString "tree")
instance : Rep Sh := ⟨fun K H v x => match x with
  | .shut p => rp K H v (wShut, p)
  | .tree t => rp K H v (wTree, t), fun {K H H' v x} e h => by
    cases x with
    | shut p => exact Rep.mo (x := (wShut, p)) e h
    | tree t => exact Rep.mo (x := (wTree, t)) e h⟩
instance : Flat Wd := ⟨fun _ h => h⟩
instance : Flat Sh := ⟨fun {K H H' v x} e h => by
    cases x with
    | shut p => exact Flat.fl (x := (wShut, p)) e h
    | tree t => exact Flat.fl (x := (wTree, t)) e h⟩
instance : NN Sh := ⟨fun {K F v x} h => by
    cases x with
    | shut p => obtain ⟨a, u, w, h1, _⟩ := h; rw [h1]; exact fun z => nomatch z
    | tree t => obtain ⟨a, u, w, h1, _⟩ := h; rw [h1]; exact fun z => nomatch z⟩
instance : Ty Sh := ⟨"tuple", fun {K F H v x} e h => by
    cases x with
    | shut p => obtain ⟨a, u, w, h1, h2, _⟩ := h; subst h1; exact tyx_tup e h2
    | tree t => obtain ⟨a, u, w, h1, h2, _⟩ := h; subst h1; exact tyx_tup e h2⟩
noncomputable def shS (x : Wd × (Int × Int)) : M Sh := if x.1 = wShut then .ok (.shut x.2) else .bad
noncomputable def shT (x : Wd × Tr) : M Sh := if x.1 = wTree then .ok (.tree x.2) else .bad
def shW : Sh → Wd
  | .shut _ => wShut
  | .tree _ => wTree
def shV : Sh → M Tr
  | .shut _ => .bad
  | .tree t => .ok t
def shNe : Sh → Sh → M Bool
  | .shut p, .shut q => .ok (!decide (p = q))
  | _, _ => .bad
section
variable {ρ : Type} {ce : Ce} {E : XK} {K : PySem.W.Frag} {σ : L2.St} {F H F' H' F0 H0 : Hp} {te ta tb tc td : TE} {tt tu : TT}
theorem em_shS {m : M (Wd × (Int × Int))} (h : Ev ce E te σ F H (rv K) m) : Ev ce E te σ F H (rv K) (m.bind shS) := fun F1 H1 g1 Q q => by
  refine h F1 H1 g1 _ ?_
  cases m with
  | ok x =>
    intro F2 H2 v g2 r
    have q' : Post ce (rv K) (shS x) F1 H1 Q E := q
    unfold shS at q'
    split at q'
    · rename_i c
      refine q' F2 H2 v g2 ?_
      show rp K F2 v (wShut, x.2)
      rw [← c]
      exact r
    · exact q'.elim
  | er c => exact q
  | bad => exact q
theorem em_shT {m : M (Wd × Tr)} (h : Ev ce E te σ F H (rv K) m) : Ev ce E te σ F H (rv K) (m.bind shT) := fun F1 H1 g1 Q q => by
  refine h F1 H1 g1 _ ?_
  cases m with
  | ok x =>
    intro F2 H2 v g2 r
    have q' : Post ce (rv K) (shT x) F1 H1 Q E := q
    unfold shT at q'
    split at q'
    · rename_i c
      refine q' F2 H2 v g2 ?_
      show rp K F2 v (wTree, x.2)
      rw [← c]
      exact r
    · exact q'.elim
  | er c => exact q
  | bad => exact q
theorem o_shA {x : Sh} {i : Int} (hi : i = 0) : Op2 ce E K (rIxT K) (rv K) x i (.ok (shW x)) := fun F1 H1 vx vy e rx ry Q q => by
  cases x with
  | shut p => exact o_fst (x := (wShut, p)) hi F1 H1 vx vy e rx ry Q q
  | tree t => exact o_fst (x := (wTree, t)) hi F1 H1 vx vy e rx ry Q q
theorem o_shB {x : Sh} {i : Int} (hi : i = 1) : Op2 ce E K (rIxT K) (rv K) x i (shV x) := fun F1 H1 vx vy e rx ry Q q => by
  cases x with
  | shut p => exact q.elim
  | tree t => exact o_snd (x := (wTree, t)) hi F1 H1 vx vy e rx ry Q q
theorem a_lenSh {x : Sh} : OpA ce E (RC K R0) (rLenS K) (rv K) (x, ()) (.ok (2 : Int)) := fun F1 H1 vs e ⟨v, r, e1, h, e3⟩ Q q => by
  cases x with
  | shut p => exact a_len2 (x := (wShut, p)) F1 H1 vs e ⟨v, r, e1, h, e3⟩ Q q
  | tree t => exact a_len2 (x := (wTree, t)) F1 H1 vs e ⟨v, r, e1, h, e3⟩ Q q
theorem o_shNe {x y : Sh} : Op2 ce E K (rNeD K) (rv K) x y (shNe x y) := fun F1 H1 vx vy e rx ry Q q => by
  cases x with
  | tree t => cases y <;> exact q.elim
  | shut p =>
    cases y with
    | tree t => exact q.elim
    | shut r =>
      have ee : decide (p = r) = decide ((wShut, p) = (wShut, r)) := by
        rw [Bool.eq_iff_iff]; simp
      have q' : Post ce (rv K) (.ok (!decide (p = r))) F1 H1 Q E := q
      rw [ee] at q'
      exact o_neD (x := (wShut, p)) (y := (wShut, r)) (by decide) F1 H1 vx vy e rx ry Q q'
noncomputable def shlM (x y : Int) : M Int := chk (CPow x y) (x * 2 ^ y.toNat)
theorem o_shl {x y : Int} : Op2 ce E K (rI CPow fun i j => .int (i * 2 ^ j.toNat)) (rv K) x y (shlM x y) := o_Ic fun _ => rfl
end
end Mw
/-! ### xs.count(y), xs.index(y), len(set(xs)) -/
namespace Mw
open PySem L2
open Rep (rp)
section
variable {ρ α β : Type} [Rep α] [Rep β] {ce : Ce} {E : XK} {K : PySem.W.Frag} {σ : L2.St} {F H F' H' F0 H0 : Hp} {te ta tb tc td : TE} {tt tu : TT} {md : Md ρ}
def OpB (ce : Ce) (E : XK) (K : PySem.W.Frag) (r : V → List V → Hp → VK → Prop) (md : Md ρ) (xs : List Int) (y : Int) (m : M ρ) : Prop :=
  ∀ F1 H1 p, Ex F1 H1 → F1 p = some (.lst (xs.map V.int)) → ∀ Q, Post ce md m F1 H1 Q E → r (.ref p) [.int y] H1 Q
theorem em_bmi [MdMo md] {r : V → List V → Hp → VK → Prop} {m1 : M (List Int)} {m2 : M Int} {g : List Int → Int → M ρ} (ha : Ev ce E ta σ F H (rv K) m1) (hb : Ev ce E tb σ F H (rv K) m2) (hr : ∀ x y, OpB ce E K r md x y (g x y)) :
    Ev ce E (tBM K "list" r ta (tCons tb tNil)) σ F H md (m1.bind fun x => m2.bind fun y => g x y) := fun F1 H1 g1 Q q => by
  refine ha F1 H1 g1 _ ?_
  cases m1 with
  | er c => exact q
  | bad => exact q
  | ok x =>
    rintro F2 H2 v g2 ⟨p, vs, rfl, h2, h3⟩
    have e3 := paired_int h3
    subst e3
    refine ⟨.inl ⟨rfl, _, SqL.of (g2.fh _ _ h2)⟩, hb F2 H2 (g1.tr g2) _ ?_⟩
    cases m2 with
    | er c => exact fun H' e => q H' (g2.hh.tr e)
    | bad => exact q
    | ok y =>
      intro F3 H3 w g3 r3
      cases (show w = .int y from r3)
      exact hr x y F3 H3 p g3.fh (g3.ff _ _ h2) Q (Post.mo (g2.tr g3) q)
theorem o_cnt {xs : List Int} {y : Int} : OpB ce E K (rCntI K) (rv K) xs y (.ok ((xs.count y : Nat) : Int)) := fun F1 H1 p e h Q q =>
  ⟨p, xs, y, rfl, rfl, SqL.of (e _ _ h), q F1 H1 _ (Gr.rf e) rfl⟩
noncomputable def idxM (xs : List Int) (y : Int) : M Int := chk (y ∈ xs) ((xs.idxOf y : Nat) : Int)
theorem eqV_int (a b : Int) : eqV (.int a) (.int b) = decide (a = b) := by
  show (a == b) = _
  rw [Bool.eq_iff_iff]; simp
theorem o_idx {xs : List Int} {y : Int} : OpB ce E K (rIndex K) (rv K) xs y (idxM xs y) := fun F1 H1 p e h Q q => by
  unfold idxM chk at q
  split at q
  · rename_i hy
    have hl := List.idxOf_lt_length_of_mem hy
    refine ⟨p, xs.map V.int, .int y, xs.idxOf y, .int y, rfl, rfl, SqL.of (e _ _ h), rfl, ?_, ?_, ?_, ?_, q F1 H1 _ (Gr.rf e) rfl⟩
    · rw [List.all_eq_true]
      intro v hv
      obtain ⟨k, _, rfl⟩ := List.mem_map.mp hv
      rfl
    · rw [List.getElem?_map, List.getElem?_eq_getElem hl, List.getElem_idxOf hl]; rfl
    · rw [eqV_int]; exact decide_eq_true rfl
    · intro m z hm hz
      rw [List.getElem?_map, List.getElem?_eq_getElem (Nat.lt_trans hm hl)] at hz
      cases Option.some.inj hz
      rw [eqV_int]
      refine decide_eq_false fun z => ?_
      have := List.not_of_lt_findIdx (p := fun k => k == y) (xs := xs) (i := m) hm
      rw [z] at this
      simp at this
  · exact q.elim
/-- the unlike ones, as they are met -/
def met (xs : List Int) : List Int := PyProof.Rows.firstMet (fun i => xs.getD i 0) xs.length
noncomputable def lenSet (xs : List Int) : M Int := chk (xs.length < 64) ((met xs).length : Int)
def tLS (K : PySem.W.Frag) (ta : TE) : TE := fun σ H Q => ta σ H fun x H1 => ∃ p ns, x = V.ref p ∧ SqL K H1 p (ns.map V.int) ∧ List.length ns < 64 ∧ Q (.int (met ns).length) H1
theorem pe_lenSetZ {X : Cx} {a : Expr} {ta : TE} {p1 p2 p3 p4 : Pos} (calm : X.calm = true) (g1 : Gl X "len") (n1 : X.mg "len" = none) (g2 : Gl X "set") (n2 : X.mg "set" = none) (h : PE X a ta)
    (hs : starEach [a] X.env = (false, eval a X.env) :: starEach [] X.env := by rfl) : PE X (.Call (.Name "len" p1) [.Call (.Name "set" p2) [a] [] p3] [] p4) (tLS X.K ta) where
  run := fun pins s σ H Q I q =>
    PyProof.Rows.Call_ (ld_blt I g1 n1 PySem.boot_len (PyProof.Rows.callWith_builtin1 (PyProof.Rows.args_cons (PyProof.Rows.Call_ (ld_blt I g2 n2 PyProof.Rows.boot_set (PyProof.Rows.callWith_type1
      (PyProof.Rows.args_cons (thn (h.run pins s σ H _ I q) fun v s1 ⟨x, H1, I1, r1, p, ns, ex, sq, lt, q1⟩ => PyProof.Rows.args_nil (by
        subst ex
        cases r1
        obtain ⟨its, vals, plain, _⟩ := I1.list sq
        have size : its.toArray.size = ns.length := by rw [List.size_toArray, ← vals.length, List.length_map]
        refine call_set_list (ns := ns) (I1.ok.hd calm) plain.isList (by simpa using vals.ints) (by unfold scanBound; omega) fun heap toks made kept => ?_
        rw [size] at made
        have le := PyProof.Rows.firstMet_length_le (fun i => ns.getD i 0) ns.length
        obtain ⟨o, es, ep, t, at_, exact_, data, _, _, _, fits, many⟩ := made
        have I2 : Inv X pins σ H1 { s1 with heap := heap, toks := toks } := I1.kept fun b u e => kept b u (Heap.lt_size e) e
        exact PyProof.Rows.args_nil (call_len_set at_ exact_ data fits (by omega) ⟨.int (met ns).length, H1, I2.tok _, ⟨_, by rw [many]; rfl⟩, q1⟩))) hs) hs rfl))) rfl) rfl rfl))
theorem em_lenSet {m : M (List Int)} (ha : Ev ce E ta σ F H (rv K) m) : Ev ce E (tLS K ta) σ F H (rv K) (m.bind lenSet) := fun F1 H1 g1 Q q => by
  refine ha F1 H1 g1 _ ?_
  cases m with
  | er c => exact q
  | bad => exact q
  | ok x =>
    rintro F2 H2 v g2 ⟨p, vs, rfl, h2, h3⟩
    have e3 := paired_int h3
    subst e3
    have q' : Post ce (rv K) (lenSet x) F1 H1 Q E := q
    unfold lenSet chk at q'
    split at q'
    · rename_i hl
      exact ⟨p, x, rfl, SqL.of (g2.fh _ _ h2), hl, q' F2 H2 _ g2 rfl⟩
    · exact q'.elim
end
end Mw

set_option Elab.async false
set_option linter.all false
set_option maxRecDepth 100000
set_option maxHeartbeats 2000000
/-! Mw, part R: told pairs whose list is new, and is changed later. -/
namespace Mw
open PySem L2
open Rep (rp)
section
variable {ρ α β τ : Type} [Rep α] [Rep β] {ce : Ce} {E : XK} {K : PySem.W.Frag} {σ : L2.St} {F H F' H' F0 H0 F1 H1 Fb Hb : Hp} {te ta tb tc td : TE} {tt tu : TT} {md : Md ρ} {D : Ends} {P : τ → Prop}
/-- None, or a pair whose second part is a list that was not there in H -/
def Nu1 (K : PySem.W.Frag) (F H : Hp) (v : V) (x : Option (α × List β)) : Prop := match x with
  | none => v = .non
  | some y => ∃ a u q vs, v = .ref a ∧ SqT K F a [u, .ref q] ∧ rp K F u y.1 ∧ F q = some (.lst vs) ∧ Paired (rp K F) vs y.2 ∧ H q = none
theorem Nu1.rp {v : V} {x : Option (α × List β)} (h : Nu1 K F H v x) : rp K F v x := by
  cases x with
  | none => exact h
  | some y =>
    obtain ⟨a, u, q, vs, h1, h2, h3, h4, h5, _⟩ := h
    exact ⟨⟨a, u, .ref q, h1, h2, h3, ⟨q, vs, rfl, h4, h5⟩⟩, by rw [h1]; exact fun z => nomatch z⟩
def rf1 (K : PySem.W.Frag) : Md (Option (α × List β)) := fun _ H F' _ v r => Nu1 K F' H v r
instance : MdMo (rf1 K (α := α) (β := β)) := ⟨fun {F H F1 H1 F2 H2 v r} g h => by
  cases r with
  | none => exact h
  | some y =>
    obtain ⟨a, u, q, vs, h1, h2, h3, h4, h5, h6⟩ := h
    exact ⟨a, u, q, vs, h1, h2, h3, h4, h5, ex_back g.hh h6⟩⟩
theorem Ev.fv {m : M (Option (α × List β))} (h : Ev ce E te σ F H (rf1 K) m) : Ev ce E te σ F H (rv K) m := fun F1 H1 g1 Q q => by
  refine h F1 H1 g1 _ ?_
  cases m with
  | ok x => exact fun F2 H2 v g2 r => q F2 H2 v g2 r.rp
  | er c => exact q
  | bad => exact q
/-- x = e, e tells such a pair -/
theorem s_asgF {i : Nat} {m1 : M (Option (α × List β))} {k : Option (α × List β) → M τ} (G : Gr F0 H0 F H) (q : Wp ce E H0 (m1.bind k) P) (h : Ev ce E te σ F H (rf1 K) m1)
    (c : ∀ x F1 H1 v, Gr F H F1 H1 → Nu1 K F1 H v x → Wp ce E H0 (k x) P → D.nx (σ.set i (some v)) H1) : tAsg te (gName i) D σ H := by
  refine h F H (Gr.rf G.fh) _ ?_
  cases m1 with
  | ok x => exact fun F1 H1 v g r => c x F1 H1 v g r q
  | er cc => exact fun H' e => q H' (G.hh.tr e)
  | bad => exact q
theorem q_asgF {t2 : TS} {i : Nat} {m1 : M (Option (α × List β))} {k : Option (α × List β) → M τ} (G : Gr F0 H0 F H) (q : Wp ce E H0 (m1.bind k) P) (h : Ev ce E te σ F H (rf1 K) m1)
    (c : ∀ x F1 H1 v, Gr F H F1 H1 → Nu1 K F1 H v x → Wp ce E H0 (k x) P → t2 D (σ.set i (some v)) H1) : tSeq (tAsg te (gName i)) t2 D σ H := s_asgF (D := { D with nx := t2 D }) G q h c
/-- return (e, x), x a list of one's own -/
theorem s_retF {i : Nat} {p : Addr} {xs : List β} {m1 : M α} {k : Option (α × List β) → M τ} (hp : σ[i]? = some (some (.ref p))) (o : Own K F H p xs) (n0 : H0 p = none) (G : Gr F0 H0 F H) (q : Wp ce E H0 (m1.bind fun x => k (some (x, xs))) P)
    (h : Ev ce E te σ F H (rv K) m1) (hD : ∀ r F1 H1 v, Gr F0 H0 F1 H1 → rf1 K F0 H0 F1 H1 v r → Wp ce E H0 (k r) P → D.rt v H1) : tRet (tTup (tCons te (tCons (tVar i) tNil))) D σ H := by
  refine h F H (Gr.rf G.fh) _ ?_
  cases m1 with
  | er cc => exact fun H' e => q H' (G.hh.tr e)
  | bad => exact q
  | ok x =>
    intro F2 H2 v g r
    refine ⟨.ref p, hp, by show 2 ≤ sizeLine; decide, fun a na => ?_⟩
    have G2 := G.tr g
    obtain ⟨F3, G3, e3, ⟨q', vs, ez, h1, h2⟩, _⟩ := own_fix G2 (o.mo g) n0
    cases ez
    have gn := Gr.new (p := a) (o := .tup [v, .ref p]) G3.fh na
    exact hD (some (x, xs)) _ _ _ (G3.tr gn) ⟨a, v, p, vs, rfl, SqT.of upd_same, Rep.mo gn.ff (Rep.mo e3 r), gn.ff _ _ h1, paired_mo gn.ff h2, n0⟩ q
/-- back to what stood ahead of the call -/
theorem gr_back {q : Addr} {u : HO} (Gb : Gr F0 H0 Fb Hb) (n : Hb q = none) (e : Ex Fb H) (G : Ex H0 H) : Gr F0 H0 Fb (upd H q u) where
  ff := Gb.ff
  fh := fun a o h => by
    have : a ≠ q := fun z => by subst z; rw [Gb.fh a o h] at n; cases n
    rw [upd_ne this]; exact e a o h
  hh := fun a o h => by
    have : a ≠ q := fun z => by subst z; rw [Gb.hh a o h] at n; cases n
    rw [upd_ne this]; exact G a o h
  nw := Gb.nw
/-- x[1].append(e) -/
theorem s_appF {i : Nat} {v : V} {x : Option (α × List β)} {m1 : M β} {k : M τ} (hp : σ[i]? = some (some v)) (nu : Nu1 K F1 Hb v x) (e1 : Ex F1 F) (Gb : Gr F0 H0 Fb Hb) (eb : Ex Fb F1) (G : Gr F0 H0 F H)
    (q : Wp ce E H0 ((getM x).bind fun y => m1.bind fun z => (appM y.2 z).bind fun _ => k) P) (h : Ev ce E te σ F H (rv K) m1)
    (c : ∀ H2, Gr F0 H0 Fb H2 → Wp ce E H0 k P → D.nx σ H2) : tDrop (tBM K "list" rAppend (tOp (rIxT K) (tVar i) (tC (.int 1))) (tCons te tNil)) D σ H := by
  cases x with
  | none => exact q.elim
  | some y =>
    obtain ⟨a, u, p, vs, rfl, h2, h3, h4, h5, h6⟩ := nu
    have hF : H p = some (.lst vs) := G.fh _ _ (e1 _ _ h4)
    refine ⟨.ref a, hp, a, [u, .ref p], 1, .ref p, rfl, rfl, ex_t (e1.tr G.fh) h2, rfl, .inl ⟨rfl, vs, SqL.of hF⟩, ?_⟩
    have q1 : Wp ce E H0 (m1.bind fun z => (appM y.2 z).bind fun _ => k) P := q
    refine h F H (Gr.rf G.fh) _ ?_
    cases m1 with
    | er cc => exact fun H' e => q1 H' (G.hh.tr e)
    | bad => exact q1
    | ok z =>
      intro F2 H2 w g r
      have q2 : Wp ce E H0 ((appM y.2 z).bind fun _ => k) P := q1
      unfold appM chk at q2
      split at q2
      · rename_i hl
        refine ⟨p, vs, w, rfl, rfl, g.hh _ _ hF, ?_, ?_⟩
        · rw [Paired.length h5, sizeLine_eq]; omega
        · exact c _ (gr_back Gb h6 (((eb.tr e1).tr g.ff).tr g.fh) (G.tr g).hh) q2
      · exact q2.elim
theorem q_appF {t2 : TS} {i : Nat} {v : V} {x : Option (α × List β)} {m1 : M β} {k : M τ} (hp : σ[i]? = some (some v)) (nu : Nu1 K F1 Hb v x) (e1 : Ex F1 F) (Gb : Gr F0 H0 Fb Hb) (eb : Ex Fb F1) (G : Gr F0 H0 F H)
    (q : Wp ce E H0 ((getM x).bind fun y => m1.bind fun z => (appM y.2 z).bind fun _ => k) P) (h : Ev ce E te σ F H (rv K) m1)
    (c : ∀ H2, Gr F0 H0 Fb H2 → Wp ce E H0 k P → t2 D σ H2) : tSeq (tDrop (tBM K "list" rAppend (tOp (rIxT K) (tVar i) (tC (.int 1))) (tCons te tNil))) t2 D σ H := s_appF (D := { D with nx := t2 D }) hp nu e1 Gb eb G q h c
/-- x.append(e): x was new when it was told, nothing leans on it but what is forgotten now -/
theorem s_appT {i : Nat} {p : Addr} {xs : List α} {m1 : M α} {k : List α → M τ} (hp : σ[i]? = some (some (.ref p))) (rx : rp K F (.ref p) xs) (n0 : H0 p = none) (e0 : Ex F0 H0) (G : Gr F0 H0 F H)
    (q : Wp ce E H0 (m1.bind fun x => (appM xs x).bind k) P) (h : Ev ce E te σ F H (rv K) m1)
    (c : ∀ ys Fu Hu, Gr F0 H0 Fu Hu → (∀ Fb, Ex Fb F → Fb p = none → Ex Fb Fu) → (∀ (γ : Type) [Rep γ] [Flat γ] (r : Addr) (z : List γ), r ≠ p → Own K F H r z → Own K Fu Hu r z) → Wp ce E H0 (k ys) P → D.nx σ Hu) :
    tDrop (tBM K "list" rAppend (tVar i) (tCons te tNil)) D σ H := by
  obtain ⟨a, vs, ea, h1, h2⟩ := rx
  cases ea
  refine ⟨.ref p, hp, .inl ⟨rfl, vs, SqL.of (G.fh _ _ h1)⟩, h F H (Gr.rf G.fh) _ ?_⟩
  cases m1 with
  | er cc => exact fun H' e => q H' (G.hh.tr e)
  | bad => exact q
  | ok x =>
    intro F1 H1 v g r
    have w' : Wp ce E H0 ((appM xs x).bind k) P := q
    unfold appM chk at w'
    split at w'
    · rename_i hl
      have l1 := g.ff _ _ h1
      have f0 : F0 p = none := ex_back e0 n0
      have aq : ∀ b, b ≠ p → th F1 [p] b = F1 b := fun b hb => by unfold th; rw [if_neg (by simpa using hb)]
      have ap : th F1 [p] p = none := by unfold th; rw [if_pos (by simp)]
      have G1 := G.tr g
      have te1 : TupEx F1 (th F1 [p]) := th_tup fun b m ys rd => by
        rw [List.mem_singleton.mp m] at rd
        rcases rd with rd | ⟨o, rd⟩ <;> (rw [l1] at rd; cases rd)
      refine ⟨p, vs, v, rfl, rfl, g.fh _ _ l1, by rw [Paired.length h2, sizeLine_eq]; omega, c (xs ++ [x]) (th F1 [p]) _ ⟨fun b o e => ?_, fun b o e => ?_, fun b o e => ?_, fun b b1 b2 => ?_⟩ (fun Fb eb nb b o e => ?_) (fun γ _ _ r z hr o => ?_) w'⟩
      · have : b ≠ p := fun z => by subst z; rw [f0] at e; cases e
        rw [aq b this]; exact G1.ff b o e
      · have : b ≠ p := fun z => by subst z; rw [ap] at e; cases e
        rw [aq b this] at e
        rw [upd_ne this]; exact G1.fh b o e
      · have : b ≠ p := fun z => by subst z; rw [n0] at e; cases e
        rw [upd_ne this]; exact G1.hh b o e
      · by_cases z : b = p
        · subst z; exact ap
        · rw [aq b z]; exact G1.nw b b1 b2
      · have : b ≠ p := fun z => by subst z; rw [nb] at e; cases e
        rw [aq b this]; exact g.ff b o (eb b o e)
      · exact (own_fl (o.mo g) te1 (aq r hr)).upd hr
    · exact w'.elim
theorem q_appT {t2 : TS} {i : Nat} {p : Addr} {xs : List α} {m1 : M α} {k : List α → M τ} (hp : σ[i]? = some (some (.ref p))) (rx : rp K F (.ref p) xs) (n0 : H0 p = none) (e0 : Ex F0 H0) (G : Gr F0 H0 F H)
    (q : Wp ce E H0 (m1.bind fun x => (appM xs x).bind k) P) (h : Ev ce E te σ F H (rv K) m1)
    (c : ∀ ys Fu Hu, Gr F0 H0 Fu Hu → (∀ Fb, Ex Fb F → Fb p = none → Ex Fb Fu) → (∀ (γ : Type) [Rep γ] [Flat γ] (r : Addr) (z : List γ), r ≠ p → Own K F H r z → Own K Fu Hu r z) → Wp ce E H0 (k ys) P → t2 D σ Hu) :
    tSeq (tDrop (tBM K "list" rAppend (tVar i) (tCons te tNil))) t2 D σ H := s_appT (D := { D with nx := t2 D }) hp rx n0 e0 G q h c
end
end Mw
/-! ### words.count(word) -/
namespace L2
open PySem PyProof.Rows
theorem cntU {x : V} : ∀ {xs : List V} {us : List Value}, Vals xs us → xs.all flatV = true → us.countP (eqU x) = xs.countP fun y => eqV y x
  | _, _, .nil, _ => rfl
  | y :: xs, u :: us, .cons r t, f => by
    rw [List.all_cons, Bool.and_eq_true] at f
    rw [List.countP_cons, List.countP_cons, eqU_of r f.1, cntU t f.2]
def rCntF (K : PySem.W.Frag) : V → List V → Hp → VK → Prop := fun x xs H Q => ∃ p ys y, x = V.ref p ∧ xs = [y] ∧ SqL K H p ys ∧ flatV y = true ∧ ys.all flatV = true ∧ Q (.int ((ys.countP fun z => eqV z y : Nat) : Int)) H
theorem mt_cntF {X : Cx} : MtR X "list.count" (rCntF X.K) := by
  intro pins s σ H x xs v us Q I rx rxs h
  obtain ⟨p, ys, y, rfl, rfl, sq, fy, fys, q⟩ := h
  cases rx
  obtain ⟨u, rfl, ru⟩ := rxs.one
  obtain ⟨its, vals, ⟨⟨cls, dict, data, slots⟩, n, at_, c1, dn, d1⟩, len⟩ := I.list sq
  simp only at c1 d1
  subst c1 d1
  have same : its.toArray.toList.countP (eqU y) = ys.countP fun z => eqV z y := cntU vals fys
  refine call_meets PySem.F.slot_list_count ⟨_, at_, rfl⟩ PySem.F.entry_list_count (PySem.F.args_list_count_2 _ _) (SeqAt.list_countAt p its.toArray n dict slots u (eqU y))
    ⟨at_, fun w hw => mem_eqAt ru fy vals fys w (by simpa using hw), .int ((ys.countP fun z => eqV z y : Nat) : Int), H, I.tok _, ⟨s.toks, ?_⟩, q⟩
  show Value.int ((its.toArray.toList.countP (eqU y) : Nat) : Int) s.toks = _
  rw [same]
end L2
namespace Mw
open PySem L2
open Rep (rp)
def clV : Cl → V
  | .i n => .int n
  | .w s => .str s.s
theorem paired_cl {K : PySem.W.Frag} {H : Hp} : ∀ {vs : List V} {xs : List Cl}, Paired (rp K H) vs xs → vs = xs.map clV
  | _, _, .nil => rfl
  | _, x :: _, .cons h t => by
    rw [List.map_cons, ← paired_cl t]
    refine congrArg (· :: _) ?_
    cases x with
    | i n => exact h
    | w s => exact h
theorem eqV_cl (x y : Cl) : eqV (clV x) (clV y) = decide (x = y) := by
  rw [Bool.eq_iff_iff, decide_eq_true_eq]
  cases x with
  | i n =>
    cases y with
    | i m => show (n == m) = true ↔ _; simp
    | w t => exact ⟨(fun z => nomatch z), (fun z => nomatch z)⟩
  | w s =>
    cases y with
    | i m => exact ⟨(fun z => nomatch z), (fun z => nomatch z)⟩
    | w t =>
      obtain ⟨s, hs⟩ := s
      obtain ⟨t, ht⟩ := t
      show (s == t) = true ↔ _
      simp
theorem flat_cl (x : Cl) : flatV (clV x) = true := by cases x <;> rfl
section
variable {ce : Ce} {E : XK} {K : PySem.W.Frag} {σ : L2.St} {F H : Hp} {ta tb : TE}
theorem em_cntC {m1 : M (List Cl)} {m2 : M Cl} (ha : Ev ce E ta σ F H (rv K) m1) (hb : Ev ce E tb σ F H (rv K) m2) :
    Ev ce E (tBM K "list" (rCntF K) ta (tCons tb tNil)) σ F H (rv K) (m1.bind fun x => m2.bind fun y => .ok ((List.count y x : Nat) : Int)) := fun F1 H1 g1 Q q => by
  refine ha F1 H1 g1 _ ?_
  cases m1 with
  | er c => exact q
  | bad => exact q
  | ok x =>
    rintro F2 H2 v g2 ⟨p, vs, rfl, h2, h3⟩
    have e3 := paired_cl h3
    subst e3
    refine ⟨.inl ⟨rfl, _, SqL.of (g2.fh _ _ h2)⟩, hb F2 H2 (g1.tr g2) _ ?_⟩
    cases m2 with
    | er c => exact fun H' e => q H' (g2.hh.tr e)
    | bad => exact q
    | ok y =>
      intro F3 H3 w g3 r3
      have ew : w = clV y := by
        cases y with
        | i n => exact r3
        | w s => exact r3
      subst ew
      refine ⟨p, x.map clV, clV y, rfl, rfl, SqL.of (g3.fh _ _ (g3.ff _ _ h2)), flat_cl y, List.all_eq_true.mpr fun z hz => ?_, ?_⟩
      · obtain ⟨c, _, rfl⟩ := List.mem_map.mp hz
        exact flat_cl c
      · have en : (x.map clV).countP (fun z => eqV z (clV y)) = List.count y x := by
          rw [List.countP_map]
          show x.countP (fun z => eqV (clV z) (clV y)) = x.countP (· == y)
          refine congrArg (fun f => x.countP f) (funext fun z => ?_)
          rw [eqV_cl]
          rw [Bool.eq_iff_iff]; simp
        rw [en]
        exact (Post.mo (g2.tr g3) q) F3 H3 _ (Gr.rf g3.fh) rfl
end
end Mw

set_option Elab.async false
set_option linter.all false
set_option maxRecDepth 100000
set_option maxHeartbeats 2000000
/-! Mw, part U: what is one's own through and through. -/
namespace Mw
open PySem L2
open Rep (rp)
/-! ### shapes -/
structure Shp (α : Type) [Rep α] where
  own : PySem.W.Frag → Hp → Hp → V → α → List Addr → Prop
  mo : ∀ {K : PySem.W.Frag} {F H F' H' : Hp} {v : V} {x : α} {A : List Addr}, Ex F F' → (∀ a ∈ A, H' a = H a) → (∀ a ∈ A, F' a = none) → own K F H v x A → own K F' H' v x A
  nf : ∀ {K : PySem.W.Frag} {F H : Hp} {v : V} {x : α} {A : List Addr}, own K F H v x A → ∀ a ∈ A, F a = none
  nh : ∀ {K : PySem.W.Frag} {F H : Hp} {v : V} {x : α} {A : List Addr}, own K F H v x A → ∀ a ∈ A, ∃ o, H a = some o ∧ NoTup o
  rep : ∀ {K : PySem.W.Frag} {F H F' : Hp} {v : V} {x : α} {A : List Addr}, own K F H v x A → Ex F F' → (∀ a ∈ A, F' a = H a) → rp K F' v x
/-- what leans on tuples alone, for the rest -/
class ShFl {α : Type} [Rep α] (s : Shp α) : Prop where
  fl : ∀ {K : PySem.W.Frag} {F H F' : Hp} {v : V} {x : α} {A : List Addr}, TupEx F F' → (∀ a ∈ A, F' a = none) → s.own K F H v x A → s.own K F' H v x A
def shpS {α : Type} [Rep α] : Shp α where
  own := fun K F H v x A => A = [] ∧ rp K F v x
  mo := fun e _ _ ⟨h1, h2⟩ => ⟨h1, Rep.mo e h2⟩
  nf := fun ⟨h1, _⟩ a m => by subst h1; exact nomatch m
  nh := fun ⟨h1, _⟩ a m => by subst h1; exact nomatch m
  rep := fun ⟨_, h2⟩ e _ => Rep.mo e h2
instance {α : Type} [Rep α] [Flat α] : ShFl (shpS (α := α)) := ⟨fun e _ ⟨h1, h2⟩ => ⟨h1, Flat.fl e h2⟩⟩
/-- items one by one, each with its own -/
inductive OwL {α : Type} (ow : V → α → List Addr → Prop) : List V → List α → List Addr → Prop
  | nil : OwL ow [] [] []
  | cons {v : V} {x : α} {A : List Addr} {vs : List V} {xs : List α} {B : List Addr} : ow v x A → OwL ow vs xs B → (∀ a ∈ A, a ∉ B) → OwL ow (v :: vs) (x :: xs) (A ++ B)
section
variable {α β : Type} {ow ow' : V → α → List Addr → Prop}
theorem OwL.imp {vs : List V} {xs : List α} {A : List Addr} (h : OwL ow vs xs A) (f : ∀ v x B, (∀ b ∈ B, b ∈ A) → ow v x B → ow' v x B) : OwL ow' vs xs A := by
  induction h with
  | nil => exact .nil
  | cons h1 h2 h3 ih => exact .cons (f _ _ _ (fun b m => List.mem_append_left _ m) h1) (ih fun v x B hB => f v x B fun b m => List.mem_append_right _ (hB b m)) h3
theorem OwL.all {vs : List V} {xs : List α} {A : List Addr} {Pp : Addr → Prop} (h : OwL ow vs xs A) (f : ∀ v x B, ow v x B → ∀ b ∈ B, Pp b) : ∀ a ∈ A, Pp a := by
  induction h with
  | nil => exact fun _ m => nomatch m
  | cons h1 h2 h3 ih => exact fun a m => (List.mem_append.mp m).elim (f _ _ _ h1 a) (ih a)
theorem OwL.pair {vs : List V} {xs : List α} {A : List Addr} {R : V → α → Prop} (h : OwL ow vs xs A) (f : ∀ v x B, (∀ b ∈ B, b ∈ A) → ow v x B → R v x) : Paired R vs xs := by
  induction h with
  | nil => exact .nil
  | cons h1 h2 h3 ih => exact .cons (f _ _ _ (fun b m => List.mem_append_left _ m) h1) (ih fun v x B hB => f v x B fun b m => List.mem_append_right _ (hB b m))
theorem OwL.length {vs : List V} {xs : List α} {A : List Addr} (h : OwL ow vs xs A) : vs.length = xs.length := by
  induction h with
  | nil => rfl
  | cons h1 h2 h3 ih => simp [ih]
theorem OwL.app {vs ws : List V} {xs ys : List α} {A B : List Addr} (h : OwL ow vs xs A) (g : OwL ow ws ys B) (d : ∀ a ∈ A, a ∉ B) : OwL ow (vs ++ ws) (xs ++ ys) (A ++ B) := by
  induction h with
  | nil => exact g
  | cons h1 h2 h3 ih =>
    rw [List.append_assoc]
    refine .cons h1 (ih fun a m => d a (List.mem_append_right _ m)) fun a m n => ?_
    rcases List.mem_append.mp n with n | n
    · exact h3 a m n
    · exact d a (List.mem_append_left _ m) n
theorem OwL.one {v : V} {x : α} {A : List Addr} (h : ow v x A) : OwL ow [v] [x] A := by
  have := OwL.cons h OwL.nil fun _ _ z => nomatch z
  rwa [List.append_nil] at this
/-- the item at a place, and what stands around it -/
theorem OwL.at {vs : List V} {xs : List α} {A : List Addr} (h : OwL ow vs xs A) : ∀ {j : Nat} {x : α}, xs[j]? = some x → ∃ v B, vs[j]? = some v ∧ ow v x B ∧ (∀ b ∈ B, b ∈ A) ∧
    ∀ (ow' : V → α → List Addr → Prop) x' B', ow' v x' B' → (∀ b ∈ B', b ∈ A → b ∈ B) → (∀ w y C, (∀ c ∈ C, c ∈ A ∧ c ∉ B) → ow w y C → ow' w y C) → ∃ A', OwL ow' vs (xs.set j x') A' ∧ ∀ a ∈ A', a ∈ B' ∨ (a ∈ A ∧ a ∉ B) := by
  induction h with
  | nil => intro j x e; simp at e
  | @cons v x A vs xs B h1 h2 h3 ih =>
    intro j y e
    cases j with
    | zero =>
      simp at e
      subst e
      refine ⟨v, A, rfl, h1, fun b m => List.mem_append_left _ m, fun ow' x' B' h' sub f => ⟨B' ++ B, ?_, fun a m => ?_⟩⟩
      · refine .cons h' (h2.imp fun w y C hC => f w y C fun c m => ⟨List.mem_append_right _ (hC c m), fun z => h3 c z (hC c m)⟩) fun a m n => h3 a (sub a m (List.mem_append_right _ n)) n
      · rcases List.mem_append.mp m with m | m
        · exact .inl m
        · exact .inr ⟨List.mem_append_right _ m, fun z => h3 a z m⟩
    | succ j =>
      simp at e
      obtain ⟨u, C, e1, o1, s1, f1⟩ := ih e
      refine ⟨u, C, by simpa using e1, o1, fun b m => List.mem_append_right _ (s1 b m), fun ow' x' B' h' sub f => ?_⟩
      obtain ⟨A', g1, g2⟩ := f1 ow' x' B' h' (fun b m n => sub b m (List.mem_append_right _ n)) fun w y D hD => f w y D fun c m => ⟨List.mem_append_right _ (hD c m).1, (hD c m).2⟩
      refine ⟨A ++ A', .cons (f _ _ _ (fun c m => ⟨List.mem_append_left _ m, fun z => h3 c m (s1 c z)⟩) h1) g1 fun a m n => ?_, fun a m => ?_⟩
      · rcases g2 a n with z | z
        · exact h3 a m (s1 a (sub a z (List.mem_append_left _ m)))
        · exact h3 a m z.1
      · rcases List.mem_append.mp m with m | m
        · exact .inr ⟨List.mem_append_left _ m, fun z => h3 a m (s1 a z)⟩
        · rcases g2 a m with z | z
          · exact .inl z
          · exact .inr ⟨List.mem_append_right _ z.1, z.2⟩
end
/-- a list of one's own -/
def shpL {α : Type} [Rep α] (s : Shp α) : Shp (List α) where
  own := fun K F H v x A => ∃ p vs B, v = .ref p ∧ A = p :: B ∧ p ∉ B ∧ F p = none ∧ H p = some (.lst vs) ∧ OwL (s.own K F H) vs x B
  mo := fun {K F H F' H' v x A} e h f ⟨p, vs, B, h1, h2, h3, h4, h5, h6⟩ => by
    subst h2
    exact ⟨p, vs, B, h1, rfl, h3, f p List.mem_cons_self, by rw [h p List.mem_cons_self]; exact h5, h6.imp fun v x C hC => s.mo e (fun a m => h a (List.mem_cons_of_mem _ (hC a m))) (fun a m => f a (List.mem_cons_of_mem _ (hC a m)))⟩
  nf := fun {K F H v x A} ⟨p, vs, B, h1, h2, h3, h4, h5, h6⟩ a m => by
    subst h2
    rcases List.mem_cons.mp m with rfl | m
    · exact h4
    · exact h6.all (Pp := fun a => F a = none) (fun v x B h => s.nf h) a m
  nh := fun {K F H v x A} ⟨p, vs, B, h1, h2, h3, h4, h5, h6⟩ a m => by
    subst h2
    rcases List.mem_cons.mp m with rfl | m
    · exact ⟨_, h5, (fun _ z => nomatch z), (fun _ _ z => nomatch z)⟩
    · exact h6.all (Pp := fun a => ∃ o, H a = some o ∧ NoTup o) (fun v x B h => s.nh h) a m
  rep := fun {K F H F' v x A} ⟨p, vs, B, h1, h2, h3, h4, h5, h6⟩ e h => by
    subst h2
    exact ⟨p, vs, h1, by rw [h p List.mem_cons_self]; exact h5, h6.pair fun v x C hC o => s.rep o e fun a m => h a (List.mem_cons_of_mem _ (hC a m))⟩
instance {α : Type} [Rep α] {s : Shp α} [ShFl s] : ShFl (shpL s) := ⟨fun {K F H F' v x A} e f ⟨p, vs, B, h1, h2, h3, h4, h5, h6⟩ => by
  subst h2
  exact ⟨p, vs, B, h1, rfl, h3, f p List.mem_cons_self, h5, h6.imp fun v x C hC => ShFl.fl e (fun a m => f a (List.mem_cons_of_mem _ (hC a m)))⟩⟩
/-- None, or a thing of one's own -/
def shpO {α : Type} [Rep α] (s : Shp α) : Shp (Option α) where
  own := fun K F H v x A => match x with
    | none => A = [] ∧ v = .non
    | some y => s.own K F H v y A ∧ v ≠ .non
  mo := fun {K F H F' H' v x A} e h f o => by
    cases x with
    | none => exact o
    | some y => exact ⟨s.mo e h f o.1, o.2⟩
  nf := fun {K F H v x A} o a m => by
    cases x with
    | none => rw [o.1] at m; exact nomatch m
    | some y => exact s.nf o.1 a m
  nh := fun {K F H v x A} o a m => by
    cases x with
    | none => rw [o.1] at m; exact nomatch m
    | some y => exact s.nh o.1 a m
  rep := fun {K F H F' v x A} o e h => by
    cases x with
    | none => exact o.2
    | some y => exact ⟨s.rep o.1 e h, o.2⟩
instance {α : Type} [Rep α] {s : Shp α} [ShFl s] : ShFl (shpO s) := ⟨fun {K F H F' v x A} e f o => by
  cases x with
  | none => exact o
  | some y => exact ⟨ShFl.fl e f o.1, o.2⟩⟩
theorem dj_app {A B : List Addr} {Pp : Addr → Prop} (h : ∀ a ∈ A ++ B, Pp a) : (∀ a ∈ A, Pp a) ∧ ∀ a ∈ B, Pp a := ⟨fun a m => h a (List.mem_append_left _ m), fun a m => h a (List.mem_append_right _ m)⟩
theorem dj_mem {A B : List Addr} {Pp : Addr → Prop} (h : ∀ a ∈ A, Pp a) (g : ∀ a ∈ B, Pp a) : ∀ a ∈ A ++ B, Pp a := fun a m => (List.mem_append.mp m).elim (h a) (g a)
/-- a list of two unlike things -/
def shpH {α β : Type} [Rep α] [Rep β] (s : Shp α) (t : Shp β) : Shp (H2 α β) where
  own := fun K F H v x A => ∃ p u w B C, v = .ref p ∧ A = p :: (B ++ C) ∧ p ∉ B ++ C ∧ (∀ b ∈ B, b ∉ C) ∧ F p = none ∧ H p = some (.lst [u, w]) ∧ s.own K F H u x.a B ∧ t.own K F H w x.b C
  mo := fun {K F H F' H' v x A} e h f ⟨p, u, w, B, C, h1, h2, h3, h4, h5, h6, h7, h8⟩ => by
    subst h2
    obtain ⟨a1, a2⟩ := dj_app fun a m => h a (List.mem_cons_of_mem _ m)
    obtain ⟨b1, b2⟩ := dj_app fun a m => f a (List.mem_cons_of_mem _ m)
    exact ⟨p, u, w, B, C, h1, rfl, h3, h4, f p List.mem_cons_self, by rw [h p List.mem_cons_self]; exact h6, s.mo e a1 b1 h7, t.mo e a2 b2 h8⟩
  nf := fun {K F H v x A} ⟨p, u, w, B, C, h1, h2, h3, h4, h5, h6, h7, h8⟩ a m => by
    subst h2
    rcases List.mem_cons.mp m with rfl | m
    · exact h5
    · exact dj_mem (s.nf h7) (t.nf h8) a m
  nh := fun {K F H v x A} ⟨p, u, w, B, C, h1, h2, h3, h4, h5, h6, h7, h8⟩ a m => by
    subst h2
    rcases List.mem_cons.mp m with rfl | m
    · exact ⟨_, h6, (fun _ z => nomatch z), (fun _ _ z => nomatch z)⟩
    · exact dj_mem (s.nh h7) (t.nh h8) a m
  rep := fun {K F H F' v x A} ⟨p, u, w, B, C, h1, h2, h3, h4, h5, h6, h7, h8⟩ e h => by
    subst h2
    obtain ⟨a1, a2⟩ := dj_app fun a m => h a (List.mem_cons_of_mem _ m)
    exact ⟨p, u, w, h1, by rw [h p List.mem_cons_self]; exact h6, s.rep h7 e a1, t.rep h8 e a2⟩
instance {α β : Type} [Rep α] [Rep β] {s : Shp α} {t : Shp β} [ShFl s] [ShFl t] : ShFl (shpH s t) := ⟨fun {K F H F' v x A} e f ⟨p, u, w, B, C, h1, h2, h3, h4, h5, h6, h7, h8⟩ => by
  subst h2
  obtain ⟨b1, b2⟩ := dj_app fun a m => f a (List.mem_cons_of_mem _ m)
  exact ⟨p, u, w, B, C, h1, rfl, h3, h4, f p List.mem_cons_self, h6, ShFl.fl e b1 h7, ShFl.fl e b2 h8⟩⟩
/-- a pair (a tuple that stays) of things of one's own -/
def shpP {α β : Type} [Rep α] [Rep β] (s : Shp α) (t : Shp β) : Shp (α × β) where
  own := fun K F H v x A => ∃ p u w B C, v = .ref p ∧ A = B ++ C ∧ (∀ b ∈ B, b ∉ C) ∧ SqT K F p [u, w] ∧ s.own K F H u x.1 B ∧ t.own K F H w x.2 C
  mo := fun {K F H F' H' v x A} e h f ⟨p, u, w, B, C, h1, h2, h4, h6, h7, h8⟩ => by
    subst h2
    obtain ⟨a1, a2⟩ := dj_app h
    obtain ⟨b1, b2⟩ := dj_app f
    exact ⟨p, u, w, B, C, h1, rfl, h4, ex_t e h6, s.mo e a1 b1 h7, t.mo e a2 b2 h8⟩
  nf := fun {K F H v x A} ⟨p, u, w, B, C, h1, h2, h4, h6, h7, h8⟩ a m => by
    subst h2
    exact dj_mem (s.nf h7) (t.nf h8) a m
  nh := fun {K F H v x A} ⟨p, u, w, B, C, h1, h2, h4, h6, h7, h8⟩ a m => by
    subst h2
    exact dj_mem (s.nh h7) (t.nh h8) a m
  rep := fun {K F H F' v x A} ⟨p, u, w, B, C, h1, h2, h4, h6, h7, h8⟩ e h => by
    subst h2
    obtain ⟨a1, a2⟩ := dj_app h
    exact ⟨p, u, w, h1, ex_t e h6, s.rep h7 e a1, t.rep h8 e a2⟩
instance {α β : Type} [Rep α] [Rep β] {s : Shp α} {t : Shp β} [ShFl s] [ShFl t] : ShFl (shpP s t) := ⟨fun {K F H F' v x A} e f ⟨p, u, w, B, C, h1, h2, h4, h6, h7, h8⟩ => by
  subst h2
  obtain ⟨b1, b2⟩ := dj_app f
  exact ⟨p, u, w, B, C, h1, rfl, h4, tup_t e h6, ShFl.fl e b1 h7, ShFl.fl e b2 h8⟩⟩
/-! ### all that is one's own -/
structure HP where
  ok : PySem.W.Frag → Hp → Hp → List Addr → Prop
  mo : ∀ {K : PySem.W.Frag} {F H F' H' : Hp} {A : List Addr}, Ex F F' → (∀ a ∈ A, H' a = H a) → (∀ a ∈ A, F' a = none) → ok K F H A → ok K F' H' A
  nf : ∀ {K : PySem.W.Frag} {F H : Hp} {A : List Addr}, ok K F H A → ∀ a ∈ A, F a = none
  nh : ∀ {K : PySem.W.Frag} {F H : Hp} {A : List Addr}, ok K F H A → ∀ a ∈ A, ∃ o, H a = some o ∧ NoTup o
def hO {α : Type} [Rep α] (s : Shp α) (v : V) (x : α) : HP := ⟨fun K F H A => s.own K F H v x A, s.mo, s.nf, s.nh⟩
def HAll (K : PySem.W.Frag) (F H : Hp) : List HP → List Addr → Prop
  | [], A => A = []
  | P :: l, A => ∃ B C, A = B ++ C ∧ (∀ b ∈ B, b ∉ C) ∧ P.ok K F H B ∧ HAll K F H l C
section
variable {K : PySem.W.Frag} {F H F' H' F0 H0 F1 H1 : Hp} {l l' l1 l2 : List HP} {A : List Addr}
theorem HAll.mo : ∀ {l : List HP} {A : List Addr}, Ex F F' → (∀ a ∈ A, H' a = H a) → (∀ a ∈ A, F' a = none) → HAll K F H l A → HAll K F' H' l A
  | [], _, _, _, _, h => h
  | P :: l, A, e, h, f, ⟨B, C, h1, h2, h3, h4⟩ => by
    subst h1
    obtain ⟨a1, a2⟩ := dj_app h
    obtain ⟨b1, b2⟩ := dj_app f
    exact ⟨B, C, rfl, h2, P.mo e a1 b1 h3, HAll.mo e a2 b2 h4⟩
theorem HAll.nf : ∀ {l : List HP} {A : List Addr}, HAll K F H l A → ∀ a ∈ A, F a = none
  | [], _, h => by rw [show _ = [] from h]; exact fun _ z => nomatch z
  | P :: l, A, ⟨B, C, h1, h2, h3, h4⟩ => by subst h1; exact dj_mem (P.nf h3) (HAll.nf h4)
theorem HAll.nh : ∀ {l : List HP} {A : List Addr}, HAll K F H l A → ∀ a ∈ A, ∃ o, H a = some o ∧ NoTup o
  | [], _, h => by rw [show _ = [] from h]; exact fun _ z => nomatch z
  | P :: l, A, ⟨B, C, h1, h2, h3, h4⟩ => by subst h1; exact dj_mem (P.nh h3) (HAll.nh h4)
theorem HAll.ne (h : HAll K F H l A) : ∀ a ∈ A, H a ≠ none := fun a m => by obtain ⟨o, e, _⟩ := h.nh a m; rw [e]; exact fun z => nomatch z
theorem HAll.front : ∀ {l1 : List HP} {P : HP} {l2 : List HP} {A : List Addr}, HAll K F H (l1 ++ P :: l2) A → ∃ A', HAll K F H (P :: (l1 ++ l2)) A' ∧ ∀ a, a ∈ A' ↔ a ∈ A
  | [], P, l2, A, h => ⟨A, h, fun _ => Iff.rfl⟩
  | Q :: l1, P, l2, A, ⟨B, C, h1, h2, h3, h4⟩ => by
    subst h1
    obtain ⟨C', ⟨D, E, e1, e2, e3, e4⟩, e⟩ := HAll.front h4
    subst e1
    have hD : ∀ d ∈ D, d ∈ C := fun d m => (e d).mp (List.mem_append_left _ m)
    have hE : ∀ d ∈ E, d ∈ C := fun d m => (e d).mp (List.mem_append_right _ m)
    refine ⟨D ++ (B ++ E), ⟨D, B ++ E, rfl, fun d m n => ?_, e3, B, E, rfl, fun b m n => h2 b m (hE b n), h3, e4⟩, fun a => ?_⟩
    · rcases List.mem_append.mp n with n | n
      · exact h2 d n (hD d m)
      · exact e2 d m n
    · have := e a
      simp only [List.mem_append] at this ⊢
      constructor
      · rintro (z | z | z)
        · exact .inr (this.mp (.inl z))
        · exact .inl z
        · exact .inr (this.mp (.inr z))
      · rintro (z | z)
        · exact .inr (.inl z)
        · rcases this.mpr z with z | z
          · exact .inl z
          · exact .inr (.inr z)
theorem HAll.app : ∀ {l1 l2 : List HP} {A : List Addr}, HAll K F H (l1 ++ l2) A → ∃ B C, A = B ++ C ∧ (∀ b ∈ B, b ∉ C) ∧ HAll K F H l1 B ∧ HAll K F H l2 C
  | [], l2, A, h => ⟨[], A, rfl, (fun _ z => nomatch z), rfl, h⟩
  | P :: l1, l2, A, ⟨B, C, h1, h2, h3, h4⟩ => by
    subst h1
    obtain ⟨D, E, e1, e2, e3, e4⟩ := HAll.app h4
    subst e1
    refine ⟨B ++ D, E, (List.append_assoc _ _ _).symm, fun b m n => ?_, ⟨B, D, rfl, fun b m n => h2 b m (List.mem_append_left _ n), h3, e3⟩, e4⟩
    rcases List.mem_append.mp m with m | m
    · exact h2 b m (List.mem_append_right _ n)
    · exact e2 b m n
theorem HAll.join : ∀ {l1 l2 : List HP} {B C : List Addr}, HAll K F H l1 B → HAll K F H l2 C → (∀ b ∈ B, b ∉ C) → HAll K F H (l1 ++ l2) (B ++ C)
  | [], l2, B, C, h, g, _ => by rw [show B = [] from h]; exact g
  | P :: l1, l2, B, C, ⟨D, E, h1, h2, h3, h4⟩, g, d => by
    subst h1
    obtain ⟨d1, d2⟩ := dj_app d
    refine ⟨D, E ++ C, List.append_assoc _ _ _, fun b m n => ?_, h3, HAll.join h4 g d2⟩
    rcases List.mem_append.mp n with n | n
    · exact h2 b m n
    · exact d1 b m n
/-- what one's own stands for, lent -/
theorem HAll.rd {α : Type} [Rep α] {s : Shp α} {v : V} {x : α} {l1 l2 : List HP} (h : HAll K F H (l1 ++ hO s v x :: l2) A) (e : Ex F H) : rp K (fz F H A) v x := by
  obtain ⟨A', ⟨B, C, h1, h2, h3, h4⟩, m⟩ := h.front
  refine s.rep h3 (fz_ex e) fun a ha => ?_
  have : a ∈ A := (m a).mp (by rw [h1]; exact List.mem_append_left _ ha)
  unfold fz
  rw [if_pos this]
/-- all of it, new since H0 -/
def Hld (K : PySem.W.Frag) (H0 F H : Hp) (l : List HP) : Prop := ∃ A, HAll K F H l A ∧ ∀ a ∈ A, H0 a = none
theorem Hld.nil : Hld K H0 F H [] := ⟨[], rfl, fun _ z => nomatch z⟩
theorem HAll.gr (h : HAll K F H l A) (g : Gr F H F' H') : HAll K F' H' l A := h.mo g.ff (fun a m => by obtain ⟨o, e, _⟩ := h.nh a m; rw [e]; exact g.hh _ _ e) fun a m => g.nw a (h.nf a m) (h.ne a m)
theorem Hld.gr (h : Hld K H0 F H l) (g : Gr F H F' H') : Hld K H0 F' H' l := let ⟨A, h1, h2⟩ := h; ⟨A, h1.gr g, h2⟩
theorem HAll.er (h : HAll K F H l A) (e : Ex H H') : HAll K F H' l A := h.mo (Ex.rf _) (fun a m => by obtain ⟨o, e1, _⟩ := h.nh a m; rw [e1]; exact e _ _ e1) h.nf
theorem Hld.er (h : Hld K H0 F H l) (e : Ex H H') : Hld K H0 F H' l := let ⟨A, h1, h2⟩ := h; ⟨A, h1.er e, h2⟩
theorem Hld.front {l1 : List HP} {P : HP} {l2 : List HP} (h : Hld K H0 F H (l1 ++ P :: l2)) : Hld K H0 F H (P :: (l1 ++ l2)) := by
  obtain ⟨A, h1, h2⟩ := h
  obtain ⟨A', h3, m⟩ := h1.front
  exact ⟨A', h3, fun a n => h2 a ((m a).mp n)⟩
theorem Hld.take {l1 l2 : List HP} (h : Hld K H0 F H (l1 ++ l2)) : Hld K H0 F H l1 := by
  obtain ⟨A, h1, h2⟩ := h
  obtain ⟨B, C, e, _, h3, _⟩ := h1.app
  subst e
  exact ⟨B, h3, fun a n => h2 a (List.mem_append_left _ n)⟩
theorem Hld.drop {P : HP} {l : List HP} (h : Hld K H0 F H (P :: l)) : Hld K H0 F H l := by
  obtain ⟨A, ⟨B, C, e, _, _, h3⟩, h2⟩ := h
  subst e
  exact ⟨C, h3, fun a n => h2 a (List.mem_append_right _ n)⟩
/-- a thing of one's own from now on stays as it is -/
theorem Hld.fix {α : Type} [Rep α] {s : Shp α} {v : V} {x : α} (h : Hld K H0 F H (hO s v x :: l)) (G : Gr F0 H0 F H) : ∃ F', Gr F0 H0 F' H ∧ Ex F F' ∧ rp K F' v x ∧ Hld K H0 F' H l := by
  obtain ⟨A, ⟨B, C, e, d, h1, h3⟩, h2⟩ := h
  subst e
  have d1 : ∀ a ∈ C, fz F H B a = none := fun a m => by unfold fz; rw [if_neg (fun z => d a z m)]; exact h3.nf a m
  refine ⟨fz F H B, ⟨G.ff.tr (fz_ex G.fh), fz_h G.fh, G.hh, fun b b1 b2 => ?_⟩, fz_ex G.fh, s.rep h1 (fz_ex G.fh) fun a m => by unfold fz; rw [if_pos m], C, h3.mo (fz_ex G.fh) (fun _ _ => rfl) d1, fun a m => h2 a (List.mem_append_right _ m)⟩
  unfold fz
  split
  · rename_i m
    exact absurd (h2 b (List.mem_append_left _ m)) b2
  · exact G.nw b b1 b2
/-- a new thing of one's own -/
theorem Hld.push {α : Type} [Rep α] {s : Shp α} {v : V} {x : α} (h : Hld K H0 F H l) (o : s.own K F H v x A) (n : ∀ a ∈ A, H0 a = none) (d : ∀ B, HAll K F H l B → ∀ a ∈ A, a ∉ B) : Hld K H0 F H (hO s v x :: l) := by
  obtain ⟨B, h1, h2⟩ := h
  exact ⟨A ++ B, ⟨A, B, rfl, d B h1, o, h1⟩, dj_mem n h2⟩
theorem Hld.pushN {α : Type} [Rep α] {s : Shp α} {v : V} {x : α} (h : Hld K H0 F H l) (g : Gr F H F' H') (e0 : Ex H0 H) (o : s.own K F' H' v x A) (n : ∀ a ∈ A, H a = none) : Hld K H0 F' H' (hO s v x :: l) := by
  obtain ⟨B, h1, h2⟩ := h
  exact ⟨A ++ B, ⟨A, B, rfl, fun a m z => absurd (n a m) (h1.ne a z), o, h1.gr g⟩, dj_mem (fun a m => ex_back e0 (n a m)) h2⟩
/-- the run went on from what was lent -/
theorem HAll.th (h : HAll K F H l A) (e : Ex F H) (g : Gr (fz F H A) H F1 H1) : Gr F H (th F1 A) H1 := gr_th h.nf h.ne e g
end
/-- a new thing of one's own is told -/
def rs {α : Type} [Rep α] (s : Shp α) (K : PySem.W.Frag) : Md α := fun _ H F' H' v r => ∃ A, s.own K F' H' v r A ∧ ∀ a ∈ A, H a = none
instance {α : Type} [Rep α] {s : Shp α} {K : PySem.W.Frag} : MdMo (rs s K) := ⟨fun g ⟨A, h1, h2⟩ => ⟨A, h1, fun a m => ex_back g.hh (h2 a m)⟩⟩
section
variable {ρ α β γ δ S W τ T : Type} [Rep α] [Rep β] [Rep γ] [Rep δ] {ce : Ce} {E : XK} {K : PySem.W.Frag} {σ : L2.St} {F H F' H' F0 H0 : Hp} {te ta tb tc td ty tx ti tr : TE} {tt tu : TT} {md : Md ρ} {D : Ends} {ts tw : TS} {g : TG} {wi : TI} {P : τ → Prop} {l : List HP}
theorem Ev.sv {s : Shp α} {m : M α} (h : Ev ce E te σ F H (rs s K) m) : Ev ce E te σ F H (rv K) m := fun F1 H1 g1 Q q => by
  refine h F1 H1 g1 _ ?_
  cases m with
  | ok x =>
    rintro F2 H2 v g2 ⟨A, o, n⟩
    refine q (fz F2 H2 A) H2 v ⟨g2.ff.tr (fz_ex g2.fh), fz_h g2.fh, g2.hh, fun b b1 b2 => ?_⟩ (s.rep o (fz_ex g2.fh) fun a m => by unfold fz; rw [if_pos m])
    unfold fz
    split
    · rename_i m
      exact absurd (n b m) b2
    · exact g2.nw b b1 b2
  | er c => exact q
  | bad => exact q
theorem Ev.vs {m : M α} (h : Ev ce E te σ F H (rv K) m) : Ev ce E te σ F H (rs shpS K) m := fun F1 H1 g1 Q q => by
  refine h F1 H1 g1 _ ?_
  cases m with
  | ok x => exact fun F2 H2 v g2 r => q F2 H2 v g2 ⟨[], ⟨rfl, r⟩, fun _ z => nomatch z⟩
  | er c => exact q
  | bad => exact q
theorem owL_of {xs : List α} {vs : List V} (h : Paired (rp K F) vs xs) : OwL ((shpS (α := α)).own K F H) vs xs [] := by
  induction h with
  | nil => exact .nil
  | cons h t ih => exact .cons (A := []) (B := []) ⟨rfl, h⟩ ih fun _ z => nomatch z
theorem owL_pa {xs : List α} {vs : List V} {A : List Addr} (h : OwL ((shpS (α := α)).own K F H) vs xs A) : A = [] ∧ Paired (rp K F) vs xs := by
  induction h with
  | nil => exact ⟨rfl, .nil⟩
  | cons h t d ih => obtain ⟨h1, h2⟩ := h; exact ⟨by rw [h1, ih.1] <;> rfl, .cons h2 ih.2⟩
theorem Ev.ns {m : M (List α)} (h : Ev ce E te σ F H (rn K) m) : Ev ce E te σ F H (rs (shpL shpS) K) m := fun F1 H1 g1 Q q => by
  refine h F1 H1 g1 _ ?_
  cases m with
  | ok x =>
    rintro F2 H2 v g2 ⟨p, vs, rfl, h1, h2, h3, h4⟩
    exact q F2 H2 _ g2 ⟨[p], ⟨p, vs, [], rfl, rfl, (fun z => nomatch z), h2, h3, owL_of h4⟩, fun a m => by rw [List.mem_singleton.mp m]; exact h1⟩
  | er c => exact q
  | bad => exact q
theorem Ev.os {s : Shp α} [NN α] {m : M α} (h : Ev ce E te σ F H (rs s K) m) : Ev ce E te σ F H (rs (shpO s) K) (m.bind fun x => .ok (some x)) := fun F1 H1 g1 Q q => by
  refine h F1 H1 g1 _ ?_
  cases m with
  | ok x =>
    rintro F2 H2 v g2 ⟨A, h1, h2⟩
    exact q F2 H2 _ g2 ⟨A, ⟨h1, NN.nn (s.rep (F' := fz F2 H2 A) h1 (fz_ex g2.fh) fun a m => by unfold fz; rw [if_pos m])⟩, h2⟩
  | er c => exact q
  | bad => exact q
theorem Ev.nos {s : Shp α} : Ev ce E (tC .non) σ F H (rs (shpO s) K) (.ok none) := fun F1 H1 g Q q => q F1 H1 _ (Gr.rf g.fh) ⟨[], ⟨rfl, rfl⟩, fun _ z => nomatch z⟩
/-! ### statements -/
/-- a lent run: back to what is one's own -/
theorem lent {A : List Addr} (h : HAll K F H l A) (G : Gr F0 H0 F H) {F1 H1 : Hp} (g : Gr (fz F H A) H F1 H1) : Gr F H (th F1 A) H1 ∧ HAll K (th F1 A) H1 l A ∧ TupEx F1 (th F1 A) := ⟨h.th G.fh g, h.gr (h.th G.fh g), th_of h.nh g⟩
theorem own_th {s : Shp α} [ShFl s] {A B : List Addr} {F1 H1 : Hp} {v : V} {x : α} (te : TupEx F1 (th F1 A)) (o : s.own K F1 H1 v x B) : s.own K (th F1 A) H1 v x B := ShFl.fl te (fun a m => by
  unfold th
  split
  · rfl
  · exact s.nf o a m) o
/-- x = e, e shared; what is one's own stays -/
theorem s_dasg {i : Nat} {m1 : M α} {k : α → M τ} (hk : Hld K H0 F H l) (G : Gr F0 H0 F H) (q : Wp ce E H0 (m1.bind k) P) (h : Ev ce E te σ F H (rv K) m1)
    (c : ∀ x F1 H1 v, Gr F H F1 H1 → rp K F1 v x → Hld K H0 F1 H1 l → Wp ce E H0 (k x) P → D.nx (σ.set i (some v)) H1) : tAsg te (gName i) D σ H := s_asg G q h fun x F1 H1 v g r w => c x F1 H1 v g r (hk.gr g) w
/-- x = e, e reads what is one's own -/
theorem s_dasgA {i : Nat} {m1 : M α} {k : α → M τ} [Flat α] (hk : Hld K H0 F H l) (G : Gr F0 H0 F H) (q : Wp ce E H0 (m1.bind k) P) (h : ∀ A, HAll K F H l A → Ev ce E te σ (fz F H A) H (rv K) m1)
    (c : ∀ x F1 H1 v, Gr F H F1 H1 → rp K F1 v x → Hld K H0 F1 H1 l → Wp ce E H0 (k x) P → D.nx (σ.set i (some v)) H1) : tAsg te (gName i) D σ H := by
  obtain ⟨A, hA, n0⟩ := hk
  refine h A hA _ H (Gr.rf (fz_h G.fh)) _ ?_
  cases m1 with
  | ok x =>
    intro F1 H1 v g r
    obtain ⟨g1, h1, te⟩ := lent hA G g
    exact c x _ H1 v g1 (Flat.fl te r) ⟨A, h1, n0⟩ q
  | er cc => exact fun H' e => q H' (G.hh.tr e)
  | bad => exact q
/-- x = a new thing of one's own -/
theorem s_dasgN {i : Nat} {s : Shp α} {m1 : M α} {k : α → M τ} (hk : Hld K H0 F H l) (G : Gr F0 H0 F H) (q : Wp ce E H0 (m1.bind k) P) (h : Ev ce E te σ F H (rs s K) m1)
    (c : ∀ x F1 H1 v, Gr F H F1 H1 → Hld K H0 F1 H1 (hO s v x :: l) → Wp ce E H0 (k x) P → D.nx (σ.set i (some v)) H1) : tAsg te (gName i) D σ H := by
  refine h F H (Gr.rf G.fh) _ ?_
  cases m1 with
  | ok x =>
    rintro F1 H1 v g ⟨A, o, n⟩
    exact c x F1 H1 v g (hk.pushN g G.hh o n) q
  | er cc => exact fun H' e => q H' (G.hh.tr e)
  | bad => exact q
theorem s_dasgNA {i : Nat} {s : Shp α} [ShFl s] {m1 : M α} {k : α → M τ} (hk : Hld K H0 F H l) (G : Gr F0 H0 F H) (q : Wp ce E H0 (m1.bind k) P) (h : ∀ A, HAll K F H l A → Ev ce E te σ (fz F H A) H (rs s K) m1)
    (c : ∀ x F1 H1 v, Gr F H F1 H1 → Hld K H0 F1 H1 (hO s v x :: l) → Wp ce E H0 (k x) P → D.nx (σ.set i (some v)) H1) : tAsg te (gName i) D σ H := by
  obtain ⟨A, hA, n0⟩ := hk
  refine h A hA _ H (Gr.rf (fz_h G.fh)) _ ?_
  cases m1 with
  | ok x =>
    rintro F1 H1 v g ⟨B, o, n⟩
    obtain ⟨g1, h1, te⟩ := lent hA G g
    exact c x _ H1 v g1 (Hld.pushN ⟨A, hA, n0⟩ g1 G.hh (own_th te o) n) q
  | er cc => exact fun H' e => q H' (G.hh.tr e)
  | bad => exact q
theorem s_ddrop {m1 : M α} {k : α → M τ} (hk : Hld K H0 F H l) (G : Gr F0 H0 F H) (q : Wp ce E H0 (m1.bind k) P) (h : Ev ce E te σ F H (rv K) m1)
    (c : ∀ x F1 H1, Gr F H F1 H1 → Hld K H0 F1 H1 l → Wp ce E H0 (k x) P → D.nx σ H1) : tDrop te D σ H := s_drop G q h fun x F1 H1 g w => c x F1 H1 g (hk.gr g) w
theorem s_ddropA {m1 : M α} {k : α → M τ} (hk : Hld K H0 F H l) (G : Gr F0 H0 F H) (q : Wp ce E H0 (m1.bind k) P) (h : ∀ A, HAll K F H l A → Ev ce E te σ (fz F H A) H (rv K) m1)
    (c : ∀ x F1 H1, Gr F H F1 H1 → Hld K H0 F1 H1 l → Wp ce E H0 (k x) P → D.nx σ H1) : tDrop te D σ H := by
  obtain ⟨A, hA, n0⟩ := hk
  refine h A hA _ H (Gr.rf (fz_h G.fh)) _ ?_
  cases m1 with
  | ok x =>
    intro F1 H1 v g r
    obtain ⟨g1, h1, te⟩ := lent hA G g
    exact c x _ H1 g1 ⟨A, h1, n0⟩ q
  | er cc => exact fun H' e => q H' (G.hh.tr e)
  | bad => exact q
theorem s_dif2 {m1 : M Bool} {k1 k2 : M τ} (hk : Hld K H0 F H l) (G : Gr F0 H0 F H) (q : Wp ce E H0 (m1.bind fun b => if b then k1 else k2) P) (h : EvT ce E tt σ F H m1)
    (h1 : ∀ F1 H1, Gr F H F1 H1 → Hld K H0 F1 H1 l → Wp ce E H0 k1 P → ts D σ H1) (h2 : ∀ F1 H1, Gr F H F1 H1 → Hld K H0 F1 H1 l → Wp ce E H0 k2 P → tw D σ H1) : tIfS tt ts tw D σ H :=
  s_if2 G q h (fun F1 H1 g w => h1 F1 H1 g (hk.gr g) w) fun F1 H1 g w => h2 F1 H1 g (hk.gr g) w
theorem s_dif2A {m1 : M Bool} {k1 k2 : M τ} (hk : Hld K H0 F H l) (G : Gr F0 H0 F H) (q : Wp ce E H0 (m1.bind fun b => if b then k1 else k2) P) (h : ∀ A, HAll K F H l A → EvT ce E tt σ (fz F H A) H m1)
    (h1 : ∀ F1 H1, Gr F H F1 H1 → Hld K H0 F1 H1 l → Wp ce E H0 k1 P → ts D σ H1) (h2 : ∀ F1 H1, Gr F H F1 H1 → Hld K H0 F1 H1 l → Wp ce E H0 k2 P → tw D σ H1) : tIfS tt ts tw D σ H := by
  obtain ⟨A, hA, n0⟩ := hk
  refine h A hA _ H (Gr.rf (fz_h G.fh)) _ ?_
  cases m1 with
  | ok b =>
    intro F1 H1 g
    obtain ⟨g1, k1, te⟩ := lent hA G g
    cases b with
    | true => exact h1 _ H1 g1 ⟨A, k1, n0⟩ q
    | false => exact h2 _ H1 g1 ⟨A, k1, n0⟩ q
  | er cc => exact fun H' e => q H' (G.hh.tr e)
  | bad => exact q
theorem s_dasgT {g : TG} {R : L2.St → Hp → L2.St → α → Prop} (hg : Tg K g R) {m1 : M α} {k : α → M τ} (hk : Hld K H0 F H l) (G : Gr F0 H0 F H) (q : Wp ce E H0 (m1.bind k) P) (h : Ev ce E te σ F H (rv K) m1)
    (c : ∀ x F1 H1 σ1, Gr F H F1 H1 → R σ F1 σ1 x → Hld K H0 F1 H1 l → Wp ce E H0 (k x) P → D.nx σ1 H1) : tAsg te g D σ H := s_asgT hg G q h fun x F1 H1 σ1 g r w => c x F1 H1 σ1 g r (hk.gr g) w
theorem s_dasgTA {g : TG} {R : L2.St → Hp → L2.St → α → Prop} (hg : Tg K g R) {m1 : M α} {k : α → M τ} [Flat α] (hk : Hld K H0 F H l) (G : Gr F0 H0 F H) (q : Wp ce E H0 (m1.bind k) P) (h : ∀ A, HAll K F H l A → Ev ce E te σ (fz F H A) H (rv K) m1)
    (c : ∀ x F1 H1 σ1, Gr F H F1 H1 → R σ F1 σ1 x → Hld K H0 F1 H1 l → Wp ce E H0 (k x) P → D.nx σ1 H1) : tAsg te g D σ H := by
  obtain ⟨A, hA, n0⟩ := hk
  refine h A hA _ H (Gr.rf (fz_h G.fh)) _ ?_
  cases m1 with
  | ok x =>
    intro F1 H1 v g r
    obtain ⟨g1, h1, te⟩ := lent hA G g
    exact hg σ _ H1 v x g1.fh (Flat.fl te r) _ fun σ2 hr => c x _ H1 σ2 g1 hr ⟨A, h1, n0⟩ q
  | er cc => exact fun H' e => q H' (G.hh.tr e)
  | bad => exact q
theorem s_daug {i : Nat} {v : V} {a : Int} {f : Int → Int → Int} {m1 : M Int} {k : Int → M τ} (hv : σ[i]? = some (some v)) (r : rp K F v a) (hk : Hld K H0 F H l) (G : Gr F0 H0 F H) (q : Wp ce E H0 (m1.bind fun y => k (f a y)) P) (h : ∀ A, HAll K F H l A → Ev ce E te σ (fz F H A) H (rv K) m1)
    (c : ∀ x F1 H1 v, Gr F H F1 H1 → rp K F1 v x → Hld K H0 F1 H1 l → Wp ce E H0 (k x) P → D.nx (σ.set i (some v)) H1) : tAug i te (ipI f) D σ H := by
  cases r
  obtain ⟨A, hA, n0⟩ := hk
  refine ⟨.int a, hv, h A hA _ H (Gr.rf (fz_h G.fh)) _ ?_⟩
  cases m1 with
  | ok x =>
    intro F1 H1 v g r
    cases r
    obtain ⟨g1, h1, te⟩ := lent hA G g
    exact ⟨a, x, rfl, rfl, c (f a x) _ H1 _ g1 rfl ⟨A, h1, n0⟩ q⟩
  | er cc => exact fun H' e => q H' (G.hh.tr e)
  | bad => exact q
/-- return e, e shared, what is one's own is read -/
theorem d_retA {m1 : M ρ} {k : ρ → M τ} [Rep ρ] [Flat ρ] (hk : Hld K H0 F H l) (G : Gr F0 H0 F H) (q : Wp ce E H0 (m1.bind k) P) (h : ∀ A, HAll K F H l A → Ev ce E te σ (fz F H A) H (rv K) m1)
    (hD : ∀ r F1 H1 v, Gr F0 H0 F1 H1 → rp K F1 v r → Hld K H0 F1 H1 l → Wp ce E H0 (k r) P → D.rt v H1) : tRet te D σ H := by
  obtain ⟨A, hA, n0⟩ := hk
  refine h A hA _ H (Gr.rf (fz_h G.fh)) _ ?_
  cases m1 with
  | ok x =>
    intro F1 H1 v g r
    obtain ⟨g1, h1, te⟩ := lent hA G g
    exact hD x _ H1 v (G.tr g1) (Flat.fl te r) ⟨A, h1, n0⟩ q
  | er cc => exact fun H' e => q H' (G.hh.tr e)
  | bad => exact q
theorem d_ret {m1 : M ρ} {k : ρ → M τ} [Rep ρ] (hk : Hld K H0 F H l) (G : Gr F0 H0 F H) (q : Wp ce E H0 (m1.bind k) P) (h : Ev ce E te σ F H (rv K) m1)
    (hD : ∀ r F1 H1 v, Gr F0 H0 F1 H1 → rp K F1 v r → Hld K H0 F1 H1 l → Wp ce E H0 (k r) P → D.rt v H1) : tRet te D σ H := h.go G q fun r F1 H1 v g rr w => hD r F1 H1 v (G.tr g) rr (hk.gr g) w
/-! ### parts of what is one's own -/
/-- within the thing at v (shape s, addresses A) stands the thing at u (data y, shape t, addresses B) -/
structure Foc (K : PySem.W.Frag) {α β : Type} [Rep α] [Rep β] (s : Shp α) (t : Shp β) (F H : Hp) (v : V) (A : List Addr) (u : V) (y : β) (B : List Addr) (put : β → α) : Prop where
  own : t.own K F H u y B
  sub : ∀ b ∈ B, b ∈ A
  back : ∀ {F' H' : Hp} {y' : β} {B' : List Addr}, Ex F F' → (∀ a ∈ A, F' a = none) → (∀ a ∈ A, a ∉ B → H' a = H a) → (∀ b ∈ B', b ∈ A → b ∈ B) → t.own K F' H' u y' B' → ∃ A', s.own K F' H' v (put y') A' ∧ ∀ a ∈ A', a ∈ B' ∨ (a ∈ A ∧ a ∉ B)
theorem Foc.rf {s : Shp α} {v : V} {x : α} {A : List Addr} (o : s.own K F H v x A) : Foc K s s F H v A v x A (fun z => z) := ⟨o, fun _ m => m, fun {F' H' y' B'} _ _ _ _ o' => ⟨B', o', fun a m => .inl m⟩⟩
theorem Foc.trans {s : Shp α} {t : Shp β} {r : Shp γ} {v u w : V} {y : β} {z : γ} {A B C : List Addr} {p1 : β → α} {p2 : γ → β} (f : Foc K s t F H v A u y B p1) (g : Foc K t r F H u B w z C p2) : Foc K s r F H v A w z C (fun z' => p1 (p2 z')) := ⟨g.own, fun c m => f.sub c (g.sub c m), fun {F' H' z' C'} e n k d o => by
  obtain ⟨B', o2, m2⟩ := g.back e (fun b m => n b (f.sub b m)) (fun b m c => k b (f.sub b m) c) (fun c m b => d c m (f.sub c b)) o
  obtain ⟨A', o1, m1⟩ := f.back e n (fun a m b => k a m fun c => b (g.sub a c)) (fun b m a => by
    rcases m2 b m with z | z
    · exact g.sub b (d b z a)
    · exact z.1) o2
  refine ⟨A', o1, fun a m => ?_⟩
  rcases m1 a m with z | z
  · rcases m2 a z with z | z
    · exact .inl z
    · exact .inr ⟨f.sub a z.1, z.2⟩
  · exact .inr ⟨z.1, fun c => z.2 (g.sub a c)⟩⟩
theorem Foc.ix {s : Shp α} {v : V} {p : Addr} {vs : List V} {xs : List α} {B : List Addr} {j : Nat} {x : α} (ev : v = .ref p) (np : p ∉ B) (hf : F p = none) (hh : H p = some (.lst vs)) (ow : OwL (s.own K F H) vs xs B) (e : xs[j]? = some x) :
    ∃ u C, vs[j]? = some u ∧ Foc K (shpL s) s F H v (p :: B) u x C (fun z => xs.set j z) := by
  obtain ⟨u, C, e1, o1, s1, f1⟩ := ow.at e
  refine ⟨u, C, e1, o1, fun c m => List.mem_cons_of_mem _ (s1 c m), fun {F' H' y' B'} ee n k d o => ?_⟩
  have pc : p ∉ C := fun m => np (s1 p m)
  obtain ⟨A', g1, g2⟩ := f1 (s.own K F' H') y' B' o (fun b m z => d b m (List.mem_cons_of_mem _ z)) fun w y D hD ow => s.mo ee (fun a m => k a (List.mem_cons_of_mem _ (hD a m).1) (hD a m).2) (fun a m => n a (List.mem_cons_of_mem _ (hD a m).1)) ow
  have pA : p ∉ A' := fun m => by
    rcases g2 p m with z | z
    · exact pc (d p z List.mem_cons_self)
    · exact np z.1
  refine ⟨p :: A', ⟨p, vs, A', ev, rfl, pA, n p List.mem_cons_self, by rw [k p List.mem_cons_self pc]; exact hh, g1⟩, fun a m => ?_⟩
  rcases List.mem_cons.mp m with rfl | m
  · exact .inr ⟨List.mem_cons_self, pc⟩
  · rcases g2 a m with z | z
    · exact .inl z
    · exact .inr ⟨List.mem_cons_of_mem _ z.1, z.2⟩
theorem Foc.so {s : Shp α} {v : V} {x : α} {A : List Addr} (o : (shpO s).own K F H v (some x) A) [NN α] : Foc K (shpO s) s F H v A v x A (fun z => some z) := ⟨o.1, fun _ m => m, fun {F' H' y' B'} _ _ _ _ o' => ⟨B', ⟨o', o.2⟩, fun a m => .inl m⟩⟩
theorem Foc.ha {s : Shp α} {t : Shp β} {v : V} {x : H2 α β} {A : List Addr} (o : (shpH s t).own K F H v x A) : ∃ p u w B, v = .ref p ∧ H p = some (.lst [u, w]) ∧ Foc K (shpH s t) s F H v A u x.a B (fun z => H2.mk z x.b) := by
  obtain ⟨p, u, w, B, C, h1, h2, h3, h4, h5, h6, h7, h8⟩ := o
  subst h2
  refine ⟨p, u, w, B, h1, h6, h7, fun b m => List.mem_cons_of_mem _ (List.mem_append_left _ m), fun {F' H' y' B'} e n k d o => ?_⟩
  have pB : p ∉ B := fun m => h3 (List.mem_append_left _ m)
  have pB' : p ∉ B' := fun m => pB (d p m List.mem_cons_self)
  have kC : ∀ c ∈ C, c ∉ B := fun c m z => h4 c z m
  refine ⟨p :: (B' ++ C), ⟨p, u, w, B', C, h1, rfl, fun m => ?_, fun b m z => kC b z (d b m (List.mem_cons_of_mem _ (List.mem_append_right _ z))), n p List.mem_cons_self, by rw [k p List.mem_cons_self pB]; exact h6, o,
    t.mo e (fun a m => k a (List.mem_cons_of_mem _ (List.mem_append_right _ m)) (kC a m)) (fun a m => n a (List.mem_cons_of_mem _ (List.mem_append_right _ m))) h8⟩, fun a m => ?_⟩
  · rcases List.mem_append.mp m with m | m
    · exact pB' m
    · exact h3 (List.mem_append_right _ m)
  · rcases List.mem_cons.mp m with rfl | m
    · exact .inr ⟨List.mem_cons_self, pB⟩
    · rcases List.mem_append.mp m with m | m
      · exact .inl m
      · exact .inr ⟨List.mem_cons_of_mem _ (List.mem_append_right _ m), kC a m⟩
/-- where a part stands: tr leads to it, from the thing at v -/
def EvP (ce : Ce) (E : XK) (K : PySem.W.Frag) {α β : Type} [Rep α] [Rep β] (s : Shp α) (t : Shp β) (v : V) (x : α) (tr : TE) (σ : L2.St) (F H : Hp) (A : List Addr) (m : M (β × (β → α))) : Prop :=
  ∀ F1 H1, Gr (fz F H A) H F1 H1 → ∀ Q : VK, (match m with
    | .ok p => ∀ F2 H2 u, Gr F1 H1 F2 H2 → (∀ F3 H3 A1, Ex F F3 → Ex H2 H3 → s.own K F H v x A1 → s.own K F3 H3 v x A1 → ∃ B, Foc K s t F3 H3 v A1 u p.1 B p.2) → Q u H2
    | .er c => ∀ H', Ex H1 H' → E (.ref (ce c.name)) none H'
    | .bad => False) → tr σ H1 Q
section
variable {s : Shp α} {t : Shp β} {v : V} {x : α} {A : List Addr}
theorem evp_var {i : Nat} (h : σ[i]? = some (some v)) : EvP ce E K s s v x (tVar i) σ F H A (.ok (x, fun z => z)) := fun F1 H1 g Q q => ⟨v, h, q F1 H1 v (Gr.rf g.fh) fun F3 H3 A1 _ _ _ o => ⟨A1, Foc.rf o⟩⟩
end
/-- the part at a place -/
def pixM {α β : Type} (p : List β × (List β → α)) (i : Int) : M (β × (β → α)) := match ixN p.1.length i with
  | some j => match p.1[j]? with
    | some y => .ok (y, fun z => p.2 (p.1.set j z))
    | none => .bad
  | none => .bad
theorem evp_ix {s : Shp α} {t : Shp β} {v : V} {x : α} {A : List Addr} {l : List HP} {m : M (List β × (List β → α))} {mi : M Int} (hA : HAll K F H (hO s v x :: l) A) (eF : Ex F H) (hr : EvP ce E K s (shpL t) v x tr σ F H A m) (hi : Ev ce E ti σ (fz F H A) H (rv K) mi) :
    EvP ce E K s t v x (tOp (rIxL K) tr ti) σ F H A (m.bind fun p => mi.bind fun i => pixM p i) := fun F1 H1 g Q q => by
  refine hr F1 H1 g _ ?_
  obtain ⟨A1, A2, e0, d0, o0, h2⟩ := hA
  subst e0
  cases m with
  | er c => exact q
  | bad => exact q
  | ok p =>
    intro F2 H2 u g2 hf
    refine hi F2 H2 (g.tr g2) _ ?_
    cases mi with
    | er c => exact fun H' e => q H' (g2.hh.tr e)
    | bad => exact q
    | ok i =>
      intro F3 H3 w g3 rw_
      cases (show w = .int i from rw_)
      have q1 : (match (match ixN p.1.length i with
        | some j => match p.1[j]? with
          | some y => (M.ok (y, fun z => p.2 (p.1.set j z)) : M (β × (β → α)))
          | none => .bad
        | none => .bad) with
        | .ok p => ∀ F2 H2 u, Gr F1 H1 F2 H2 → (∀ F3 H3 A1, Ex F F3 → Ex H2 H3 → s.own K F H v x A1 → s.own K F3 H3 v x A1 → ∃ B, Foc K s t F3 H3 v A1 u p.1 B p.2) → Q u H2
        | .er c => ∀ H', Ex H1 H' → E (.ref (ce c.name)) none H'
        | .bad => False) := q
      cases ej : ixN p.1.length i with
      | none => rw [ej] at q1; exact q1.elim
      | some j =>
        rw [ej] at q1
        dsimp only at q1
        cases ey : p.1[j]? with
        | none => rw [ey] at q1; exact q1.elim
        | some y =>
          rw [ey] at q1
          dsimp only at q1
          -- the list as it stands now
          have o3 : s.own K F H3 v x A1 := s.mo (Ex.rf _) (fun a m => by
            obtain ⟨o, e, _⟩ := s.nh o0 a m
            rw [e]
            exact g3.hh _ _ (g2.hh _ _ (g.hh _ _ e))) (s.nf o0) o0
          obtain ⟨B, fo⟩ := hf F H3 A1 (Ex.rf _) g3.hh o0 o3
          obtain ⟨a, vs, C, e1, e2, e3, e4, e5, e6⟩ := fo.own
          obtain ⟨z, C', z1, _⟩ := Foc.ix e1 e3 e4 e5 e6 ey
          refine ⟨a, vs, i, z, e1, rfl, SqL.of e5, ?_, q1 F3 H3 z (g2.tr g3) fun F4 H4 A4 f4 h4 o4 o5 => ?_⟩
          · unfold atI
            rw [e6.length, ej]
            exact z1
          · obtain ⟨B5, fo5⟩ := hf F4 H4 A4 f4 (g3.hh.tr h4) o4 o5
            obtain ⟨a5, vs5, C5, k1, k2, k3, k4, k5, k6⟩ := fo5.own
            have ea : a5 = a := by rw [e1] at k1; cases k1; rfl
            subst ea
            have ev5 : vs5 = vs := by
              have := h4 _ _ e5
              rw [k5] at this
              cases this
              rfl
            subst ev5
            obtain ⟨z', C6, w1, w2⟩ := Foc.ix k1 k3 k4 k5 k6 ey
            have : z' = z := by rw [z1] at w1; cases w1; rfl
            subst this
            subst k2
            exact ⟨C6, Foc.trans fo5 w2⟩
/-! ### parts change -/
theorem th_id {A : List Addr} (h : ∀ a ∈ A, F a = none) : th F A = F := by
  funext b
  unfold th
  split
  · rename_i m
    exact (h b m).symm
  · rfl
theorem th_fz {A : List Addr} (h : ∀ a ∈ A, F a = none) : th (fz F H A) A = F := by
  funext b
  unfold th
  split
  · rename_i m
    exact (h b m).symm
  · rename_i m
    unfold fz
    rw [if_neg m]
/-- a value of shape s, told beside what is one's own -/
def EvU (ce : Ce) (E : XK) (K : PySem.W.Frag) {α : Type} [Rep α] (s : Shp α) (te : TE) (σ : L2.St) (F H : Hp) (l : List HP) (m : M α) : Prop :=
  ∀ A F1 H1, HAll K F H l A → Gr (fz F H A) H F1 H1 → ∀ Q : VK, (match m with
    | .ok x => ∀ F2 H2 v B, Gr F1 H1 F2 H2 → s.own K (th F2 A) H2 v x B → (∀ b ∈ B, H1 b = none) → Q v H2
    | .er c => ∀ H', Ex H1 H' → E (.ref (ce c.name)) none H'
    | .bad => False) → te σ H1 Q
theorem eu_lent {s : Shp α} [ShFl s] {m : M α} (eF : Ex F H) (h : ∀ A, HAll K F H l A → Ev ce E te σ (fz F H A) H (rs s K) m) : EvU ce E K s te σ F H l m := fun A F1 H1 hA g Q q => by
  refine h A hA F1 H1 g Q ?_
  cases m with
  | ok x =>
    rintro F2 H2 v g2 ⟨B, o, n⟩
    exact q F2 H2 v B g2 (own_th (th_of hA.nh (g.tr g2)) o) n
  | er c => exact q
  | bad => exact q
theorem eu_ev {s : Shp α} {m : M α} (eF : Ex F H) (h : Ev ce E te σ F H (rs s K) m) : EvU ce E K s te σ F H l m := fun A F1 H1 hA g Q q => by
  have g0 := hA.th eF g
  refine h (th F1 A) H1 g0 Q ?_
  cases m with
  | er c => exact q
  | bad => exact q
  | ok x =>
    rintro F2 H2 v g2 ⟨B, o, n⟩
    have hn : ∀ a ∈ A, F2 a = none := fun a m => g2.nw a (th_at m) (fun z => by
      obtain ⟨o, e, _⟩ := hA.nh a m
      rw [g0.hh _ _ e] at z
      cases z)
    have h1A : ∀ a ∈ A, H2 a = F1 a := fun a m => by
      obtain ⟨o, e, _⟩ := hA.nh a m
      have e1 : F1 a = some o := g.ff _ _ (fz_at m e)
      rw [e1]
      exact g2.hh _ _ (g.fh _ _ e1)
    refine q (fz F2 H2 A) H2 v B ⟨fun b o e => ?_, fz_h g2.fh, g2.hh, fun b b1 b2 => ?_⟩ (by rw [th_fz hn]; exact o) n
    · by_cases m : b ∈ A
      · unfold fz
        rw [if_pos m, h1A b m]
        exact e
      · unfold fz
        rw [if_neg m]
        refine g2.ff b o ?_
        unfold th
        rw [if_neg m]
        exact e
    · unfold fz
      by_cases m : b ∈ A
      · rw [if_pos m, h1A b m]
        exact b1
      · rw [if_neg m]
        refine g2.nw b ?_ b2
        unfold th
        rw [if_neg m]
        exact b1
theorem hld_mut {s : Shp α} {t : Shp β} {v u : V} {x : α} {y y' : β} {put : β → α} {B C Bt B' : List Addr} {a : Addr} {o' : HO} (oB : s.own K F H v x B) (hC : HAll K F H l C) (dj : ∀ b ∈ B, b ∉ C) (nB : ∀ a ∈ B, H0 a = none) (nC : ∀ a ∈ C, H0 a = none) (G : Gr F0 H0 F H)
    (fo : Foc K s t F H v B u y Bt put) (ha : a ∈ Bt) (o : t.own K F (upd H a o') u y' B') (hb : ∀ b ∈ B', b ∈ Bt ∨ (b ∉ B ∧ b ∉ C ∧ H0 b = none)) : Gr F0 H0 F (upd H a o') ∧ Hld K H0 F (upd H a o') (hO s v (put y') :: l) := by
  have aB := fo.sub a ha
  refine ⟨Gr.mut G (nB a aB) (s.nf oB a aB), ?_⟩
  obtain ⟨A', o1, m1⟩ := fo.back (Ex.rf F) (s.nf oB) (fun c m n => upd_ne fun z => n (z ▸ ha)) (fun b m z => by
    rcases hb b m with w | w
    · exact w
    · exact absurd z w.1) o
  refine ⟨A' ++ C, ⟨A', C, rfl, fun b m n => ?_, o1, hC.mo (Ex.rf F) (fun c m => upd_ne fun z => dj a aB (z ▸ m)) hC.nf⟩, dj_mem (fun b m => ?_) nC⟩
  · rcases m1 b m with z | z
    · rcases hb b z with w | w
      · exact dj b (fo.sub b w) n
      · exact w.2.1 n
    · exact dj b z.1 n
  · rcases m1 b m with z | z
    · rcases hb b z with w | w
      · exact nB b (fo.sub b w)
      · exact w.2.2
    · exact nB b z.1
/-- xs.append(e), xs a part of what is one's own -/
theorem s_dapp {s : Shp α} {t : Shp β} {v : V} {x : α} {m : M (List β × (List β → α))} {m1 : M β} {k : α → M τ} (hk : Hld K H0 F H (hO s v x :: l)) (G : Gr F0 H0 F H)
    (q : Wp ce E H0 ((m.bind fun p => m1.bind fun e => (appM p.1 e).bind fun zs => .ok (p.2 zs)).bind k) P) (hp : ∀ A, HAll K F H (hO s v x :: l) A → EvP ce E K s (shpL t) v x tr σ F H A m) (he : EvU ce E K t te σ F H (hO s v x :: l) m1)
    (c : ∀ y F1 H1, Ex F F1 → Gr F0 H0 F1 H1 → Hld K H0 F1 H1 (hO s v y :: l) → Wp ce E H0 (k y) P → D.nx σ H1) : tDrop (tBM K "list" rAppend tr (tCons te tNil)) D σ H := by
  obtain ⟨A, hA, n0⟩ := hk
  refine hp A hA _ H (Gr.rf (fz_h G.fh)) _ ?_
  cases m with
  | er cc => exact fun H' e => q H' (G.hh.tr e)
  | bad => exact q
  | ok p =>
    intro F1 H1 u g1 hf
    obtain ⟨B, C, e0, dj, oB, hC⟩ := hA
    have hA : HAll K F H (hO s v x :: l) A := ⟨B, C, e0, dj, oB, hC⟩
    have gA := hA.th G.fh g1
    have o1 : s.own K F H1 v x B := s.mo (Ex.rf _) (fun a m => by
      obtain ⟨o, e, _⟩ := s.nh oB a m
      rw [e]
      exact g1.hh _ _ e) (s.nf oB) oB
    obtain ⟨Bt, fo⟩ := hf F H1 B (Ex.rf _) (Ex.rf _) oB o1
    obtain ⟨a, vs, Bi, ev, eB, na, nf, ha, ow⟩ := fo.own
    subst ev
    refine ⟨.inl ⟨rfl, vs, SqL.of ha⟩, he A F1 H1 hA g1 _ ?_⟩
    have q1 : Wp ce E H0 ((m1.bind fun e => (appM p.1 e).bind fun zs => .ok (p.2 zs)).bind k) P := q
    cases m1 with
    | er cc => exact fun H' e => q1 H' ((G.tr gA).hh.tr e)
    | bad => exact q1
    | ok e =>
      intro F2 H2 w Bw g2 ow2 nw2
      have q2 : Wp ce E H0 (((appM p.1 e).bind fun zs => .ok (p.2 zs)).bind k) P := q1
      unfold appM chk at q2
      split at q2
      · rename_i hl
        have g12 := g1.tr g2
        have gB := hA.th G.fh g12
        have oB2 : s.own K (th F2 A) H2 v x B := s.mo gB.ff (fun a m => by
          obtain ⟨o, e, _⟩ := s.nh oB a m
          rw [e]
          exact gB.hh _ _ e) (fun a m => gB.nw a (s.nf oB a m) (by obtain ⟨o, e, _⟩ := s.nh oB a m; rw [e]; exact fun z => nomatch z)) oB
        obtain ⟨B2, fo2⟩ := hf (th F2 A) H2 B gB.ff g2.hh oB oB2
        obtain ⟨a2, vs2, Bi2, ev2, eB2, na2, nf2, ha2, ow3⟩ := fo2.own
        cases ev2
        have hC2 := hC.gr gB
        have new : ∀ b ∈ Bw, b ∉ B ∧ b ∉ C ∧ H0 b = none := fun b m => by
          have n1 : H1 b = none := nw2 b m
          have nb : H b = none := ex_back g1.hh n1
          exact ⟨(fun z => by obtain ⟨o, e, _⟩ := s.nh oB b z; rw [nb] at e; cases e), fun z => hC.ne b z nb, ex_back G.hh nb⟩
        refine ⟨a, vs2, w, rfl, rfl, ha2, ?_, ?_⟩
        · rw [ow3.length, sizeLine_eq]; omega
        · have wB : ∀ b ∈ Bi2, b ∉ Bw := fun b m n => (new b n).1 (fo2.sub b (by rw [eB2]; exact List.mem_cons_of_mem _ m))
          have aw : a ∉ Bw := fun n => (new a n).1 (fo2.sub a (by rw [eB2]; exact List.mem_cons_self))
          have no : (shpL t).own K (th F2 A) (upd H2 a (.lst (vs2 ++ [w]))) (.ref a) (p.1 ++ [e]) (a :: (Bi2 ++ Bw)) := by
            refine ⟨a, vs2 ++ [w], Bi2 ++ Bw, rfl, rfl, fun m => ?_, nf2, upd_same, OwL.app (ow3.imp fun v x D hD o => t.mo (Ex.rf _) (fun b m => upd_ne fun z => na2 (z ▸ hD b m)) (t.nf o) o) (OwL.one (t.mo (Ex.rf _) (fun b m => upd_ne fun z => aw (z ▸ m)) (t.nf ow2) ow2)) wB⟩
            rcases List.mem_append.mp m with m | m
            · exact na2 m
            · exact aw m
          obtain ⟨G3, h3⟩ := hld_mut oB2 hC2 dj (fun b m => n0 b (by rw [e0]; exact List.mem_append_left _ m)) (fun b m => n0 b (by rw [e0]; exact List.mem_append_right _ m)) (G.tr gB) fo2 (by rw [eB2]; exact List.mem_cons_self) no fun b m => by
            rcases List.mem_cons.mp m with rfl | m
            · exact .inl (by rw [eB2]; exact List.mem_cons_self)
            · rcases List.mem_append.mp m with m | m
              · exact .inl (by rw [eB2]; exact List.mem_cons_of_mem _ m)
              · exact .inr (new b m)
          exact c _ _ _ gB.ff G3 h3 q2
      · exact q2.elim
theorem OwL.gr {s : Shp α} {vs : List V} {xs : List α} {B : List Addr} (h : OwL (s.own K F H) vs xs B) (g : Gr F H F' H') : OwL (s.own K F' H') vs xs B :=
  h.imp fun v x C hC o => s.mo g.ff (fun a m => by obtain ⟨o', e, _⟩ := s.nh o a m; rw [e]; exact g.hh _ _ e) (fun a m => g.nw a (s.nf o a m) (by obtain ⟨o', e, _⟩ := s.nh o a m; rw [e]; exact fun z => nomatch z)) o
theorem OwL.up {s : Shp α} {vs : List V} {xs : List α} {B : List Addr} {p : Addr} {u : HO} (h : OwL (s.own K F H) vs xs B) (n : p ∉ B) : OwL (s.own K F (upd H p u)) vs xs B :=
  h.imp fun v x C hC o => s.mo (Ex.rf _) (fun a m => upd_ne fun z => n (z ▸ hC a m)) (s.nf o) o
theorem OwL.ne {s : Shp α} {vs : List V} {xs : List α} {B : List Addr} (h : OwL (s.own K F H) vs xs B) : ∀ b ∈ B, H b ≠ none := h.all (Pp := fun b => H b ≠ none) fun v x C o b m => by
  obtain ⟨o', e, _⟩ := s.nh o b m
  rw [e]
  exact fun z => nomatch z
/-- [e for x in xs if c], e new things of one's own -/
theorem em_lcS {s : Shp β} {vs : List Nat} {m : M (List α)} {c : α → M Bool} {e : α → M β} {R : L2.St → Hp → L2.St → α → Prop} (hi : EvI ce E K wi σ F H m) (hg : Tg K g R)
    (hw : ∀ F σ2 (x : α), R (wipe σ vs) F σ2 x → wipe σ2 vs = wipe σ vs)
    (hc : ∀ x F1 H1 σ2, Gr F H F1 H1 → R (wipe σ vs) F1 σ2 x → EvT ce E0 tt σ2 F1 H1 (c x)) (he : ∀ x F1 H1 σ2, Gr F H F1 H1 → R (wipe σ vs) F1 σ2 x → Ev ce E0 te σ2 F1 H1 (rs s K) (e x)) :
    Ev ce E (tLc wi g tt te vs) σ F H (rs (shpL s) K) (m.bind fun xs => lcM c e xs) := fun F1 H1 g1 Q q => by
  refine hi F1 H1 g1 _ ?_
  cases m with
  | er c => exact q
  | bad => exact q
  | ok xs =>
    intro F2 H2 J g2 sq Dl nd
    have q' : Post ce (rs (shpL s) K) (lcM c e xs) F1 H1 Q E := q
    unfold lcM at q'
    have hlen : xs.length ≤ 16000000 := by
      by_cases hlen : xs.length ≤ 16000000
      · exact hlen
      · rw [if_neg hlen] at q'
        exact q'.elim
    rw [if_pos hlen] at q'
    have nf : F2 Dl = none := ex_back g2.fh nd
    have gD : Gr F2 H2 F2 (upd H2 Dl (.lst [])) := Gr.own g2.fh nd
    refine ⟨fun i m H' => m = xs.length - i ∧ i ≤ xs.length ∧ ∃ F' acc ys B, Gr F2 H2 F' H' ∧ F' Dl = none ∧ H' Dl = some (.lst acc) ∧ acc.length ≤ i ∧ OwL (s.own K F' H') acc ys B ∧ Dl ∉ B ∧ (∀ b ∈ B, H2 b = none) ∧
      Post ce (rs (shpL s) K) ((compM c e (xs.drop i)).bind fun zs => .ok (ys ++ zs)) F1 H1 Q E, ⟨xs.length, by omega, Nat.zero_le _, F2, [], [], [], gD, nf, upd_same, Nat.zero_le _, .nil, (fun z => nomatch z), (fun _ z => nomatch z), ?_⟩, ?_⟩
    · rw [List.drop_zero]
      have : (compM c e xs).bind (fun zs => M.ok ([] ++ zs)) = compM c e xs := by
        cases compM c e xs <;> rfl
      rw [this]
      exact q'
    · rintro i mm H3 ⟨rfl, hi3, F3, acc, ys, B, g3, nf3, h3, hl3, p3, dB, nB, q3⟩
      have e3 : Ex F2 H3 := g3.ff.tr g3.fh
      by_cases hlt : i < xs.length
      · obtain ⟨x, hx⟩ : ∃ x, xs[i]? = some x := ⟨xs[i], List.getElem?_eq_getElem hlt⟩
        obtain ⟨go, yl⟩ := (sq i H3 e3).1 x hx
        have hd : xs.drop i = x :: xs.drop (i + 1) := by
          rw [List.drop_eq_getElem_cons hlt]
          rw [List.getElem?_eq_getElem hlt] at hx
          cases hx
          rfl
        rw [hd] at q3
        refine .inr ⟨go, fun H' => ∃ F' acc ys B, Gr F2 H2 F' H' ∧ F' Dl = none ∧ H' Dl = some (.lst acc) ∧ acc.length ≤ i + 1 ∧ OwL (s.own K F' H') acc ys B ∧ Dl ∉ B ∧ (∀ b ∈ B, H2 b = none) ∧
          Post ce (rs (shpL s) K) ((compM c e (xs.drop (i + 1))).bind fun zs => .ok (ys ++ zs)) F1 H1 Q E, fun H' h' => ⟨xs.length - (i + 1), by omega, rfl, hlt, h'⟩, fun v H4 hy => ?_⟩
        obtain ⟨F4, g4, r4⟩ := yl v H4 hy F3 g3.ff g3.fh
        have g24 := g3.tr g4
        have gF : Gr F H F4 H4 := (g1.tr g2).tr g24
        refine hg _ F4 H4 v x g4.fh r4 _ fun σ2 hr => ⟨hw F4 σ2 x hr, ?_⟩
        have nf4 : F4 Dl = none := g4.nw Dl nf3 (by rw [h3]; exact fun z => nomatch z)
        have h4 : H4 Dl = some (.lst acc) := g4.hh _ _ h3
        refine hc x F4 H4 σ2 gF hr F4 H4 (Gr.rf g4.fh) _ ?_
        cases qc : c x with
        | er cc => exact (by
            have q3' := q3
            unfold compM at q3'
            rw [qc] at q3'
            exact q3'.elim)
        | bad => exact (by
            have q3' := q3
            unfold compM at q3'
            rw [qc] at q3'
            exact q3'.elim)
        | ok b =>
          intro F5 H5 g5
          have nf5 : F5 Dl = none := g5.nw Dl nf4 (by rw [h4]; exact fun z => nomatch z)
          have h5 : H5 Dl = some (.lst acc) := g5.hh _ _ h4
          cases b with
          | false =>
            show ∃ F' acc ys B, _
            refine ⟨F5, acc, ys, B, g24.tr g5, nf5, h5, by omega, (p3.gr g4).gr g5, dB, nB, ?_⟩
            have q3' := q3
            unfold compM at q3'
            rw [qc] at q3'
            exact q3'
          | true =>
            show te σ2 H5 _
            refine he x F4 H4 σ2 gF hr F5 H5 g5 _ ?_
            cases qe : e x with
            | er cc => exact (by
                have q3' := q3
                unfold compM at q3'
                rw [qc, qe] at q3'
                exact q3'.elim)
            | bad => exact (by
                have q3' := q3
                unfold compM at q3'
                rw [qc, qe] at q3'
                exact q3'.elim)
            | ok y =>
              rintro F6 H6 v6 g6 ⟨C, oC, nC⟩
              have nf6 : F6 Dl = none := g6.nw Dl nf5 (by rw [h5]; exact fun z => nomatch z)
              have h6 : H6 Dl = some (.lst acc) := g6.hh _ _ h5
              have pp := ((p3.gr g4).gr g5)
              have dC : Dl ∉ C := fun z => by rw [nC Dl z] at h5; cases h5
              refine ⟨acc, h6, ?_, F6, acc ++ [v6], ys ++ [y], B ++ C, Gr.mut ((g24.tr g5).tr g6) nd nf6, nf6, upd_same, ?_, OwL.app ((pp.gr g6).up dB) ((OwL.one oC).up dC) (fun b m n => pp.ne b m (nC b n)), fun m => ?_, dj_mem nB fun b m => ex_back (g24.tr g5).hh (nC b m), ?_⟩
              · rw [sizeLine_eq]; omega
              · rw [List.length_append]
                show acc.length + 1 ≤ i + 1
                omega
              · rcases List.mem_append.mp m with m | m
                · exact dB m
                · exact dC m
              · have q3' := q3
                unfold compM at q3'
                rw [qc, qe] at q3'
                have ea : ((compM c e (xs.drop (i + 1))).bind fun zs => M.ok ((ys ++ [y]) ++ zs)) = (((compM c e (xs.drop (i + 1))).bind fun ys' => M.ok (y :: ys')).bind fun zs => M.ok (ys ++ zs)) := by
                  cases compM c e (xs.drop (i + 1)) with
                  | ok zs => show M.ok _ = M.ok _; rw [List.append_assoc]; rfl
                  | er _ => rfl
                  | bad => rfl
                rw [ea]
                exact q3'
      · have ei : i = xs.length := by omega
        refine .inl ⟨(sq i H3 e3).2 (by omega), ?_⟩
        rw [ei, List.drop_length] at q3
        have q3' : Post ce (rs (shpL s) K) (.ok (ys ++ [])) F1 H1 Q E := q3
        rw [List.append_nil] at q3'
        exact q3' F3 H3 _ (g2.tr g3) ⟨Dl :: B, ⟨Dl, acc, B, rfl, rfl, dB, nf3, h3, p3⟩, fun b m => by
          rcases List.mem_cons.mp m with rfl | m
          · exact ex_back g2.hh nd
          · exact ex_back g2.hh (nB b m)⟩
theorem OwL.setv {ow : V → α → List Addr → Prop} {vs : List V} {xs : List α} {A : List Addr} (h : OwL ow vs xs A) : ∀ {w : V} {e : α} {B : List Addr}, ow w e B → (∀ b ∈ B, b ∉ A) → ∀ j : Nat, ∃ A', OwL ow (vs.set j w) (xs.set j e) A' ∧ ∀ a ∈ A', a ∈ A ∨ a ∈ B := by
  induction h with
  | nil => exact fun {w e B} _ _ j => ⟨[], .nil, fun _ z => nomatch z⟩
  | @cons v x A vs xs C h1 h2 h3 ih =>
    intro w e B o d j
    cases j with
    | zero => exact ⟨B ++ C, .cons o h2 fun b m n => d b m (List.mem_append_right _ n), fun a m => (List.mem_append.mp m).elim .inr fun z => .inl (List.mem_append_right _ z)⟩
    | succ j =>
      obtain ⟨A', k1, k2⟩ := ih o (fun b m n => d b m (List.mem_append_right _ n)) j
      refine ⟨A ++ A', .cons h1 k1 fun a m n => ?_, fun a m => ?_⟩
      · rcases k2 a n with z | z
        · exact h3 a m z
        · exact d a z (List.mem_append_left _ m)
      · rcases List.mem_append.mp m with m | m
        · exact .inl (List.mem_append_left _ m)
        · rcases k2 a m with z | z
          · exact .inl (List.mem_append_right _ z)
          · exact .inr z
/-- xs[i] = e, xs a part of what is one's own: e first -/
theorem s_dset {s : Shp α} {t : Shp β} {v : V} {x : α} {m : M (List β × (List β → α))} {m1 : M β} {mi : M Int} {k : α → M τ} (hk : Hld K H0 F H (hO s v x :: l)) (G : Gr F0 H0 F H)
    (q : Wp ce E H0 ((m1.bind fun e => m.bind fun p => mi.bind fun i => (setM p.1 i e).bind fun zs => .ok (p.2 zs)).bind k) P) (hp : ∀ A, HAll K F H (hO s v x :: l) A → EvP ce E K s (shpL t) v x tr σ F H A m) (he : EvU ce E K t te σ F H (hO s v x :: l) m1)
    (hi : ∀ A, HAll K F H (hO s v x :: l) A → Ev ce E ti σ (fz F H A) H (rv K) mi)
    (c : ∀ y F1 H1, Ex F F1 → Gr F0 H0 F1 H1 → Hld K H0 F1 H1 (hO s v y :: l) → Wp ce E H0 (k y) P → D.nx σ H1) : tAsg te (gSub tr ti rSetL) D σ H := by
  obtain ⟨A, hA, n0⟩ := hk
  refine he A _ H hA (Gr.rf (fz_h G.fh)) _ ?_
  cases m1 with
  | er cc => exact fun H' e => q H' (G.hh.tr e)
  | bad => exact q
  | ok e =>
    intro F1 H1 w Bw g1 ow1 nw1
    have gA := hA.th G.fh g1
    refine hp A hA F1 H1 g1 _ ?_
    have q1 : Wp ce E H0 ((m.bind fun p => mi.bind fun i => (setM p.1 i e).bind fun zs => .ok (p.2 zs)).bind k) P := q
    cases m with
    | er cc => exact fun H' e => q1 H' ((G.tr gA).hh.tr e)
    | bad => exact q1
    | ok p =>
      intro F2 H2 u g2 hf
      refine hi A hA F2 H2 (g1.tr g2) _ ?_
      have q2 : Wp ce E H0 ((mi.bind fun i => (setM p.1 i e).bind fun zs => .ok (p.2 zs)).bind k) P := q1
      cases mi with
      | er cc => exact fun H' ee => q2 H' ((G.tr gA).hh.tr (g2.hh.tr ee))
      | bad => exact q2
      | ok i =>
        intro F3 H3 vi g3 ri
        cases (show vi = .int i from ri)
        have q3 : Wp ce E H0 (((setM p.1 i e).bind fun zs => .ok (p.2 zs)).bind k) P := q2
        unfold setM at q3
        split at q3
        · rename_i j hj
          obtain ⟨B, C, e0, dj, oB, hC⟩ := hA
          have hA : HAll K F H (hO s v x :: l) A := ⟨B, C, e0, dj, oB, hC⟩
          have g13 := (g1.tr g2).tr g3
          have gB := hA.th G.fh g13
          have oB2 : s.own K (th F3 A) H3 v x B := s.mo gB.ff (fun a m => by
            obtain ⟨o, e, _⟩ := s.nh oB a m
            rw [e]
            exact gB.hh _ _ e) (fun a m => gB.nw a (s.nf oB a m) (by obtain ⟨o, e, _⟩ := s.nh oB a m; rw [e]; exact fun z => nomatch z)) oB
          obtain ⟨B2, fo2⟩ := hf (th F3 A) H3 B gB.ff g3.hh oB oB2
          obtain ⟨a, vs, Bi, ev, eB, na, nf, ha, ow3⟩ := fo2.own
          subst ev
          have hC2 := hC.gr gB
          -- e as it stands now
          have nwA : ∀ b ∈ Bw, b ∉ A := fun b m z => hA.ne b z (nw1 b m)
          have ow4 : t.own K (th F3 A) H3 w e Bw := t.mo (F := th F1 A) (fun b o h => by
            unfold th at h ⊢
            by_cases z : b ∈ A
            · rw [if_pos z] at h; cases h
            · rw [if_neg z] at h ⊢; exact (g2.tr g3).ff b o h) (fun b m => by
            obtain ⟨o, e, _⟩ := t.nh ow1 b m
            rw [e]
            exact (g2.tr g3).hh _ _ e) (fun b m => by
            unfold th
            rw [if_neg (nwA b m)]
            refine (g2.tr g3).nw b ?_ (by obtain ⟨o, e, _⟩ := t.nh ow1 b m; rw [e]; exact fun z => nomatch z)
            have := t.nf ow1 b m
            unfold th at this
            rw [if_neg (nwA b m)] at this
            exact this) ow1
          have new : ∀ b ∈ Bw, b ∉ B ∧ b ∉ C ∧ H0 b = none := fun b m =>
            ⟨(fun z => nwA b m (by rw [e0]; exact List.mem_append_left _ z)), (fun z => nwA b m (by rw [e0]; exact List.mem_append_right _ z)), ex_back G.hh (nw1 b m)⟩
          have hjl : j < p.1.length := (ixN_seq hj).2.1
          obtain ⟨yo, hyo⟩ : ∃ y, p.1[j]? = some y := ⟨p.1[j], List.getElem?_eq_getElem hjl⟩
          have aw : a ∉ Bw := fun n => (new a n).1 (fo2.sub a (by rw [eB]; exact List.mem_cons_self))
          have wB : ∀ b ∈ Bw, b ∉ Bi := fun b m n => (new b m).1 (fo2.sub b (by rw [eB]; exact List.mem_cons_of_mem _ n))
          -- the item's place
          have key : ∃ B', OwL (t.own K (th F3 A) (upd H3 a (.lst (vs.set j w)))) (vs.set j w) (p.1.set j e) B' ∧ ∀ b ∈ B', b ∈ Bi ∨ b ∈ Bw :=
            OwL.setv (ow3.up na) (t.mo (Ex.rf _) (fun b m => upd_ne fun z => aw (z ▸ m)) (t.nf ow4) ow4) wB j
          obtain ⟨B', k1, k2⟩ := key
          have no : (shpL t).own K (th F3 A) (upd H3 a (.lst (vs.set j w))) (.ref a) (p.1.set j e) (a :: B') :=
            ⟨a, vs.set j w, B', rfl, rfl, fun m => (k2 a m).elim na aw, nf, upd_same, k1⟩
          obtain ⟨G3, h3⟩ := hld_mut oB2 hC2 dj (fun b m => n0 b (by rw [e0]; exact List.mem_append_left _ m)) (fun b m => n0 b (by rw [e0]; exact List.mem_append_right _ m)) (G.tr gB) fo2 (by rw [eB]; exact List.mem_cons_self) no fun b m => by
            rcases List.mem_cons.mp m with rfl | m
            · exact .inl (by rw [eB]; exact List.mem_cons_self)
            · rcases k2 b m with m | m
              · exact .inl (by rw [eB]; exact List.mem_cons_of_mem _ m)
              · exact .inr (new b m)
          exact ⟨a, vs, i, j, rfl, rfl, ha, by rw [ow3.length]; exact hj, c _ _ _ gB.ff G3 h3 q3⟩
        · exact q3.elim
/-- xs.append(e), xs new and not held -/
theorem s_dappTmp {s : Shp β} {m : M (List β)} {m1 : M β} {k : M τ} (hk : Hld K H0 F H l) (G : Gr F0 H0 F H)
    (q : Wp ce E H0 (m.bind fun xs => m1.bind fun e => (appM xs e).bind fun _ => k) P) (h : EvU ce E K (shpL s) tr σ F H l m) (he : EvU ce E K s te σ F H l m1)
    (c : ∀ F1 H1, Gr F H F1 H1 → Hld K H0 F1 H1 l → Wp ce E H0 k P → D.nx σ H1) : tDrop (tBM K "list" rAppend tr (tCons te tNil)) D σ H := by
  obtain ⟨A, hA, n0⟩ := hk
  refine h A _ H hA (Gr.rf (fz_h G.fh)) _ ?_
  cases m with
  | er cc => exact fun H' e => q H' (G.hh.tr e)
  | bad => exact q
  | ok xs =>
    intro F1 H1 u B g1 o1 n1
    obtain ⟨a, vs, Bi, ev, eB, na, nf, ha, ow⟩ := o1
    subst ev
    refine ⟨.inl ⟨rfl, vs, SqL.of ha⟩, he A F1 H1 hA g1 _ ?_⟩
    have q1 : Wp ce E H0 (m1.bind fun e => (appM xs e).bind fun _ => k) P := q
    cases m1 with
    | er cc => exact fun H' e => q1 H' ((G.tr (hA.th G.fh g1)).hh.tr e)
    | bad => exact q1
    | ok e =>
      intro F2 H2 w Bw g2 ow2 nw2
      have q2 : Wp ce E H0 ((appM xs e).bind fun _ => k) P := q1
      unfold appM chk at q2
      split at q2
      · rename_i hl
        have gB := hA.th G.fh (g1.tr g2)
        have an : H a = none := n1 a (by rw [eB]; exact List.mem_cons_self)
        have aA : a ∉ A := fun m => hA.ne a m an
        have af : th F2 A a = none := by
          unfold th
          rw [if_neg aA]
          refine g2.nw a ?_ (by rw [ha]; exact fun z => nomatch z)
          unfold th at nf
          rw [if_neg aA] at nf
          exact nf
        refine ⟨a, vs, w, rfl, rfl, g2.hh _ _ ha, ?_, ?_⟩
        · rw [ow.length, sizeLine_eq]; omega
        · exact c _ _ (Gr.mut gB an af) ⟨A, (hA.gr gB).mo (Ex.rf _) (fun b m => upd_ne fun z => aA (z ▸ m)) (hA.gr gB).nf, n0⟩ q2
      · exact q2.elim
/-! ### what is told -/
theorem rs_of {s : Shp α} {v : V} {x : α} (hk : Hld K H0 F H (hO s v x :: l)) : rs s K F0 H0 F H v x := by
  obtain ⟨A, ⟨B, C, e, d, o, _⟩, n0⟩ := hk
  subst e
  exact ⟨B, o, fun a m => n0 a (List.mem_append_left _ m)⟩
theorem d_retN {s : Shp α} {m1 : M α} {k : α → M τ} (G : Gr F0 H0 F H) (q : Wp ce E H0 (m1.bind k) P) (h : Ev ce E te σ F H (rs s K) m1)
    (hD : ∀ r F1 H1 v, Gr F0 H0 F1 H1 → rs s K F0 H0 F1 H1 v r → Wp ce E H0 (k r) P → D.rt v H1) : tRet te D σ H := by
  refine h F H (Gr.rf G.fh) _ ?_
  cases m1 with
  | ok x => exact fun F1 H1 v g r => hD x F1 H1 v (G.tr g) (MdMo.mo G r) q
  | er cc => exact fun H' e => q H' (G.hh.tr e)
  | bad => exact q
theorem d_retNA {s : Shp α} [ShFl s] {m1 : M α} {k : α → M τ} (hk : Hld K H0 F H l) (G : Gr F0 H0 F H) (q : Wp ce E H0 (m1.bind k) P) (h : ∀ A, HAll K F H l A → Ev ce E te σ (fz F H A) H (rs s K) m1)
    (hD : ∀ r F1 H1 v, Gr F0 H0 F1 H1 → rs s K F0 H0 F1 H1 v r → Wp ce E H0 (k r) P → D.rt v H1) : tRet te D σ H := by
  obtain ⟨A, hA, n0⟩ := hk
  refine h A hA _ H (Gr.rf (fz_h G.fh)) _ ?_
  cases m1 with
  | ok x =>
    rintro F1 H1 v g ⟨B, o, n⟩
    obtain ⟨g1, h1, te⟩ := lent hA G g
    exact hD x _ H1 v (G.tr g1) ⟨B, own_th te o, fun a m => ex_back G.hh (n a m)⟩ q
  | er cc => exact fun H' e => q H' (G.hh.tr e)
  | bad => exact q
/-- a display that takes up what is one's own -/
def EvM (ce : Ce) (E : XK) (K : PySem.W.Frag) {α : Type} [Rep α] (s : Shp α) (te : TE) (σ : L2.St) (F H : Hp) (l : List HP) (m : M α) (l' : List HP) : Prop :=
  ∀ F1 H1 A, Gr F H F1 H1 → HAll K F1 H1 l A → ∀ Q : VK, (match m with
    | .ok x => ∀ F2 H2 v B A', Gr F1 H1 F2 H2 → s.own K F2 H2 v x B → HAll K F2 H2 l' A' → (∀ b ∈ B, b ∉ A') → (∀ b ∈ B, b ∈ A ∨ H1 b = none) → (∀ b ∈ A', b ∈ A) → Q v H2
    | .er c => ∀ H', Ex H1 H' → E (.ref (ce c.name)) none H'
    | .bad => False) → te σ H1 Q
theorem evm_var {s : Shp α} {i : Nat} {v : V} {x : α} (h : σ[i]? = some (some v)) : EvM ce E K s (tVar i) σ F H (hO s v x :: l) (.ok x) l := fun F1 H1 A g ⟨B, C, e, d, o, hC⟩ Q q => by
  subst e
  exact ⟨v, h, q F1 H1 v B C (Gr.rf g.fh) o hC d (fun b m => .inl (List.mem_append_left _ m)) fun b m => List.mem_append_right _ m⟩
theorem evm_new {s : Shp α} {m : M α} (h : Ev ce E te σ F H (rs s K) m) : EvM ce E K s te σ F H l m l := fun F1 H1 A g hA Q q => by
  refine h F1 H1 g Q ?_
  cases m with
  | er c => exact q
  | bad => exact q
  | ok x =>
    rintro F2 H2 v g2 ⟨B, o, n⟩
    exact q F2 H2 v B A g2 o (hA.gr g2) (fun b m z => hA.ne b z (n b m)) (fun b m => .inr (n b m)) fun b m => m
theorem evm_front {s : Shp α} {m : M α} {l1 l2 l' : List HP} {Pp : HP} (h : EvM ce E K s te σ F H (Pp :: (l1 ++ l2)) m l') : EvM ce E K s te σ F H (l1 ++ Pp :: l2) m l' := fun F1 H1 A g hA Q q => by
  obtain ⟨A2, h2, mm⟩ := hA.front
  refine h F1 H1 A2 g h2 Q ?_
  cases m with
  | er c => exact q
  | bad => exact q
  | ok x => exact fun F2 H2 v B A' g2 o ha d b1 b2 => q F2 H2 v B A' g2 o ha d (fun b m => (b1 b m).imp (mm b).mp id) fun b m => (mm b).mp (b2 b m)
theorem evm_some {s : Shp α} [NN α] {m : M α} {l' : List HP} (h : EvM ce E K s te σ F H l m l') : EvM ce E K (shpO s) te σ F H l (m.bind fun x => .ok (some x)) l' := fun F1 H1 A g hA Q q => by
  refine h F1 H1 A g hA Q ?_
  cases m with
  | er c => exact q
  | bad => exact q
  | ok x => exact fun F2 H2 v B A' g2 o => q F2 H2 v B A' g2 ⟨o, NN.nn (s.rep (F' := fz F2 H2 B) o (fz_ex g2.fh) fun a m => by unfold fz; rw [if_pos m])⟩
theorem evm_two {s : Shp α} {t : Shp β} {m1 : M α} {m2 : M β} {l1 l2 : List HP} {Q' : List V → Hp → Prop} (ha : EvM ce E K s ta σ F H l m1 l1) (hb : EvM ce E K t tb σ F H l1 m2 l2) : ∀ F1 H1 A, Gr F H F1 H1 → HAll K F1 H1 l A →
    (match m1.bind fun x => m2.bind fun y => .ok (x, y) with
    | .ok p => ∀ F2 H2 u w B C A', Gr F1 H1 F2 H2 → s.own K F2 H2 u p.1 B → t.own K F2 H2 w p.2 C → (∀ b ∈ B, b ∉ C) → HAll K F2 H2 l2 A' → (∀ b ∈ B ++ C, b ∉ A') → (∀ b ∈ B ++ C, b ∈ A ∨ H1 b = none) → (∀ b ∈ A', b ∈ A) → Q' [u, w] H2
    | .er c => ∀ H', Ex H1 H' → E (.ref (ce c.name)) none H'
    | .bad => False) → tCons ta (tCons tb tNil) σ H1 Q' := fun F1 H1 A g hA q => by
  refine ha F1 H1 A g hA _ ?_
  cases m1 with
  | er c => exact q
  | bad => exact q
  | ok x =>
    intro F2 H2 u B A2 g2 o2 h2 d2 b2 c2
    refine hb F2 H2 A2 (g.tr g2) h2 _ ?_
    cases m2 with
    | er c => exact fun H' e => q H' (g2.hh.tr e)
    | bad => exact q
    | ok y =>
      intro F3 H3 w C A3 g3 o3 h3 d3 b3 c3
      have o2' : s.own K F3 H3 u x B := s.mo g3.ff (fun a m => by
        obtain ⟨o, e, _⟩ := s.nh o2 a m
        rw [e]
        exact g3.hh _ _ e) (fun a m => g3.nw a (s.nf o2 a m) (by obtain ⟨o, e, _⟩ := s.nh o2 a m; rw [e]; exact fun z => nomatch z)) o2
      refine q F3 H3 u w B C A3 (g2.tr g3) o2' o3 (fun b m n => ?_) h3 (dj_mem (fun b m n => d2 b m (c3 b n)) d3) (dj_mem b2 fun b m => ?_) fun b m => c2 b (c3 b m)
      · rcases b3 b n with z | z
        · exact d2 b m z
        · obtain ⟨o, e, _⟩ := s.nh o2 b m
          rw [z] at e
          cases e
      · rcases b3 b m with z | z
        · exact .inl (c2 b z)
        · exact .inr (ex_back g2.hh z)
theorem evm_h2 {s : Shp α} {t : Shp β} {m1 : M α} {m2 : M β} {l1 l2 : List HP} (ha : EvM ce E K s ta σ F H l m1 l1) (hb : EvM ce E K t tb σ F H l1 m2 l2) :
    EvM ce E K (shpH s t) (tLst (tCons ta (tCons tb tNil))) σ F H l (m1.bind fun x => m2.bind fun y => .ok (H2.mk x y)) l2 := fun F1 H1 A g hA Q q => by
  refine evm_two ha hb F1 H1 A g hA ?_
  cases m1 with
  | er c => exact q
  | bad => exact q
  | ok x =>
    cases m2 with
    | er c => exact q
    | bad => exact q
    | ok y =>
      intro F2 H2 u w B C A' g2 o1 o2 d h2 d2 b2 c2
      refine ⟨by show 2 ≤ sizeLine; decide, fun p np => ?_⟩
      have nB : p ∉ B := fun m => by obtain ⟨o, e, _⟩ := s.nh o1 p m; rw [np] at e; cases e
      have nC : p ∉ C := fun m => by obtain ⟨o, e, _⟩ := t.nh o2 p m; rw [np] at e; cases e
      have nA : p ∉ A' := fun m => h2.ne p m np
      refine q F2 _ _ (p :: (B ++ C)) A' (g2.tr (Gr.own g2.fh np)) ⟨p, u, w, B, C, rfl, rfl, (fun m => (List.mem_append.mp m).elim nB nC), d, ex_back g2.fh np, upd_same, s.mo (Ex.rf _) (fun a m => upd_ne fun z => nB (z ▸ m)) (s.nf o1) o1, t.mo (Ex.rf _) (fun a m => upd_ne fun z => nC (z ▸ m)) (t.nf o2) o2⟩
        (h2.mo (Ex.rf _) (fun a m => upd_ne fun z => nA (z ▸ m)) h2.nf) (fun b m => ?_) (fun b m => ?_) c2
      · rcases List.mem_cons.mp m with rfl | m
        · exact nA
        · exact d2 b m
      · rcases List.mem_cons.mp m with rfl | m
        · exact .inr (ex_back g2.hh np)
        · exact b2 b m
theorem evm_p {s : Shp α} {t : Shp β} {m1 : M α} {m2 : M β} {l1 l2 : List HP} (ha : EvM ce E K s ta σ F H l m1 l1) (hb : EvM ce E K t tb σ F H l1 m2 l2) :
    EvM ce E K (shpP s t) (tTup (tCons ta (tCons tb tNil))) σ F H l (m1.bind fun x => m2.bind fun y => .ok (x, y)) l2 := fun F1 H1 A g hA Q q => by
  refine evm_two ha hb F1 H1 A g hA ?_
  cases m1 with
  | er c => exact q
  | bad => exact q
  | ok x =>
    cases m2 with
    | er c => exact q
    | bad => exact q
    | ok y =>
      intro F2 H2 u w B C A' g2 o1 o2 d h2 d2 b2 c2
      refine ⟨by show 2 ≤ sizeLine; decide, fun p np => ?_⟩
      have nB : p ∉ B := fun m => by obtain ⟨o, e, _⟩ := s.nh o1 p m; rw [np] at e; cases e
      have nC : p ∉ C := fun m => by obtain ⟨o, e, _⟩ := t.nh o2 p m; rw [np] at e; cases e
      have nA : p ∉ A' := fun m => h2.ne p m np
      have gn := Gr.new (o := .tup [u, w]) g2.fh np
      exact q _ _ _ (B ++ C) A' (g2.tr gn) ⟨p, u, w, B, C, rfl, rfl, d, SqT.of upd_same, s.mo gn.ff (fun a m => upd_ne fun z => nB (z ▸ m)) (fun a m => by have hz : a ≠ p := fun z => nB (z ▸ m); rw [upd_ne hz]; exact s.nf o1 a m) o1, t.mo gn.ff (fun a m => upd_ne fun z => nC (z ▸ m)) (fun a m => by have hz : a ≠ p := fun z => nC (z ▸ m); rw [upd_ne hz]; exact t.nf o2 a m) o2⟩
        (h2.gr gn) d2 b2 c2
theorem Hld.m {s : Shp α} {v : V} {x : α} {A B A' : List Addr} {F1 H1 : Hp} {l' : List HP} (n0 : ∀ a ∈ A, H0 a = none) (e : Ex H0 H) (o : s.own K F1 H1 v x B) (h : HAll K F1 H1 l' A') (d : ∀ b ∈ B, b ∉ A') (b1 : ∀ b ∈ B, b ∈ A ∨ H b = none) (b2 : ∀ b ∈ A', b ∈ A) : Hld K H0 F1 H1 (hO s v x :: l') :=
  ⟨B ++ A', ⟨B, A', rfl, d, o, h⟩, dj_mem (fun b m => (b1 b m).elim (n0 b) (ex_back e)) fun b m => n0 b (b2 b m)⟩
/-- x = a display that takes up what is one's own -/
theorem s_dasgM {i : Nat} {s : Shp α} {m1 : M α} {k : α → M τ} {l' : List HP} (hk : Hld K H0 F H l) (G : Gr F0 H0 F H) (q : Wp ce E H0 (m1.bind k) P) (h : EvM ce E K s te σ F H l m1 l')
    (c : ∀ x F1 H1 v, Gr F H F1 H1 → Hld K H0 F1 H1 (hO s v x :: l') → Wp ce E H0 (k x) P → D.nx (σ.set i (some v)) H1) : tAsg te (gName i) D σ H := by
  obtain ⟨A, hA, n0⟩ := hk
  refine h F H A (Gr.rf G.fh) hA _ ?_
  cases m1 with
  | ok x => exact fun F1 H1 v B A' g o h1 d b1 b2 => c x F1 H1 v g (Hld.m n0 G.hh o h1 d b1 b2) q
  | er cc => exact fun H' e => q H' (G.hh.tr e)
  | bad => exact q
theorem d_retM {s : Shp α} {m1 : M α} {k : α → M τ} {l' : List HP} (hk : Hld K H0 F H l) (G : Gr F0 H0 F H) (q : Wp ce E H0 (m1.bind k) P) (h : EvM ce E K s te σ F H l m1 l')
    (hD : ∀ r F1 H1 v, Gr F0 H0 F1 H1 → Hld K H0 F1 H1 (hO s v r :: l') → Wp ce E H0 (k r) P → D.rt v H1) : tRet te D σ H := by
  obtain ⟨A, hA, n0⟩ := hk
  refine h F H A (Gr.rf G.fh) hA _ ?_
  cases m1 with
  | ok x => exact fun F1 H1 v B A' g o h1 d b1 b2 => hD x F1 H1 v (G.tr g) (Hld.m n0 G.hh o h1 d b1 b2) q
  | er cc => exact fun H' e => q H' (G.hh.tr e)
  | bad => exact q
theorem evp_so [NN β] {s : Shp α} {t : Shp β} {v : V} {x : α} {A : List Addr} {m : M (Option β × (Option β → α))} (hr : EvP ce E K s (shpO t) v x tr σ F H A m) :
    EvP ce E K s t v x tr σ F H A (m.bind fun p => (getM p.1).bind fun y => .ok (y, fun z => p.2 (some z))) := fun F1 H1 g Q q => by
  refine hr F1 H1 g Q ?_
  cases m with
  | er c => exact q
  | bad => exact q
  | ok p =>
    obtain ⟨y, put⟩ := p
    cases y with
    | none => exact q.elim
    | some y =>
      intro F2 H2 u g2 hf
      refine q F2 H2 u g2 fun F3 H3 A1 f3 h3 o4 o5 => ?_
      obtain ⟨B, fo⟩ := hf F3 H3 A1 f3 h3 o4 o5
      have hf2 := Foc.trans fo (Foc.so fo.own)
      exact ⟨B, hf2⟩
theorem evp_ha {s : Shp α} {t : Shp β} {t' : Shp γ} {v : V} {x : α} {A : List Addr} {m : M (H2 β γ × (H2 β γ → α))} (hA : HAll K F H (hO s v x :: l) A) (eF : Ex F H) (hr : EvP ce E K s (shpH t t') v x tr σ F H A m) :
    EvP ce E K s t v x (tOp (rIxL K) tr (tC (.int 0))) σ F H A (m.bind fun p => .ok (p.1.a, fun z => p.2 (H2.mk z p.1.b))) := fun F1 H1 g Q q => by
  refine hr F1 H1 g _ ?_
  obtain ⟨A1, A2, e0, d0, o0, h2⟩ := hA
  subst e0
  cases m with
  | er c => exact q
  | bad => exact q
  | ok p =>
    intro F2 H2 u g2 hf
    have o3 : s.own K F H2 v x A1 := s.mo (Ex.rf _) (fun a m => by
      obtain ⟨o, e, _⟩ := s.nh o0 a m
      rw [e]
      exact g2.hh _ _ (g.hh _ _ e)) (s.nf o0) o0
    obtain ⟨B, fo⟩ := hf F H2 A1 (Ex.rf _) (Ex.rf _) o0 o3
    obtain ⟨a, u1, w1, B1, e1, e2, _⟩ := Foc.ha fo.own
    refine ⟨a, [u1, w1], 0, u1, e1, rfl, SqL.of e2, rfl, q F2 H2 u1 g2 fun F4 H4 A4 f4 h4 o4 o5 => ?_⟩
    obtain ⟨B5, fo5⟩ := hf F4 H4 A4 f4 h4 o4 o5
    obtain ⟨a5, u5, w5, C5, k1, k2, k3⟩ := Foc.ha fo5.own
    have ea : a5 = a := by rw [e1] at k1; cases k1; rfl
    subst ea
    have := h4 _ _ e2
    rw [k2] at this
    cases this
    have hf2 := Foc.trans fo5 k3
    exact ⟨C5, hf2⟩
/-- the same, the thing itself -/
theorem s_dapp1 {t : Shp β} {v : V} {i : Nat} {x : List β} {m1 : M β} {k : List β → M τ} (hv : σ[i]? = some (some v)) (hk : Hld K H0 F H (hO (shpL t) v x :: l)) (G : Gr F0 H0 F H)
    (q : Wp ce E H0 (m1.bind fun e => (appM x e).bind k) P) (he : EvU ce E K t te σ F H (hO (shpL t) v x :: l) m1)
    (c : ∀ y F1 H1, Ex F F1 → Gr F0 H0 F1 H1 → Hld K H0 F1 H1 (hO (shpL t) v y :: l) → Wp ce E H0 (k y) P → D.nx σ H1) : tDrop (tBM K "list" rAppend (tVar i) (tCons te tNil)) D σ H :=
  s_dapp (m := .ok (x, fun z => z)) hk G (by
    have e : ((m1.bind fun e => (appM x e).bind fun zs => M.ok zs).bind k) = (m1.bind fun e => (appM x e).bind k) := by
      cases m1 with
      | ok e => show ((appM x e).bind fun zs => M.ok zs).bind k = (appM x e).bind k; cases appM x e <;> rfl
      | er c => rfl
      | bad => rfl
    show Wp ce E H0 ((m1.bind fun e => (appM x e).bind fun zs => .ok zs).bind k) P
    rw [e]
    exact q) (fun A hA => evp_var hv) he c
theorem s_dset1 {t : Shp β} {v : V} {i : Nat} {x : List β} {m1 : M β} {mi : M Int} {k : List β → M τ} (hv : σ[i]? = some (some v)) (hk : Hld K H0 F H (hO (shpL t) v x :: l)) (G : Gr F0 H0 F H)
    (q : Wp ce E H0 (m1.bind fun e => mi.bind fun i => (setM x i e).bind k) P) (he : EvU ce E K t te σ F H (hO (shpL t) v x :: l) m1) (hi : ∀ A, HAll K F H (hO (shpL t) v x :: l) A → Ev ce E ti σ (fz F H A) H (rv K) mi)
    (c : ∀ y F1 H1, Ex F F1 → Gr F0 H0 F1 H1 → Hld K H0 F1 H1 (hO (shpL t) v y :: l) → Wp ce E H0 (k y) P → D.nx σ H1) : tAsg te (gSub (tVar i) ti rSetL) D σ H :=
  s_dset (m := .ok (x, fun z => z)) hk G (by
    have e : ((m1.bind fun e => mi.bind fun i => (setM x i e).bind fun zs => M.ok zs).bind k) = (m1.bind fun e => mi.bind fun i => (setM x i e).bind k) := by
      cases m1 with
      | ok e =>
        cases mi with
        | ok i => show ((setM x i e).bind fun zs => M.ok zs).bind k = (setM x i e).bind k; cases setM x i e <;> rfl
        | er c => rfl
        | bad => rfl
      | er c => rfl
      | bad => rfl
    show Wp ce E H0 ((m1.bind fun e => mi.bind fun i => (setM x i e).bind fun zs => .ok zs).bind k) P
    rw [e]
    exact q) (fun A hA => evp_var hv) he hi c
/-- a test that reads what is one's own, in a while -/
theorem t_lendD {m : M Bool} (hk : Hld K H0 F H l) (eF : Ex F H) (h : ∀ A, HAll K F H l A → EvT ce E tt σ (fz F H A) H m) : EvT ce E tt σ F H m := fun F1 H1 g Q q => by
  obtain ⟨A, hA, n0⟩ := hk
  have gz : Gr (fz F H A) H (fz F1 H1 A) H1 := ⟨fun a o e => by
    unfold fz at e ⊢
    by_cases m : a ∈ A
    · rw [if_pos m] at e ⊢; exact g.hh _ _ e
    · rw [if_neg m] at e ⊢; exact g.ff _ _ e, fz_h g.fh, g.hh, fun b b1 b2 => by
    unfold fz at b1 ⊢
    by_cases m : b ∈ A
    · rw [if_pos m] at b1; exact absurd b1 b2
    · rw [if_neg m] at b1 ⊢; exact g.nw b b1 b2⟩
  refine h A hA _ H1 gz Q ?_
  cases m with
  | ok b =>
    intro F2 H2 g2
    exact q (th F2 A) H2 ((hA.gr g).th g.fh g2)
  | er c => exact q
  | bad => exact q
/-! ### the same with a rest -/
theorem q_dasg {t2 : TS} {i : Nat} {m1 : M α} {k : α → M τ} (hk : Hld K H0 F H l) (G : Gr F0 H0 F H) (q : Wp ce E H0 (m1.bind k) P) (h : Ev ce E te σ F H (rv K) m1)
    (c : ∀ x F1 H1 v, Gr F H F1 H1 → rp K F1 v x → Hld K H0 F1 H1 l → Wp ce E H0 (k x) P → t2 D (σ.set i (some v)) H1) : tSeq (tAsg te (gName i)) t2 D σ H := s_dasg (D := { D with nx := t2 D }) hk G q h c
theorem q_dasgA {t2 : TS} {i : Nat} {m1 : M α} {k : α → M τ} [Flat α] (hk : Hld K H0 F H l) (G : Gr F0 H0 F H) (q : Wp ce E H0 (m1.bind k) P) (h : ∀ A, HAll K F H l A → Ev ce E te σ (fz F H A) H (rv K) m1)
    (c : ∀ x F1 H1 v, Gr F H F1 H1 → rp K F1 v x → Hld K H0 F1 H1 l → Wp ce E H0 (k x) P → t2 D (σ.set i (some v)) H1) : tSeq (tAsg te (gName i)) t2 D σ H := s_dasgA (D := { D with nx := t2 D }) hk G q h c
theorem q_dasgN {t2 : TS} {i : Nat} {s : Shp α} {m1 : M α} {k : α → M τ} (hk : Hld K H0 F H l) (G : Gr F0 H0 F H) (q : Wp ce E H0 (m1.bind k) P) (h : Ev ce E te σ F H (rs s K) m1)
    (c : ∀ x F1 H1 v, Gr F H F1 H1 → Hld K H0 F1 H1 (hO s v x :: l) → Wp ce E H0 (k x) P → t2 D (σ.set i (some v)) H1) : tSeq (tAsg te (gName i)) t2 D σ H := s_dasgN (D := { D with nx := t2 D }) hk G q h c
theorem q_dasgNA {t2 : TS} {i : Nat} {s : Shp α} [ShFl s] {m1 : M α} {k : α → M τ} (hk : Hld K H0 F H l) (G : Gr F0 H0 F H) (q : Wp ce E H0 (m1.bind k) P) (h : ∀ A, HAll K F H l A → Ev ce E te σ (fz F H A) H (rs s K) m1)
    (c : ∀ x F1 H1 v, Gr F H F1 H1 → Hld K H0 F1 H1 (hO s v x :: l) → Wp ce E H0 (k x) P → t2 D (σ.set i (some v)) H1) : tSeq (tAsg te (gName i)) t2 D σ H := s_dasgNA (D := { D with nx := t2 D }) hk G q h c
theorem q_ddrop {t2 : TS} {m1 : M α} {k : α → M τ} (hk : Hld K H0 F H l) (G : Gr F0 H0 F H) (q : Wp ce E H0 (m1.bind k) P) (h : Ev ce E te σ F H (rv K) m1)
    (c : ∀ x F1 H1, Gr F H F1 H1 → Hld K H0 F1 H1 l → Wp ce E H0 (k x) P → t2 D σ H1) : tSeq (tDrop te) t2 D σ H := s_ddrop (D := { D with nx := t2 D }) hk G q h c
theorem q_ddropA {t2 : TS} {m1 : M α} {k : α → M τ} (hk : Hld K H0 F H l) (G : Gr F0 H0 F H) (q : Wp ce E H0 (m1.bind k) P) (h : ∀ A, HAll K F H l A → Ev ce E te σ (fz F H A) H (rv K) m1)
    (c : ∀ x F1 H1, Gr F H F1 H1 → Hld K H0 F1 H1 l → Wp ce E H0 (k x) P → t2 D σ H1) : tSeq (tDrop te) t2 D σ H := s_ddropA (D := { D with nx := t2 D }) hk G q h c
theorem q_dif2 {t2 : TS} {m1 : M Bool} {k1 k2 : M τ} (hk : Hld K H0 F H l) (G : Gr F0 H0 F H) (q : Wp ce E H0 (m1.bind fun b => if b then k1 else k2) P) (h : EvT ce E tt σ F H m1)
    (h1 : ∀ F1 H1, Gr F H F1 H1 → Hld K H0 F1 H1 l → Wp ce E H0 k1 P → ts { D with nx := t2 D } σ H1) (h2 : ∀ F1 H1, Gr F H F1 H1 → Hld K H0 F1 H1 l → Wp ce E H0 k2 P → tw { D with nx := t2 D } σ H1) : tSeq (tIfS tt ts tw) t2 D σ H := s_dif2 (D := { D with nx := t2 D }) hk G q h h1 h2
theorem q_dif2A {t2 : TS} {m1 : M Bool} {k1 k2 : M τ} (hk : Hld K H0 F H l) (G : Gr F0 H0 F H) (q : Wp ce E H0 (m1.bind fun b => if b then k1 else k2) P) (h : ∀ A, HAll K F H l A → EvT ce E tt σ (fz F H A) H m1)
    (h1 : ∀ F1 H1, Gr F H F1 H1 → Hld K H0 F1 H1 l → Wp ce E H0 k1 P → ts { D with nx := t2 D } σ H1) (h2 : ∀ F1 H1, Gr F H F1 H1 → Hld K H0 F1 H1 l → Wp ce E H0 k2 P → tw { D with nx := t2 D } σ H1) : tSeq (tIfS tt ts tw) t2 D σ H := s_dif2A (D := { D with nx := t2 D }) hk G q h h1 h2
theorem q_dasgT {t2 : TS} {g : TG} {R : L2.St → Hp → L2.St → α → Prop} (hg : Tg K g R) {m1 : M α} {k : α → M τ} (hk : Hld K H0 F H l) (G : Gr F0 H0 F H) (q : Wp ce E H0 (m1.bind k) P) (h : Ev ce E te σ F H (rv K) m1)
    (c : ∀ x F1 H1 σ1, Gr F H F1 H1 → R σ F1 σ1 x → Hld K H0 F1 H1 l → Wp ce E H0 (k x) P → t2 D σ1 H1) : tSeq (tAsg te g) t2 D σ H := s_dasgT (D := { D with nx := t2 D }) hg hk G q h c
theorem q_dasgTA {t2 : TS} {g : TG} {R : L2.St → Hp → L2.St → α → Prop} (hg : Tg K g R) {m1 : M α} {k : α → M τ} [Flat α] (hk : Hld K H0 F H l) (G : Gr F0 H0 F H) (q : Wp ce E H0 (m1.bind k) P) (h : ∀ A, HAll K F H l A → Ev ce E te σ (fz F H A) H (rv K) m1)
    (c : ∀ x F1 H1 σ1, Gr F H F1 H1 → R σ F1 σ1 x → Hld K H0 F1 H1 l → Wp ce E H0 (k x) P → t2 D σ1 H1) : tSeq (tAsg te g) t2 D σ H := s_dasgTA (D := { D with nx := t2 D }) hg hk G q h c
theorem q_daug {t2 : TS} {i : Nat} {v : V} {a : Int} {f : Int → Int → Int} {m1 : M Int} {k : Int → M τ} (hv : σ[i]? = some (some v)) (r : rp K F v a) (hk : Hld K H0 F H l) (G : Gr F0 H0 F H) (q : Wp ce E H0 (m1.bind fun y => k (f a y)) P) (h : ∀ A, HAll K F H l A → Ev ce E te σ (fz F H A) H (rv K) m1)
    (c : ∀ x F1 H1 v, Gr F H F1 H1 → rp K F1 v x → Hld K H0 F1 H1 l → Wp ce E H0 (k x) P → t2 D (σ.set i (some v)) H1) : tSeq (tAug i te (ipI f)) t2 D σ H := s_daug (D := { D with nx := t2 D }) hv r hk G q h c
theorem q_dapp {t2 : TS} {s : Shp α} {t : Shp β} {v : V} {x : α} {m : M (List β × (List β → α))} {m1 : M β} {k : α → M τ} (hk : Hld K H0 F H (hO s v x :: l)) (G : Gr F0 H0 F H)
    (q : Wp ce E H0 ((m.bind fun p => m1.bind fun e => (appM p.1 e).bind fun zs => .ok (p.2 zs)).bind k) P) (hp : ∀ A, HAll K F H (hO s v x :: l) A → EvP ce E K s (shpL t) v x tr σ F H A m) (he : EvU ce E K t te σ F H (hO s v x :: l) m1)
    (c : ∀ y F1 H1, Ex F F1 → Gr F0 H0 F1 H1 → Hld K H0 F1 H1 (hO s v y :: l) → Wp ce E H0 (k y) P → t2 D σ H1) : tSeq (tDrop (tBM K "list" rAppend tr (tCons te tNil))) t2 D σ H := s_dapp (D := { D with nx := t2 D }) hk G q hp he c
theorem q_dset {t2 : TS} {s : Shp α} {t : Shp β} {v : V} {x : α} {m : M (List β × (List β → α))} {m1 : M β} {mi : M Int} {k : α → M τ} (hk : Hld K H0 F H (hO s v x :: l)) (G : Gr F0 H0 F H)
    (q : Wp ce E H0 ((m1.bind fun e => m.bind fun p => mi.bind fun i => (setM p.1 i e).bind fun zs => .ok (p.2 zs)).bind k) P) (hp : ∀ A, HAll K F H (hO s v x :: l) A → EvP ce E K s (shpL t) v x tr σ F H A m) (he : EvU ce E K t te σ F H (hO s v x :: l) m1)
    (hi : ∀ A, HAll K F H (hO s v x :: l) A → Ev ce E ti σ (fz F H A) H (rv K) mi)
    (c : ∀ y F1 H1, Ex F F1 → Gr F0 H0 F1 H1 → Hld K H0 F1 H1 (hO s v y :: l) → Wp ce E H0 (k y) P → t2 D σ H1) : tSeq (tAsg te (gSub tr ti rSetL)) t2 D σ H := s_dset (D := { D with nx := t2 D }) hk G q hp he hi c
theorem q_dappTmp {t2 : TS} {s : Shp β} {m : M (List β)} {m1 : M β} {k : M τ} (hk : Hld K H0 F H l) (G : Gr F0 H0 F H)
    (q : Wp ce E H0 (m.bind fun xs => m1.bind fun e => (appM xs e).bind fun _ => k) P) (h : EvU ce E K (shpL s) tr σ F H l m) (he : EvU ce E K s te σ F H l m1)
    (c : ∀ F1 H1, Gr F H F1 H1 → Hld K H0 F1 H1 l → Wp ce E H0 k P → t2 D σ H1) : tSeq (tDrop (tBM K "list" rAppend tr (tCons te tNil))) t2 D σ H := s_dappTmp (D := { D with nx := t2 D }) hk G q h he c
theorem q_dasgM {t2 : TS} {i : Nat} {s : Shp α} {m1 : M α} {k : α → M τ} {l' : List HP} (hk : Hld K H0 F H l) (G : Gr F0 H0 F H) (q : Wp ce E H0 (m1.bind k) P) (h : EvM ce E K s te σ F H l m1 l')
    (c : ∀ x F1 H1 v, Gr F H F1 H1 → Hld K H0 F1 H1 (hO s v x :: l') → Wp ce E H0 (k x) P → t2 D (σ.set i (some v)) H1) : tSeq (tAsg te (gName i)) t2 D σ H := s_dasgM (D := { D with nx := t2 D }) hk G q h c
theorem q_dapp1 {t2 : TS} {t : Shp β} {v : V} {i : Nat} {x : List β} {m1 : M β} {k : List β → M τ} (hv : σ[i]? = some (some v)) (hk : Hld K H0 F H (hO (shpL t) v x :: l)) (G : Gr F0 H0 F H)
    (q : Wp ce E H0 (m1.bind fun e => (appM x e).bind k) P) (he : EvU ce E K t te σ F H (hO (shpL t) v x :: l) m1)
    (c : ∀ y F1 H1, Ex F F1 → Gr F0 H0 F1 H1 → Hld K H0 F1 H1 (hO (shpL t) v y :: l) → Wp ce E H0 (k y) P → t2 D σ H1) : tSeq (tDrop (tBM K "list" rAppend (tVar i) (tCons te tNil))) t2 D σ H := s_dapp1 (D := { D with nx := t2 D }) hv hk G q he c
theorem q_dset1 {t2 : TS} {t : Shp β} {v : V} {i : Nat} {x : List β} {m1 : M β} {mi : M Int} {k : List β → M τ} (hv : σ[i]? = some (some v)) (hk : Hld K H0 F H (hO (shpL t) v x :: l)) (G : Gr F0 H0 F H)
    (q : Wp ce E H0 (m1.bind fun e => mi.bind fun i => (setM x i e).bind k) P) (he : EvU ce E K t te σ F H (hO (shpL t) v x :: l) m1) (hi : ∀ A, HAll K F H (hO (shpL t) v x :: l) A → Ev ce E ti σ (fz F H A) H (rv K) mi)
    (c : ∀ y F1 H1, Ex F F1 → Gr F0 H0 F1 H1 → Hld K H0 F1 H1 (hO (shpL t) v y :: l) → Wp ce E H0 (k y) P → t2 D σ H1) : tSeq (tAsg te (gSub (tVar i) ti rSetL)) t2 D σ H := s_dset1 (D := { D with nx := t2 D }) hv hk G q he hi c
end
end Mw

set_option Elab.async false
set_option linter.all false
set_option maxRecDepth 100000
set_option maxHeartbeats 2000000
/-! Mw, part X: a tuple of three (first and last one's own), its parts. -/
namespace Mw
open PySem L2
open Rep (rp)
theorem rd_mo {F F' : Hp} {a : Addr} {u : HO} (e : Ex F F') (h : Rd F a u) : Rd F' a u := h.elim (fun h => .inl (e _ _ h)) fun ⟨o, h⟩ => .inr ⟨o, e _ _ h⟩
theorem rd_inj {F : Hp} {a : Addr} {xs ys : List V} (h : Rd F a (.tup xs)) (k : Rd F a (.tup ys)) : xs = ys := by
  rcases h with h | ⟨o, h⟩ <;> rcases k with k | ⟨o', k⟩ <;> rw [h] at k <;> cases k <;> rfl
/-- a tuple of three that stays: the first and the last are things of one's own -/
def shpT {α β γ : Type} [Rep α] [Rep β] [Rep γ] (s : Shp α) (t : Shp γ) : Shp (T3 α β γ) where
  own := fun K F H v x A => ∃ p u w z B C, v = .ref p ∧ A = B ++ C ∧ (∀ b ∈ B, b ∉ C) ∧ Rd F p (.tup [u, w, z]) ∧ s.own K F H u x.a B ∧ rp K F w x.b ∧ t.own K F H z x.c C
  mo := fun {K F H F' H' v x A} e h f ⟨p, u, w, z, B, C, h1, h2, h4, h6, h7, h9, h8⟩ => by
    subst h2
    obtain ⟨a1, a2⟩ := dj_app h
    obtain ⟨b1, b2⟩ := dj_app f
    exact ⟨p, u, w, z, B, C, h1, rfl, h4, rd_mo e h6, s.mo e a1 b1 h7, Rep.mo e h9, t.mo e a2 b2 h8⟩
  nf := fun {K F H v x A} ⟨p, u, w, z, B, C, h1, h2, h4, h6, h7, h9, h8⟩ a m => by
    subst h2
    exact dj_mem (s.nf h7) (t.nf h8) a m
  nh := fun {K F H v x A} ⟨p, u, w, z, B, C, h1, h2, h4, h6, h7, h9, h8⟩ a m => by
    subst h2
    exact dj_mem (s.nh h7) (t.nh h8) a m
  rep := fun {K F H F' v x A} ⟨p, u, w, z, B, C, h1, h2, h4, h6, h7, h9, h8⟩ e h => by
    subst h2
    obtain ⟨a1, a2⟩ := dj_app h
    exact ⟨p, u, w, z, h1, (.inl (rd_mo e h6)), s.rep h7 e a1, Rep.mo e h9, t.rep h8 e a2⟩
instance {α β γ : Type} [Rep α] [Rep β] [Rep γ] [Flat β] {s : Shp α} {t : Shp γ} [ShFl s] [ShFl t] : ShFl (shpT (β := β) s t) := ⟨fun {K F H F' v x A} e f ⟨p, u, w, z, B, C, h1, h2, h4, h6, h7, h9, h8⟩ => by
  subst h2
  obtain ⟨b1, b2⟩ := dj_app f
  exact ⟨p, u, w, z, B, C, h1, rfl, h4, e _ _ h6, ShFl.fl e b1 h7, Flat.fl e h9, ShFl.fl e b2 h8⟩⟩
section
variable {ρ α β γ δ S W τ T : Type} [Rep α] [Rep β] [Rep γ] [Rep δ] {ce : Ce} {E : XK} {K : PySem.W.Frag} {σ : L2.St} {F H F' H' F0 H0 : Hp} {te ty tx ti tr : TE} {l : List HP}
/-- what was made within a try beside what stood ahead of it -/
theorem Hld.merge {Ft Ht : Hp} {l1 l2 : List HP} (h1 : Hld K Ht F H l1) (h2 : Hld K H0 Ft Ht l2) (g : Gr Ft Ht F H) (e : Ex H0 Ht) : Hld K H0 F H (l1 ++ l2) := by
  obtain ⟨A, a1, a2⟩ := h1
  obtain ⟨B, b1, b2⟩ := h2
  refine ⟨A ++ B, a1.join (b1.gr g) (fun a m z => b1.ne a z (a2 a m)), fun a m => ?_⟩
  rcases List.mem_append.mp m with m | m
  · exact ex_back e (a2 a m)
  · exact b2 a m
theorem shp_gr {s : Shp α} {u : V} {x : α} {A : List Addr} (o : s.own K F H u x A) (g : Gr F H F' H') : s.own K F' H' u x A :=
  s.mo g.ff (fun a m => by obtain ⟨o, e, _⟩ := s.nh o a m; rw [e]; exact g.hh _ _ e) (fun a m => g.nw a (s.nf o a m) (by obtain ⟨o, e, _⟩ := s.nh o a m; rw [e]; exact fun z => nomatch z)) o
theorem em_t3S {ta tb tc : TE} {s : Shp α} {t : Shp γ} {m1 : M α} {m2 : M β} {m3 : M γ} (ha : Ev ce E ta σ F H (rs s K) m1) (hb : Ev ce E tb σ F H (rv K) m2) (hc : Ev ce E tc σ F H (rs t K) m3) :
    Ev ce E (tTup (tCons ta (tCons tb (tCons tc tNil)))) σ F H (rs (shpT s t) K) (m1.bind fun x => m2.bind fun y => m3.bind fun z => .ok (T3.mk x y z)) := fun F1 H1 g1 Q q => by
  refine ha F1 H1 g1 _ ?_
  cases m1 with
  | ok x =>
    rintro F2 H2 v2 g2 ⟨B, o2, n2⟩
    refine hb F2 H2 (g1.tr g2) _ ?_
    cases m2 with
    | ok y =>
      intro F3 H3 v3 g3 q3
      refine hc F3 H3 ((g1.tr g2).tr g3) _ ?_
      cases m3 with
      | ok z =>
        refine fun F4 H4 v4 g4 ⟨C, o4, n4⟩ => ⟨by show 3 ≤ sizeLine; decide, fun p np => ?_⟩
        have gn := Gr.new (o := .tup [v2, v3, v4]) g4.fh np
        have o2' := shp_gr o2 (g3.tr g4)
        refine q _ _ _ (((g2.tr g3).tr g4).tr gn) ⟨B ++ C, ⟨p, v2, v3, v4, B, C, rfl, rfl, fun b m c => ?_, (.inl upd_same), shp_gr o2' gn, Rep.mo (g4.ff.tr gn.ff) q3, shp_gr o4 gn⟩, fun a m => ?_⟩
        · have := n4 b c
          obtain ⟨o, e, _⟩ := s.nh o2 b m
          rw [g3.hh _ _ e] at this
          cases this
        · rcases List.mem_append.mp m with m | m
          · exact n2 a m
          · exact ex_back (g2.tr g3).hh (n4 a m)
      | er c => exact fun H' e => q H' ((g2.tr g3).hh.tr e)
      | bad => exact q
    | er c => exact fun H' e => q H' (g2.hh.tr e)
    | bad => exact q
  | er c => exact q
  | bad => exact q
theorem Foc.ta {s : Shp α} {t : Shp γ} {v : V} {x : T3 α β γ} {A : List Addr} (o : (shpT (β := β) s t).own K F H v x A) : ∃ p u w z B, v = .ref p ∧ Rd F p (.tup [u, w, z]) ∧ Foc K (shpT (β := β) s t) s F H v A u x.a B (fun y => T3.mk y x.b x.c) := by
  obtain ⟨p, u, w, z, B, C, h1, h2, h4, h6, h7, h9, h8⟩ := o
  subst h2
  refine ⟨p, u, w, z, B, h1, h6, h7, fun b m => List.mem_append_left _ m, fun {F' H' y' B'} e n k d o => ?_⟩
  have kC : ∀ c ∈ C, c ∉ B := fun c m y => h4 c y m
  refine ⟨B' ++ C, ⟨p, u, w, z, B', C, h1, rfl, fun b m y => kC b y (d b m (List.mem_append_right _ y)), rd_mo e h6, o, Rep.mo e h9,
    t.mo e (fun a m => k a (List.mem_append_right _ m) (kC a m)) (fun a m => n a (List.mem_append_right _ m)) h8⟩, fun a m => ?_⟩
  rcases List.mem_append.mp m with m | m
  · exact .inl m
  · exact .inr ⟨List.mem_append_right _ m, kC a m⟩
theorem Foc.tc {s : Shp α} {t : Shp γ} {v : V} {x : T3 α β γ} {A : List Addr} (o : (shpT (β := β) s t).own K F H v x A) : ∃ p u w z C, v = .ref p ∧ Rd F p (.tup [u, w, z]) ∧ Foc K (shpT (β := β) s t) t F H v A z x.c C (fun y => T3.mk x.a x.b y) := by
  obtain ⟨p, u, w, z, B, C, h1, h2, h4, h6, h7, h9, h8⟩ := o
  subst h2
  refine ⟨p, u, w, z, C, h1, h6, h8, fun b m => List.mem_append_right _ m, fun {F' H' y' C'} e n k d o => ?_⟩
  refine ⟨B ++ C', ⟨p, u, w, z, B, C', h1, rfl, fun b m y => h4 b m (d b y (List.mem_append_left _ m)), rd_mo e h6,
    s.mo e (fun a m => k a (List.mem_append_left _ m) (h4 a m)) (fun a m => n a (List.mem_append_left _ m)) h7, Rep.mo e h9, o⟩, fun a m => ?_⟩
  rcases List.mem_append.mp m with m | m
  · exact .inr ⟨List.mem_append_left _ m, h4 a m⟩
  · exact .inl m
theorem evp_ta {s : Shp δ} {t : Shp α} {t' : Shp γ} {v : V} {x : δ} {A : List Addr} {m : M (T3 α β γ × (T3 α β γ → δ))} (hA : HAll K F H (hO s v x :: l) A) (eF : Ex F H) (hr : EvP ce E K s (shpT (β := β) t t') v x tr σ F H A m) :
    EvP ce E K s t v x (tOp (rIxT K) tr (tC (.int 0))) σ F H A (m.bind fun p => .ok (p.1.a, fun z => p.2 (T3.mk z p.1.b p.1.c))) := fun F1 H1 g Q q => by
  refine hr F1 H1 g _ ?_
  obtain ⟨A1, A2, e0, d0, o0, h2⟩ := hA
  subst e0
  cases m with
  | er c => exact q
  | bad => exact q
  | ok p =>
    intro F2 H2 u g2 hf
    have o3 : s.own K F H2 v x A1 := s.mo (Ex.rf _) (fun a m => by
      obtain ⟨o, e, _⟩ := s.nh o0 a m
      rw [e]
      exact g2.hh _ _ (g.hh _ _ e)) (s.nf o0) o0
    obtain ⟨B, fo⟩ := hf F H2 A1 (Ex.rf _) (Ex.rf _) o0 o3
    obtain ⟨a, u1, w1, z1, B1, e1, e2, _⟩ := Foc.ta fo.own
    have eF2 : Ex F H2 := eF.tr (g.hh.tr g2.hh)
    refine ⟨a, [u1, w1, z1], 0, u1, e1, rfl, .inl (rd_mo eF2 e2), rfl, q F2 H2 u1 g2 fun F4 H4 A4 f4 h4 o4 o5 => ?_⟩
    obtain ⟨B5, fo5⟩ := hf F4 H4 A4 f4 h4 o4 o5
    obtain ⟨a5, u5, w5, z5, C5, k1, k2, k3⟩ := Foc.ta fo5.own
    have ea : a5 = a := by rw [e1] at k1; cases k1; rfl
    subst ea
    have := rd_inj (rd_mo f4 e2) k2
    cases this
    have hf2 := Foc.trans fo5 k3
    exact ⟨C5, hf2⟩
theorem evp_tc {s : Shp δ} {t : Shp α} {t' : Shp γ} {v : V} {x : δ} {A : List Addr} {m : M (T3 α β γ × (T3 α β γ → δ))} (hA : HAll K F H (hO s v x :: l) A) (eF : Ex F H) (hr : EvP ce E K s (shpT (β := β) t t') v x tr σ F H A m) :
    EvP ce E K s t' v x (tOp (rIxT K) tr (tC (.int 2))) σ F H A (m.bind fun p => .ok (p.1.c, fun z => p.2 (T3.mk p.1.a p.1.b z))) := fun F1 H1 g Q q => by
  refine hr F1 H1 g _ ?_
  obtain ⟨A1, A2, e0, d0, o0, h2⟩ := hA
  subst e0
  cases m with
  | er c => exact q
  | bad => exact q
  | ok p =>
    intro F2 H2 u g2 hf
    have o3 : s.own K F H2 v x A1 := s.mo (Ex.rf _) (fun a m => by
      obtain ⟨o, e, _⟩ := s.nh o0 a m
      rw [e]
      exact g2.hh _ _ (g.hh _ _ e)) (s.nf o0) o0
    obtain ⟨B, fo⟩ := hf F H2 A1 (Ex.rf _) (Ex.rf _) o0 o3
    obtain ⟨a, u1, w1, z1, B1, e1, e2, _⟩ := Foc.tc fo.own
    have eF2 : Ex F H2 := eF.tr (g.hh.tr g2.hh)
    refine ⟨a, [u1, w1, z1], 2, z1, e1, rfl, .inl (rd_mo eF2 e2), rfl, q F2 H2 z1 g2 fun F4 H4 A4 f4 h4 o4 o5 => ?_⟩
    obtain ⟨B5, fo5⟩ := hf F4 H4 A4 f4 h4 o4 o5
    obtain ⟨a5, u5, w5, z5, C5, k1, k2, k3⟩ := Foc.tc fo5.own
    have ea : a5 = a := by rw [e1] at k1; cases k1; rfl
    subst ea
    have := rd_inj (rd_mo f4 e2) k2
    cases this
    have hf2 := Foc.trans fo5 k3
    exact ⟨C5, hf2⟩
end
end Mw

set_option Elab.async false
set_option linter.all false
set_option maxRecDepth 100000
set_option maxHeartbeats 2000000
/-! Mw, part Z: a dict of one's own that is walked: locked meanwhile. -/
namespace Mw
open PySem L2
open Rep (rp)
/-- a locked dict -/
structure Dz (α : Type) where
  kvs : List (Int × α)
instance {α : Type} [Rep α] : Rep (Dz α) := ⟨fun K H v x => ∃ a od vs, v = .ref a ∧ H a = some (.frz od (.dK vs)) ∧ DRel K H vs x.kvs, fun e ⟨a, od, vs, h1, h2, h3⟩ => ⟨a, od, vs, h1, e _ _ h2, drel_mo e h3⟩⟩
/-- what is told holds beside the locked one -/
class Thw (α : Type) [Rep α] : Prop where
  tw : ∀ {K : PySem.W.Frag} {F : Hp} {p : Addr} {od : PySem.Obj} {vs : List (Key × V)} {v : V} {x : α}, F p = some (.frz od (.dK vs)) → rp K F v x → rp K (th F [p]) v x
theorem th_ne {F : Hp} {p a : Addr} (h : a ≠ p) : th F [p] a = F a := by unfold th; rw [if_neg (by simpa using h)]
theorem th_eq {F : Hp} {p : Addr} : th F [p] p = none := by unfold th; rw [if_pos (by simp)]
theorem th_tp {K : PySem.W.Frag} {F : Hp} {p a : Addr} {od : PySem.Obj} {vs : List (Key × V)} {xs : List V} (e : F p = some (.frz od (.dK vs))) (h : SqT K F a xs) : SqT K (th F [p]) a xs := by
  rcases h with (h | ⟨o, h⟩) | h
  · exact .inl (.inl ((th_ne (by rintro rfl; rw [e] at h; cases h)).trans h))
  · exact .inl (.inr ⟨o, (th_ne (by rintro rfl; rw [e] at h; cases h)).trans h⟩)
  · exact .inr h
instance : Thw Int := ⟨fun _ h => h⟩
instance : Thw Bool := ⟨fun _ h => h⟩
theorem paired_tw {α : Type} [Rep α] [Thw α] {K : PySem.W.Frag} {F : Hp} {p : Addr} {od : PySem.Obj} {vs : List (Key × V)} (e : F p = some (.frz od (.dK vs))) : ∀ {us : List V} {xs : List α}, Paired (rp K F) us xs → Paired (rp K (th F [p])) us xs
  | _, _, .nil => .nil
  | _, _, .cons h t => .cons (Thw.tw e h) (paired_tw e t)
instance {α : Type} [Rep α] [Thw α] : Thw (List α) := ⟨fun {K F p od vs v x} e ⟨a, us, h1, h2, h3⟩ => ⟨a, us, h1, (th_ne (by rintro rfl; rw [e] at h2; cases h2)).trans h2, paired_tw e h3⟩⟩
instance {α β : Type} [Rep α] [Rep β] [Thw α] [Thw β] : Thw (α × β) := ⟨fun e ⟨a, u, w, h1, h2, h3, h4⟩ => ⟨a, u, w, h1, th_tp e h2, Thw.tw e h3, Thw.tw e h4⟩⟩
instance {α : Type} [Rep α] [Thw α] : Thw (Option α) := ⟨fun {K F p od vs v x} e h => by
  cases x with
  | none => exact h
  | some y => exact ⟨Thw.tw e h.1, h.2⟩⟩
section
variable {ρ α β γ δ S τ : Type} [Rep α] [Rep β] [Rep γ] [Rep δ] {ce : Ce} {E : XK} {K : PySem.W.Frag} {σ : L2.St} {F H F' H' F0 H0 : Hp} {te ta tb tc td ty : TE} {tt tu : TT} {md : Md ρ} {m : M ρ} {D : Ends} {ts tw : TS} {g : TG} {wi : TI} {P : τ → Prop}
/-- a walk over the locked one -/
theorem ei_keysZ {m : M (Dz α)} (h : Ev ce E td σ F H (rv K) m) : EvI ce E K (iKeys td) σ F H (m.bind fun d => .ok (d.kvs.map (·.1))) := fun F1 H1 g1 R q => by
  refine h F1 H1 g1 _ ?_
  cases m with
  | ok d =>
    rintro F2 H2 v g2 ⟨a, od, vs, e1, e2, e3⟩
    refine ⟨a, od, e1, .inl ⟨vs, g2.fh _ _ e2, q F2 H2 _ g2 fun i H e => ⟨fun x hx => ?_, fun hi => ⟨e _ _ e2, ?_⟩⟩⟩⟩
    · rw [List.getElem?_map] at hx
      obtain ⟨kv, hk, rfl⟩ := Option.map_eq_some_iff.mp hx
      obtain ⟨w, hw, r⟩ := paired_get (F := fun (q : Key × V) (p : Int × α) => q.1 = Sum.inl p.1 ∧ rp K F2 q.2 p.2) e3 hk
      refine ⟨⟨e _ _ e2, (List.getElem?_eq_some_iff.mp hw).1⟩, ?_⟩
      rintro v H' ⟨rfl, k, u, hq, rfl⟩ F1 f1 f2
      rw [hw] at hq
      cases hq
      refine ⟨F1, Gr.rf f2, ?_⟩
      rw [show k = Sum.inl kv.1 from r.1]
      rfl
    · have := drel_len e3
      rw [List.length_map] at hi
      omega
  | er c => exact q
  | bad => exact q
theorem em_dgetZ {m1 : M (Dz α)} {m2 : M Int} (ha : Ev ce E td σ F H (rv K) m1) (hb : Ev ce E ty σ F H (rv K) m2) : Ev ce E (tDGet td ty) σ F H (rv K) (m1.bind fun d => m2.bind fun k => dgetM (Dc.mk d.kvs) k) := fun F1 H1 g1 Q q => by
  refine ha F1 H1 g1 _ ?_
  cases m1 with
  | ok d =>
    rintro F2 H2 vx g2 ⟨a, od, vs, e1, e2, e3⟩
    refine hb F2 H2 (g1.tr g2) _ ?_
    cases m2 with
    | ok k =>
      rintro F3 H3 vk g3 rfl
      have q' : Post ce (rv K) (dgetM (Dc.mk d.kvs) k) F1 H1 Q E := q
      unfold dgetM at q'
      split at q'
      · rename_i x hx
        obtain ⟨v, hv, r⟩ := (drel_look k (drel_mo g3.ff e3)).1 x hx
        refine ⟨a, v, e1, ?_, q' F3 H3 v (g2.tr g3) r⟩
        have : DGet H3 a (kV (Sum.inl k)) (valV vs (Sum.inl k)) := .inl ⟨vs, Sum.inl k, .inr ⟨od, g3.hh _ _ (g2.fh _ _ e2)⟩, rfl, rfl⟩
        rw [hv] at this
        exact this
      · exact q'.elim
    | er c => exact fun H' e => q H' (g2.hh.tr e)
    | bad => exact q
  | er c => exact q
  | bad => exact q
theorem q_lock {t t2 : TS} {p : Addr} {x : Dc α} {Z : L2.St → Prop} {m mk : M τ} (G : Gr F0 H0 F H) (o : Own K F H p x) (n0 : H0 p = none) (q : Wp ce E H0 m P)
    (c : ∀ F1 H1 (DL : Ends), Ex F F1 → Gr F1 H0 F1 H1 → rp K F1 (.ref p) (Dz.mk x.kvs) →
      (∀ {ρ : Type} [Rep ρ] [Thw ρ] (r : ρ) Fb Hb v, Gr F1 H0 Fb Hb → rp K Fb v r → (∀ F3 H3, Gr F0 H0 F3 H3 → rp K F3 v r → D.rt v H3) → DL.rt v Hb) →
      (∀ Fb Hb σ', Gr F1 H0 Fb Hb → Z σ' → Wp ce E H0 mk P → DL.nx σ' Hb) → Wp ce E H0 m P → t DL σ H1)
    (a : ∀ F3 H3 σ', Z σ' → Gr F0 H0 F3 H3 → Ex F F3 → Own K F3 H3 p x → Wp ce E H0 mk P → t2 D σ' H3) : tSeq (tLock t) t2 D σ H := by
  obtain ⟨⟨u, h1, vs, h2, h4⟩, h3⟩ := o
  subst h2
  refine ⟨p, .dK vs, h1, True.intro, fun od => ?_⟩
  have eF : Ex F (upd F p (.frz od (.dK vs))) := Ex.nw h3
  have eH : Ex (upd F p (.frz od (.dK vs))) (upd H p (.frz od (.dK vs))) := fun b w e => by
    by_cases z : b = p
    · subst z; rw [upd_same] at e ⊢; exact e
    · rw [upd_ne z] at e ⊢; exact G.fh _ _ e
  have fp : upd F p (.frz od (.dK vs)) p = some (.frz od (.dK vs)) := upd_same
  have f0 : F0 p = none := by
    cases h : F0 p with
    | none => rfl
    | some w => rw [G.ff _ _ h] at h3; cases h3
  -- behind the lock
  have back : ∀ Fb Hb, Gr (upd F p (.frz od (.dK vs))) H0 Fb Hb → Hb p = some (.frz od (.dK vs)) ∧ Gr F0 H0 (th Fb [p]) (upd Hb p (.dK vs)) ∧ Ex F (th Fb [p]) ∧ Own K (th Fb [p]) (upd Hb p (.dK vs)) p x := fun Fb Hb g => by
    have b1 := g.ff _ _ fp
    have eb : Ex F (th Fb [p]) := fun b w e => by
      have : b ≠ p := fun z => by subst z; rw [h3] at e; cases e
      rw [th_ne this]
      exact g.ff _ _ (eF _ _ e)
    refine ⟨g.fh _ _ b1, ⟨G.ff.tr eb, fun b w e => ?_, fun b w e => ?_, fun b a1 a2 => ?_⟩, eb, ⟨⟨.dK vs, upd_same, vs, rfl, drel_mo eb h4⟩, th_eq⟩⟩
    · have : b ≠ p := fun z => by subst z; rw [th_eq] at e; cases e
      rw [th_ne this] at e
      rw [upd_ne this]
      exact g.fh _ _ e
    · have : b ≠ p := fun z => by subst z; rw [n0] at e; cases e
      rw [upd_ne this]
      exact g.hh _ _ e
    · by_cases z : b = p
      · subst z; exact th_eq
      · rw [th_ne z]
        refine g.nw b ?_ a2
        rw [upd_ne z]
        exact G.nw b a1 a2
  refine c (upd F p (.frz od (.dK vs))) (upd H p (.frz od (.dK vs))) _ eF ⟨Ex.rf _, eH, fun b w e => ?_, fun b a1 _ => a1⟩ ⟨p, od, vs, rfl, fp, drel_mo eF h4⟩ ?_ ?_ q
  · have : b ≠ p := fun z => by subst z; rw [n0] at e; cases e
    rw [upd_ne this]
    exact G.hh _ _ e
  · intro ρ _ _ r Fb Hb v g rr k
    obtain ⟨b1, b2, b3, b4⟩ := back Fb Hb g
    exact ⟨b1, k _ _ b2 (Thw.tw (g.ff _ _ fp) rr)⟩
  · intro Fb Hb σ' g z w
    obtain ⟨b1, b2, b3, b4⟩ := back Fb Hb g
    exact ⟨b1, a _ _ σ' z b2 b3 b4 w⟩
end
end Mw

set_option Elab.async false
set_option linter.all false
set_option maxRecDepth 100000
set_option maxHeartbeats 4000000
noncomputable section
namespace Kx
open PySem L2 Mw
open Rep (rp)
def FUEL : Nat := 1000000
theorem pow_10_60 : (10 : Int) ^ (60 : Int).toNat = 1000000000000000000000000000000000000000000000000000000000000 := by decide +kernel
/-! ### _law_lot -/
@[irreducible] def m_law_lot_b1 (a0_pairs : (List (Int × Int))) (x_91 : Int) (s_90 : (List (Int × Int))) : M (Ctl (List (Int × Int)) (List (Int × Int))) :=
  (((((M.ok a0_pairs).bind fun xs_117 => lcM (fun x_113 : (Int × Int) => (M.ok (decide (x_113.1 = x_91)))) (fun x_113 : (Int × Int) => (M.ok x_113.2)) xs_117).bind fun x_118 => (M.ok ()).bind fun y_119 => .ok (x_118, y_119)).bind fun a_120 => .ok (List.sum a_120.1)).bind fun many_121 => ((M.ok (decide ((0 : Int) < many_121))).bind fun b => if b then ((M.ok (x_91, many_121)).bind fun x_136 => (appM s_90 x_136).bind fun lot_130 => (M.ok (.nx lot_130))) else (M.ok (.nx s_90))))
@[irreducible] def m_law_lot (a0_pairs : (List (Int × Int))) : M (List (Int × Int)) :=
  ((M.ok (sortI (List.map (·.1) (⟨dmerge [] a0_pairs⟩ : (Dc Int)).kvs))).bind fun sizes_75 => ((M.ok ([] : (List (Int × Int)))).bind fun lot_81 => ((M.ok sizes_75).bind fun xs_145 => forM (m_law_lot_b1 a0_pairs) (fun s_140 => (M.ok s_140)) xs_145 lot_81)))
/-! ### _law_size -/
@[irreducible] def m_law_size (a0_cell : Int) : M Int :=
  ((M.ok (a0_cell / (4 : Int))).bind fun rest_158 => ((M.ok (decide ((a0_cell % (4 : Int)) = (0 : Int)))).bind fun b => if b then (M.ok ((1 : Int) + (rest_158 % (1000000000000000000000000000000000000000000000000000000000000 : Int)))) else ((M.ok (decide ((a0_cell % (4 : Int)) = (1 : Int)))).bind fun b => if b then (M.ok ((1000000000000000000000000000000000000000000000000000000000000 : Int) - (rest_158 % (9 : Int)))) else (M.ok ((1 : Int) + (rest_158 % (40 : Int)))))))
/-! ### _law_many -/
@[irreducible] def m_law_many (a0_cell : Int) : M Int :=
  ((M.ok (a0_cell / (4 : Int))).bind fun rest_182 => ((M.ok (decide ((a0_cell % (4 : Int)) = (0 : Int)))).bind fun b => if b then (M.ok (rest_182 % ((1000000000000000000000000000000000000000000000000000000000000 : Int) + (1 : Int)))) else ((M.ok (decide ((a0_cell % (4 : Int)) = (1 : Int)))).bind fun b => if b then (M.ok ((1000000000000000000000000000000000000000000000000000000000000 : Int) - (rest_182 % (3 : Int)))) else (M.ok (rest_182 % (9 : Int))))))
/-! ### _law_pairs -/
@[irreducible] def m_law_pairs_b1  (x_264 : Int) (s_263 : (List (Int × Int))) : M (Ctl (List (Int × Int)) (List (Int × Int))) :=
  ((M.ok (decide ((x_264 % (5 : Int)) = (4 : Int)))).bind fun b => if b then ((M.ok (((1 : Int) + ((x_264 / (5 : Int)) % (1000000000000000000000000000000000000000000000000000000000000 : Int))), (((x_264 / (5 : Int)) / (1000000000000000000000000000000000000000000000000000000000000 : Int)) % ((1000000000000000000000000000000000000000000000000000000000000 : Int) + (1 : Int))))).bind fun x_294 => (appM s_263 x_294).bind fun pairs_288 => (M.ok (.nx pairs_288))) else (((m_law_size x_264).ne.bind fun x_295 => (m_law_many (x_264 / (10007 : Int))).ne.bind fun x_296 => .ok (x_295, x_296)).bind fun x_303 => (appM s_263 x_303).bind fun pairs_297 => (M.ok (.nx pairs_297))))
@[irreducible] def m_law_pairs (a0_cells : (List Int)) : M (List (Int × Int)) :=
  ((M.ok ([] : (List (Int × Int)))).bind fun pairs_255 => ((M.ok a0_cells).bind fun xs_312 => forM m_law_pairs_b1 (fun s_307 => (M.ok s_307)) xs_312 pairs_255))
/-! ### _law_cell_at -/
@[irreducible] def m_law_cell_at (a0_script : Scr) (a1_k : Int) : M Int :=
  ((M.ok (decide (a1_k < (a0_script.l.length : Int)))).bind fun b => if b then ((M.ok a0_script).bind fun x_321 => (M.ok a1_k).bind fun y_322 => ixS x_321 y_322) else (M.ok (0 : Int)))
/-! ### _law_two -/
@[irreducible] def m_law_two (a0_script : Scr) : M (List (List (Int × Int))) :=
  (((((((M.ok (none : Option Int)).bind fun lo_416 => ((M.ok (64 : Int)).bind fun x_415 => .ok (some x_415)).bind fun hi_417 => .ok (pickV a0_script.l lo_416 hi_417 (2))).bind fun x_418 => (M.ok ()).bind fun y_419 => .ok (x_418, y_419)).bind fun a_420 => (m_law_pairs a_420.1).ne).bind fun x_421 => (M.ok ()).bind fun y_422 => .ok (x_421, y_422)).bind fun a_423 => (m_law_lot a_423.1).ne).bind fun one_424 => ((((((((M.ok (1 : Int)).bind fun x_430 => .ok (some x_430)).bind fun lo_432 => ((M.ok (64 : Int)).bind fun x_431 => .ok (some x_431)).bind fun hi_433 => .ok (pickV a0_script.l lo_432 hi_433 (2))).bind fun x_434 => (M.ok ()).bind fun y_435 => .ok (x_434, y_435)).bind fun a_436 => (m_law_pairs a_436.1).ne).bind fun x_437 => (M.ok ()).bind fun y_438 => .ok (x_437, y_438)).bind fun a_439 => (m_law_lot a_439.1).ne).bind fun other_440 => (M.bind (((((m_law_cell_at a0_script (0 : Int)).ne.bind fun x_446 => (M.ok (3 : Int)).bind fun y_447 => fdivM x_446 y_447).bind fun x_448 => (M.ok (3 : Int)).bind fun y_449 => modM x_448 y_449).bind fun x_450 => (M.ok (1 : Int)).bind fun y_451 => .ok (decide (x_450 = y_451))).bind fun b => if b then (((((M.ok one_424).bind fun x_496 => (M.ok (cut other_440 none (some (5 : Int)))).bind fun y_497 => catM x_496 y_497).bind fun x_498 => (M.ok ()).bind fun y_499 => .ok (x_498, y_499)).bind fun a_500 => (m_law_lot a_500.1).ne).bind fun other_501 => (M.ok other_501)) else (M.ok other_440)) fun s_455 => (M.bind (((((m_law_cell_at a0_script (0 : Int)).ne.bind fun x_462 => (M.ok (3 : Int)).bind fun y_463 => fdivM x_462 y_463).bind fun x_464 => (M.ok (3 : Int)).bind fun y_465 => modM x_464 y_465).bind fun x_466 => (M.ok (2 : Int)).bind fun y_467 => .ok (decide (x_466 = y_467))).bind fun b => if b then (((M.ok (cut one_424 none (some (-(1 : Int))))).bind fun xs_486 => lcM (fun x_482 : (Int × Int) => (M.ok true)) (fun x_482 : (Int × Int) => (M.ok (x_482.1, (x_482.2 + (1 : Int))))) xs_486).bind fun other_487 => (M.ok other_487)) else (M.ok s_455)) fun s_471 => (M.ok [one_424, s_471])))))
/-! ### _law_left -/
@[irreducible] def m_law_left_b1 (there_590 : (Dc Int)) (less_596 : (Dc Int)) (x_635 : Int) (s_634 : Unit) : M (Ctl Unit (Option (List (Int × Int)))) :=
  ((((M.ok there_590).bind fun d_655 => (M.ok x_635).bind fun k_656 => (M.ok (0 : Int)).bind fun x_657 => .ok ((dlook k_656 d_655.kvs).getD x_657)).bind fun x_660 => ((M.ok (Dz.mk less_596.kvs)).bind fun d_658 => (M.ok x_635).bind fun k_659 => dgetM (Dc.mk d_658.kvs) k_659).bind fun y_661 => .ok (decide (x_660 < y_661))).bind fun b => if b then ((M.ok (none : (Option (List (Int × Int))))).bind fun r_665 => .ok (.rt r_665)) else (M.ok (.nx ())))
@[irreducible] def m_law_left (a0_lot : (List (Int × Int))) (a1_other : (List (Int × Int))) : M (Option (List (Int × Int))) :=
  ((M.ok (⟨dmerge [] a0_lot⟩ : (Dc Int))).bind fun there_590 => ((M.ok (⟨dmerge [] a1_other⟩ : (Dc Int))).bind fun less_596 => (((M.ok (Dz.mk less_596.kvs)).bind fun d => .ok (d.kvs.map (·.1))).bind fun xs_673 => forM (m_law_left_b1 there_590 less_596) (fun s_668 => (((M.ok a0_lot).bind fun xs_625 => lcM (fun x_609 : (Int × Int) => ((M.ok x_609.2).bind fun x_615 => ((M.ok less_596).bind fun d_612 => (M.ok x_609.1).bind fun k_613 => (M.ok (0 : Int)).bind fun x_614 => .ok ((dlook k_613 d_612.kvs).getD x_614)).bind fun y_616 => .ok (decide (y_616 < x_615)))) (fun x_609 : (Int × Int) => ((M.ok x_609.1).bind fun x_622 => ((M.ok x_609.2).bind fun x_620 => ((M.ok less_596).bind fun d_617 => (M.ok x_609.1).bind fun k_618 => (M.ok (0 : Int)).bind fun x_619 => .ok ((dlook k_618 d_617.kvs).getD x_619)).bind fun y_621 => .ok (x_620 - y_621)).bind fun x_623 => .ok (x_622, x_623))) xs_625).bind fun x_626 => .ok (some x_626))) xs_673 ())))
/-! ### rising -/
@[irreducible] def m_rising (a0_counted : (Dc Int)) : M (List (Int × Int)) :=
  ((M.ok (sortI (List.map (·.1) a0_counted.kvs))).bind fun xs_701 => lcM (fun x_689 : Int => (((M.ok a0_counted).bind fun d_692 => (M.ok x_689).bind fun k_693 => dgetM d_692 k_693).bind fun x_694 => (M.ok (0 : Int)).bind fun y_695 => .ok (decide (y_695 < x_694)))) (fun x_689 : Int => ((M.ok x_689).bind fun x_698 => ((M.ok a0_counted).bind fun d_696 => (M.ok x_689).bind fun k_697 => dgetM d_696 k_697).bind fun x_699 => .ok (x_698, x_699))) xs_701)
/-! ### taken_out -/
@[irreducible] def m_taken_out_b1  (x_774 : (Int × Int)) (s_773 : (Dc Int)) : M (Ctl (Dc Int) (List (Int × Int))) :=
  ((((M.ok s_773).bind fun d_797 => (M.ok x_774.1).bind fun k_798 => (M.ok (0 : Int)).bind fun x_799 => .ok ((dlook k_798 d_797.kvs).getD x_799)).bind fun x_800 => (M.ok x_774.2).bind fun y_801 => .ok (decide (x_800 < y_801))).bind fun b => if b then (M.er ⟨"NoGrains"⟩) else ((((M.ok s_773).bind fun d_813 => (M.ok x_774.1).bind fun k_814 => dgetM d_813 k_814).bind fun x_815 => (M.ok x_774.2).bind fun y_816 => .ok (x_815 - y_816)).bind fun x_805 => (M.ok x_774.1).bind fun y_806 => (dputM s_773 y_806 x_805).bind fun counted_807 => (M.ok (.nx counted_807))))
@[irreducible] def m_taken_out (a0_lot : (List (Int × Int))) (a1_other : (List (Int × Int))) : M (List (Int × Int)) :=
  ((M.ok (⟨dmerge [] a0_lot⟩ : (Dc Int))).bind fun counted_764 => ((M.ok a1_other).bind fun xs_825 => forM m_taken_out_b1 (fun s_820 => (m_rising s_820).ne) xs_825 counted_764))
/-! ### _law_told -/
@[irreducible] def m_law_told (a0_lot : (List (Int × Int))) (a1_other : (List (Int × Int))) : M (H2 (Option (List (Int × Int))) Wd) :=
  ((M.ok (none : (Option (List (Int × Int))))).bind fun found_909 => ((M.ok (wd (Str.ofString ""))).bind fun word_915 => (catchM (((m_taken_out a0_lot a1_other).bind fun x_944 => .ok (some x_944)).bind fun found_938 => (M.ok found_938)) (fun c => (if c.name = "NoGrains" then ((M.ok (wd (Str.ofString "other"))).bind fun word_951 => (M.bind ((M.ok (true && true)).bind fun b => if b then ((M.ok (wd (Str.ofString "refused"))).bind fun word_985 => (M.ok word_985)) else (M.ok word_951)) fun s_960 => ((M.ok (false || false)).bind fun b => if b then ((M.ok (wd (Str.ofString "other"))).bind fun word_970 => (((M.ok found_909).bind fun x_977 => (M.ok word_970).bind fun y_978 => .ok (H2.mk x_977 y_978)).bind fun r_976 => .ok r_976)) else (((M.ok found_909).bind fun x_980 => (M.ok s_960).bind fun y_981 => .ok (H2.mk x_980 y_981)).bind fun r_979 => .ok r_979)))) else M.bad)) (fun s_921 => (((M.ok s_921).bind fun x_935 => (M.ok word_915).bind fun y_936 => .ok (H2.mk x_935 y_936)).bind fun r_934 => .ok r_934)))))
/-! ### _law_whole -/
@[irreducible] def m_law_whole (a0_found : Int) : M Bool :=
  (M.ok (true && (!false)))
/-! ### _law_is_lot -/
@[irreducible] def m_law_is_lot_b1 (a0_found : (List (Int × Int))) (a1_due : (List (Int × Int))) (x_1065 : Int) (s_1064 : Unit) : M (Ctl Unit Bool) :=
  ((orM (notM (((M.ok a0_found).bind fun x_1085 => (M.ok x_1065).bind fun y_1086 => ixM x_1085 y_1086).bind fun _ => .ok true)) (orM (((((M.ok a0_found).bind fun x_1087 => (M.ok x_1065).bind fun y_1088 => ixM x_1087 y_1088).bind fun x_1089 => (M.ok ()).bind fun y_1090 => .ok (x_1089, y_1090)).bind fun a_1091 => .ok (2 : Int)).bind fun x_1092 => (M.ok (2 : Int)).bind fun y_1093 => .ok (!decide (x_1092 = y_1093))) (((M.ok a0_found).bind fun x_1094 => (M.ok x_1065).bind fun y_1095 => ixM x_1094 y_1095).bind fun x_1098 => ((M.ok a1_due).bind fun x_1096 => (M.ok x_1065).bind fun y_1097 => ixM x_1096 y_1097).bind fun y_1099 => .ok (!decide (x_1098 = y_1099))))).bind fun b => if b then ((M.ok false).bind fun r_1103 => .ok (.rt r_1103)) else ((orM (notM (((((M.ok a0_found).bind fun x_1104 => (M.ok x_1065).bind fun y_1105 => ixM x_1104 y_1105).bind fun x_1106 => .ok x_1106.1).bind fun x_1107 => (M.ok ()).bind fun y_1108 => .ok (x_1107, y_1108)).bind fun a_1109 => (m_law_whole a_1109.1).ne)) (notM (((((M.ok a0_found).bind fun x_1110 => (M.ok x_1065).bind fun y_1111 => ixM x_1110 y_1111).bind fun x_1112 => .ok x_1112.2).bind fun x_1113 => (M.ok ()).bind fun y_1114 => .ok (x_1113, y_1114)).bind fun a_1115 => (m_law_whole a_1115.1).ne))).bind fun b => if b then ((M.ok false).bind fun r_1119 => .ok (.rt r_1119)) else (M.ok (.nx ()))))
@[irreducible] def m_law_is_lot (a0_found : (List (Int × Int))) (a1_due : (List (Int × Int))) : M Bool :=
  ((M.ok ((!true) || (!decide ((List.length a0_found : Int) = (List.length a1_due : Int))))).bind fun b => if b then (M.ok false) else (((M.ok (List.length a1_due : Int)).bind rng1M).bind fun xs_1127 => forM (m_law_is_lot_b1 a0_found a1_due) (fun s_1122 => (M.ok true)) xs_1127 ()))
/-! ### _law_right -/
@[irreducible] def m_law_right (a0_lot : (List (Int × Int))) (a1_other : (List (Int × Int))) : M Bool :=
  ((M.ok [a0_lot, a1_other]).bind fun handed_1183 => ((m_law_left a0_lot a1_other).ne.bind fun due_1189 => (((((M.ok handed_1183).bind fun x_1201 => (M.ok (0 : Int)).bind fun y_1202 => ixM x_1201 y_1202).bind fun x_1207 => (((M.ok handed_1183).bind fun x_1203 => (M.ok (1 : Int)).bind fun y_1204 => ixM x_1203 y_1204).bind fun x_1205 => (M.ok ()).bind fun y_1206 => .ok (x_1205, y_1206)).bind fun y_1208 => .ok (x_1207, y_1208)).bind fun a_1209 => (m_law_told a_1209.1 a_1209.2.1).ne).bind fun told_1195 => ((M.ok (!decide (handed_1183 = [a0_lot, a1_other]))).bind fun b => if b then ((M.ok false).bind fun r_1213 => .ok r_1213) else ((M.ok (!Option.isSome due_1189)).bind fun b => if b then ((M.ok (decide (told_1195 = (H2.mk (none : (Option (List (Int × Int)))) (wd (Str.ofString "refused")))))).bind fun r_1217 => .ok r_1217) else ((orM (M.ok (!decide (told_1195.b = (wd (Str.ofString ""))))) (notM ((((M.ok told_1195.a).bind getM).bind fun x_1220 => (((M.ok due_1189).bind getM).bind fun x_1218 => (M.ok ()).bind fun y_1219 => .ok (x_1218, y_1219)).bind fun y_1221 => .ok (x_1220, y_1221)).bind fun a_1222 => (m_law_is_lot a_1222.1 a_1222.2.1).ne))).bind fun b => if b then ((M.ok false).bind fun r_1226 => .ok r_1226) else (((((M.ok (told_1195, fun z : (H2 (Option (List (Int × Int))) Wd) => z)).bind fun p_1227 => .ok (p_1227.1.a, fun z => p_1227.2 (H2.mk z p_1227.1.b))).bind fun p_1228 => (getM p_1228.1).bind fun y_1229 => .ok (y_1229, fun z => p_1228.2 (some z))).bind fun p_1232 => (M.ok ((3 : Int), (3 : Int))).bind fun x_1231 => (appM p_1232.1 x_1231).bind fun z_1233 => .ok (p_1232.2 z_1233)).bind fun told_1230 => ((M.ok (decide (handed_1183 = [a0_lot, a1_other]))).bind fun r_1237 => .ok r_1237))))))))
/-! ### law -/
@[irreducible] def m_law (a0_script : Scr) : M Bool :=
  ((m_law_two a0_script).ne.bind fun two_1311 => ((((((M.ok two_1311).bind fun x_1317 => (M.ok (0 : Int)).bind fun y_1318 => ixM x_1317 y_1318).bind fun x_1321 => ((M.ok two_1311).bind fun x_1319 => (M.ok (1 : Int)).bind fun y_1320 => ixM x_1319 y_1320).bind fun y_1322 => catM x_1321 y_1322).bind fun x_1323 => (M.ok ()).bind fun y_1324 => .ok (x_1323, y_1324)).bind fun a_1325 => (m_law_lot a_1325.1).ne).bind fun whole_1326 => ((orM (notM ((((M.ok two_1311).bind fun x_1332 => (M.ok (0 : Int)).bind fun y_1333 => ixM x_1332 y_1333).bind fun x_1338 => (((M.ok two_1311).bind fun x_1334 => (M.ok (1 : Int)).bind fun y_1335 => ixM x_1334 y_1335).bind fun x_1336 => (M.ok ()).bind fun y_1337 => .ok (x_1336, y_1337)).bind fun y_1339 => .ok (x_1338, y_1339)).bind fun a_1340 => (m_law_right a_1340.1 a_1340.2.1).ne)) (notM ((((M.ok two_1311).bind fun x_1341 => (M.ok (1 : Int)).bind fun y_1342 => ixM x_1341 y_1342).bind fun x_1347 => (((M.ok two_1311).bind fun x_1343 => (M.ok (0 : Int)).bind fun y_1344 => ixM x_1343 y_1344).bind fun x_1345 => (M.ok ()).bind fun y_1346 => .ok (x_1345, y_1346)).bind fun y_1348 => .ok (x_1347, y_1348)).bind fun a_1349 => (m_law_right a_1349.1 a_1349.2.1).ne))).bind fun b => if b then (M.ok false) else ((orM (notM (((M.ok whole_1326).bind fun x_1357 => (((M.ok two_1311).bind fun x_1353 => (M.ok (0 : Int)).bind fun y_1354 => ixM x_1353 y_1354).bind fun x_1355 => (M.ok ()).bind fun y_1356 => .ok (x_1355, y_1356)).bind fun y_1358 => .ok (x_1357, y_1358)).bind fun a_1359 => (m_law_right a_1359.1 a_1359.2.1).ne)) (orM (notM (((M.ok whole_1326).bind fun x_1364 => (((M.ok two_1311).bind fun x_1360 => (M.ok (1 : Int)).bind fun y_1361 => ixM x_1360 y_1361).bind fun x_1362 => (M.ok ()).bind fun y_1363 => .ok (x_1362, y_1363)).bind fun y_1365 => .ok (x_1364, y_1365)).bind fun a_1366 => (m_law_right a_1366.1 a_1366.2.1).ne)) (notM (m_law_right whole_1326 whole_1326).ne))).bind fun b => if b then (M.ok false) else (andM ((((M.ok two_1311).bind fun x_1370 => (M.ok (0 : Int)).bind fun y_1371 => ixM x_1370 y_1371).bind fun x_1374 => ((M.ok ([] : (List (Int × Int)))).bind fun x_1372 => (M.ok ()).bind fun y_1373 => .ok (x_1372, y_1373)).bind fun y_1375 => .ok (x_1374, y_1375)).bind fun a_1376 => (m_law_right a_1376.1 a_1376.2.1).ne) (((M.ok ([] : (List (Int × Int)))).bind fun x_1381 => (((M.ok two_1311).bind fun x_1377 => (M.ok (1 : Int)).bind fun y_1378 => ixM x_1377 y_1378).bind fun x_1379 => (M.ok ()).bind fun y_1380 => .ok (x_1379, y_1380)).bind fun y_1382 => .ok (x_1381, y_1382)).bind fun a_1383 => (m_law_right a_1383.1 a_1383.2.1).ne))))))
/-! ### the plain law -/
def OKB (B : Int) (p : Int × Int) : Prop := 1 ≤ p.1 ∧ p.1 ≤ (1000000000000000000000000000000000000000000000000000000000000 : Int) ∧ 0 ≤ p.2 ∧ p.2 ≤ B
abbrev OKp : Int × Int → Prop := OKB (1000000000000000000000000000000000000000000000000000000000000 : Int)
/-! #### dicts -/
abbrev keys (d : List (Int × Int)) : List Int := d.map (·.1)
theorem any_mem (d : List (Int × Int)) (k : Int) : (d.any fun p => decide (p.1 = k)) = decide (k ∈ keys d) := by
  induction d with
  | nil => rfl
  | cons p r ih =>
    rw [List.any_cons, ih, Bool.eq_iff_iff, Bool.or_eq_true, decide_eq_true_eq, decide_eq_true_eq, decide_eq_true_eq]
    show _ ↔ k ∈ p.1 :: keys r
    rw [List.mem_cons]
    exact ⟨fun z => z.imp Eq.symm id, fun z => z.imp Eq.symm id⟩
theorem keys_put (d : List (Int × Int)) (k x : Int) : keys (dput d k x) = if k ∈ keys d then keys d else keys d ++ [k] := by
  unfold dput
  rw [any_mem]
  by_cases h : k ∈ keys d
  · rw [if_pos (decide_eq_true h), if_pos h]
    unfold keys
    rw [List.map_map]
    refine List.map_congr_left fun p _ => ?_
    dsimp only [Function.comp]
    split <;> rfl
  · rw [if_neg (by simpa using h), if_neg h]
    simp [keys]
theorem look_none {d : List (Int × Int)} {k : Int} (h : k ∉ keys d) : dlook k d = none := by
  unfold dlook
  rw [List.find?_eq_none.mpr]
  · rfl
  · intro p hp z
    exact h (by rw [← of_decide_eq_true z]; exact List.mem_map_of_mem hp)
theorem look_cons (p : Int × Int) (d : List (Int × Int)) (k : Int) : dlook k (p :: d) = if p.1 = k then some p.2 else dlook k d := by
  unfold dlook
  rw [List.find?_cons]
  by_cases h : p.1 = k
  · rw [decide_eq_true h, if_pos h]; rfl
  · rw [decide_eq_false h, if_neg h]
theorem look_map (d : List (Int × Int)) (k x j : Int) : dlook j (d.map fun p => if p.1 = k then (p.1, x) else p) = if j = k ∧ k ∈ keys d then some x else dlook j d := by
  induction d with
  | nil => simp [dlook]
  | cons p r ih =>
    rw [List.map_cons, look_cons, look_cons, ih]
    by_cases h : p.1 = k
    · rw [if_pos h]
      by_cases hj : j = k
      · subst hj
        simp [h, keys]
      · have : ¬ p.1 = j := fun z => hj (z ▸ h)
        simp [this, hj]
    · rw [if_neg h]
      by_cases hj : j = k
      · subst hj
        have hp : ¬ j = p.1 := fun z => h z.symm
        have e : (j ∈ keys (p :: r)) = (j ∈ keys r) := by simp [keys, hp]
        simp only [if_neg h, e]
      · simp [hj]
theorem look_app (d : List (Int × Int)) (k x j : Int) (h : k ∉ keys d) : dlook j (d ++ [(k, x)]) = if j = k then some x else dlook j d := by
  induction d with
  | nil =>
    rw [List.nil_append, look_cons]
    by_cases c : j = k
    · simp [c]
    · have : ¬ k = j := fun z => c z.symm
      simp [c, this]
  | cons p r ih =>
    have h1 : ¬ k = p.1 := fun z => h (by simp [keys, z])
    have h2 : k ∉ keys r := fun z => h (by simp only [keys, List.map_cons]; exact List.mem_cons_of_mem _ z)
    rw [List.cons_append, look_cons, look_cons, ih h2]
    by_cases c : p.1 = j
    · have : ¬ j = k := fun z => h1 (by rw [c, z])
      simp [c, this]
    · simp [c]
theorem look_put (d : List (Int × Int)) (k x j : Int) : dlook j (dput d k x) = if j = k then some x else dlook j d := by
  unfold dput
  rw [any_mem]
  by_cases h : k ∈ keys d
  · rw [if_pos (decide_eq_true h), look_map]
    simp [h]
  · rw [if_neg (by simpa using h), look_app _ _ _ _ h]
theorem nodup_put {d : List (Int × Int)} (h : (keys d).Nodup) (k x : Int) : (keys (dput d k x)).Nodup := by
  rw [keys_put]
  split
  · exact h
  · rename_i c
    rw [List.nodup_append]
    refine ⟨h, by simp, ?_⟩
    intro a ha b hb z
    rw [List.mem_singleton] at hb
    exact c (hb ▸ z ▸ ha)
/-- what the sizes' marks weigh in all -/
theorem sum_perm {xs ys : List Int} (h : xs.Perm ys) : xs.sum = ys.sum := by
  induction h with
  | nil => rfl
  | cons x _ ih => rw [List.sum_cons, List.sum_cons, ih]
  | swap x y l => rw [List.sum_cons, List.sum_cons, List.sum_cons, List.sum_cons]; omega
  | trans _ _ a b => exact a.trans b
def wsum (a : Int → Int) (d : List (Int × Int)) : Int := (d.map fun p => a p.1 * p.2).sum
theorem wsum_cons (a : Int → Int) (p : Int × Int) (d : List (Int × Int)) : wsum a (p :: d) = a p.1 * p.2 + wsum a d := by
  unfold wsum
  rw [List.map_cons, List.sum_cons]
theorem wsum_app (a : Int → Int) (d e : List (Int × Int)) : wsum a (d ++ e) = wsum a d + wsum a e := by
  unfold wsum
  rw [List.map_append, List.sum_append]
theorem wsum_map (a : Int → Int) (k m : Int) : ∀ (d : List (Int × Int)), (keys d).Nodup → k ∈ keys d → wsum a (d.map fun p => if p.1 = k then (p.1, (dlook k d).getD 0 + m) else p) = wsum a d + a k * m
  | [], _, h => absurd h (by simp [keys])
  | p :: r, hn, h => by
    have hn2 := List.nodup_cons.mp (show (p.1 :: keys r).Nodup from hn)
    rw [List.map_cons, wsum_cons, wsum_cons]
    by_cases c : p.1 = k
    · rw [if_pos c, look_cons, if_pos c]
      have e : (r.map fun q => if q.1 = k then (q.1, (some p.2).getD 0 + m) else q) = r := by
        conv => rhs; rw [← List.map_id r]
        refine List.map_congr_left fun q hq => ?_
        have : ¬ q.1 = k := fun z => hn2.1 (by rw [c, ← z]; exact List.mem_map_of_mem hq)
        rw [if_neg this]
        rfl
      rw [e]
      dsimp only [Option.getD_some]
      rw [Int.mul_add, c]
      omega
    · rw [if_neg c, look_cons, if_neg c]
      have : k ∈ keys r := by
        rcases List.mem_cons.mp (show k ∈ p.1 :: keys r from h) with z | z
        · exact absurd z.symm c
        · exact z
      rw [wsum_map a k m r hn2.2 this]
      omega
theorem wsum_put (a : Int → Int) {d : List (Int × Int)} (hn : (keys d).Nodup) (k m : Int) : wsum a (dput d k ((dlook k d).getD 0 + m)) = wsum a d + a k * m := by
  unfold dput
  rw [any_mem]
  by_cases h : k ∈ keys d
  · rw [if_pos (decide_eq_true h), wsum_map a k m d hn h]
  · rw [if_neg (by simpa using h), wsum_app, wsum_cons, look_none h]
    dsimp only [Option.getD_none]
    rw [Int.zero_add]
    show _ + (_ + 0) = _
    omega
/-- the many of one size -/
def tot (ps : List (Int × Int)) (k : Int) : Int := ((ps.filter fun p => decide (p.1 = k)).map (·.2)).sum
theorem tot_app (ps : List (Int × Int)) (p : Int × Int) (k : Int) : tot (ps ++ [p]) k = tot ps k + if p.1 = k then p.2 else 0 := by
  unfold tot
  rw [List.filter_append, List.map_append, List.sum_append]
  congr 1
  by_cases h : p.1 = k
  · rw [List.filter_cons, if_pos (decide_eq_true h), if_pos h]
    simp
  · rw [List.filter_cons, if_neg (show ¬ decide _ = true from by simpa using h), if_neg h]
    simp
theorem tot_bd (ps : List (Int × Int)) {B : Int} (h : ∀ p ∈ ps, OKB B p) (k : Int) : 0 ≤ tot ps k ∧ tot ps k ≤ ps.length * B := by
  induction ps with
  | nil => exact ⟨Int.le_refl _, by show (0 : Int) ≤ (0 : Int) * B; omega⟩
  | cons p r ih =>
    have i := ih fun q hq => h q (List.mem_cons_of_mem _ hq)
    have hp := h p List.mem_cons_self
    obtain ⟨_, _, p1, p2⟩ := hp
    have e : tot (p :: r) k = (if p.1 = k then p.2 else 0) + tot r k := by
      unfold tot
      by_cases c : p.1 = k
      · rw [List.filter_cons, if_pos (decide_eq_true c), if_pos c]
        simp
      · rw [List.filter_cons, if_neg (show ¬ decide _ = true from by simpa using c), if_neg c]
        simp
    rw [e, List.length_cons, Int.natCast_add, Int.add_mul]
    split <;> constructor <;> omega
structure Cn (ps : List (Int × Int)) (d : List (Int × Int)) : Prop where
  ks : keys d = keys (dmerge [] ps)
  nd : (keys d).Nodup
  lk : ∀ k, dlook k d = if k ∈ keys d then some (tot ps k) else none
  ws : ∀ a, wsum a d = wsum a ps
  ln : d.length ≤ ps.length
theorem merge_app (ps : List (Int × Int)) (p : Int × Int) : dmerge [] (ps ++ [p]) = dput (dmerge [] ps) p.1 p.2 := by
  unfold dmerge
  rw [List.foldl_append]
  rfl
theorem Cn.step {ps d : List (Int × Int)} (h : Cn ps d) (p : Int × Int) : Cn (ps ++ [p]) (dput d p.1 ((dlook p.1 d).getD 0 + p.2)) := by
  have ek : ∀ x, keys (dput d p.1 x) = keys (dmerge [] (ps ++ [p])) := fun x => by
    rw [merge_app, keys_put, keys_put, h.ks]
  refine ⟨ek _, nodup_put h.nd _ _, fun k => ?_, fun a => ?_, ?_⟩
  · rw [look_put, keys_put, h.lk, h.lk, tot_app]
    by_cases c : k = p.1
    · rw [if_pos c, ← c, if_pos rfl]
      by_cases c2 : k ∈ keys d
      · rw [if_pos c2, if_pos c2, if_pos c2]
        rfl
      · rw [if_neg c2, if_neg c2, if_pos (List.mem_append_right _ (List.mem_singleton.mpr rfl))]
        have : tot ps k = 0 := by
          unfold tot
          rw [List.filter_eq_nil_iff.mpr]
          · rfl
          · intro q hq z
            refine c2 ?_
            rw [h.ks, ← of_decide_eq_true z]
            -- every pair's size is a key
            clear z c2 c
            have : ∀ (l : List (Int × Int)) (e : List (Int × Int)), (q ∈ l ∨ q.1 ∈ keys e) → q.1 ∈ keys (l.foldl (fun a p => dput a p.1 p.2) e) := by
              intro l
              induction l with
              | nil => intro e hh; rcases hh with z | z; cases z; exact z
              | cons y r ih =>
                intro e hh
                refine ih _ ?_
                rcases hh with z | z
                · rcases List.mem_cons.mp z with z | z
                  · right
                    rw [keys_put, z]
                    split
                    · assumption
                    · exact List.mem_append_right _ (List.mem_singleton.mpr rfl)
                  · exact .inl z
                · right
                  rw [keys_put]
                  split
                  · exact z
                  · exact List.mem_append_left _ z
            exact this ps [] (.inl hq)
        rw [this]
        rfl
    · have c' : ¬ p.1 = k := fun z => c z.symm
      rw [if_neg c, if_neg c', Int.add_zero]
      by_cases c2 : k ∈ keys d
      · rw [if_pos c2, if_pos]
        split
        · exact c2
        · exact List.mem_append_left _ c2
      · rw [if_neg c2, if_neg]
        split
        · exact c2
        · intro z
          rcases List.mem_append.mp z with z | z
          · exact c2 z
          · exact c (List.mem_singleton.mp z)
  · rw [wsum_put a h.nd, h.ws, wsum_app]
    congr 1
    rw [wsum_cons]
    show _ = _ + 0
    omega
  · have : (dput d p.1 ((dlook p.1 d).getD 0 + p.2)).length ≤ d.length + 1 := by
      unfold dput
      split <;> simp
    have := h.ln
    simp
    omega
theorem Cn.nil : Cn [] [] := ⟨rfl, by simp [keys], fun k => by simp [dlook, keys], fun _ => rfl, Nat.le_refl _⟩
theorem mem_keys_some {ps d : List (Int × Int)} (h : Cn ps d) {k : Int} (hk : k ∈ keys d) : dlook k d = some (tot ps k) := by rw [h.lk, if_pos hk]
/-- the lot that is due -/
def lotP (ps : List (Int × Int)) : List (Int × Int) := ((sortI (keys (dmerge [] ps))).filter fun k => decide (0 < tot ps k)).map fun k => (k, tot ps k)
theorem sum_pos (ps : List (Int × Int)) : ∀ (ks : List Int) (a : Int → Int), (∀ k ∈ ks, 0 ≤ tot ps k) → wsum a ((ks.filter fun k => decide (0 < tot ps k)).map fun k => (k, tot ps k)) = (ks.map fun k => a k * tot ps k).sum
  | [], _, _ => rfl
  | k :: r, a, h => by
    have i := sum_pos ps r a fun j hj => h j (List.mem_cons_of_mem _ hj)
    rw [List.map_cons, List.sum_cons, ← i]
    by_cases c : 0 < tot ps k
    · rw [List.filter_cons, if_pos (decide_eq_true c), List.map_cons, wsum_cons]
    · rw [List.filter_cons, if_neg (show ¬ decide _ = true from by simpa using c)]
      have : tot ps k = 0 := by have := h k List.mem_cons_self; omega
      rw [this]
      omega
theorem wsum_keys (a : Int → Int) (f : Int → Int) : ∀ (d : List (Int × Int)), (∀ p ∈ d, f p.1 = p.2) → wsum a d = ((keys d).map fun k => a k * f k).sum
  | [], _ => rfl
  | p :: r, h => by
    rw [wsum_cons, wsum_keys a f r fun q hq => h q (List.mem_cons_of_mem _ hq), ← h p List.mem_cons_self]
    rfl
theorem look_mem : ∀ {d : List (Int × Int)}, (keys d).Nodup → ∀ p ∈ d, dlook p.1 d = some p.2
  | [], _, _, h => nomatch h
  | q :: r, hn, p, h => by
    have hn2 := List.nodup_cons.mp (show (q.1 :: keys r).Nodup from hn)
    rw [look_cons]
    rcases List.mem_cons.mp h with z | z
    · subst z; rw [if_pos rfl]
    · have : ¬ q.1 = p.1 := fun e => hn2.1 (by rw [e]; exact List.mem_map_of_mem z)
      rw [if_neg this]
      exact look_mem hn2.2 p z
theorem lot_sum (ps : List (Int × Int)) {B : Int} (h : ∀ p ∈ ps, OKB B p) {d : List (Int × Int)} (hd : Cn ps d) (a : Int → Int) : wsum a (lotP ps) = wsum a ps := by
  unfold lotP
  rw [sum_pos ps _ a fun k _ => (tot_bd ps h k).1, ← hd.ws, ← hd.ks]
  rw [wsum_keys a (tot ps) d fun p hp => by
    have e1 := look_mem hd.nd p hp
    rw [mem_keys_some hd (List.mem_map_of_mem hp)] at e1
    exact Option.some.inj e1]
  exact sum_perm ((sortI_perm (keys d)).map _)
theorem lotP_len (ps : List (Int × Int)) {d : List (Int × Int)} (hd : Cn ps d) : (lotP ps).length ≤ ps.length := by
  unfold lotP
  rw [List.length_map]
  have h1 := List.length_filter_le (fun k => decide (0 < tot ps k)) (sortI (keys (dmerge [] ps)))
  rw [← hd.ks] at h1 ⊢
  rw [(sortI_perm _).length_eq, List.length_map] at h1
  exact Nat.le_trans h1 hd.ln
def small (p : Int × Int) : Prop := p.1.natAbs < 2 ^ 10000 ∧ p.2.natAbs < 2 ^ 10000
theorem mul_sumC (c : Int × Int → Bool) (xs : List (Int × Int)) (hl : xs.length ≤ 1000) (h : ∀ p ∈ xs, small p) :
    lcM (fun x : Int × Int => M.ok (c x)) (fun x : Int × Int => mulM x.1 x.2) xs = .ok ((xs.filter c).map fun p => p.1 * p.2) := by
  rw [lcM_congr (c' := fun x => .ok (c x)) (e' := fun x => .ok (x.1 * x.2)) (fun _ _ => rfl) (fun x hx _ => mulM_ok (h x hx).1 (h x hx).2)]
  exact lcM_ok _ _ (by omega)
theorem mul_sum (xs : List (Int × Int)) (hl : xs.length ≤ 1000) (h : ∀ p ∈ xs, small p) :
    lcM (fun _ : Int × Int => M.ok true) (fun x : Int × Int => mulM x.1 x.2) xs = .ok (xs.map fun p => p.1 * p.2) := by
  have := mul_sumC (fun _ => true) xs hl h
  rw [this, List.filter_eq_self.mpr (fun _ _ => rfl)]
theorem count_w (xs : List (Int × Int)) : (xs.map (·.2)).sum = wsum (fun _ => 1) xs := by
  unfold wsum
  congr 1
  refine List.map_congr_left fun p _ => ?_
  exact (Int.one_mul _).symm
theorem small_of (x : Int) (h1 : 0 ≤ x) (h2 : x ≤ 10 ^ 200) : x.natAbs < 2 ^ 10000 := by
  have hb : (10 : Int) ^ 200 < 2 ^ 10000 := by decide +kernel
  have h3 : ((x.natAbs : Nat) : Int) < ((2 ^ 10000 : Nat) : Int) := by
    rw [Int.natAbs_of_nonneg h1]
    exact Int.lt_of_le_of_lt h2 (by rw [Int.natCast_pow]; exact hb)
  exact Int.ofNat_lt.mp h3
theorem cn_ex (ps : List (Int × Int)) : ∃ d, Cn ps d := by
  have go : ∀ (l pre d : List (Int × Int)), Cn pre d → ∃ d', Cn (pre ++ l) d' := by
    intro l
    induction l with
    | nil => intro pre d h; rw [List.append_nil]; exact ⟨d, h⟩
    | cons x r ih =>
      intro pre d h
      have := ih (pre ++ [x]) _ (h.step x)
      rwa [List.append_assoc] at this
  exact go ps [] [] Cn.nil
theorem mem_merge (k : Int) : ∀ (l e : List (Int × Int)), k ∈ keys (l.foldl (fun a p => dput a p.1 p.2) e) ↔ k ∈ keys e ∨ k ∈ keys l
  | [], e => by simp [keys]
  | y :: r, e => by
    rw [List.foldl_cons, mem_merge k r, keys_put]
    show _ ↔ _ ∨ k ∈ y.1 :: keys r
    rw [List.mem_cons]
    split
    · rename_i hy
      constructor
      · rintro (z | z)
        · exact .inl z
        · exact .inr (.inr z)
      · rintro (z | z | z)
        · exact .inl z
        · exact .inl (z ▸ hy)
        · exact .inr z
    · rw [List.mem_append, List.mem_singleton, or_assoc]
theorem mem_keys (k : Int) (ps : List (Int × Int)) : k ∈ keys (dmerge [] ps) ↔ k ∈ keys ps := by
  have := mem_merge k ps []
  simp only [keys, List.map_nil, List.not_mem_nil, false_or] at this
  exact this
/-- a lot as it should be, within bounds -/
structure GoodL (B : Int) (l : List (Int × Int)) : Prop where
  srt : (keys l).Pairwise (· < ·)
  bd : ∀ p ∈ l, 1 ≤ p.1 ∧ p.1 ≤ (1000000000000000000000000000000000000000000000000000000000000 : Int) ∧ 1 ≤ p.2 ∧ p.2 ≤ B
theorem sort_lt {xs : List Int} (h : xs.Nodup) : (sortI xs).Pairwise (· < ·) := by
  have h1 := sortI_sorted xs
  have h2 : (sortI xs).Nodup := (sortI_perm xs).nodup_iff.mpr h
  have := h1.and h2
  exact this.imp fun ⟨a, b⟩ => by omega
theorem lotP_keys (ps : List (Int × Int)) : keys (lotP ps) = (sortI (keys (dmerge [] ps))).filter fun k => decide (0 < tot ps k) := by
  unfold lotP keys
  rw [List.map_map]
  exact List.map_id _
theorem lotP_good {ps : List (Int × Int)} {B C : Int} (h : ∀ p ∈ ps, OKB B p) (hC : ps.length * B ≤ C) : GoodL C (lotP ps) := by
  obtain ⟨d, hd⟩ := cn_ex ps
  refine ⟨?_, fun p hp => ?_⟩
  · rw [lotP_keys]
    exact (sort_lt (hd.ks ▸ hd.nd)).sublist List.filter_sublist
  · unfold lotP at hp
    obtain ⟨k, hk, rfl⟩ := List.mem_map.mp hp
    obtain ⟨h1, h2⟩ := List.mem_filter.mp hk
    have h3 := (mem_keys k ps).mp ((sortI_perm _).mem_iff.mp h1)
    obtain ⟨q, hq, rfl⟩ := List.mem_map.mp h3
    have := tot_bd ps h q.1
    have h4 : 0 < tot ps q.1 := of_decide_eq_true h2
    exact ⟨(h q hq).1, (h q hq).2.1, by show 1 ≤ tot ps q.1; omega, by show tot ps q.1 ≤ C; omega⟩
theorem GoodL.ok {B : Int} {l : List (Int × Int)} (h : GoodL B l) : ∀ p ∈ l, OKB B p := fun p hp => ⟨(h.bd p hp).1, (h.bd p hp).2.1, by have := (h.bd p hp).2.2.1; omega, (h.bd p hp).2.2.2⟩
theorem GoodL.small {B : Int} {l : List (Int × Int)} (h : GoodL B l) (hB : B ≤ 10 ^ 200) : ∀ p ∈ l, small p := fun p hp => by
  obtain ⟨a, b, c, d⟩ := h.bd p hp
  have e : (1000000000000000000000000000000000000000000000000000000000000 : Int) ≤ 10 ^ 200 := by decide +kernel
  exact ⟨small_of _ (by omega) (Int.le_trans b e), small_of _ (by omega) (Int.le_trans d hB)⟩
theorem GoodL.sub {B : Int} {l m : List (Int × Int)} (h : GoodL B l) (s : m.Sublist l) : GoodL B m := ⟨h.srt.sublist (s.map _), fun p hp => h.bd p (s.subset hp)⟩
theorem GoodL.up {B C : Int} {l : List (Int × Int)} (h : GoodL B l) (hb : B ≤ C) : GoodL C l := ⟨h.srt, fun p hp => by
  obtain ⟨a, b, c, d⟩ := h.bd p hp
  exact ⟨a, b, c, by omega⟩⟩
theorem cut_subl {α : Type} (xs : List α) (lo hi : Option Int) : (cut xs lo hi).Sublist xs := (List.take_sublist _ _).trans (List.drop_sublist _ _)
/-- the weight of what is not over a size -/
def und (l : List (Int × Int)) (s : Int) : Int := ((l.filter fun p => decide (p.1 ≤ s)).map fun p => p.1 * p.2).sum
theorem und_cons (p : Int × Int) (l : List (Int × Int)) (s : Int) : und (p :: l) s = (if p.1 ≤ s then p.1 * p.2 else 0) + und l s := by
  unfold und
  by_cases c : p.1 ≤ s
  · rw [List.filter_cons, if_pos (decide_eq_true c), if_pos c, List.map_cons, List.sum_cons]
  · rw [List.filter_cons, if_neg (show ¬ decide _ = true from by simpa using c), if_neg c, Int.zero_add]
theorem und_w (l : List (Int × Int)) (s : Int) : und l s = wsum (fun k => if k ≤ s then k else 0) l := by
  induction l with
  | nil => rfl
  | cons p r ih =>
    rw [und_cons, wsum_cons, ih]
    congr 1
    show _ = (if p.1 ≤ s then p.1 else 0) * p.2
    split
    · rfl
    · exact (Int.zero_mul _).symm
theorem und_bd {l : List (Int × Int)} {B : Int} (h : GoodL B l) (s : Int) : 0 ≤ und l s ∧ und l s ≤ l.length * ((1000000000000000000000000000000000000000000000000000000000000 : Int) * B) := by
  induction l with
  | nil => exact ⟨Int.le_refl _, by show (0 : Int) ≤ 0 * _; omega⟩
  | cons p r ih =>
    have i := ih (h.sub (List.sublist_cons_self p r))
    obtain ⟨a, b, c, d⟩ := h.bd p List.mem_cons_self
    have h1 : 0 ≤ p.1 * p.2 := Int.mul_nonneg (by omega) (by omega)
    have h2 : p.1 * p.2 ≤ (1000000000000000000000000000000000000000000000000000000000000 : Int) * B := Int.mul_le_mul b d (by omega) (by omega)
    rw [und_cons, List.length_cons, Int.natCast_add, Int.add_mul]
    split <;> constructor <;> omega
theorem und_low {l : List (Int × Int)} {s : Int} (h : ∀ p ∈ l, s < p.1) : und l s = 0 := by
  unfold und
  rw [List.filter_eq_nil_iff.mpr]
  · rfl
  · intro p hp z
    have := h p hp
    have := of_decide_eq_true z
    omega
theorem GoodL.head {B : Int} {p : Int × Int} {r : List (Int × Int)} (h : GoodL B (p :: r)) : ∀ q ∈ r, p.1 < q.1 := fun q hq =>
  (List.pairwise_cons.mp (show (p.1 :: keys r).Pairwise (· < ·) from h.srt)).1 q.1 (List.mem_map_of_mem hq)
/-- lots that weigh alike under each of their sizes are the same -/
theorem und_inj {B : Int} : ∀ {l m : List (Int × Int)}, GoodL B l → GoodL B m → (∀ s, s ∈ keys l ∨ s ∈ keys m → und l s = und m s) → l = m
  | [], [], _, _, _ => rfl
  | [], q :: m, _, hm, h => by
    have e := h q.1 (.inr List.mem_cons_self)
    rw [und_cons, if_pos (Int.le_refl _), und_low hm.head] at e
    obtain ⟨a, b, c, d⟩ := hm.bd q List.mem_cons_self
    have : 0 < q.1 * q.2 := Int.mul_pos (by omega) (by omega)
    have e0 : und [] q.1 = 0 := rfl
    omega
  | p :: l, [], hl, _, h => by
    have e := h p.1 (.inl List.mem_cons_self)
    rw [und_cons, if_pos (Int.le_refl _), und_low hl.head] at e
    obtain ⟨a, b, c, d⟩ := hl.bd p List.mem_cons_self
    have : 0 < p.1 * p.2 := Int.mul_pos (by omega) (by omega)
    have e0 : und [] p.1 = 0 := rfl
    omega
  | p :: l, q :: m, hl, hm, h => by
    have h1 := h p.1 (.inl List.mem_cons_self)
    have h2 := h q.1 (.inr List.mem_cons_self)
    obtain ⟨a, b, c, d⟩ := hl.bd p List.mem_cons_self
    obtain ⟨a', b', c', d'⟩ := hm.bd q List.mem_cons_self
    have pp : 0 < p.1 * p.2 := Int.mul_pos (by omega) (by omega)
    have qq : 0 < q.1 * q.2 := Int.mul_pos (by omega) (by omega)
    have es : p.1 = q.1 := by
      rcases Int.lt_trichotomy p.1 q.1 with z | z | z
      · rw [und_cons, if_pos (Int.le_refl _), und_low hl.head, und_cons, if_neg (by omega), und_low (fun y hy => by have := hm.head y hy; omega)] at h1
        omega
      · exact z
      · rw [und_cons, if_neg (by omega), und_low (fun y hy => by have := hl.head y hy; omega), und_cons, if_pos (Int.le_refl _), und_low hm.head] at h2
        omega
    rw [und_cons, if_pos (Int.le_refl _), und_low hl.head, und_cons, if_pos (by omega), und_low (fun y hy => by have := hm.head y hy; omega), es] at h1
    have em : p.2 = q.2 := Int.eq_of_mul_eq_mul_left (show q.1 ≠ 0 by omega) (by omega)
    have ep : p = q := Prod.ext es em
    subst ep
    congr 1
    refine und_inj (hl.sub (List.sublist_cons_self p l)) (hm.sub (List.sublist_cons_self p m)) fun s hs => ?_
    have := h s (hs.imp (List.mem_cons_of_mem _) (List.mem_cons_of_mem _))
    rw [und_cons, und_cons] at this
    omega
/-! #### the first of a sorted list -/
theorem find_sorted (p : Int → Bool) (x : Int) : ∀ {A : List Int}, A.Pairwise (· ≤ ·) → A.find? p = some x → x ∈ A ∧ p x = true ∧ ∀ y ∈ A, p y = true → x ≤ y
  | [], _, h => nomatch h
  | a :: r, hA, h => by
    obtain ⟨h1, h2⟩ := List.pairwise_cons.mp hA
    rw [List.find?_cons] at h
    split at h
    · rename_i c
      cases h
      exact ⟨List.mem_cons_self, c, fun y hy _ => by
        rcases List.mem_cons.mp hy with z | z
        · omega
        · exact h1 y z⟩
    · rename_i c
      obtain ⟨a1, a2, a3⟩ := find_sorted p x h2 h
      exact ⟨List.mem_cons_of_mem _ a1, a2, fun y hy py => by
        rcases List.mem_cons.mp hy with z | z
        · rw [z, c] at py; cases py
        · exact a3 y z py⟩
theorem find_same {p q : Int → Bool} {A B : List Int} (hA : A.Pairwise (· ≤ ·)) (hB : B.Pairwise (· ≤ ·)) (hm : ∀ y, y ∈ A ↔ y ∈ B) (hp : ∀ y, p y = q y) : A.find? p = B.find? q := by
  have : p = q := funext hp
  subst this
  cases ea : A.find? p with
  | none =>
    symm
    rw [List.find?_eq_none] at ea ⊢
    exact fun y hy => ea y ((hm y).mpr hy)
  | some x =>
    obtain ⟨a1, a2, a3⟩ := find_sorted p x hA ea
    cases eb : B.find? p with
    | none =>
      rw [List.find?_eq_none] at eb
      exact absurd a2 (eb x ((hm x).mp a1))
    | some y =>
      obtain ⟨b1, b2, b3⟩ := find_sorted p y hB eb
      have h1 := a3 y ((hm y).mpr b1) b2
      have h2 := b3 x ((hm x).mp a1) a2
      congr 1
      omega
theorem forM_find {f : Int → Unit → M (Ctl Unit (Option Int))} {p : Int → Bool} : ∀ {xs : List Int}, (∀ x ∈ xs, f x () = .ok (if p x = true then .rt (some x) else .nx ())) → forM f (fun _ => .ok none) xs () = .ok (xs.find? p)
  | [], _ => rfl
  | x :: r, h => by
    rw [forM_cons, h x List.mem_cons_self, List.find?_cons]
    cases p x with
    | true => rfl
    | false => exact forM_find fun y hy => h y (List.mem_cons_of_mem _ hy)
theorem pick_len {α : Type} (xs : List α) (lo hi : Option Int) (st : Int) : (pickV xs lo hi st).length ≤ xs.length := by
  have p : Paired (fun (_ : Value) (_ : α) => True) (xs.map fun _ => Value.none) xs := paired_map (fun _ => trivial) xs
  have h1 := Paired.length (paired_pick p lo hi st)
  have h2 := slicePick_size_le (xs.map fun _ => Value.none).toArray lo hi (some st)
  have e1 : slicePick (xs.map fun _ => Value.none).toArray lo hi (some st) = (pickV (xs.map fun _ => Value.none) lo hi st).toArray := by
    unfold slicePick pickV
    simp
  rw [e1, List.size_toArray, List.size_toArray, List.length_map] at h2
  omega
theorem size_ok (c : Int) : ∃ v, m_law_size c = .ok v ∧ 1 ≤ v ∧ v ≤ (1000000000000000000000000000000000000000000000000000000000000 : Int) := by
  unfold m_law_size
  simp only [M.ok_bind]
  by_cases h : c % 4 = 0
  · rw [if_pos (decide_eq_true h)]
    exact ⟨_, rfl, by omega, by omega⟩
  · rw [if_neg (by simpa using h)]
    by_cases h2 : c % 4 = 1
    · rw [if_pos (decide_eq_true h2)]
      exact ⟨_, rfl, by omega, by omega⟩
    · rw [if_neg (by simpa using h2)]
      exact ⟨_, rfl, by omega, by omega⟩
theorem many_ok (c : Int) : ∃ v, m_law_many c = .ok v ∧ 0 ≤ v ∧ v ≤ (1000000000000000000000000000000000000000000000000000000000000 : Int) := by
  unfold m_law_many
  simp only [M.ok_bind]
  by_cases h : c % 4 = 0
  · rw [if_pos (decide_eq_true h)]
    exact ⟨_, rfl, by omega, by omega⟩
  · rw [if_neg (by simpa using h)]
    by_cases h2 : c % 4 = 1
    · rw [if_pos (decide_eq_true h2)]
      exact ⟨_, rfl, by omega, by omega⟩
    · rw [if_neg (by simpa using h2)]
      exact ⟨_, rfl, by omega, by omega⟩
theorem pairs_ok (cs : List Int) (h : cs.length ≤ 63) : ∃ ps, m_law_pairs cs = .ok ps ∧ ps.length = cs.length ∧ ∀ p ∈ ps, OKp p := by
  unfold m_law_pairs
  simp only [M.ok_bind]
  obtain ⟨s', ⟨h1, h2⟩, e⟩ := forM_ex (f := m_law_pairs_b1) (k := fun s => M.ok s) (fun pre (s : List (Int × Int)) => s.length = pre.length ∧ ∀ p ∈ s, OKp p) cs [] [] ⟨rfl, fun _ z => nomatch z⟩ (by
    intro p x s hp ⟨i1, i2⟩
    have hl := pre_len hp
    simp only [List.nil_append] at hl
    unfold m_law_pairs_b1
    simp only [M.ok_bind]
    have fin : ∀ q : Int × Int, OKp q → ∃ s', (appM s q).bind (fun pairs => M.ok (Ctl.nx (τ := List (Int × Int)) pairs)) = .ok (.nx s') ∧ s'.length = (p ++ [x]).length ∧ ∀ p ∈ s', OKp p := fun q hq => by
      rw [appM_ok (by omega)]
      refine ⟨_, rfl, by simp [i1], fun y hy => ?_⟩
      rcases List.mem_append.mp hy with z | z
      · exact i2 y z
      · rw [List.mem_singleton.mp z]; exact hq
    by_cases c : x % 5 = 4
    · rw [if_pos (decide_eq_true c)]
      refine fin _ ⟨?_, ?_, ?_, ?_⟩ <;> dsimp only <;> omega
    · rw [if_neg (by simpa using c)]
      obtain ⟨v, e1, a1, a2⟩ := size_ok x
      obtain ⟨u, e2, b1, b2⟩ := many_ok (x / 10007)
      rw [e1, e2]
      exact fin (v, u) ⟨a1, a2, b1, b2⟩)
  rw [List.nil_append] at h1
  exact ⟨s', e, h1, h2⟩
theorem whole_is (x : Int) : m_law_whole x = .ok true := by
  unfold m_law_whole
  rfl
theorem law_lot_is (ps : List (Int × Int)) (hl : ps.length ≤ 1000) : m_law_lot ps = .ok (lotP ps) := by
  obtain ⟨d, hd⟩ := cn_ex ps
  unfold m_law_lot
  simp only [M.ok_bind]
  have hlen : (sortI (keys (dmerge [] ps))).length ≤ 1000 := by
    rw [(sortI_perm _).length_eq, ← hd.ks, List.length_map]
    have := hd.ln
    omega
  obtain ⟨s', h1, e⟩ := forM_ex (f := m_law_lot_b1 ps) (k := fun s => M.ok s) (fun pre (s : List (Int × Int)) => s = (pre.filter fun k => decide (0 < tot ps k)).map fun k => (k, tot ps k)) (sortI (keys (dmerge [] ps))) [] [] rfl (by
    intro p x s hp i
    have hl2 := pre_len hp
    simp only [List.nil_append] at hl2
    unfold m_law_lot_b1
    simp only [M.ok_bind]
    rw [lcM_ok (fun y : Int × Int => decide (y.1 = x)) (fun y => y.2) (by omega)]
    simp only [M.ok_bind]
    show ∃ s', (if decide (0 < tot ps x) = true then _ else _) = _ ∧ _
    by_cases c : 0 < tot ps x
    · rw [if_pos (decide_eq_true c), appM_ok]
      · refine ⟨_, rfl, ?_⟩
        rw [List.filter_append, List.map_append, i, List.filter_cons, if_pos (decide_eq_true c)]
        rfl
      · rw [i, List.length_map]
        have := List.length_filter_le (fun k => decide (0 < tot ps k)) p
        omega
    · rw [if_neg (by simpa using c)]
      refine ⟨_, rfl, ?_⟩
      rw [List.filter_append, List.filter_cons, if_neg (show ¬ decide _ = true from by simpa using c), i]
      simp)
  rw [List.nil_append] at h1
  subst h1
  exact e
theorem is_lot_same (xs : List (Int × Int)) (h : xs.length ≤ 1000) : m_law_is_lot xs xs = .ok true := by
  unfold m_law_is_lot
  simp only [M.ok_bind]
  rw [if_neg (by simp), rng1M_ok (by omega)]
  simp only [M.ok_bind]
  rw [forM_all]
  intro x hx
  unfold rng at hx
  obtain ⟨i, hi, rfl⟩ := List.mem_map.mp hx
  rw [List.mem_range] at hi
  have hi' : i < xs.length := by omega
  have e := ixM_of (List.getElem?_eq_getElem hi')
  have e0 : (0 : Int) + (i : Int) = i := by omega
  unfold m_law_is_lot_b1
  rw [e0]
  simp only [M.ok_bind, e, Mw.notM, Mw.orM, whole_is, ne_ok]
  simp
theorem rising_is {ps d : List (Int × Int)} (h : Cn ps d) (hl : ps.length ≤ 1000) : m_rising ⟨d⟩ = .ok (lotP ps) := by
  unfold m_rising
  simp only [M.ok_bind]
  have hk : ∀ k ∈ sortI (List.map (·.1) d), dgetM (⟨d⟩ : Dc Int) k = .ok (tot ps k) := fun k hk => by
    have : k ∈ keys d := (sortI_perm _).mem_iff.mp hk
    unfold dgetM
    rw [mem_keys_some h this]
  rw [lcM_congr (c' := fun k => .ok (decide (0 < tot ps k))) (e' := fun k => .ok (k, tot ps k)) (fun k z => by rw [hk k z]; rfl) (fun k z _ => by rw [hk k z]; rfl)]
  rw [lcM_ok]
  · unfold lotP
    rw [← h.ks]
  · rw [(sortI_perm _).length_eq, List.length_map]
    have := h.ln
    omega
theorem cell_at_ok (s : Scr) (k : Nat) : ∃ v, m_law_cell_at s k = .ok v := by
  unfold m_law_cell_at
  simp only [M.ok_bind]
  by_cases h : (k : Int) < (s.l.length : Int)
  · rw [if_pos (decide_eq_true h)]
    have h' : k < s.l.length := by omega
    exact ⟨_, ixM_of (List.getElem?_eq_getElem h')⟩
  · rw [if_neg (by simpa using h)]
    exact ⟨_, rfl⟩
theorem two_ok (ns : List Int) (h : ns.length ≤ 63) : ∃ one other, m_law_two ⟨ns⟩ = .ok [one, other] ∧ GoodL (10 ^ 66) one ∧ GoodL (10 ^ 66) other ∧ one.length ≤ 126 ∧ other.length ≤ 126 := by
  obtain ⟨p1, e1, l1, o1⟩ := pairs_ok (pickV ns none (some 64) 2) (by have := pick_len ns none (some 64) 2; omega)
  obtain ⟨p2, e2, l2, o2⟩ := pairs_ok (pickV ns (some 1) (some 64) 2) (by have := pick_len ns (some 1) (some 64) 2; omega)
  have n1 := pick_len ns none (some 64) 2
  have n2 := pick_len ns (some 1) (some 64) 2
  obtain ⟨c, ec⟩ := cell_at_ok ⟨ns⟩ 0
  have ec' : m_law_cell_at ⟨ns⟩ 0 = .ok c := ec
  have f1 : fdivM c 3 = .ok (c / 3) := fdivM_ok (by omega) (by decide +kernel)
  have f2 : modM (c / 3) 3 = .ok (c / 3 % 3) := modM_ok (by omega)
  obtain ⟨d1, hd1⟩ := cn_ex p1
  obtain ⟨d2, hd2⟩ := cn_ex p2
  have k1 := lotP_len p1 hd1
  have k2 := lotP_len p2 hd2
  have g1 : GoodL (10 ^ 63) (lotP p1) := lotP_good o1 (by omega)
  have g2 : GoodL (10 ^ 63) (lotP p2) := lotP_good o2 (by omega)
  unfold m_law_two
  simp only [M.ok_bind, Mw.bind_assoc, e1, ne_ok, law_lot_is p1 (by omega), e2, law_lot_is p2 (by omega), ec', f1, f2]
  have step : ∃ o, (if decide (c / 3 % 3 = 1) = true then (catM (lotP p1) (cut (lotP p2) none (some 5))).bind fun x => (m_law_lot x).ne.bind fun other => M.ok other else M.ok (lotP p2)) = .ok o ∧ GoodL (10 ^ 66) o ∧ o.length ≤ 126 := by
    by_cases c1 : c / 3 % 3 = 1
    · rw [if_pos (decide_eq_true c1)]
      have q := cut_len (lotP p2) none (some 5)
      rw [catM_ok (by omega)]
      simp only [M.ok_bind]
      have hl : (lotP p1 ++ cut (lotP p2) none (some 5)).length ≤ 126 := by rw [List.length_append]; omega
      rw [law_lot_is _ (by omega)]
      refine ⟨_, rfl, ?_, ?_⟩
      · refine lotP_good (B := 10 ^ 63) (fun p hp => ?_) (by omega)
        rcases List.mem_append.mp hp with z | z
        · exact g1.ok p z
        · exact g2.ok p (cut_sub z)
      · obtain ⟨d3, hd3⟩ := cn_ex (lotP p1 ++ cut (lotP p2) none (some 5))
        have := lotP_len _ hd3
        omega
    · rw [if_neg (by simpa using c1)]
      exact ⟨_, rfl, g2.up (by omega), by omega⟩
  obtain ⟨o, eo, go, lo⟩ := step
  rw [eo]
  simp only [M.ok_bind]
  by_cases c2 : c / 3 % 3 = 2
  · rw [if_pos (decide_eq_true c2)]
    have q := cut_len (lotP p1) none (some (-1))
    rw [lcM_all _ (by omega)]
    refine ⟨_, _, rfl, g1.up (by omega), ⟨?_, fun p hp => ?_⟩, by omega, by rw [List.length_map]; omega⟩
    · unfold keys
      rw [List.map_map]
      exact (g1.sub (cut_subl _ _ _)).srt
    · obtain ⟨r, hr, rfl⟩ := List.mem_map.mp hp
      obtain ⟨a, b, c, d⟩ := g1.bd r (cut_sub hr)
      exact ⟨a, b, by show 1 ≤ r.2 + 1; omega, by show r.2 + 1 ≤ _; omega⟩
  · rw [if_neg (by simpa using c2)]
    exact ⟨_, _, rfl, g1.up (by omega), go, by omega, by omega⟩
theorem dmerge_id (l : List (Int × Int)) (h : (keys l).Nodup) : dmerge [] l = l ∧ Cn l l := by
  have go : ∀ (r pre : List (Int × Int)), (keys (pre ++ r)).Nodup → dmerge [] pre = pre → Cn pre pre → dmerge [] (pre ++ r) = pre ++ r ∧ Cn (pre ++ r) (pre ++ r) := by
    intro r
    induction r with
    | nil => intro pre _ h1 h2; rw [List.append_nil]; exact ⟨h1, h2⟩
    | cons x r ih =>
      intro pre hn h1 h2
      have e : pre ++ x :: r = (pre ++ [x]) ++ r := by simp
      have hx : x.1 ∉ keys pre := fun z => by
        unfold keys at hn
        rw [List.map_append, List.nodup_append] at hn
        exact hn.2.2 x.1 z x.1 (by simp) rfl
      have d1 : ∀ v, dput pre x.1 v = pre ++ [(x.1, v)] := fun v => by
        unfold dput
        rw [any_mem, if_neg (by simpa using hx)]
      rw [e]
      refine ih (pre ++ [x]) (by rw [← e]; exact hn) ?_ ?_
      · rw [merge_app, h1, d1]
      · have := h2.step x
        rw [look_none hx, d1] at this
        have e2 : (none : Option Int).getD 0 + x.2 = x.2 := Int.zero_add _
        rw [e2] at this
        exact this
  exact go l [] h rfl Cn.nil
theorem GoodL.nd {B : Int} {l : List (Int × Int)} (g : GoodL B l) : (keys l).Nodup := g.srt.imp fun z => by omega
theorem tot_zero {ps : List (Int × Int)} {k : Int} (h : k ∉ keys ps) : tot ps k = 0 := by
  unfold tot
  rw [List.filter_eq_nil_iff.mpr]
  · rfl
  · intro q hq z
    exact h (by rw [← of_decide_eq_true z]; exact List.mem_map_of_mem hq)
theorem lotP_id {B : Int} {l : List (Int × Int)} (g : GoodL B l) : lotP l = l := by
  obtain ⟨e1, cn⟩ := dmerge_id l g.nd
  have tt : ∀ p ∈ l, tot l p.1 = p.2 := fun p hp => by
    have h1 := look_mem g.nd p hp
    have h2 := mem_keys_some cn (k := p.1) (List.mem_map_of_mem hp)
    rw [h1] at h2
    exact (Option.some.inj h2).symm
  have sk : sortI (keys l) = keys l := sorted_same (sortI_perm _) (sortI_sorted _) (g.srt.imp fun z => by omega)
  unfold lotP
  rw [e1, sk, List.filter_eq_self.mpr]
  · unfold keys
    rw [List.map_map]
    conv => rhs; rw [← List.map_id l]
    refine List.map_congr_left fun p hp => ?_
    dsimp only [Function.comp]
    rw [tt p hp]
    rfl
  · intro k hk
    obtain ⟨p, hp, rfl⟩ := List.mem_map.mp hk
    rw [tt p hp]
    have := (g.bd p hp).2.2.1
    exact decide_eq_true (by omega)
def cnt (lot pre : List (Int × Int)) : List (Int × Int) := lot.map fun p => (p.1, p.2 - (dlook p.1 pre).getD 0)
def lessL (lot other : List (Int × Int)) : List (Int × Int) := (lot.filter fun p => decide ((dlook p.1 other).getD 0 < p.2)).map fun p => (p.1, p.2 - (dlook p.1 other).getD 0)
theorem cnt_keys (lot pre : List (Int × Int)) : keys (cnt lot pre) = keys lot := by
  unfold cnt keys
  rw [List.map_map]
  rfl
theorem cnt_look {lot : List (Int × Int)} (hn : (keys lot).Nodup) (pre : List (Int × Int)) (k : Int) : dlook k (cnt lot pre) = (dlook k lot).map fun v => v - (dlook k pre).getD 0 := by
  by_cases h : k ∈ keys lot
  · obtain ⟨p, hp, rfl⟩ := List.mem_map.mp h
    rw [look_mem hn p hp]
    have : (p.1, p.2 - (dlook p.1 pre).getD 0) ∈ cnt lot pre := List.mem_map.mpr ⟨p, hp, rfl⟩
    exact look_mem (by rw [cnt_keys]; exact hn) _ this
  · rw [look_none h, look_none (by rw [cnt_keys]; exact h)]
    rfl
theorem cnt_put {lot pre : List (Int × Int)} (hn : (keys lot).Nodup) {x : Int × Int} (hk : x.1 ∉ keys pre) {v : Int} (hv : dlook x.1 lot = some v) : dput (cnt lot pre) x.1 (v - x.2) = cnt lot (pre ++ [x]) := by
  have hm : x.1 ∈ keys lot := by
    by_cases z : x.1 ∈ keys lot
    · exact z
    · rw [look_none z] at hv; cases hv
  unfold dput
  rw [if_pos (by rw [any_mem, cnt_keys]; exact decide_eq_true hm)]
  unfold cnt
  rw [List.map_map]
  refine List.map_congr_left fun p hp => ?_
  dsimp only [Function.comp]
  rw [show pre ++ [x] = pre ++ [(x.1, x.2)] from rfl, look_app _ _ _ _ hk]
  by_cases c : p.1 = x.1
  · rw [if_pos c, if_pos c]
    have := look_mem hn p hp
    rw [c, hv] at this
    cases this
    rfl
  · rw [if_neg c, if_neg c]
theorem tk_go {lot : List (Int × Int)} (hn : (keys lot).Nodup) (hl : lot.length ≤ 1000) {other : List (Int × Int)} (ho : (keys other).Nodup) (h1 : ∀ p ∈ other, 1 ≤ p.2) (k : Dc Int → M (List (Int × Int))) :
    ∀ suf pre : List (Int × Int), other = pre ++ suf → forM m_taken_out_b1 k suf ⟨cnt lot pre⟩ = if (suf.all fun p => decide (p.2 ≤ (dlook p.1 lot).getD 0)) = true then k ⟨cnt lot (pre ++ suf)⟩ else .er ⟨"NoGrains"⟩
  | [], pre, _ => by rw [List.append_nil]; rfl
  | x :: r, pre, e => by
    have hx : x.1 ∉ keys pre := fun z => by
      rw [e] at ho
      unfold keys at ho
      rw [List.map_append, List.nodup_append] at ho
      exact ho.2.2 x.1 z x.1 (by simp) rfl
    have hx1 := h1 x (by rw [e]; simp)
    have e0 : (dlook x.1 (cnt lot pre)).getD 0 = (dlook x.1 lot).getD 0 := by
      rw [cnt_look hn, look_none hx]
      cases dlook x.1 lot <;> simp
    have eb : m_taken_out_b1 x ⟨cnt lot pre⟩ = if x.2 ≤ (dlook x.1 lot).getD 0 then .ok (.nx ⟨cnt lot (pre ++ [x])⟩) else .er ⟨"NoGrains"⟩ := by
      unfold m_taken_out_b1
      simp only [M.ok_bind, Mw.bind_assoc, ne_ok]
      rw [e0]
      by_cases c : x.2 ≤ (dlook x.1 lot).getD 0
      · rw [decide_eq_false (by omega), if_neg (by decide), if_pos c]
        cases hv : dlook x.1 lot with
        | none => rw [hv] at c; simp at c; omega
        | some v =>
          have e1 : dgetM (⟨cnt lot pre⟩ : Dc Int) x.1 = .ok v := by
            have e3 : dlook x.1 (Dc.mk (cnt lot pre)).kvs = some v := by
              show dlook x.1 (cnt lot pre) = some v
              rw [cnt_look hn, hv, look_none hx]
              simp
            unfold dgetM
            rw [e3]
          rw [e1]
          simp only [M.ok_bind]
          have e2 : dputM (⟨cnt lot pre⟩ : Dc Int) x.1 (v - x.2) = .ok ⟨cnt lot (pre ++ [x])⟩ := by
            unfold dputM
            rw [← cnt_put hn hx hv]
            refine chk_pos ?_ _
            show (cnt lot pre).length < _
            unfold cnt
            rw [List.length_map]
            omega
          rw [e2]
          rfl
      · rw [decide_eq_true (by omega), if_pos rfl, if_neg c]
    rw [forM_cons, List.all_cons, eb]
    by_cases c : x.2 ≤ (dlook x.1 lot).getD 0
    · rw [if_pos c, decide_eq_true c, Bool.true_and]
      have := tk_go hn hl ho h1 k r (pre ++ [x]) (by rw [e]; simp)
      rw [List.append_assoc] at this
      exact this
    · rw [if_neg c, decide_eq_false c, Bool.false_and, if_neg (by decide)]
      rfl
theorem lotP_cnt {B : Int} {lot : List (Int × Int)} (g : GoodL B lot) (other : List (Int × Int)) : lotP (cnt lot other) = lessL lot other := by
  have nd : (keys (cnt lot other)).Nodup := by rw [cnt_keys]; exact g.nd
  obtain ⟨e1, cn⟩ := dmerge_id (cnt lot other) nd
  have tt : ∀ p ∈ lot, tot (cnt lot other) p.1 = p.2 - (dlook p.1 other).getD 0 := fun p hp => by
    have h1 := cnt_look g.nd other p.1
    rw [look_mem g.nd p hp] at h1
    have h2 := mem_keys_some cn (k := p.1) (by rw [cnt_keys]; exact List.mem_map_of_mem hp)
    rw [h1] at h2
    exact (Option.some.inj h2).symm
  have sk : sortI (keys lot) = keys lot := sorted_same (sortI_perm _) (sortI_sorted _) (g.srt.imp fun z => by omega)
  unfold lotP lessL
  rw [e1, cnt_keys, sk]
  unfold keys
  rw [List.filter_map, List.map_map]
  have e2 : lot.filter ((fun k => decide (0 < tot (cnt lot other) k)) ∘ fun p => p.1) = lot.filter fun p => decide ((dlook p.1 other).getD 0 < p.2) := by
    apply List.filter_congr
    intro p hp
    dsimp only [Function.comp]
    rw [tt p hp, decide_eq_decide]
    omega
  rw [e2]
  refine List.map_congr_left fun p hp => ?_
  dsimp only [Function.comp]
  rw [tt p (List.mem_filter.mp hp).1]
def fits (lot other : List (Int × Int)) : Bool := other.all fun p => decide (p.2 ≤ (dlook p.1 lot).getD 0)
theorem taken_is {B : Int} {lot other : List (Int × Int)} (g : GoodL B lot) (g' : GoodL B other) (hl : lot.length ≤ 500) : m_taken_out lot other = if fits lot other = true then .ok (lessL lot other) else .er ⟨"NoGrains"⟩ := by
  unfold m_taken_out
  simp only [M.ok_bind, Mw.bind_assoc, ne_ok]
  rw [(dmerge_id lot g.nd).1]
  have e0 : lot = cnt lot [] := by
    unfold cnt
    conv => lhs; rw [← List.map_id lot]
    refine List.map_congr_left fun p _ => ?_
    simp [dlook]
  have := tk_go g.nd (by omega) g'.nd (fun p hp => (g'.bd p hp).2.2.1) (fun s => (m_rising s).ne) other [] rfl
  rw [← e0] at this
  rw [this, List.nil_append]
  unfold fits
  split
  · rw [rising_is (dmerge_id (cnt lot other) (by rw [cnt_keys]; exact g.nd)).2 (by unfold cnt; rw [List.length_map]; omega), lotP_cnt g]
    rfl
  · rfl
theorem left_is {B : Int} {lot other : List (Int × Int)} (g : GoodL B lot) (g' : GoodL B other) (hl : lot.length ≤ 500) : m_law_left lot other = .ok (if fits lot other = true then some (lessL lot other) else none) := by
  unfold m_law_left
  simp only [M.ok_bind, Mw.bind_assoc, ne_ok]
  rw [(dmerge_id lot g.nd).1, (dmerge_id other g'.nd).1]
  have go : ∀ (k : Unit → M (Option (List (Int × Int)))) (suf : List (Int × Int)), (∀ p ∈ suf, p ∈ other) → forM (m_law_left_b1 ⟨lot⟩ ⟨other⟩) k (suf.map fun x => x.1) () = if (suf.all fun p => decide (p.2 ≤ (dlook p.1 lot).getD 0)) = true then k () else .ok none := fun k suf => by
    induction suf with
    | nil => intro _; rfl
    | cons x r ih =>
      intro hm
      rw [List.map_cons, forM_cons, List.all_cons]
      have e1 : dgetM (Dc.mk other) x.1 = .ok x.2 := by
        have e3 : dlook x.1 (Dc.mk other).kvs = some x.2 := look_mem g'.nd x (hm x List.mem_cons_self)
        unfold dgetM
        rw [e3]
      unfold m_law_left_b1
      simp only [M.ok_bind, Mw.bind_assoc, ne_ok]
      rw [e1]
      simp only [M.ok_bind]
      by_cases c : x.2 ≤ (dlook x.1 lot).getD 0
      · rw [decide_eq_false (by omega), if_neg (by decide), decide_eq_true c, Bool.true_and]
        have := ih fun p hp => hm p (List.mem_cons_of_mem _ hp)
        unfold m_law_left_b1 at this
        simp only [M.ok_bind, Mw.bind_assoc, ne_ok] at this
        exact this
      · rw [decide_eq_true (by omega), if_pos rfl, decide_eq_false c, Bool.false_and, if_neg (by decide)]
        rfl
  rw [go _ other (fun _ h => h)]
  unfold fits
  split
  · rw [lcM_ok (fun x : Int × Int => decide ((dlook x.1 other).getD 0 < x.2)) (fun x => (x.1, x.2 - (dlook x.1 other).getD 0)) (by omega)]
    rfl
  · rfl
theorem lessL_len (lot other : List (Int × Int)) : (lessL lot other).length ≤ lot.length := by
  unfold lessL
  rw [List.length_map]
  exact List.length_filter_le _ _
theorem right_is {B : Int} {lot other : List (Int × Int)} (g : GoodL B lot) (g' : GoodL B other) (hl : lot.length ≤ 500) : m_law_right lot other = .ok true := by
  have ll := lessL_len lot other
  have i0 : ixM [lot, other] 0 = .ok lot := ixM_of (i := 0) rfl
  have i1 : ixM [lot, other] 1 = .ok other := ixM_of (i := 1) rfl
  have et : m_law_told lot other = .ok (if fits lot other = true then ⟨some (lessL lot other), wd (Str.ofString "")⟩ else ⟨none, wd (Str.ofString "refused")⟩) := by
    unfold m_law_told
    simp only [M.ok_bind, Mw.bind_assoc, ne_ok]
    rw [taken_is g g' hl]
    split
    · rfl
    · rfl
  unfold m_law_right
  simp only [M.ok_bind, Mw.bind_assoc, ne_ok]
  rw [left_is g g' hl, i0, i1]
  simp only [M.ok_bind, Mw.bind_assoc, ne_ok]
  rw [et]
  simp only [M.ok_bind, Mw.bind_assoc, ne_ok]
  by_cases c : fits lot other = true
  · rw [if_pos c, if_pos c]
    simp only [getM, M.ok_bind, Mw.bind_assoc, ne_ok, decide_true, Bool.not_true, Option.isSome_some, orM_f]
    rw [is_lot_same _ (by omega)]
    simp only [M.ok_bind, ne_ok, notM_ok, Bool.not_true]
    rw [appM_ok (by omega)]
    simp
  · rw [if_neg c, if_neg c]
    simp
theorem law_true (ns : List Int) (h : ns.length ≤ 63) : m_law ⟨ns⟩ = .ok true := by
  obtain ⟨one, other, e1, g1, g2, l1, l2⟩ := two_ok ns h
  have i0 : ixM [one, other] 0 = .ok one := ixM_of (i := 0) rfl
  have i1 : ixM [one, other] 1 = .ok other := ixM_of (i := 1) rfl
  have okB : ∀ p ∈ one ++ other, OKB (10 ^ 66) p := fun p hp => by
    rcases List.mem_append.mp hp with z | z
    · exact g1.ok p z
    · exact g2.ok p z
  have gl : GoodL (10 ^ 70) (lotP (one ++ other)) := lotP_good okB (by rw [List.length_append]; push_cast; omega)
  have h1 : GoodL (10 ^ 70) one := g1.up (by decide +kernel)
  have h2 : GoodL (10 ^ 70) other := g2.up (by decide +kernel)
  have h0 : GoodL (10 ^ 70) [] := ⟨List.Pairwise.nil, fun _ z => nomatch z⟩
  obtain ⟨d, hd⟩ := cn_ex (one ++ other)
  have ll := lotP_len (one ++ other) hd
  rw [List.length_append] at ll
  unfold m_law
  simp only [M.ok_bind, Mw.bind_assoc, ne_ok]
  rw [e1]
  simp only [M.ok_bind, Mw.bind_assoc, ne_ok, i0, i1]
  rw [catM_ok (by omega)]
  simp only [M.ok_bind, Mw.bind_assoc, ne_ok]
  rw [law_lot_is _ (by rw [List.length_append]; omega)]
  simp only [M.ok_bind, Mw.bind_assoc, ne_ok]
  rw [right_is h1 h2 (by omega), right_is h2 h1 (by omega), right_is gl h1 (by omega), right_is gl h2 (by omega), right_is gl gl (by omega), right_is h1 h0 (by omega), right_is h0 h2 (by simp)]
  rfl

def topS (i : Nat) : Stmt := PySem.Challenge.pw_meshworks_k04_taken_out.main.body.getD i (.Pass ⟨0, 0, 0, 0⟩)
section
variable {P : Program} {w : World} {K : PySem.W.Frag} {mg : Str → Option Value} {base : Heap} {ce : Ce}
/-! ### _law_lot -/
abbrev s_law_lot : Stmt := topS 14
abbrev N_law_lot : List Str := ["pairs", "sizes", "lot", "size", "many", "pair"]
theorem sc_law_lot : FnScope N_law_lot ["pairs"] (defScope s_law_lot) := ⟨rfl, rfl, rfl, by decide +kernel, rfl, by decide +kernel, by decide +kernel⟩
abbrev sp_law_lot (K : PySem.W.Frag) (ce : Ce) : Sp := SpF0 ce (RC K (α := (List (Int × Int))) R0) (rn K (α := (Int × Int))) (fun a : ((List (Int × Int)) × Unit) => m_law_lot a.1)
theorem ok_law_lot {f : Addr} {fd : FuncData} (FF : Fun K "_law_lot" "_law_lot" s_law_lot f fd) (z_dict : mg "dict" = none) (z_list : mg "list" = none) (z_sorted : mg "sorted" = none) (z_sum : mg "sum" = none) : FnOk P w K mg base CX0 1 f fd ["pairs"] (sp_law_lot K ce) := by
  refine FF.ok sc_law_lot (fun vs H0 Q E h => ?_) (fun cdv A outer s H0 vs Q E hr h => ?_)
  · obtain ⟨F0, ⟨a0_pairs, _⟩, e0, ⟨v0, _, rfl, r0, rfl⟩, w⟩ := h
    rfl
  · obtain ⟨F0, ⟨a0_pairs, _⟩, e0, ⟨v0, _, rfl, r0, rfl⟩, w⟩ := h
    have w := wp_post w
    have G := Gr.rf e0
    have nd := sc_law_lot.nd
    have hQ : ∀ r F1 H1 v, Gr F0 H0 F1 H1 → (rn K (α := (Int × Int))) F0 H0 F1 H1 v r → Fin (rn K (α := (Int × Int))) F0 H0 Q r → Q v H1 := fun r F1 H1 v g m p => p F1 H1 v g m
    refine ⟨_, (pss_cons (ps_set (i := 1) nd rfl (by first | exact Or.inl rfl | exact Or.inr rfl) (pe_callB (r := rSortedI K) cr_sortedI (by rfl) z_sorted (by decide +kernel) (pa_cons (pe_callTy (call_listD rfl) (by rfl) z_list (by decide +kernel) (pa_cons (pe_callTy (call_dictP rfl) (by rfl) z_dict (by decide +kernel) (pa_cons (pv 0) pa_nil)) pa_nil)) pa_nil)))
      (pss_cons (ps_set (i := 2) nd rfl (by first | exact Or.inl rfl | exact Or.inr rfl) (pe_lst pa_nil))
      (pss_cons (ps_for (by first | exact PassesOwn.never | exact passes_of rfl) rfl (pi_list (pv 1)) (pg_name (i := 3) nd rfl (by first | exact Or.inl rfl | exact Or.inr rfl)) (pss_cons (ps_set (i := 4) nd rfl (by first | exact Or.inl rfl | exact Or.inr rfl) (pe_callB (r := rSum K) (cr_sum rfl) (by rfl) z_sum (by decide +kernel) (pa_cons (pe_lc (own := [("pair", 5)]) (g := (gName 5)) (by rfl) nd (pi_list (pv 0)) (blkOk_by (own := [("pair", 5)]) (N := N_law_lot) (sc := defScope s_law_lot) (by decide +kernel)) (fun _ _ _ _ _ => (pg_name (i := 5) nd rfl (by first | exact Or.inl rfl | exact Or.inr rfl))) (fun _ _ _ _ _ => (pts_one (pt_cmpR op_eq (pe_ix (r := rIxT K) ix_tup (pv 5) pe_int (fun _ _ => rfl)) (pv 3) (nomark _)))) (fun _ _ _ _ _ => (pe_ix (r := rIxT K) ix_tup (pv 5) pe_int (fun _ _ => rfl)))) pa_nil)))
      (pss_one (ps_if (pt_cmpR op_gt (pv 4) pe_int (nomark _)) (pss_one (ps_expr (pe_bm PySem.F.plainAttrs_list PySem.F.slot_list_append PySem.F.type_list_append mt_append (pv 2) (pa_cons (pe_tup (pa_cons (pv 3) (pa_cons (pv 4) pa_nil))) pa_nil)))) pss_nil))))
      (pss_one (ps_ret (pv 2)))))), ?_⟩
    have w := show Wp ce E0 H0 (m_law_lot a0_pairs) _ from w
    unfold m_law_lot at w
    refine q_asg (K := K) G w (Ev.nv (e_cb (e_cons (Ev.nv (e_cb (e_cons (Ev.ov (e_cb (e_cons (em_var rfl r0) ea_nil) a_dictP)) ea_nil) a_listD)) ea_nil) a_sorted)) fun sizes_75 F_76 H_77 v_79 g_78 r_80 w => ?_
    have G := G.tr g_78
    have r0 := Rep.mo (K := K) g_78.ff r0
    refine q_asgN (K := K) G w (e_lst (el_nil (α := (Int × Int))) (by decide)) fun lot_81 F_82 H_83 p_85 g_84 n_86 o_87 w => ?_
    have n0p_85 := ex_back G.hh n_86
    have G := G.tr g_84
    have r0 := Rep.mo (K := K) g_84.ff r0
    have r_80 := Rep.mo (K := K) g_84.ff r_80
    refine q_for (S := (List (Int × Int))) (fun s F' H' σ' => ∃ (z_88 : Option V) (z_89 : Option V), σ' = [some v0, some v_79, some (.ref p_85), z_88, z_89, none] ∧ Gr F0 H0 F' H' ∧ Ex F_82 F' ∧ Own K (T := (List (Int × Int))) F' H' p_85 s) G (ei_list (em_var rfl r_80)) (tg_name (K := K)) w (fun _ _ g_144 => ⟨_, _, rfl, G.tr g_144, g_144.ff, o_87.mo g_144⟩) (fun _ _ _ _ ⟨_, _, _, G, _⟩ => G) ?_ ?_
    · rintro x_91 s_90 F_92 H_93 _ ⟨z_88, z_89, hs_94, G, e_95, o_96⟩ F_97 H_98 σ_99 g_100 ⟨v_108, h_110, r_109⟩ D_105 P_106 hrt_107 hN_101 hC_102 hB_103 hP_104 w
      subst hs_94
      subst h_110
      have r0 := Rep.mo (K := K) e_95 r0
      have r_80 := Rep.mo (K := K) e_95 r_80
      have G := G.tr g_100
      have r0 := Rep.mo (K := K) g_100.ff r0
      have r_80 := Rep.mo (K := K) g_100.ff r_80
      have o_96 := o_96.mo g_100
      have e_95 := Ex.tr e_95 g_100.ff
      have e_111 := Ex.rf F_97
      have hQ : ∀ r F1 H1 v, Gr F0 H0 F1 H1 → (rn K (α := (Int × Int))) F0 H0 F1 H1 v r → P_106 (.rt r) → D_105.rt v H1 := fun r F1 H1 v g m p => by rw [hrt_107]; exact hQ r F1 H1 v g m (hP_104 _ p)
      unfold m_law_lot_b1 at w
      refine q_asg (K := K) G w (em_cb (ea_cons (Ev.nv (em_lc (c := (fun x_113 : (Int × Int) => (M.ok (decide (x_113.1 = x_91))))) (e := (fun x_113 : (Int × Int) => (M.ok x_113.2))) (ei_list (em_var rfl r0)) (tg_name (K := K)) (fun _ _ _ ⟨_, h, _⟩ => by rw [h]; exact wipe1) (fun x_113 _ _ _ g_112 ⟨v_114, h_116, r_115⟩ => by subst h_116; exact (t_of (e2 (e2 (em_var rfl r_115) em_int (o_fst rfl)) (em_var rfl (Rep.mo g_112.ff r_109)) o_eqI))) (fun x_113 _ _ _ g_112 ⟨v_114, h_116, r_115⟩ => by subst h_116; exact (e2 (em_var rfl r_115) em_int (o_snd rfl))))) ea_nil) fun _ => a_sum) fun many_121 F_122 H_123 v_125 g_124 r_126 w => ?_
      have G := G.tr g_124
      have r0 := Rep.mo (K := K) g_124.ff r0
      have r_80 := Rep.mo (K := K) g_124.ff r_80
      have o_96 := o_96.mo g_124
      have r_109 := Rep.mo (K := K) g_124.ff r_109
      have e_95 := Ex.tr e_95 g_124.ff
      have e_111 := Ex.tr e_111 g_124.ff
      refine s_if2 G w (t_of (e2 (em_var rfl r_126) em_int o_gt)) (fun F_127 H_128 g_129 w => ?_) (fun F_127 H_128 g_129 w => ?_)
      · have G := G.tr g_129
        have r0 := Rep.mo (K := K) g_129.ff r0
        have r_80 := Rep.mo (K := K) g_129.ff r_80
        have o_96 := o_96.mo g_129
        have r_109 := Rep.mo (K := K) g_129.ff r_109
        have r_126 := Rep.mo (K := K) g_129.ff r_126
        have e_95 := Ex.tr e_95 g_129.ff
        have e_111 := Ex.tr e_111 g_129.ff
        refine s_app rfl o_96 n0p_85 G w (e_tup2 (em_var rfl r_109) (em_var rfl r_126)) fun lot_130 F_131 H_132 e_133 G o_134 hO_135 w => ?_
        have r0 := Rep.mo (K := K) e_133 r0
        have r_80 := Rep.mo (K := K) e_133 r_80
        have r_109 := Rep.mo (K := K) e_133 r_109
        have r_126 := Rep.mo (K := K) e_133 r_126
        have e_95 := Ex.tr e_95 e_133
        have e_111 := Ex.tr e_111 e_133
        exact hN_101 _ w _ _ _ e_111 ⟨_, _, rfl, G, e_95, o_134⟩
      · have G := G.tr g_129
        have r0 := Rep.mo (K := K) g_129.ff r0
        have r_80 := Rep.mo (K := K) g_129.ff r_80
        have o_96 := o_96.mo g_129
        have r_109 := Rep.mo (K := K) g_129.ff r_109
        have r_126 := Rep.mo (K := K) g_129.ff r_126
        have e_95 := Ex.tr e_95 g_129.ff
        have e_111 := Ex.tr e_111 g_129.ff
        refine s_next ?_
        exact hN_101 _ w _ _ _ e_111 ⟨_, _, rfl, G, e_95, o_96⟩
    · rintro s_140 F_141 H_142 _ e_143 ⟨z_88, z_89, hs_137, G, e_138, o_139⟩ w
      subst hs_137
      have r0 := Rep.mo (K := K) e_138 r0
      have r_80 := Rep.mo (K := K) e_138 r_80
      exact ⟨_, rfl, hQ _ _ _ _ G (rn_own o_139 n0p_85) w⟩
/-! ### _law_size -/
abbrev s_law_size : Stmt := topS 11
abbrev N_law_size : List Str := ["cell", "rest"]
theorem sc_law_size : FnScope N_law_size ["cell"] (defScope s_law_size) := ⟨rfl, rfl, rfl, by decide +kernel, rfl, by decide +kernel, by decide +kernel⟩
abbrev sp_law_size (K : PySem.W.Frag) (ce : Ce) : Sp := SpF0 ce (RC K (α := Int) R0) (rv K (ρ := Int)) (fun a : (Int × Unit) => m_law_size a.1)
theorem ok_law_size {f : Addr} {fd : FuncData} (FF : Fun K "_law_size" "_law_size" s_law_size f fd) : FnOk P w K mg base CX0 1 f fd ["cell"] (sp_law_size K ce) := by
  refine FF.ok sc_law_size (fun vs H0 Q E h => ?_) (fun cdv A outer s H0 vs Q E hr h => ?_)
  · obtain ⟨F0, ⟨a0_cell, _⟩, e0, ⟨v0, _, rfl, r0, rfl⟩, w⟩ := h
    rfl
  · obtain ⟨F0, ⟨a0_cell, _⟩, e0, ⟨v0, _, rfl, r0, rfl⟩, w⟩ := h
    have w := wp_post w
    have G := Gr.rf e0
    have nd := sc_law_size.nd
    have hQ : ∀ r F1 H1 v, Gr F0 H0 F1 H1 → (rv K (ρ := Int)) F0 H0 F1 H1 v r → Fin (rv K (ρ := Int)) F0 H0 Q r → Q v H1 := fun r F1 H1 v g m p => p F1 H1 v g m
    refine ⟨_, (pss_cons (ps_set (i := 1) nd rfl (by first | exact Or.inl rfl | exact Or.inr rfl) (pe_op op_fdiv (pv 0) pe_int))
      (pss_cons (ps_if (pt_cmpR op_eq (pe_op op_mod (pv 0) pe_int) pe_int (nomark _)) (pss_one (ps_ret (pe_op op_add pe_int (pe_op op_mod (pv 1) (pe_op op_pow pe_int pe_int))))) pss_nil)
      (pss_cons (ps_if (pt_cmpR op_eq (pe_op op_mod (pv 0) pe_int) pe_int (nomark _)) (pss_one (ps_ret (pe_op op_sub (pe_op op_pow pe_int pe_int) (pe_op op_mod (pv 1) pe_int)))) pss_nil)
      (pss_one (ps_ret (pe_op op_add pe_int (pe_op op_mod (pv 1) pe_int))))))), ?_⟩
    have w := show Wp ce E0 H0 (m_law_size a0_cell) _ from w
    unfold m_law_size at w
    refine q_asg (K := K) G w (e2 (em_var rfl r0) em_int (o_fdiv ⟨by decide, by decide⟩)) fun rest_158 F_159 H_160 v_162 g_161 r_163 w => ?_
    have G := G.tr g_161
    have r0 := Rep.mo (K := K) g_161.ff r0
    refine q_if2 G w (t_of (e2 (e2 (em_var rfl r0) em_int (o_mod (by decide))) em_int o_eqI)) (fun F_164 H_165 g_166 w => ?_) (fun F_164 H_165 g_166 w => ?_)
    · have G := G.tr g_166
      have r0 := Rep.mo (K := K) g_166.ff r0
      have r_163 := Rep.mo (K := K) g_166.ff r_163
      exact s_ret0 G w (e2 em_int (e2 (em_var rfl r_163) (e_is (e2 em_int em_int (o_pow (by decide))) pow_10_60) (o_mod (by decide))) o_add) fun r F1 H1 v g m p => hQ r F1 H1 v g m p
    · have G := G.tr g_166
      have r0 := Rep.mo (K := K) g_166.ff r0
      have r_163 := Rep.mo (K := K) g_166.ff r_163
      refine s_next ?_
      refine s_nx ?_
      refine q_if2 G w (t_of (e2 (e2 (em_var rfl r0) em_int (o_mod (by decide))) em_int o_eqI)) (fun F_167 H_168 g_169 w => ?_) (fun F_167 H_168 g_169 w => ?_)
      · have G := G.tr g_169
        have r0 := Rep.mo (K := K) g_169.ff r0
        have r_163 := Rep.mo (K := K) g_169.ff r_163
        exact s_ret0 G w (e2 (e_is (e2 em_int em_int (o_pow (by decide))) pow_10_60) (e2 (em_var rfl r_163) em_int (o_mod (by decide))) o_sub) fun r F1 H1 v g m p => hQ r F1 H1 v g m p
      · have G := G.tr g_169
        have r0 := Rep.mo (K := K) g_169.ff r0
        have r_163 := Rep.mo (K := K) g_169.ff r_163
        refine s_next ?_
        refine s_nx ?_
        exact s_ret0 G w (e2 em_int (e2 (em_var rfl r_163) em_int (o_mod (by decide))) o_add) fun r F1 H1 v g m p => hQ r F1 H1 v g m p
/-! ### _law_many -/
abbrev s_law_many : Stmt := topS 12
abbrev N_law_many : List Str := ["cell", "rest"]
theorem sc_law_many : FnScope N_law_many ["cell"] (defScope s_law_many) := ⟨rfl, rfl, rfl, by decide +kernel, rfl, by decide +kernel, by decide +kernel⟩
abbrev sp_law_many (K : PySem.W.Frag) (ce : Ce) : Sp := SpF0 ce (RC K (α := Int) R0) (rv K (ρ := Int)) (fun a : (Int × Unit) => m_law_many a.1)
theorem ok_law_many {f : Addr} {fd : FuncData} (FF : Fun K "_law_many" "_law_many" s_law_many f fd) : FnOk P w K mg base CX0 1 f fd ["cell"] (sp_law_many K ce) := by
  refine FF.ok sc_law_many (fun vs H0 Q E h => ?_) (fun cdv A outer s H0 vs Q E hr h => ?_)
  · obtain ⟨F0, ⟨a0_cell, _⟩, e0, ⟨v0, _, rfl, r0, rfl⟩, w⟩ := h
    rfl
  · obtain ⟨F0, ⟨a0_cell, _⟩, e0, ⟨v0, _, rfl, r0, rfl⟩, w⟩ := h
    have w := wp_post w
    have G := Gr.rf e0
    have nd := sc_law_many.nd
    have hQ : ∀ r F1 H1 v, Gr F0 H0 F1 H1 → (rv K (ρ := Int)) F0 H0 F1 H1 v r → Fin (rv K (ρ := Int)) F0 H0 Q r → Q v H1 := fun r F1 H1 v g m p => p F1 H1 v g m
    refine ⟨_, (pss_cons (ps_set (i := 1) nd rfl (by first | exact Or.inl rfl | exact Or.inr rfl) (pe_op op_fdiv (pv 0) pe_int))
      (pss_cons (ps_if (pt_cmpR op_eq (pe_op op_mod (pv 0) pe_int) pe_int (nomark _)) (pss_one (ps_ret (pe_op op_mod (pv 1) (pe_op op_add (pe_op op_pow pe_int pe_int) pe_int)))) pss_nil)
      (pss_cons (ps_if (pt_cmpR op_eq (pe_op op_mod (pv 0) pe_int) pe_int (nomark _)) (pss_one (ps_ret (pe_op op_sub (pe_op op_pow pe_int pe_int) (pe_op op_mod (pv 1) pe_int)))) pss_nil)
      (pss_one (ps_ret (pe_op op_mod (pv 1) pe_int)))))), ?_⟩
    have w := show Wp ce E0 H0 (m_law_many a0_cell) _ from w
    unfold m_law_many at w
    refine q_asg (K := K) G w (e2 (em_var rfl r0) em_int (o_fdiv ⟨by decide, by decide⟩)) fun rest_182 F_183 H_184 v_186 g_185 r_187 w => ?_
    have G := G.tr g_185
    have r0 := Rep.mo (K := K) g_185.ff r0
    refine q_if2 G w (t_of (e2 (e2 (em_var rfl r0) em_int (o_mod (by decide))) em_int o_eqI)) (fun F_188 H_189 g_190 w => ?_) (fun F_188 H_189 g_190 w => ?_)
    · have G := G.tr g_190
      have r0 := Rep.mo (K := K) g_190.ff r0
      have r_187 := Rep.mo (K := K) g_190.ff r_187
      exact s_ret0 G w (e2 (em_var rfl r_187) (e2 (e_is (e2 em_int em_int (o_pow (by decide))) pow_10_60) em_int o_add) (o_mod (by decide))) fun r F1 H1 v g m p => hQ r F1 H1 v g m p
    · have G := G.tr g_190
      have r0 := Rep.mo (K := K) g_190.ff r0
      have r_187 := Rep.mo (K := K) g_190.ff r_187
      refine s_next ?_
      refine s_nx ?_
      refine q_if2 G w (t_of (e2 (e2 (em_var rfl r0) em_int (o_mod (by decide))) em_int o_eqI)) (fun F_191 H_192 g_193 w => ?_) (fun F_191 H_192 g_193 w => ?_)
      · have G := G.tr g_193
        have r0 := Rep.mo (K := K) g_193.ff r0
        have r_187 := Rep.mo (K := K) g_193.ff r_187
        exact s_ret0 G w (e2 (e_is (e2 em_int em_int (o_pow (by decide))) pow_10_60) (e2 (em_var rfl r_187) em_int (o_mod (by decide))) o_sub) fun r F1 H1 v g m p => hQ r F1 H1 v g m p
      · have G := G.tr g_193
        have r0 := Rep.mo (K := K) g_193.ff r0
        have r_187 := Rep.mo (K := K) g_193.ff r_187
        refine s_next ?_
        refine s_nx ?_
        exact s_ret0 G w (e2 (em_var rfl r_187) em_int (o_mod (by decide))) fun r F1 H1 v g m p => hQ r F1 H1 v g m p
/-! ### _law_pairs -/
abbrev s_law_pairs : Stmt := topS 13
abbrev N_law_pairs : List Str := ["cells", "pairs", "cell"]
theorem sc_law_pairs : FnScope N_law_pairs ["cells"] (defScope s_law_pairs) := ⟨rfl, rfl, rfl, by decide +kernel, rfl, by decide +kernel, by decide +kernel⟩
abbrev sp_law_pairs (K : PySem.W.Frag) (ce : Ce) : Sp := SpF0 ce (RC K (α := (List Int)) R0) (rn K (α := (Int × Int))) (fun a : ((List Int) × Unit) => m_law_pairs a.1)
theorem ok_law_pairs {f : Addr} {fd : FuncData} (FF : Fun K "_law_pairs" "_law_pairs" s_law_pairs f fd) {a__law_many : Addr} {d__law_many : FuncData} (G__law_many : FnOk P w K mg base CX0 1 a__law_many d__law_many ["cell"] (sp_law_many K ce)) (mg__law_many : mg "_law_many" = some (.ref a__law_many)) (k__law_many : PySem.W.keepIn K (.ref a__law_many) = true) (b__law_many : Binds K d__law_many ["cell"] []) {a__law_size : Addr} {d__law_size : FuncData} (G__law_size : FnOk P w K mg base CX0 1 a__law_size d__law_size ["cell"] (sp_law_size K ce)) (mg__law_size : mg "_law_size" = some (.ref a__law_size)) (k__law_size : PySem.W.keepIn K (.ref a__law_size) = true) (b__law_size : Binds K d__law_size ["cell"] []) : FnOk P w K mg base CX0 2 f fd ["cells"] (sp_law_pairs K ce) := by
  refine FF.ok sc_law_pairs (fun vs H0 Q E h => ?_) (fun cdv A outer s H0 vs Q E hr h => ?_)
  · obtain ⟨F0, ⟨a0_cells, _⟩, e0, ⟨v0, _, rfl, r0, rfl⟩, w⟩ := h
    rfl
  · obtain ⟨F0, ⟨a0_cells, _⟩, e0, ⟨v0, _, rfl, r0, rfl⟩, w⟩ := h
    have w := wp_post w
    have G := Gr.rf e0
    have nd := sc_law_pairs.nd
    have hQ : ∀ r F1 H1 v, Gr F0 H0 F1 H1 → (rn K (α := (Int × Int))) F0 H0 F1 H1 v r → Fin (rn K (α := (Int × Int))) F0 H0 Q r → Q v H1 := fun r F1 H1 v g m p => p F1 H1 v g m
    refine ⟨_, (pss_cons (ps_set (i := 1) nd rfl (by first | exact Or.inl rfl | exact Or.inr rfl) (pe_lst pa_nil))
      (pss_cons (ps_for (by first | exact PassesOwn.never | exact passes_of rfl) rfl (pi_list (pv 0)) (pg_name (i := 2) nd rfl (by first | exact Or.inl rfl | exact Or.inr rfl)) (pss_one (ps_if (pt_cmpR op_eq (pe_op op_mod (pv 2) pe_int) pe_int (nomark _)) (pss_one (ps_expr (pe_bm PySem.F.plainAttrs_list PySem.F.slot_list_append PySem.F.type_list_append mt_append (pv 1) (pa_cons (pe_tup (pa_cons (pe_op op_add pe_int (pe_op op_mod (pe_op op_fdiv (pv 2) pe_int) (pe_op op_pow pe_int pe_int))) (pa_cons (pe_op op_mod (pe_op op_fdivW (pe_op op_fdiv (pv 2) pe_int) (pe_op op_pow pe_int pe_int)) (pe_op op_add (pe_op op_pow pe_int pe_int) pe_int)) pa_nil))) pa_nil)))) (pss_one (ps_expr (pe_bm PySem.F.plainAttrs_list PySem.F.slot_list_append PySem.F.type_list_append mt_append (pv 1) (pa_cons (pe_tup (pa_cons (pe_call G__law_size (hr.mono (by decide)) rfl mg__law_size k__law_size b__law_size .nil pass0 (pa_cons (pv 2) pa_nil)) (pa_cons (pe_call G__law_many (hr.mono (by decide)) rfl mg__law_many k__law_many b__law_many .nil pass0 (pa_cons (pe_op op_fdiv (pv 2) pe_int) pa_nil)) pa_nil))) pa_nil)))))))
      (pss_one (ps_ret (pv 1))))), ?_⟩
    have w := show Wp ce E0 H0 (m_law_pairs a0_cells) _ from w
    unfold m_law_pairs at w
    refine q_asgN (K := K) G w (e_lst (el_nil (α := (Int × Int))) (by decide)) fun pairs_255 F_256 H_257 p_259 g_258 n_260 o_261 w => ?_
    have n0p_259 := ex_back G.hh n_260
    have G := G.tr g_258
    have r0 := Rep.mo (K := K) g_258.ff r0
    refine q_for (S := (List (Int × Int))) (fun s F' H' σ' => ∃ (z_262 : Option V), σ' = [some v0, some (.ref p_259), z_262] ∧ Gr F0 H0 F' H' ∧ Ex F_256 F' ∧ Own K (T := (List (Int × Int))) F' H' p_259 s) G (ei_list (em_var rfl r0)) (tg_name (K := K)) w (fun _ _ g_311 => ⟨_, rfl, G.tr g_311, g_311.ff, o_261.mo g_311⟩) (fun _ _ _ _ ⟨_, _, G, _⟩ => G) ?_ ?_
    · rintro x_264 s_263 F_265 H_266 _ ⟨z_262, hs_267, G, e_268, o_269⟩ F_270 H_271 σ_272 g_273 ⟨v_281, h_283, r_282⟩ D_278 P_279 hrt_280 hN_274 hC_275 hB_276 hP_277 w
      subst hs_267
      subst h_283
      have r0 := Rep.mo (K := K) e_268 r0
      have G := G.tr g_273
      have r0 := Rep.mo (K := K) g_273.ff r0
      have o_269 := o_269.mo g_273
      have e_268 := Ex.tr e_268 g_273.ff
      have e_284 := Ex.rf F_270
      have hQ : ∀ r F1 H1 v, Gr F0 H0 F1 H1 → (rn K (α := (Int × Int))) F0 H0 F1 H1 v r → P_279 (.rt r) → D_278.rt v H1 := fun r F1 H1 v g m p => by rw [hrt_280]; exact hQ r F1 H1 v g m (hP_277 _ p)
      unfold m_law_pairs_b1 at w
      refine s_if2 G w (t_of (e2 (e2 (em_var rfl r_282) em_int (o_mod (by decide))) em_int o_eqI)) (fun F_285 H_286 g_287 w => ?_) (fun F_285 H_286 g_287 w => ?_)
      · have G := G.tr g_287
        have r0 := Rep.mo (K := K) g_287.ff r0
        have o_269 := o_269.mo g_287
        have r_282 := Rep.mo (K := K) g_287.ff r_282
        have e_268 := Ex.tr e_268 g_287.ff
        have e_284 := Ex.tr e_284 g_287.ff
        refine s_app rfl o_269 n0p_259 G w (e_tup2 (e2 em_int (e2 (e2 (em_var rfl r_282) em_int (o_fdiv ⟨by decide, by decide⟩)) (e_is (e2 em_int em_int (o_pow (by decide))) pow_10_60) (o_mod (by decide))) o_add) (e2 (e2 (e2 (em_var rfl r_282) em_int (o_fdiv ⟨by decide, by decide⟩)) (e_is (e2 em_int em_int (o_pow (by decide))) pow_10_60) (o_fdivW ⟨by decide, by decide +kernel⟩)) (e2 (e_is (e2 em_int em_int (o_pow (by decide))) pow_10_60) em_int o_add) (o_mod (by decide)))) fun pairs_288 F_289 H_290 e_291 G o_292 hO_293 w => ?_
        have r0 := Rep.mo (K := K) e_291 r0
        have r_282 := Rep.mo (K := K) e_291 r_282
        have e_268 := Ex.tr e_268 e_291
        have e_284 := Ex.tr e_284 e_291
        exact hN_274 _ w _ _ _ e_284 ⟨_, rfl, G, e_268, o_292⟩
      · have G := G.tr g_287
        have r0 := Rep.mo (K := K) g_287.ff r0
        have o_269 := o_269.mo g_287
        have r_282 := Rep.mo (K := K) g_287.ff r_282
        have e_268 := Ex.tr e_268 g_287.ff
        have e_284 := Ex.tr e_284 g_287.ff
        refine s_app rfl o_269 n0p_259 G w (em_tup2 (e_call0 (f := (fun a : (Int × Unit) => m_law_size a.1)) (x := (x_264, ())) (e_cons (em_var rfl r_282) ea_nil)) (e_call0 (f := (fun a : (Int × Unit) => m_law_many a.1)) (x := ((x_264 / (10007 : Int)), ())) (e_cons (e2 (em_var rfl r_282) em_int (o_fdiv ⟨by decide, by decide⟩)) ea_nil))) fun pairs_297 F_298 H_299 e_300 G o_301 hO_302 w => ?_
        have r0 := Rep.mo (K := K) e_300 r0
        have r_282 := Rep.mo (K := K) e_300 r_282
        have e_268 := Ex.tr e_268 e_300
        have e_284 := Ex.tr e_284 e_300
        exact hN_274 _ w _ _ _ e_284 ⟨_, rfl, G, e_268, o_301⟩
    · rintro s_307 F_308 H_309 _ e_310 ⟨z_262, hs_304, G, e_305, o_306⟩ w
      subst hs_304
      have r0 := Rep.mo (K := K) e_305 r0
      exact ⟨_, rfl, hQ _ _ _ _ G (rn_own o_306 n0p_259) w⟩
/-! ### _law_cell_at -/
abbrev s_law_cell_at : Stmt := topS 10
abbrev N_law_cell_at : List Str := ["script", "k"]
theorem sc_law_cell_at : FnScope N_law_cell_at ["script", "k"] (defScope s_law_cell_at) := ⟨rfl, rfl, rfl, by decide +kernel, rfl, by decide +kernel, by decide +kernel⟩
abbrev sp_law_cell_at (K : PySem.W.Frag) (ce : Ce) : Sp := SpF0 ce (RC K (α := Scr) (RC K (α := Int) R0)) (rv K (ρ := Int)) (fun a : (Scr × Int × Unit) => m_law_cell_at a.1 a.2.1)
theorem ok_law_cell_at {f : Addr} {fd : FuncData} (FF : Fun K "_law_cell_at" "_law_cell_at" s_law_cell_at f fd) (z_len : mg "len" = none) : FnOk P w K mg base CX0 1 f fd ["script", "k"] (sp_law_cell_at K ce) := by
  refine FF.ok sc_law_cell_at (fun vs H0 Q E h => ?_) (fun cdv A outer s H0 vs Q E hr h => ?_)
  · obtain ⟨F0, ⟨a0_script, a1_k, _⟩, e0, ⟨v0, _, rfl, r0, ⟨v1, _, rfl, r1, rfl⟩⟩, w⟩ := h
    rfl
  · obtain ⟨F0, ⟨a0_script, a1_k, _⟩, e0, ⟨v0, _, rfl, r0, ⟨v1, _, rfl, r1, rfl⟩⟩, w⟩ := h
    have w := wp_post w
    have G := Gr.rf e0
    have nd := sc_law_cell_at.nd
    have hQ : ∀ r F1 H1 v, Gr F0 H0 F1 H1 → (rv K (ρ := Int)) F0 H0 F1 H1 v r → Fin (rv K (ρ := Int)) F0 H0 Q r → Q v H1 := fun r F1 H1 v g m p => p F1 H1 v g m
    refine ⟨_, (pss_cons (ps_if (pt_cmpR op_lt (pv 1) (pe_callB (r := rLenS K) call_len_seq (by rfl) z_len (by decide +kernel) (pa_cons (pv 0) pa_nil)) (nomark _)) (pss_one (ps_ret (pe_ix (r := rIxL K) ix_list (pv 0) (pv 1) (fun _ _ => rfl)))) pss_nil)
      (pss_one (ps_ret pe_int))), ?_⟩
    have w := show Wp ce E0 H0 (m_law_cell_at a0_script a1_k) _ from w
    unfold m_law_cell_at at w
    refine q_if2 G w (t_of (e2 (em_var rfl r1) (e_cb (e_cons (em_var rfl r0) ea_nil) a_lenS) o_lt)) (fun F_318 H_319 g_320 w => ?_) (fun F_318 H_319 g_320 w => ?_)
    · have G := G.tr g_320
      have r0 := Rep.mo (K := K) g_320.ff r0
      have r1 := Rep.mo (K := K) g_320.ff r1
      exact s_ret0 G w (em_op (em_var rfl r0) (em_var rfl r1) fun _ _ => o_ixS) fun r F1 H1 v g m p => hQ r F1 H1 v g m p
    · have G := G.tr g_320
      have r0 := Rep.mo (K := K) g_320.ff r0
      have r1 := Rep.mo (K := K) g_320.ff r1
      refine s_next ?_
      refine s_nx ?_
      exact s_ret0 G w em_int fun r F1 H1 v g m p => hQ r F1 H1 v g m p
/-! ### _law_two -/
abbrev s_law_two : Stmt := topS 16
abbrev N_law_two : List Str := ["script", "one", "other", "pair"]
theorem sc_law_two : FnScope N_law_two ["script"] (defScope s_law_two) := ⟨rfl, rfl, rfl, by decide +kernel, rfl, by decide +kernel, by decide +kernel⟩
abbrev sp_law_two (K : PySem.W.Frag) (ce : Ce) : Sp := SpF0 ce (RC K (α := Scr) R0) (rn K (α := (List (Int × Int)))) (fun a : (Scr × Unit) => m_law_two a.1)
theorem ok_law_two {f : Addr} {fd : FuncData} (FF : Fun K "_law_two" "_law_two" s_law_two f fd) {a__law_cell_at : Addr} {d__law_cell_at : FuncData} (G__law_cell_at : FnOk P w K mg base CX0 1 a__law_cell_at d__law_cell_at ["script", "k"] (sp_law_cell_at K ce)) (mg__law_cell_at : mg "_law_cell_at" = some (.ref a__law_cell_at)) (k__law_cell_at : PySem.W.keepIn K (.ref a__law_cell_at) = true) (b__law_cell_at : Binds K d__law_cell_at ["script", "k"] []) {a__law_lot : Addr} {d__law_lot : FuncData} (G__law_lot : FnOk P w K mg base CX0 1 a__law_lot d__law_lot ["pairs"] (sp_law_lot K ce)) (mg__law_lot : mg "_law_lot" = some (.ref a__law_lot)) (k__law_lot : PySem.W.keepIn K (.ref a__law_lot) = true) (b__law_lot : Binds K d__law_lot ["pairs"] []) {a__law_pairs : Addr} {d__law_pairs : FuncData} (G__law_pairs : FnOk P w K mg base CX0 2 a__law_pairs d__law_pairs ["cells"] (sp_law_pairs K ce)) (mg__law_pairs : mg "_law_pairs" = some (.ref a__law_pairs)) (k__law_pairs : PySem.W.keepIn K (.ref a__law_pairs) = true) (b__law_pairs : Binds K d__law_pairs ["cells"] []) : FnOk P w K mg base CX0 3 f fd ["script"] (sp_law_two K ce) := by
  refine FF.ok sc_law_two (fun vs H0 Q E h => ?_) (fun cdv A outer s H0 vs Q E hr h => ?_)
  · obtain ⟨F0, ⟨a0_script, _⟩, e0, ⟨v0, _, rfl, r0, rfl⟩, w⟩ := h
    rfl
  · obtain ⟨F0, ⟨a0_script, _⟩, e0, ⟨v0, _, rfl, r0, rfl⟩, w⟩ := h
    have w := wp_post w
    have G := Gr.rf e0
    have nd := sc_law_two.nd
    have hQ : ∀ r F1 H1 v, Gr F0 H0 F1 H1 → (rn K (α := (List (Int × Int)))) F0 H0 F1 H1 v r → Fin (rn K (α := (List (Int × Int)))) F0 H0 Q r → Q v H1 := fun r F1 H1 v g m p => p F1 H1 v g m
    refine ⟨_, (pss_cons (ps_set (i := 1) nd rfl (by first | exact Or.inl rfl | exact Or.inr rfl) (pe_call G__law_lot (hr.mono (by decide)) rfl mg__law_lot k__law_lot b__law_lot .nil pass0 (pa_cons (pe_call G__law_pairs (hr.mono (by decide)) rfl mg__law_pairs k__law_pairs b__law_pairs .nil pass0 (pa_cons (pe_sliceS (st := 2) (by decide) (pv 0) po_none (po_some pe_int)) pa_nil)) pa_nil)))
      (pss_cons (ps_set (i := 2) nd rfl (by first | exact Or.inl rfl | exact Or.inr rfl) (pe_call G__law_lot (hr.mono (by decide)) rfl mg__law_lot k__law_lot b__law_lot .nil pass0 (pa_cons (pe_call G__law_pairs (hr.mono (by decide)) rfl mg__law_pairs k__law_pairs b__law_pairs .nil pass0 (pa_cons (pe_sliceS (st := 2) (by decide) (pv 0) (po_some pe_int) (po_some pe_int)) pa_nil)) pa_nil)))
      (pss_cons (ps_if (pt_cmpR op_eq (pe_op op_mod (pe_op op_fdivW (pe_call G__law_cell_at (hr.mono (by decide)) rfl mg__law_cell_at k__law_cell_at b__law_cell_at .nil pass0 (pa_cons (pv 0) (pa_cons pe_int pa_nil))) pe_int) pe_int) pe_int (nomark _)) (pss_one (ps_set (i := 2) nd rfl (by first | exact Or.inl rfl | exact Or.inr rfl) (pe_call G__law_lot (hr.mono (by decide)) rfl mg__law_lot k__law_lot b__law_lot .nil pass0 (pa_cons (pe_op op_cat (pv 1) (pe_slice (r := rSlL K) sl_list (pv 2) po_none (po_some pe_int))) pa_nil)))) pss_nil)
      (pss_cons (ps_if (pt_cmpR op_eq (pe_op op_mod (pe_op op_fdivW (pe_call G__law_cell_at (hr.mono (by decide)) rfl mg__law_cell_at k__law_cell_at b__law_cell_at .nil pass0 (pa_cons (pv 0) (pa_cons pe_int pa_nil))) pe_int) pe_int) pe_int (nomark _)) (pss_one (by first | exact (ps_setLc (i := 2) (own := [("pair", 3)]) (g := (gName 3)) (by rfl) nd rfl rfl (sw_true rfl rfl rfl (by decide +kernel)) (pi_list (pe_slice (r := rSlL K) sl_list (pv 1) po_none (po_some (pe_un un_neg pe_int)))) (blkOk_by (own := [("pair", 3)]) (N := N_law_two) (sc := defScope s_law_two) (by decide +kernel)) (fun _ _ _ _ _ => (pg_name (i := 3) nd rfl (by first | exact Or.inl rfl | exact Or.inr rfl))) (fun _ _ _ _ _ => pts_nil) (fun _ _ _ _ _ => (pe_tup (pa_cons (pe_ix (r := rIxT K) ix_tup (pv 3) pe_int (fun _ _ => rfl)) (pa_cons (pe_op op_add (pe_ix (r := rIxT K) ix_tup (pv 3) pe_int (fun _ _ => rfl)) pe_int) pa_nil))))) | exact (ps_set (i := 2) nd rfl (by first | exact Or.inl rfl | exact Or.inr rfl) (pe_lc (own := [("pair", 3)]) (g := (gName 3)) (by rfl) nd (pi_list (pe_slice (r := rSlL K) sl_list (pv 1) po_none (po_some (pe_un un_neg pe_int)))) (blkOk_by (own := [("pair", 3)]) (N := N_law_two) (sc := defScope s_law_two) (by decide +kernel)) (fun _ _ _ _ _ => (pg_name (i := 3) nd rfl (by first | exact Or.inl rfl | exact Or.inr rfl))) (fun _ _ _ _ _ => pts_nil) (fun _ _ _ _ _ => (pe_tup (pa_cons (pe_ix (r := rIxT K) ix_tup (pv 3) pe_int (fun _ _ => rfl)) (pa_cons (pe_op op_add (pe_ix (r := rIxT K) ix_tup (pv 3) pe_int (fun _ _ => rfl)) pe_int) pa_nil)))))))) pss_nil)
      (pss_one (ps_ret (pe_lst (pa_cons (pv 1) (pa_cons (pv 2) pa_nil))))))))), ?_⟩
    have w := show Wp ce E0 H0 (m_law_two a0_script) _ from w
    unfold m_law_two at w
    refine q_asg (K := K) G w (Ev.nv (em_call0 (f := (fun a : ((List (Int × Int)) × Unit) => m_law_lot a.1)) (ea_cons (Ev.nv (em_call0 (f := (fun a : ((List Int) × Unit) => m_law_pairs a.1)) (ea_cons (Ev.nv (em_pkS (st := 2) (em_var rfl r0) eo_none (eo_some (K := K) em_int))) ea_nil))) ea_nil))) fun one_424 F_425 H_426 v_428 g_427 r_429 w => ?_
    have G := G.tr g_427
    have r0 := Rep.mo (K := K) g_427.ff r0
    refine q_asg (K := K) G w (Ev.nv (em_call0 (f := (fun a : ((List (Int × Int)) × Unit) => m_law_lot a.1)) (ea_cons (Ev.nv (em_call0 (f := (fun a : ((List Int) × Unit) => m_law_pairs a.1)) (ea_cons (Ev.nv (em_pkS (st := 2) (em_var rfl r0) (eo_some (K := K) em_int) (eo_some (K := K) em_int))) ea_nil))) ea_nil))) fun other_440 F_441 H_442 v_444 g_443 r_445 w => ?_
    have G := G.tr g_443
    have r0 := Rep.mo (K := K) g_443.ff r0
    have r_429 := Rep.mo (K := K) g_443.ff r_429
    refine q_join (W := (List (Int × Int))) (fun s F' H' σ' => ∃ (v_456 : V), σ' = [some v0, some v_428, some v_456, none] ∧ Gr F0 H0 F' H' ∧ Ex F_441 F' ∧ rp (α := (List (Int × Int))) K F' v_456 s) w ?_ ?_
    · rintro s_455 F_460 H_461 σs_455 ⟨v_456, hs_457, G, e_458, r_459⟩ w
      subst hs_457
      have r0 := Rep.mo (K := K) e_458 r0
      have r_429 := Rep.mo (K := K) e_458 r_429
      refine q_join (W := (List (Int × Int))) (fun s F' H' σ' => ∃ (v_472 : V), σ' = [some v0, some v_428, some v_472, none] ∧ Gr F0 H0 F' H' ∧ Ex F_460 F' ∧ rp (α := (List (Int × Int))) K F' v_472 s) w ?_ ?_
      · rintro s_471 F_476 H_477 σs_471 ⟨v_472, hs_473, G, e_474, r_475⟩ w
        subst hs_473
        have r0 := Rep.mo (K := K) e_474 r0
        have r_429 := Rep.mo (K := K) e_474 r_429
        exact s_retN0 G w (e_lst (e_lcons (em_var rfl r_429) (e_lcons (em_var rfl r_475) (el_nil (α := (List (Int × Int)))))) (by simp)) fun r F1 H1 v g m p => hQ r F1 H1 v g m p
      · intro P_479 hk_478 w
        refine s_if2 G w (t_of (em_op (em_op (em_op (e_call0 (f := (fun a : (Scr × Int × Unit) => m_law_cell_at a.1 a.2.1)) (x := (a0_script, (0 : Int), ())) (e_cons (em_var rfl r0) (e_cons em_int ea_nil))) em_int fun _ _ => o_fdivM) em_int fun _ _ => o_modM) em_int fun _ _ => o_eqI)) (fun F_468 H_469 g_470 w => ?_) (fun F_468 H_469 g_470 w => ?_)
        · have e_480 : Ex F_460 F_468 := g_470.ff
          have G := G.tr g_470
          have r0 := Rep.mo (K := K) g_470.ff r0
          have r_429 := Rep.mo (K := K) g_470.ff r_429
          have r_459 := Rep.mo (K := K) g_470.ff r_459
          refine s_asg (K := K) G w (Ev.nv (em_lc (c := (fun x_482 : (Int × Int) => (M.ok true))) (e := (fun x_482 : (Int × Int) => (M.ok (x_482.1, (x_482.2 + (1 : Int)))))) (ei_list (Ev.nv (e_sl (em_var rfl r_429) eo_none (eo_some' (K := K) (e_neg em_int))))) (tg_name (K := K)) (fun _ _ _ ⟨_, h, _⟩ => by rw [h]; exact wipe1) (fun x_482 _ _ _ g_481 ⟨v_483, h_485, r_484⟩ => by subst h_485; exact t_yes) (fun x_482 _ _ _ g_481 ⟨v_483, h_485, r_484⟩ => by subst h_485; exact (e_tup2 (e2 (em_var rfl r_484) em_int (o_fst rfl)) (e2 (e2 (em_var rfl r_484) em_int (o_snd rfl)) em_int o_add))))) fun other_487 F_488 H_489 v_491 g_490 r_492 w => ?_
          have G := G.tr g_490
          have r0 := Rep.mo (K := K) g_490.ff r0
          have r_429 := Rep.mo (K := K) g_490.ff r_429
          have e_480 := Ex.tr e_480 g_490.ff
          exact hk_478 _ w _ _ _ ⟨_, rfl, G, e_480, r_492⟩
        · have e_480 : Ex F_460 F_468 := g_470.ff
          have G := G.tr g_470
          have r0 := Rep.mo (K := K) g_470.ff r0
          have r_429 := Rep.mo (K := K) g_470.ff r_429
          have r_459 := Rep.mo (K := K) g_470.ff r_459
          refine s_next ?_
          exact hk_478 _ w _ _ _ ⟨_, rfl, G, e_480, r_459⟩
    · intro P_494 hk_493 w
      refine s_if2 G w (t_of (em_op (em_op (em_op (e_call0 (f := (fun a : (Scr × Int × Unit) => m_law_cell_at a.1 a.2.1)) (x := (a0_script, (0 : Int), ())) (e_cons (em_var rfl r0) (e_cons em_int ea_nil))) em_int fun _ _ => o_fdivM) em_int fun _ _ => o_modM) em_int fun _ _ => o_eqI)) (fun F_452 H_453 g_454 w => ?_) (fun F_452 H_453 g_454 w => ?_)
      · have e_495 : Ex F_441 F_452 := g_454.ff
        have G := G.tr g_454
        have r0 := Rep.mo (K := K) g_454.ff r0
        have r_429 := Rep.mo (K := K) g_454.ff r_429
        have r_445 := Rep.mo (K := K) g_454.ff r_445
        refine s_asg (K := K) G w (Ev.nv (em_call0 (f := (fun a : ((List (Int × Int)) × Unit) => m_law_lot a.1)) (ea_cons (Ev.nv (em_op (em_var rfl r_429) (Ev.nv (e_sl (em_var rfl r_445) eo_none (eo_some' (K := K) em_int))) fun _ _ => o_cat)) ea_nil))) fun other_501 F_502 H_503 v_505 g_504 r_506 w => ?_
        have G := G.tr g_504
        have r0 := Rep.mo (K := K) g_504.ff r0
        have r_429 := Rep.mo (K := K) g_504.ff r_429
        have e_495 := Ex.tr e_495 g_504.ff
        exact hk_493 _ w _ _ _ ⟨_, rfl, G, e_495, r_506⟩
      · have e_495 : Ex F_441 F_452 := g_454.ff
        have G := G.tr g_454
        have r0 := Rep.mo (K := K) g_454.ff r0
        have r_429 := Rep.mo (K := K) g_454.ff r_429
        have r_445 := Rep.mo (K := K) g_454.ff r_445
        refine s_next ?_
        exact hk_493 _ w _ _ _ ⟨_, rfl, G, e_495, r_445⟩
/-! ### _law_left -/
abbrev s_law_left : Stmt := topS 17
abbrev N_law_left : List Str := ["lot", "other", "there", "less", "size", "pair"]
theorem sc_law_left : FnScope N_law_left ["lot", "other"] (defScope s_law_left) := ⟨rfl, rfl, rfl, by decide +kernel, rfl, by decide +kernel, by decide +kernel⟩
abbrev sp_law_left (K : PySem.W.Frag) (ce : Ce) : Sp := SpF0 ce (RC K (α := (List (Int × Int))) (RC K (α := (List (Int × Int))) R0)) (rv K (ρ := (Option (List (Int × Int))))) (fun a : ((List (Int × Int)) × (List (Int × Int)) × Unit) => m_law_left a.1 a.2.1)
theorem ok_law_left {f : Addr} {fd : FuncData} (FF : Fun K "_law_left" "_law_left" s_law_left f fd) (z_dict : mg "dict" = none) : FnOk P w K mg base CX0 1 f fd ["lot", "other"] (sp_law_left K ce) := by
  refine FF.ok sc_law_left (fun vs H0 Q E h => ?_) (fun cdv A outer s H0 vs Q E hr h => ?_)
  · obtain ⟨F0, ⟨a0_lot, a1_other, _⟩, e0, ⟨v0, _, rfl, r0, ⟨v1, _, rfl, r1, rfl⟩⟩, w⟩ := h
    rfl
  · obtain ⟨F0, ⟨a0_lot, a1_other, _⟩, e0, ⟨v0, _, rfl, r0, ⟨v1, _, rfl, r1, rfl⟩⟩, w⟩ := h
    have w := wp_post w
    have G := Gr.rf e0
    have nd := sc_law_left.nd
    have hQ : ∀ r F1 H1 v, Gr F0 H0 F1 H1 → (rv K (ρ := (Option (List (Int × Int))))) F0 H0 F1 H1 v r → Fin (rv K (ρ := (Option (List (Int × Int))))) F0 H0 Q r → Q v H1 := fun r F1 H1 v g m p => p F1 H1 v g m
    refine ⟨_, (pss_cons (ps_set (i := 2) nd rfl (by first | exact Or.inl rfl | exact Or.inr rfl) (pe_callTy (call_dictP rfl) (by rfl) z_dict (by decide +kernel) (pa_cons (pv 0) pa_nil)))
      (pss_cons (ps_set (i := 3) nd rfl (by first | exact Or.inl rfl | exact Or.inr rfl) (pe_callTy (call_dictP rfl) (by rfl) z_dict (by decide +kernel) (pa_cons (pv 1) pa_nil)))
      (pss_cons (ps_lock (ps_for (by first | exact PassesOwn.never | exact passes_of rfl) rfl (pi_keys (pv 3)) (pg_name (i := 4) nd rfl (by first | exact Or.inl rfl | exact Or.inr rfl)) (pss_one (ps_if (pt_cmpR op_lt (pe_dget2 (hu_of hr) (pv 2) (pv 4) pe_int ⟨by rfl, by rfl, by rfl, by rfl⟩) (pe_dget (hu_of hr) (pv 3) (pv 4) (fun _ _ => rfl)) (nomark _)) (pss_one (ps_ret pe_non)) pss_nil))))
      (pss_one (ps_ret (pe_lc (own := [("pair", 5)]) (g := (gName 5)) (by rfl) nd (pi_list (pv 0)) (blkOk_by (own := [("pair", 5)]) (N := N_law_left) (sc := defScope s_law_left) (by decide +kernel)) (fun _ _ _ _ _ => (pg_name (i := 5) nd rfl (by first | exact Or.inl rfl | exact Or.inr rfl))) (fun _ _ _ _ _ => (pts_one (pt_cmpR op_gt (pe_ix (r := rIxT K) ix_tup (pv 5) pe_int (fun _ _ => rfl)) (pe_dget2 (hu_of hr) (pv 3) (pe_ix (r := rIxT K) ix_tup (pv 5) pe_int (fun _ _ => rfl)) pe_int ⟨by rfl, by rfl, by rfl, by rfl⟩) (nomark _)))) (fun _ _ _ _ _ => (pe_tup (pa_cons (pe_ix (r := rIxT K) ix_tup (pv 5) pe_int (fun _ _ => rfl)) (pa_cons (pe_op op_sub (pe_ix (r := rIxT K) ix_tup (pv 5) pe_int (fun _ _ => rfl)) (pe_dget2 (hu_of hr) (pv 3) (pe_ix (r := rIxT K) ix_tup (pv 5) pe_int (fun _ _ => rfl)) pe_int ⟨by rfl, by rfl, by rfl, by rfl⟩)) pa_nil)))))))))), ?_⟩
    have w := show Wp ce E0 H0 (m_law_left a0_lot a1_other) _ from w
    unfold m_law_left at w
    refine q_asg (K := K) G w (Ev.ov (e_cb (e_cons (em_var rfl r0) ea_nil) a_dictP)) fun there_590 F_591 H_592 v_594 g_593 r_595 w => ?_
    have G := G.tr g_593
    have r0 := Rep.mo (K := K) g_593.ff r0
    have r1 := Rep.mo (K := K) g_593.ff r1
    refine q_asgO (K := K) G w (e_cb (e_cons (em_var rfl r1) ea_nil) a_dictP) fun less_596 F_597 H_598 p_600 g_599 n_601 o_602 w => ?_
    have n0p_600 := ex_back G.hh n_601
    have G := G.tr g_599
    have r0 := Rep.mo (K := K) g_599.ff r0
    have r1 := Rep.mo (K := K) g_599.ff r1
    have r_595 := Rep.mo (K := K) g_599.ff r_595
    refine q_lock (Z := (fun σ' => ∃ (z_607 : Option V), σ' = [some v0, some v1, some v_594, some (.ref p_600), z_607, none])) (mk := (((M.ok a0_lot).bind fun xs_625 => lcM (fun x_609 : (Int × Int) => ((M.ok x_609.2).bind fun x_615 => ((M.ok less_596).bind fun d_612 => (M.ok x_609.1).bind fun k_613 => (M.ok (0 : Int)).bind fun x_614 => .ok ((dlook k_613 d_612.kvs).getD x_614)).bind fun y_616 => .ok (decide (y_616 < x_615)))) (fun x_609 : (Int × Int) => ((M.ok x_609.1).bind fun x_622 => ((M.ok x_609.2).bind fun x_620 => ((M.ok less_596).bind fun d_617 => (M.ok x_609.1).bind fun k_618 => (M.ok (0 : Int)).bind fun x_619 => .ok ((dlook k_618 d_617.kvs).getD x_619)).bind fun y_621 => .ok (x_620 - y_621)).bind fun x_623 => .ok (x_622, x_623))) xs_625).bind fun x_626 => .ok (some x_626))) G o_602 n0p_600 w ?_ ?_
    · intro F0 H_627 D_628 e_629 G r_630 hT_631 hN_632 w
      have r0 := Rep.mo (K := K) e_629 r0
      have r1 := Rep.mo (K := K) e_629 r1
      have r_595 := Rep.mo (K := K) e_629 r_595
      have hQ := fun r F1 H1 v g m p => hT_631 (ρ := (Option (List (Int × Int)))) r F1 H1 v g m (fun F3 H3 g3 r3 => hQ r F3 H3 v g3 r3 p)
      refine s_for (S := Unit) (fun s F' H' σ' => ∃ (z_633 : Option V), σ' = [some v0, some v1, some v_594, some (.ref p_600), z_633, none] ∧ Gr F0 H0 F' H' ∧ Ex F0 F') G (ei_keysZ (em_var rfl r_630)) (tg_name (K := K)) w (fun _ _ g_672 => ⟨_, rfl, G.tr g_672, g_672.ff⟩) (fun _ _ _ _ ⟨_, _, G, _⟩ => G) ?_ ?_
      · rintro x_635 s_634 F_636 H_637 _ ⟨z_633, hs_638, G, e_639⟩ F_640 H_641 σ_642 g_643 ⟨v_651, h_653, r_652⟩ D_648 P_649 hrt_650 hN_644 hC_645 hB_646 hP_647 w
        subst hs_638
        subst h_653
        have r0 := Rep.mo (K := K) e_639 r0
        have r1 := Rep.mo (K := K) e_639 r1
        have r_595 := Rep.mo (K := K) e_639 r_595
        have r_630 := Rep.mo (K := K) e_639 r_630
        have G := G.tr g_643
        have r0 := Rep.mo (K := K) g_643.ff r0
        have r1 := Rep.mo (K := K) g_643.ff r1
        have r_595 := Rep.mo (K := K) g_643.ff r_595
        have r_630 := Rep.mo (K := K) g_643.ff r_630
        have e_639 := Ex.tr e_639 g_643.ff
        have e_654 := Ex.rf F_640
        have hQ : ∀ r F1 H1 v, Gr F0 H0 F1 H1 → (rv K (ρ := (Option (List (Int × Int))))) F0 H0 F1 H1 v r → P_649 (.rt r) → D_648.rt v H1 := fun r F1 H1 v g m p => by rw [hrt_650]; exact hQ r F1 H1 v g m (hP_647 _ p)
        unfold m_law_left_b1 at w
        refine s_if2 G w (t_of (em_op (em_dget2 (em_var rfl r_595) (em_var rfl r_652) em_int) (em_dgetZ (em_var rfl r_630) (em_var rfl r_652)) fun _ _ => o_lt)) (fun F_662 H_663 g_664 w => ?_) (fun F_662 H_663 g_664 w => ?_)
        · have G := G.tr g_664
          have r0 := Rep.mo (K := K) g_664.ff r0
          have r1 := Rep.mo (K := K) g_664.ff r1
          have r_595 := Rep.mo (K := K) g_664.ff r_595
          have r_630 := Rep.mo (K := K) g_664.ff r_630
          have r_652 := Rep.mo (K := K) g_664.ff r_652
          have e_639 := Ex.tr e_639 g_664.ff
          have e_654 := Ex.tr e_654 g_664.ff
          exact s_ret G w (em_none (α := (List (Int × Int)))) fun r F1 H1 v g m p => hQ r F1 H1 v g m p
        · have G := G.tr g_664
          have r0 := Rep.mo (K := K) g_664.ff r0
          have r1 := Rep.mo (K := K) g_664.ff r1
          have r_595 := Rep.mo (K := K) g_664.ff r_595
          have r_630 := Rep.mo (K := K) g_664.ff r_630
          have r_652 := Rep.mo (K := K) g_664.ff r_652
          have e_639 := Ex.tr e_639 g_664.ff
          have e_654 := Ex.tr e_654 g_664.ff
          refine s_next ?_
          exact hN_644 _ w _ _ _ e_654 ⟨_, rfl, G, e_639⟩
      · rintro s_668 F_669 H_670 _ e_671 ⟨z_633, hs_666, G, e_667⟩ w
        subst hs_666
        have r0 := Rep.mo (K := K) e_667 r0
        have r1 := Rep.mo (K := K) e_667 r1
        have r_595 := Rep.mo (K := K) e_667 r_595
        have r_630 := Rep.mo (K := K) e_667 r_630
        exact hN_632 _ _ _ G ⟨_, rfl⟩ w
    · rintro F_603 H_604 _ ⟨z_607, rfl⟩ G e_605 o_606 w
      have r0 := Rep.mo (K := K) e_605 r0
      have r1 := Rep.mo (K := K) e_605 r1
      have r_595 := Rep.mo (K := K) e_605 r_595
      have GA := gr_fz (A := [p_600]) G (own1 n0p_600)
      exact s_ret0 GA w (em_some (Ev.nv (em_lc (c := (fun x_609 : (Int × Int) => ((M.ok x_609.2).bind fun x_615 => ((M.ok less_596).bind fun d_612 => (M.ok x_609.1).bind fun k_613 => (M.ok (0 : Int)).bind fun x_614 => .ok ((dlook k_613 d_612.kvs).getD x_614)).bind fun y_616 => .ok (decide (y_616 < x_615))))) (e := (fun x_609 : (Int × Int) => ((M.ok x_609.1).bind fun x_622 => ((M.ok x_609.2).bind fun x_620 => ((M.ok less_596).bind fun d_617 => (M.ok x_609.1).bind fun k_618 => (M.ok (0 : Int)).bind fun x_619 => .ok ((dlook k_618 d_617.kvs).getD x_619)).bind fun y_621 => .ok (x_620 - y_621)).bind fun x_623 => .ok (x_622, x_623)))) (ei_list (em_var rfl (Rep.mo (fz_ex G.fh) r0))) (tg_name (K := K)) (fun _ _ _ ⟨_, h, _⟩ => by rw [h]; exact wipe1) (fun x_609 _ _ _ g_608 ⟨v_610, h_624, r_611⟩ => by subst h_624; exact (t_of (em_op (e2 (em_var rfl r_611) em_int (o_snd rfl)) (em_dget2 (em_var rfl (Rep.mo g_608.ff (o_606.lent G.fh (by simp)))) (e2 (em_var rfl r_611) em_int (o_fst rfl)) em_int) fun _ _ => o_gt))) (fun x_609 _ _ _ g_608 ⟨v_610, h_624, r_611⟩ => by subst h_624; exact (em_tup2 (e2 (em_var rfl r_611) em_int (o_fst rfl)) (em_op (e2 (em_var rfl r_611) em_int (o_snd rfl)) (em_dget2 (em_var rfl (Rep.mo g_608.ff (o_606.lent G.fh (by simp)))) (e2 (em_var rfl r_611) em_int (o_fst rfl)) em_int) fun _ _ => o_sub)))))) fun r F1 H1 v g m p => hQ r F1 H1 v g m p
/-! ### rising -/
abbrev s_rising : Stmt := topS 6
abbrev N_rising : List Str := ["counted", "size"]
theorem sc_rising : FnScope N_rising ["counted"] (defScope s_rising) := ⟨rfl, rfl, rfl, by decide +kernel, rfl, by decide +kernel, by decide +kernel⟩
abbrev sp_rising (K : PySem.W.Frag) (ce : Ce) : Sp := SpF0 ce (RC K (α := (Dc Int)) R0) (rn K (α := (Int × Int))) (fun a : ((Dc Int) × Unit) => m_rising a.1)
theorem ok_rising {f : Addr} {fd : FuncData} (FF : Fun K "rising" "rising" s_rising f fd) (z_list : mg "list" = none) (z_sorted : mg "sorted" = none) : FnOk P w K mg base CX0 1 f fd ["counted"] (sp_rising K ce) := by
  refine FF.ok sc_rising (fun vs H0 Q E h => ?_) (fun cdv A outer s H0 vs Q E hr h => ?_)
  · obtain ⟨F0, ⟨a0_counted, _⟩, e0, ⟨v0, _, rfl, r0, rfl⟩, w⟩ := h
    rfl
  · obtain ⟨F0, ⟨a0_counted, _⟩, e0, ⟨v0, _, rfl, r0, rfl⟩, w⟩ := h
    have w := wp_post w
    have G := Gr.rf e0
    have nd := sc_rising.nd
    have hQ : ∀ r F1 H1 v, Gr F0 H0 F1 H1 → (rn K (α := (Int × Int))) F0 H0 F1 H1 v r → Fin (rn K (α := (Int × Int))) F0 H0 Q r → Q v H1 := fun r F1 H1 v g m p => p F1 H1 v g m
    refine ⟨_, (pss_one (ps_ret (pe_lc (own := [("size", 1)]) (g := (gName 1)) (by rfl) nd (pi_list (pe_callB (r := rSortedI K) cr_sortedI (by rfl) z_sorted (by decide +kernel) (pa_cons (pe_callTy (call_listD rfl) (by rfl) z_list (by decide +kernel) (pa_cons (pv 0) pa_nil)) pa_nil))) (blkOk_by (own := [("size", 1)]) (N := N_rising) (sc := defScope s_rising) (by decide +kernel)) (fun _ _ _ _ _ => (pg_name (i := 1) nd rfl (by first | exact Or.inl rfl | exact Or.inr rfl))) (fun _ _ _ _ _ => (pts_one (pt_cmpR op_gt (pe_dget (hu_of hr) (pv 0) (pv 1) (fun _ _ => rfl)) pe_int (nomark _)))) (fun _ _ _ _ _ => (pe_tup (pa_cons (pv 1) (pa_cons (pe_dget (hu_of hr) (pv 0) (pv 1) (fun _ _ => rfl)) pa_nil))))))), ?_⟩
    have w := show Wp ce E0 H0 (m_rising a0_counted) _ from w
    unfold m_rising at w
    exact s_retN0 G w (em_lc (c := (fun x_689 : Int => (((M.ok a0_counted).bind fun d_692 => (M.ok x_689).bind fun k_693 => dgetM d_692 k_693).bind fun x_694 => (M.ok (0 : Int)).bind fun y_695 => .ok (decide (y_695 < x_694))))) (e := (fun x_689 : Int => ((M.ok x_689).bind fun x_698 => ((M.ok a0_counted).bind fun d_696 => (M.ok x_689).bind fun k_697 => dgetM d_696 k_697).bind fun x_699 => .ok (x_698, x_699)))) (ei_list (Ev.nv (e_cb (e_cons (Ev.nv (e_cb (e_cons (em_var rfl r0) ea_nil) a_listD)) ea_nil) a_sorted))) (tg_name (K := K)) (fun _ _ _ ⟨_, h, _⟩ => by rw [h]; exact wipe1) (fun x_689 _ _ _ g_688 ⟨v_690, h_700, r_691⟩ => by subst h_700; exact (t_of (em_op (em_dget (em_var rfl (Rep.mo g_688.ff r0)) (em_var rfl r_691)) em_int fun _ _ => o_gt))) (fun x_689 _ _ _ g_688 ⟨v_690, h_700, r_691⟩ => by subst h_700; exact (em_tup2 (em_var rfl r_691) (em_dget (em_var rfl (Rep.mo g_688.ff r0)) (em_var rfl r_691))))) fun r F1 H1 v g m p => hQ r F1 H1 v g m p
/-! ### taken_out -/
abbrev s_taken_out : Stmt := topS 7
abbrev N_taken_out : List Str := ["lot", "other", "counted", "size", "many"]
theorem sc_taken_out : FnScope N_taken_out ["lot", "other"] (defScope s_taken_out) := ⟨rfl, rfl, rfl, by decide +kernel, rfl, by decide +kernel, by decide +kernel⟩
abbrev sp_taken_out (K : PySem.W.Frag) (ce : Ce) : Sp := SpF ce (RC K (α := (List (Int × Int))) (RC K (α := (List (Int × Int))) R0)) (rn K (α := (Int × Int))) (fun a : ((List (Int × Int)) × (List (Int × Int)) × Unit) => m_taken_out a.1 a.2.1)
theorem ok_taken_out {f : Addr} {fd : FuncData} (FF : Fun K "taken_out" "taken_out" s_taken_out f fd) (x_NoGrains : ErrC K mg (ce "NoGrains") "NoGrains") {a_rising : Addr} {d_rising : FuncData} (G_rising : FnOk P w K mg base CX0 1 a_rising d_rising ["counted"] (sp_rising K ce)) (mg_rising : mg "rising" = some (.ref a_rising)) (k_rising : PySem.W.keepIn K (.ref a_rising) = true) (b_rising : Binds K d_rising ["counted"] []) (z_dict : mg "dict" = none) : FnOk P w K mg base (L2.CX P w) 2 f fd ["lot", "other"] (sp_taken_out K ce) := by
  refine FF.okX sc_taken_out (fun vs H0 Q E h => ?_) (fun cdv A outer s H0 vs Q E hr h => ?_)
  · obtain ⟨F0, ⟨a0_lot, a1_other, _⟩, e0, ⟨v0, _, rfl, r0, ⟨v1, _, rfl, r1, rfl⟩⟩, w⟩ := h
    rfl
  · obtain ⟨F0, ⟨a0_lot, a1_other, _⟩, e0, ⟨v0, _, rfl, r0, ⟨v1, _, rfl, r1, rfl⟩⟩, w⟩ := h
    have w := wp_post w
    have G := Gr.rf e0
    have nd := sc_taken_out.nd
    have hQ : ∀ r F1 H1 v, Gr F0 H0 F1 H1 → (rn K (α := (Int × Int))) F0 H0 F1 H1 v r → Fin (rn K (α := (Int × Int))) F0 H0 Q r → Q v H1 := fun r F1 H1 v g m p => p F1 H1 v g m
    refine ⟨_, (pss_cons (ps_set (i := 2) nd rfl (by first | exact Or.inl rfl | exact Or.inr rfl) (pe_callTy (call_dictP rfl) (by rfl) z_dict (by decide +kernel) (pa_cons (pv 0) pa_nil)))
      (pss_cons (ps_for (by first | exact PassesOwn.never | exact passes_of rfl) rfl (pi_list (pv 1)) (pg_tup rfl (pgs_cons (pg_name (i := 3) nd rfl (by first | exact Or.inl rfl | exact Or.inr rfl)) (pgs_cons (pg_name (i := 4) nd rfl (by first | exact Or.inl rfl | exact Or.inr rfl)) pgs_nil))) (pss_cons (ps_if (pt_cmpR op_lt (pe_dget2 (hu_of hr) (pv 2) (pv 3) pe_int ⟨by rfl, by rfl, by rfl, by rfl⟩) (pv 4) (nomark _)) (pss_one (ps_raise rfl (takes_of rfl rfl rfl rfl) (pmk_own PySem.F.excBase_ValueError x_NoGrains.x x_NoGrains.g x_NoGrains.k (raises_own x_NoGrains.b x_NoGrains.t) rfl))) pss_nil)
      (pss_one (ps_dput (hu_of hr) (pv 2) (pv 3) (pe_op op_sub (pe_dget (hu_of hr) (pv 2) (pv 3) (fun _ _ => rfl)) (pv 4)) rfl))))
      (pss_one (ps_ret (pe_call G_rising (hr.mono (by decide)) rfl mg_rising k_rising b_rising .nil pass0 (pa_cons (pv 2) pa_nil)))))), ?_⟩
    have w := show Wp ce E H0 (m_taken_out a0_lot a1_other) _ from w
    unfold m_taken_out at w
    refine q_asgO (K := K) G w (e_cb (e_cons (em_var rfl r0) ea_nil) a_dictP) fun counted_764 F_765 H_766 p_768 g_767 n_769 o_770 w => ?_
    have n0p_768 := ex_back G.hh n_769
    have G := G.tr g_767
    have r0 := Rep.mo (K := K) g_767.ff r0
    have r1 := Rep.mo (K := K) g_767.ff r1
    refine q_for (S := (Dc Int)) (fun s F' H' σ' => ∃ (z_771 : Option V) (z_772 : Option V), σ' = [some v0, some v1, some (.ref p_768), z_771, z_772] ∧ Gr F0 H0 F' H' ∧ Ex F_765 F' ∧ Own K (T := (Dc Int)) F' H' p_768 s) G (ei_list (em_var rfl r1)) (tg_tup2 (K := K)) w (fun _ _ g_824 => ⟨_, _, rfl, G.tr g_824, g_824.ff, o_770.mo g_824⟩) (fun _ _ _ _ ⟨_, _, _, G, _⟩ => G) ?_ ?_
    · rintro x_774 s_773 F_775 H_776 _ ⟨z_771, z_772, hs_777, G, e_778, o_779⟩ F_780 H_781 σ_782 g_783 ⟨v_791, v_793, h_795, r_792, r_794⟩ D_788 P_789 hrt_790 hN_784 hC_785 hB_786 hP_787 w
      subst hs_777
      subst h_795
      have r0 := Rep.mo (K := K) e_778 r0
      have r1 := Rep.mo (K := K) e_778 r1
      have G := G.tr g_783
      have r0 := Rep.mo (K := K) g_783.ff r0
      have r1 := Rep.mo (K := K) g_783.ff r1
      have o_779 := o_779.mo g_783
      have e_778 := Ex.tr e_778 g_783.ff
      have e_796 := Ex.rf F_780
      have hQ : ∀ r F1 H1 v, Gr F0 H0 F1 H1 → (rn K (α := (Int × Int))) F0 H0 F1 H1 v r → P_789 (.rt r) → D_788.rt v H1 := fun r F1 H1 v g m p => by rw [hrt_790]; exact hQ r F1 H1 v g m (hP_787 _ p)
      unfold m_taken_out_b1 at w
      refine q_if2A [p_768] G w (own1 o_779.f) (own1 o_779.ls) (t_of (em_op (em_dget2 (em_var rfl (o_779.lent G.fh (by simp))) (em_var rfl (Rep.mo (fz_ex G.fh) r_792)) em_int) (em_var rfl (Rep.mo (fz_ex G.fh) r_794)) fun _ _ => o_lt)) (fun F_802 H_803 g_804 w => ?_) (fun F_802 H_803 g_804 w => ?_)
      · have G := G.tr g_804
        have r0 := Rep.mo (K := K) g_804.ff r0
        have r1 := Rep.mo (K := K) g_804.ff r1
        have o_779 := o_779.mo g_804
        have r_792 := Rep.mo (K := K) g_804.ff r_792
        have r_794 := Rep.mo (K := K) g_804.ff r_794
        have e_778 := Ex.tr e_778 g_804.ff
        have e_796 := Ex.tr e_796 g_804.ff
        exact w _ G.hh
      · have G := G.tr g_804
        have r0 := Rep.mo (K := K) g_804.ff r0
        have r1 := Rep.mo (K := K) g_804.ff r1
        have o_779 := o_779.mo g_804
        have r_792 := Rep.mo (K := K) g_804.ff r_792
        have r_794 := Rep.mo (K := K) g_804.ff r_794
        have e_778 := Ex.tr e_778 g_804.ff
        have e_796 := Ex.tr e_796 g_804.ff
        refine s_next ?_
        refine s_nx ?_
        refine s_dput [p_768] rfl o_779 n0p_768 G w (own1 o_779.f) (own1 o_779.ls) (em_op (em_dget (em_var rfl (o_779.lent G.fh (by simp))) (em_var rfl (Rep.mo (fz_ex G.fh) r_792))) (em_var rfl (Rep.mo (fz_ex G.fh) r_794)) fun _ _ => o_sub) (em_var rfl (Rep.mo (fz_ex G.fh) r_792)) fun counted_807 F_808 H_809 e_810 G o_811 hO_812 w => ?_
        have r0 := Rep.mo (K := K) e_810 r0
        have r1 := Rep.mo (K := K) e_810 r1
        have r_792 := Rep.mo (K := K) e_810 r_792
        have r_794 := Rep.mo (K := K) e_810 r_794
        have e_778 := Ex.tr e_778 e_810
        have e_796 := Ex.tr e_796 e_810
        exact hN_784 _ w _ _ _ e_796 ⟨_, _, rfl, G, e_778, o_811⟩
    · rintro s_820 F_821 H_822 _ e_823 ⟨z_771, z_772, hs_817, G, e_818, o_819⟩ w
      subst hs_817
      have r0 := Rep.mo (K := K) e_818 r0
      have r1 := Rep.mo (K := K) e_818 r1
      have GA := gr_fz (A := [p_768]) G (own1 n0p_768)
      exact s_retN0 GA w (e_call0 (f := (fun a : ((Dc Int) × Unit) => m_rising a.1)) (x := (s_820, ())) (e_cons (em_var rfl (o_819.lent G.fh (by simp))) ea_nil)) fun r F1 H1 v g m p => hQ r F1 H1 v g m p
/-! ### _law_told -/
abbrev s_law_told : Stmt := topS 18
abbrev N_law_told : List Str := ["lot", "other", "found", "word", "e"]
theorem sc_law_told : FnScope N_law_told ["lot", "other"] (defScope s_law_told) := ⟨rfl, rfl, rfl, by decide +kernel, rfl, by decide +kernel, by decide +kernel⟩
abbrev sp_law_told (K : PySem.W.Frag) (ce : Ce) : Sp := SpF0 ce (RC K (α := (List (Int × Int))) (RC K (α := (List (Int × Int))) R0)) (rs (shpH (shpO (shpL (shpS (α := (Int × Int))))) (shpS (α := Wd))) K) (fun a : ((List (Int × Int)) × (List (Int × Int)) × Unit) => m_law_told a.1 a.2.1)
theorem ok_law_told {f : Addr} {fd : FuncData} (FF : Fun K "_law_told" "_law_told" s_law_told f fd) (mc_BadLot : mg "BadLot" = some (.ref (ce "BadLot"))) (mc_MeshError : mg "MeshError" = some (.ref (ce "MeshError"))) (mc_NoGrains : mg "NoGrains" = some (.ref (ce "NoGrains"))) (mc_Unknown : mg "Unknown" = some (.ref (ce "Unknown"))) {a_taken_out : Addr} {d_taken_out : FuncData} (G_taken_out : FnOk P w K mg base (L2.CX P w) 2 a_taken_out d_taken_out ["lot", "other"] (sp_taken_out K ce)) (mg_taken_out : mg "taken_out" = some (.ref a_taken_out)) (k_taken_out : PySem.W.keepIn K (.ref a_taken_out) = true) (b_taken_out : Binds K d_taken_out ["lot", "other"] []) (ki_NoGrains_BadLot : PySem.W.kitOne K (.ref (ce "NoGrains")) (.ref (ce "BadLot")) = some false) (ki_NoGrains_NoGrains : PySem.W.kitOne K (.ref (ce "NoGrains")) (.ref (ce "NoGrains")) = some true) (ki_NoGrains_Unknown : PySem.W.kitOne K (.ref (ce "NoGrains")) (.ref (ce "Unknown")) = some false) (ki_NoGrains_ValueError : PySem.W.kitOne K (.ref (ce "NoGrains")) (.type "ValueError") = some true) (xc_NoGrains : ExcC K (ce "NoGrains")) (xm_NoGrains_MeshError : PySem.W.exmOne K (.ref (ce "NoGrains")) (.ref (ce "MeshError")) = some true) (z_ValueError : mg "ValueError" = none) (z_isinstance : mg "isinstance" = none) : FnOk P w K mg base CX0 3 f fd ["lot", "other"] (sp_law_told K ce) := by
  refine FF.ok sc_law_told (fun vs H0 Q E h => ?_) (fun cdv A outer s H0 vs Q E hr h => ?_)
  · obtain ⟨F0, ⟨a0_lot, a1_other, _⟩, e0, ⟨v0, _, rfl, r0, ⟨v1, _, rfl, r1, rfl⟩⟩, w⟩ := h
    rfl
  · obtain ⟨F0, ⟨a0_lot, a1_other, _⟩, e0, ⟨v0, _, rfl, r0, ⟨v1, _, rfl, r1, rfl⟩⟩, w⟩ := h
    have w := wp_post w
    have G := Gr.rf e0
    have nd := sc_law_told.nd
    have hQ : ∀ r F1 H1 v, Gr F0 H0 F1 H1 → (rs (shpH (shpO (shpL (shpS (α := (Int × Int))))) (shpS (α := Wd))) K) F0 H0 F1 H1 v r → Fin (rs (shpH (shpO (shpL (shpS (α := (Int × Int))))) (shpS (α := Wd))) K) F0 H0 Q r → Q v H1 := fun r F1 H1 v g m p => p F1 H1 v g m
    refine ⟨_, (pss_cons (ps_set (i := 2) nd rfl (by first | exact Or.inl rfl | exact Or.inr rfl) pe_non)
      (pss_cons (ps_set (i := 3) nd rfl (by first | exact Or.inl rfl | exact Or.inr rfl) pe_str)
      (pss_cons (ps_tryA (i := 4) rfl rfl nd rfl rfl ⟨rfl, by decide, .inl mc_MeshError⟩ takes0 (fun W pn xe tk _ => (pss_one (ps_set (i := 2) nd rfl (by first | exact Or.inl rfl | exact Or.inr rfl) (pe_callS G_taken_out (hr.mono (by decide)) rfl mg_taken_out k_taken_out b_taken_out (fun σ => passAt tk σ) (pa_cons (pv 0) (pa_cons (pv 1) pa_nil)))))) (suite_by fun C a oe pn xc hz hf => (pss_cons (ps_set (i := 3) nd rfl (by first | exact Or.inl rfl | exact Or.inr rfl) pe_str)
      (pss_cons (ps_if (PW.pt (pw_and (pt_val (pe_callB (r := rIsE K C a) (call_isE xc hz hf) (by rfl) z_isinstance (by decide +kernel) (pa_cons (pv 4) (pa_cons (pe_glob (v := .ref (ce "NoGrains")) rfl mc_NoGrains rfl) pa_nil)))) (pw_and1 (pt_val (pe_callB (r := rIsE K C a) (call_isE xc hz hf) (by rfl) z_isinstance (by decide +kernel) (pa_cons (pv 4) (pa_cons (pe_bltn (v := .ty "ValueError") (by rfl) z_ValueError (by decide +kernel) rfl) pa_nil))))))) (pss_one (ps_set (i := 3) nd rfl (by first | exact Or.inl rfl | exact Or.inr rfl) pe_str)) pss_nil)
      (pss_one (ps_if (PW.pt (pw_or (pt_val (pe_callB (r := rIsE K C a) (call_isE xc hz hf) (by rfl) z_isinstance (by decide +kernel) (pa_cons (pv 4) (pa_cons (pe_glob (v := .ref (ce "BadLot")) rfl mc_BadLot rfl) pa_nil)))) (pw_or1 (pt_val (pe_callB (r := rIsE K C a) (call_isE xc hz hf) (by rfl) z_isinstance (by decide +kernel) (pa_cons (pv 4) (pa_cons (pe_glob (v := .ref (ce "Unknown")) rfl mc_Unknown rfl) pa_nil))))))) (pss_one (ps_set (i := 3) nd rfl (by first | exact Or.inl rfl | exact Or.inr rfl) pe_str)) pss_nil))))))
      (pss_one (ps_ret (pe_lst (pa_cons (pv 2) (pa_cons (pv 3) pa_nil)))))))), ?_⟩
    have w := show Wp ce E0 H0 (m_law_told a0_lot a1_other) _ from w
    unfold m_law_told at w
    have hk : Hld K H0 F0 H0 [] := Hld.nil
    refine q_dasgN (K := K) (s := (shpO (shpL (shpS (α := (Int × Int)))))) hk G w (Ev.nos (s := (shpL (shpS (α := (Int × Int)))))) fun found_909 F_910 H_911 v_913 g_912 hk w => ?_
    have G := G.tr g_912
    have r0 := Rep.mo (K := K) g_912.ff r0
    have r1 := Rep.mo (K := K) g_912.ff r1
    refine q_dasg (K := K) hk G w (em_wd (by decide +kernel)) fun word_915 F_916 H_917 v_919 g_918 r_920 hk w => ?_
    have G := G.tr g_918
    have r0 := Rep.mo (K := K) g_918.ff r0
    have r1 := Rep.mo (K := K) g_918.ff r1
    refine q_tryAs (α := (Option (List (Int × Int)))) (fun z : Unit => [some v0, some v1, some v_913, some v_919, none]) (fun s F' H' σ' => ∃ (v_922 : V), σ' = [some v0, some v1, some v_922, some v_919, none] ∧ Gr F0 H0 F' H' ∧ Ex F_916 F' ∧ Hld K H0 F' H' [hO (shpO (shpL (shpS (α := (Int × Int))))) v_922 s]) w ?_ ?_ ?_
    · rintro ⟨c_946⟩ H_947 z_948 e_945 w
      by_cases h_991 : c_946 = "NoGrains"
      · subst h_991
        replace w := wp_pos rfl w
        have G := G.er e_945
        have hk := Hld.er hk e_945
        refine was_yes xm_NoGrains_MeshError xc_NoGrains fun a_949 n_950 => ?_
        refine q_dasg (K := K) hk G w (em_wd (by decide +kernel)) fun word_951 F_952 H_953 v_955 g_954 r_956 hk w => ?_
        have G := G.tr g_954
        have r0 := Rep.mo (K := K) g_954.ff r0
        have r1 := Rep.mo (K := K) g_954.ff r1
        refine q_join (W := Wd) (fun s F' H' σ' => ∃ (v_961 : V), σ' = [some v0, some v1, some v_913, some v_961, some (.ref a_949)] ∧ Gr F0 H0 F' H' ∧ Ex F_952 F' ∧ rp (α := Wd) K F' v_961 s ∧ Hld K H0 F' H' [hO (shpO (shpL (shpS (α := (Int × Int))))) v_913 found_909]) w ?_ ?_
        · rintro s_960 F_965 H_966 σs_960 ⟨v_961, hs_962, G, e_963, r_964, hk⟩ w
          subst hs_962
          have r0 := Rep.mo (K := K) e_963 r0
          have r1 := Rep.mo (K := K) e_963 r1
          refine s_dif2 (K := K) hk G w (t_or (t_B (e_isE (b := false) rfl (fun _ h => h) ki_NoGrains_BadLot)) (t_B (e_isE (b := false) rfl (fun _ h => h) ki_NoGrains_Unknown))) (fun F_967 H_968 g_969 hk w => ?_) (fun F_967 H_968 g_969 hk w => ?_)
          · have G := G.tr g_969
            have r0 := Rep.mo (K := K) g_969.ff r0
            have r1 := Rep.mo (K := K) g_969.ff r1
            have r_964 := Rep.mo (K := K) g_969.ff r_964
            refine s_dasg (K := K) hk G w (em_wd (by decide +kernel)) fun word_970 F_971 H_972 v_974 g_973 r_975 hk w => ?_
            have G := G.tr g_973
            have r0 := Rep.mo (K := K) g_973.ff r0
            have r1 := Rep.mo (K := K) g_973.ff r1
            refine s_nx ?_
            exact d_retM (K := K) hk G w (evm_h2 (evm_var rfl) (evm_new (Ev.vs (em_var rfl r_975)))) fun r F1 H1 v g hk p => hQ r F1 H1 v g (rs_of hk) p
          · have G := G.tr g_969
            have r0 := Rep.mo (K := K) g_969.ff r0
            have r1 := Rep.mo (K := K) g_969.ff r1
            have r_964 := Rep.mo (K := K) g_969.ff r_964
            refine s_next ?_
            refine s_nx ?_
            exact d_retM (K := K) hk G w (evm_h2 (evm_var rfl) (evm_new (Ev.vs (em_var rfl r_964)))) fun r F1 H1 v g hk p => hQ r F1 H1 v g (rs_of hk) p
        · intro P_983 hk_982 w
          refine s_dif2 (K := K) hk G w (t_and (t_B (e_isE (b := true) rfl (fun _ h => h) ki_NoGrains_NoGrains)) (t_B (e_isE (b := true) rfl (fun _ h => h) ki_NoGrains_ValueError))) (fun F_957 H_958 g_959 hk w => ?_) (fun F_957 H_958 g_959 hk w => ?_)
          · have e_984 : Ex F_952 F_957 := g_959.ff
            have G := G.tr g_959
            have r0 := Rep.mo (K := K) g_959.ff r0
            have r1 := Rep.mo (K := K) g_959.ff r1
            have r_956 := Rep.mo (K := K) g_959.ff r_956
            refine s_dasg (K := K) hk G w (em_wd (by decide +kernel)) fun word_985 F_986 H_987 v_989 g_988 r_990 hk w => ?_
            have G := G.tr g_988
            have r0 := Rep.mo (K := K) g_988.ff r0
            have r1 := Rep.mo (K := K) g_988.ff r1
            have e_984 := Ex.tr e_984 g_988.ff
            exact hk_982 _ w _ _ _ ⟨_, rfl, G, e_984, r_990, hk⟩
          · have e_984 : Ex F_952 F_957 := g_959.ff
            have G := G.tr g_959
            have r0 := Rep.mo (K := K) g_959.ff r0
            have r1 := Rep.mo (K := K) g_959.ff r1
            have r_956 := Rep.mo (K := K) g_959.ff r_956
            refine s_next ?_
            exact hk_982 _ w _ _ _ ⟨_, rfl, G, e_984, r_956, hk⟩
      · replace w := wp_neg h_991 w
        exact w.elim
    · rintro s_921 F_932 H_933 σs_921 ⟨v_922, hs_930, G, e_931, hk⟩ w
      subst hs_930
      have r0 := Rep.mo (K := K) e_931 r0
      have r1 := Rep.mo (K := K) e_931 r1
      have r_920 := Rep.mo (K := K) e_931 r_920
      exact d_retM (K := K) hk G w (evm_h2 (evm_var rfl) (evm_new (Ev.vs (em_var rfl r_920)))) fun r F1 H1 v g hk p => hQ r F1 H1 v g (rs_of hk) p
    · intro E_928 P_929 hE_923 hP_924 hk_925 w
      have hk : Hld K H0 F_916 H_917 [] := Hld.drop hk
      have hkT := hk
      have Gt_926 := G
      have G := Gr.rf G.fh
      have e_937 := Ex.rf F_916
      have hk : Hld K H_917 F_916 H_917 [] := Hld.nil
      refine s_dasgN (K := K) (s := (shpO (shpL (shpS (α := (Int × Int)))))) hk G w (Ev.os (Ev.ns (e_callU (fun _ _ _ h => hE_923 _ _ _ h (())) (f := (fun a : ((List (Int × Int)) × (List (Int × Int)) × Unit) => m_taken_out a.1 a.2.1)) (x := (a0_lot, a1_other, ())) (e_cons (em_var rfl r0) (e_cons (em_var rfl r1) ea_nil))))) fun found_938 F_939 H_940 v_942 g_941 hk w => ?_
      have G := G.tr g_941
      have r0 := Rep.mo (K := K) g_941.ff r0
      have r1 := Rep.mo (K := K) g_941.ff r1
      have r_920 := Rep.mo (K := K) g_941.ff r_920
      have e_937 := Ex.tr e_937 g_941.ff
      have hk : Hld K H0 F_939 H_940 [hO (shpO (shpL (shpS (α := (Int × Int))))) v_942 found_938] := Hld.merge hk hkT G Gt_926.hh
      exact hk_925 _ w _ _ _ ⟨_, rfl, Gt_926.tr G, e_937, hk⟩
/-! ### _law_whole -/
abbrev s_law_whole : Stmt := topS 9
abbrev N_law_whole : List Str := ["found"]
theorem sc_law_whole : FnScope N_law_whole ["found"] (defScope s_law_whole) := ⟨rfl, rfl, rfl, by decide +kernel, rfl, by decide +kernel, by decide +kernel⟩
abbrev sp_law_whole (K : PySem.W.Frag) (ce : Ce) : Sp := SpF0 ce (RC K (α := Int) R0) (rv K (ρ := Bool)) (fun a : (Int × Unit) => m_law_whole a.1)
theorem ok_law_whole {f : Addr} {fd : FuncData} (FF : Fun K "_law_whole" "_law_whole" s_law_whole f fd) (z_bool : mg "bool" = none) (z_int : mg "int" = none) (z_isinstance : mg "isinstance" = none) : FnOk P w K mg base CX0 1 f fd ["found"] (sp_law_whole K ce) := by
  refine FF.ok sc_law_whole (fun vs H0 Q E h => ?_) (fun cdv A outer s H0 vs Q E hr h => ?_)
  · obtain ⟨F0, ⟨a0_found, _⟩, e0, ⟨v0, _, rfl, r0, rfl⟩, w⟩ := h
    rfl
  · obtain ⟨F0, ⟨a0_found, _⟩, e0, ⟨v0, _, rfl, r0, rfl⟩, w⟩ := h
    have w := wp_post w
    have G := Gr.rf e0
    have nd := sc_law_whole.nd
    have hQ : ∀ r F1 H1 v, Gr F0 H0 F1 H1 → (rv K (ρ := Bool)) F0 H0 F1 H1 v r → Fin (rv K (ρ := Bool)) F0 H0 Q r → Q v H1 := fun r F1 H1 v g m p => p F1 H1 v g m
    refine ⟨_, (pss_one (ps_ret (pe_and (pe_callB (r := rIsi K) call_isi (by rfl) z_isinstance (by decide +kernel) (pa_cons (pv 0) (pa_cons (pe_bltn (v := .ty "int") (by rfl) z_int (by decide +kernel) rfl) pa_nil))) (pe_one (pe_not (pe_callB (r := rIsi K) call_isi (by rfl) z_isinstance (by decide +kernel) (pa_cons (pv 0) (pa_cons (pe_bltn (v := .ty "bool") (by rfl) z_bool (by decide +kernel) rfl) pa_nil)))))))), ?_⟩
    have w := show Wp ce E0 H0 (m_law_whole a0_found) _ from w
    unfold m_law_whole at w
    exact s_ret0 G w (e_andV (e_isi (b := true) (em_var rfl r0) (kit_ty (by decide +kernel))) (e_notV (e_isi (b := false) (em_var rfl r0) (kit_ty (by decide +kernel))))) fun r F1 H1 v g m p => hQ r F1 H1 v g m p
/-! ### _law_is_lot -/
abbrev s_law_is_lot : Stmt := topS 15
abbrev N_law_is_lot : List Str := ["found", "due", "k"]
theorem sc_law_is_lot : FnScope N_law_is_lot ["found", "due"] (defScope s_law_is_lot) := ⟨rfl, rfl, rfl, by decide +kernel, rfl, by decide +kernel, by decide +kernel⟩
abbrev sp_law_is_lot (K : PySem.W.Frag) (ce : Ce) : Sp := SpF0 ce (RC K (α := (List (Int × Int))) (RC K (α := (List (Int × Int))) R0)) (rv K (ρ := Bool)) (fun a : ((List (Int × Int)) × (List (Int × Int)) × Unit) => m_law_is_lot a.1 a.2.1)
theorem ok_law_is_lot {f : Addr} {fd : FuncData} (FF : Fun K "_law_is_lot" "_law_is_lot" s_law_is_lot f fd) {a__law_whole : Addr} {d__law_whole : FuncData} (G__law_whole : FnOk P w K mg base CX0 1 a__law_whole d__law_whole ["found"] (sp_law_whole K ce)) (mg__law_whole : mg "_law_whole" = some (.ref a__law_whole)) (k__law_whole : PySem.W.keepIn K (.ref a__law_whole) = true) (b__law_whole : Binds K d__law_whole ["found"] []) (z_isinstance : mg "isinstance" = none) (z_len : mg "len" = none) (z_list : mg "list" = none) (z_range : mg "range" = none) (z_tuple : mg "tuple" = none) : FnOk P w K mg base CX0 2 f fd ["found", "due"] (sp_law_is_lot K ce) := by
  refine FF.ok sc_law_is_lot (fun vs H0 Q E h => ?_) (fun cdv A outer s H0 vs Q E hr h => ?_)
  · obtain ⟨F0, ⟨a0_found, a1_due, _⟩, e0, ⟨v0, _, rfl, r0, ⟨v1, _, rfl, r1, rfl⟩⟩, w⟩ := h
    rfl
  · obtain ⟨F0, ⟨a0_found, a1_due, _⟩, e0, ⟨v0, _, rfl, r0, ⟨v1, _, rfl, r1, rfl⟩⟩, w⟩ := h
    have w := wp_post w
    have G := Gr.rf e0
    have nd := sc_law_is_lot.nd
    have hQ : ∀ r F1 H1 v, Gr F0 H0 F1 H1 → (rv K (ρ := Bool)) F0 H0 F1 H1 v r → Fin (rv K (ρ := Bool)) F0 H0 Q r → Q v H1 := fun r F1 H1 v g m p => p F1 H1 v g m
    refine ⟨_, (pss_cons (ps_if (PW.pt (pw_or (pt_not (pt_val (pe_callB (r := rIsi K) call_isi (by rfl) z_isinstance (by decide +kernel) (pa_cons (pv 0) (pa_cons (pe_bltn (v := .ty "list") (by rfl) z_list (by decide +kernel) rfl) pa_nil))))) (pw_or1 (pt_cmpR op_ne (pe_callB (r := rLenS K) call_len_seq (by rfl) z_len (by decide +kernel) (pa_cons (pv 0) pa_nil)) (pe_callB (r := rLenS K) call_len_seq (by rfl) z_len (by decide +kernel) (pa_cons (pv 1) pa_nil)) (nomark _))))) (pss_one (ps_ret pe_bl)) pss_nil)
      (pss_cons (ps_for (by first | exact PassesOwn.never | exact passes_of rfl) rfl (pi_range1 rfl z_range (pa_cons (pe_callB (r := rLenS K) call_len_seq (by rfl) z_len (by decide +kernel) (pa_cons (pv 1) pa_nil)) pa_nil)) (pg_name (i := 2) nd rfl (by first | exact Or.inl rfl | exact Or.inr rfl)) (pss_cons (ps_if (PW.pt (pw_or (pt_not (pt_val (pe_callB (r := rIsi K) call_isi (by rfl) z_isinstance (by decide +kernel) (pa_cons (pe_ix (r := rIxL K) ix_list (pv 0) (pv 2) (fun _ _ => rfl)) (pa_cons (pe_bltn (v := .ty "tuple") (by rfl) z_tuple (by decide +kernel) rfl) pa_nil))))) (pw_or (pt_cmpR op_ne (pe_callB (r := rLenS K) call_len_seq (by rfl) z_len (by decide +kernel) (pa_cons (pe_ix (r := rIxL K) ix_list (pv 0) (pv 2) (fun _ _ => rfl)) pa_nil)) pe_int (nomark _)) (pw_or1 (pt_cmpR (r := rNeD K) (op_neD hr.units) (pe_ix (r := rIxL K) ix_list (pv 0) (pv 2) (fun _ _ => rfl)) (pe_ix (r := rIxL K) ix_list (pv 1) (pv 2) (fun _ _ => rfl)) (nomark _)))))) (pss_one (ps_ret pe_bl)) pss_nil)
      (pss_one (ps_if (PW.pt (pw_or (pt_not (pt_val (pe_call G__law_whole (hr.mono (by decide)) rfl mg__law_whole k__law_whole b__law_whole .nil pass0 (pa_cons (pe_ix (r := rIxT K) ix_tup (pe_ix (r := rIxL K) ix_list (pv 0) (pv 2) (fun _ _ => rfl)) pe_int (fun _ _ => rfl)) pa_nil)))) (pw_or1 (pt_not (pt_val (pe_call G__law_whole (hr.mono (by decide)) rfl mg__law_whole k__law_whole b__law_whole .nil pass0 (pa_cons (pe_ix (r := rIxT K) ix_tup (pe_ix (r := rIxL K) ix_list (pv 0) (pv 2) (fun _ _ => rfl)) pe_int (fun _ _ => rfl)) pa_nil))))))) (pss_one (ps_ret pe_bl)) pss_nil))))
      (pss_one (ps_ret pe_bl)))), ?_⟩
    have w := show Wp ce E0 H0 (m_law_is_lot a0_found a1_due) _ from w
    unfold m_law_is_lot at w
    refine q_if2 G w (t_or (t_not (t_B (e_isi (b := true) (em_var rfl r0) (kit_ty (by decide +kernel))))) (t_of (e2 (e_cb (e_cons (em_var rfl r0) ea_nil) a_len) (e_cb (e_cons (em_var rfl r1) ea_nil) a_len) o_neI))) (fun F_1060 H_1061 g_1062 w => ?_) (fun F_1060 H_1061 g_1062 w => ?_)
    · have G := G.tr g_1062
      have r0 := Rep.mo (K := K) g_1062.ff r0
      have r1 := Rep.mo (K := K) g_1062.ff r1
      exact s_ret0 G w em_bl fun r F1 H1 v g m p => hQ r F1 H1 v g m p
    · have G := G.tr g_1062
      have r0 := Rep.mo (K := K) g_1062.ff r0
      have r1 := Rep.mo (K := K) g_1062.ff r1
      refine s_next ?_
      refine s_nx ?_
      refine q_for (S := Unit) (fun s F' H' σ' => ∃ (z_1063 : Option V), σ' = [some v0, some v1, z_1063] ∧ Gr F0 H0 F' H' ∧ Ex F_1060 F') G (ei_rng1 (e_cb (e_cons (em_var rfl r1) ea_nil) a_len)) (tg_name (K := K)) w (fun _ _ g_1126 => ⟨_, rfl, G.tr g_1126, g_1126.ff⟩) (fun _ _ _ _ ⟨_, _, G, _⟩ => G) ?_ ?_
      · rintro x_1065 s_1064 F_1066 H_1067 _ ⟨z_1063, hs_1068, G, e_1069⟩ F_1070 H_1071 σ_1072 g_1073 ⟨v_1081, h_1083, r_1082⟩ D_1078 P_1079 hrt_1080 hN_1074 hC_1075 hB_1076 hP_1077 w
        subst hs_1068
        subst h_1083
        have r0 := Rep.mo (K := K) e_1069 r0
        have r1 := Rep.mo (K := K) e_1069 r1
        have G := G.tr g_1073
        have r0 := Rep.mo (K := K) g_1073.ff r0
        have r1 := Rep.mo (K := K) g_1073.ff r1
        have e_1069 := Ex.tr e_1069 g_1073.ff
        have e_1084 := Ex.rf F_1070
        have hQ : ∀ r F1 H1 v, Gr F0 H0 F1 H1 → (rv K (ρ := Bool)) F0 H0 F1 H1 v r → P_1079 (.rt r) → D_1078.rt v H1 := fun r F1 H1 v g m p => by rw [hrt_1080]; exact hQ r F1 H1 v g m (hP_1077 _ p)
        unfold m_law_is_lot_b1 at w
        refine q_if2 G w (tm_or (tm_not (t_B (em_isi (b := true) (em_op (em_var rfl r0) (em_var rfl r_1082) fun _ _ => o_ixL) (kit_ty (by decide +kernel))))) (tm_or (t_of (em_op (em_cb (ea_cons (em_op (em_var rfl r0) (em_var rfl r_1082) fun _ _ => o_ixL) ea_nil) fun _ => a_len2) em_int fun _ _ => o_neI)) (t_of (em_op (em_op (em_var rfl r0) (em_var rfl r_1082) fun _ _ => o_ixL) (em_op (em_var rfl r1) (em_var rfl r_1082) fun _ _ => o_ixL) fun _ _ => (o_neD (by decide)))))) (fun F_1100 H_1101 g_1102 w => ?_) (fun F_1100 H_1101 g_1102 w => ?_)
        · have G := G.tr g_1102
          have r0 := Rep.mo (K := K) g_1102.ff r0
          have r1 := Rep.mo (K := K) g_1102.ff r1
          have r_1082 := Rep.mo (K := K) g_1102.ff r_1082
          have e_1069 := Ex.tr e_1069 g_1102.ff
          have e_1084 := Ex.tr e_1084 g_1102.ff
          exact s_ret G w em_bl fun r F1 H1 v g m p => hQ r F1 H1 v g m p
        · have G := G.tr g_1102
          have r0 := Rep.mo (K := K) g_1102.ff r0
          have r1 := Rep.mo (K := K) g_1102.ff r1
          have r_1082 := Rep.mo (K := K) g_1102.ff r_1082
          have e_1069 := Ex.tr e_1069 g_1102.ff
          have e_1084 := Ex.tr e_1084 g_1102.ff
          refine s_next ?_
          refine s_nx ?_
          refine s_if2 G w (tm_or (tm_not (t_B (em_call0 (f := (fun a : (Int × Unit) => m_law_whole a.1)) (ea_cons (em_ix (em_op (em_var rfl r0) (em_var rfl r_1082) fun _ _ => o_ixL) em_int fun _ => o_fst rfl) ea_nil)))) (tm_not (t_B (em_call0 (f := (fun a : (Int × Unit) => m_law_whole a.1)) (ea_cons (em_ix (em_op (em_var rfl r0) (em_var rfl r_1082) fun _ _ => o_ixL) em_int fun _ => o_snd rfl) ea_nil))))) (fun F_1116 H_1117 g_1118 w => ?_) (fun F_1116 H_1117 g_1118 w => ?_)
          · have G := G.tr g_1118
            have r0 := Rep.mo (K := K) g_1118.ff r0
            have r1 := Rep.mo (K := K) g_1118.ff r1
            have r_1082 := Rep.mo (K := K) g_1118.ff r_1082
            have e_1069 := Ex.tr e_1069 g_1118.ff
            have e_1084 := Ex.tr e_1084 g_1118.ff
            exact s_ret G w em_bl fun r F1 H1 v g m p => hQ r F1 H1 v g m p
          · have G := G.tr g_1118
            have r0 := Rep.mo (K := K) g_1118.ff r0
            have r1 := Rep.mo (K := K) g_1118.ff r1
            have r_1082 := Rep.mo (K := K) g_1118.ff r_1082
            have e_1069 := Ex.tr e_1069 g_1118.ff
            have e_1084 := Ex.tr e_1084 g_1118.ff
            refine s_next ?_
            exact hN_1074 _ w _ _ _ e_1084 ⟨_, rfl, G, e_1069⟩
      · rintro s_1122 F_1123 H_1124 _ e_1125 ⟨z_1063, hs_1120, G, e_1121⟩ w
        subst hs_1120
        have r0 := Rep.mo (K := K) e_1121 r0
        have r1 := Rep.mo (K := K) e_1121 r1
        exact s_ret0 G w em_bl fun r F1 H1 v g m p => hQ r F1 H1 v g m p
/-! ### _law_right -/
abbrev s_law_right : Stmt := topS 19
abbrev N_law_right : List Str := ["lot", "other", "handed", "due", "told"]
theorem sc_law_right : FnScope N_law_right ["lot", "other"] (defScope s_law_right) := ⟨rfl, rfl, rfl, by decide +kernel, rfl, by decide +kernel, by decide +kernel⟩
abbrev sp_law_right (K : PySem.W.Frag) (ce : Ce) : Sp := SpF0 ce (RC K (α := (List (Int × Int))) (RC K (α := (List (Int × Int))) R0)) (rv K (ρ := Bool)) (fun a : ((List (Int × Int)) × (List (Int × Int)) × Unit) => m_law_right a.1 a.2.1)
theorem ok_law_right {f : Addr} {fd : FuncData} (FF : Fun K "_law_right" "_law_right" s_law_right f fd) {a__law_is_lot : Addr} {d__law_is_lot : FuncData} (G__law_is_lot : FnOk P w K mg base CX0 2 a__law_is_lot d__law_is_lot ["found", "due"] (sp_law_is_lot K ce)) (mg__law_is_lot : mg "_law_is_lot" = some (.ref a__law_is_lot)) (k__law_is_lot : PySem.W.keepIn K (.ref a__law_is_lot) = true) (b__law_is_lot : Binds K d__law_is_lot ["found", "due"] []) {a__law_left : Addr} {d__law_left : FuncData} (G__law_left : FnOk P w K mg base CX0 1 a__law_left d__law_left ["lot", "other"] (sp_law_left K ce)) (mg__law_left : mg "_law_left" = some (.ref a__law_left)) (k__law_left : PySem.W.keepIn K (.ref a__law_left) = true) (b__law_left : Binds K d__law_left ["lot", "other"] []) {a__law_told : Addr} {d__law_told : FuncData} (G__law_told : FnOk P w K mg base CX0 3 a__law_told d__law_told ["lot", "other"] (sp_law_told K ce)) (mg__law_told : mg "_law_told" = some (.ref a__law_told)) (k__law_told : PySem.W.keepIn K (.ref a__law_told) = true) (b__law_told : Binds K d__law_told ["lot", "other"] []) (z_list : mg "list" = none) : FnOk P w K mg base CX0 4 f fd ["lot", "other"] (sp_law_right K ce) := by
  refine FF.ok sc_law_right (fun vs H0 Q E h => ?_) (fun cdv A outer s H0 vs Q E hr h => ?_)
  · obtain ⟨F0, ⟨a0_lot, a1_other, _⟩, e0, ⟨v0, _, rfl, r0, ⟨v1, _, rfl, r1, rfl⟩⟩, w⟩ := h
    rfl
  · obtain ⟨F0, ⟨a0_lot, a1_other, _⟩, e0, ⟨v0, _, rfl, r0, ⟨v1, _, rfl, r1, rfl⟩⟩, w⟩ := h
    have w := wp_post w
    have G := Gr.rf e0
    have nd := sc_law_right.nd
    have hQ : ∀ r F1 H1 v, Gr F0 H0 F1 H1 → (rv K (ρ := Bool)) F0 H0 F1 H1 v r → Fin (rv K (ρ := Bool)) F0 H0 Q r → Q v H1 := fun r F1 H1 v g m p => p F1 H1 v g m
    refine ⟨_, (pss_cons (ps_set (i := 2) nd rfl (by first | exact Or.inl rfl | exact Or.inr rfl) (pe_lst (pa_cons (pe_callTy (r := rListS K) call_list_of (by rfl) z_list (by decide +kernel) (pa_cons (pv 0) pa_nil)) (pa_cons (pe_callTy (r := rListS K) call_list_of (by rfl) z_list (by decide +kernel) (pa_cons (pv 1) pa_nil)) pa_nil))))
      (pss_cons (ps_set (i := 3) nd rfl (by first | exact Or.inl rfl | exact Or.inr rfl) (pe_call G__law_left (hr.mono (by decide)) rfl mg__law_left k__law_left b__law_left .nil pass0 (pa_cons (pv 0) (pa_cons (pv 1) pa_nil))))
      (pss_cons (ps_set (i := 4) nd rfl (by first | exact Or.inl rfl | exact Or.inr rfl) (pe_call G__law_told (hr.mono (by decide)) rfl mg__law_told k__law_told b__law_told .nil pass0 (pa_cons (pe_ix (r := rIxL K) ix_list (pv 2) pe_int (fun _ _ => rfl)) (pa_cons (pe_ix (r := rIxL K) ix_list (pv 2) pe_int (fun _ _ => rfl)) pa_nil))))
      (pss_cons (ps_if (pt_cmpR (r := rNeD K) (op_neD hr.units) (pv 2) (pe_lst (pa_cons (pv 0) (pa_cons (pv 1) pa_nil))) (nomark _)) (pss_one (ps_ret pe_bl)) pss_nil)
      (pss_cons (ps_if (pt_cmpR op_isN (pv 3) pe_non (nomark _)) (pss_one (ps_ret (pe_cmpR (r := rEqD K) (op_eqD hr.units) (pv 4) (pe_lst (pa_cons pe_non (pa_cons pe_str pa_nil))) (nomark _)))) pss_nil)
      (pss_cons (ps_if (PW.pt (pw_or (pt_cmpR op_ne (pe_ix (r := rIxL K) ix_list (pv 4) pe_int (fun _ _ => rfl)) pe_str (nomark _)) (pw_or1 (pt_not (pt_val (pe_call G__law_is_lot (hr.mono (by decide)) rfl mg__law_is_lot k__law_is_lot b__law_is_lot .nil pass0 (pa_cons (pe_ix (r := rIxL K) ix_list (pv 4) pe_int (fun _ _ => rfl)) (pa_cons (pv 3) pa_nil)))))))) (pss_one (ps_ret pe_bl)) pss_nil)
      (pss_cons (ps_expr (pe_bm PySem.F.plainAttrs_list PySem.F.slot_list_append PySem.F.type_list_append mt_append (pe_ix (r := rIxL K) ix_list (pv 4) pe_int (fun _ _ => rfl)) (pa_cons (pe_tup (pa_cons pe_int (pa_cons pe_int pa_nil))) pa_nil)))
      (pss_one (ps_ret (pe_cmpR (r := rEqD K) (op_eqD hr.units) (pv 2) (pe_lst (pa_cons (pv 0) (pa_cons (pv 1) pa_nil))) (nomark _))))))))))), ?_⟩
    have w := show Wp ce E0 H0 (m_law_right a0_lot a1_other) _ from w
    unfold m_law_right at w
    have hk : Hld K H0 F0 H0 [] := Hld.nil
    refine q_dasg (K := K) hk G w (Ev.nv (e_lst (e_lcons (Ev.nv (e_cb (e_cons (em_var rfl r0) ea_nil) a_list)) (e_lcons (Ev.nv (e_cb (e_cons (em_var rfl r1) ea_nil) a_list)) (el_nil (α := (List (Int × Int)))))) (by simp))) fun handed_1183 F_1184 H_1185 v_1187 g_1186 r_1188 hk w => ?_
    have G := G.tr g_1186
    have r0 := Rep.mo (K := K) g_1186.ff r0
    have r1 := Rep.mo (K := K) g_1186.ff r1
    refine q_dasg (K := K) hk G w (e_call0 (f := (fun a : ((List (Int × Int)) × (List (Int × Int)) × Unit) => m_law_left a.1 a.2.1)) (x := (a0_lot, a1_other, ())) (e_cons (em_var rfl r0) (e_cons (em_var rfl r1) ea_nil))) fun due_1189 F_1190 H_1191 v_1193 g_1192 r_1194 hk w => ?_
    have G := G.tr g_1192
    have r0 := Rep.mo (K := K) g_1192.ff r0
    have r1 := Rep.mo (K := K) g_1192.ff r1
    have r_1188 := Rep.mo (K := K) g_1192.ff r_1188
    refine q_dasgN (K := K) (s := (shpH (shpO (shpL (shpS (α := (Int × Int))))) (shpS (α := Wd)))) hk G w (em_call0 (f := (fun a : ((List (Int × Int)) × (List (Int × Int)) × Unit) => m_law_told a.1 a.2.1)) (ea_cons (em_op (em_var rfl r_1188) em_int fun _ _ => o_ixL) (ea_cons (em_op (em_var rfl r_1188) em_int fun _ _ => o_ixL) ea_nil))) fun told_1195 F_1196 H_1197 v_1199 g_1198 hk w => ?_
    have G := G.tr g_1198
    have r0 := Rep.mo (K := K) g_1198.ff r0
    have r1 := Rep.mo (K := K) g_1198.ff r1
    have r_1188 := Rep.mo (K := K) g_1198.ff r_1188
    have r_1194 := Rep.mo (K := K) g_1198.ff r_1194
    refine q_dif2 (K := K) hk G w (t_of (e2 (em_var rfl r_1188) (Ev.nv (e_lst (e_lcons (em_var rfl r0) (e_lcons (em_var rfl r1) (el_nil (α := (List (Int × Int)))))) (by simp))) (o_neD (by decide)))) (fun F_1210 H_1211 g_1212 hk w => ?_) (fun F_1210 H_1211 g_1212 hk w => ?_)
    · have G := G.tr g_1212
      have r0 := Rep.mo (K := K) g_1212.ff r0
      have r1 := Rep.mo (K := K) g_1212.ff r1
      have r_1188 := Rep.mo (K := K) g_1212.ff r_1188
      have r_1194 := Rep.mo (K := K) g_1212.ff r_1194
      exact d_ret (K := K) hk G w em_bl fun r F1 H1 v g m hk p => hQ r F1 H1 v g m p
    · have G := G.tr g_1212
      have r0 := Rep.mo (K := K) g_1212.ff r0
      have r1 := Rep.mo (K := K) g_1212.ff r1
      have r_1188 := Rep.mo (K := K) g_1212.ff r_1188
      have r_1194 := Rep.mo (K := K) g_1212.ff r_1194
      refine s_next ?_
      refine s_nx ?_
      refine q_dif2 (K := K) hk G w (t_of (e2 (em_var rfl r_1194) em_unit o_isN)) (fun F_1214 H_1215 g_1216 hk w => ?_) (fun F_1214 H_1215 g_1216 hk w => ?_)
      · have G := G.tr g_1216
        have r0 := Rep.mo (K := K) g_1216.ff r0
        have r1 := Rep.mo (K := K) g_1216.ff r1
        have r_1188 := Rep.mo (K := K) g_1216.ff r_1188
        have r_1194 := Rep.mo (K := K) g_1216.ff r_1194
        exact d_retA (K := K) hk G w (fun A hA => (e2 (em_var rfl (HAll.rd (l1 := []) hA G.fh)) (e_h2 (em_none (α := (List (Int × Int)))) (em_wd (by decide +kernel))) (o_eqD (by decide)))) fun r F1 H1 v g m hk p => hQ r F1 H1 v g m p
      · have G := G.tr g_1216
        have r0 := Rep.mo (K := K) g_1216.ff r0
        have r1 := Rep.mo (K := K) g_1216.ff r1
        have r_1188 := Rep.mo (K := K) g_1216.ff r_1188
        have r_1194 := Rep.mo (K := K) g_1216.ff r_1194
        refine s_next ?_
        refine s_nx ?_
        refine q_dif2A (K := K) hk G w (fun A hA => (tm_or (t_of (e2 (e2 (em_var rfl (HAll.rd (l1 := []) hA G.fh)) em_int (o_h2b rfl)) (em_wd (by decide +kernel)) o_neW)) (tm_not (t_B (em_call0 (f := (fun a : ((List (Int × Int)) × (List (Int × Int)) × Unit) => m_law_is_lot a.1 a.2.1)) (ea_cons (em_get (e2 (em_var rfl (HAll.rd (l1 := []) hA G.fh)) em_int (o_h2a rfl))) (ea_cons (em_get (em_var rfl (Rep.mo (fz_ex G.fh) r_1194))) ea_nil))))))) (fun F_1223 H_1224 g_1225 hk w => ?_) (fun F_1223 H_1224 g_1225 hk w => ?_)
        · have G := G.tr g_1225
          have r0 := Rep.mo (K := K) g_1225.ff r0
          have r1 := Rep.mo (K := K) g_1225.ff r1
          have r_1188 := Rep.mo (K := K) g_1225.ff r_1188
          have r_1194 := Rep.mo (K := K) g_1225.ff r_1194
          exact d_ret (K := K) hk G w em_bl fun r F1 H1 v g m hk p => hQ r F1 H1 v g m p
        · have G := G.tr g_1225
          have r0 := Rep.mo (K := K) g_1225.ff r0
          have r1 := Rep.mo (K := K) g_1225.ff r1
          have r_1188 := Rep.mo (K := K) g_1225.ff r_1188
          have r_1194 := Rep.mo (K := K) g_1225.ff r_1194
          refine s_next ?_
          refine s_nx ?_
          refine q_dapp hk G w (fun A hA => (evp_so (evp_ha hA G.fh (evp_var rfl)))) (eu_ev G.fh (Ev.vs (e_tup2 em_int em_int))) fun told_1230 F_1234 H_1235 e_1236 G hk w => ?_
          have r0 := Rep.mo (K := K) e_1236 r0
          have r1 := Rep.mo (K := K) e_1236 r1
          have r_1188 := Rep.mo (K := K) e_1236 r_1188
          have r_1194 := Rep.mo (K := K) e_1236 r_1194
          exact d_ret (K := K) hk G w (e2 (em_var rfl r_1188) (Ev.nv (e_lst (e_lcons (em_var rfl r0) (e_lcons (em_var rfl r1) (el_nil (α := (List (Int × Int)))))) (by simp))) (o_eqD (by decide))) fun r F1 H1 v g m hk p => hQ r F1 H1 v g m p
/-! ### law -/
abbrev s_law : Stmt := topS 20
abbrev N_law : List Str := ["script", "two", "whole"]
theorem sc_law : FnScope N_law ["script"] (defScope s_law) := ⟨rfl, rfl, rfl, by decide +kernel, rfl, by decide +kernel, by decide +kernel⟩
abbrev sp_law (K : PySem.W.Frag) (ce : Ce) : Sp := SpF0 ce (RC K (α := Scr) R0) (rv K (ρ := Bool)) (fun a : (Scr × Unit) => m_law a.1)
theorem ok_law {f : Addr} {fd : FuncData} (FF : Fun K "law" "law" s_law f fd) {a__law_lot : Addr} {d__law_lot : FuncData} (G__law_lot : FnOk P w K mg base CX0 1 a__law_lot d__law_lot ["pairs"] (sp_law_lot K ce)) (mg__law_lot : mg "_law_lot" = some (.ref a__law_lot)) (k__law_lot : PySem.W.keepIn K (.ref a__law_lot) = true) (b__law_lot : Binds K d__law_lot ["pairs"] []) {a__law_right : Addr} {d__law_right : FuncData} (G__law_right : FnOk P w K mg base CX0 4 a__law_right d__law_right ["lot", "other"] (sp_law_right K ce)) (mg__law_right : mg "_law_right" = some (.ref a__law_right)) (k__law_right : PySem.W.keepIn K (.ref a__law_right) = true) (b__law_right : Binds K d__law_right ["lot", "other"] []) {a__law_two : Addr} {d__law_two : FuncData} (G__law_two : FnOk P w K mg base CX0 3 a__law_two d__law_two ["script"] (sp_law_two K ce)) (mg__law_two : mg "_law_two" = some (.ref a__law_two)) (k__law_two : PySem.W.keepIn K (.ref a__law_two) = true) (b__law_two : Binds K d__law_two ["script"] []) : FnOk P w K mg base CX0 5 f fd ["script"] (sp_law K ce) := by
  refine FF.ok sc_law (fun vs H0 Q E h => ?_) (fun cdv A outer s H0 vs Q E hr h => ?_)
  · obtain ⟨F0, ⟨a0_script, _⟩, e0, ⟨v0, _, rfl, r0, rfl⟩, w⟩ := h
    rfl
  · obtain ⟨F0, ⟨a0_script, _⟩, e0, ⟨v0, _, rfl, r0, rfl⟩, w⟩ := h
    have w := wp_post w
    have G := Gr.rf e0
    have nd := sc_law.nd
    have hQ : ∀ r F1 H1 v, Gr F0 H0 F1 H1 → (rv K (ρ := Bool)) F0 H0 F1 H1 v r → Fin (rv K (ρ := Bool)) F0 H0 Q r → Q v H1 := fun r F1 H1 v g m p => p F1 H1 v g m
    refine ⟨_, (pss_cons (ps_set (i := 1) nd rfl (by first | exact Or.inl rfl | exact Or.inr rfl) (pe_call G__law_two (hr.mono (by decide)) rfl mg__law_two k__law_two b__law_two .nil pass0 (pa_cons (pv 0) pa_nil)))
      (pss_cons (ps_set (i := 2) nd rfl (by first | exact Or.inl rfl | exact Or.inr rfl) (pe_call G__law_lot (hr.mono (by decide)) rfl mg__law_lot k__law_lot b__law_lot .nil pass0 (pa_cons (pe_op op_cat (pe_ix (r := rIxL K) ix_list (pv 1) pe_int (fun _ _ => rfl)) (pe_ix (r := rIxL K) ix_list (pv 1) pe_int (fun _ _ => rfl))) pa_nil)))
      (pss_cons (ps_if (PW.pt (pw_or (pt_not (pt_val (pe_call G__law_right (hr.mono (by decide)) rfl mg__law_right k__law_right b__law_right .nil pass0 (pa_cons (pe_ix (r := rIxL K) ix_list (pv 1) pe_int (fun _ _ => rfl)) (pa_cons (pe_ix (r := rIxL K) ix_list (pv 1) pe_int (fun _ _ => rfl)) pa_nil))))) (pw_or1 (pt_not (pt_val (pe_call G__law_right (hr.mono (by decide)) rfl mg__law_right k__law_right b__law_right .nil pass0 (pa_cons (pe_ix (r := rIxL K) ix_list (pv 1) pe_int (fun _ _ => rfl)) (pa_cons (pe_ix (r := rIxL K) ix_list (pv 1) pe_int (fun _ _ => rfl)) pa_nil)))))))) (pss_one (ps_ret pe_bl)) pss_nil)
      (pss_cons (ps_if (PW.pt (pw_or (pt_not (pt_val (pe_call G__law_right (hr.mono (by decide)) rfl mg__law_right k__law_right b__law_right .nil pass0 (pa_cons (pv 2) (pa_cons (pe_ix (r := rIxL K) ix_list (pv 1) pe_int (fun _ _ => rfl)) pa_nil))))) (pw_or (pt_not (pt_val (pe_call G__law_right (hr.mono (by decide)) rfl mg__law_right k__law_right b__law_right .nil pass0 (pa_cons (pv 2) (pa_cons (pe_ix (r := rIxL K) ix_list (pv 1) pe_int (fun _ _ => rfl)) pa_nil))))) (pw_or1 (pt_not (pt_val (pe_call G__law_right (hr.mono (by decide)) rfl mg__law_right k__law_right b__law_right .nil pass0 (pa_cons (pv 2) (pa_cons (pv 2) pa_nil))))))))) (pss_one (ps_ret pe_bl)) pss_nil)
      (pss_one (ps_ret (pe_and (pe_call G__law_right (hr.mono (by decide)) rfl mg__law_right k__law_right b__law_right .nil pass0 (pa_cons (pe_ix (r := rIxL K) ix_list (pv 1) pe_int (fun _ _ => rfl)) (pa_cons (pe_lst pa_nil) pa_nil))) (pe_one (pe_call G__law_right (hr.mono (by decide)) rfl mg__law_right k__law_right b__law_right .nil pass0 (pa_cons (pe_lst pa_nil) (pa_cons (pe_ix (r := rIxL K) ix_list (pv 1) pe_int (fun _ _ => rfl)) pa_nil))))))))))), ?_⟩
    have w := show Wp ce E0 H0 (m_law a0_script) _ from w
    unfold m_law at w
    refine q_asg (K := K) G w (Ev.nv (e_call0 (f := (fun a : (Scr × Unit) => m_law_two a.1)) (x := (a0_script, ())) (e_cons (em_var rfl r0) ea_nil))) fun two_1311 F_1312 H_1313 v_1315 g_1314 r_1316 w => ?_
    have G := G.tr g_1314
    have r0 := Rep.mo (K := K) g_1314.ff r0
    refine q_asg (K := K) G w (Ev.nv (em_call0 (f := (fun a : ((List (Int × Int)) × Unit) => m_law_lot a.1)) (ea_cons (Ev.nv (em_op (em_op (em_var rfl r_1316) em_int fun _ _ => o_ixL) (em_op (em_var rfl r_1316) em_int fun _ _ => o_ixL) fun _ _ => o_cat)) ea_nil))) fun whole_1326 F_1327 H_1328 v_1330 g_1329 r_1331 w => ?_
    have G := G.tr g_1329
    have r0 := Rep.mo (K := K) g_1329.ff r0
    have r_1316 := Rep.mo (K := K) g_1329.ff r_1316
    refine q_if2 G w (tm_or (tm_not (t_B (em_call0 (f := (fun a : ((List (Int × Int)) × (List (Int × Int)) × Unit) => m_law_right a.1 a.2.1)) (ea_cons (em_op (em_var rfl r_1316) em_int fun _ _ => o_ixL) (ea_cons (em_op (em_var rfl r_1316) em_int fun _ _ => o_ixL) ea_nil))))) (tm_not (t_B (em_call0 (f := (fun a : ((List (Int × Int)) × (List (Int × Int)) × Unit) => m_law_right a.1 a.2.1)) (ea_cons (em_op (em_var rfl r_1316) em_int fun _ _ => o_ixL) (ea_cons (em_op (em_var rfl r_1316) em_int fun _ _ => o_ixL) ea_nil)))))) (fun F_1350 H_1351 g_1352 w => ?_) (fun F_1350 H_1351 g_1352 w => ?_)
    · have G := G.tr g_1352
      have r0 := Rep.mo (K := K) g_1352.ff r0
      have r_1316 := Rep.mo (K := K) g_1352.ff r_1316
      have r_1331 := Rep.mo (K := K) g_1352.ff r_1331
      exact s_ret0 G w em_bl fun r F1 H1 v g m p => hQ r F1 H1 v g m p
    · have G := G.tr g_1352
      have r0 := Rep.mo (K := K) g_1352.ff r0
      have r_1316 := Rep.mo (K := K) g_1352.ff r_1316
      have r_1331 := Rep.mo (K := K) g_1352.ff r_1331
      refine s_next ?_
      refine s_nx ?_
      refine q_if2 G w (tm_or (tm_not (t_B (em_call0 (f := (fun a : ((List (Int × Int)) × (List (Int × Int)) × Unit) => m_law_right a.1 a.2.1)) (ea_cons (em_var rfl r_1331) (ea_cons (em_op (em_var rfl r_1316) em_int fun _ _ => o_ixL) ea_nil))))) (tm_or (tm_not (t_B (em_call0 (f := (fun a : ((List (Int × Int)) × (List (Int × Int)) × Unit) => m_law_right a.1 a.2.1)) (ea_cons (em_var rfl r_1331) (ea_cons (em_op (em_var rfl r_1316) em_int fun _ _ => o_ixL) ea_nil))))) (tm_not (t_B (e_call0 (f := (fun a : ((List (Int × Int)) × (List (Int × Int)) × Unit) => m_law_right a.1 a.2.1)) (x := (whole_1326, whole_1326, ())) (e_cons (em_var rfl r_1331) (e_cons (em_var rfl r_1331) ea_nil))))))) (fun F_1367 H_1368 g_1369 w => ?_) (fun F_1367 H_1368 g_1369 w => ?_)
      · have G := G.tr g_1369
        have r0 := Rep.mo (K := K) g_1369.ff r0
        have r_1316 := Rep.mo (K := K) g_1369.ff r_1316
        have r_1331 := Rep.mo (K := K) g_1369.ff r_1331
        exact s_ret0 G w em_bl fun r F1 H1 v g m p => hQ r F1 H1 v g m p
      · have G := G.tr g_1369
        have r0 := Rep.mo (K := K) g_1369.ff r0
        have r_1316 := Rep.mo (K := K) g_1369.ff r_1316
        have r_1331 := Rep.mo (K := K) g_1369.ff r_1331
        refine s_next ?_
        refine s_nx ?_
        exact s_ret0 G w (em_andV (em_call0 (f := (fun a : ((List (Int × Int)) × (List (Int × Int)) × Unit) => m_law_right a.1 a.2.1)) (ea_cons (em_op (em_var rfl r_1316) em_int fun _ _ => o_ixL) (ea_cons (Ev.nv (e_lst (el_nil (α := (Int × Int))) (by decide))) ea_nil))) (em_call0 (f := (fun a : ((List (Int × Int)) × (List (Int × Int)) × Unit) => m_law_right a.1 a.2.1)) (ea_cons (Ev.nv (e_lst (el_nil (α := (Int × Int))) (by decide))) (ea_cons (em_op (em_var rfl r_1316) em_int fun _ _ => o_ixL) ea_nil)))) fun r F1 H1 v g m p => hQ r F1 H1 v g m p
end
def spLaw (K : PySem.W.Frag) : Sp := fun vs H Q _ => ∃ (a : Addr) (ns : List Int), vs = [.ref a] ∧ SqL K H a (ns.map V.int) ∧ ns.length ≤ 63 ∧ ∀ H', Q (.bl true) H'
theorem law_of {P : Program} {w : World} {K : PySem.W.Frag} {mg : Str → Option Value} {base : Heap} {ce : Ce} {k : Nat} {f : Addr} {fd : FuncData} (F : FnOk P w K mg base CX0 k f fd ["script"] (sp_law K ce)) : FnOk P w K mg base CX0 k f fd ["script"] (spLaw K) :=
  F.imp fun vs H Q E ⟨a, ns, h1, h2, h3, h4⟩ => ⟨H, (⟨ns⟩, ()), Ex.rf _, ⟨.ref a, [], h1, ⟨a, rfl, h2⟩, rfl⟩, by
    show Post ce (rv K) (m_law ⟨ns⟩) H H Q E0
    rw [law_true ns h3]
    intro F' H' v g r
    cases r
    exact h4 H'⟩
theorem all_mk {l : PySem.W.OpenLaw} {w : World} {K : PySem.W.Frag} {h : Heap} {mg : Str → Option Value} {fa f0 f1 f2 f3 f4 f5 f6 f7 f8 f9 f10 f11 f12 f13 C_NoGrains C_BadLot C_MeshError C_Unknown : Addr}  (X : K.In h) (G : h.Ns mainGlobals mg) (hfa : mg "law" = some (.ref fa))
    {od0 an0 : Option Addr} {sl0 : Array (Option Value)} {oc0 kV0 dc0 pm0 cd0 ct0 : Value}
    {od1 an1 : Option Addr} {sl1 : Array (Option Value)} {oc1 kV1 dc1 pm1 cd1 ct1 : Value}
    {od2 an2 : Option Addr} {sl2 : Array (Option Value)} {oc2 kV2 dc2 pm2 cd2 ct2 : Value}
    {od3 an3 : Option Addr} {sl3 : Array (Option Value)} {oc3 kV3 dc3 pm3 cd3 ct3 : Value}
    {od4 an4 : Option Addr} {sl4 : Array (Option Value)} {oc4 kV4 dc4 pm4 cd4 ct4 : Value}
    {od5 an5 : Option Addr} {sl5 : Array (Option Value)} {oc5 kV5 dc5 pm5 cd5 ct5 : Value}
    {od6 an6 : Option Addr} {sl6 : Array (Option Value)} {oc6 kV6 dc6 pm6 cd6 ct6 : Value}
    {od7 an7 : Option Addr} {sl7 : Array (Option Value)} {oc7 kV7 dc7 pm7 cd7 ct7 : Value}
    {od8 an8 : Option Addr} {sl8 : Array (Option Value)} {oc8 kV8 dc8 pm8 cd8 ct8 : Value}
    {od9 an9 : Option Addr} {sl9 : Array (Option Value)} {oc9 kV9 dc9 pm9 cd9 ct9 : Value}
    {od10 an10 : Option Addr} {sl10 : Array (Option Value)} {oc10 kV10 dc10 pm10 cd10 ct10 : Value}
    {od11 an11 : Option Addr} {sl11 : Array (Option Value)} {oc11 kV11 dc11 pm11 cd11 ct11 : Value}
    {od12 an12 : Option Addr} {sl12 : Array (Option Value)} {oc12 kV12 dc12 pm12 cd12 ct12 : Value}
    {od13 an13 : Option Addr} {sl13 : Array (Option Value)} {oc13 kV13 dc13 pm13 cd13 ct13 : Value}
    (a0 : PySem.W.nsIn K mainGlobals "_law_lot" = some (some (.ref f0))) (l0 : K.lookup f0 = some ⟨oc0, od0, .func (PySem.W.fnOf "_law_lot" "_law_lot" (defArgs s_law_lot) (defBody s_law_lot) (defScope s_law_lot) .none kV0 dc0 pm0 an0 cd0 ct0), sl0⟩) (c0 : PySem.W.codeIn K cd0 "_law_lot" = true) (k0 : PySem.W.keepIn K (.ref f0) = true)
    (a1 : PySem.W.nsIn K mainGlobals "_law_size" = some (some (.ref f1))) (l1 : K.lookup f1 = some ⟨oc1, od1, .func (PySem.W.fnOf "_law_size" "_law_size" (defArgs s_law_size) (defBody s_law_size) (defScope s_law_size) .none kV1 dc1 pm1 an1 cd1 ct1), sl1⟩) (c1 : PySem.W.codeIn K cd1 "_law_size" = true) (k1 : PySem.W.keepIn K (.ref f1) = true)
    (a2 : PySem.W.nsIn K mainGlobals "_law_many" = some (some (.ref f2))) (l2 : K.lookup f2 = some ⟨oc2, od2, .func (PySem.W.fnOf "_law_many" "_law_many" (defArgs s_law_many) (defBody s_law_many) (defScope s_law_many) .none kV2 dc2 pm2 an2 cd2 ct2), sl2⟩) (c2 : PySem.W.codeIn K cd2 "_law_many" = true) (k2 : PySem.W.keepIn K (.ref f2) = true)
    (a3 : PySem.W.nsIn K mainGlobals "_law_pairs" = some (some (.ref f3))) (l3 : K.lookup f3 = some ⟨oc3, od3, .func (PySem.W.fnOf "_law_pairs" "_law_pairs" (defArgs s_law_pairs) (defBody s_law_pairs) (defScope s_law_pairs) .none kV3 dc3 pm3 an3 cd3 ct3), sl3⟩) (c3 : PySem.W.codeIn K cd3 "_law_pairs" = true) (k3 : PySem.W.keepIn K (.ref f3) = true)
    (a4 : PySem.W.nsIn K mainGlobals "_law_cell_at" = some (some (.ref f4))) (l4 : K.lookup f4 = some ⟨oc4, od4, .func (PySem.W.fnOf "_law_cell_at" "_law_cell_at" (defArgs s_law_cell_at) (defBody s_law_cell_at) (defScope s_law_cell_at) .none kV4 dc4 pm4 an4 cd4 ct4), sl4⟩) (c4 : PySem.W.codeIn K cd4 "_law_cell_at" = true) (k4 : PySem.W.keepIn K (.ref f4) = true)
    (a5 : PySem.W.nsIn K mainGlobals "_law_two" = some (some (.ref f5))) (l5 : K.lookup f5 = some ⟨oc5, od5, .func (PySem.W.fnOf "_law_two" "_law_two" (defArgs s_law_two) (defBody s_law_two) (defScope s_law_two) .none kV5 dc5 pm5 an5 cd5 ct5), sl5⟩) (c5 : PySem.W.codeIn K cd5 "_law_two" = true) (k5 : PySem.W.keepIn K (.ref f5) = true)
    (a6 : PySem.W.nsIn K mainGlobals "_law_left" = some (some (.ref f6))) (l6 : K.lookup f6 = some ⟨oc6, od6, .func (PySem.W.fnOf "_law_left" "_law_left" (defArgs s_law_left) (defBody s_law_left) (defScope s_law_left) .none kV6 dc6 pm6 an6 cd6 ct6), sl6⟩) (c6 : PySem.W.codeIn K cd6 "_law_left" = true) (k6 : PySem.W.keepIn K (.ref f6) = true)
    (a7 : PySem.W.nsIn K mainGlobals "rising" = some (some (.ref f7))) (l7 : K.lookup f7 = some ⟨oc7, od7, .func (PySem.W.fnOf "rising" "rising" (defArgs s_rising) (defBody s_rising) (defScope s_rising) .none kV7 dc7 pm7 an7 cd7 ct7), sl7⟩) (c7 : PySem.W.codeIn K cd7 "rising" = true) (k7 : PySem.W.keepIn K (.ref f7) = true)
    (a8 : PySem.W.nsIn K mainGlobals "taken_out" = some (some (.ref f8))) (l8 : K.lookup f8 = some ⟨oc8, od8, .func (PySem.W.fnOf "taken_out" "taken_out" (defArgs s_taken_out) (defBody s_taken_out) (defScope s_taken_out) .none kV8 dc8 pm8 an8 cd8 ct8), sl8⟩) (c8 : PySem.W.codeIn K cd8 "taken_out" = true) (k8 : PySem.W.keepIn K (.ref f8) = true)
    (a9 : PySem.W.nsIn K mainGlobals "_law_told" = some (some (.ref f9))) (l9 : K.lookup f9 = some ⟨oc9, od9, .func (PySem.W.fnOf "_law_told" "_law_told" (defArgs s_law_told) (defBody s_law_told) (defScope s_law_told) .none kV9 dc9 pm9 an9 cd9 ct9), sl9⟩) (c9 : PySem.W.codeIn K cd9 "_law_told" = true) (k9 : PySem.W.keepIn K (.ref f9) = true)
    (a10 : PySem.W.nsIn K mainGlobals "_law_whole" = some (some (.ref f10))) (l10 : K.lookup f10 = some ⟨oc10, od10, .func (PySem.W.fnOf "_law_whole" "_law_whole" (defArgs s_law_whole) (defBody s_law_whole) (defScope s_law_whole) .none kV10 dc10 pm10 an10 cd10 ct10), sl10⟩) (c10 : PySem.W.codeIn K cd10 "_law_whole" = true) (k10 : PySem.W.keepIn K (.ref f10) = true)
    (a11 : PySem.W.nsIn K mainGlobals "_law_is_lot" = some (some (.ref f11))) (l11 : K.lookup f11 = some ⟨oc11, od11, .func (PySem.W.fnOf "_law_is_lot" "_law_is_lot" (defArgs s_law_is_lot) (defBody s_law_is_lot) (defScope s_law_is_lot) .none kV11 dc11 pm11 an11 cd11 ct11), sl11⟩) (c11 : PySem.W.codeIn K cd11 "_law_is_lot" = true) (k11 : PySem.W.keepIn K (.ref f11) = true)
    (a12 : PySem.W.nsIn K mainGlobals "_law_right" = some (some (.ref f12))) (l12 : K.lookup f12 = some ⟨oc12, od12, .func (PySem.W.fnOf "_law_right" "_law_right" (defArgs s_law_right) (defBody s_law_right) (defScope s_law_right) .none kV12 dc12 pm12 an12 cd12 ct12), sl12⟩) (c12 : PySem.W.codeIn K cd12 "_law_right" = true) (k12 : PySem.W.keepIn K (.ref f12) = true)
    (a13 : PySem.W.nsIn K mainGlobals "law" = some (some (.ref f13))) (l13 : K.lookup f13 = some ⟨oc13, od13, .func (PySem.W.fnOf "law" "law" (defArgs s_law) (defBody s_law) (defScope s_law) .none kV13 dc13 pm13 an13 cd13 ct13), sl13⟩) (c13 : PySem.W.codeIn K cd13 "law" = true) (k13 : PySem.W.keepIn K (.ref f13) = true)
    (ea_NoGrains : PySem.W.nsIn K mainGlobals "NoGrains" = some (some (.ref C_NoGrains))) (ex_NoGrains : PySem.W.excIn K C_NoGrains [.type "ValueError", .type "Exception", .type "BaseException", .type "object"] "ValueError.__new__" = true) (ek_NoGrains : PySem.W.keepIn K (.ref C_NoGrains) = true) (eb_NoGrains : PySem.W.subIn K (.ref C_NoGrains) (.type "BaseException") = some true) (et_NoGrains : PySem.W.typeIn K (.ref C_NoGrains) = some (.type "type"))
    (z_ValueError : PySem.W.nsIn K mainGlobals "ValueError" = some none)
    (z_bool : PySem.W.nsIn K mainGlobals "bool" = some none)
    (z_dict : PySem.W.nsIn K mainGlobals "dict" = some none)
    (z_int : PySem.W.nsIn K mainGlobals "int" = some none)
    (z_isinstance : PySem.W.nsIn K mainGlobals "isinstance" = some none)
    (z_len : PySem.W.nsIn K mainGlobals "len" = some none)
    (z_list : PySem.W.nsIn K mainGlobals "list" = some none)
    (z_range : PySem.W.nsIn K mainGlobals "range" = some none)
    (z_sorted : PySem.W.nsIn K mainGlobals "sorted" = some none)
    (z_sum : PySem.W.nsIn K mainGlobals "sum" = some none)
    (z_tuple : PySem.W.nsIn K mainGlobals "tuple" = some none)
    (ea_BadLot : PySem.W.nsIn K mainGlobals "BadLot" = some (some (.ref C_BadLot)))
    (ea_MeshError : PySem.W.nsIn K mainGlobals "MeshError" = some (some (.ref C_MeshError)))
    (ea_Unknown : PySem.W.nsIn K mainGlobals "Unknown" = some (some (.ref C_Unknown)))
    (hi_NoGrains_BadLot : PySem.W.kitOne K (.ref C_NoGrains) (.ref C_BadLot) = some false)
    (hi_NoGrains_NoGrains : PySem.W.kitOne K (.ref C_NoGrains) (.ref C_NoGrains) = some true)
    (hi_NoGrains_Unknown : PySem.W.kitOne K (.ref C_NoGrains) (.ref C_Unknown) = some false)
    (hi_NoGrains_ValueError : PySem.W.kitOne K (.ref C_NoGrains) (.type "ValueError") = some true)
    (xq0_NoGrains : PySem.W.findIn K (.ref C_NoGrains) "__getattribute__" = some (some (.builtin "BaseException.__getattribute__")))
    (xq1_NoGrains : PySem.W.findIn K (.ref C_NoGrains) "__getattr__" = some none)
    (xq2_NoGrains : PySem.W.subIn K (.ref C_NoGrains) (.type "BaseException") = some true)
    (xq3_NoGrains : PySem.W.hasDictIn K C_NoGrains = true)
    (xq4_NoGrains : PySem.W.findIn K (.ref C_NoGrains) "__class__" = some (some (.builtin "object.__class__")))
    (xq5_NoGrains : PySem.W.mroIn K C_NoGrains (.type "object") = some true)
    (hm_NoGrains_MeshError : PySem.W.exmOne K (.ref C_NoGrains) (.ref C_MeshError) = some true)
    (xqA : PySem.W.specialIn K (.builtin "object.__class__") "__get__" = some (some (.builtin "getset_descriptor.__get__"))) (xqB : PySem.W.takesIn K (.builtin "object.__class__") = some true) :
    ∃ fd : FuncData, (∀ (s : Shared) (v : Value), BindsTo s fd ⟨[v], []⟩ [("script", v)]) ∧ ∀ base : Heap, K.In base → base.Ns mainGlobals mg → FnOk l.prog w K mg base CX0 5 fa fd ["script"] (spLaw K) := by
  have e := hfa.symm.trans (PySem.W.mg_of X G a13)
  cases e
  let ce : Ce := fun n => if n = "Unknown" then C_Unknown else (fun n => if n = "MeshError" then C_MeshError else (fun n => if n = "BadLot" then C_BadLot else (fun n => if n = "NoGrains" then C_NoGrains else (fun _ => 0) n) n) n) n
  have x_NoGrains : ErrC K mg (ce "NoGrains") "NoGrains" := by
    rw [show ce "NoGrains" = C_NoGrains from by simp [ce]]
    exact ⟨PySem.W.mg_of X G ea_NoGrains, ex_NoGrains, ek_NoGrains, eb_NoGrains, et_NoGrains⟩
  have mc_BadLot : mg "BadLot" = some (.ref (ce "BadLot")) := by
    rw [show ce "BadLot" = C_BadLot from by simp [ce]]
    exact PySem.W.mg_of X G ea_BadLot
  have mc_MeshError : mg "MeshError" = some (.ref (ce "MeshError")) := by
    rw [show ce "MeshError" = C_MeshError from by simp [ce]]
    exact PySem.W.mg_of X G ea_MeshError
  have mc_NoGrains : mg "NoGrains" = some (.ref (ce "NoGrains")) := by
    rw [show ce "NoGrains" = C_NoGrains from by simp [ce]]
    exact PySem.W.mg_of X G ea_NoGrains
  have mc_Unknown : mg "Unknown" = some (.ref (ce "Unknown")) := by
    rw [show ce "Unknown" = C_Unknown from by simp [ce]]
    exact PySem.W.mg_of X G ea_Unknown
  have ki_NoGrains_BadLot : PySem.W.kitOne K (.ref (ce "NoGrains")) (.ref (ce "BadLot")) = some false := by
    rw [show ce "NoGrains" = C_NoGrains from by simp [ce], show ce "BadLot" = C_BadLot from by simp [ce]]
    exact hi_NoGrains_BadLot
  have ki_NoGrains_NoGrains : PySem.W.kitOne K (.ref (ce "NoGrains")) (.ref (ce "NoGrains")) = some true := by
    rw [show ce "NoGrains" = C_NoGrains from by simp [ce]]
    exact hi_NoGrains_NoGrains
  have ki_NoGrains_Unknown : PySem.W.kitOne K (.ref (ce "NoGrains")) (.ref (ce "Unknown")) = some false := by
    rw [show ce "NoGrains" = C_NoGrains from by simp [ce], show ce "Unknown" = C_Unknown from by simp [ce]]
    exact hi_NoGrains_Unknown
  have ki_NoGrains_ValueError : PySem.W.kitOne K (.ref (ce "NoGrains")) (.type "ValueError") = some true := by
    rw [show ce "NoGrains" = C_NoGrains from by simp [ce]]
    exact hi_NoGrains_ValueError
  have xc_NoGrains : ExcC K (ce "NoGrains") := by
    rw [show ce "NoGrains" = C_NoGrains from by simp [ce]]
    exact ⟨xq0_NoGrains, xq1_NoGrains, xq2_NoGrains, xq3_NoGrains, xq4_NoGrains, xqA, xqB, xq5_NoGrains⟩
  have xm_NoGrains_MeshError : PySem.W.exmOne K (.ref (ce "NoGrains")) (.ref (ce "MeshError")) = some true := by
    rw [show ce "NoGrains" = C_NoGrains from by simp [ce], show ce "MeshError" = C_MeshError from by simp [ce]]
    exact hm_NoGrains_MeshError
  have z_ValueError := PySem.W.mg_none_of X G z_ValueError
  have z_bool := PySem.W.mg_none_of X G z_bool
  have z_dict := PySem.W.mg_none_of X G z_dict
  have z_int := PySem.W.mg_none_of X G z_int
  have z_isinstance := PySem.W.mg_none_of X G z_isinstance
  have z_len := PySem.W.mg_none_of X G z_len
  have z_list := PySem.W.mg_none_of X G z_list
  have z_range := PySem.W.mg_none_of X G z_range
  have z_sorted := PySem.W.mg_none_of X G z_sorted
  have z_sum := PySem.W.mg_none_of X G z_sum
  have z_tuple := PySem.W.mg_none_of X G z_tuple
  have F0 := fun_mk (st := s_law_lot) l0 c0 k0
  have b__law_lot := F0.binds (ps := ["pairs"]) fun _ _ _ _ _ _ us hl => match us, hl with | [_], _ => rfl
  have mg__law_lot := PySem.W.mg_of X G a0
  have F1 := fun_mk (st := s_law_size) l1 c1 k1
  have b__law_size := F1.binds (ps := ["cell"]) fun _ _ _ _ _ _ us hl => match us, hl with | [_], _ => rfl
  have mg__law_size := PySem.W.mg_of X G a1
  have F2 := fun_mk (st := s_law_many) l2 c2 k2
  have b__law_many := F2.binds (ps := ["cell"]) fun _ _ _ _ _ _ us hl => match us, hl with | [_], _ => rfl
  have mg__law_many := PySem.W.mg_of X G a2
  have F3 := fun_mk (st := s_law_pairs) l3 c3 k3
  have b__law_pairs := F3.binds (ps := ["cells"]) fun _ _ _ _ _ _ us hl => match us, hl with | [_], _ => rfl
  have mg__law_pairs := PySem.W.mg_of X G a3
  have F4 := fun_mk (st := s_law_cell_at) l4 c4 k4
  have b__law_cell_at := F4.binds (ps := ["script", "k"]) fun _ _ _ _ _ _ us hl => match us, hl with | [_, _], _ => rfl
  have mg__law_cell_at := PySem.W.mg_of X G a4
  have F5 := fun_mk (st := s_law_two) l5 c5 k5
  have b__law_two := F5.binds (ps := ["script"]) fun _ _ _ _ _ _ us hl => match us, hl with | [_], _ => rfl
  have mg__law_two := PySem.W.mg_of X G a5
  have F6 := fun_mk (st := s_law_left) l6 c6 k6
  have b__law_left := F6.binds (ps := ["lot", "other"]) fun _ _ _ _ _ _ us hl => match us, hl with | [_, _], _ => rfl
  have mg__law_left := PySem.W.mg_of X G a6
  have F7 := fun_mk (st := s_rising) l7 c7 k7
  have b_rising := F7.binds (ps := ["counted"]) fun _ _ _ _ _ _ us hl => match us, hl with | [_], _ => rfl
  have mg_rising := PySem.W.mg_of X G a7
  have F8 := fun_mk (st := s_taken_out) l8 c8 k8
  have b_taken_out := F8.binds (ps := ["lot", "other"]) fun _ _ _ _ _ _ us hl => match us, hl with | [_, _], _ => rfl
  have mg_taken_out := PySem.W.mg_of X G a8
  have F9 := fun_mk (st := s_law_told) l9 c9 k9
  have b__law_told := F9.binds (ps := ["lot", "other"]) fun _ _ _ _ _ _ us hl => match us, hl with | [_, _], _ => rfl
  have mg__law_told := PySem.W.mg_of X G a9
  have F10 := fun_mk (st := s_law_whole) l10 c10 k10
  have b__law_whole := F10.binds (ps := ["found"]) fun _ _ _ _ _ _ us hl => match us, hl with | [_], _ => rfl
  have mg__law_whole := PySem.W.mg_of X G a10
  have F11 := fun_mk (st := s_law_is_lot) l11 c11 k11
  have b__law_is_lot := F11.binds (ps := ["found", "due"]) fun _ _ _ _ _ _ us hl => match us, hl with | [_, _], _ => rfl
  have mg__law_is_lot := PySem.W.mg_of X G a11
  have F12 := fun_mk (st := s_law_right) l12 c12 k12
  have b__law_right := F12.binds (ps := ["lot", "other"]) fun _ _ _ _ _ _ us hl => match us, hl with | [_, _], _ => rfl
  have mg__law_right := PySem.W.mg_of X G a12
  have F13 := fun_mk (st := s_law) l13 c13 k13
  refine ⟨PySem.W.fnOf "law" "law" (defArgs s_law) (defBody s_law) (defScope s_law) .none kV13 dc13 pm13 an13 cd13 ct13, fun s v => .of_eq rfl, fun base _ _ => ?_⟩
  have G__law_lot := ok_law_lot (P := l.prog) (w := w) (mg := mg) (base := base) (ce := ce) F0 z_dict z_list z_sorted z_sum
  have G__law_size := ok_law_size (P := l.prog) (w := w) (mg := mg) (base := base) (ce := ce) F1
  have G__law_many := ok_law_many (P := l.prog) (w := w) (mg := mg) (base := base) (ce := ce) F2
  have G__law_pairs := ok_law_pairs (P := l.prog) (w := w) (mg := mg) (base := base) (ce := ce) F3 G__law_many mg__law_many k2 b__law_many G__law_size mg__law_size k1 b__law_size
  have G__law_cell_at := ok_law_cell_at (P := l.prog) (w := w) (mg := mg) (base := base) (ce := ce) F4 z_len
  have G__law_two := ok_law_two (P := l.prog) (w := w) (mg := mg) (base := base) (ce := ce) F5 G__law_cell_at mg__law_cell_at k4 b__law_cell_at G__law_lot mg__law_lot k0 b__law_lot G__law_pairs mg__law_pairs k3 b__law_pairs
  have G__law_left := ok_law_left (P := l.prog) (w := w) (mg := mg) (base := base) (ce := ce) F6 z_dict
  have G_rising := ok_rising (P := l.prog) (w := w) (mg := mg) (base := base) (ce := ce) F7 z_list z_sorted
  have G_taken_out := ok_taken_out (P := l.prog) (w := w) (mg := mg) (base := base) (ce := ce) F8 x_NoGrains G_rising mg_rising k7 b_rising z_dict
  have G__law_told := ok_law_told (P := l.prog) (w := w) (mg := mg) (base := base) (ce := ce) F9 mc_BadLot mc_MeshError mc_NoGrains mc_Unknown G_taken_out mg_taken_out k8 b_taken_out ki_NoGrains_BadLot ki_NoGrains_NoGrains ki_NoGrains_Unknown ki_NoGrains_ValueError xc_NoGrains xm_NoGrains_MeshError z_ValueError z_isinstance
  have G__law_whole := ok_law_whole (P := l.prog) (w := w) (mg := mg) (base := base) (ce := ce) F10 z_bool z_int z_isinstance
  have G__law_is_lot := ok_law_is_lot (P := l.prog) (w := w) (mg := mg) (base := base) (ce := ce) F11 G__law_whole mg__law_whole k10 b__law_whole z_isinstance z_len z_list z_range z_tuple
  have G__law_right := ok_law_right (P := l.prog) (w := w) (mg := mg) (base := base) (ce := ce) F12 G__law_is_lot mg__law_is_lot k11 b__law_is_lot G__law_left mg__law_left k6 b__law_left G__law_told mg__law_told k9 b__law_told z_list
  exact law_of (ok_law (mg := mg) (ce := ce) F13 G__law_lot mg__law_lot k0 b__law_lot G__law_right mg__law_right k12 b__law_right G__law_two mg__law_two k5 b__law_two)
end Kx
open PySem PySem.W PyProof.Rows L2 Mw
set_option maxRecDepth 100000 in
set_option maxHeartbeats 0 in
theorem PySem.Challenge.cw_meshworks_k04_taken_out_holds : PySem.Challenge.rw_meshworks_k04_taken_out.Holds := by
  w_on; o_law; k_head; (case hw => w_witness2)
  k_fill
  refine L2.walk_of (l := PySem.Challenge.rw_meshworks_k04_taken_out) (n := 63) (k := 5) (x := "script") (CX := fun _ => L2.CX0) (sp := fun w => Kx.spLaw _) rfl (by decide) rfl ⟨rfl, by decide, by decide⟩ (fun w h Y => PySem.W.kIn_of Y) ?F (fun _ _ a ns hl _ hS => ⟨a, ns, rfl, hS, hl, fun _ => rfl⟩) (fun _ _ _ _ _ h => h)
  case F =>
    intro w mg fa h KX G hmg
    refine' Kx.all_mk KX G hmg ?a0 ?l0 ?c0 ?k0 ?a1 ?l1 ?c1 ?k1 ?a2 ?l2 ?c2 ?k2 ?a3 ?l3 ?c3 ?k3 ?a4 ?l4 ?c4 ?k4 ?a5 ?l5 ?c5 ?k5 ?a6 ?l6 ?c6 ?k6 ?a7 ?l7 ?c7 ?k7 ?a8 ?l8 ?c8 ?k8 ?a9 ?l9 ?c9 ?k9 ?a10 ?l10 ?c10 ?k10 ?a11 ?l11 ?c11 ?k11 ?a12 ?l12 ?c12 ?k12 ?a13 ?l13 ?c13 ?k13 ?ea_NoGrains ?ex_NoGrains ?ek_NoGrains ?eb_NoGrains ?et_NoGrains ?z_ValueError ?z_bool ?z_dict ?z_int ?z_isinstance ?z_len ?z_list ?z_range ?z_sorted ?z_sum ?z_tuple ?ea_BadLot ?ea_MeshError ?ea_Unknown ?hi_NoGrains_BadLot ?hi_NoGrains_NoGrains ?hi_NoGrains_Unknown ?hi_NoGrains_ValueError ?xq0_NoGrains ?xq1_NoGrains ?xq2_NoGrains ?xq3_NoGrains ?xq4_NoGrains ?xq5_NoGrains ?hm_NoGrains_MeshError ?xqA ?xqB
    (case ea_NoGrains => k_is)
    (case ea_BadLot => k_is)
    (case ea_MeshError => k_is)
    (case ea_Unknown => k_is)
    (case a0 => k_is)
    (case l0 => k_is)
    (case c0 => k_is)
    (case k0 => k_is)
    (case a1 => k_is)
    (case l1 => k_is)
    (case c1 => k_is)
    (case k1 => k_is)
    (case a2 => k_is)
    (case l2 => k_is)
    (case c2 => k_is)
    (case k2 => k_is)
    (case a3 => k_is)
    (case l3 => k_is)
    (case c3 => k_is)
    (case k3 => k_is)
    (case a4 => k_is)
    (case l4 => k_is)
    (case c4 => k_is)
    (case k4 => k_is)
    (case a5 => k_is)
    (case l5 => k_is)
    (case c5 => k_is)
    (case k5 => k_is)
    (case a6 => k_is)
    (case l6 => k_is)
    (case c6 => k_is)
    (case k6 => k_is)
    (case a7 => k_is)
    (case l7 => k_is)
    (case c7 => k_is)
    (case k7 => k_is)
    (case a8 => k_is)
    (case l8 => k_is)
    (case c8 => k_is)
    (case k8 => k_is)
    (case a9 => k_is)
    (case l9 => k_is)
    (case c9 => k_is)
    (case k9 => k_is)
    (case a10 => k_is)
    (case l10 => k_is)
    (case c10 => k_is)
    (case k10 => k_is)
    (case a11 => k_is)
    (case l11 => k_is)
    (case c11 => k_is)
    (case k11 => k_is)
    (case a12 => k_is)
    (case l12 => k_is)
    (case c12 => k_is)
    (case k12 => k_is)
    (case a13 => k_is)
    (case l13 => k_is)
    (case c13 => k_is)
    (case k13 => k_is)
    (case ex_NoGrains => k_exc)
    (case ek_NoGrains => k_is)
    (case eb_NoGrains => k_is)
    (case et_NoGrains => k_is)
    (case z_ValueError => k_is)
    (case z_bool => k_is)
    (case z_dict => k_is)
    (case z_int => k_is)
    (case z_isinstance => k_is)
    (case z_len => k_is)
    (case z_list => k_is)
    (case z_range => k_is)
    (case z_sorted => k_is)
    (case z_sum => k_is)
    (case z_tuple => k_is)
    (case hi_NoGrains_BadLot => exact (kit_own (by k_is) (by k_is) (by k_is) (by decide)))
    (case hi_NoGrains_NoGrains => exact (kit_own (by k_is) (by k_is) (by k_is) (by decide)))
    (case hi_NoGrains_Unknown => exact (kit_own (by k_is) (by k_is) (by k_is) (by decide)))
    (case hi_NoGrains_ValueError => exact (kit_bt (by decide +kernel) (by k_is)))
    (case xq0_NoGrains => k_is)
    (case xq1_NoGrains => k_is)
    (case xq2_NoGrains => k_is)
    (case xq3_NoGrains => k_is)
    (case xq4_NoGrains => k_is)
    (case xq5_NoGrains => k_is)
    (case hm_NoGrains_MeshError => exact PySem.W.exm_ref (by k_is) (by k_is) (by k_is) (by k_is))
    (case xqA => k_is)
    (case xqB => k_is)
