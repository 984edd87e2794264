import PyProof.Rows.All
import Wide.All
import OpenK.AllK
import Wide.FinOn
import HandS.ForMost
import HandS.ForExc
import HandS.Wide
import HandS.SortInts
import HandS.SortRule
import HandS.IsInst
import HandS.ExcIs
import HandS.Flow
import HandS.Style
import HandS.Conv
import HandS.More
import HandS.Evl
import HandS.ForDict
import HandS.Strs
import HandS.SetFor
import HandS.TupSets
import PySem.Challenge.RW_meshworks_k27_where_works_part
set_option Elab.async false
set_option linter.all false
set_option maxRecDepth 100000
set_option maxHeartbeats 2000000
/-! Mw, part A: data by their types, what represents them; the monad of the mirrors; what an expression tells. -/
namespace Mw
open PySem L2
abbrev Ex (H H' : Hp) : Prop := ∀ a o, H a = some o → H' a = some o
theorem Ex.rf (H : Hp) : Ex H H := fun _ _ h => h
theorem Ex.tr {H H1 H2 : Hp} (a : Ex H H1) (b : Ex H1 H2) : Ex H H2 := fun x o h => b x o (a x o h)
theorem Ex.nw {H : Hp} {p : Addr} {o : HO} (h : H p = none) : Ex H (upd H p o) := fun a u e => by
  rw [upd_ne (ne_of_none e h)]
  exact e
theorem ex_rd {H H' : Hp} {a : Addr} {u : HO} (e : Ex H H') (h : Rd H a u) : Rd H' a u := by
  rcases h with h | ⟨o, h⟩
  · exact Or.inl (e a _ h)
  · exact Or.inr ⟨o, e a _ h⟩
theorem ex_l {K : PySem.W.Frag} {H H' : Hp} {a : Addr} {xs : List V} (e : Ex H H') (h : SqL K H a xs) : SqL K H' a xs := by
  rcases h with h | h
  · exact Or.inl (ex_rd e h)
  · exact Or.inr h
theorem ex_t {K : PySem.W.Frag} {H H' : Hp} {a : Addr} {xs : List V} (e : Ex H H') (h : SqT K H a xs) : SqT K H' a xs := by
  rcases h with h | h
  · exact Or.inl (ex_rd e h)
  · exact Or.inr h

/-! ### what the frame may lean on (F), and all that is tracked (H): both grow -/
structure Gr (F H F' H' : Hp) : Prop where
  ff : Ex F F'
  fh : Ex F' H'
  hh : Ex H H'
  nw : ∀ b, F b = none → H b ≠ none → F' b = none
theorem Gr.rf {F H : Hp} (h : Ex F H) : Gr F H F H := ⟨Ex.rf _, h, Ex.rf _, fun _ a _ => a⟩
theorem Ex.ne {H H' : Hp} (h : Ex H H') {b : Addr} (n : H b ≠ none) : H' b ≠ none := by
  cases e : H b with
  | none => exact absurd e n
  | some o => rw [h b o e]; exact fun z => by cases z
theorem Gr.tr {F H F1 H1 F2 H2 : Hp} (a : Gr F H F1 H1) (b : Gr F1 H1 F2 H2) : Gr F H F2 H2 :=
  ⟨a.ff.tr b.ff, b.fh, a.hh.tr b.hh, fun c h1 h2 => b.nw c (a.nw c h1 h2) (a.hh.ne h2)⟩
/-- a new object that all may lean on -/
theorem Gr.new {F H : Hp} {p : Addr} {o : HO} (h : Ex F H) (n : H p = none) : Gr F H (upd F p o) (upd H p o) where
  ff := fun a u e => by
    have : a ≠ p := fun z => by subst z; rw [h a u e] at n; cases n
    rw [upd_ne this]; exact e
  fh := fun a u e => by
    by_cases z : a = p
    · subst z; rw [upd_same] at e ⊢; exact e
    · rw [upd_ne z] at e ⊢; exact h a u e
  hh := Ex.nw n
  nw := fun b h1 h2 => by
    have : b ≠ p := fun z => by subst z; exact h2 n
    rw [upd_ne this]; exact h1
/-- a new object of one's own -/
theorem Gr.own {F H : Hp} {p : Addr} {o : HO} (h : Ex F H) (n : H p = none) : Gr F H F (upd H p o) where
  ff := Ex.rf _
  fh := fun a u e => by
    have : a ≠ p := fun z => by subst z; rw [h a u e] at n; cases n
    rw [upd_ne this]; exact h a u e
  hh := Ex.nw n
  nw := fun b h1 _ => h1
/-- one's own object is changed -/
theorem Gr.mut {F0 H0 F H : Hp} {p : Addr} {o : HO} (g : Gr F0 H0 F H) (n0 : H0 p = none) (nf : F p = none) : Gr F0 H0 F (upd H p o) where
  ff := g.ff
  fh := fun a u e => by
    have : a ≠ p := fun z => by subst z; rw [e] at nf; cases nf
    rw [upd_ne this]; exact g.fh a u e
  hh := fun a u e => by
    have : a ≠ p := fun z => by subst z; rw [e] at n0; cases n0
    rw [upd_ne this]; exact g.hh a u e
  nw := g.nw
theorem ex_back {H H' : Hp} {p : Addr} (e : Ex H H') (h : H' p = none) : H p = none := by
  cases h1 : H p with
  | none => rfl
  | some o => rw [e p o h1] at h; cases h

/-! ### data -/
class Rep (α : Type) where
  rp : PySem.W.Frag → Hp → V → α → Prop
  mo : ∀ {K : PySem.W.Frag} {H H' : Hp} {v : V} {x : α}, Ex H H' → rp K H v x → rp K H' v x
open Rep (rp)
theorem paired_mo {α : Type} [Rep α] {K : PySem.W.Frag} {H H' : Hp} (e : Ex H H') : ∀ {vs : List V} {xs : List α}, Paired (rp K H) vs xs → Paired (rp K H') vs xs
  | _, _, .nil => .nil
  | _, _, .cons h t => .cons (Rep.mo e h) (paired_mo e t)
structure T3 (α β γ : Type) where
  a : α
  b : β
  c : γ
  deriving DecidableEq
structure T4 (α β γ δ : Type) where
  a : α
  b : β
  c : γ
  d : δ
  deriving DecidableEq
instance : Rep Int := ⟨fun _ _ v x => v = .int x, fun _ h => h⟩
instance : Rep Bool := ⟨fun _ _ v x => v = .bl x, fun _ h => h⟩
instance : Rep Str := ⟨fun _ _ v x => v = .str x, fun _ h => h⟩
instance : Rep Unit := ⟨fun _ _ v _ => v = .non, fun _ h => h⟩
instance {α : Type} [Rep α] : Rep (Option α) := ⟨fun K H v x => match x with
  | none => v = .non
  | some y => rp K H v y ∧ v ≠ .non, fun {K H H' v x} e h => by
    cases x with
    | none => exact h
    | some y => exact ⟨Rep.mo e h.1, h.2⟩⟩
instance {α β : Type} [Rep α] [Rep β] : Rep (α × β) := ⟨fun K H v x => ∃ a u w, v = .ref a ∧ SqT K H a [u, w] ∧ rp K H u x.1 ∧ rp K H w x.2,
  fun e ⟨a, u, w, h1, h2, h3, h4⟩ => ⟨a, u, w, h1, ex_t e h2, Rep.mo e h3, Rep.mo e h4⟩⟩
instance {α β γ : Type} [Rep α] [Rep β] [Rep γ] : Rep (T3 α β γ) := ⟨fun K H v x => ∃ a u w z, v = .ref a ∧ SqT K H a [u, w, z] ∧ rp K H u x.a ∧ rp K H w x.b ∧ rp K H z x.c,
  fun e ⟨a, u, w, z, h1, h2, h3, h4, h5⟩ => ⟨a, u, w, z, h1, ex_t e h2, Rep.mo e h3, Rep.mo e h4, Rep.mo e h5⟩⟩
instance {α β γ δ : Type} [Rep α] [Rep β] [Rep γ] [Rep δ] : Rep (T4 α β γ δ) := ⟨fun K H v x => ∃ a u w z y, v = .ref a ∧ SqT K H a [u, w, z, y] ∧ rp K H u x.a ∧ rp K H w x.b ∧ rp K H z x.c ∧ rp K H y x.d,
  fun e ⟨a, u, w, z, y, h1, h2, h3, h4, h5, h6⟩ => ⟨a, u, w, z, y, h1, ex_t e h2, Rep.mo e h3, Rep.mo e h4, Rep.mo e h5, Rep.mo e h6⟩⟩
instance {α : Type} [Rep α] : Rep (List α) := ⟨fun K H v x => ∃ a vs, v = .ref a ∧ H a = some (.lst vs) ∧ Paired (rp K H) vs x,
  fun e ⟨a, vs, h1, h2, h3⟩ => ⟨a, vs, h1, e _ _ h2, paired_mo e h3⟩⟩
/-- the script: read alone -/
structure Scr where
  l : List Int
instance : Rep Scr := ⟨fun K H v x => ∃ a, v = .ref a ∧ SqL K H a (x.l.map V.int), fun e ⟨a, h1, h2⟩ => ⟨a, h1, ex_l e h2⟩⟩
theorem paired_map {α β : Type} {F : α → β → Prop} {f : β → α} (h : ∀ b, F (f b) b) : ∀ xs : List β, Paired F (xs.map f) xs
  | [] => .nil
  | x :: r => .cons (h x) (paired_map h r)
theorem paired_int {K : PySem.W.Frag} {H : Hp} : ∀ {vs : List V} {xs : List Int}, Paired (rp K H) vs xs → vs = xs.map V.int
  | _, _, .nil => rfl
  | _, _, .cons h t => by
    rw [List.map_cons, ← paired_int t]
    exact congrArg (· :: _) h
theorem paired_bl {K : PySem.W.Frag} {H : Hp} : ∀ {vs : List V} {xs : List Bool}, Paired (rp K H) vs xs → vs = xs.map V.bl
  | _, _, .nil => rfl
  | _, _, .cons h t => by
    rw [List.map_cons, ← paired_bl t]
    exact congrArg (· :: _) h
theorem rep_int {K : PySem.W.Frag} {H : Hp} (xs : List Int) : Paired (rp K H) (xs.map V.int) xs := paired_map (F := rp K H) (f := V.int) (fun _ => rfl) xs
theorem paired_get {α β : Type} {F : α → β → Prop} : ∀ {vs : List α} {xs : List β} {i : Nat} {x : β}, Paired F vs xs → xs[i]? = some x → ∃ v, vs[i]? = some v ∧ F v x
  | _, _, _, _, .nil, e => by simp at e
  | _, _, 0, _, .cons r _, e => by simp at e; subst e; exact ⟨_, rfl, r⟩
  | _, _, i + 1, x, .cons _ t, e => by
    obtain ⟨u, h1, h2⟩ := paired_get (i := i) (x := x) t (by simpa using e)
    exact ⟨u, by simpa using h1, h2⟩
theorem paired_get' {α β : Type} {F : α → β → Prop} : ∀ {vs : List α} {xs : List β} {i : Nat} {v : α}, Paired F vs xs → vs[i]? = some v → ∃ x, xs[i]? = some x ∧ F v x
  | _, _, _, _, .nil, e => by simp at e
  | _, _, 0, _, .cons r _, e => by simp at e; subst e; exact ⟨_, rfl, r⟩
  | _, _, i + 1, x, .cons _ t, e => by
    obtain ⟨u, h1, h2⟩ := paired_get' (i := i) (v := x) t (by simpa using e)
    exact ⟨u, by simpa using h1, h2⟩
theorem paired_app {α β : Type} {F : α → β → Prop} : ∀ {vs ws : List α} {xs ys : List β}, Paired F vs xs → Paired F ws ys → Paired F (vs ++ ws) (xs ++ ys)
  | _, _, _, _, .nil, s => s
  | _, _, _, _, .cons r t, s => .cons r (paired_app t s)
theorem paired_take {α β : Type} {F : α → β → Prop} : ∀ {vs : List α} {xs : List β} (n : Nat), Paired F vs xs → Paired F (vs.take n) (xs.take n)
  | _, _, 0, _ => .nil
  | _, _, _ + 1, .nil => .nil
  | _, _, n + 1, .cons r t => .cons r (paired_take n t)
theorem paired_drop {α β : Type} {F : α → β → Prop} : ∀ {vs : List α} {xs : List β} (n : Nat), Paired F vs xs → Paired F (vs.drop n) (xs.drop n)
  | _, _, 0, r => r
  | _, _, _ + 1, .nil => .nil
  | _, _, n + 1, .cons _ t => paired_drop n t
theorem paired_rev {α β : Type} {F : α → β → Prop} : ∀ {vs : List α} {xs : List β}, Paired F vs xs → Paired F vs.reverse xs.reverse
  | _, _, .nil => .nil
  | _, _, .cons r t => by
    rw [List.reverse_cons, List.reverse_cons]
    exact paired_app (paired_rev t) (.cons r .nil)
theorem paired_set {α β : Type} {F : α → β → Prop} {v : α} {x : β} (r : F v x) : ∀ {vs : List α} {xs : List β} (i : Nat), Paired F vs xs → Paired F (vs.set i v) (xs.set i x)
  | _, _, _, .nil => .nil
  | _, _, 0, .cons _ t => .cons r t
  | _, _, i + 1, .cons q t => .cons q (paired_set r i t)
theorem paired_rep {α β : Type} {F : α → β → Prop} {v : α} {x : β} (r : F v x) : ∀ n : Nat, Paired F (List.replicate n v) (List.replicate n x)
  | 0 => .nil
  | n + 1 => .cons r (paired_rep r n)

/-! ### data that lean on no list -/
def TupEx (F F' : Hp) : Prop := ∀ a xs, Rd F a (.tup xs) → Rd F' a (.tup xs)
class Flat (α : Type) [Rep α] : Prop where
  fl : ∀ {K : PySem.W.Frag} {F F' : Hp} {v : V} {x : α}, TupEx F F' → rp K F v x → rp K F' v x
theorem tup_t {K : PySem.W.Frag} {H H' : Hp} {a : Addr} {xs : List V} (e : TupEx H H') (h : SqT K H a xs) : SqT K H' a xs := by
  rcases h with h | h
  · exact Or.inl (e a xs h)
  · exact Or.inr h
instance : Flat Int := ⟨fun _ h => h⟩
instance : Flat Bool := ⟨fun _ h => h⟩
instance : Flat Str := ⟨fun _ h => h⟩
instance : Flat Unit := ⟨fun _ h => h⟩
instance {α : Type} [Rep α] [Flat α] : Flat (Option α) := ⟨fun {K F F' v x} e h => by
  cases x with
  | none => exact h
  | some y => exact ⟨Flat.fl e h.1, h.2⟩⟩
instance {α β : Type} [Rep α] [Rep β] [Flat α] [Flat β] : Flat (α × β) := ⟨fun e ⟨a, u, w, h1, h2, h3, h4⟩ => ⟨a, u, w, h1, tup_t e h2, Flat.fl e h3, Flat.fl e h4⟩⟩
instance {α β γ : Type} [Rep α] [Rep β] [Rep γ] [Flat α] [Flat β] [Flat γ] : Flat (T3 α β γ) := ⟨fun e ⟨a, u, w, z, h1, h2, h3, h4, h5⟩ => ⟨a, u, w, z, h1, tup_t e h2, Flat.fl e h3, Flat.fl e h4, Flat.fl e h5⟩⟩
instance {α β γ δ : Type} [Rep α] [Rep β] [Rep γ] [Rep δ] [Flat α] [Flat β] [Flat γ] [Flat δ] : Flat (T4 α β γ δ) := ⟨fun e ⟨a, u, w, z, y, h1, h2, h3, h4, h5, h6⟩ => ⟨a, u, w, z, y, h1, tup_t e h2, Flat.fl e h3, Flat.fl e h4, Flat.fl e h5, Flat.fl e h6⟩⟩
theorem paired_fl {α : Type} [Rep α] [Flat α] {K : PySem.W.Frag} {F F' : Hp} (e : TupEx F F') : ∀ {vs : List V} {xs : List α}, Paired (rp K F) vs xs → Paired (rp K F') vs xs
  | _, _, .nil => .nil
  | _, _, .cons h t => .cons (Flat.fl e h) (paired_fl e t)

/-! ### the mirrors' monad -/
structure Err where
  name : String
  deriving DecidableEq
inductive M (α : Type) where
  | ok (a : α)
  | er (c : Err)
  | bad
  deriving DecidableEq
def M.bind {α β : Type} : M α → (α → M β) → M β
  | .ok a, f => f a
  | .er c, _ => .er c
  | .bad, _ => .bad
@[simp] theorem M.ok_bind {α β : Type} (a : α) (f : α → M β) : (M.ok a).bind f = f a := (rfl)
@[simp] theorem M.er_bind {α β : Type} (c : Err) (f : α → M β) : (M.er c : M α).bind f = .er c := (rfl)
@[simp] theorem M.bad_bind {α β : Type} (f : α → M β) : (M.bad : M α).bind f = .bad := (rfl)

/-! ### what comes of a run -/
abbrev Md (ρ : Type) := Hp → Hp → Hp → Hp → V → ρ → Prop
/-- any value that represents it -/
def rv (K : PySem.W.Frag) {ρ : Type} [Rep ρ] : Md ρ := fun _ _ F' _ v r => rp K F' v r
/-- a new list of one's own -/
def rn (K : PySem.W.Frag) {α : Type} [Rep α] : Md (List α) := fun _ H F' H' v r => ∃ p vs, v = .ref p ∧ H p = none ∧ F' p = none ∧ H' p = some (.lst vs) ∧ Paired (rp K F') vs r
/-- the classes of errors by their names -/
abbrev Ce := String → Addr
def Post {ρ : Type} (ce : Ce) (md : Md ρ) (m : M ρ) (F H : Hp) (Q : VK) (E : XK) : Prop :=
  match m with
  | .ok r => ∀ F' H' v, Gr F H F' H' → md F H F' H' v r → Q v H'
  | .er c => ∀ H', Ex H H' → E (.ref (ce c.name)) none H'
  | .bad => False
class MdMo {ρ : Type} (md : Md ρ) : Prop where
  mo : ∀ {F H F1 H1 F2 H2 v r}, Gr F H F1 H1 → md F1 H1 F2 H2 v r → md F H F2 H2 v r
instance {K : PySem.W.Frag} {ρ : Type} [Rep ρ] : MdMo (rv K (ρ := ρ)) := ⟨fun _ h => h⟩
instance {K : PySem.W.Frag} {α : Type} [Rep α] : MdMo (rn K (α := α)) := ⟨fun g ⟨p, vs, h1, h2, h3⟩ => ⟨p, vs, h1, ex_back g.hh h2, h3⟩⟩
theorem Post.mo {ρ : Type} {ce : Ce} {md : Md ρ} [MdMo md] {m : M ρ} {F H F1 H1 : Hp} {Q : VK} {E : XK} (g : Gr F H F1 H1) (h : Post ce md m F H Q E) : Post ce md m F1 H1 Q E := by
  cases m with
  | ok r => exact fun F' H' v g' hm => h F' H' v (g.tr g') (MdMo.mo g hm)
  | er c => exact fun H' e => h H' (g.hh.tr e)
  | bad => exact h
/-- what an expression tells, whatever has been done meanwhile -/
def Ev {ρ : Type} (ce : Ce) (E : XK) (te : TE) (σ : L2.St) (F H : Hp) (md : Md ρ) (m : M ρ) : Prop := ∀ F1 H1, Gr F H F1 H1 → ∀ Q : VK, Post ce md m F1 H1 Q E → te σ H1 Q
/-- a test -/
def PostT (ce : Ce) (m : M Bool) (F H : Hp) (Q : Bool → Hp → Prop) (E : XK) : Prop :=
  match m with
  | .ok r => ∀ F' H', Gr F H F' H' → Q r H'
  | .er c => ∀ H', Ex H H' → E (.ref (ce c.name)) none H'
  | .bad => False
def EvT (ce : Ce) (E : XK) (tt : TT) (σ : L2.St) (F H : Hp) (m : M Bool) : Prop := ∀ F1 H1, Gr F H F1 H1 → ∀ Q : Bool → Hp → Prop, PostT ce m F1 H1 Q E → tt σ H1 Q
theorem PostT.mo {ce : Ce} {m : M Bool} {F H F1 H1 : Hp} {Q : Bool → Hp → Prop} {E : XK} (g : Gr F H F1 H1) (h : PostT ce m F H Q E) : PostT ce m F1 H1 Q E := by
  cases m with
  | ok r => exact fun F' H' g' => h F' H' (g.tr g')
  | er c => exact fun H' e => h H' (g.hh.tr e)
  | bad => exact h
section
variable {ρ α β γ : Type} [Rep α] [Rep β] [Rep γ] {ce : Ce} {E : XK} {K : PySem.W.Frag} {σ : L2.St} {F H F' H' : Hp} {te ta tb tc : TE} {tt tu : TT} {md : Md ρ} {m : M ρ}
theorem Ev.mo (g : Gr F H F' H') (h : Ev ce E te σ F H md m) : Ev ce E te σ F' H' md m := fun F1 H1 g1 Q q => h F1 H1 (g.tr g1) Q q
theorem EvT.mo {m : M Bool} (g : Gr F H F' H') (h : EvT ce E tt σ F H m) : EvT ce E tt σ F' H' m := fun F1 H1 g1 Q q => h F1 H1 (g.tr g1) Q q
/-- run a part, then what follows (F0, H0: the entry) -/
theorem Ev.run {m1 : M α} {k : α → M ρ} {Q Q' : VK} {F0 H0 : Hp} (h : Ev ce E ta σ F H (rv K) m1) (G : Gr F0 H0 F H) (q : Post ce md (m1.bind k) F0 H0 Q E)
    (c : ∀ x F1 H1 v, m1 = .ok x → Gr F H F1 H1 → rp K F1 v x → Post ce md (k x) F0 H0 Q E → Q' v H1) : ta σ H Q' := by
  refine h F H (Gr.rf G.fh) Q' ?_
  cases m1 with
  | ok x => exact fun F1 H1 v g r => c x F1 H1 v rfl g r q
  | er cc => exact fun H' e => q H' (G.hh.tr e)
  | bad => exact q
theorem Ev.runN {m1 : M (List α)} {k : List α → M ρ} {Q Q' : VK} {F0 H0 : Hp} (h : Ev ce E ta σ F H (rn K) m1) (G : Gr F0 H0 F H) (q : Post ce md (m1.bind k) F0 H0 Q E)
    (c : ∀ x F1 H1 p vs, m1 = .ok x → Gr F H F1 H1 → H p = none → F1 p = none → H1 p = some (.lst vs) → Paired (rp K F1) vs x → Post ce md (k x) F0 H0 Q E → Q' (.ref p) H1) : ta σ H Q' := by
  refine h F H (Gr.rf G.fh) Q' ?_
  cases m1 with
  | ok x =>
    rintro F1 H1 v g ⟨p, vs, rfl, h1, h2, h3, h4⟩
    exact c x F1 H1 p vs rfl g h1 h2 h3 h4 q
  | er cc => exact fun H' e => q H' (G.hh.tr e)
  | bad => exact q
theorem EvT.run {m1 : M Bool} {k : Bool → M ρ} {Q : VK} {Q' : Bool → Hp → Prop} {F0 H0 : Hp} (h : EvT ce E tt σ F H m1) (G : Gr F0 H0 F H) (q : Post ce md (m1.bind k) F0 H0 Q E)
    (c : ∀ x F1 H1, m1 = .ok x → Gr F H F1 H1 → Post ce md (k x) F0 H0 Q E → Q' x H1) : tt σ H Q' := by
  refine h F H (Gr.rf G.fh) Q' ?_
  cases m1 with
  | ok x => exact fun F1 H1 g => c x F1 H1 rfl g q
  | er cc => exact fun H' e => q H' (G.hh.tr e)
  | bad => exact q
/-- a new list may be leant on -/
theorem Ev.nv {m : M (List α)} (h : Ev ce E te σ F H (rn K) m) : Ev ce E te σ F H (rv K) m := by
  intro F1 H1 g Q q
  refine h F1 H1 g Q ?_
  cases m with
  | ok x =>
    rintro F2 H2 v g2 ⟨p, vs, rfl, h1, h2, h3, h4⟩
    refine q (upd F2 p (.lst vs)) H2 (.ref p) ⟨g2.ff.tr (Ex.nw h2), ?_, g2.hh, fun b a1 a2 => ?_⟩ ⟨p, vs, rfl, upd_same, paired_mo (Ex.nw h2) h4⟩
    · intro a u e
      by_cases z : a = p
      · subst z; rw [upd_same] at e; rw [h3]; exact e
      · rw [upd_ne z] at e; exact g2.fh a u e
    · have : b ≠ p := fun z => by subst z; exact a2 h1
      rw [upd_ne this]; exact g2.nw b a1 a2
  | er c => exact q
  | bad => exact q
/-! ### names, constants, operators -/
theorem em_var {i : Nat} {v : V} {x : α} (h : σ[i]? = some (some v)) (r : rp K F v x) : Ev ce E (tVar i) σ F H (rv K) (.ok x) :=
  fun F1 H1 g Q q => ⟨v, h, q F1 H1 v (Gr.rf g.fh) (Rep.mo g.ff r)⟩
theorem em_int {i : Int} : Ev ce E (tC (.int i)) σ F H (rv K) (.ok i) := fun F1 H1 g Q q => q F1 H1 _ (Gr.rf g.fh) rfl
theorem em_bl {b : Bool} : Ev ce E (tC (.bl b)) σ F H (rv K) (.ok b) := fun F1 H1 g Q q => q F1 H1 _ (Gr.rf g.fh) rfl
theorem em_str {s : Str} : Ev ce E (tC (.str s)) σ F H (rv K) (.ok s) := fun F1 H1 g Q q => q F1 H1 _ (Gr.rf g.fh) rfl
theorem em_unit : Ev ce E (tC .non) σ F H (rv K) (.ok ()) := fun F1 H1 g Q q => q F1 H1 _ (Gr.rf g.fh) rfl
theorem em_none : Ev ce E (tC .non) σ F H (rv K) (.ok (none : Option α)) := fun F1 H1 g Q q => q F1 H1 _ (Gr.rf g.fh) rfl
def Op1 (ce : Ce) (E : XK) (K : PySem.W.Frag) (r : V → Hp → VK → Prop) (md : Md ρ) (x : α) (m : M ρ) : Prop := ∀ F1 H1 vx, Ex F1 H1 → rp K F1 vx x → ∀ Q, Post ce md m F1 H1 Q E → r vx H1 Q
def Op2 (ce : Ce) (E : XK) (K : PySem.W.Frag) (r : R2) (md : Md ρ) (x : α) (y : β) (m : M ρ) : Prop := ∀ F1 H1 vx vy, Ex F1 H1 → rp K F1 vx x → rp K F1 vy y → ∀ Q, Post ce md m F1 H1 Q E → r vx vy H1 Q
theorem em_op [MdMo md] {r : R2} {m1 : M α} {m2 : M β} {g : α → β → M ρ} (ha : Ev ce E ta σ F H (rv K) m1) (hb : Ev ce E tb σ F H (rv K) m2) (hr : ∀ x y, Op2 ce E K r md x y (g x y)) :
    Ev ce E (tOp r ta tb) σ F H md (m1.bind fun x => m2.bind fun y => g x y) := by
  intro F1 H1 g1 Q q
  refine ha F1 H1 g1 _ ?_
  cases m1 with
  | ok x =>
    intro F2 H2 vx g2 rx
    refine hb F2 H2 (g1.tr g2) _ ?_
    cases m2 with
    | ok y => exact fun F3 H3 vy g3 ry => hr x y F3 H3 vx vy g3.fh (Rep.mo g3.ff rx) ry Q (Post.mo (g2.tr g3) q)
    | er c => exact fun H' e => q H' (g2.hh.tr e)
    | bad => exact q
  | er c => exact q
  | bad => exact q
theorem em_un [MdMo md] {r : V → Hp → VK → Prop} {m1 : M α} {g : α → M ρ} (ha : Ev ce E ta σ F H (rv K) m1) (hr : ∀ x, Op1 ce E K r md x (g x)) :
    Ev ce E (tUn r ta) σ F H md (m1.bind g) := by
  intro F1 H1 g1 Q q
  refine ha F1 H1 g1 _ ?_
  cases m1 with
  | ok x => exact fun F2 H2 vx g2 rx => hr x F2 H2 vx g2.fh rx Q (Post.mo g2 q)
  | er c => exact q
  | bad => exact q
theorem o_I0 {x y : Int} {g : Int → Int → V} {z : α} (h : ∀ F, rp K F (g x y) z) : Op2 ce E K (rI0 g) (rv K) x y (.ok z) := fun F1 H1 vx vy e rx ry Q q => by
  cases rx; cases ry
  exact ⟨x, y, rfl, rfl, q F1 H1 _ (Gr.rf e) (h F1)⟩
theorem o_I {C : Int → Int → Prop} {x y : Int} {g : Int → Int → V} {z : α} (hc : C x y) (h : ∀ F, rp K F (g x y) z) : Op2 ce E K (rI C g) (rv K) x y (.ok z) := fun F1 H1 vx vy e rx ry Q q => by
  cases rx; cases ry
  exact ⟨x, y, rfl, rfl, hc, q F1 H1 _ (Gr.rf e) (h F1)⟩
/-- (decided classically: so that no kernel sets out to reckon the test) -/
noncomputable def chk {α : Type} (c : Prop) (x : α) : M α := @ite _ c (Classical.propDecidable c) (.ok x) .bad
theorem o_Ic {C : Int → Int → Prop} [∀ i j, Decidable (C i j)] {x y : Int} {g : Int → Int → V} {z : α} (h : ∀ F, rp K F (g x y) z) : Op2 ce E K (rI C g) (rv K) x y (chk (C x y) z) := fun F1 H1 vx vy e rx ry Q q => by
  unfold chk at q
  split at q
  · rename_i hc
    exact o_I hc h F1 H1 vx vy e rx ry Q q
  · exact q.elim
end
end Mw

set_option Elab.async false
set_option linter.all false
set_option maxRecDepth 100000
set_option maxHeartbeats 2000000
/-! Mw, part B: the readings of expressions. -/
namespace Mw
open PySem L2
open Rep (rp)
/-! ### numbers with bounds -/
def CDivZ (_ j : Int) : Prop := j ≠ 0 ∧ j.natAbs.log2 < 9000
instance : ∀ i j, Decidable (CMulW i j) := fun i j => by unfold CMulW; infer_instance
instance : ∀ i j, Decidable (CDivW i j) := fun i j => by unfold CDivW; infer_instance
instance : ∀ i j, Decidable (CDivZ i j) := fun i j => by unfold CDivZ; infer_instance
instance : ∀ i j, Decidable (CPow i j) := fun i j => by unfold CPow; infer_instance
section
variable {X : Cx}
theorem op_fdivZ : OpR X (binaryOp .FloorDiv) (rI CDivZ fun i j => .int (i.fdiv j)) := by
  intro pins s σ H x y v u Q I rx ry h
  obtain ⟨i, j, rfl, rfl, hc, q⟩ := h
  obtain ⟨t, rfl⟩ := rx
  obtain ⟨t', rfl⟩ := ry
  exact PyProof.Rows.floordiv_int hc.1 ⟨.int _, H, I.tok _, ⟨_, rfl⟩, q⟩ (.inl (PyProof.noPylong_of_log2 hc.2))
end
noncomputable def mulM (x y : Int) : M Int := chk (CMulW x y) (x * y)
noncomputable def fdivM (x y : Int) : M Int := chk (CDivW x y) (x / y)
noncomputable def fdivZ (x y : Int) : M Int := chk (CDivZ x y) (x.fdiv y)
noncomputable def modM (x y : Int) : M Int := chk (0 < y) (x % y)
noncomputable def powM (x y : Int) : M Int := chk (CPow x y) (x ^ y.toNat)
section
variable {ρ α β γ δ : Type} [Rep α] [Rep β] [Rep γ] [Rep δ] {ce : Ce} {E : XK} {K : PySem.W.Frag} {σ : L2.St} {F H F' H' : Hp} {te ta tb tc td : TE} {tt tu : TT} {md : Md ρ} {m : M ρ}
theorem o_add {x y : Int} : Op2 ce E K (rI0 fun i j => .int (i + j)) (rv K) x y (.ok (x + y)) := o_I0 fun _ => rfl
theorem o_sub {x y : Int} : Op2 ce E K (rI0 fun i j => .int (i - j)) (rv K) x y (.ok (x - y)) := o_I0 fun _ => rfl
theorem o_mul {x y : Int} : Op2 ce E K (rI CMulW fun i j => .int (i * j)) (rv K) x y (mulM x y) := o_Ic fun _ => rfl
theorem o_fdivM {x y : Int} : Op2 ce E K (rI CDivW fun i j => .int (i / j)) (rv K) x y (fdivM x y) := o_Ic fun _ => rfl
theorem o_fdivZ {x y : Int} : Op2 ce E K (rI CDivZ fun i j => .int (i.fdiv j)) (rv K) x y (fdivZ x y) := o_Ic fun _ => rfl
theorem o_modM {x y : Int} : Op2 ce E K (rI (fun _ j => 0 < j) fun i j => .int (i % j)) (rv K) x y (modM x y) := o_Ic fun _ => rfl
theorem o_powM {x y : Int} : Op2 ce E K (rI CPow fun i j => .int (i ^ j.toNat)) (rv K) x y (powM x y) := o_Ic fun _ => rfl
theorem o_lt {x y : Int} : Op2 ce E K (rI0 fun i j => .bl (decide (i < j))) (rv K) x y (.ok (decide (x < y))) := o_I0 fun _ => rfl
theorem o_le {x y : Int} : Op2 ce E K (rI0 fun i j => .bl (decide (i ≤ j))) (rv K) x y (.ok (decide (x ≤ y))) := o_I0 fun _ => rfl
theorem o_gt {x y : Int} : Op2 ce E K (rI0 fun i j => .bl (decide (j < i))) (rv K) x y (.ok (decide (y < x))) := o_I0 fun _ => rfl
theorem o_ge {x y : Int} : Op2 ce E K (rI0 fun i j => .bl (decide (j ≤ i))) (rv K) x y (.ok (decide (y ≤ x))) := o_I0 fun _ => rfl
/-- both sides plain: one rule for the operators on ints -/
theorem e2 {r : R2} {x : α} {y : β} {z : ρ} [MdMo md] (ha : Ev ce E ta σ F H (rv K) (.ok x)) (hb : Ev ce E tb σ F H (rv K) (.ok y)) (hr : Op2 ce E K r md x y (.ok z)) : Ev ce E (tOp r ta tb) σ F H md (.ok z) := by
  intro F1 H1 g1 Q q
  refine ha F1 H1 g1 _ fun F2 H2 vx g2 rx => hb F2 H2 (g1.tr g2) _ fun F3 H3 vy g3 ry => ?_
  exact hr F3 H3 vx vy g3.fh (Rep.mo g3.ff rx) ry Q (Post.mo (m := .ok z) (g2.tr g3) q)
theorem e_neg {x : Int} (ha : Ev ce E ta σ F H (rv K) (.ok x)) : Ev ce E (tUn (rU fun i => .int (-i)) ta) σ F H (rv K) (.ok (-x)) := by
  intro F1 H1 g1 Q q
  refine ha F1 H1 g1 _ fun F2 H2 vx g2 rx => ?_
  cases rx
  exact ⟨x, rfl, q F2 H2 _ g2 rfl⟩
theorem o_neg {x : Int} : Op1 ce E K (rU fun i => .int (-i)) (rv K) x (.ok (-x)) := fun F1 H1 vx e rx Q q => by
  cases rx
  exact ⟨x, rfl, q F1 H1 _ (Gr.rf e) rfl⟩
/-- a product, one factor written: below 2 ^ 64 -/
theorem o_mulL {x y : Int} (h : CMul x y) : Op2 ce E K (rI CMul fun i j => .int (i * j)) (rv K) x y (.ok (x * y)) := o_I h fun _ => rfl
theorem o_fdiv {x y : Int} (h : CDiv x y) : Op2 ce E K (rI CDiv fun i j => .int (i / j)) (rv K) x y (.ok (x / y)) := o_I h fun _ => rfl
theorem o_fdivW {x y : Int} (h : CDivW x y) : Op2 ce E K (rI CDivW fun i j => .int (i / j)) (rv K) x y (.ok (x / y)) := o_I h fun _ => rfl
theorem o_mod {x y : Int} (h : 0 < y) : Op2 ce E K (rI (fun _ j => 0 < j) fun i j => .int (i % j)) (rv K) x y (.ok (x % y)) := o_I h fun _ => rfl
theorem o_pow {x y : Int} (h : CPow x y) : Op2 ce E K (rI CPow fun i j => .int (i ^ j.toNat)) (rv K) x y (.ok (x ^ y.toNat)) := o_I h fun _ => rfl
/-- what is told in other words -/
theorem e_is {x y : ρ} (h : Ev ce E te σ F H md (.ok x)) (e : x = y) : Ev ce E te σ F H md (.ok y) := by rw [← e]; exact h
theorem em_is {m m' : M ρ} (h : Ev ce E te σ F H md m) (e : m = m') : Ev ce E te σ F H md m' := by rw [← e]; exact h

/-! ### tests -/
theorem t_of {m : M Bool} (h : Ev ce E te σ F H (rv K) m) : EvT ce E (tTest te) σ F H m := fun F1 H1 g1 Q q => by
  refine h F1 H1 g1 _ ?_
  cases m with
  | ok b => exact fun F2 H2 v g2 r => ⟨b, r, q F2 H2 g2⟩
  | er c => exact q
  | bad => exact q
theorem t_B {m : M Bool} (h : Ev ce E te σ F H (rv K) m) : EvT ce E (tB te) σ F H m := fun F1 H1 g1 Q q => by
  refine h F1 H1 g1 _ ?_
  cases m with
  | ok b => exact fun F2 H2 v g2 r => ⟨b, r, q F2 H2 g2⟩
  | er c => exact q
  | bad => exact q
theorem t_and {a b : Bool} (ha : EvT ce E tt σ F H (.ok a)) (hb : EvT ce E tu σ F H (.ok b)) : EvT ce E (tAnd tt tu) σ F H (.ok (a && b)) := fun F1 H1 g1 Q q => by
  refine ha F1 H1 g1 _ fun F2 H2 g2 => ?_
  cases a with
  | true => exact hb F2 H2 (g1.tr g2) _ fun F3 H3 g3 => q F3 H3 (g2.tr g3)
  | false => exact q F2 H2 g2
theorem t_or {a b : Bool} (ha : EvT ce E tt σ F H (.ok a)) (hb : EvT ce E tu σ F H (.ok b)) : EvT ce E (tOr tt tu) σ F H (.ok (a || b)) := fun F1 H1 g1 Q q => by
  refine ha F1 H1 g1 _ fun F2 H2 g2 => ?_
  cases a with
  | false => exact hb F2 H2 (g1.tr g2) _ fun F3 H3 g3 => q F3 H3 (g2.tr g3)
  | true => exact q F2 H2 g2
def andM (m : M Bool) (k : M Bool) : M Bool := m.bind fun a => if a then k else .ok false
def orM (m : M Bool) (k : M Bool) : M Bool := m.bind fun a => if a then .ok true else k
def notM (m : M Bool) : M Bool := m.bind fun a => .ok (!a)
@[simp] theorem andM_t (k : M Bool) : andM (.ok true) k = k := rfl
@[simp] theorem andM_f (k : M Bool) : andM (.ok false) k = .ok false := rfl
@[simp] theorem orM_t (k : M Bool) : orM (.ok true) k = .ok true := rfl
@[simp] theorem orM_f (k : M Bool) : orM (.ok false) k = k := rfl
@[simp] theorem notM_ok (a : Bool) : notM (.ok a) = .ok (!a) := rfl
theorem tm_and {m k : M Bool} (ha : EvT ce E tt σ F H m) (hb : EvT ce E tu σ F H k) : EvT ce E (tAnd tt tu) σ F H (andM m k) := fun F1 H1 g1 Q q => by
  refine ha F1 H1 g1 _ ?_
  cases m with
  | ok a =>
    intro F2 H2 g2
    cases a with
    | true => exact hb F2 H2 (g1.tr g2) _ (PostT.mo g2 q)
    | false => exact q F2 H2 g2
  | er c => exact q
  | bad => exact q
theorem tm_or {m k : M Bool} (ha : EvT ce E tt σ F H m) (hb : EvT ce E tu σ F H k) : EvT ce E (tOr tt tu) σ F H (orM m k) := fun F1 H1 g1 Q q => by
  refine ha F1 H1 g1 _ ?_
  cases m with
  | ok a =>
    intro F2 H2 g2
    cases a with
    | false => exact hb F2 H2 (g1.tr g2) _ (PostT.mo g2 q)
    | true => exact q F2 H2 g2
  | er c => exact q
  | bad => exact q
theorem t_not {a : Bool} (ha : EvT ce E tt σ F H (.ok a)) : EvT ce E (tNot tt) σ F H (.ok (!a)) := fun F1 H1 g1 Q q => ha F1 H1 g1 _ fun F2 H2 g2 => q F2 H2 g2
theorem tm_not {m : M Bool} (ha : EvT ce E tt σ F H m) : EvT ce E (tNot tt) σ F H (notM m) := fun F1 H1 g1 Q q => by
  refine ha F1 H1 g1 _ ?_
  cases m with
  | ok a => exact fun F2 H2 g2 => q F2 H2 g2
  | er c => exact q
  | bad => exact q
theorem e_andV {a b : Bool} (ha : Ev ce E ta σ F H (rv K) (.ok a)) (hb : Ev ce E tb σ F H (rv K) (.ok b)) : Ev ce E (tAndV ta tb) σ F H (rv K) (.ok (a && b)) := fun F1 H1 g1 Q q => by
  refine ha F1 H1 g1 _ fun F2 H2 v g2 r => ⟨a, r, ?_⟩
  cases a with
  | true => exact hb F2 H2 (g1.tr g2) _ fun F3 H3 v' g3 => q F3 H3 v' (g2.tr g3)
  | false => exact q F2 H2 _ g2 rfl
theorem e_orV {a b : Bool} (ha : Ev ce E ta σ F H (rv K) (.ok a)) (hb : Ev ce E tb σ F H (rv K) (.ok b)) : Ev ce E (tOrV ta tb) σ F H (rv K) (.ok (a || b)) := fun F1 H1 g1 Q q => by
  refine ha F1 H1 g1 _ fun F2 H2 v g2 r => ⟨a, r, ?_⟩
  cases a with
  | false => exact hb F2 H2 (g1.tr g2) _ fun F3 H3 v' g3 => q F3 H3 v' (g2.tr g3)
  | true => exact q F2 H2 _ g2 rfl
theorem em_andV {m k : M Bool} (ha : Ev ce E ta σ F H (rv K) m) (hb : Ev ce E tb σ F H (rv K) k) : Ev ce E (tAndV ta tb) σ F H (rv K) (andM m k) := fun F1 H1 g1 Q q => by
  refine ha F1 H1 g1 _ ?_
  cases m with
  | ok a =>
    refine fun F2 H2 v g2 r => ⟨a, r, ?_⟩
    cases a with
    | true => exact hb F2 H2 (g1.tr g2) _ (Post.mo g2 q)
    | false => exact q F2 H2 _ g2 rfl
  | er c => exact q
  | bad => exact q
theorem em_orV {m k : M Bool} (ha : Ev ce E ta σ F H (rv K) m) (hb : Ev ce E tb σ F H (rv K) k) : Ev ce E (tOrV ta tb) σ F H (rv K) (orM m k) := fun F1 H1 g1 Q q => by
  refine ha F1 H1 g1 _ ?_
  cases m with
  | ok a =>
    refine fun F2 H2 v g2 r => ⟨a, r, ?_⟩
    cases a with
    | false => exact hb F2 H2 (g1.tr g2) _ (Post.mo g2 q)
    | true => exact q F2 H2 _ g2 rfl
  | er c => exact q
  | bad => exact q
theorem e_notV {a : Bool} (ha : Ev ce E ta σ F H (rv K) (.ok a)) : Ev ce E (tNotV ta) σ F H (rv K) (.ok (!a)) := fun F1 H1 g1 Q q => ha F1 H1 g1 _ fun F2 H2 v g2 r => ⟨a, r, q F2 H2 _ g2 rfl⟩
theorem em_notV {m : M Bool} (ha : Ev ce E ta σ F H (rv K) m) : Ev ce E (tNotV ta) σ F H (rv K) (notM m) := fun F1 H1 g1 Q q => by
  refine ha F1 H1 g1 _ ?_
  cases m with
  | ok a => exact fun F2 H2 v g2 r => ⟨a, r, q F2 H2 _ g2 rfl⟩
  | er c => exact q
  | bad => exact q
theorem em_if [MdMo md] {b : M Bool} {m k : M ρ} (h : EvT ce E tt σ F H b) (ha : Ev ce E ta σ F H md m) (hb : Ev ce E tb σ F H md k) : Ev ce E (tIf tt ta tb) σ F H md (b.bind fun c => if c then m else k) := fun F1 H1 g1 Q q => by
  refine h F1 H1 g1 _ ?_
  cases b with
  | ok b =>
    refine fun F2 H2 g2 => ?_
    cases b with
    | true => exact ha F2 H2 (g1.tr g2) _ (Post.mo g2 q)
    | false => exact hb F2 H2 (g1.tr g2) _ (Post.mo g2 q)
  | er c => exact q
  | bad => exact q
/-- x < y < z and its like -/
theorem em_chain {r r' : R2} {m1 : M α} {m2 : M β} {m3 : M γ} {p : α → β → Bool} {p' : β → γ → Bool} (ha : Ev ce E ta σ F H (rv K) m1) (hb : Ev ce E tb σ F H (rv K) m2) (hc : Ev ce E tc σ F H (rv K) m3)
    (h : ∀ x y, Op2 ce E K r (rv K) x y (.ok (p x y))) (h' : ∀ x y, Op2 ce E K r' (rv K) x y (.ok (p' x y))) :
    Ev ce E (tChain r r' ta tb tc) σ F H (rv K) (m1.bind fun x => m2.bind fun y => if p x y then m3.bind fun z => .ok (p' y z) else .ok false) := fun F1 H1 g1 Q q => by
  refine ha F1 H1 g1 _ ?_
  cases m1 with
  | ok x =>
    intro F2 H2 vx g2 rx
    refine hb F2 H2 (g1.tr g2) _ ?_
    cases m2 with
    | ok y =>
      intro F3 H3 vy g3 ry
      refine h x y F3 H3 vx vy g3.fh (Rep.mo g3.ff rx) ry _ fun F4 H4 v4 g4 r4 => ⟨p x y, r4, ?_⟩
      have q' : Post ce (rv K) (if p x y then m3.bind fun z => .ok (p' y z) else .ok false) F1 H1 Q E := q
      cases e : p x y with
      | true =>
        rw [e] at q'
        refine hc F4 H4 (((g1.tr g2).tr g3).tr g4) _ ?_
        cases m3 with
        | ok z => exact fun F5 H5 vz g5 rz => h' y z F5 H5 vy vz g5.fh (Rep.mo (g4.ff.tr g5.ff) ry) rz Q (Post.mo (m := .ok (p' y z)) (((g2.tr g3).tr g4).tr g5) q')
        | er c => exact fun H' e => q' H' (((g2.tr g3).tr g4).hh.tr e)
        | bad => exact q'
      | false =>
        rw [e] at q'
        exact q' F4 H4 _ ((g2.tr g3).tr g4) rfl
    | er c => exact fun H' e => q H' (g2.hh.tr e)
    | bad => exact q
  | er c => exact q
  | bad => exact q

/-! ### argument lists: what stands for each -/
/-- RA tells that the values stand for the data -/
inductive RA (K : PySem.W.Frag) (F : Hp) : List V → List ((V → Prop)) → Prop
/-- the arguments are told one by one: k runs with all of them -/
def EvA (ce : Ce) (E : XK) (ta : TA) (σ : L2.St) (F H : Hp) (R : Hp → List V → Prop) : Prop := ∀ F1 H1, Gr F H F1 H1 → ∀ Q : List V → Hp → Prop, (∀ F2 H2 vs, Gr F1 H1 F2 H2 → R F2 vs → Q vs H2) → ta σ H1 Q
/-- .. with effects -/
def EvAM (ce : Ce) (E : XK) (ta : TA) (σ : L2.St) (F H : Hp) (m : M α) (R : Hp → List V → α → Prop) : Prop := ∀ F1 H1, Gr F H F1 H1 → ∀ Q : List V → Hp → Prop,
  (match m with
    | .ok x => ∀ F2 H2 vs, Gr F1 H1 F2 H2 → R F2 vs x → Q vs H2
    | .er c => ∀ H', Ex H1 H' → E (.ref (ce c.name)) none H'
    | .bad => False) → ta σ H1 Q
def R0 : Hp → List V → Unit → Prop := fun _ vs _ => vs = []
def RC (K : PySem.W.Frag) {α β : Type} [Rep α] (R : Hp → List V → β → Prop) : Hp → List V → α × β → Prop := fun F vs x => ∃ v r, vs = v :: r ∧ rp K F v x.1 ∧ R F r x.2
class RMo {α : Type} (R : Hp → List V → α → Prop) : Prop where
  mo : ∀ {F F' vs x}, Ex F F' → R F vs x → R F' vs x
instance : RMo R0 := ⟨fun _ h => h⟩
instance {K : PySem.W.Frag} {α β : Type} [Rep α] {R : Hp → List V → β → Prop} [RMo R] : RMo (RC K (α := α) R) := ⟨fun e ⟨v, r, h1, h2, h3⟩ => ⟨v, r, h1, Rep.mo e h2, RMo.mo e h3⟩⟩
theorem ea_nil : EvAM ce E tNil σ F H (.ok ()) R0 := fun F1 H1 g1 Q q => q F1 H1 [] (Gr.rf g1.fh) rfl
theorem ea_cons {tr : TA} {m1 : M α} {m2 : M β} {R : Hp → List V → β → Prop} (ha : Ev ce E ta σ F H (rv K) m1) (hr : EvAM ce E tr σ F H m2 R) :
    EvAM ce E (tCons ta tr) σ F H (m1.bind fun x => m2.bind fun y => .ok (x, y)) (RC K R) := fun F1 H1 g1 Q q => by
  refine ha F1 H1 g1 _ ?_
  cases m1 with
  | ok x =>
    intro F2 H2 vx g2 rx
    refine hr F2 H2 (g1.tr g2) _ ?_
    cases m2 with
    | ok y => exact fun F3 H3 vs g3 r3 => q F3 H3 (vx :: vs) (g2.tr g3) ⟨vx, vs, rfl, Rep.mo g3.ff rx, r3⟩
    | er c => exact fun H' e => q H' (g2.hh.tr e)
    | bad => exact q
  | er c => exact q
  | bad => exact q
theorem e_cons {tr : TA} {x : α} {y : β} {R : Hp → List V → β → Prop} (ha : Ev ce E ta σ F H (rv K) (.ok x)) (hr : EvAM ce E tr σ F H (.ok y) R) : EvAM ce E (tCons ta tr) σ F H (.ok (x, y)) (RC K R) := ea_cons (m1 := .ok x) (m2 := .ok y) ha hr
/-- a call of values that are known: r what it asks, m what comes of it -/
def OpA (ce : Ce) (E : XK) (R : Hp → List V → α → Prop) (r : List V → Hp → VK → Prop) (md : Md ρ) (x : α) (m : M ρ) : Prop := ∀ F1 H1 vs, Ex F1 H1 → R F1 vs x → ∀ Q, Post ce md m F1 H1 Q E → r vs H1 Q
theorem em_cb [MdMo md] {ta : TA} {r : List V → Hp → VK → Prop} {m1 : M α} {R : Hp → List V → α → Prop} {g : α → M ρ} (ha : EvAM ce E ta σ F H m1 R) (hr : ∀ x, OpA ce E R r md x (g x)) : Ev ce E (tCB r ta) σ F H md (m1.bind g) := fun F1 H1 g1 Q q => by
  refine ha F1 H1 g1 _ ?_
  cases m1 with
  | ok x => exact fun F2 H2 vs g2 r2 => hr x F2 H2 vs g2.fh r2 Q (Post.mo g2 q)
  | er c => exact q
  | bad => exact q
theorem e_cb [MdMo md] {ta : TA} {r : List V → Hp → VK → Prop} {x : α} {R : Hp → List V → α → Prop} {z : ρ} (ha : EvAM ce E ta σ F H (.ok x) R) (hr : OpA ce E R r md x (.ok z)) : Ev ce E (tCB r ta) σ F H md (.ok z) := fun F1 H1 g1 Q q =>
  ha F1 H1 g1 _ fun F2 H2 vs g2 r2 => hr F2 H2 vs g2.fh r2 Q (Post.mo (m := .ok z) g2 q)
/-- a call of a def by its promise -/
def SpA (ce : Ce) (R : Hp → List V → α → Prop) (sp : Sp) (md : Md ρ) (x : α) (m : M ρ) : Prop := ∀ F1 H1 vs, Ex F1 H1 → R F1 vs x → ∀ Q (E : XK), Post ce md m F1 H1 Q E → sp vs H1 Q E
theorem em_call [MdMo md] {ta : TA} {sp : Sp} {m1 : M α} {R : Hp → List V → α → Prop} {g : α → M ρ} (ha : EvAM ce E ta σ F H m1 R) (hr : ∀ x, SpA ce R sp md x (g x)) : Ev ce E (tCall sp [] E ta) σ F H md (m1.bind g) := fun F1 H1 g1 Q q => by
  refine ha F1 H1 g1 _ ?_
  cases m1 with
  | ok x =>
    intro F2 H2 vs g2 r2
    show sp (vs ++ []) H2 Q E
    rw [List.append_nil]
    exact hr x F2 H2 vs g2.fh r2 Q E (Post.mo g2 q)
  | er c => exact q
  | bad => exact q
theorem e_call [MdMo md] {ta : TA} {sp : Sp} {x : α} {R : Hp → List V → α → Prop} {m : M ρ} (ha : EvAM ce E ta σ F H (.ok x) R) (hr : SpA ce R sp md x m) : Ev ce E (tCall sp [] E ta) σ F H md m := fun F1 H1 g1 Q q =>
  ha F1 H1 g1 _ fun F2 H2 vs g2 r2 => by
    show sp (vs ++ []) H2 Q E
    rw [List.append_nil]
    exact hr F2 H2 vs g2.fh r2 Q E (Post.mo g2 q)

/-! ### displays -/
theorem gr_new {o : HO} {p : Addr} (h : Ex F H) (n : H p = none) : F p = none := ex_back h n
theorem em_tup {ta : TA} {m1 : M α} {R : Hp → List V → α → Prop} [RMo R] {g : α → ρ} [Rep ρ] (ha : EvAM ce E ta σ F H m1 R) (hs : ∀ F vs x, R F vs x → vs.length ≤ sizeLine)
    (hg : ∀ F p vs x, R F vs x → F p = some (.tup vs) → rp K F (.ref p) (g x)) : Ev ce E (tTup ta) σ F H (rv K) (m1.bind fun x => .ok (g x)) := fun F1 H1 g1 Q q => by
  refine ha F1 H1 g1 _ ?_
  cases m1 with
  | ok x =>
    refine fun F2 H2 vs g2 r2 => ⟨hs F2 vs x r2, fun p np => ?_⟩
    refine q (upd F2 p (.tup vs)) _ _ (g2.tr (Gr.new g2.fh np)) (hg _ p vs x (RMo.mo (Ex.nw (ex_back g2.fh np)) r2) upd_same)
  | er c => exact q
  | bad => exact q
theorem r2_len {F : Hp} {vs : List V} {x : α × β × Unit} (h : RC K (RC K R0) F vs x) : vs.length ≤ sizeLine := by
  obtain ⟨v, r, rfl, _, v', r', rfl, _, rfl⟩ := h
  show 2 ≤ sizeLine
  decide
theorem em_tup2 {m1 : M α} {m2 : M β} (ha : Ev ce E ta σ F H (rv K) m1) (hb : Ev ce E tb σ F H (rv K) m2) : Ev ce E (tTup (tCons ta (tCons tb tNil))) σ F H (rv K) (m1.bind fun x => m2.bind fun y => .ok (x, y)) := fun F1 H1 g1 Q q => by
  refine ha F1 H1 g1 _ ?_
  cases m1 with
  | ok x =>
    intro F2 H2 v2 g2 q2
    refine hb F2 H2 (g1.tr g2) _ ?_
    cases m2 with
    | ok y =>
      refine fun F3 H3 v3 g3 q3 => ⟨by show 2 ≤ sizeLine; decide, fun p np => ?_⟩
      have e := Ex.nw (o := .tup [v2, v3]) (ex_back g3.fh np)
      exact q _ _ _ ((g2.tr g3).tr (Gr.new g3.fh np)) ⟨p, v2, v3, rfl, SqT.of upd_same, Rep.mo (g3.ff.tr e) q2, Rep.mo e q3⟩
    | er c => exact fun H' e => q H' (g2.hh.tr e)
    | bad => exact q
  | er c => exact q
  | bad => exact q
theorem em_tup3 {m1 : M α} {m2 : M β} {m3 : M γ} (ha : Ev ce E ta σ F H (rv K) m1) (hb : Ev ce E tb σ F H (rv K) m2) (hc : Ev ce E tc σ F H (rv K) m3) :
    Ev ce E (tTup (tCons ta (tCons tb (tCons tc tNil)))) σ F H (rv K) (m1.bind fun x => m2.bind fun y => m3.bind fun z => .ok (T3.mk x y z)) := fun F1 H1 g1 Q q => by
  refine ha F1 H1 g1 _ ?_
  cases m1 with
  | ok x =>
    intro F2 H2 v2 g2 q2
    refine hb F2 H2 (g1.tr g2) _ ?_
    cases m2 with
    | ok y =>
      intro F3 H3 v3 g3 q3
      refine hc F3 H3 ((g1.tr g2).tr g3) _ ?_
      cases m3 with
      | ok z =>
        refine fun F4 H4 v4 g4 q4 => ⟨by show 3 ≤ sizeLine; decide, fun p np => ?_⟩
        have e := Ex.nw (o := .tup [v2, v3, v4]) (ex_back g4.fh np)
        exact q _ _ _ (((g2.tr g3).tr g4).tr (Gr.new g4.fh np)) ⟨p, v2, v3, v4, rfl, SqT.of upd_same, Rep.mo ((g3.ff.tr g4.ff).tr e) q2, Rep.mo (g4.ff.tr e) q3, Rep.mo e q4⟩
      | er c => exact fun H' e => q H' ((g2.tr g3).hh.tr e)
      | bad => exact q
    | er c => exact fun H' e => q H' (g2.hh.tr e)
    | bad => exact q
  | er c => exact q
  | bad => exact q
/-- a written list: its items one by one -/
def EvL (ce : Ce) (E : XK) (K : PySem.W.Frag) (ta : TA) (σ : L2.St) (F H : Hp) (m : M (List α)) : Prop := EvAM ce E ta σ F H m (fun F vs x => Paired (rp K F) vs x)
theorem el_nil : EvL ce E K tNil σ F H (.ok ([] : List α)) := fun F1 H1 g1 Q q => q F1 H1 [] (Gr.rf g1.fh) .nil
theorem el_cons {tr : TA} {m1 : M α} {m2 : M (List α)} (ha : Ev ce E ta σ F H (rv K) m1) (hr : EvL ce E K tr σ F H m2) : EvL ce E K (tCons ta tr) σ F H (m1.bind fun x => m2.bind fun y => .ok (x :: y)) := fun F1 H1 g1 Q q => by
  refine ha F1 H1 g1 _ ?_
  cases m1 with
  | ok x =>
    intro F2 H2 vx g2 rx
    refine hr F2 H2 (g1.tr g2) _ ?_
    cases m2 with
    | ok y => exact fun F3 H3 vs g3 r3 => q F3 H3 (vx :: vs) (g2.tr g3) (.cons (Rep.mo g3.ff rx) r3)
    | er c => exact fun H' e => q H' (g2.hh.tr e)
    | bad => exact q
  | er c => exact q
  | bad => exact q
theorem em_lst {ta : TA} {m : M (List α)} (ha : EvL ce E K ta σ F H m) (hs : ∀ x, m = .ok x → x.length ≤ 1000) : Ev ce E (tLst ta) σ F H (rn K) m := fun F1 H1 g1 Q q => by
  refine ha F1 H1 g1 _ ?_
  cases m with
  | ok x =>
    refine fun F2 H2 vs g2 r2 => ⟨Nat.le_of_lt (small1000 (by rw [Paired.length r2]; exact hs x rfl)), fun p np => ?_⟩
    exact q F2 _ _ (g2.tr (Gr.own g2.fh np)) ⟨p, vs, rfl, ex_back g2.hh np, ex_back g2.fh np, upd_same, r2⟩
  | er c => exact q
  | bad => exact q

/-! ### places, lengths, slices -/
def ixM (xs : List α) (i : Int) : M α := match atI xs i with
  | some x => .ok x
  | none => .bad
theorem atI_pair {F : V → α → Prop} {vs : List V} {xs : List α} {i : Int} {x : α} (h : Paired F vs xs) (e : atI xs i = some x) : ∃ v, atI vs i = some v ∧ F v x := by
  unfold atI at e ⊢
  rw [Paired.length h]
  cases q : ixN xs.length i with
  | none => rw [q] at e; cases e
  | some j =>
    rw [q] at e
    exact paired_get h e
theorem o_ixL {xs : List α} {i : Int} : Op2 ce E K (rIxL K) (rv K) xs i (ixM xs i) := fun F1 H1 vx vy e rx ry Q q => by
  obtain ⟨a, vs, rfl, h2, h3⟩ := rx
  cases ry
  unfold ixM at q
  split at q
  · rename_i x hx
    obtain ⟨v, hv, rv'⟩ := atI_pair h3 hx
    exact ⟨a, vs, i, v, rfl, rfl, SqL.of (e _ _ h2), hv, q F1 H1 v (Gr.rf e) rv'⟩
  · exact q.elim
theorem o_ixS {xs : Scr} {i : Int} : Op2 ce E K (rIxL K) (rv K) xs i (ixM xs.l i) := fun F1 H1 vx vy e rx ry Q q => by
  obtain ⟨a, rfl, h2⟩ := rx
  cases ry
  unfold ixM at q
  split at q
  · rename_i x hx
    obtain ⟨v, hv, rv'⟩ := atI_pair (rep_int (K := K) (H := F1) xs.l) hx
    exact ⟨a, _, i, v, rfl, rfl, ex_l e h2, hv, q F1 H1 v (Gr.rf e) rv'⟩
  · exact q.elim
/-- places of tuples -/
theorem e_fst {x : α × β} (ha : Ev ce E ta σ F H (rv K) (.ok x)) : Ev ce E (tOp (rIxT K) ta (tC (.int 0))) σ F H (rv K) (.ok x.1) := fun F1 H1 g1 Q q => by
  refine ha F1 H1 g1 _ fun F2 H2 vx g2 ⟨a, u, w, e1, e2, e3, e4⟩ => ?_
  subst e1
  exact ⟨a, [u, w], 0, u, rfl, rfl, ex_t g2.fh e2, rfl, q F2 H2 u g2 e3⟩
theorem e_snd {x : α × β} (ha : Ev ce E ta σ F H (rv K) (.ok x)) : Ev ce E (tOp (rIxT K) ta (tC (.int 1))) σ F H (rv K) (.ok x.2) := fun F1 H1 g1 Q q => by
  refine ha F1 H1 g1 _ fun F2 H2 vx g2 ⟨a, u, w, e1, e2, e3, e4⟩ => ?_
  subst e1
  exact ⟨a, [u, w], 1, w, rfl, rfl, ex_t g2.fh e2, rfl, q F2 H2 w g2 e4⟩
theorem o_fst {x : α × β} {i : Int} (hi : i = 0) : Op2 ce E K (rIxT K) (rv K) x i (.ok x.1) := fun F1 H1 vx vy e ⟨a, u, w, e1, e2, e3, e4⟩ ry Q q => by
  subst e1 hi
  cases ry
  exact ⟨a, [u, w], 0, u, rfl, rfl, ex_t e e2, rfl, q F1 H1 u (Gr.rf e) e3⟩
theorem o_snd {x : α × β} {i : Int} (hi : i = 1) : Op2 ce E K (rIxT K) (rv K) x i (.ok x.2) := fun F1 H1 vx vy e ⟨a, u, w, e1, e2, e3, e4⟩ ry Q q => by
  subst e1 hi
  cases ry
  exact ⟨a, [u, w], 1, w, rfl, rfl, ex_t e e2, rfl, q F1 H1 w (Gr.rf e) e4⟩
theorem o_a3 {x : T3 α β γ} {i : Int} (hi : i = 0) : Op2 ce E K (rIxT K) (rv K) x i (.ok x.a) := fun F1 H1 vx vy e ⟨a, u, w, z, e1, e2, e3, e4, e5⟩ ry Q q => by
  subst e1 hi
  cases ry
  exact ⟨a, [u, w, z], 0, u, rfl, rfl, ex_t e e2, rfl, q F1 H1 u (Gr.rf e) e3⟩
theorem o_b3 {x : T3 α β γ} {i : Int} (hi : i = 1) : Op2 ce E K (rIxT K) (rv K) x i (.ok x.b) := fun F1 H1 vx vy e ⟨a, u, w, z, e1, e2, e3, e4, e5⟩ ry Q q => by
  subst e1 hi
  cases ry
  exact ⟨a, [u, w, z], 1, w, rfl, rfl, ex_t e e2, rfl, q F1 H1 w (Gr.rf e) e4⟩
theorem o_c3 {x : T3 α β γ} {i : Int} (hi : i = 2) : Op2 ce E K (rIxT K) (rv K) x i (.ok x.c) := fun F1 H1 vx vy e ⟨a, u, w, z, e1, e2, e3, e4, e5⟩ ry Q q => by
  subst e1 hi
  cases ry
  exact ⟨a, [u, w, z], 2, z, rfl, rfl, ex_t e e2, rfl, q F1 H1 z (Gr.rf e) e5⟩
/-- len -/
def rLenS (K : PySem.W.Frag) : List V → Hp → VK → Prop := fun xs H Q => ∃ p ys, xs = [.ref p] ∧ (SqL K H p ys ∨ SqT K H p ys) ∧ Q (.int ys.length) H
theorem a_len {xs : List α} : OpA ce E (RC K R0) (rLenS K) (rv K) (xs, ()) (.ok (xs.length : Int)) := fun F1 H1 vs e ⟨v, r, e1, ⟨a, us, h1, h2, h3⟩, e3⟩ Q q => by
  cases e3
  subst e1 h1
  refine ⟨a, us, rfl, .inl (SqL.of (e _ _ h2)), ?_⟩
  rw [Paired.length h3]
  exact q F1 H1 _ (Gr.rf e) rfl
theorem a_lenS {xs : Scr} : OpA ce E (RC K R0) (rLenS K) (rv K) (xs, ()) (.ok (xs.l.length : Int)) := fun F1 H1 vs e ⟨v, r, e1, ⟨a, h1, h2⟩, e3⟩ Q q => by
  cases e3
  subst e1 h1
  refine ⟨a, _, rfl, .inl (ex_l e h2), ?_⟩
  rw [List.length_map]
  exact q F1 H1 _ (Gr.rf e) rfl
theorem a_len2 {x : α × β} : OpA ce E (RC K R0) (rLenS K) (rv K) (x, ()) (.ok (2 : Int)) := fun F1 H1 vs e ⟨v, r, e1, ⟨a, u, w, h1, h2, h3, h4⟩, e3⟩ Q q => by
  cases e3
  subst e1 h1
  exact ⟨a, _, rfl, .inr (ex_t e h2), q F1 H1 _ (Gr.rf e) rfl⟩
theorem a_len3 {x : T3 α β γ} : OpA ce E (RC K R0) (rLenS K) (rv K) (x, ()) (.ok (3 : Int)) := fun F1 H1 vs e ⟨v, r, e1, ⟨a, u, w, z, h1, h2, h3, h4, h5⟩, e3⟩ Q q => by
  cases e3
  subst e1 h1
  exact ⟨a, _, rfl, .inr (ex_t e h2), q F1 H1 _ (Gr.rf e) rfl⟩
/-- list(xs): a new one -/
def rListS (K : PySem.W.Frag) : List V → Hp → VK → Prop := fun xs H Q => ∃ p ys, xs = [.ref p] ∧ (SqL K H p ys ∨ SqT K H p ys) ∧ ∀ l, H l = none → Q (.ref l) (upd H l (.lst ys))
theorem a_list {xs : List α} : OpA ce E (RC K R0) (rListS K) (rn K) (xs, ()) (.ok xs) := fun F1 H1 vs e ⟨v, r, e1, ⟨a, us, h1, h2, h3⟩, e3⟩ Q q => by
  cases e3
  subst e1 h1
  exact ⟨a, us, rfl, .inl (SqL.of (e _ _ h2)), fun l nl => q F1 _ _ (Gr.own e nl) ⟨l, us, rfl, nl, ex_back e nl, upd_same, h3⟩⟩
theorem a_listS {xs : Scr} : OpA ce E (RC K R0) (rListS K) (rn K) (xs, ()) (.ok xs.l) := fun F1 H1 vs e ⟨v, r, e1, ⟨a, h1, h2⟩, e3⟩ Q q => by
  cases e3
  subst e1 h1
  exact ⟨a, _, rfl, .inl (ex_l e h2), fun l nl => q F1 _ _ (Gr.own e nl) ⟨l, _, rfl, nl, ex_back e nl, upd_same, rep_int _⟩⟩
/-- abs, max, min, int of what is known -/
theorem a_abs {x : Int} : OpA ce E (RC K R0) (fun xs H Q => ∃ i, xs = [.int i] ∧ Q (.int (if i < 0 then -i else i)) H) (rv K) (x, ()) (.ok (if x < 0 then -x else x)) := fun F1 H1 vs e ⟨v, r, e1, h1, e3⟩ Q q => by
  cases e3
  cases h1
  subst e1
  exact ⟨x, rfl, q F1 H1 _ (Gr.rf e) rfl⟩
theorem a_max2 {x y : Int} : OpA ce E (RC K (RC K R0)) (fun xs H Q => ∃ i j, xs = [.int i, .int j] ∧ Q (.int (if j > i then j else i)) H) (rv K) (x, y, ()) (.ok (if y > x then y else x)) := fun F1 H1 vs e ⟨v, r, e1, h1, v', r', e2, h2, e3⟩ Q q => by
  cases e3
  cases h1
  cases h2
  subst e2
  subst e1
  exact ⟨x, y, rfl, q F1 H1 _ (Gr.rf e) rfl⟩
theorem a_min2 {x y : Int} : OpA ce E (RC K (RC K R0)) (fun xs H Q => ∃ i j, xs = [.int i, .int j] ∧ Q (.int (if j < i then j else i)) H) (rv K) (x, y, ()) (.ok (if y < x then y else x)) := fun F1 H1 vs e ⟨v, r, e1, h1, v', r', e2, h2, e3⟩ Q q => by
  cases e3
  cases h1
  cases h2
  subst e2
  subst e1
  exact ⟨x, y, rfl, q F1 H1 _ (Gr.rf e) rfl⟩
theorem a_intB {x : Bool} : OpA ce E (RC K R0) (fun xs H Q => (∃ i, xs = [.int i] ∧ Q (.int i) H) ∨ ∃ k, xs = [.bl k] ∧ Q (.int (if k then 1 else 0)) H) (rv K) (x, ()) (.ok (if x then (1 : Int) else 0)) := fun F1 H1 vs e ⟨v, r, e1, h1, e3⟩ Q q => by
  cases e3
  cases h1
  subst e1
  exact .inr ⟨x, rfl, q F1 H1 _ (Gr.rf e) rfl⟩
/-- sum of ints -/
theorem a_sum {xs : List Int} : OpA ce E (RC K R0) (rSum K) (rv K) (xs, ()) (.ok xs.sum) := fun F1 H1 vs e ⟨v, r, e1, ⟨a, us, h1, h2, h3⟩, e3⟩ Q q => by
  cases e3
  subst e1 h1
  have := paired_int h3
  subst this
  exact ⟨a, xs, rfl, SqL.of (e _ _ h2), q F1 H1 _ (Gr.rf e) rfl⟩
/-- the greatest, the least of a list of ints -/
def maxL : List Int → Int
  | [] => 0
  | [x] => x
  | x :: r => max x (maxL r)
def minL : List Int → Int
  | [] => 0
  | [x] => x
  | x :: r => min x (minL r)
theorem maxL_mem : ∀ {xs : List Int}, xs ≠ [] → maxL xs ∈ xs ∧ ∀ y ∈ xs, y ≤ maxL xs
  | [], h => absurd rfl h
  | [x], _ => ⟨List.mem_singleton.mpr rfl, fun y hy => by rw [List.mem_singleton.mp hy]; exact Int.le_refl _⟩
  | x :: y :: r, _ => by
    obtain ⟨h1, h2⟩ := maxL_mem (xs := y :: r) (by simp)
    show max x (maxL (y :: r)) ∈ _ ∧ ∀ z ∈ _, z ≤ max x (maxL (y :: r))
    refine ⟨?_, fun z hz => ?_⟩
    · by_cases c : x ≤ maxL (y :: r)
      · rw [Int.max_eq_right c]; exact List.mem_cons_of_mem _ h1
      · rw [Int.max_eq_left (by omega)]; exact List.mem_cons_self
    · rcases List.mem_cons.mp hz with rfl | hz
      · exact Int.le_max_left _ _
      · exact Int.le_trans (h2 z hz) (Int.le_max_right _ _)
theorem minL_mem : ∀ {xs : List Int}, xs ≠ [] → minL xs ∈ xs ∧ ∀ y ∈ xs, minL xs ≤ y
  | [], h => absurd rfl h
  | [x], _ => ⟨List.mem_singleton.mpr rfl, fun y hy => by rw [List.mem_singleton.mp hy]; exact Int.le_refl _⟩
  | x :: y :: r, _ => by
    obtain ⟨h1, h2⟩ := minL_mem (xs := y :: r) (by simp)
    show min x (minL (y :: r)) ∈ _ ∧ ∀ z ∈ _, min x (minL (y :: r)) ≤ z
    refine ⟨?_, fun z hz => ?_⟩
    · by_cases c : x ≤ minL (y :: r)
      · rw [Int.min_eq_left c]; exact List.mem_cons_self
      · rw [Int.min_eq_right (by omega)]; exact List.mem_cons_of_mem _ h1
    · rcases List.mem_cons.mp hz with rfl | hz
      · exact Int.min_le_left _ _
      · exact Int.le_trans (Int.min_le_right _ _) (h2 z hz)
noncomputable def maxM (xs : List Int) : M Int := chk (xs ≠ []) (maxL xs)
noncomputable def minM (xs : List Int) : M Int := chk (xs ≠ []) (minL xs)
theorem a_max {xs : List Int} : OpA ce E (RC K R0) (rMax K) (rv K) (xs, ()) (maxM xs) := fun F1 H1 vs e ⟨v, r, e1, ⟨a, us, h1, h2, h3⟩, e3⟩ Q q => by
  cases e3
  subst e1 h1
  have := paired_int h3
  subst this
  unfold maxM chk at q
  split at q
  · rename_i hne
    refine ⟨a, xs, rfl, SqL.of (e _ _ h2), List.length_pos_iff.mpr hne, fun m hm hle => ?_⟩
    obtain ⟨k1, k2⟩ := maxL_mem hne
    have : m = maxL xs := Int.le_antisymm (k2 m hm) (hle _ k1)
    subst this
    exact q F1 H1 _ (Gr.rf e) rfl
  · exact q.elim
theorem a_min {xs : List Int} : OpA ce E (RC K R0) (rMin K) (rv K) (xs, ()) (minM xs) := fun F1 H1 vs e ⟨v, r, e1, ⟨a, us, h1, h2, h3⟩, e3⟩ Q q => by
  cases e3
  subst e1 h1
  have := paired_int h3
  subst this
  unfold minM chk at q
  split at q
  · rename_i hne
    refine ⟨a, xs, rfl, SqL.of (e _ _ h2), List.length_pos_iff.mpr hne, fun m hm hle => ?_⟩
    obtain ⟨k1, k2⟩ := minL_mem hne
    have : m = minL xs := Int.le_antisymm (hle _ k1) (k2 m hm)
    subst this
    exact q F1 H1 _ (Gr.rf e) rfl
  · exact q.elim
end
end Mw

set_option Elab.async false
set_option linter.all false
set_option maxRecDepth 100000
set_option maxHeartbeats 2000000
/-! Mw, part C: slices, sums of lists, comparisons of data, sorts, comprehensions. -/
namespace Mw
open PySem L2
open Rep (rp)
/-! ### slices, list + list, list * int -/
def cut {α : Type} (xs : List α) (lo hi : Option Int) : List α := (xs.drop (HT.sIx xs.length 0 lo)).take (HT.sIx xs.length xs.length hi - HT.sIx xs.length 0 lo)
theorem cutV_is (xs : List V) (lo hi : Option Int) : cutV xs lo hi = cut xs lo hi := rfl
theorem paired_cut {α β : Type} {F : α → β → Prop} {vs : List α} {xs : List β} (h : Paired F vs xs) (lo hi : Option Int) : Paired F (cut vs lo hi) (cut xs lo hi) := by
  unfold cut
  rw [Paired.length h]
  exact paired_take _ (paired_drop _ h)
section
variable {ρ α β γ δ : Type} [Rep α] [Rep β] [Rep γ] [Rep δ] {ce : Ce} {E : XK} {K : PySem.W.Frag} {σ : L2.St} {F H F' H' : Hp} {te ta tb tc td : TE} {tt tu : TT} {md : Md ρ} {m : M ρ}
def EvO (ce : Ce) (E : XK) (to : TO) (σ : L2.St) (F H : Hp) (m : M (Option Int)) : Prop := ∀ F1 H1, Gr F H F1 H1 → ∀ Q : Option Int → Hp → Prop,
  (match m with
    | .ok x => ∀ F2 H2, Gr F1 H1 F2 H2 → Q x H2
    | .er c => ∀ H', Ex H1 H' → E (.ref (ce c.name)) none H'
    | .bad => False) → to σ H1 Q
theorem eo_none : EvO ce E tNoPart σ F H (.ok none) := fun F1 H1 g1 Q q => q F1 H1 (Gr.rf g1.fh)
theorem eo_some {m : M Int} (h : Ev ce E te σ F H (rv K) m) : EvO ce E (tPart te) σ F H (m.bind fun i => .ok (some i)) := fun F1 H1 g1 Q q => by
  refine h F1 H1 g1 _ ?_
  cases m with
  | ok i => exact fun F2 H2 v g2 r => ⟨i, r, q F2 H2 g2⟩
  | er c => exact q
  | bad => exact q
theorem eo_some' {i : Int} (h : Ev ce E te σ F H (rv K) (.ok i)) : EvO ce E (tPart te) σ F H (.ok (some i)) := eo_some (m := .ok i) h
theorem em_sl {tl th : TO} {m1 : M (List α)} {m2 m3 : M (Option Int)} (ha : Ev ce E ta σ F H (rv K) m1) (hl : EvO ce E tl σ F H m2) (hh : EvO ce E th σ F H m3) :
    Ev ce E (tSl (rSlL K) ta tl th) σ F H (rn K) (m1.bind fun x => m2.bind fun lo => m3.bind fun hi => .ok (cut x lo hi)) := fun F1 H1 g1 Q q => by
  refine ha F1 H1 g1 _ ?_
  cases m1 with
  | ok x =>
    rintro F2 H2 vx g2 ⟨a, vs, e1, e2, e3⟩
    refine hl F2 H2 (g1.tr g2) _ ?_
    cases m2 with
    | ok lo =>
      intro F3 H3 g3
      refine hh F3 H3 ((g1.tr g2).tr g3) _ ?_
      cases m3 with
      | ok hi =>
        intro F4 H4 g4
        refine ⟨a, vs, e1, SqL.of (g4.hh _ _ (g3.hh _ _ (g2.fh _ _ e2))), fun p np => ?_⟩
        exact q F4 _ _ (((g2.tr g3).tr g4).tr (Gr.own g4.fh np)) ⟨p, _, rfl, ex_back ((g2.hh.tr g3.hh).tr g4.hh) np, ex_back g4.fh np, upd_same, paired_cut (paired_mo (g3.ff.tr g4.ff) e3) lo hi⟩
      | er c => exact fun H' e => q H' ((g2.tr g3).hh.tr e)
      | bad => exact q
    | er c => exact fun H' e => q H' (g2.hh.tr e)
    | bad => exact q
  | er c => exact q
  | bad => exact q
/-- a slice of the script -/
theorem em_slS {tl th : TO} {x : Scr} {m2 m3 : M (Option Int)} (ha : Ev ce E ta σ F H (rv K) (.ok x)) (hl : EvO ce E tl σ F H m2) (hh : EvO ce E th σ F H m3) :
    Ev ce E (tSl (rSlL K) ta tl th) σ F H (rn K) (m2.bind fun lo => m3.bind fun hi => .ok (cut x.l lo hi)) := fun F1 H1 g1 Q q => by
  refine ha F1 H1 g1 _ ?_
  rintro F2 H2 vx g2 ⟨a, e1, e2⟩
  refine hl F2 H2 (g1.tr g2) _ ?_
  cases m2 with
  | ok lo =>
    intro F3 H3 g3
    refine hh F3 H3 ((g1.tr g2).tr g3) _ ?_
    cases m3 with
    | ok hi =>
      intro F4 H4 g4
      refine ⟨a, _, e1, ex_l ((g2.fh.tr g3.hh).tr g4.hh) e2, fun p np => ?_⟩
      exact q F4 _ _ (((g2.tr g3).tr g4).tr (Gr.own g4.fh np)) ⟨p, _, rfl, ex_back ((g2.hh.tr g3.hh).tr g4.hh) np, ex_back g4.fh np, upd_same, paired_cut (rep_int x.l) lo hi⟩
    | er c => exact fun H' e => q H' ((g2.tr g3).hh.tr e)
    | bad => exact q
  | er c => exact fun H' e => q H' (g2.hh.tr e)
  | bad => exact q
theorem em_rev {m1 : M (List α)} (ha : Ev ce E ta σ F H (rv K) m1) : Ev ce E (tRevL K ta) σ F H (rn K) (m1.bind fun x => .ok x.reverse) := fun F1 H1 g1 Q q => by
  refine ha F1 H1 g1 _ ?_
  cases m1 with
  | ok x =>
    rintro F2 H2 vx g2 ⟨a, vs, e1, e2, e3⟩
    refine ⟨a, vs, e1, SqL.of (g2.fh _ _ e2), fun p np => ?_⟩
    exact q F2 _ _ (g2.tr (Gr.own g2.fh np)) ⟨p, _, rfl, ex_back g2.hh np, ex_back g2.fh np, upd_same, paired_rev e3⟩
  | er c => exact q
  | bad => exact q
noncomputable def catM {α : Type} (xs ys : List α) : M (List α) := chk (xs.length + ys.length ≤ 16000000) (xs ++ ys)
theorem o_cat {xs ys : List α} : Op2 ce E K rCat (rn K) xs ys (catM xs ys) := fun F1 H1 vx vy e ⟨a, vs, h1, h2, h3⟩ ⟨b, ws, k1, k2, k3⟩ Q q => by
  unfold catM chk at q
  split at q
  · rename_i hc
    refine ⟨a, b, vs, ws, h1, k1, e _ _ h2, e _ _ k2, ?_, fun p np => ?_⟩
    · rw [Paired.length h3, Paired.length k3, sizeLine_eq]; omega
    · exact q F1 _ _ (Gr.own e np) ⟨p, _, rfl, np, ex_back e np, upd_same, paired_app h3 k3⟩
  · exact q.elim
theorem paired_flat {F : V → α → Prop} {vs : List V} {xs : List α} (h : Paired F vs xs) : ∀ n : Nat, Paired F (List.replicate n vs).flatten (List.replicate n xs).flatten
  | 0 => .nil
  | n + 1 => by
    rw [List.replicate_succ, List.replicate_succ, List.flatten_cons, List.flatten_cons]
    exact paired_app h (paired_flat h n)
noncomputable def repM {α : Type} (xs : List α) (k : Int) : M (List α) := chk (-(2 ^ 63) ≤ k ∧ k < 2 ^ 63 ∧ xs.length * k.toNat ≤ 16000000) (List.replicate k.toNat xs).flatten
theorem o_rep {xs : List α} {k : Int} : Op2 ce E K rRep (rn K) xs k (repM xs k) := fun F1 H1 vx vy e ⟨a, vs, h1, h2, h3⟩ ry Q q => by
  cases ry
  unfold repM chk at q
  split at q
  · rename_i hc
    refine ⟨a, k, vs, h1, rfl, e _ _ h2, hc.1, hc.2.1, ?_, fun p np => ?_⟩
    · rw [Paired.length h3, sizeLine_eq]; omega
    · exact q F1 _ _ (Gr.own e np) ⟨p, _, rfl, np, ex_back e np, upd_same, paired_flat h3 _⟩
  · exact q.elim

/-! ### == of data -/
class Dat (α : Type) [Rep α] [DecidableEq α] where
  dat : α → PyData
  deep : Nat
  dp : ∀ {K : PySem.W.Frag} {H : Hp} {v : V} {x : α}, rp K H v x → Dp K H v (dat x)
  cl : ∀ x, (dat x).canLay0 = true
  de : ∀ x, (dat x).depth ≤ deep
  eq : ∀ x y, PyData.eqv (dat x) (dat y) = decide (x = y)
end
instance : Dat Int := ⟨fun i => .int i, 0, fun {K H v x} h => by cases h; exact .int x, fun _ => rfl, fun _ => Nat.le_refl _, fun x y => by simp only [PyData.eqv]; rw [Bool.eq_iff_iff]; simp⟩
instance : Dat Bool := ⟨fun i => .bool i, 0, fun {K H v x} h => by cases h; exact .bl x, fun _ => rfl, fun _ => Nat.le_refl _, fun x y => by simp only [PyData.eqv]; rw [Bool.eq_iff_iff]; simp⟩
/-- what is told apart from None -/
class NotN (α : Type) [Rep α] [DecidableEq α] [Dat α] : Prop where
  nn : ∀ x : α, PyData.eqv .none (Dat.dat x) = false ∧ PyData.eqv (Dat.dat x) .none = false
instance : NotN Int := ⟨fun x => ⟨by show PyData.eqv .none (.int x) = false; simp [PyData.eqv], by show PyData.eqv (.int x) .none = false; simp [PyData.eqv]⟩⟩
instance : NotN Bool := ⟨fun x => ⟨by show PyData.eqv .none (.bool x) = false; simp [PyData.eqv], by show PyData.eqv (.bool x) .none = false; simp [PyData.eqv]⟩⟩
instance {α : Type} [Rep α] [DecidableEq α] [Dat α] [NotN α] : Dat (Option α) where
  dat := fun x => match x with
    | none => .none
    | some y => Dat.dat y
  deep := Dat.deep α
  dp := fun {K H v x} h => by
    cases x with
    | none => cases h; exact .non
    | some y => exact Dat.dp h.1
  cl := fun x => by cases x with
    | none => rfl
    | some y => exact Dat.cl y
  de := fun x => by cases x with
    | none => exact Nat.zero_le _
    | some y => exact Dat.de y
  eq := fun x y => by
    cases x with
    | none => cases y with
      | none => simp [PyData.eqv]
      | some b => simpa using (NotN.nn b).1
    | some a => cases y with
      | none => simpa using (NotN.nn a).2
      | some b => simpa using Dat.eq a b
theorem dpAll_of {α : Type} [Rep α] [DecidableEq α] [Dat α] {K : PySem.W.Frag} {H : Hp} : ∀ {vs : List V} {xs : List α}, Paired (rp K H) vs xs → DpAll K H vs (xs.map Dat.dat)
  | _, _, .nil => .nil
  | _, _, .cons h t => .cons (Dat.dp h) (dpAll_of t)
theorem clAll {α : Type} [Rep α] [DecidableEq α] [Dat α] : ∀ xs : List α, PyData.canLayAll0 (xs.map Dat.dat) = true
  | [] => by simp [PyData.canLayAll0]
  | x :: r => by simp [PyData.canLayAll0, Dat.cl x, clAll r]
theorem deAll {α : Type} [Rep α] [DecidableEq α] [Dat α] : ∀ xs : List α, PyData.depthAll (xs.map Dat.dat) ≤ Dat.deep α
  | [] => Nat.zero_le _
  | x :: r => by
    show max (PyData.depth (Dat.dat x)) (PyData.depthAll (r.map Dat.dat)) ≤ _
    exact Nat.max_le.mpr ⟨Dat.de x, deAll r⟩
theorem eqAll {α : Type} [Rep α] [DecidableEq α] [Dat α] : ∀ xs ys : List α, PyData.eqvAll (xs.map Dat.dat) (ys.map Dat.dat) = decide (xs = ys)
  | [], [] => by simp [PyData.eqvAll]
  | [], _ :: _ => by simp [PyData.eqvAll]
  | _ :: _, [] => by simp [PyData.eqvAll]
  | x :: r, y :: s => by
    simp only [List.map_cons, PyData.eqvAll, Dat.eq x y, eqAll r s, List.cons.injEq]
    simp
instance {α : Type} [Rep α] [DecidableEq α] [Dat α] : Dat (List α) where
  dat := fun xs => .list (xs.map Dat.dat)
  deep := Dat.deep α + 1
  dp := fun {K H v x} ⟨a, vs, h1, h2, h3⟩ => by subst h1; exact .lst (SqL.of h2) (dpAll_of h3)
  cl := fun xs => by simpa [PyData.canLay0] using clAll xs
  de := fun xs => by
    show PyData.depthAll (xs.map Dat.dat) + 1 ≤ _
    exact Nat.succ_le_succ (deAll xs)
  eq := fun xs ys => by simpa [PyData.eqv] using eqAll xs ys
instance {α : Type} [Rep α] [DecidableEq α] [Dat α] : NotN (List α) := ⟨fun x => ⟨by show PyData.eqv .none (.list _) = false; simp [PyData.eqv], by show PyData.eqv (.list _) .none = false; simp [PyData.eqv]⟩⟩
instance {α β : Type} [Rep α] [Rep β] [DecidableEq α] [DecidableEq β] [Dat α] [Dat β] : Dat (α × β) where
  dat := fun x => .tuple [Dat.dat x.1, Dat.dat x.2]
  deep := max (Dat.deep α) (Dat.deep β) + 1
  dp := fun {K H v x} ⟨a, u, w, h1, h2, h3, h4⟩ => by subst h1; exact .tup h2 (.cons (Dat.dp h3) (.cons (Dat.dp h4) .nil))
  cl := fun x => by simp [PyData.canLay0, PyData.canLayAll0, Dat.cl]
  de := fun x => by
    show max (PyData.depth _) (max (PyData.depth _) 0) + 1 ≤ _
    have h1 := Dat.de x.1
    have h2 := Dat.de x.2
    omega
  eq := fun x y => by
    obtain ⟨x1, x2⟩ := x
    obtain ⟨y1, y2⟩ := y
    simp only [PyData.eqv, PyData.eqvAll, Dat.eq, Bool.and_true, Prod.mk.injEq]
    simp
instance {α β : Type} [Rep α] [Rep β] [DecidableEq α] [DecidableEq β] [Dat α] [Dat β] : NotN (α × β) := ⟨fun x => ⟨by show PyData.eqv .none (.tuple _) = false; simp [PyData.eqv], by show PyData.eqv (.tuple _) .none = false; simp [PyData.eqv]⟩⟩
instance {α β γ : Type} [Rep α] [Rep β] [Rep γ] [DecidableEq α] [DecidableEq β] [DecidableEq γ] [Dat α] [Dat β] [Dat γ] : Dat (T3 α β γ) where
  dat := fun x => .tuple [Dat.dat x.a, Dat.dat x.b, Dat.dat x.c]
  deep := max (Dat.deep α) (max (Dat.deep β) (Dat.deep γ)) + 1
  dp := fun {K H v x} ⟨a, u, w, z, h1, h2, h3, h4, h5⟩ => by subst h1; exact .tup h2 (.cons (Dat.dp h3) (.cons (Dat.dp h4) (.cons (Dat.dp h5) .nil)))
  cl := fun x => by simp [PyData.canLay0, PyData.canLayAll0, Dat.cl]
  de := fun x => by
    show max (PyData.depth _) (max (PyData.depth _) (max (PyData.depth _) 0)) + 1 ≤ _
    have h1 := Dat.de x.a
    have h2 := Dat.de x.b
    have h3 := Dat.de x.c
    omega
  eq := fun x y => by
    obtain ⟨x1, x2, x3⟩ := x
    obtain ⟨y1, y2, y3⟩ := y
    simp only [PyData.eqv, PyData.eqvAll, Dat.eq, Bool.and_true, T3.mk.injEq]
    simp
instance {α β γ : Type} [Rep α] [Rep β] [Rep γ] [DecidableEq α] [DecidableEq β] [DecidableEq γ] [Dat α] [Dat β] [Dat γ] : NotN (T3 α β γ) := ⟨fun x => ⟨by show PyData.eqv .none (.tuple _) = false; simp [PyData.eqv], by show PyData.eqv (.tuple _) .none = false; simp [PyData.eqv]⟩⟩
section
variable {ρ α β γ δ : Type} [Rep α] [Rep β] [Rep γ] [Rep δ] {ce : Ce} {E : XK} {K : PySem.W.Frag} {σ : L2.St} {F H F' H' : Hp} {te ta tb tc td : TE} {tt tu : TT} {md : Md ρ} {m : M ρ}
theorem shaped_of [DecidableEq α] [Dat α] (h : Dat.deep α ≤ 64) (x : α) : SeqAt.shaped (Dat.dat x) = true := by
  unfold SeqAt.shaped
  rw [Dat.cl x]
  exact decide_eq_true (Nat.le_trans (Dat.de x) h)
theorem o_eqD [DecidableEq α] [Dat α] {x y : α} (h : Dat.deep α ≤ 64) : Op2 ce E K (rEqD K) (rv K) x y (.ok (decide (x = y))) := fun F1 H1 vx vy e rx ry Q q => by
  refine ⟨Dat.dat x, Dat.dat y, Dat.dp (Rep.mo e rx), Dat.dp (Rep.mo e ry), shaped_of h x, shaped_of h y, ?_⟩
  rw [Dat.eq]
  exact q F1 H1 _ (Gr.rf e) rfl
theorem o_neD [DecidableEq α] [Dat α] {x y : α} (h : Dat.deep α ≤ 64) : Op2 ce E K (rNeD K) (rv K) x y (.ok (!decide (x = y))) := fun F1 H1 vx vy e rx ry Q q => by
  refine ⟨Dat.dat x, Dat.dat y, Dat.dp (Rep.mo e rx), Dat.dp (Rep.mo e ry), shaped_of h x, shaped_of h y, ?_⟩
  rw [Dat.eq]
  exact q F1 H1 _ (Gr.rf e) rfl
/-- x == y where the one may be None -/
theorem o_eqDo [DecidableEq α] [Dat α] [NotN α] {x : Option α} {y : α} (h : Dat.deep α ≤ 64) : Op2 ce E K (rEqD K) (rv K) x y (.ok (decide (x = some y))) := fun F1 H1 vx vy e rx ry Q q => by
  refine ⟨Dat.dat x, Dat.dat y, Dat.dp (Rep.mo e rx), Dat.dp (Rep.mo e ry), shaped_of (α := Option α) h x, shaped_of h y, ?_⟩
  rw [show PyData.eqv (Dat.dat x) (Dat.dat y) = decide (x = some y) from Dat.eq x (some y)]
  exact q F1 H1 _ (Gr.rf e) rfl
theorem o_neDo [DecidableEq α] [Dat α] [NotN α] {x : Option α} {y : α} (h : Dat.deep α ≤ 64) : Op2 ce E K (rNeD K) (rv K) x y (.ok (!decide (x = some y))) := fun F1 H1 vx vy e rx ry Q q => by
  refine ⟨Dat.dat x, Dat.dat y, Dat.dp (Rep.mo e rx), Dat.dp (Rep.mo e ry), shaped_of (α := Option α) h x, shaped_of h y, ?_⟩
  rw [show PyData.eqv (Dat.dat x) (Dat.dat y) = decide (x = some y) from Dat.eq x (some y)]
  exact q F1 H1 _ (Gr.rf e) rfl
theorem o_eqI {x y : Int} : Op2 ce E K rEq (rv K) x y (.ok (decide (x = y))) := fun F1 H1 vx vy e rx ry Q q => by
  cases rx; cases ry
  refine ⟨rfl, ?_⟩
  have : decide (V.int x = V.int y) = decide (x = y) := by rw [Bool.eq_iff_iff]; simp
  rw [this]
  exact q F1 H1 _ (Gr.rf e) rfl
theorem o_neI {x y : Int} : Op2 ce E K rNe (rv K) x y (.ok (!decide (x = y))) := fun F1 H1 vx vy e rx ry Q q => by
  cases rx; cases ry
  refine ⟨rfl, ?_⟩
  have : decide (V.int x = V.int y) = decide (x = y) := by rw [Bool.eq_iff_iff]; simp
  rw [this]
  exact q F1 H1 _ (Gr.rf e) rfl
theorem o_eqB {x y : Bool} : Op2 ce E K rEq (rv K) x y (.ok (decide (x = y))) := fun F1 H1 vx vy e rx ry Q q => by
  cases rx; cases ry
  refine ⟨rfl, ?_⟩
  have : decide (V.bl x = V.bl y) = decide (x = y) := by rw [Bool.eq_iff_iff]; simp
  rw [this]
  exact q F1 H1 _ (Gr.rf e) rfl
theorem o_neB {x y : Bool} : Op2 ce E K rNe (rv K) x y (.ok (!decide (x = y))) := fun F1 H1 vx vy e rx ry Q q => by
  cases rx; cases ry
  refine ⟨rfl, ?_⟩
  have : decide (V.bl x = V.bl y) = decide (x = y) := by rw [Bool.eq_iff_iff]; simp
  rw [this]
  exact q F1 H1 _ (Gr.rf e) rfl
theorem o_eqS {x y : Str} : Op2 ce E K rEq (rv K) x y (.ok (decide (x = y))) := fun F1 H1 vx vy e rx ry Q q => by
  cases rx; cases ry
  refine ⟨rfl, ?_⟩
  have : decide (V.str x = V.str y) = decide (x = y) := by rw [Bool.eq_iff_iff]; simp
  rw [this]
  exact q F1 H1 _ (Gr.rf e) rfl
theorem o_neS {x y : Str} : Op2 ce E K rNe (rv K) x y (.ok (!decide (x = y))) := fun F1 H1 vx vy e rx ry Q q => by
  cases rx; cases ry
  refine ⟨rfl, ?_⟩
  have : decide (V.str x = V.str y) = decide (x = y) := by rw [Bool.eq_iff_iff]; simp
  rw [this]
  exact q F1 H1 _ (Gr.rf e) rfl
/-- x is None, x is not None -/
def rIsN : R2 := fun x y H Q => y = .non ∧ Q (.bl (decide (x = .non))) H
def rNotN : R2 := fun x y H Q => y = .non ∧ Q (.bl (!decide (x = .non))) H
theorem o_isN {x : Option α} : Op2 ce E K rIsN (rv K) x () (.ok (!x.isSome)) := fun F1 H1 vx vy e rx ry Q q => by
  cases ry
  refine ⟨rfl, ?_⟩
  have : decide (vx = V.non) = !x.isSome := by
    cases x with
    | none => cases rx; rfl
    | some y => exact decide_eq_false rx.2
  rw [this]
  exact q F1 H1 _ (Gr.rf e) rfl
theorem o_notN {x : Option α} : Op2 ce E K rNotN (rv K) x () (.ok x.isSome) := fun F1 H1 vx vy e rx ry Q q => by
  cases ry
  refine ⟨rfl, ?_⟩
  have : (!decide (vx = V.non)) = x.isSome := by
    cases x with
    | none => cases rx; rfl
    | some y => rw [decide_eq_false rx.2] <;> rfl
  rw [this]
  exact q F1 H1 _ (Gr.rf e) rfl
theorem o_isU {x : Unit} : Op2 ce E K rIsN (rv K) x () (.ok true) := fun F1 H1 vx vy e rx ry Q q => by
  cases ry; cases rx
  exact ⟨rfl, q F1 H1 _ (Gr.rf e) rfl⟩
theorem o_notU {x : Unit} : Op2 ce E K rNotN (rv K) x () (.ok false) := fun F1 H1 vx vy e rx ry Q q => by
  cases ry; cases rx
  exact ⟨rfl, q F1 H1 _ (Gr.rf e) rfl⟩
/-- a value that may be None -/
class NN (α : Type) [Rep α] : Prop where
  nn : ∀ {K : PySem.W.Frag} {H : Hp} {v : V} {x : α}, rp K H v x → v ≠ .non
instance : NN Int := ⟨fun h => by cases h; exact fun z => nomatch z⟩
instance : NN Bool := ⟨fun h => by cases h; exact fun z => nomatch z⟩
instance : NN Str := ⟨fun h => by cases h; exact fun z => nomatch z⟩
instance : NN (List α) := ⟨fun ⟨a, vs, h1, _⟩ => by subst h1; exact fun z => nomatch z⟩
instance : NN (α × β) := ⟨fun ⟨a, u, w, h1, _⟩ => by subst h1; exact fun z => nomatch z⟩
instance : NN (T3 α β γ) := ⟨fun ⟨a, u, w, z, h1, _⟩ => by subst h1; exact fun z => nomatch z⟩
instance : NN (T4 α β γ δ) := ⟨fun ⟨a, u, w, z, y, h1, _⟩ => by subst h1; exact fun z => nomatch z⟩
theorem em_some [NN α] {m : M α} (h : Ev ce E te σ F H (rv K) m) : Ev ce E te σ F H (rv K) (m.bind fun x => .ok (some x)) := fun F1 H1 g1 Q q => by
  refine h F1 H1 g1 _ ?_
  cases m with
  | ok x => exact fun F2 H2 v g2 r => q F2 H2 v g2 ⟨r, NN.nn r⟩
  | er c => exact q
  | bad => exact q
/-- what is not None -/
def getM {α : Type} (x : Option α) : M α := match x with
  | some y => .ok y
  | none => .bad
theorem em_get {m : M (Option α)} (h : Ev ce E te σ F H (rv K) m) : Ev ce E te σ F H (rv K) (m.bind getM) := fun F1 H1 g1 Q q => by
  refine h F1 H1 g1 _ ?_
  cases m with
  | ok x =>
    cases x with
    | none => exact q.elim
    | some y => exact fun F2 H2 v g2 r => q F2 H2 v g2 r.1
  | er c => exact q
  | bad => exact q

/-! ### in a list -/
theorem inV_int (x : Int) : ∀ xs : List Int, inV (.int x) (xs.map V.int) = decide (x ∈ xs)
  | [] => by simp [inV]
  | y :: r => by
    have ih := inV_int x r
    unfold inV at ih ⊢
    rw [List.map_cons, List.any_cons, ih]
    have : eqV (V.int y) (V.int x) = decide (x = y) := by
      show (y == x) = decide (x = y)
      rw [Bool.eq_iff_iff, beq_iff_eq, decide_eq_true_eq]
      exact ⟨Eq.symm, Eq.symm⟩
    rw [this, Bool.eq_iff_iff]
    simp
theorem flat_ints : ∀ xs : List Int, (xs.map V.int).all flatV = true
  | [] => rfl
  | _ :: r => by rw [List.map_cons, List.all_cons, flat_ints r] <;> rfl
theorem o_in {x : Int} {xs : List Int} : Op2 ce E K (rIn K false) (rv K) x xs (.ok (decide (x ∈ xs))) := fun F1 H1 vx vy e rx ⟨a, vs, h1, h2, h3⟩ Q q => by
  cases rx
  have := paired_int h3
  subst this
  subst h1
  refine ⟨a, _, rfl, .inl (SqL.of (e _ _ h2)), rfl, flat_ints _, ?_⟩
  show Q (V.bl (if false = true then _ else _)) H1
  rw [if_neg Bool.false_ne_true, inV_int]
  exact q F1 H1 _ (Gr.rf e) rfl
theorem o_notIn {x : Int} {xs : List Int} : Op2 ce E K (rIn K true) (rv K) x xs (.ok (!decide (x ∈ xs))) := fun F1 H1 vx vy e rx ⟨a, vs, h1, h2, h3⟩ Q q => by
  cases rx
  have := paired_int h3
  subst this
  subst h1
  refine ⟨a, _, rfl, .inl (SqL.of (e _ _ h2)), rfl, flat_ints _, ?_⟩
  show Q (V.bl (if true = true then _ else _)) H1
  rw [if_pos rfl, inV_int]
  exact q F1 H1 _ (Gr.rf e) rfl

/-! ### sorted ints -/
def insI (x : Int) : List Int → List Int
  | [] => [x]
  | y :: r => if x ≤ y then x :: y :: r else y :: insI x r
def sortI : List Int → List Int
  | [] => []
  | x :: r => insI x (sortI r)
theorem insI_perm (x : Int) : ∀ xs, (insI x xs).Perm (x :: xs)
  | [] => List.Perm.refl _
  | y :: r => by
    unfold insI
    split
    · exact List.Perm.refl _
    · exact (List.Perm.cons y (insI_perm x r)).trans (List.Perm.swap x y r)
theorem sortI_perm : ∀ xs, (sortI xs).Perm xs
  | [] => List.Perm.refl _
  | x :: r => (insI_perm x _).trans (List.Perm.cons x (sortI_perm r))
theorem insI_sorted (x : Int) : ∀ {xs : List Int}, xs.Pairwise (· ≤ ·) → (insI x xs).Pairwise (· ≤ ·)
  | [], _ => List.pairwise_singleton _ _
  | y :: r, h => by
    unfold insI
    have hy := List.pairwise_cons.mp h
    split
    · rename_i c
      refine List.pairwise_cons.mpr ⟨fun z hz => ?_, h⟩
      rcases List.mem_cons.mp hz with rfl | hz
      · exact c
      · exact Int.le_trans c (hy.1 z hz)
    · rename_i c
      refine List.pairwise_cons.mpr ⟨fun z hz => ?_, insI_sorted x hy.2⟩
      rcases List.mem_cons.mp ((insI_perm x r).mem_iff.mp hz) with rfl | hz
      · omega
      · exact hy.1 z hz
theorem sortI_sorted : ∀ xs : List Int, (sortI xs).Pairwise (· ≤ ·)
  | [] => List.Pairwise.nil
  | x :: r => insI_sorted x (sortI_sorted r)
theorem sorted_same : ∀ {xs ys : List Int}, xs.Perm ys → xs.Pairwise (· ≤ ·) → ys.Pairwise (· ≤ ·) → xs = ys
  | [], ys, p, _, _ => (List.Perm.nil_eq p)
  | x :: r, [], p, _, _ => absurd p.length_eq (by simp)
  | x :: r, y :: s, p, h1, h2 => by
    have a1 := List.pairwise_cons.mp h1
    have a2 := List.pairwise_cons.mp h2
    have e : x = y := by
      have m1 : x ∈ y :: s := p.mem_iff.mp List.mem_cons_self
      have m2 : y ∈ x :: r := p.mem_iff.mpr List.mem_cons_self
      rcases List.mem_cons.mp m1 with rfl | m1
      · rfl
      · rcases List.mem_cons.mp m2 with rfl | m2
        · rfl
        · have := a1.1 y m2
          have := a2.1 x m1
          omega
    subst e
    rw [sorted_same (List.Perm.cons_inv p) a1.2 a2.2]
theorem a_sorted {xs : List Int} : OpA ce E (RC K R0) (rSortedI K) (rn K) (xs, ()) (.ok (sortI xs)) := fun F1 H1 vs e ⟨v, r, e1, ⟨a, us, h1, h2, h3⟩, e3⟩ Q q => by
  cases e3
  subst e1 h1
  have := paired_int h3
  subst this
  refine ⟨a, xs, rfl, SqL.of (e _ _ h2), fun ns p hp hs np => ?_⟩
  have : ns = sortI xs := sorted_same (hp.trans (sortI_perm xs).symm) hs (sortI_sorted xs)
  subst this
  exact q F1 _ _ (Gr.own e np) ⟨p, _, rfl, np, ex_back e np, upd_same, rep_int _⟩

/-! ### isinstance, by the types -/
theorem a_isI {n : String} {b : Bool} {x : Int} (hb : PySem.W.kitOne K (.type "int") (.type n) = some b) : OpA ce E (fun F vs (x : Int) => vs = [.int x, .ty n]) (rIsi K) (rv K) x (.ok b) := fun F1 H1 vs e h Q q => by
  subst h
  exact ⟨.int x, .ty n, _, _, b, rfl, .ty n, .base (.int x), hb, q F1 H1 _ (Gr.rf e) rfl⟩
end
end Mw

set_option Elab.async false
set_option linter.all false
set_option maxRecDepth 100000
set_option maxHeartbeats 2000000
/-! Mw, part D: statements, loops, comprehensions, defs. -/
namespace Mw
open PySem L2
open Rep (rp)
/-! ### what is left to be done -/
def Wp {τ : Type} (ce : Ce) (E : XK) (H0 : Hp) (m : M τ) (P : τ → Prop) : Prop :=
  match m with
  | .ok r => P r
  | .er c => ∀ H', Ex H0 H' → E (.ref (ce c.name)) none H'
  | .bad => False
def Fin {ρ : Type} (md : Md ρ) (F0 H0 : Hp) (Q : VK) : ρ → Prop := fun r => ∀ F' H' v, Gr F0 H0 F' H' → md F0 H0 F' H' v r → Q v H'
theorem wp_post {ρ : Type} {ce : Ce} {md : Md ρ} {m : M ρ} {F H : Hp} {Q : VK} {E : XK} (h : Post ce md m F H Q E) : Wp ce E H m (Fin md F H Q) := by
  cases m with
  | ok r => exact h
  | er c => exact h
  | bad => exact h
inductive Ctl (S τ : Type) where
  | nx (s : S)
  | br (s : S)
  | rt (r : τ)
def forM {α S τ : Type} (f : α → S → M (Ctl S τ)) (k : S → M τ) : List α → S → M τ
  | [], s => k s
  | x :: r, s => (f x s).bind fun c => match c with
    | .nx s' => forM f k r s'
    | .br s' => k s'
    | .rt r => .ok r
def whM {S τ : Type} (c : S → M Bool) (f : S → M (Ctl S τ)) (k : S → M τ) : Nat → S → M τ
  | 0, _ => .bad
  | n + 1, s => (c s).bind fun b => if b then (f s).bind fun z => match z with
    | .nx s' => whM c f k n s'
    | .br s' => k s'
    | .rt r => .ok r else k s
theorem forM_nil {α S τ : Type} (f : α → S → M (Ctl S τ)) (k : S → M τ) (s : S) : forM f k [] s = k s := rfl
theorem forM_cons {α S τ : Type} (f : α → S → M (Ctl S τ)) (k : S → M τ) (x : α) (r : List α) (s : S) : forM f k (x :: r) s = (f x s).bind fun c => match c with
    | .nx s' => forM f k r s'
    | .br s' => k s'
    | .rt r => .ok r := rfl
/-! ### comprehensions -/
def M.ne {α : Type} : M α → M α
  | .ok a => .ok a
  | _ => .bad
@[simp] theorem ne_ok {α : Type} (a : α) : (M.ok a).ne = .ok a := (rfl)
def compM {α β : Type} (c : α → M Bool) (e : α → M β) : List α → M (List β)
  | [] => .ok []
  | x :: r => (c x).ne.bind fun b => if b then (e x).ne.bind fun y => (compM c e r).bind fun ys => .ok (y :: ys) else compM c e r
noncomputable def lcM {α β : Type} (c : α → M Bool) (e : α → M β) (xs : List α) : M (List β) := @ite _ (xs.length ≤ 16000000) (Classical.propDecidable _) (compM c e xs) .bad
theorem compM_ok {α β : Type} (c : α → Bool) (e : α → β) : ∀ xs : List α, compM (fun x => .ok (c x)) (fun x => .ok (e x)) xs = .ok ((xs.filter c).map e)
  | [] => rfl
  | x :: r => by
    show (if c x = true then ((compM _ _ r).bind fun ys => M.ok (e x :: ys)) else compM _ _ r) = _
    rw [compM_ok c e r, List.filter_cons]
    split
    · rfl
    · rfl
theorem compM_all {α β : Type} (e : α → β) : ∀ xs : List α, compM (fun _ => .ok true) (fun x => .ok (e x)) xs = .ok (xs.map e)
  | [] => rfl
  | x :: r => by
    show ((compM _ _ r).bind fun ys => M.ok (e x :: ys)) = _
    rw [compM_all e r]
    rfl
theorem compM_congr {α β : Type} {c c' : α → M Bool} {e e' : α → M β} : ∀ {xs : List α}, (∀ x ∈ xs, c x = c' x) → (∀ x ∈ xs, c x = .ok true → e x = e' x) → compM c e xs = compM c' e' xs
  | [], _, _ => rfl
  | x :: r, h1, h2 => by
    have ih := compM_congr (xs := r) (fun y hy => h1 y (List.mem_cons_of_mem _ hy)) (fun y hy => h2 y (List.mem_cons_of_mem _ hy))
    unfold compM
    rw [ih, ← h1 x List.mem_cons_self]
    have h2' := h2 x List.mem_cons_self
    cases q : c x with
    | ok b =>
      cases b with
      | true => rw [h2' q]
      | false => rfl
    | er _ => rfl
    | bad => rfl
/-! ### what is walked -/
def Sq (K : PySem.W.Frag) {α : Type} [Rep α] (F : Hp) (J : It) (xs : List α) : Prop := ∀ i H, Ex F H →
  (∀ x, xs[i]? = some x → J.go i H ∧ ∀ v H', J.yld i H v H' → ∀ F1, Ex F F1 → Ex F1 H → ∃ F2, Gr F1 H F2 H' ∧ rp K F2 v x) ∧ (xs.length ≤ i → J.stop i H)
def EvI (ce : Ce) (E : XK) (K : PySem.W.Frag) {α : Type} [Rep α] (wi : TI) (σ : L2.St) (F H : Hp) (m : M (List α)) : Prop := ∀ F1 H1, Gr F H F1 H1 → ∀ R : It → Hp → Prop,
  Wp ce E H1 m (fun xs => ∀ F2 H2 J, Gr F1 H1 F2 H2 → Sq K F2 J xs → R J H2) → wi σ H1 R
section
variable {ρ α β γ δ S τ : Type} [Rep α] [Rep β] [Rep γ] [Rep δ] {ce : Ce} {E : XK} {K : PySem.W.Frag} {σ : L2.St} {F H F' H' F0 H0 : Hp} {te ta tb tc td : TE} {tt tu : TT} {md : Md ρ} {m : M ρ} {D : Ends} {ts tw : TS} {g : TG} {wi : TI} {P : τ → Prop}
theorem sq_list {a : Addr} {vs : List V} {xs : List α} (h : SqL K F a vs) (p : Paired (rp K F) vs xs) : Sq K F (Itl K a) xs := fun i H e => by
  have hl := Paired.length p
  refine ⟨fun x hx => ?_, fun hi => ⟨vs, ex_l e h, by omega⟩⟩
  obtain ⟨v, hv, rv'⟩ := paired_get p hx
  refine ⟨⟨vs, v, ex_l e h, hv⟩, fun w H' ⟨e1, e2⟩ F1 f1 f2 => ?_⟩
  subst e1
  have : some v = some w := hv.symm.trans (e2 vs (ex_l e h))
  cases this
  exact ⟨F1, Gr.rf f2, Rep.mo f1 rv'⟩
theorem ei_list {m : M (List α)} (h : Ev ce E te σ F H (rv K) m) : EvI ce E K (iList K te) σ F H m := fun F1 H1 g1 R q => by
  refine h F1 H1 g1 _ ?_
  cases m with
  | ok xs =>
    rintro F2 H2 v g2 ⟨a, vs, rfl, h2, h3⟩
    exact ⟨a, rfl, ⟨vs, SqL.of (g2.fh _ _ h2)⟩, q F2 H2 _ g2 (sq_list (SqL.of h2) h3)⟩
  | er c => exact q
  | bad => exact q
theorem ei_scr {x : Scr} (h : Ev ce E te σ F H (rv K) (.ok x)) : EvI ce E K (iList K te) σ F H (.ok x.l) := fun F1 H1 g1 R q => by
  refine h F1 H1 g1 _ ?_
  rintro F2 H2 v g2 ⟨a, rfl, h2⟩
  exact ⟨a, rfl, ⟨_, ex_l g2.fh h2⟩, q F2 H2 _ g2 (sq_list h2 (rep_int _))⟩
/-- range -/
def rng (lo hi : Int) : List Int := (List.range (hi - lo).toNat).map fun (k : Nat) => lo + (k : Int)
theorem rng_len (lo hi : Int) : (rng lo hi).length = (hi - lo).toNat := by unfold rng; rw [List.length_map, List.length_range]
theorem rng_get (lo hi : Int) (i : Nat) (h : i < (hi - lo).toNat) : (rng lo hi)[i]? = some (lo + (i : Int)) := by
  unfold rng
  rw [List.getElem?_map, List.getElem?_range h]
  rfl
theorem sq_rng {lo hi : Int} : Sq K F (Itr lo (hi - lo).toNat) (rng lo hi) := fun i H e => by
  refine ⟨fun x hx => ?_, fun h => ?_⟩
  · have hi' : i < (hi - lo).toNat := by
      have := (List.getElem?_eq_some_iff.mp hx).1
      rw [rng_len] at this
      exact this
    rw [rng_get _ _ _ hi'] at hx
    cases hx
    refine ⟨hi', fun v H' ⟨e1, e2⟩ F1 f1 f2 => ?_⟩
    subst e1 e2
    exact ⟨F1, Gr.rf f2, rfl⟩
  · rw [rng_len] at h
    exact h
noncomputable def rng1M (hi : Int) : M (List Int) := chk (-(2 ^ 62) ≤ hi ∧ hi < 2 ^ 62) (rng 0 hi)
noncomputable def rng2M (lo hi : Int) : M (List Int) := chk (-(2 ^ 62) ≤ lo ∧ lo < 2 ^ 62 ∧ -(2 ^ 62) ≤ hi ∧ hi < 2 ^ 62) (rng lo hi)
theorem ei_rng1 {m : M Int} (h : Ev ce E ta σ F H (rv K) m) : EvI ce E K (iRng1 (tCons ta tNil)) σ F H (m.bind rng1M) := fun F1 H1 g1 R q => by
  refine h F1 H1 g1 _ ?_
  cases m with
  | ok n =>
    intro F2 H2 v g2 r
    cases r
    have q' : Wp ce E H1 (rng1M n) (fun xs => ∀ F2 H2 J, Gr F1 H1 F2 H2 → Sq K F2 J xs → R J H2) := q
    unfold rng1M chk at q'
    by_cases hc : -(2 ^ 62) ≤ n ∧ n < 2 ^ 62
    · rw [if_pos hc] at q'
      refine ⟨n, rfl, hc.1, hc.2, q' F2 H2 _ g2 ?_⟩
      have := sq_rng (K := K) (F := F2) (lo := 0) (hi := n)
      rw [Int.sub_zero] at this
      exact this
    · rw [if_neg hc] at q'
      exact q'.elim
  | er c => exact q
  | bad => exact q
theorem ei_rng2 {m m2 : M Int} (h : Ev ce E ta σ F H (rv K) m) (h2 : Ev ce E tb σ F H (rv K) m2) : EvI ce E K (iRng2 (tCons ta (tCons tb tNil))) σ F H (m.bind fun lo => m2.bind fun hi => rng2M lo hi) := fun F1 H1 g1 R q => by
  refine h F1 H1 g1 _ ?_
  cases m with
  | ok lo =>
    intro F2 H2 v g2 r
    cases r
    refine h2 F2 H2 (g1.tr g2) _ ?_
    cases m2 with
    | ok n =>
      intro F3 H3 v g3 r
      cases r
      have q' : Wp ce E H1 (rng2M lo n) (fun xs => ∀ F2 H2 J, Gr F1 H1 F2 H2 → Sq K F2 J xs → R J H2) := q
      unfold rng2M chk at q'
      by_cases hc : -(2 ^ 62) ≤ lo ∧ lo < 2 ^ 62 ∧ -(2 ^ 62) ≤ n ∧ n < 2 ^ 62
      · rw [if_pos hc] at q'
        exact ⟨lo, n, rfl, hc, q' F3 H3 _ (g2.tr g3) sq_rng⟩
      · rw [if_neg hc] at q'
        exact q'.elim
    | er c => exact fun H' e => q H' (g2.hh.tr e)
    | bad => exact q
  | er c => exact q
  | bad => exact q

/-! ### targets -/
/-- behind the target's store of what x is, from the slots σ0 -/
def Tg (K : PySem.W.Frag) {α : Type} [Rep α] (g : TG) (R : L2.St → Hp → L2.St → α → Prop) : Prop := ∀ σ0 F H v x, Ex F H → rp K F v x → ∀ Q : L2.St → Hp → Prop, (∀ σ2, R σ0 F σ2 x → Q σ2 H) → g v σ0 H Q
def RName (K : PySem.W.Frag) {α : Type} [Rep α] (i : Nat) : L2.St → Hp → L2.St → α → Prop := fun σ0 F σ2 x => ∃ v, σ2 = σ0.set i (some v) ∧ rp K F v x
def RTup2 (K : PySem.W.Frag) {α β : Type} [Rep α] [Rep β] (i j : Nat) : L2.St → Hp → L2.St → α × β → Prop := fun σ0 F σ2 x => ∃ u w, σ2 = (σ0.set i (some u)).set j (some w) ∧ rp K F u x.1 ∧ rp K F w x.2
def RTup3 (K : PySem.W.Frag) {α β γ : Type} [Rep α] [Rep β] [Rep γ] (i j l : Nat) : L2.St → Hp → L2.St → T3 α β γ → Prop := fun σ0 F σ2 x => ∃ u w z, σ2 = ((σ0.set i (some u)).set j (some w)).set l (some z) ∧ rp K F u x.a ∧ rp K F w x.b ∧ rp K F z x.c
theorem tg_name {i : Nat} : Tg K (α := α) (gName i) (RName K i) := fun σ0 F H v x e r Q q => q _ ⟨v, rfl, r⟩
theorem tg_tup2 {i j : Nat} : Tg K (α := α × β) (gTup K 2 (gCons (gName i) (gCons (gName j) gNil))) (RTup2 K i j) := fun σ0 F H v x e ⟨a, u, w, h1, h2, h3, h4⟩ Q q =>
  ⟨a, [u, w], h1, ex_t e h2, rfl, u, [w], rfl, w, [], rfl, rfl, q _ ⟨u, w, rfl, h3, h4⟩⟩
theorem tg_tup3 {i j l : Nat} : Tg K (α := T3 α β γ) (gTup K 3 (gCons (gName i) (gCons (gName j) (gCons (gName l) gNil)))) (RTup3 K i j l) := fun σ0 F H v x e ⟨a, u, w, z, h1, h2, h3, h4, h5⟩ Q q =>
  ⟨a, [u, w, z], h1, ex_t e h2, rfl, u, [w, z], rfl, w, [z], rfl, z, [], rfl, rfl, q _ ⟨u, w, z, rfl, h3, h4, h5⟩⟩
theorem set_set_ne {σ : L2.St} {i j : Nat} {a b : Option V} (h : i ≠ j) : (σ.set i a).set j b = (σ.set j b).set i a := List.set_comm _ _ h
theorem wipe1 {σ : L2.St} {i : Nat} {v : Option V} : wipe ((wipe σ [i]).set i v) [i] = wipe σ [i] := by
  show ((σ.set i none).set i v).set i none = σ.set i none
  rw [List.set_set, List.set_set]
theorem wipe2 {σ : L2.St} {i j : Nat} {v w : Option V} : wipe (((wipe σ [i, j]).set i v).set j w) [i, j] = wipe σ [i, j] := by
  show (((((σ.set j none).set i none).set i v).set j w).set j none).set i none = (σ.set j none).set i none
  apply List.ext_getElem?
  intro n
  simp only [List.getElem?_set, List.length_set]
  by_cases a : i = n
  · subst a; simp
  · by_cases b : j = n
    · subst b; simp [a]
    · simp [a, b]
theorem wipe3 {σ : L2.St} {i j l : Nat} {u v w : Option V} : wipe ((((wipe σ [i, j, l]).set i u).set j v).set l w) [i, j, l] = wipe σ [i, j, l] := by
  show ((((((((σ.set l none).set j none).set i none).set i u).set j v).set l w).set l none).set j none).set i none = ((σ.set l none).set j none).set i none
  apply List.ext_getElem?
  intro n
  simp only [List.getElem?_set, List.length_set]
  by_cases a : i = n
  · subst a; simp
  · by_cases b : j = n
    · subst b; simp [a]
    · by_cases c : l = n
      · subst c; simp [a, b]
      · simp [a, b, c]
/-- [e for x in xs if c] -/
theorem em_lc {vs : List Nat} {m : M (List α)} {c : α → M Bool} {e : α → M β} {R : L2.St → Hp → L2.St → α → Prop} (hi : EvI ce E K wi σ F H m) (hg : Tg K g R)
    (hw : ∀ F σ2 (x : α), R (wipe σ vs) F σ2 x → wipe σ2 vs = wipe σ vs)
    (hc : ∀ x F1 H1 σ2, Gr F H F1 H1 → R (wipe σ vs) F1 σ2 x → EvT ce E0 tt σ2 F1 H1 (c x)) (he : ∀ x F1 H1 σ2, Gr F H F1 H1 → R (wipe σ vs) F1 σ2 x → Ev ce E0 te σ2 F1 H1 (rv K) (e x)) :
    Ev ce E (tLc wi g tt te vs) σ F H (rn K) (m.bind fun xs => lcM c e xs) := fun F1 H1 g1 Q q => by
  refine hi F1 H1 g1 _ ?_
  cases m with
  | er c => exact q
  | bad => exact q
  | ok xs =>
    intro F2 H2 J g2 sq Dl nd
    have q' : Post ce (rn K) (lcM c e xs) F1 H1 Q E := q
    unfold lcM at q'
    have hlen : xs.length ≤ 16000000 := by
      by_cases hlen : xs.length ≤ 16000000
      · exact hlen
      · rw [if_neg hlen] at q'
        exact q'.elim
    rw [if_pos hlen] at q'
    have nf : F2 Dl = none := ex_back g2.fh nd
    have gD : Gr F2 H2 F2 (upd H2 Dl (.lst [])) := Gr.own g2.fh nd
    -- the word: done so far, and what is left
    refine ⟨fun i m H' => m = xs.length - i ∧ i ≤ xs.length ∧ ∃ F' acc ys, Gr F2 H2 F' H' ∧ F' Dl = none ∧ H' Dl = some (.lst acc) ∧ acc.length ≤ i ∧ Paired (rp K F') acc ys ∧
      Post ce (rn K) ((compM c e (xs.drop i)).bind fun zs => .ok (ys ++ zs)) F1 H1 Q E, ⟨xs.length, by omega, Nat.zero_le _, F2, [], [], gD, nf, upd_same, Nat.zero_le _, .nil, ?_⟩, ?_⟩
    · rw [List.drop_zero]
      have : (compM c e xs).bind (fun zs => M.ok ([] ++ zs)) = compM c e xs := by
        cases compM c e xs <;> rfl
      rw [this]
      exact q'
    · rintro i mm H3 ⟨rfl, hi3, F3, acc, ys, g3, nf3, h3, hl3, p3, q3⟩
      have e3 : Ex F2 H3 := g3.ff.tr g3.fh
      by_cases hlt : i < xs.length
      · obtain ⟨x, hx⟩ : ∃ x, xs[i]? = some x := ⟨xs[i], List.getElem?_eq_getElem hlt⟩
        obtain ⟨go, yl⟩ := (sq i H3 e3).1 x hx
        have hd : xs.drop i = x :: xs.drop (i + 1) := by
          rw [List.drop_eq_getElem_cons hlt]
          rw [List.getElem?_eq_getElem hlt] at hx
          cases hx
          rfl
        rw [hd] at q3
        refine .inr ⟨go, fun H' => ∃ F' acc ys, Gr F2 H2 F' H' ∧ F' Dl = none ∧ H' Dl = some (.lst acc) ∧ acc.length ≤ i + 1 ∧ Paired (rp K F') acc ys ∧
          Post ce (rn K) ((compM c e (xs.drop (i + 1))).bind fun zs => .ok (ys ++ zs)) F1 H1 Q E, fun H' h' => ⟨xs.length - (i + 1), by omega, rfl, hlt, h'⟩, fun v H4 hy => ?_⟩
        obtain ⟨F4, g4, r4⟩ := yl v H4 hy F3 g3.ff g3.fh
        have g24 := g3.tr g4
        have gF : Gr F H F4 H4 := (g1.tr g2).tr g24
        refine hg _ F4 H4 v x g4.fh r4 _ fun σ2 hr => ⟨hw F4 σ2 x hr, ?_⟩
        -- the test
        have nf4 : F4 Dl = none := g4.nw Dl nf3 (by rw [h3]; exact fun z => nomatch z)
        have h4 : H4 Dl = some (.lst acc) := g4.hh _ _ h3
        refine hc x F4 H4 σ2 gF hr F4 H4 (Gr.rf g4.fh) _ ?_
        cases qc : c x with
        | er cc => exact (by
            have q3' := q3
            unfold compM at q3'
            rw [qc] at q3'
            exact q3'.elim)
        | bad => exact (by
            have q3' := q3
            unfold compM at q3'
            rw [qc] at q3'
            exact q3'.elim)
        | ok b =>
          intro F5 H5 g5
          have nf5 : F5 Dl = none := g5.nw Dl nf4 (by rw [h4]; exact fun z => nomatch z)
          have h5 : H5 Dl = some (.lst acc) := g5.hh _ _ h4
          cases b with
          | false =>
            show ∃ F' acc ys, _
            refine ⟨F5, acc, ys, g24.tr g5, nf5, h5, by omega, paired_mo (g4.ff.tr g5.ff) p3, ?_⟩
            have q3' := q3
            unfold compM at q3'
            rw [qc] at q3'
            exact q3'
          | true =>
            show te σ2 H5 _
            refine he x F4 H4 σ2 gF hr F5 H5 g5 _ ?_
            cases qe : e x with
            | er cc => exact (by
                have q3' := q3
                unfold compM at q3'
                rw [qc, qe] at q3'
                exact q3'.elim)
            | bad => exact (by
                have q3' := q3
                unfold compM at q3'
                rw [qc, qe] at q3'
                exact q3'.elim)
            | ok y =>
              intro F6 H6 v6 g6 r6
              have nf6 : F6 Dl = none := g6.nw Dl nf5 (by rw [h5]; exact fun z => nomatch z)
              have h6 : H6 Dl = some (.lst acc) := g6.hh _ _ h5
              refine ⟨acc, h6, ?_, F6, acc ++ [v6], ys ++ [y], Gr.mut ((g24.tr g5).tr g6) nd nf6, nf6, upd_same, ?_, paired_app (paired_mo ((g4.ff.tr g5.ff).tr g6.ff) p3) (.cons r6 .nil), ?_⟩
              · rw [sizeLine_eq]; omega
              · rw [List.length_append]
                show acc.length + 1 ≤ i + 1
                omega
              · have q3' := q3
                unfold compM at q3'
                rw [qc, qe] at q3'
                have ea : ((compM c e (xs.drop (i + 1))).bind fun zs => M.ok ((ys ++ [y]) ++ zs)) = (((compM c e (xs.drop (i + 1))).bind fun ys' => M.ok (y :: ys')).bind fun zs => M.ok (ys ++ zs)) := by
                  cases compM c e (xs.drop (i + 1)) with
                  | ok zs => show M.ok _ = M.ok _; rw [List.append_assoc]; rfl
                  | er _ => rfl
                  | bad => rfl
                rw [ea]
                exact q3'
      · have ei : i = xs.length := by omega
        refine .inl ⟨(sq i H3 e3).2 (by omega), ?_⟩
        rw [ei, List.drop_length] at q3
        have q3' : Post ce (rn K) (.ok (ys ++ [])) F1 H1 Q E := q3
        rw [List.append_nil] at q3'
        exact q3' F3 H3 _ (g2.tr g3) ⟨Dl, acc, rfl, ex_back g2.hh nd, nf3, h3, p3⟩
end
end Mw

set_option Elab.async false
set_option linter.all false
set_option maxRecDepth 100000
set_option maxHeartbeats 2000000
/-! Mw, part E: statements. -/
namespace Mw
open PySem L2
open Rep (rp)
/-! ### one's own lists lent out, and taken back -/
def fz (F H : Hp) (A : List Addr) : Hp := fun b => if b ∈ A then H b else F b
def th (F : Hp) (A : List Addr) : Hp := fun b => if b ∈ A then none else F b
theorem fz_ex {F H : Hp} {A : List Addr} (h : Ex F H) : Ex F (fz F H A) := fun a o e => by
  unfold fz
  split
  · exact h a o e
  · exact e
theorem fz_h {F H : Hp} {A : List Addr} (h : Ex F H) : Ex (fz F H A) H := fun a o e => by
  unfold fz at e
  split at e
  · exact e
  · exact h a o e
theorem fz_at {F H : Hp} {A : List Addr} {p : Addr} {o : HO} (m : p ∈ A) (h : H p = some o) : fz F H A p = some o := by
  unfold fz
  rw [if_pos m]
  exact h
theorem th_at {F : Hp} {A : List Addr} {p : Addr} (m : p ∈ A) : th F A p = none := by
  unfold th
  rw [if_pos m]
/-- the run went on from what was lent; now it is one's own again -/
theorem gr_th {F H F1 H1 : Hp} {A : List Addr} (hF : ∀ p ∈ A, F p = none) (hA : ∀ p ∈ A, H p ≠ none) (e : Ex F H) (g : Gr (fz F H A) H F1 H1) : Gr F H (th F1 A) H1 where
  ff := fun a o h => by
    have : a ∉ A := fun m => by rw [hF a m] at h; cases h
    unfold th
    rw [if_neg this]
    exact g.ff a o (fz_ex e a o h)
  fh := fun a o h => by
    unfold th at h
    split at h
    · cases h
    · exact g.fh a o h
  hh := g.hh
  nw := fun b h1 h2 => by
    unfold th
    split
    · rfl
    · rename_i hb
      refine g.nw b ?_ h2
      unfold fz
      rw [if_neg hb]
      exact h1
theorem th_tup {F : Hp} {A : List Addr} (h : ∀ p ∈ A, ∀ xs, ¬ Rd F p (.tup xs)) : TupEx F (th F A) := fun a xs r => by
  have : a ∉ A := fun m => h a m xs r
  rcases r with r | ⟨o, r⟩
  · refine .inl ?_
    unfold th
    rw [if_neg this]
    exact r
  · refine .inr ⟨o, ?_⟩
    unfold th
    rw [if_neg this]
    exact r
/-- no tuple -/
def NoTup (o : HO) : Prop := (∀ xs, o ≠ .tup xs) ∧ ∀ u xs, o ≠ .frz u (.tup xs)
/-- data that stand for one object -/
class Obj (T : Type) [Rep T] where
  ho : PySem.W.Frag → Hp → HO → T → Prop
  mo : ∀ {K : PySem.W.Frag} {H H' : Hp} {o : HO} {x : T}, Ex H H' → ho K H o x → ho K H' o x
  rep : ∀ {K : PySem.W.Frag} {H : Hp} {p : Addr} {o : HO} {x : T}, H p = some o → ho K H o x → rp K H (.ref p) x
  nt : ∀ {K : PySem.W.Frag} {H : Hp} {o : HO} {x : T}, ho K H o x → NoTup o
instance {α : Type} [Rep α] : Obj (List α) where
  ho := fun K H o x => ∃ vs, o = .lst vs ∧ Paired (rp K H) vs x
  mo := fun e ⟨vs, h1, h2⟩ => ⟨vs, h1, paired_mo e h2⟩
  rep := fun {K H p o x} e ⟨vs, h1, h2⟩ => by subst h1; exact ⟨p, vs, rfl, e, h2⟩
  nt := fun {K H o x} ⟨vs, h1, _⟩ => by subst h1; exact ⟨(fun _ z => nomatch z), (fun _ _ z => nomatch z)⟩
/-- p is one's own, an object that stands for x -/
structure Own (K : PySem.W.Frag) {T : Type} [Rep T] [Obj T] (F H : Hp) (p : Addr) (x : T) : Prop where
  h : ∃ o, H p = some o ∧ Obj.ho K F o x
  f : F p = none
theorem th_of {F H F1 H1 : Hp} {A : List Addr} (hA : ∀ p ∈ A, ∃ o, H p = some o ∧ NoTup o) (g : Gr (fz F H A) H F1 H1) : TupEx F1 (th F1 A) := th_tup fun p m xs r' => by
  obtain ⟨o, e, n1, n2⟩ := hA p m
  have e1 : F1 p = some o := g.ff _ _ (fz_at m e)
  rcases r' with r' | ⟨u, r'⟩
  · rw [e1] at r'
    exact n1 xs (Option.some.inj r')
  · rw [e1] at r'
    exact n2 u xs (Option.some.inj r')
section
variable {ρ α β γ δ S τ : Type} [Rep α] [Rep β] [Rep γ] [Rep δ] {ce : Ce} {E : XK} {K : PySem.W.Frag} {σ : L2.St} {F H F' H' F0 H0 : Hp} {te ta tb tc td : TE} {tt tu : TT} {md : Md ρ} {m : M ρ} {D : Ends} {ts tw : TS} {g : TG} {wi : TI} {P : τ → Prop}
variable {T : Type} [Rep T] [Obj T]
theorem Own.mo {p : Addr} {x : T} (o : Own K F H p x) (g : Gr F H F' H') : Own K F' H' p x := by
  obtain ⟨⟨u, h1, h2⟩, h3⟩ := o
  exact ⟨⟨u, g.hh _ _ h1, Obj.mo g.ff h2⟩, g.nw p h3 (by rw [h1]; exact fun z => nomatch z)⟩
theorem Own.ne {p : Addr} {x : T} (o : Own K F H p x) : H p ≠ none := by
  obtain ⟨⟨u, h1, h2⟩, h3⟩ := o
  rw [h1]; exact fun z => nomatch z
theorem Own.upd {p q : Addr} {x : T} {u : HO} (o : Own K F H p x) (h : p ≠ q) : Own K F (upd H q u) p x := by
  obtain ⟨⟨w, h1, h2⟩, h3⟩ := o
  exact ⟨⟨w, by rw [upd_ne h]; exact h1, h2⟩, h3⟩
theorem Own.lent {p : Addr} {x : T} {A : List Addr} (o : Own K F H p x) (e : Ex F H) (m : p ∈ A) : rp K (fz F H A) (.ref p) x := by
  obtain ⟨⟨u, h1, h2⟩, h3⟩ := o
  exact Obj.rep (fz_at m h1) (Obj.mo (fz_ex e) h2)
theorem own_new {p : Addr} {vs : List V} {xs : List α} (h1 : F p = none) (h2 : H p = some (.lst vs)) (h3 : Paired (rp K F) vs xs) : Own K F H p xs := ⟨⟨_, h2, vs, rfl, h3⟩, h1⟩
theorem Own.lst {p : Addr} {xs : List α} (o : Own K F H p xs) : ∃ vs, H p = some (.lst vs) ∧ Paired (rp K F) vs xs := by
  obtain ⟨⟨u, h1, vs, h2, h3⟩, _⟩ := o
  subst h2
  exact ⟨vs, h1, h3⟩

/-! ### statements -/
theorem s_seq {t1 t2 : TS} (h : t1 { D with nx := t2 D } σ H) : tSeq t1 t2 D σ H := h
theorem Ev.go {m1 : M α} {k : α → M τ} {Q' : VK} (h : Ev ce E ta σ F H (rv K) m1) (G : Gr F0 H0 F H) (q : Wp ce E H0 (m1.bind k) P)
    (c : ∀ x F1 H1 v, Gr F H F1 H1 → rp K F1 v x → Wp ce E H0 (k x) P → Q' v H1) : ta σ H Q' := by
  refine h F H (Gr.rf G.fh) Q' ?_
  cases m1 with
  | ok x => exact fun F1 H1 v g r => c x F1 H1 v g r q
  | er cc => exact fun H' e => q H' (G.hh.tr e)
  | bad => exact q
theorem Ev.goN {m1 : M (List α)} {k : List α → M τ} {Q' : VK} (h : Ev ce E ta σ F H (rn K) m1) (G : Gr F0 H0 F H) (q : Wp ce E H0 (m1.bind k) P)
    (c : ∀ x F1 H1 p, Gr F H F1 H1 → H p = none → Own K F1 H1 p x → Wp ce E H0 (k x) P → Q' (.ref p) H1) : ta σ H Q' := by
  refine h F H (Gr.rf G.fh) Q' ?_
  cases m1 with
  | ok x =>
    rintro F1 H1 v g ⟨p, vs, rfl, h1, h2, h3, h4⟩
    exact c x F1 H1 p g h1 (own_new h2 h3 h4) q
  | er cc => exact fun H' e => q H' (G.hh.tr e)
  | bad => exact q
theorem EvT.go {m1 : M Bool} {k : Bool → M τ} {Q' : Bool → Hp → Prop} (h : EvT ce E tt σ F H m1) (G : Gr F0 H0 F H) (q : Wp ce E H0 (m1.bind k) P)
    (c : ∀ x F1 H1, Gr F H F1 H1 → Wp ce E H0 (k x) P → Q' x H1) : tt σ H Q' := by
  refine h F H (Gr.rf G.fh) Q' ?_
  cases m1 with
  | ok x => exact fun F1 H1 g => c x F1 H1 g q
  | er cc => exact fun H' e => q H' (G.hh.tr e)
  | bad => exact q
/-- x = e -/
theorem s_asg {i : Nat} {m1 : M α} {k : α → M τ} (G : Gr F0 H0 F H) (q : Wp ce E H0 (m1.bind k) P) (h : Ev ce E te σ F H (rv K) m1)
    (c : ∀ x F1 H1 v, Gr F H F1 H1 → rp K F1 v x → Wp ce E H0 (k x) P → D.nx (σ.set i (some v)) H1) : tAsg te (gName i) D σ H := h.go G q fun x F1 H1 v g r w => c x F1 H1 v g r w
/-- x = a new list of one's own -/
theorem s_asgN {i : Nat} {m1 : M (List α)} {k : List α → M τ} (G : Gr F0 H0 F H) (q : Wp ce E H0 (m1.bind k) P) (h : Ev ce E te σ F H (rn K) m1)
    (c : ∀ x F1 H1 p, Gr F H F1 H1 → H p = none → Own K F1 H1 p x → Wp ce E H0 (k x) P → D.nx (σ.set i (some (.ref p))) H1) : tAsg te (gName i) D σ H := h.goN G q fun x F1 H1 p g n o w => c x F1 H1 p g n o w
/-- x = e, where e reads lists of one's own -/
theorem s_asgA (A : List Addr) {i : Nat} {m1 : M α} {k : α → M τ} [Flat α] (G : Gr F0 H0 F H) (q : Wp ce E H0 (m1.bind k) P) (hF : ∀ p ∈ A, F p = none) (hA : ∀ p ∈ A, ∃ o, H p = some o ∧ NoTup o) (h0 : ∀ p ∈ A, H0 p = none)
    (h : Ev ce E te σ (fz F H A) H (rv K) m1) (c : ∀ x F1 H1 v, Gr F H F1 H1 → rp K F1 v x → Wp ce E H0 (k x) P → D.nx (σ.set i (some v)) H1) : tAsg te (gName i) D σ H := by
  refine h _ H (Gr.rf (fz_h G.fh)) _ ?_
  have hA' : ∀ p ∈ A, H p ≠ none := fun p m => by obtain ⟨o, e, _⟩ := hA p m; rw [e]; exact fun z => nomatch z
  cases m1 with
  | ok x =>
    intro F1 H1 v g r
    exact c x (th F1 A) H1 v (gr_th hF hA' G.fh g) (Flat.fl (th_of hA g) r) q
  | er cc => exact fun H' e => q H' (G.hh.tr e)
  | bad => exact q
/-- if, where the test reads lists of one's own -/
theorem s_ifA (A : List Addr) {m1 : M Bool} {k : Bool → M τ} (G : Gr F0 H0 F H) (q : Wp ce E H0 (m1.bind k) P) (hF : ∀ p ∈ A, F p = none) (hA : ∀ p ∈ A, ∃ o, H p = some o ∧ NoTup o)
    (h : EvT ce E tt σ (fz F H A) H m1) (h1 : ∀ F1 H1, Gr F H F1 H1 → Wp ce E H0 (k true) P → ts D σ H1) (h2 : ∀ F1 H1, Gr F H F1 H1 → Wp ce E H0 (k false) P → tw D σ H1) : tIfS tt ts tw D σ H := by
  refine h _ H (Gr.rf (fz_h G.fh)) _ ?_
  have hA' : ∀ p ∈ A, H p ≠ none := fun p m => by obtain ⟨o, e, _⟩ := hA p m; rw [e]; exact fun z => nomatch z
  cases m1 with
  | ok b =>
    intro F1 H1 g
    cases b with
    | true => exact h1 _ H1 (gr_th hF hA' G.fh g) q
    | false => exact h2 _ H1 (gr_th hF hA' G.fh g) q
  | er cc => exact fun H' e => q H' (G.hh.tr e)
  | bad => exact q
theorem s_if {m1 : M Bool} {k : Bool → M τ} (G : Gr F0 H0 F H) (q : Wp ce E H0 (m1.bind k) P) (h : EvT ce E tt σ F H m1)
    (h1 : ∀ F1 H1, Gr F H F1 H1 → Wp ce E H0 (k true) P → ts D σ H1) (h2 : ∀ F1 H1, Gr F H F1 H1 → Wp ce E H0 (k false) P → tw D σ H1) : tIfS tt ts tw D σ H :=
  h.go G q fun b F1 H1 g w => by
    cases b with
    | true => exact h1 F1 H1 g w
    | false => exact h2 F1 H1 g w
/-- what follows is shown once -/
theorem s_cut {t : TS} (I : L2.St → Hp → Prop) (h1 : ∀ σ1 H1, I σ1 H1 → D.nx σ1 H1) (h2 : (∀ σ1 H1, I σ1 H1 → D.nx σ1 H1) → t D σ H) : t D σ H := h2 h1
/-- return e -/
theorem s_ret {m1 : M ρ} {k : ρ → M τ} [Rep ρ] (G : Gr F0 H0 F H) (q : Wp ce E H0 (m1.bind k) P) (h : Ev ce E te σ F H (rv K) m1)
    (hD : ∀ r F1 H1 v, Gr F0 H0 F1 H1 → rp K F1 v r → Wp ce E H0 (k r) P → D.rt v H1) : tRet te D σ H := h.go G q fun x F1 H1 v g r w => hD x F1 H1 v (G.tr g) r w
theorem s_retN {m1 : M (List α)} {k : List α → M τ} (G : Gr F0 H0 F H) (q : Wp ce E H0 (m1.bind k) P) (h : Ev ce E te σ F H (rn K) m1)
    (hD : ∀ r F1 H1 v, Gr F0 H0 F1 H1 → rn K F0 H0 F1 H1 v r → Wp ce E H0 (k r) P → D.rt v H1) : tRet te D σ H := h.goN G q fun x F1 H1 p g n o w => by
  obtain ⟨vs, h1, h2⟩ := o.lst
  exact hD x F1 H1 _ (G.tr g) ⟨p, vs, rfl, ex_back G.hh n, o.f, h1, h2⟩ w
theorem s_ret0 {m1 : M τ} [Rep τ] (G : Gr F0 H0 F H) (q : Wp ce E H0 m1 P) (h : Ev ce E te σ F H (rv K) m1) (hD : ∀ r F1 H1 v, Gr F0 H0 F1 H1 → rp K F1 v r → P r → D.rt v H1) : tRet te D σ H := by
  refine h F H (Gr.rf G.fh) _ ?_
  cases m1 with
  | ok x => exact fun F1 H1 v g r => hD x F1 H1 v (G.tr g) r q
  | er cc => exact fun H' e => q H' (G.hh.tr e)
  | bad => exact q
theorem s_retN0 {m1 : M (List α)} {P : List α → Prop} (G : Gr F0 H0 F H) (q : Wp ce E H0 m1 P) (h : Ev ce E te σ F H (rn K) m1) (hD : ∀ r F1 H1 v, Gr F0 H0 F1 H1 → rn K F0 H0 F1 H1 v r → P r → D.rt v H1) : tRet te D σ H := by
  refine h F H (Gr.rf G.fh) _ ?_
  cases m1 with
  | ok x =>
    intro F1 H1 v g r
    exact hD x F1 H1 v (G.tr g) (MdMo.mo G r) q
  | er cc => exact fun H' e => q H' (G.hh.tr e)
  | bad => exact q
/-- the lent heap is reached from the entry, too -/
theorem gr_fz {A : List Addr} (G : Gr F0 H0 F H) (h0 : ∀ p ∈ A, H0 p = none) : Gr F0 H0 (fz F H A) H :=
  ⟨G.ff.tr (fz_ex G.fh), fz_h G.fh, G.hh, fun b h1 h2 => by
    unfold fz
    split
    · rename_i hm
      exact absurd (h0 b hm) h2
    · exact G.nw b h1 h2⟩
/-- return p, a list of one's own -/
theorem rn_own {p : Addr} {xs : List α} (o : Own K F H p xs) (h0 : H0 p = none) : rn K F0 H0 F H (.ref p) xs := by
  obtain ⟨vs, h1, h2⟩ := o.lst
  exact ⟨p, vs, rfl, h0, o.f, h1, h2⟩
/-- e, alone -/
theorem s_drop {m1 : M α} {k : α → M τ} (G : Gr F0 H0 F H) (q : Wp ce E H0 (m1.bind k) P) (h : Ev ce E te σ F H (rv K) m1)
    (c : ∀ x F1 H1, Gr F H F1 H1 → Wp ce E H0 (k x) P → D.nx σ H1) : tDrop te D σ H := h.go G q fun x F1 H1 v g r w => c x F1 H1 g w
theorem s_raise {c : Err} {cls : Value} (G : Gr F0 H0 F H) (q : Wp ce E H0 (.er c : M τ) P) (hc : cls = .ref (ce c.name)) : E cls none H := by
  subst hc
  exact q H G.hh
/-! ### one's own lists change -/
noncomputable def appM {α : Type} (xs : List α) (x : α) : M (List α) := chk (xs.length < 16000000) (xs ++ [x])
/-- xs.append(e) -/
theorem s_app {i : Nat} {p : Addr} {xs : List α} {m1 : M α} {k : List α → M τ} (hp : σ[i]? = some (some (.ref p))) (o : Own K F H p xs) (n0 : H0 p = none) (G : Gr F0 H0 F H)
    (q : Wp ce E H0 (m1.bind fun x => (appM xs x).bind k) P) (h : Ev ce E te σ F H (rv K) m1)
    (c : ∀ ys F1 H1, Ex F F1 → Gr F0 H0 F1 H1 → Own K F1 H1 p ys → (∀ (T : Type) [Rep T] [Obj T] (q : Addr) (z : T), q ≠ p → Own K F H q z → Own K F1 H1 q z) → Wp ce E H0 (k ys) P → D.nx σ H1) :
    tDrop (tBM K "list" rAppend (tVar i) (tCons te tNil)) D σ H := by
  obtain ⟨vs, h1, h2⟩ := o.lst
  have h3 := o.f
  refine ⟨.ref p, hp, .inl ⟨rfl, vs, SqL.of h1⟩, h.go G q fun x F1 H1 v g r w => ?_⟩
  have w' : Wp ce E H0 ((appM xs x).bind k) P := w
  unfold appM chk at w'
  split at w'
  · rename_i hl
    refine ⟨p, vs, v, rfl, rfl, g.hh _ _ h1, ?_, ?_⟩
    · rw [Paired.length h2, sizeLine_eq]; omega
    · have hf1 : F1 p = none := g.nw p h3 (by rw [h1]; exact fun z => nomatch z)
      exact c (xs ++ [x]) F1 _ g.ff (Gr.mut (G.tr g) n0 hf1) (own_new hf1 upd_same (paired_app (paired_mo g.ff h2) (.cons r .nil))) (fun T _ _ q z hq o => (o.mo g).upd hq) w'
  · exact w'.elim
/-- xs.append(e), e reads lists of one's own -/
theorem s_appA (A : List Addr) {i : Nat} {p : Addr} {xs : List α} {m1 : M α} {k : List α → M τ} [Flat α] (hp : σ[i]? = some (some (.ref p))) (o : Own K F H p xs) (n0 : H0 p = none) (G : Gr F0 H0 F H)
    (q : Wp ce E H0 (m1.bind fun x => (appM xs x).bind k) P) (hF : ∀ p ∈ A, F p = none) (hA : ∀ p ∈ A, ∃ o, H p = some o ∧ NoTup o) (h : Ev ce E te σ (fz F H A) H (rv K) m1)
    (c : ∀ ys F1 H1, Ex F F1 → Gr F0 H0 F1 H1 → Own K F1 H1 p ys → (∀ (T : Type) [Rep T] [Obj T] (q : Addr) (z : T), q ≠ p → Own K F H q z → Own K F1 H1 q z) → Wp ce E H0 (k ys) P → D.nx σ H1) :
    tDrop (tBM K "list" rAppend (tVar i) (tCons te tNil)) D σ H := by
  obtain ⟨vs, h1, h2⟩ := o.lst
  have h3 := o.f
  refine ⟨.ref p, hp, .inl ⟨rfl, vs, SqL.of h1⟩, ?_⟩
  have hA' : ∀ p ∈ A, H p ≠ none := fun p m => by obtain ⟨o, e, _⟩ := hA p m; rw [e]; exact fun z => nomatch z
  refine h _ H (Gr.rf (fz_h G.fh)) _ ?_
  cases m1 with
  | ok x =>
    intro F1 H1 v g0 r0
    have g := gr_th hF hA' G.fh g0
    have r : rp K (th F1 A) v x := Flat.fl (th_of hA g0) r0
    have w' : Wp ce E H0 ((appM xs x).bind k) P := q
    unfold appM chk at w'
    split at w'
    · rename_i hl
      refine ⟨p, vs, v, rfl, rfl, g.hh _ _ h1, ?_, ?_⟩
      · rw [Paired.length h2, sizeLine_eq]; omega
      · have hf1 : th F1 A p = none := g.nw p h3 (by rw [h1]; exact fun z => nomatch z)
        exact c (xs ++ [x]) _ _ g.ff (Gr.mut (G.tr g) n0 hf1) (own_new hf1 upd_same (paired_app (paired_mo g.ff h2) (.cons r .nil))) (fun T _ _ q z hq o => (o.mo g).upd hq) w'
    · exact w'.elim
  | er cc => exact fun H' e => q H' (G.hh.tr e)
  | bad => exact q
/-! ### loops -/
theorem s_for {f : α → S → M (Ctl S τ)} {k : S → M τ} {s0 : S} {m : M (List α)} {R : L2.St → Hp → L2.St → α → Prop} (I : S → Hp → Hp → L2.St → Prop) (G : Gr F0 H0 F H) (hi : EvI ce E K wi σ F H m) (hg : Tg K g R)
    (q : Wp ce E H0 (m.bind fun xs => forM f k xs s0) P) (h0 : ∀ F1 H1, Gr F H F1 H1 → I s0 F1 H1 σ) (hG : ∀ s F' H' σ', I s F' H' σ' → Gr F0 H0 F' H')
    (turn : ∀ x s F1 H1 σ1, I s F1 H1 σ1 → ∀ F2 H2 σ2, Gr F1 H1 F2 H2 → R σ1 F2 σ2 x → ∀ (D' : Ends) (P' : Ctl S τ → Prop), D'.rt = D.rt →
      (∀ s', P' (.nx s') → ∀ F3 H3 σ3, Ex F2 F3 → I s' F3 H3 σ3 → D'.nx σ3 H3) → (∀ s', P' (.nx s') → ∀ F3 H3 σ3, Ex F2 F3 → I s' F3 H3 σ3 → D'.ct σ3 H3) →
      (∀ s', P' (.br s') → ∀ F3 H3 σ3, Ex F2 F3 → I s' F3 H3 σ3 → D'.bk σ3 H3) → (∀ r, P' (.rt r) → P r) → Wp ce E H0 (f x s) P' → ts D' σ2 H2)
    (after : ∀ s F1 H1 σ1, Ex F F1 → I s F1 H1 σ1 → Wp ce E H0 (k s) P → D.nx σ1 H1) : tFor wi g ts D σ H := by
  refine hi F H (Gr.rf G.fh) _ ?_
  cases m with
  | er c => exact fun H' e => q H' (G.hh.tr e)
  | bad => exact q
  | ok xs =>
    intro F2 H2 J g2 sq
    have q' : Wp ce E H0 (forM f k xs s0) P := q
    refine ⟨fun i m σ' H' => m = xs.length - i ∧ i ≤ xs.length ∧ ∃ s F', Ex F2 F' ∧ I s F' H' σ' ∧ Wp ce E H0 (forM f k (xs.drop i) s) P, ⟨xs.length, by omega, Nat.zero_le _, s0, F2, Ex.rf _, h0 F2 H2 g2, q'⟩, ?_⟩
    rintro i mm σ' H' ⟨rfl, hi', s, F', f2, I', q2⟩
    have G' := hG s F' H' σ' I'
    by_cases hlt : i < xs.length
    · obtain ⟨x, hx⟩ : ∃ x, xs[i]? = some x := ⟨xs[i], List.getElem?_eq_getElem hlt⟩
      have hd : xs.drop i = x :: xs.drop (i + 1) := by
        rw [List.drop_eq_getElem_cons hlt]
        rw [List.getElem?_eq_getElem hlt] at hx
        cases hx
        rfl
      rw [hd, forM_cons] at q2
      obtain ⟨go, yl⟩ := (sq i H' (f2.tr G'.fh)).1 x hx
      refine .inr ⟨go, fun σ' H' => ∃ s F', Ex F2 F' ∧ I s F' H' σ' ∧ Wp ce E H0 (forM f k (xs.drop (i + 1)) s) P, fun σ' H' h => ⟨xs.length - (i + 1), by omega, rfl, hlt, h⟩, fun v H3 hy => ?_⟩
      obtain ⟨F3, g3, r3⟩ := yl v H3 hy F' f2 G'.fh
      refine hg σ' F3 H3 v x g3.fh r3 _ fun σ2 hr => ?_
      refine turn x s F' H' σ' I' F3 H3 σ2 g3 hr _ (fun c => match c with
        | .nx s' => Wp ce E H0 (forM f k (xs.drop (i + 1)) s') P
        | .br s' => Wp ce E H0 (k s') P
        | .rt r => P r) rfl (fun s' p F4 H4 σ4 f4 I4 => ⟨s', F4, (f2.tr g3.ff).tr f4, I4, p⟩) (fun s' p F4 H4 σ4 f4 I4 => ⟨s', F4, (f2.tr g3.ff).tr f4, I4, p⟩)
        (fun s' p F4 H4 σ4 f4 I4 => after s' F4 H4 σ4 (g2.ff.tr ((f2.tr g3.ff).tr f4)) I4 p) (fun r p => p) ?_
      cases qf : f x s with
      | ok c =>
        rw [qf] at q2
        cases c with
        | nx s' => exact q2
        | br s' => exact q2
        | rt r => exact q2
      | er c => rw [qf] at q2; exact q2
      | bad => rw [qf] at q2; exact q2
    · have ei : i = xs.length := by omega
      rw [ei, List.drop_length] at q2
      exact .inl ⟨(sq i H' (f2.tr G'.fh)).2 (by omega), after s F' H' σ' (g2.ff.tr f2) I' q2⟩
theorem s_while {c : S → M Bool} {f : S → M (Ctl S τ)} {k : S → M τ} {s0 : S} {n : Nat} (I : S → Hp → Hp → L2.St → Prop) (h0 : I s0 F H σ) (hG : ∀ s F' H' σ', I s F' H' σ' → Gr F0 H0 F' H')
    (q : Wp ce E H0 (whM c f k n s0) P) (hc : ∀ s F1 H1 σ1, I s F1 H1 σ1 → EvT ce E tt σ1 F1 H1 (c s)) (hI : ∀ s F1 H1 F2 H2 σ1, I s F1 H1 σ1 → Gr F1 H1 F2 H2 → I s F2 H2 σ1)
    (turn : ∀ s F1 H1 σ1, I s F1 H1 σ1 → ∀ (D' : Ends) (P' : Ctl S τ → Prop), D'.rt = D.rt →
      (∀ s', P' (.nx s') → ∀ F3 H3 σ3, I s' F3 H3 σ3 → D'.nx σ3 H3) → (∀ s', P' (.nx s') → ∀ F3 H3 σ3, I s' F3 H3 σ3 → D'.ct σ3 H3) →
      (∀ s', P' (.br s') → ∀ F3 H3 σ3, I s' F3 H3 σ3 → D'.bk σ3 H3) → (∀ r, P' (.rt r) → P r) → Wp ce E H0 (f s) P' → ts D' σ1 H1)
    (after : ∀ s F1 H1 σ1, I s F1 H1 σ1 → Wp ce E H0 (k s) P → D.nx σ1 H1) : tWhile tt ts D σ H := by
  refine ⟨fun m σ' H' => ∃ s F', I s F' H' σ' ∧ Wp ce E H0 (whM c f k m s) P, ⟨n, s0, F, h0, q⟩, ?_⟩
  rintro m σ' H' ⟨s, F', I', q'⟩
  have G' := hG s F' H' σ' I'
  cases m with
  | zero => exact False.elim q'
  | succ m =>
    unfold whM at q'
    refine (hc s F' H' σ' I').go G' q' fun b F1 H1 g w => ?_
    have I1 := hI s F' H' F1 H1 σ' I' g
    cases b with
    | false => exact after s F1 H1 σ' I1 w
    | true =>
      refine ⟨fun σ' H' => ∃ s F', I s F' H' σ' ∧ Wp ce E H0 (whM c f k m s) P, fun σ' H' h => ⟨m, Nat.lt_succ_self m, h⟩, ?_⟩
      refine turn s F1 H1 σ' I1 _ (fun c' => match c' with
        | .nx s' => Wp ce E H0 (whM c f k m s') P
        | .br s' => Wp ce E H0 (k s') P
        | .rt r => P r) rfl (fun s' p F4 H4 σ4 I4 => ⟨s', F4, I4, p⟩) (fun s' p F4 H4 σ4 I4 => ⟨s', F4, I4, p⟩) (fun s' p F4 H4 σ4 I4 => after s' F4 H4 σ4 I4 p) (fun r p => p) ?_
      have w' : Wp ce E H0 ((f s).bind fun z => match z with
        | .nx s' => whM c f k m s'
        | .br s' => k s'
        | .rt r => .ok r) P := w
      cases qf : f s with
      | ok z =>
        rw [qf] at w'
        cases z with
        | nx s' => exact w'
        | br s' => exact w'
        | rt r => exact w'
      | er c => rw [qf] at w'; exact w'
      | bad => rw [qf] at w'; exact w'
end
/-! ### defs -/
def SpF (ce : Ce) {α ρ : Type} (R : Hp → List V → α → Prop) (md : Md ρ) (f : α → M ρ) : Sp := fun vs H Q E => ∃ F x, Ex F H ∧ R F vs x ∧ Post ce md (f x) F H Q E
theorem spa {ce : Ce} {α ρ : Type} {R : Hp → List V → α → Prop} {md : Md ρ} {f : α → M ρ} (x : α) : SpA ce R (SpF ce R md f) md x (f x) := fun F1 H1 vs e r Q E q => ⟨F1, x, e, r, q⟩
end Mw

set_option Elab.async false
set_option linter.all false
set_option maxRecDepth 100000
set_option maxHeartbeats 2000000
/-! Mw, part F: calls of defs that raise nothing, isinstance, what else the printed walks use. -/
namespace Mw
open PySem L2
open Rep (rp)
@[simp] theorem bind_assoc {α β γ : Type} (m : M α) (f : α → M β) (g : β → M γ) : (m.bind f).bind g = m.bind fun x => (f x).bind g := by cases m <;> rfl
theorem wp_bind {τ α : Type} {ce : Ce} {E : XK} {H0 : Hp} {m : M α} {k : α → M τ} {P : τ → Prop} (h : Wp ce E H0 (m.bind k) P) : Wp ce E H0 m (fun x => Wp ce E H0 (k x) P) := by
  cases m with
  | ok x => exact h
  | er c => exact h
  | bad => exact h
/-- a def that raises nothing -/
def SpF0 (ce : Ce) {α ρ : Type} (R : Hp → List V → α → Prop) (md : Md ρ) (f : α → M ρ) : Sp := fun vs H Q _ => ∃ F x, Ex F H ∧ R F vs x ∧ Post ce md (f x) F H Q E0
theorem post_ne {ρ : Type} {ce : Ce} {md : Md ρ} {m : M ρ} {F H : Hp} {Q : VK} {E E' : XK} (h : Post ce md m.ne F H Q E) : Post ce md m F H Q E' := by
  cases m with
  | ok r => exact h
  | er c => exact h.elim
  | bad => exact h
section
variable {ρ α β γ δ W τ : Type} [Rep α] [Rep β] [Rep γ] [Rep δ] {ce : Ce} {E : XK} {K : PySem.W.Frag} {σ : L2.St} {F H F' H' F0 H0 : Hp} {te ta tb tc td : TE} {tt tu : TT} {md : Md ρ} {m : M ρ} {D : Ends} {ts tw : TS} {P : τ → Prop}
theorem e_call0 [MdMo md] {ta : TA} {x : α} {R : Hp → List V → α → Prop} {f : α → M ρ} (ha : EvAM ce E ta σ F H (.ok x) R) : Ev ce E (tCall (SpF0 ce R md f) [] E0 ta) σ F H md (f x).ne := fun F1 H1 g1 Q q =>
  ha F1 H1 g1 _ fun F2 H2 vs g2 r2 => by
    show SpF0 ce R md f (vs ++ []) H2 Q E0
    rw [List.append_nil]
    exact ⟨F2, x, g2.fh, r2, post_ne (Post.mo g2 q)⟩
theorem em_call0 [MdMo md] {ta : TA} {m1 : M α} {R : Hp → List V → α → Prop} {f : α → M ρ} (ha : EvAM ce E ta σ F H m1 R) : Ev ce E (tCall (SpF0 ce R md f) [] E0 ta) σ F H md (m1.bind fun x => (f x).ne) := fun F1 H1 g1 Q q => by
  refine ha F1 H1 g1 _ ?_
  cases m1 with
  | ok x =>
    intro F2 H2 vs g2 r2
    show SpF0 ce R md f (vs ++ []) H2 Q E0
    rw [List.append_nil]
    exact ⟨F2, x, g2.fh, r2, post_ne (Post.mo g2 q)⟩
  | er c => exact q
  | bad => exact q
theorem e_callX [MdMo md] {ta : TA} {x : α} {R : Hp → List V → α → Prop} {f : α → M ρ} (ha : EvAM ce E ta σ F H (.ok x) R) : Ev ce E (tCall (SpF ce R md f) [] E ta) σ F H md (f x) := e_call ha (spa x)
theorem em_callX [MdMo md] {ta : TA} {m1 : M α} {R : Hp → List V → α → Prop} {f : α → M ρ} (ha : EvAM ce E ta σ F H m1 R) : Ev ce E (tCall (SpF ce R md f) [] E ta) σ F H md (m1.bind fun x => f x) := em_call ha fun x => spa x
theorem e_some [NN α] {x : α} (h : Ev ce E te σ F H (rv K) (.ok x)) : Ev ce E te σ F H (rv K) (.ok (some x)) := em_some (m := .ok x) h
theorem e_neg' {x : Int} (ha : Ev ce E ta σ F H (rv K) (.ok x)) : Ev ce E (tUn (rU fun i => .int (-i)) ta) σ F H (rv K) (.ok (-x)) := e_neg ha
theorem em_neg {m1 : M Int} (ha : Ev ce E ta σ F H (rv K) m1) : Ev ce E (tUn (rU fun i => .int (-i)) ta) σ F H (rv K) (m1.bind fun x => .ok (-x)) := em_un ha fun x => o_neg
/-- x < y < z, plain -/
theorem e_chain {r r' : R2} {x : α} {y : β} {z : γ} {b b' : Bool} (ha : Ev ce E ta σ F H (rv K) (.ok x)) (hb : Ev ce E tb σ F H (rv K) (.ok y)) (hc : Ev ce E tc σ F H (rv K) (.ok z))
    (h : Op2 ce E K r (rv K) x y (.ok b)) (h' : Op2 ce E K r' (rv K) y z (.ok b')) : Ev ce E (tChain r r' ta tb tc) σ F H (rv K) (.ok (b && b')) := fun F1 H1 g1 Q q => by
  refine ha F1 H1 g1 _ fun F2 H2 vx g2 rx => hb F2 H2 (g1.tr g2) _ fun F3 H3 vy g3 ry => ?_
  refine h F3 H3 vx vy g3.fh (Rep.mo g3.ff rx) ry _ fun F4 H4 v4 g4 r4 => ⟨b, r4, ?_⟩
  cases b with
  | true => exact hc F4 H4 (((g1.tr g2).tr g3).tr g4) _ fun F5 H5 vz g5 rz => h' F5 H5 vy vz g5.fh (Rep.mo (g4.ff.tr g5.ff) ry) rz Q (Post.mo (m := .ok b') (((g2.tr g3).tr g4).tr g5) q)
  | false => exact q F4 H4 _ ((g2.tr g3).tr g4) rfl
theorem e_if {b : Bool} {x y : ρ} [MdMo md] (h : EvT ce E tt σ F H (.ok b)) (ha : Ev ce E ta σ F H md (.ok x)) (hb : Ev ce E tb σ F H md (.ok y)) : Ev ce E (tIf tt ta tb) σ F H md (.ok (if b then x else y)) := fun F1 H1 g1 Q q => by
  refine h F1 H1 g1 _ fun F2 H2 g2 => ?_
  cases b with
  | true => exact ha F2 H2 (g1.tr g2) _ (Post.mo (m := .ok x) g2 q)
  | false => exact hb F2 H2 (g1.tr g2) _ (Post.mo (m := .ok y) g2 q)
theorem e_tup2 {x : α} {y : β} (ha : Ev ce E ta σ F H (rv K) (.ok x)) (hb : Ev ce E tb σ F H (rv K) (.ok y)) : Ev ce E (tTup (tCons ta (tCons tb tNil))) σ F H (rv K) (.ok (x, y)) := em_tup2 (m1 := .ok x) (m2 := .ok y) ha hb
theorem e_tup3 {x : α} {y : β} {z : γ} (ha : Ev ce E ta σ F H (rv K) (.ok x)) (hb : Ev ce E tb σ F H (rv K) (.ok y)) (hc : Ev ce E tc σ F H (rv K) (.ok z)) : Ev ce E (tTup (tCons ta (tCons tb (tCons tc tNil)))) σ F H (rv K) (.ok (T3.mk x y z)) := em_tup3 (m1 := .ok x) (m2 := .ok y) (m3 := .ok z) ha hb hc
theorem e_lcons {tr : TA} {x : α} {y : List α} (ha : Ev ce E ta σ F H (rv K) (.ok x)) (hr : EvL ce E K tr σ F H (.ok y)) : EvL ce E K (tCons ta tr) σ F H (.ok (x :: y)) := el_cons (m1 := .ok x) (m2 := .ok y) ha hr
theorem e_lst {ta : TA} {x : List α} (ha : EvL ce E K ta σ F H (.ok x)) (hs : x.length ≤ 1000) : Ev ce E (tLst ta) σ F H (rn K) (.ok x) := em_lst ha fun y e => by cases e; exact hs
/-- a written list whose items are reckoned: its length is looked at -/
theorem em_lst' {ta : TA} {m : M (List α)} (ha : EvL ce E K ta σ F H m) : Ev ce E (tLst ta) σ F H (rn K) (m.bind fun x => chk (x.length ≤ 1000) x) := fun F1 H1 g1 Q q => by
  cases m with
  | ok x =>
    have q' : Post ce (rn K) (chk (x.length ≤ 1000) x) F1 H1 Q E := q
    unfold chk at q'
    by_cases hx : x.length ≤ 1000
    · rw [if_pos hx] at q'
      exact em_lst ha (fun y e => by cases e; exact hx) F1 H1 g1 Q q'
    · rw [if_neg hx] at q'
      exact q'.elim
  | er c => exact em_lst ha (fun y e => nomatch e) F1 H1 g1 Q q
  | bad => exact q.elim
theorem em_rev' {x : List α} (ha : Ev ce E ta σ F H (rv K) (.ok x)) : Ev ce E (tRevL K ta) σ F H (rn K) (.ok x.reverse) := em_rev (m1 := .ok x) ha
theorem e_sl {tl th : TO} {x : List α} {lo hi : Option Int} (ha : Ev ce E ta σ F H (rv K) (.ok x)) (hl : EvO ce E tl σ F H (.ok lo)) (hh : EvO ce E th σ F H (.ok hi)) : Ev ce E (tSl (rSlL K) ta tl th) σ F H (rn K) (.ok (cut x lo hi)) := em_sl (m1 := .ok x) (m2 := .ok lo) (m3 := .ok hi) ha hl hh
theorem e_slS {tl th : TO} {x : Scr} {lo hi : Option Int} (ha : Ev ce E ta σ F H (rv K) (.ok x)) (hl : EvO ce E tl σ F H (.ok lo)) (hh : EvO ce E th σ F H (.ok hi)) : Ev ce E (tSl (rSlL K) ta tl th) σ F H (rn K) (.ok (cut x.l lo hi)) := em_slS (m2 := .ok lo) (m3 := .ok hi) ha hl hh
/-! ### isinstance -/
class Ty (α : Type) [Rep α] where
  nm : String
  ty : ∀ {K : PySem.W.Frag} {F H : Hp} {v : V} {x : α}, Ex F H → rp K F v x → TyX K H v (.type nm)
instance : Ty Int := ⟨"int", fun {K F H v x} _ h => by cases h; exact .base (.int x)⟩
instance : Ty Bool := ⟨"bool", fun {K F H v x} _ h => by cases h; exact .base (.bl x)⟩
instance : Ty Str := ⟨"str", fun {K F H v x} _ h => by cases h; exact .base (.str x)⟩
instance : Ty Unit := ⟨"NoneType", fun {K F H v x} _ h => by cases h; exact .base .non⟩
instance : Ty (List α) := ⟨"list", fun {K F H v x} e ⟨a, vs, h1, h2, h3⟩ => by subst h1; exact .base (.lst (e _ _ h2))⟩
theorem tyx_tup {a : Addr} {xs : List V} (e : Ex F H) (h : SqT K F a xs) : TyX K H (.ref a) (.type "tuple") := by
  rcases h with (h | ⟨o, h⟩) | ⟨o, its, n, hk, hc, _⟩
  · exact .base (.tup (e _ _ h))
  · exact .fTuple (e _ _ h)
  · exact .kTuple hk hc
instance : Ty (α × β) := ⟨"tuple", fun {K F H v x} e ⟨a, u, w, h1, h2, _⟩ => by subst h1; exact tyx_tup e h2⟩
instance : Ty (T3 α β γ) := ⟨"tuple", fun {K F H v x} e ⟨a, u, w, z, h1, h2, _⟩ => by subst h1; exact tyx_tup e h2⟩
instance : Ty (T4 α β γ δ) := ⟨"tuple", fun {K F H v x} e ⟨a, u, w, z, y, h1, h2, _⟩ => by subst h1; exact tyx_tup e h2⟩
theorem e_isi [Ty α] {x : α} {n : String} {b : Bool} (ha : Ev ce E ta σ F H (rv K) (.ok x)) (hb : PySem.W.kitOne K (.type (Ty.nm α)) (.type n) = some b) : Ev ce E (tCB (rIsi K) (tCons ta (tCons (tC (.ty n)) tNil))) σ F H (rv K) (.ok b) := fun F1 H1 g1 Q q =>
  ha F1 H1 g1 _ fun F2 H2 v g2 r => ⟨v, .ty n, _, _, b, rfl, .ty n, Ty.ty g2.fh r, hb, q F2 H2 _ g2 rfl⟩
/-- isinstance(x, T) where x may be None -/
theorem e_isiO [Ty α] {x : Option α} {n : String} {b : Bool} (ha : Ev ce E ta σ F H (rv K) (.ok x)) (hn : PySem.W.kitOne K (.type "NoneType") (.type n) = some false) (hb : PySem.W.kitOne K (.type (Ty.nm α)) (.type n) = some b) :
    Ev ce E (tCB (rIsi K) (tCons ta (tCons (tC (.ty n)) tNil))) σ F H (rv K) (.ok (x.isSome && b)) := fun F1 H1 g1 Q q =>
  ha F1 H1 g1 _ fun F2 H2 v g2 r => by
    cases x with
    | none => cases r; exact ⟨_, .ty n, _, _, false, rfl, .ty n, .base .non, hn, q F2 H2 _ g2 rfl⟩
    | some y => exact ⟨v, .ty n, _, _, b, rfl, .ty n, Ty.ty g2.fh r.1, hb, q F2 H2 _ g2 rfl⟩
theorem em_isi [Ty α] {m : M α} {n : String} {b : Bool} (ha : Ev ce E ta σ F H (rv K) m) (hb : PySem.W.kitOne K (.type (Ty.nm α)) (.type n) = some b) : Ev ce E (tCB (rIsi K) (tCons ta (tCons (tC (.ty n)) tNil))) σ F H (rv K) (m.bind fun _ => .ok b) := fun F1 H1 g1 Q q => by
  refine ha F1 H1 g1 _ ?_
  cases m with
  | ok x => exact fun F2 H2 v g2 r => ⟨v, .ty n, _, _, b, rfl, .ty n, Ty.ty g2.fh r, hb, q F2 H2 _ g2 rfl⟩
  | er c => exact q
  | bad => exact q
theorem em_isiO [Ty α] {m : M (Option α)} {n : String} {b : Bool} (ha : Ev ce E ta σ F H (rv K) m) (hn : PySem.W.kitOne K (.type "NoneType") (.type n) = some false) (hb : PySem.W.kitOne K (.type (Ty.nm α)) (.type n) = some b) :
    Ev ce E (tCB (rIsi K) (tCons ta (tCons (tC (.ty n)) tNil))) σ F H (rv K) (m.bind fun x => .ok (x.isSome && b)) := fun F1 H1 g1 Q q => by
  refine ha F1 H1 g1 _ ?_
  cases m with
  | ok x =>
    intro F2 H2 v g2 r
    cases x with
    | none => cases r; exact ⟨_, .ty n, _, _, false, rfl, .ty n, .base .non, hn, q F2 H2 _ g2 rfl⟩
    | some y => exact ⟨v, .ty n, _, _, b, rfl, .ty n, Ty.ty g2.fh r.1, hb, q F2 H2 _ g2 rfl⟩
  | er c => exact q
  | bad => exact q
/-! ### ifs -/
theorem s_if2 {m1 : M Bool} {k1 k2 : M τ} (G : Gr F0 H0 F H) (q : Wp ce E H0 (m1.bind fun b => if b then k1 else k2) P) (h : EvT ce E tt σ F H m1)
    (h1 : ∀ F1 H1, Gr F H F1 H1 → Wp ce E H0 k1 P → ts D σ H1) (h2 : ∀ F1 H1, Gr F H F1 H1 → Wp ce E H0 k2 P → tw D σ H1) : tIfS tt ts tw D σ H := s_if G q h h1 h2
theorem s_if2A (A : List Addr) {m1 : M Bool} {k1 k2 : M τ} (G : Gr F0 H0 F H) (q : Wp ce E H0 (m1.bind fun b => if b then k1 else k2) P) (hF : ∀ p ∈ A, F p = none) (hA : ∀ p ∈ A, ∃ o, H p = some o ∧ NoTup o)
    (h : EvT ce E tt σ (fz F H A) H m1) (h1 : ∀ F1 H1, Gr F H F1 H1 → Wp ce E H0 k1 P → ts D σ H1) (h2 : ∀ F1 H1, Gr F H F1 H1 → Wp ce E H0 k2 P → tw D σ H1) : tIfS tt ts tw D σ H := s_ifA A G q hF hA h h1 h2
theorem s_join {t : TS} {m1 : M W} {k : W → M τ} (J : W → Hp → Hp → L2.St → Prop) (q : Wp ce E H0 (m1.bind k) P)
    (h1 : ∀ w F1 H1 σ1, J w F1 H1 σ1 → Wp ce E H0 (k w) P → D.nx σ1 H1)
    (h2 : ∀ (P' : W → Prop), (∀ w, P' w → ∀ F1 H1 σ1, J w F1 H1 σ1 → D.nx σ1 H1) → Wp ce E H0 m1 P' → t D σ H) : t D σ H :=
  h2 (fun w => Wp ce E H0 (k w) P) (fun w p F1 H1 σ1 j => h1 w F1 H1 σ1 j p) (wp_bind q)
theorem own1 {Pp : Addr → Prop} {p : Addr} (h : Pp p) : ∀ q ∈ [p], Pp q := fun q m => by rw [List.mem_singleton.mp m]; exact h
theorem own2 {Pp : Addr → Prop} {p p' : Addr} (h : Pp p) (h' : Pp p') : ∀ q ∈ [p, p'], Pp q := fun q m => by
  rcases List.mem_cons.mp m with rfl | m
  · exact h
  · rw [List.mem_singleton.mp m]; exact h'
theorem own3 {Pp : Addr → Prop} {p p' p'' : Addr} (h : Pp p) (h' : Pp p') (h'' : Pp p'') : ∀ q ∈ [p, p', p''], Pp q := fun q m => by
  rcases List.mem_cons.mp m with rfl | m
  · exact h
  · exact own2 h' h'' q m
variable {T : Type} [Rep T] [Obj T]
theorem Own.ls {p : Addr} {x : T} (o : Own K F H p x) : ∃ o, H p = some o ∧ NoTup o := let ⟨⟨u, h, h2⟩, _⟩ := o; ⟨u, h, Obj.nt h2⟩
/-- a list of one's own from now on stays as it is -/
theorem own_fix {p : Addr} {x : T} (G : Gr F0 H0 F H) (o : Own K F H p x) (n0 : H0 p = none) : ∃ F', Gr F0 H0 F' H ∧ Ex F F' ∧ rp K F' (.ref p) x ∧ ∀ q, q ≠ p → F' q = F q := by
  obtain ⟨⟨u, h1, h2⟩, h3⟩ := o
  refine ⟨upd F p u, ⟨G.ff.tr (Ex.nw h3), fun a w e => ?_, G.hh, fun b a1 a2 => ?_⟩, Ex.nw h3, Obj.rep upd_same (Obj.mo (Ex.nw h3) h2), fun q hq => upd_ne hq⟩
  · by_cases z : a = p
    · subst z; rw [upd_same] at e; rw [h1]; exact e
    · rw [upd_ne z] at e; exact G.fh a w e
  · have : b ≠ p := fun z => by subst z; exact a2 n0
    rw [upd_ne this]; exact G.nw b a1 a2
/-- x += e -/
theorem s_aug {i : Nat} {v : V} {a : Int} {f : Int → Int → Int} {m1 : M Int} {k : Int → M τ} (hv : σ[i]? = some (some v)) (r : rp K F v a) (G : Gr F0 H0 F H) (q : Wp ce E H0 (m1.bind fun y => k (f a y)) P) (h : Ev ce E te σ F H (rv K) m1)
    (c : ∀ x F1 H1 v, Gr F H F1 H1 → rp K F1 v x → Wp ce E H0 (k x) P → D.nx (σ.set i (some v)) H1) : tAug i te (ipI f) D σ H := by
  cases r
  exact ⟨.int a, hv, h.go G q fun x F1 H1 v g r w => by cases r; exact ⟨a, x, rfl, rfl, c (f a x) F1 H1 _ g rfl w⟩⟩
end
end Mw
namespace Mw
open PySem L2
/-- an error class of one's own over ValueError, as the top has written it -/
structure ErrC (K : PySem.W.Frag) (mg : Str → Option Value) (C : Addr) (nm : Str) : Prop where
  g : mg nm = some (.ref C)
  x : PySem.W.excIn K C [.type "ValueError", .type "Exception", .type "BaseException", .type "object"] "ValueError.__new__" = true
  k : PySem.W.keepIn K (.ref C) = true
  b : PySem.W.subIn K (.ref C) (.type "BaseException") = some true
  t : PySem.W.typeIn K (.ref C) = some (.type "type")
section
variable {ρ α β γ δ W τ : Type} [Rep α] [Rep β] [Rep γ] [Rep δ] {ce : Ce} {E : XK} {K : PySem.W.Frag} {σ : L2.St} {F H F' H' F0 H0 : Hp} {te ta tb tc td : TE} {tt tu : TT} {md : Md ρ} {m : M ρ} {D : Ends} {ts tw : TS} {P : τ → Prop}
theorem t_yes : EvT ce E tYes σ F H (.ok true) := fun F1 H1 g Q q => q F1 H1 (Gr.rf g.fh)
/-- one plain operand's place, of a reckoned thing -/
theorem em_ix {r : R2} {m1 : M α} {y : β} {g : α → γ} (ha : Ev ce E ta σ F H (rv K) m1) (hb : Ev ce E tb σ F H (rv K) (.ok y)) (hr : ∀ x, Op2 ce E K r (rv K) x y (.ok (g x))) : Ev ce E (tOp r ta tb) σ F H (rv K) (m1.bind fun x => .ok (g x)) := fun F1 H1 g1 Q q => by
  refine ha F1 H1 g1 _ ?_
  cases m1 with
  | ok x => exact fun F2 H2 vx g2 rx => hb F2 H2 (g1.tr g2) _ fun F3 H3 vy g3 ry => hr x F3 H3 vx vy g3.fh (Rep.mo g3.ff rx) ry Q (Post.mo (m := .ok (g x)) (g2.tr g3) q)
  | er c => exact q
  | bad => exact q
theorem em_cb1 [MdMo md] {ta : TA} {r : List V → Hp → VK → Prop} {x : α} {R : Hp → List V → α → Prop} {m : M ρ} (ha : EvAM ce E ta σ F H (.ok x) R) (hr : OpA ce E R r md x m) : Ev ce E (tCB r ta) σ F H md m := fun F1 H1 g1 Q q =>
  ha F1 H1 g1 _ fun F2 H2 vs g2 r2 => hr F2 H2 vs g2.fh r2 Q (Post.mo g2 q)
/-- a, b = e -/
theorem s_asgT {g : TG} {R : L2.St → Hp → L2.St → α → Prop} (hg : Tg K g R) {m1 : M α} {k : α → M τ} (G : Gr F0 H0 F H) (q : Wp ce E H0 (m1.bind k) P) (h : Ev ce E te σ F H (rv K) m1)
    (c : ∀ x F1 H1 σ1, Gr F H F1 H1 → R σ F1 σ1 x → Wp ce E H0 (k x) P → D.nx σ1 H1) : tAsg te g D σ H := h.go G q fun x F1 H1 v g r w => hg σ F1 H1 v x g.fh r _ fun σ2 hr => c x F1 H1 σ2 g hr w
/-- x = a new list, where e reads lists of one's own -/
theorem s_asgNA (A : List Addr) {i : Nat} {m1 : M (List α)} {k : List α → M τ} [Flat α] (G : Gr F0 H0 F H) (q : Wp ce E H0 (m1.bind k) P) (hF : ∀ p ∈ A, F p = none) (hA : ∀ p ∈ A, ∃ o, H p = some o ∧ NoTup o) (h0 : ∀ p ∈ A, H0 p = none)
    (h : Ev ce E te σ (fz F H A) H (rn K) m1) (c : ∀ x F1 H1 p, Gr F H F1 H1 → H p = none → Own K F1 H1 p x → Wp ce E H0 (k x) P → D.nx (σ.set i (some (.ref p))) H1) : tAsg te (gName i) D σ H := by
  refine h _ H (Gr.rf (fz_h G.fh)) _ ?_
  have hA' : ∀ p ∈ A, H p ≠ none := fun p m => by obtain ⟨o, e, _⟩ := hA p m; rw [e]; exact fun z => nomatch z
  cases m1 with
  | ok x =>
    rintro F1 H1 v g ⟨p, vs, rfl, h1, h2, h3, h4⟩
    refine c x (th F1 A) H1 p (gr_th hF hA' G.fh g) h1 (own_new ?_ h3 (paired_fl (th_of hA g) h4)) q
    · unfold th
      split
      · rfl
      · exact h2
  | er cc => exact fun H' e => q H' (G.hh.tr e)
  | bad => exact q
theorem Own.other {T : Type} [Rep T] [Obj T] {q : Addr} {x : T} (o : Own K F H q x) (e : Ex F F') (h : F' q = F q) : Own K F' H q x := by
  obtain ⟨⟨u, h1, h2⟩, h3⟩ := o
  exact ⟨⟨u, h1, Obj.mo e h2⟩, by rw [h]; exact h3⟩
end
end Mw
/-! ### the same with a rest -/
namespace Mw
open PySem L2
open Rep (rp)
section
variable {ρ α β γ δ S W τ : Type} [Rep α] [Rep β] [Rep γ] [Rep δ] {ce : Ce} {E : XK} {K : PySem.W.Frag} {σ : L2.St} {F H F' H' F0 H0 : Hp} {te ta tb tc td : TE} {tt tu : TT} {md : Md ρ} {m : M ρ} {D : Ends} {ts tw : TS} {g : TG} {wi : TI} {P : τ → Prop}
theorem s_next (h : D.nx σ H) : tNext D σ H := h
theorem s_nx {X : L2.St → Hp → Prop} {R : VK} {B C : L2.St → Hp → Prop} (h : X σ H) : (Ends.mk X R B C).nx σ H := h
theorem q_asg {t2 : TS} {i : Nat} {m1 : M α} {k : α → M τ} (G : Gr F0 H0 F H) (q : Wp ce E H0 (m1.bind k) P) (h : Ev ce E te σ F H (rv K) m1)
    (c : ∀ x F1 H1 v, Gr F H F1 H1 → rp K F1 v x → Wp ce E H0 (k x) P → t2 D (σ.set i (some v)) H1) : tSeq (tAsg te (gName i)) t2 D σ H := s_asg (D := { D with nx := t2 D }) G q h c
theorem q_asgN {t2 : TS} {i : Nat} {m1 : M (List α)} {k : List α → M τ} (G : Gr F0 H0 F H) (q : Wp ce E H0 (m1.bind k) P) (h : Ev ce E te σ F H (rn K) m1)
    (c : ∀ x F1 H1 p, Gr F H F1 H1 → H p = none → Own K F1 H1 p x → Wp ce E H0 (k x) P → t2 D (σ.set i (some (.ref p))) H1) : tSeq (tAsg te (gName i)) t2 D σ H := s_asgN (D := { D with nx := t2 D }) G q h c
theorem q_asgA {t2 : TS} (A : List Addr) {i : Nat} {m1 : M α} {k : α → M τ} [Flat α] (G : Gr F0 H0 F H) (q : Wp ce E H0 (m1.bind k) P) (hF : ∀ p ∈ A, F p = none) (hA : ∀ p ∈ A, ∃ o, H p = some o ∧ NoTup o) (h0 : ∀ p ∈ A, H0 p = none)
    (h : Ev ce E te σ (fz F H A) H (rv K) m1) (c : ∀ x F1 H1 v, Gr F H F1 H1 → rp K F1 v x → Wp ce E H0 (k x) P → t2 D (σ.set i (some v)) H1) : tSeq (tAsg te (gName i)) t2 D σ H := s_asgA (D := { D with nx := t2 D }) A G q hF hA h0 h c
theorem q_drop {t2 : TS} {m1 : M α} {k : α → M τ} (G : Gr F0 H0 F H) (q : Wp ce E H0 (m1.bind k) P) (h : Ev ce E te σ F H (rv K) m1)
    (c : ∀ x F1 H1, Gr F H F1 H1 → Wp ce E H0 (k x) P → t2 D σ H1) : tSeq (tDrop te) t2 D σ H := s_drop (D := { D with nx := t2 D }) G q h c
theorem q_app {t2 : TS} {i : Nat} {p : Addr} {xs : List α} {m1 : M α} {k : List α → M τ} (hp : σ[i]? = some (some (.ref p))) (o : Own K F H p xs) (n0 : H0 p = none) (G : Gr F0 H0 F H)
    (q : Wp ce E H0 (m1.bind fun x => (appM xs x).bind k) P) (h : Ev ce E te σ F H (rv K) m1)
    (c : ∀ ys F1 H1, Ex F F1 → Gr F0 H0 F1 H1 → Own K F1 H1 p ys → (∀ (T : Type) [Rep T] [Obj T] (q : Addr) (z : T), q ≠ p → Own K F H q z → Own K F1 H1 q z) → Wp ce E H0 (k ys) P → t2 D σ H1) : tSeq (tDrop (tBM K "list" rAppend (tVar i) (tCons te tNil))) t2 D σ H := s_app (D := { D with nx := t2 D }) hp o n0 G q h c
theorem q_appA {t2 : TS} (A : List Addr) {i : Nat} {p : Addr} {xs : List α} {m1 : M α} {k : List α → M τ} [Flat α] (hp : σ[i]? = some (some (.ref p))) (o : Own K F H p xs) (n0 : H0 p = none) (G : Gr F0 H0 F H)
    (q : Wp ce E H0 (m1.bind fun x => (appM xs x).bind k) P) (hF : ∀ p ∈ A, F p = none) (hA : ∀ p ∈ A, ∃ o, H p = some o ∧ NoTup o) (h : Ev ce E te σ (fz F H A) H (rv K) m1)
    (c : ∀ ys F1 H1, Ex F F1 → Gr F0 H0 F1 H1 → Own K F1 H1 p ys → (∀ (T : Type) [Rep T] [Obj T] (q : Addr) (z : T), q ≠ p → Own K F H q z → Own K F1 H1 q z) → Wp ce E H0 (k ys) P → t2 D σ H1) : tSeq (tDrop (tBM K "list" rAppend (tVar i) (tCons te tNil))) t2 D σ H := s_appA (D := { D with nx := t2 D }) A hp o n0 G q hF hA h c
theorem q_for {t2 : TS} {f : α → S → M (Ctl S τ)} {k : S → M τ} {s0 : S} {m : M (List α)} {R : L2.St → Hp → L2.St → α → Prop} (I : S → Hp → Hp → L2.St → Prop) (G : Gr F0 H0 F H) (hi : EvI ce E K wi σ F H m) (hg : Tg K g R)
    (q : Wp ce E H0 (m.bind fun xs => forM f k xs s0) P) (h0 : ∀ F1 H1, Gr F H F1 H1 → I s0 F1 H1 σ) (hG : ∀ s F' H' σ', I s F' H' σ' → Gr F0 H0 F' H')
    (turn : ∀ x s F1 H1 σ1, I s F1 H1 σ1 → ∀ F2 H2 σ2, Gr F1 H1 F2 H2 → R σ1 F2 σ2 x → ∀ (D' : Ends) (P' : Ctl S τ → Prop), D'.rt = D.rt →
      (∀ s', P' (.nx s') → ∀ F3 H3 σ3, Ex F2 F3 → I s' F3 H3 σ3 → D'.nx σ3 H3) → (∀ s', P' (.nx s') → ∀ F3 H3 σ3, Ex F2 F3 → I s' F3 H3 σ3 → D'.ct σ3 H3) →
      (∀ s', P' (.br s') → ∀ F3 H3 σ3, Ex F2 F3 → I s' F3 H3 σ3 → D'.bk σ3 H3) → (∀ r, P' (.rt r) → P r) → Wp ce E H0 (f x s) P' → ts D' σ2 H2)
    (after : ∀ s F1 H1 σ1, Ex F F1 → I s F1 H1 σ1 → Wp ce E H0 (k s) P → t2 D σ1 H1) : tSeq (tFor wi g ts) t2 D σ H := s_for (D := { D with nx := t2 D }) I G hi hg q h0 hG turn after
theorem q_while {t2 : TS} {c : S → M Bool} {f : S → M (Ctl S τ)} {k : S → M τ} {s0 : S} {n : Nat} (I : S → Hp → Hp → L2.St → Prop) (h0 : I s0 F H σ) (hG : ∀ s F' H' σ', I s F' H' σ' → Gr F0 H0 F' H')
    (q : Wp ce E H0 (whM c f k n s0) P) (hc : ∀ s F1 H1 σ1, I s F1 H1 σ1 → EvT ce E tt σ1 F1 H1 (c s)) (hI : ∀ s F1 H1 F2 H2 σ1, I s F1 H1 σ1 → Gr F1 H1 F2 H2 → I s F2 H2 σ1)
    (turn : ∀ s F1 H1 σ1, I s F1 H1 σ1 → ∀ (D' : Ends) (P' : Ctl S τ → Prop), D'.rt = D.rt →
      (∀ s', P' (.nx s') → ∀ F3 H3 σ3, I s' F3 H3 σ3 → D'.nx σ3 H3) → (∀ s', P' (.nx s') → ∀ F3 H3 σ3, I s' F3 H3 σ3 → D'.ct σ3 H3) →
      (∀ s', P' (.br s') → ∀ F3 H3 σ3, I s' F3 H3 σ3 → D'.bk σ3 H3) → (∀ r, P' (.rt r) → P r) → Wp ce E H0 (f s) P' → ts D' σ1 H1)
    (after : ∀ s F1 H1 σ1, I s F1 H1 σ1 → Wp ce E H0 (k s) P → t2 D σ1 H1) : tSeq (tWhile tt ts) t2 D σ H := s_while (D := { D with nx := t2 D }) I h0 hG q hc hI turn after
theorem q_asgNA {t2 : TS} (A : List Addr) {i : Nat} {m1 : M (List α)} {k : List α → M τ} [Flat α] (G : Gr F0 H0 F H) (q : Wp ce E H0 (m1.bind k) P) (hF : ∀ p ∈ A, F p = none) (hA : ∀ p ∈ A, ∃ o, H p = some o ∧ NoTup o) (h0 : ∀ p ∈ A, H0 p = none)
    (h : Ev ce E te σ (fz F H A) H (rn K) m1) (c : ∀ x F1 H1 p, Gr F H F1 H1 → H p = none → Own K F1 H1 p x → Wp ce E H0 (k x) P → t2 D (σ.set i (some (.ref p))) H1) : tSeq (tAsg te (gName i)) t2 D σ H := s_asgNA (D := { D with nx := t2 D }) A G q hF hA h0 h c
theorem q_asgT {t2 : TS} {g : TG} {R : L2.St → Hp → L2.St → α → Prop} (hg : Tg K g R) {m1 : M α} {k : α → M τ} (G : Gr F0 H0 F H) (q : Wp ce E H0 (m1.bind k) P) (h : Ev ce E te σ F H (rv K) m1)
    (c : ∀ x F1 H1 σ1, Gr F H F1 H1 → R σ F1 σ1 x → Wp ce E H0 (k x) P → t2 D σ1 H1) : tSeq (tAsg te g) t2 D σ H := s_asgT (D := { D with nx := t2 D }) hg G q h c
theorem q_if2 {t2 : TS} {m1 : M Bool} {k1 k2 : M τ} (G : Gr F0 H0 F H) (q : Wp ce E H0 (m1.bind fun b => if b then k1 else k2) P) (h : EvT ce E tt σ F H m1)
    (h1 : ∀ F1 H1, Gr F H F1 H1 → Wp ce E H0 k1 P → ts { D with nx := t2 D } σ H1) (h2 : ∀ F1 H1, Gr F H F1 H1 → Wp ce E H0 k2 P → tw { D with nx := t2 D } σ H1) : tSeq (tIfS tt ts tw) t2 D σ H := s_if2 (D := { D with nx := t2 D }) G q h h1 h2
theorem q_if2A {t2 : TS} (A : List Addr) {m1 : M Bool} {k1 k2 : M τ} (G : Gr F0 H0 F H) (q : Wp ce E H0 (m1.bind fun b => if b then k1 else k2) P) (hF : ∀ p ∈ A, F p = none) (hA : ∀ p ∈ A, ∃ o, H p = some o ∧ NoTup o)
    (h : EvT ce E tt σ (fz F H A) H m1) (h1 : ∀ F1 H1, Gr F H F1 H1 → Wp ce E H0 k1 P → ts { D with nx := t2 D } σ H1) (h2 : ∀ F1 H1, Gr F H F1 H1 → Wp ce E H0 k2 P → tw { D with nx := t2 D } σ H1) : tSeq (tIfS tt ts tw) t2 D σ H := s_if2A (D := { D with nx := t2 D }) A G q hF hA h h1 h2
theorem q_aug {t2 : TS} {i : Nat} {v : V} {a : Int} {f : Int → Int → Int} {m1 : M Int} {k : Int → M τ} (hv : σ[i]? = some (some v)) (r : rp K F v a) (G : Gr F0 H0 F H) (q : Wp ce E H0 (m1.bind fun y => k (f a y)) P) (h : Ev ce E te σ F H (rv K) m1)
    (c : ∀ x F1 H1 v, Gr F H F1 H1 → rp K F1 v x → Wp ce E H0 (k x) P → t2 D (σ.set i (some v)) H1) : tSeq (tAug i te (ipI f)) t2 D σ H := s_aug (D := { D with nx := t2 D }) hv r G q h c
theorem q_join {t2 : TS} {t : TS} {m1 : M W} {k : W → M τ} (J : W → Hp → Hp → L2.St → Prop) (q : Wp ce E H0 (m1.bind k) P)
    (h1 : ∀ w F1 H1 σ1, J w F1 H1 σ1 → Wp ce E H0 (k w) P → t2 D σ1 H1)
    (h2 : ∀ (P' : W → Prop), (∀ w, P' w → ∀ F1 H1 σ1, J w F1 H1 σ1 → t2 D σ1 H1) → Wp ce E H0 m1 P' → t { D with nx := t2 D } σ H) : tSeq (t) t2 D σ H := s_join (D := { D with nx := t2 D }) J q h1 h2
end
end Mw

set_option Elab.async false
set_option linter.all false
set_option maxRecDepth 100000
set_option maxHeartbeats 2000000
/-! Mw, part G: plain laws that serve several mirrors. -/
namespace Mw
open PySem L2
theorem chk_pos {α : Type} {c : Prop} (h : c) (x : α) : chk c x = .ok x := if_pos h
theorem mulM_ok {x y : Int} (hx : x.natAbs < 2 ^ 10000) (hy : y.natAbs < 2 ^ 10000) : mulM x y = .ok (x * y) := chk_pos (wide_mul hx hy (by decide) (by decide) (by decide)) _
theorem modM_ok {x y : Int} (h : 0 < y) : modM x y = .ok (x % y) := chk_pos h _
theorem fdivM_ok {x y : Int} (h : 0 < y) (hy : y.natAbs < 2 ^ 8000) : fdivM x y = .ok (x / y) := chk_pos (wide_div h hy (by decide) (by decide)) _
theorem fdivZ_ok {x y : Int} (h : y ≠ 0) (hy : y.natAbs < 2 ^ 8000) : fdivZ x y = .ok (x.fdiv y) := chk_pos ⟨h, Nat.lt_of_lt_of_le (PySem.Flt.log2_lt_of (by decide) hy) (by decide)⟩ _
theorem ixM_of {α : Type} [Rep α] {xs : List α} {i : Nat} {x : α} (h : xs[i]? = some x) : ixM xs (i : Int) = .ok x := by
  unfold ixM
  rw [atI_nat h]
theorem catM_ok {α : Type} {xs ys : List α} (h : xs.length + ys.length ≤ 16000000) : catM xs ys = .ok (xs ++ ys) := chk_pos h _
theorem appM_ok {α : Type} {xs : List α} {x : α} (h : xs.length < 16000000) : appM xs x = .ok (xs ++ [x]) := chk_pos h _
theorem rng1M_ok {n : Int} (h : -(2 ^ 62) ≤ n ∧ n < 2 ^ 62) : rng1M n = .ok (rng 0 n) := by
  unfold rng1M
  exact chk_pos h _
theorem lcM_ok {α β : Type} (c : α → Bool) (e : α → β) {xs : List α} (h : xs.length ≤ 16000000) : lcM (fun x => .ok (c x)) (fun x => .ok (e x)) xs = .ok ((xs.filter c).map e) := by
  unfold lcM
  rw [if_pos h, compM_ok]
theorem lcM_all {α β : Type} (e : α → β) {xs : List α} (h : xs.length ≤ 16000000) : lcM (fun _ => .ok true) (fun x => .ok (e x)) xs = .ok (xs.map e) := by
  unfold lcM
  rw [if_pos h, compM_all]
theorem lcM_congr {α β : Type} {c c' : α → M Bool} {e e' : α → M β} {xs : List α} (h1 : ∀ x ∈ xs, c x = c' x) (h2 : ∀ x ∈ xs, c x = .ok true → e x = e' x) : lcM c e xs = lcM c' e' xs := by
  unfold lcM
  rw [compM_congr h1 h2]
/-- a loop without a state that only looks -/
theorem forM_all {α τ : Type} {f : α → Unit → M (Ctl Unit τ)} {k : Unit → M τ} : ∀ {xs : List α}, (∀ x ∈ xs, f x () = .ok (.nx ())) → forM f k xs () = k ()
  | [], _ => rfl
  | x :: r, h => by
    rw [forM_cons, h x List.mem_cons_self]
    exact forM_all fun y hy => h y (List.mem_cons_of_mem _ hy)
/-- a loop that always goes on -/
theorem forM_fold {α S τ : Type} {f : α → S → M (Ctl S τ)} {k : S → M τ} {g : S → α → S} (I : S → Prop) : ∀ {xs : List α} {s : S}, I s → (∀ x ∈ xs, ∀ s, I s → f x s = .ok (.nx (g s x)) ∧ I (g s x)) → forM f k xs s = k (xs.foldl g s)
  | [], _, _, _ => rfl
  | x :: r, s, hs, h => by
    rw [forM_cons, (h x List.mem_cons_self s hs).1]
    exact forM_fold I (h x List.mem_cons_self s hs).2 fun y hy => h y (List.mem_cons_of_mem _ hy)
theorem gcd_step (a b : Int) (ha : 0 ≤ a) (hb : 0 ≤ b) : Int.gcd b (a % b) = Int.gcd a b := by
  obtain ⟨m, rfl⟩ := Int.eq_ofNat_of_zero_le ha
  obtain ⟨k, rfl⟩ := Int.eq_ofNat_of_zero_le hb
  show Nat.gcd k (m % k) = Nat.gcd m k
  rw [Nat.gcd_comm m k, Nat.gcd_rec k m, Nat.gcd_comm]
/-- a loop that always goes on: what is told of what it has met -/
theorem forM_ex {α S τ : Type} {f : α → S → M (Ctl S τ)} {k : S → M τ} (J : List α → S → Prop) : ∀ (xs pre : List α) (s : S), J pre s →
    (∀ p x s, (p ++ [x]) <+: (pre ++ xs) → J p s → ∃ s', f x s = .ok (.nx s') ∧ J (p ++ [x]) s') → ∃ s', J (pre ++ xs) s' ∧ forM f k xs s = k s'
  | [], pre, s, h, _ => ⟨s, by rw [List.append_nil]; exact h, rfl⟩
  | x :: r, pre, s, h, hs => by
    have e0 : pre ++ x :: r = (pre ++ [x]) ++ r := by simp
    obtain ⟨s', e1, h1⟩ := hs pre x s (by rw [e0]; exact List.prefix_append _ _) h
    obtain ⟨s2, h2, e2⟩ := forM_ex (k := k) J r (pre ++ [x]) s' h1 (by rw [← e0]; exact hs)
    rw [e0]
    exact ⟨s2, h2, by rw [forM_cons, e1]; exact e2⟩
theorem pre_mem {α : Type} {p xs : List α} {x : α} (h : (p ++ [x]) <+: xs) : x ∈ xs := h.subset (List.mem_append_right p (List.mem_singleton.mpr rfl))
theorem pre_len {α : Type} {p xs : List α} {x : α} (h : (p ++ [x]) <+: xs) : p.length < xs.length := by
  have := h.length_le
  simp at this
  omega
theorem cut_sub {α : Type} {xs : List α} {lo hi : Option Int} {x : α} (h : x ∈ cut xs lo hi) : x ∈ xs := List.mem_of_mem_drop (List.mem_of_mem_take h)
theorem cut_len {α : Type} (xs : List α) (lo hi : Option Int) : (cut xs lo hi).length ≤ xs.length := by
  unfold cut
  rw [List.length_take, List.length_drop]
  omega
theorem six_nat {n d : Nat} {i : Nat} (h : i ≤ n) : HT.sIx n d (some (i : Int)) = i := by
  unfold HT.sIx
  dsimp only
  split <;> omega
theorem cut_take {α : Type} (xs : List α) {i : Nat} (h : i ≤ xs.length) : cut xs none (some (i : Int)) = xs.take i := by
  unfold cut
  rw [six_nat h]
  rfl
theorem cut_drop {α : Type} (xs : List α) {i : Nat} (h : i ≤ xs.length) : cut xs (some (i : Int)) none = xs.drop i := by
  unfold cut
  rw [six_nat h]
  show (xs.drop i).take (xs.length - i) = _
  rw [List.take_of_length_le (by rw [List.length_drop]; omega)]
theorem compM_ex {α β : Type} {e : α → M β} {Q : α → β → Prop} : ∀ {xs : List α}, (∀ x ∈ xs, ∃ v, e x = .ok v ∧ Q x v) → ∃ ys, compM (fun _ => .ok true) e xs = .ok ys ∧ ys.length = xs.length ∧ ∀ y ∈ ys, ∃ x ∈ xs, Q x y
  | [], _ => ⟨[], rfl, rfl, fun _ z => nomatch z⟩
  | x :: r, h => by
    obtain ⟨v, ev, hv⟩ := h x List.mem_cons_self
    obtain ⟨ys, e1, e2, e3⟩ := compM_ex fun y hy => h y (List.mem_cons_of_mem x hy)
    refine ⟨v :: ys, ?_, by simp [e2], fun y hy => ?_⟩
    · unfold compM
      rw [ev, e1]
      rfl
    · rcases List.mem_cons.mp hy with z | z
      · exact ⟨x, List.mem_cons_self, z ▸ hv⟩
      · obtain ⟨w, hw, q⟩ := e3 y z
        exact ⟨w, List.mem_cons_of_mem _ hw, q⟩
theorem lcM_ex {α β : Type} {e : α → M β} {Q : α → β → Prop} {xs : List α} (hl : xs.length ≤ 16000000) (h : ∀ x ∈ xs, ∃ v, e x = .ok v ∧ Q x v) : ∃ ys, lcM (fun _ => .ok true) e xs = .ok ys ∧ ys.length = xs.length ∧ ∀ y ∈ ys, ∃ x ∈ xs, Q x y := by
  unfold lcM
  rw [if_pos hl]
  exact compM_ex h
theorem rng_pre {p : List Int} {x : Int} {n : Nat} (h : (p ++ [x]) <+: rng 0 (n : Int)) : x = (p.length : Int) ∧ p.length < n := by
  have hl := pre_len h
  have e : (rng 0 (n : Int)).length = n := by unfold rng; simp
  rw [e] at hl
  refine ⟨?_, hl⟩
  obtain ⟨t, ht⟩ := h
  have h2 : (rng 0 (n : Int))[p.length]? = some x := by rw [← ht]; simp
  unfold rng at h2
  rw [List.getElem?_map] at h2
  obtain ⟨j, hj, e2⟩ := Option.map_eq_some_iff.mp h2
  have hj2 : p.length < (List.range ((n : Int) - 0).toNat).length := (List.getElem?_eq_some_iff.mp hj).1
  rw [List.getElem?_range (by simpa using hl)] at hj
  cases hj
  rw [← e2]
  omega
theorem ixM_last {α : Type} [Rep α] (k : List α) (m : α) : ixM (k ++ [m]) (-1) = .ok m := by
  unfold ixM
  have : atI (k ++ [m]) (-1) = some m := by
    have e : ixN (k ++ [m]).length (-1) = some k.length := by
      unfold ixN
      rw [if_neg (by decide), List.length_append, List.length_singleton]
      rw [if_pos (by omega)]
      congr 1
      omega
    unfold atI
    rw [e]
    simp
  rw [this]
end Mw

set_option Elab.async false
set_option linter.all false
set_option maxRecDepth 100000
set_option maxHeartbeats 2000000
/-! Mw, part H: dicts whose keys are whole numbers. -/
namespace Mw
open PySem L2
open Rep (rp)
structure Dc (α : Type) where
  kvs : List (Int × α)
def dlook {α : Type} (k : Int) (d : List (Int × α)) : Option α := (d.find? fun p => decide (p.1 = k)).map (·.2)
def dput {α : Type} (d : List (Int × α)) (k : Int) (x : α) : List (Int × α) := if (d.any fun p => decide (p.1 = k)) = true then d.map (fun p => if p.1 = k then (p.1, x) else p) else d ++ [(k, x)]
def dmerge {α : Type} (d more : List (Int × α)) : List (Int × α) := more.foldl (fun a p => dput a p.1 p.2) d
abbrev DRel (K : PySem.W.Frag) {α : Type} [Rep α] (H : Hp) : List (Key × V) → List (Int × α) → Prop := Paired fun q p => q.1 = Sum.inl p.1 ∧ rp K H q.2 p.2
theorem drel_mo {K : PySem.W.Frag} {α : Type} [Rep α] {H H' : Hp} (e : Ex H H') : ∀ {vs : List (Key × V)} {d : List (Int × α)}, DRel K H vs d → DRel K H' vs d
  | _, _, .nil => .nil
  | _, _, .cons h t => .cons ⟨h.1, Rep.mo e h.2⟩ (drel_mo e t)
instance {α : Type} [Rep α] : Rep (Dc α) := ⟨fun K H v x => ∃ a vs, v = .ref a ∧ H a = some (.dK vs) ∧ DRel K H vs x.kvs, fun e ⟨a, vs, h1, h2, h3⟩ => ⟨a, vs, h1, e _ _ h2, drel_mo e h3⟩⟩
instance {α : Type} [Rep α] : Obj (Dc α) where
  ho := fun K H o x => ∃ vs, o = .dK vs ∧ DRel K H vs x.kvs
  mo := fun e ⟨vs, h1, h2⟩ => ⟨vs, h1, drel_mo e h2⟩
  rep := fun {K H p o x} e ⟨vs, h1, h2⟩ => by subst h1; exact ⟨p, vs, rfl, e, h2⟩
  nt := fun {K H o x} ⟨vs, h1, _⟩ => by subst h1; exact ⟨(fun _ z => nomatch z), (fun _ _ z => nomatch z)⟩
section
variable {K : PySem.W.Frag} {α : Type} [Rep α] {H : Hp}
theorem key_dec {q : Key × V} {p : Int × α} (h : q.1 = Sum.inl p.1) (k : Int) : decide (q.1 = Sum.inl k) = decide (p.1 = k) := by
  rw [h, key_ll, Bool.eq_iff_iff]
  simp
theorem drel_any (k : Int) : ∀ {vs : List (Key × V)} {d : List (Int × α)}, DRel K H vs d → (vs.any fun q => decide (q.1 = Sum.inl k)) = d.any fun p => decide (p.1 = k)
  | _, _, .nil => rfl
  | _, _, .cons h t => by
    rw [List.any_cons, List.any_cons, drel_any k t, key_dec h.1]
theorem drel_look (k : Int) : ∀ {vs : List (Key × V)} {d : List (Int × α)}, DRel K H vs d → (∀ x, dlook k d = some x → ∃ v, valV vs (Sum.inl k) = some v ∧ rp K H v x) ∧ (dlook k d = none → valV vs (Sum.inl k) = none)
  | _, _, .nil => ⟨(fun x e => nomatch e), (fun _ => rfl)⟩
  | _, _, .cons (a := q) (b := p) (l₁ := vs) (l₂ := d) h t => by
    by_cases e : p.1 = k
    · have e1 : q.1 = Sum.inl k := by rw [h.1, e]
      have e2 : dlook k (p :: d) = some p.2 := by unfold dlook; rw [List.find?_cons, decide_eq_true e] <;> rfl
      rw [e2, valV_pos e1]
      exact ⟨fun x z => ⟨q.2, rfl, by cases z; exact h.2⟩, fun z => nomatch z⟩
    · have e1 : ¬ q.1 = Sum.inl k := by rw [h.1]; exact fun z => e (Sum.inl.inj z)
      have e2 : dlook k (p :: d) = dlook k d := by unfold dlook; rw [List.find?_cons, decide_eq_false e]
      rw [e2, valV_neg e1]
      exact drel_look k t
theorem drel_map {k : Int} {v : V} {x : α} (r : rp K H v x) : ∀ {vs : List (Key × V)} {d : List (Int × α)}, DRel K H vs d → DRel K H (vs.map fun q => if q.1 = Sum.inl k then (q.1, v) else q) (d.map fun p => if p.1 = k then (p.1, x) else p)
  | _, _, .nil => .nil
  | _, _, .cons (a := q) (b := p) h t => by
    refine .cons ?_ (drel_map r t)
    by_cases e : p.1 = k
    · have e1 : q.1 = Sum.inl k := by rw [h.1, e]
      dsimp only
      rw [if_pos e, if_pos e1]
      exact ⟨h.1, r⟩
    · have e1 : ¬ q.1 = Sum.inl k := by rw [h.1]; exact fun z => e (Sum.inl.inj z)
      dsimp only
      rw [if_neg e, if_neg e1]
      exact h
theorem drel_put {k : Int} {v : V} {x : α} {vs : List (Key × V)} {d : List (Int × α)} (h : DRel K H vs d) (r : rp K H v x) : DRel K H (putK vs (Sum.inl k) v) (dput d k x) := by
  unfold putK dput
  rw [drel_any k h]
  split
  · exact drel_map r h
  · exact paired_app h (.cons ⟨rfl, r⟩ .nil)
theorem drel_merge : ∀ {ws : List (Key × V)} {e : List (Int × α)} {vs : List (Key × V)} {d : List (Int × α)}, DRel K H ws e → DRel K H vs d → DRel K H (mergeK vs ws) (dmerge d e)
  | _, _, _, _, .nil, h => h
  | _, _, _, _, .cons (a := q) (b := p) g t, h => by
    show DRel K H (mergeK (putK _ q.1 q.2) _) (dmerge (dput _ p.1 p.2) _)
    rw [g.1]
    exact drel_merge t (drel_put h g.2)
theorem drel_len {vs : List (Key × V)} {d : List (Int × α)} (h : DRel K H vs d) : vs.length = d.length := Paired.length h
theorem drel_keys : ∀ {vs : List (Key × V)} {d : List (Int × α)}, DRel K H vs d → vs.map (·.1) = (d.map (·.1)).map Sum.inl
  | _, _, .nil => rfl
  | _, _, .cons h t => by rw [List.map_cons, List.map_cons, List.map_cons, drel_keys t, h.1]
theorem drel_keyV : ∀ {vs : List (Key × V)} {d : List (Int × α)}, DRel K H vs d → (vs.map fun q => kV q.1) = (d.map (·.1)).map V.int
  | _, _, .nil => rfl
  | _, _, .cons h t => by rw [List.map_cons, List.map_cons, List.map_cons, drel_keyV t, h.1] <;> rfl
theorem pairs_split : ∀ {vs : List V} {xs : List (Int × α)}, Paired (rp K H) vs xs → ∃ ps ws, vs = ps.map V.ref ∧ Paired (fun p kv => SqT K H p [kV kv.1, kv.2]) ps ws ∧ DRel K H ws xs
  | _, _, .nil => ⟨[], [], rfl, .nil, .nil⟩
  | _, _, .cons (b := x) ⟨a, u, w, h1, h2, h3, h4⟩ t => by
    obtain ⟨ps, ws, e, p, d⟩ := pairs_split t
    cases h3
    subst h1 e
    exact ⟨a :: ps, (Sum.inl x.1, w) :: ws, rfl, .cons h2 p, .cons ⟨rfl, h4⟩ d⟩
end
/-- a new object of one's own -/
def ro (K : PySem.W.Frag) {T : Type} [Rep T] [Obj T] : Md T := fun _ H F' H' v r => ∃ p, v = .ref p ∧ H p = none ∧ Own K F' H' p r
instance {K : PySem.W.Frag} {T : Type} [Rep T] [Obj T] : MdMo (ro K (T := T)) := ⟨fun g ⟨p, h1, h2, h3⟩ => ⟨p, h1, ex_back g.hh h2, h3⟩⟩
section
variable {ρ α β γ δ S W τ T : Type} [Rep α] [Rep β] [Rep γ] [Rep δ] [Rep T] [Obj T] {ce : Ce} {E : XK} {K : PySem.W.Frag} {σ : L2.St} {F H F' H' F0 H0 : Hp} {te ta tb tc td ty tx : TE} {tt tu : TT} {md : Md ρ} {m : M ρ} {D : Ends} {ts tw : TS} {g : TG} {wi : TI} {P : τ → Prop}
/-- a new object may be leant on -/
theorem Ev.ov {m : M T} (h : Ev ce E te σ F H (ro K) m) : Ev ce E te σ F H (rv K) m := by
  intro F1 H1 g Q q
  refine h F1 H1 g Q ?_
  cases m with
  | ok x =>
    rintro F2 H2 v g2 ⟨p, rfl, h1, ⟨u, h3, h4⟩, h2⟩
    refine q (upd F2 p u) H2 (.ref p) ⟨g2.ff.tr (Ex.nw h2), ?_, g2.hh, fun b a1 a2 => ?_⟩ (Obj.rep upd_same (Obj.mo (Ex.nw h2) h4))
    · intro a w e
      by_cases z : a = p
      · subst z; rw [upd_same] at e; rw [h3]; exact e
      · rw [upd_ne z] at e; exact g2.fh a w e
    · have : b ≠ p := fun z => by subst z; exact a2 h1
      rw [upd_ne this]; exact g2.nw b a1 a2
  | er c => exact q
  | bad => exact q
/-- x = a new object of one's own -/
theorem s_asgO {i : Nat} {m1 : M T} {k : T → M τ} (G : Gr F0 H0 F H) (q : Wp ce E H0 (m1.bind k) P) (h : Ev ce E te σ F H (ro K) m1)
    (c : ∀ x F1 H1 p, Gr F H F1 H1 → H p = none → Own K F1 H1 p x → Wp ce E H0 (k x) P → D.nx (σ.set i (some (.ref p))) H1) : tAsg te (gName i) D σ H := by
  refine h F H (Gr.rf G.fh) _ ?_
  cases m1 with
  | ok x =>
    rintro F1 H1 v g ⟨p, rfl, h1, o⟩
    exact c x F1 H1 p g h1 o q
  | er cc => exact fun H' e => q H' (G.hh.tr e)
  | bad => exact q
theorem em_dnew : Ev ce E tDNewK σ F H (ro K) (.ok (⟨[]⟩ : Dc α)) := fun F1 H1 g1 Q q p np =>
  q F1 _ _ (Gr.own g1.fh np) ⟨p, rfl, np, ⟨_, upd_same, [], rfl, .nil⟩, ex_back g1.fh np⟩
theorem a_dictP {xs : List (Int × α)} : OpA ce E (RC K R0) (fun xs H Q => ∃ (a : Addr) (ps : List Addr) (kvs : List (Key × V)), xs = [.ref a] ∧ SqL K H a (ps.map V.ref) ∧ Paired (fun p kv => SqT K H p [kV kv.1, kv.2]) ps kvs ∧
    ∀ p, H p = none → Q (.ref p) (upd H p (.dK (mergeK [] kvs)))) (ro K) (xs, ()) (.ok (⟨dmerge [] xs⟩ : Dc α)) := fun F1 H1 vs e ⟨v, r, e1, ⟨a, us, h1, h2, h3⟩, e3⟩ Q q => by
  cases e3
  subst e1 h1
  obtain ⟨ps, ws, rfl, hp, hd⟩ := pairs_split h3
  refine ⟨a, ps, ws, rfl, SqL.of (e _ _ h2), Paired.mapP hp fun p kv h => ex_t e h, fun p np => ?_⟩
  exact q F1 _ _ (Gr.own e np) ⟨p, rfl, np, ⟨_, upd_same, _, rfl, drel_merge hd .nil⟩, ex_back e np⟩
theorem a_dictD {d : Dc α} : OpA ce E (RC K R0) (fun xs H Q => ∃ (a : Addr) (kvs : List (Key × V)), xs = [.ref a] ∧ Rd H a (.dK kvs) ∧ ∀ p, H p = none → Q (.ref p) (upd H p (.dK kvs))) (ro K) (d, ()) (.ok d) := fun F1 H1 vs e ⟨v, r, e1, ⟨a, us, h1, h2, h3⟩, e3⟩ Q q => by
  cases e3
  subst e1 h1
  exact ⟨a, us, rfl, .inl (e _ _ h2), fun p np => q F1 _ _ (Gr.own e np) ⟨p, rfl, np, ⟨_, upd_same, _, rfl, h3⟩, ex_back e np⟩⟩
theorem a_listD {d : Dc α} : OpA ce E (RC K R0) (fun xs H Q => ∃ (a : Addr) (kvs : List (Key × V)), xs = [.ref a] ∧ Rd H a (.dK kvs) ∧ ∀ p, H p = none → Q (.ref p) (upd H p (.lst (kvs.map fun kv => kV kv.1)))) (rn K) (d, ()) (.ok (d.kvs.map (·.1))) := fun F1 H1 vs e ⟨v, r, e1, ⟨a, us, h1, h2, h3⟩, e3⟩ Q q => by
  cases e3
  subst e1 h1
  refine ⟨a, us, rfl, .inl (e _ _ h2), fun p np => ?_⟩
  rw [drel_keyV h3]
  exact q F1 _ _ (Gr.own e np) ⟨p, _, rfl, np, ex_back e np, upd_same, rep_int _⟩
noncomputable def sortDM {α : Type} (d : Dc α) : M (List Int) := chk (d.kvs.length < 64) (sortI (d.kvs.map (·.1)))
theorem a_sortedD {d : Dc α} : OpA ce E (RC K R0) (fun xs H Q => ∃ (a : Addr) (kvs : List (Key × V)) (ks : List Int), xs = [.ref a] ∧ Rd H a (.dK kvs) ∧ kvs.map (·.1) = ks.map Sum.inl ∧ ks.length < 64 ∧
    ∀ (ys : List Int) (p : Addr), ys.Perm ks → ys.Pairwise (· ≤ ·) → H p = none → Q (.ref p) (upd H p (.lst (ys.map V.int)))) (rn K) (d, ()) (sortDM d) := fun F1 H1 vs e ⟨v, r, e1, ⟨a, us, h1, h2, h3⟩, e3⟩ Q q => by
  cases e3
  subst e1 h1
  unfold sortDM chk at q
  split at q
  · rename_i hl
    refine ⟨a, us, d.kvs.map (·.1), rfl, .inl (e _ _ h2), drel_keys h3, by rw [List.length_map]; exact hl, fun ys p hp hs np => ?_⟩
    have : ys = sortI (d.kvs.map (·.1)) := sorted_same (hp.trans (sortI_perm _).symm) hs (sortI_sorted _)
    subst this
    exact q F1 _ _ (Gr.own e np) ⟨p, _, rfl, np, ex_back e np, upd_same, rep_int _⟩
  · exact q.elim
theorem a_lenD {d : Dc α} : OpA ce E (RC K R0) (fun xs H Q => ∃ a kvs, xs = [V.ref a] ∧ H a = some (.dK kvs) ∧ Q (.int kvs.length) H) (rv K) (d, ()) (.ok (d.kvs.length : Int)) := fun F1 H1 vs e ⟨v, r, e1, ⟨a, us, h1, h2, h3⟩, e3⟩ Q q => by
  cases e3
  subst e1 h1
  refine ⟨a, us, rfl, e _ _ h2, ?_⟩
  rw [drel_len h3]
  exact q F1 H1 _ (Gr.rf e) rfl
def dgetM {α : Type} (d : Dc α) (k : Int) : M α := match dlook k d.kvs with
  | some x => .ok x
  | none => .bad
/-- d[k] -/
theorem em_dget {m1 : M (Dc α)} {m2 : M Int} (ha : Ev ce E td σ F H (rv K) m1) (hb : Ev ce E ty σ F H (rv K) m2) : Ev ce E (tDGet td ty) σ F H (rv K) (m1.bind fun d => m2.bind fun k => dgetM d k) := fun F1 H1 g1 Q q => by
  refine ha F1 H1 g1 _ ?_
  cases m1 with
  | ok d =>
    rintro F2 H2 vx g2 ⟨a, vs, e1, e2, e3⟩
    refine hb F2 H2 (g1.tr g2) _ ?_
    cases m2 with
    | ok k =>
      rintro F3 H3 vk g3 rfl
      have q' : Post ce (rv K) (dgetM d k) F1 H1 Q E := q
      unfold dgetM at q'
      split at q'
      · rename_i x hx
        obtain ⟨v, hv, r⟩ := (drel_look k (drel_mo g3.ff e3)).1 x hx
        refine ⟨a, v, e1, ?_, q' F3 H3 v (g2.tr g3) r⟩
        have := DGet.k (k := Sum.inl k) (g3.hh _ _ (g2.fh _ _ e2))
        rw [hv] at this
        exact this
      · exact q'.elim
    | er c => exact fun H' e => q H' (g2.hh.tr e)
    | bad => exact q
  | er c => exact q
  | bad => exact q
/-- d.get(k, x) -/
theorem em_dget2 {m1 : M (Dc α)} {m2 : M Int} {m3 : M α} (ha : Ev ce E td σ F H (rv K) m1) (hb : Ev ce E ty σ F H (rv K) m2) (hc : Ev ce E tx σ F H (rv K) m3) :
    Ev ce E (tDGet2 td ty tx) σ F H (rv K) (m1.bind fun d => m2.bind fun k => m3.bind fun x => .ok ((dlook k d.kvs).getD x)) := fun F1 H1 g1 Q q => by
  refine ha F1 H1 g1 _ ?_
  cases m1 with
  | ok d =>
    rintro F2 H2 vx g2 ⟨a, vs, e1, e2, e3⟩
    refine ⟨a, e1, .inl ⟨vs, .inl (g2.fh _ _ e2)⟩, hb F2 H2 (g1.tr g2) _ ?_⟩
    cases m2 with
    | ok k =>
      rintro F3 H3 vk g3 rfl
      refine hc F3 H3 ((g1.tr g2).tr g3) _ ?_
      cases m3 with
      | ok x =>
        intro F4 H4 v4 g4 r4
        refine ⟨_, DGet.k (k := Sum.inl k) (g4.hh _ _ (g3.hh _ _ (g2.fh _ _ e2))), ?_⟩
        have hl := drel_look k (drel_mo (g3.ff.tr g4.ff) e3)
        cases hd : dlook k d.kvs with
        | some y =>
          obtain ⟨v, hv, r⟩ := hl.1 y hd
          rw [hv]
          refine q F4 H4 v ((g2.tr g3).tr g4) ?_
          rw [hd]
          exact r
        | none =>
          rw [hl.2 hd]
          refine q F4 H4 v4 ((g2.tr g3).tr g4) ?_
          rw [hd]
          exact r4
      | er c => exact fun H' e => q H' ((g2.tr g3).hh.tr e)
      | bad => exact q
    | er c => exact fun H' e => q H' (g2.hh.tr e)
    | bad => exact q
  | er c => exact q
  | bad => exact q
/-- k in d, k not in d -/
theorem em_din {m1 : M (Dc α)} {m2 : M Int} (hb : Ev ce E ty σ F H (rv K) m2) (ha : Ev ce E td σ F H (rv K) m1) : Ev ce E (tDIn ty td) σ F H (rv K) (m2.bind fun k => m1.bind fun d => .ok (dlook k d.kvs).isSome) := fun F1 H1 g1 Q q => by
  refine hb F1 H1 g1 _ ?_
  cases m2 with
  | ok k =>
    rintro F2 H2 vk g2 rfl
    refine ha F2 H2 (g1.tr g2) _ ?_
    cases m1 with
    | ok d =>
      rintro F3 H3 vx g3 ⟨a, vs, e1, e2, e3⟩
      refine ⟨a, _, e1, DGet.k (k := Sum.inl k) (g3.fh _ _ e2), ?_⟩
      have hl := drel_look k e3
      refine q F3 H3 _ (g2.tr g3) ?_
      show V.bl _ = V.bl _
      cases hd : dlook k d.kvs with
      | some y =>
        obtain ⟨v, hv, r⟩ := hl.1 y hd
        rw [hv] <;> rfl
      | none => rw [hl.2 hd] <;> rfl
    | er c => exact fun H' e => q H' (g2.hh.tr e)
    | bad => exact q
  | er c => exact q
  | bad => exact q
theorem em_dnotin {m1 : M (Dc α)} {m2 : M Int} (hb : Ev ce E ty σ F H (rv K) m2) (ha : Ev ce E td σ F H (rv K) m1) : Ev ce E (tDNotIn ty td) σ F H (rv K) (m2.bind fun k => m1.bind fun d => .ok (!(dlook k d.kvs).isSome)) := fun F1 H1 g1 Q q => by
  refine hb F1 H1 g1 _ ?_
  cases m2 with
  | ok k =>
    rintro F2 H2 vk g2 rfl
    refine ha F2 H2 (g1.tr g2) _ ?_
    cases m1 with
    | ok d =>
      rintro F3 H3 vx g3 ⟨a, vs, e1, e2, e3⟩
      refine ⟨a, _, e1, DGet.k (k := Sum.inl k) (g3.fh _ _ e2), ?_⟩
      have hl := drel_look k e3
      refine q F3 H3 _ (g2.tr g3) ?_
      show V.bl _ = V.bl _
      cases hd : dlook k d.kvs with
      | some y =>
        obtain ⟨v, hv, r⟩ := hl.1 y hd
        rw [hv] <;> rfl
      | none => rw [hl.2 hd] <;> rfl
    | er c => exact fun H' e => q H' (g2.hh.tr e)
    | bad => exact q
  | er c => exact q
  | bad => exact q
noncomputable def dputM {α : Type} (d : Dc α) (k : Int) (x : α) : M (Dc α) := chk (d.kvs.length < 16000000) ⟨dput d.kvs k x⟩
/-- d[k] = e: the value first, then the key; both may read what is one's own -/
theorem s_dput (A : List Addr) {i : Nat} {p : Addr} {d : Dc α} {m1 : M α} {m2 : M Int} {k : Dc α → M τ} [Flat α] (hp : σ[i]? = some (some (.ref p))) (o : Own K F H p d) (n0 : H0 p = none) (G : Gr F0 H0 F H)
    (q : Wp ce E H0 (m1.bind fun x => m2.bind fun y => (dputM d y x).bind k) P) (hF : ∀ p ∈ A, F p = none) (hA : ∀ p ∈ A, ∃ o, H p = some o ∧ NoTup o) (h : Ev ce E te σ (fz F H A) H (rv K) m1) (hk : Ev ce E ty σ (fz F H A) H (rv K) m2)
    (c : ∀ d' F1 H1, Ex F F1 → Gr F0 H0 F1 H1 → Own K F1 H1 p d' → (∀ (T : Type) [Rep T] [Obj T] (q : Addr) (z : T), q ≠ p → Own K F H q z → Own K F1 H1 q z) → Wp ce E H0 (k d') P → D.nx σ H1) :
    sDPut (tVar i) ty te D σ H := by
  obtain ⟨⟨u, h1, vs, h2, h3⟩, hf⟩ := o
  subst h2
  have hA' : ∀ p ∈ A, H p ≠ none := fun p m => by obtain ⟨o, e, _⟩ := hA p m; rw [e]; exact fun z => nomatch z
  refine h _ H (Gr.rf (fz_h G.fh)) _ ?_
  cases m1 with
  | ok x =>
    intro F1 H1 v g0 r0
    refine ⟨.ref p, hp, hk F1 H1 g0 _ ?_⟩
    have q2 : Wp ce E H0 (m2.bind fun y => (dputM d y x).bind k) P := q
    cases m2 with
    | ok y =>
      rintro F2 H2 vy g1 rfl
      have gg := g0.tr g1
      have g := gr_th hF hA' G.fh gg
      have r : rp K (th F2 A) v x := Flat.fl (th_of hA gg) (Rep.mo g1.ff r0)
      have w' : Wp ce E H0 ((dputM d y x).bind k) P := q2
      unfold dputM chk at w'
      split at w'
      · rename_i hl
        refine ⟨p, _, rfl, DPut.k (k := Sum.inl y) (g.hh _ _ h1) ?_, ?_⟩
        · rw [drel_len h3, sizeLine_eq]; omega
        · have hf1 : th F2 A p = none := g.nw p hf (by rw [h1]; exact fun z => nomatch z)
          exact c _ _ _ g.ff (Gr.mut (G.tr g) n0 hf1) ⟨⟨_, upd_same, _, rfl, drel_put (drel_mo g.ff h3) r⟩, hf1⟩ (fun T _ _ q z hq o => (o.mo g).upd hq) w'
      · exact w'.elim
    | er cc => exact fun H' e => q2 H' ((G.hh.tr g0.hh).tr e)
    | bad => exact q2
  | er cc => exact fun H' e => q H' (G.hh.tr e)
  | bad => exact q
theorem q_asgO {t2 : TS} {i : Nat} {m1 : M T} {k : T → M τ} (G : Gr F0 H0 F H) (q : Wp ce E H0 (m1.bind k) P) (h : Ev ce E te σ F H (ro K) m1)
    (c : ∀ x F1 H1 p, Gr F H F1 H1 → H p = none → Own K F1 H1 p x → Wp ce E H0 (k x) P → t2 D (σ.set i (some (.ref p))) H1) : tSeq (tAsg te (gName i)) t2 D σ H := s_asgO (D := { D with nx := t2 D }) G q h c
theorem q_dput {t2 : TS} (A : List Addr) {i : Nat} {p : Addr} {d : Dc α} {m1 : M α} {m2 : M Int} {k : Dc α → M τ} [Flat α] (hp : σ[i]? = some (some (.ref p))) (o : Own K F H p d) (n0 : H0 p = none) (G : Gr F0 H0 F H)
    (q : Wp ce E H0 (m1.bind fun x => m2.bind fun y => (dputM d y x).bind k) P) (hF : ∀ p ∈ A, F p = none) (hA : ∀ p ∈ A, ∃ o, H p = some o ∧ NoTup o) (h : Ev ce E te σ (fz F H A) H (rv K) m1) (hk : Ev ce E ty σ (fz F H A) H (rv K) m2)
    (c : ∀ d' F1 H1, Ex F F1 → Gr F0 H0 F1 H1 → Own K F1 H1 p d' → (∀ (T : Type) [Rep T] [Obj T] (q : Addr) (z : T), q ≠ p → Own K F H q z → Own K F1 H1 q z) → Wp ce E H0 (k d') P → t2 D σ H1) :
    tSeq (sDPut (tVar i) ty te) t2 D σ H := s_dput (D := { D with nx := t2 D }) A hp o n0 G q hF hA h hk c
end
end Mw

set_option Elab.async false
set_option linter.all false
set_option maxRecDepth 100000
set_option maxHeartbeats 2000000
/-! Mw, part I: enumerate, zip, reversed; try and what a suite asks of the error. -/
namespace Mw
open PySem L2
open Rep (rp)
abbrev ixS (x : Scr) (i : Int) : M Int := ixM x.l i
def enumL {α : Type} (xs : List α) : List (Int × α) := xs.zipIdx.map fun p => ((p.2 : Int), p.1)
theorem enumL_get {α : Type} (xs : List α) (i : Nat) (p : Int × α) (h : (enumL xs)[i]? = some p) : p.1 = (i : Int) ∧ xs[i]? = some p.2 := by
  unfold enumL at h
  rw [List.getElem?_map, List.getElem?_zipIdx] at h
  cases e : xs[i]? with
  | none => rw [e] at h; cases h
  | some x =>
    rw [e] at h
    cases h
    exact ⟨by simp, rfl⟩
theorem enumL_len {α : Type} (xs : List α) : (enumL xs).length = xs.length := by unfold enumL; simp
theorem zip_get {α β : Type} (xs : List α) (ys : List β) (i : Nat) (p : α × β) (h : (xs.zip ys)[i]? = some p) : xs[i]? = some p.1 ∧ ys[i]? = some p.2 := by
  rw [List.getElem?_zip_eq_some] at h
  exact h
section
variable {ρ α β γ δ S τ : Type} [Rep α] [Rep β] [Rep γ] [Rep δ] {ce : Ce} {E : XK} {K : PySem.W.Frag} {σ : L2.St} {F H F' H' F0 H0 : Hp} {te ta tb tc td : TE} {tt tu : TT} {md : Md ρ} {m : M ρ} {D : Ends} {ts tw : TS} {g : TG} {wi : TI} {P : τ → Prop}
theorem ei_enum {m : M (List α)} (h : Ev ce E te σ F H (rv K) m) : EvI ce E K (iEnum K (tCons te tNil)) σ F H (m.bind fun x => .ok (enumL x)) := fun F1 H1 g1 R q => by
  refine h F1 H1 g1 _ ?_
  cases m with
  | ok xs =>
    rintro F2 H2 v g2 ⟨a, vs, rfl, h2, h3⟩
    refine ⟨a, vs, rfl, SqL.of (g2.fh _ _ h2), q F2 H2 _ g2 fun i H e => ?_⟩
    have hl := Paired.length h3
    refine ⟨fun x hx => ?_, fun hi => ⟨vs, SqL.of (e _ _ h2), by rw [enumL_len] at hi; omega⟩⟩
    obtain ⟨e1, e2⟩ := enumL_get xs i x hx
    obtain ⟨w, hw, rw'⟩ := paired_get h3 e2
    refine ⟨⟨vs, w, SqL.of (e _ _ h2), hw⟩, fun v H' ⟨T, y, ev, nT, eH, hy⟩ F1' f1 f2 => ?_⟩
    have : some w = some y := hw.symm.trans (hy vs (SqL.of (e _ _ h2)))
    cases this
    subst ev eH
    refine ⟨_, Gr.new f2 nT, T, .int (i : Nat), w, rfl, SqT.of upd_same, ?_, Rep.mo (f1.tr (Ex.nw (ex_back f2 nT))) rw'⟩
    show V.int _ = V.int _
    rw [e1]
  | er c => exact q
  | bad => exact q
theorem ei_zip {m : M (List α)} {m2 : M (List β)} (h : Ev ce E ta σ F H (rv K) m) (h' : Ev ce E tb σ F H (rv K) m2) : EvI ce E K (iZip K (tCons ta (tCons tb tNil))) σ F H (m.bind fun x => m2.bind fun y => .ok (x.zip y)) := fun F1 H1 g1 R q => by
  refine h F1 H1 g1 _ ?_
  cases m with
  | ok xs =>
    rintro F2 H2 v g2 ⟨a, vs, rfl, h2, h3⟩
    refine h' F2 H2 (g1.tr g2) _ ?_
    cases m2 with
    | ok ys =>
      rintro F3 H3 v g3 ⟨b, ws, rfl, k2, k3⟩
      have h2' := g3.ff _ _ h2
      refine ⟨a, b, vs, ws, rfl, SqL.of (g3.fh _ _ h2'), SqL.of (g3.fh _ _ k2), q F3 H3 _ (g2.tr g3) fun i H e => ?_⟩
      have hl := Paired.length h3
      have hl2 := Paired.length k3
      refine ⟨fun x hx => ?_, fun hi => ⟨vs, ws, SqL.of (e _ _ h2'), SqL.of (e _ _ k2), by rw [List.length_zip] at hi; omega⟩⟩
      obtain ⟨e1, e2⟩ := zip_get xs ys i x hx
      obtain ⟨w1, hw1, r1⟩ := paired_get h3 e1
      obtain ⟨w2, hw2, r2⟩ := paired_get k3 e2
      refine ⟨⟨vs, ws, w1, w2, SqL.of (e _ _ h2'), SqL.of (e _ _ k2), hw1, hw2⟩, fun v H' ⟨T, y1, y2, ev, nT, eH, hy1, hy2⟩ F1' f1 f2 => ?_⟩
      have z1 : some w1 = some y1 := hw1.symm.trans (hy1 vs (SqL.of (e _ _ h2')))
      have z2 : some w2 = some y2 := hw2.symm.trans (hy2 ws (SqL.of (e _ _ k2)))
      cases z1
      cases z2
      subst ev eH
      have ee := Ex.nw (o := .tup [w1, w2]) (ex_back f2 nT)
      exact ⟨_, Gr.new f2 nT, T, w1, w2, rfl, SqT.of upd_same, Rep.mo ((g3.ff.tr f1).tr ee) r1, Rep.mo (f1.tr ee) r2⟩
    | er c => exact fun H' e => q H' (g2.hh.tr e)
    | bad => exact q
  | er c => exact q
  | bad => exact q
theorem ei_rev {m : M (List α)} (h : Ev ce E te σ F H (rv K) m) : EvI ce E K (iRev K (tCons te tNil)) σ F H (m.bind fun x => .ok x.reverse) := fun F1 H1 g1 R q => by
  refine h F1 H1 g1 _ ?_
  cases m with
  | ok xs =>
    rintro F2 H2 v g2 ⟨a, vs, rfl, h2, h3⟩
    refine ⟨a, vs, rfl, SqL.of (g2.fh _ _ h2), q F2 H2 _ g2 fun i H e => ?_⟩
    have hl := Paired.length h3
    refine ⟨fun x hx => ?_, fun hi => by rw [List.length_reverse] at hi; show vs.length ≤ i; omega⟩
    have hi : i < xs.length := by
      have := (List.getElem?_eq_some_iff.mp hx).1
      rw [List.length_reverse] at this
      exact this
    rw [List.getElem?_reverse hi] at hx
    obtain ⟨w, hw, rw'⟩ := paired_get h3 hx
    have hw' : vs[vs.length - 1 - i]? = some w := by rw [hl]; exact hw
    refine ⟨⟨by omega, vs, w, SqL.of (e _ _ h2), hw'⟩, fun v H' ⟨eH, hy⟩ F1' f1 f2 => ?_⟩
    have : some w = some v := hw'.symm.trans (hy vs (SqL.of (e _ _ h2)))
    cases this
    subst eH
    exact ⟨_, Gr.rf f2, Rep.mo f1 rw'⟩
  | er c => exact q
  | bad => exact q

/-! ### try -/
def catchM {α τ : Type} (m : M α) (h : Err → M τ) (k : α → M τ) : M τ := match m with
  | .ok x => k x
  | .er c => h c
  | .bad => .bad
@[simp] theorem catch_ok {α τ : Type} (x : α) (h : Err → M τ) (k : α → M τ) : catchM (.ok x) h k = k x := rfl
@[simp] theorem catch_er {α τ : Type} (c : Err) (h : Err → M τ) (k : α → M τ) : catchM (.er c) h k = h c := rfl
theorem s_try {W : WX} {tb : WX → TS} {m : M α} {h : Err → M τ} {k : α → M τ} (q : Wp ce E H0 (catchM m h k) P) (hh : ∀ c H', Ex H H' → Wp ce E H0 (h c) P → W (.ref (ce c.name)) none σ H')
    (hb : ∀ P' : α → Prop, (∀ x, P' x → Wp ce E H0 (k x) P) → Wp ce (WE W σ) H m P' → tb W D σ H) : tb W D σ H := by
  refine hb (fun x => Wp ce E H0 (k x) P) (fun x p => p) ?_
  cases m with
  | ok x => exact q
  | er c => exact fun H' e => hh c H' e q
  | bad => exact q
/-- a call within a try's body -/
theorem e_callT [MdMo md] {W : WX} {ta : TA} {x : α} {R : Hp → List V → α → Prop} {f : α → M ρ} (ha : EvAM ce (WE W σ) ta σ F H (.ok x) R) : Ev ce (WE W σ) (tCallS (SpF ce R md f) (WE W) ta) σ F H md (f x) := fun F1 H1 g1 Q q =>
  ha F1 H1 g1 _ fun F2 H2 vs g2 r2 => ⟨F2, x, g2.fh, r2, Post.mo g2 q⟩
theorem em_callT [MdMo md] {W : WX} {ta : TA} {m1 : M α} {R : Hp → List V → α → Prop} {f : α → M ρ} (ha : EvAM ce (WE W σ) ta σ F H m1 R) : Ev ce (WE W σ) (tCallS (SpF ce R md f) (WE W) ta) σ F H md (m1.bind fun x => f x) := fun F1 H1 g1 Q q => by
  refine ha F1 H1 g1 _ ?_
  cases m1 with
  | ok x => exact fun F2 H2 vs g2 r2 => ⟨F2, x, g2.fh, r2, Post.mo g2 q⟩
  | er c => exact q
  | bad => exact q
/-- the suite's reading, for an error of a class C that isinstance may be asked of -/
def tsOf (K : PySem.W.Frag) (t1 : Addr → Addr → TS) : Addr → Value → Option Addr → TS := fun a cls d D σ H => ∃ C, cls = .ref C ∧ d = none ∧ ExcC K C ∧ t1 C a D σ H
theorem suite_by {X : Cx} {suite : List Stmt} {t1 : Addr → Addr → TS} (h : ∀ (C a : Addr) (oe : PySem.Obj) (pn : List (Addr × PySem.Obj)), ExcC X.K C → Zc (.ref C) none oe → (∃ vs, oe.data = .fields vs) → PSs (X.suite a ((a, oe) :: pn)) suite (t1 C a))
    (a : Addr) (oe : PySem.Obj) (cls : Value) (d : Option Addr) (pn : List (Addr × PySem.Obj)) (hz : Zc cls d oe) (hf : ∃ vs, oe.data = .fields vs) : PSs (X.suite a ((a, oe) :: pn)) suite (tsOf X.K t1 a cls d) := by
  refine ⟨fun pins s σ H D I hh => ?_⟩
  obtain ⟨C, rfl, rfl, ex, hh⟩ := hh
  exact (h C a oe pn ex hz hf).run pins s σ H D I hh
theorem e_isE {i : Nat} {C a : Addr} {c : V} {cv : Value} {b : Bool} (hs : σ[i]? = some (some (.ref a))) (hc : ∀ u, RelV c u → u = cv) (hk : PySem.W.kitOne K (.ref C) cv = some b) : Ev ce E (tCB (rIsE K C a) (tCons (tVar i) (tCons (tC c) tNil))) σ F H (rv K) (.ok b) := fun F1 H1 g1 Q q =>
  ⟨.ref a, hs, c, cv, b, rfl, hc, hk, q F1 H1 _ (Gr.rf g1.fh) rfl⟩
/-- isinstance(e, (c1, c2, ..)) -/
def rIsET (K : PySem.W.Frag) (D a : Addr) : List V → Hp → VK → Prop := fun xs H Q => ∃ (tp : Addr) (cs : List V) (us : List Value) (b : Bool), xs = [.ref a, .ref tp] ∧ H tp = some (.tup cs) ∧ Paired ClsV cs us ∧ PySem.W.kitAny K (.ref D) us = some b ∧ Q (.bl b) H
theorem call_isET {X : Cx} {a D : Addr} {oe : PySem.Obj} {pn : List (Addr × PySem.Obj)} (C : ExcC X.K D) (hz : Zc (.ref D) none oe) (hf : ∃ vs, oe.data = .fields vs) : CallR (X.suite a ((a, oe) :: pn)) (.builtin "isinstance") (rIsET X.K D a) := by
  intro pins s σ H xs us Q I r h
  obtain ⟨tp, cs, ws, b, rfl, hT, k, e, q⟩ := h
  obtain ⟨u1, u2, rfl, r1, r2⟩ := vals2 r
  cases (show u1 = Value.ref a from r1)
  cases (show u2 = Value.ref tp from r2)
  obtain ⟨hget, _⟩ := I.pin (a, oe) (List.mem_append.mpr (.inl List.mem_cons_self))
  obtain ⟨vs, hv⟩ := hf
  have J : PySem.W.InstAt s.heap a oe D none := by
    obtain ⟨oc, od, oda, osl⟩ := oe
    obtain ⟨h1, h2⟩ := hz
    dsimp only at h1 h2 hv
    subst h1 h2 hv
    exact ⟨hget, rfl, rfl, trivial⟩
  obtain ⟨_, its, rv, o, h1, h2, n, h3⟩ := (show ObjOk X.prog X.w H s.heap tp (.tup cs) from I.hok tp _ hT)
  have e3 := ClsV.all k rv
  subst e3
  obtain ⟨oc, od, dt, sl⟩ := o
  simp only at h2 h3
  subst h2 h3
  exact PySem.W.kia_tup (PySem.W.handS_kitx_exc C.hg C.hk C.hs C.hd C.ha C.hn C.ht C.hm) I.kIn J h1 e (fun z => nomatch z) fun tk => ⟨.bl b, H, I.kept (t' := tk) fun _ _ z => z, rfl, q⟩
theorem e_isE2 {i : Nat} {C a : Addr} {c c' : V} {cv cv' : Value} {b : Bool} (hs : σ[i]? = some (some (.ref a))) (h1 : ClsV c cv) (h2 : ClsV c' cv') (hk : PySem.W.kitAny K (.ref C) [cv, cv'] = some b) : Ev ce E (tCB (rIsET K C a) (tCons (tVar i) (tCons (tTup (tCons (tC c) (tCons (tC c') tNil))) tNil))) σ F H (rv K) (.ok b) := fun F1 H1 g1 Q q =>
  ⟨.ref a, hs, by show 2 ≤ sizeLine; decide, fun tp np => ⟨tp, [c, c'], [cv, cv'], b, rfl, upd_same, .cons h1 (.cons h2 .nil), hk, q _ _ _ (Gr.new g1.fh np) rfl⟩⟩
theorem e_isE3 {i : Nat} {C a : Addr} {c c' c2 : V} {cv cv' cv2 : Value} {b : Bool} (hs : σ[i]? = some (some (.ref a))) (h1 : ClsV c cv) (h2 : ClsV c' cv') (h3 : ClsV c2 cv2) (hk : PySem.W.kitAny K (.ref C) [cv, cv', cv2] = some b) : Ev ce E (tCB (rIsET K C a) (tCons (tVar i) (tCons (tTup (tCons (tC c) (tCons (tC c') (tCons (tC c2) tNil)))) tNil))) σ F H (rv K) (.ok b) := fun F1 H1 g1 Q q =>
  ⟨.ref a, hs, by show 3 ≤ sizeLine; decide, fun tp np => ⟨tp, [c, c', c2], [cv, cv', cv2], b, rfl, upd_same, .cons h1 (.cons h2 (.cons h3 .nil)), hk, q _ _ _ (Gr.new g1.fh np) rfl⟩⟩
end
/-- a def that may raise, where what it computes raises nothing -/
theorem fn_quiet {P : Program} {w : World} {K : PySem.W.Frag} {mg : Str → Option Value} {base : Heap} {k : Nat} {f : Addr} {fd : FuncData} {ps : List Str} {sp sp' : Sp} (F : FnOk P w K mg base (L2.CX P w) k f fd ps sp)
    (h : ∀ vs H Q E, sp' vs H Q E → sp vs H Q E0) : FnOk P w K mg base CX0 k f fd ps sp' :=
  ⟨fun vs H Q E q => F.len vs H Q E0 (h _ _ _ _ q), fun A outer s H args us vs Q E hr he hb hv hs => codeAny_mono (F.run A outer s H args us vs Q E0 hr he hb hv (h _ _ _ _ hs)) fun r s' x => by
    cases r with
    | error e =>
      obtain ⟨_, _, _, _, _, _, _, _, _, _, _, _, z⟩ := x
      exact z.elim
    | ok v => cases v <;> exact x⟩
end Mw

set_option Elab.async false
set_option linter.all false
set_option maxRecDepth 100000
set_option maxHeartbeats 2000000
/-! Mw, part J: slices with a step. -/
namespace L2
open PySem PySem.Spec PyProof.Rows
/-- the items of xs[lo:hi:st] -/
def pickV {α : Type} (xs : List α) (lo hi : Option Int) (st : Int) : List α :=
  (sliceRange (PySem.sliceBounds lo hi (some st) xs.length).1 (PySem.sliceBounds lo hi (some st) xs.length).2.1 (PySem.sliceBounds lo hi (some st) xs.length).2.2).filterMap (xs[·]?)
def rSlP (K : PySem.W.Frag) (st : Int) : V → Option Int → Option Int → Hp → VK → Prop := fun x lo hi H Q => ∃ a xs, x = .ref a ∧ SqL K H a xs ∧ ∀ p, H p = none → Q (.ref p) (upd H p (.lst (pickV xs lo hi st)))
theorem vals_pick {xs : List V} {its : List Value} (r : Vals xs its) : ∀ l : List Nat, Vals (l.filterMap (xs[·]?)) (l.filterMap (its[·]?))
  | [] => .nil
  | i :: l => by
    rw [List.filterMap_cons, List.filterMap_cons]
    have h : (xs[i]? = none ∧ its[i]? = none) ∨ ∃ x v, xs[i]? = some x ∧ its[i]? = some v ∧ RelV x v := by
      induction r generalizing i with
      | nil => exact .inl ⟨rfl, rfl⟩
      | cons h t ih =>
        cases i with
        | zero => exact .inr ⟨_, _, rfl, rfl, h⟩
        | succ j => exact ih j
    rcases h with ⟨h1, h2⟩ | ⟨x, v, h1, h2, h3⟩
    · rw [h1, h2]; exact vals_pick r l
    · rw [h1, h2]; exact .cons h3 (vals_pick r l)
section
variable {X : Cx} {e : Expr} {lo hi : Option Expr} {te : TE} {tl th : TO}
theorem pe_sliceS {st : Int} {k : Nat} {p1 p3 pos : Pos} (h0 : st ≠ 0) (he : PE X e te) (hl : PO X lo tl) (hu : PO X hi th) : PE X (.Subscript e (.Slice lo hi (some (.Constant (.int st) k p1)) p3) pos) (tSl (rSlP X.K st) te tl th) := by
  refine ⟨fun pins s σ H Q I h => ?_⟩
  refine Subscript_ (thn (he.run pins s σ H _ I h) fun v s1 ⟨x, H1, I1, r1, q1⟩ => ?_)
  have hst : PO X (some (.Constant (.int st) k p1)) (tPart (tC (.int st))) := po_some pe_int
  refine wpAny_Slice (thn (hl.run pins s1 σ H1 _ I1 q1) fun vl s2 ⟨l, H2, I2, pl, q2⟩ => thn (hu.run pins s2 σ H2 _ I2 q2) fun vu s3 ⟨u, H3, I3, pu, q3⟩ => ?_)
  obtain ⟨a, xs, ex, hx, q⟩ := q3
  subst ex
  cases r1
  refine thn (hst.run pins s3 σ H3 (fun o H4 => o = some st ∧ H4 = H3) I3 ⟨st, rfl, rfl, rfl⟩) fun vs s4 ⟨o, H4, I4, ps, eo, e4⟩ => ?_
  subst eo e4
  have I5 : Inv X pins σ H4 { s4 with heap := s4.heap.push { cls := .type "slice", data := .fields #[vl, vu, vs] } } := I4.kept (t' := s4.toks) fun b ob q => Heap.get?_push_of_some _ q
  obtain ⟨its, r, ht, hz⟩ := I5.list hx
  have hlen := r.length
  show wpAny (model X.prog X.w) X.A (subscriptTail e (.Slice lo hi (some (.Constant (.int st) k p1)) p3) (.ref a) (.ref s4.heap.objs.size)) (EP X pins σ Q) X.xe { s4 with heap := s4.heap.push { cls := .type "slice", data := .fields #[vl, vu, vs] } }
  refine tail_any (ops := [.ref a, .ref s4.heap.objs.size]) ht.isList.typeIs (PySem.slot_list_getitem.lookup) ?_ (by with_unfolding_all rfl)
  refine wpAny_getItem_list_slice ht.isList (Heap.IsSliceOf.new _ vl vu vs) pl pu ps (fun z => h0 (Option.some.inj z)) ?_ (by rw [List.size_toArray]; omega)
  have e1 : slicePick its.toArray l u (some st) = (pickV its l u st).toArray := by
    unfold slicePick pickV
    simp
  rw [e1]
  have r2 : Vals (pickV xs l u st) (pickV its l u st) := by
    unfold pickV
    rw [hlen]
    exact vals_pick r _
  have hle : (pickV xs l u st).length ≤ sizeLine := by
    have := slicePick_size_le its.toArray l u (some st)
    rw [e1, List.size_toArray, List.size_toArray, ← r2.length] at this
    omega
  exact ⟨.ref _, _, I5.laid (t' := s4.toks) (o := .lst (pickV xs l u st)) (fun b ob q => Heap.get?_push_of_some _ q) (Nat.le_refl _) ⟨hle, _, 0, r2, Heap.get?_push_size _ rfl⟩, rfl, q _ (I5.hok.fresh (Nat.le_refl _))⟩
end
end L2
namespace Mw
open PySem L2
open Rep (rp)
theorem paired_pick {α β : Type} {F : α → β → Prop} {vs : List α} {xs : List β} (r : Paired F vs xs) (lo hi : Option Int) (st : Int) : Paired F (pickV vs lo hi st) (pickV xs lo hi st) := by
  unfold pickV
  rw [Paired.length r]
  have go : ∀ l : List Nat, Paired F (l.filterMap (vs[·]?)) (l.filterMap (xs[·]?)) := by
    intro l
    induction l with
    | nil => exact .nil
    | cons i l ih =>
      rw [List.filterMap_cons, List.filterMap_cons]
      cases e : xs[i]? with
      | some x =>
        obtain ⟨w, hw, rw'⟩ := paired_get r e
        rw [hw]
        exact .cons rw' ih
      | none =>
        have : vs[i]? = none := by
          rw [List.getElem?_eq_none_iff] at e ⊢
          have := Paired.length r
          omega
        rw [this]
        exact ih
  exact go _
section
variable {ρ α β γ δ S τ : Type} [Rep α] [Rep β] [Rep γ] [Rep δ] {ce : Ce} {E : XK} {K : PySem.W.Frag} {σ : L2.St} {F H F' H' F0 H0 : Hp} {te ta tb tc td : TE} {md : Md ρ} {m : M ρ}
theorem em_pk {tl th : TO} {st : Int} {m1 : M (List α)} {m2 m3 : M (Option Int)} (ha : Ev ce E ta σ F H (rv K) m1) (hl : EvO ce E tl σ F H m2) (hh : EvO ce E th σ F H m3) :
    Ev ce E (tSl (rSlP K st) ta tl th) σ F H (rn K) (m1.bind fun x => m2.bind fun lo => m3.bind fun hi => .ok (pickV x lo hi st)) := fun F1 H1 g1 Q q => by
  refine ha F1 H1 g1 _ ?_
  cases m1 with
  | ok x =>
    rintro F2 H2 vx g2 ⟨a, vs, e1, e2, e3⟩
    refine hl F2 H2 (g1.tr g2) _ ?_
    cases m2 with
    | ok lo =>
      intro F3 H3 g3
      refine hh F3 H3 ((g1.tr g2).tr g3) _ ?_
      cases m3 with
      | ok hi =>
        intro F4 H4 g4
        refine ⟨a, vs, e1, SqL.of (g4.hh _ _ (g3.hh _ _ (g2.fh _ _ e2))), fun p np => ?_⟩
        exact q F4 _ _ (((g2.tr g3).tr g4).tr (Gr.own g4.fh np)) ⟨p, _, rfl, ex_back ((g2.hh.tr g3.hh).tr g4.hh) np, ex_back g4.fh np, upd_same, paired_pick (paired_mo (g3.ff.tr g4.ff) e3) lo hi st⟩
      | er c => exact fun H' e => q H' ((g2.tr g3).hh.tr e)
      | bad => exact q
    | er c => exact fun H' e => q H' (g2.hh.tr e)
    | bad => exact q
  | er c => exact q
  | bad => exact q
theorem em_pkS {tl th : TO} {st : Int} {x : Scr} {m2 m3 : M (Option Int)} (ha : Ev ce E ta σ F H (rv K) (.ok x)) (hl : EvO ce E tl σ F H m2) (hh : EvO ce E th σ F H m3) :
    Ev ce E (tSl (rSlP K st) ta tl th) σ F H (rn K) (m2.bind fun lo => m3.bind fun hi => .ok (pickV x.l lo hi st)) := fun F1 H1 g1 Q q => by
  refine ha F1 H1 g1 _ ?_
  rintro F2 H2 vx g2 ⟨a, e1, e2⟩
  refine hl F2 H2 (g1.tr g2) _ ?_
  cases m2 with
  | ok lo =>
    intro F3 H3 g3
    refine hh F3 H3 ((g1.tr g2).tr g3) _ ?_
    cases m3 with
    | ok hi =>
      intro F4 H4 g4
      refine ⟨a, _, e1, ex_l ((g2.fh.tr g3.hh).tr g4.hh) e2, fun p np => ?_⟩
      exact q F4 _ _ (((g2.tr g3).tr g4).tr (Gr.own g4.fh np)) ⟨p, _, rfl, ex_back ((g2.hh.tr g3.hh).tr g4.hh) np, ex_back g4.fh np, upd_same, paired_pick (rep_int x.l) lo hi st⟩
    | er c => exact fun H' e => q H' ((g2.tr g3).hh.tr e)
    | bad => exact q
  | er c => exact fun H' e => q H' (g2.hh.tr e)
  | bad => exact q
theorem pick_sub {α : Type} {xs : List α} {lo hi : Option Int} {st : Int} {x : α} (h : x ∈ pickV xs lo hi st) : x ∈ xs := by
  unfold pickV at h
  obtain ⟨i, _, hi⟩ := List.mem_filterMap.mp h
  exact List.mem_of_getElem? hi
end
end Mw

set_option Elab.async false
set_option linter.all false
set_option maxRecDepth 100000
set_option maxHeartbeats 2000000
/-! Mw, part K: try, as statements of the walk. -/
namespace Mw
open PySem L2
open Rep (rp)
def tTryAs (tb : WX → TS) (K : PySem.W.Frag) (c : Value) (i : Nat) (ts : Addr → Value → Option Addr → TS) (Wout : WX) : TS := fun D σ H => tb (wAs K c i ts Wout D) D σ H
def tTryOn (tb : WX → TS) (K : PySem.W.Frag) (c : Value) (ts : Addr → Value → Option Addr → TS) (Wout : WX) : TS := fun D σ H => tb (wOnly K c ts Wout D) D σ H
section
variable {X : Cx} {x n : Str} {c : Value} {i : Nat} {body suite : List Stmt} {b₀ : Stmt} {np pos pos' : Pos} {tb : WX → TS} {ts : Addr → Value → Option Addr → TS} {Wout : WX}
theorem ps_tryA (hs : X.stack = X.env :: X.outer) (hf : X.env.frame = some X.env.locals) (hN : X.N.Nodup) (hi : X.N[i]? = some n) (hln : X.env.kindOf n = some .local) (hc : Names X x c) (tk : Takes X Wout)
    (hb : ∀ (W : WX) (pn : List (Addr × PySem.Obj)) (xe : Value → Shared → Prop), Takes (X.tr pn xe) W → PassesOwn (model X.prog X.w) X.A X.env xe → PSs (X.tr pn xe) body (tb W))
    (hsu : ∀ (a : Addr) (oe : PySem.Obj) (cls : Value) (d : Option Addr) (pn : List (Addr × PySem.Obj)), Zc cls d oe → (∃ vs, oe.data = .fields vs) → PSs (X.suite a ((a, oe) :: pn)) (b₀ :: suite) (ts a cls d)) :
    PS X (.Try body [.ExceptHandler (some (.Name x np)) (some n) (b₀ :: suite) pos'] [] [] pos) (tTryAs tb X.K c i ts Wout) := ps_try_as hs hf hN hi hln hc tk hb hsu
theorem ps_tryO (hs : X.stack = X.env :: X.outer) (hf : X.env.frame = some X.env.locals) (hc : Names X x c) (tk : Takes X Wout)
    (hb : ∀ (W : WX) (pn : List (Addr × PySem.Obj)) (xe : Value → Shared → Prop), Takes (X.tr pn xe) W → PassesOwn (model X.prog X.w) X.A X.env xe → PSs (X.tr pn xe) body (tb W))
    (hsu : ∀ (a : Addr) (oe : PySem.Obj) (cls : Value) (d : Option Addr) (pn : List (Addr × PySem.Obj)), Zc cls d oe → (∃ vs, oe.data = .fields vs) → PSs (X.suite a ((a, oe) :: pn)) (b₀ :: suite) (ts a cls d)) :
    PS X (.Try body [.ExceptHandler (some (.Name x np)) none (b₀ :: suite) pos'] [] [] pos) (tTryOn tb X.K c ts Wout) := ps_try_only hs hf hc tk hb hsu
end
section
variable {ρ α β S τ Z : Type} [Rep α] {ce : Ce} {E : XK} {K : PySem.W.Frag} {σ : L2.St} {F H F0 H0 : Hp} {md : Md ρ} {D : Ends} {P : τ → Prop} {tb : WX → TS} {t1 : Addr → Addr → TS} {ts : Addr → Value → Option Addr → TS} {cv : Value} {i : Nat} {Wout : WX}
theorem Gr.er {F H F' H' H2 : Hp} (g : Gr F H F' H') (e : Ex H' H2) : Gr F H F' H2 := ⟨g.ff, g.fh.tr e, g.hh.tr e, fun b a c => g.nw b a c⟩
theorem Own.er {T : Type} [Rep T] [Obj T] {H2 : Hp} {p : Addr} {x : T} (o : Own K F H p x) (e : Ex H H2) : Own K F H2 p x := by
  obtain ⟨⟨u, h1, h2⟩, f⟩ := o
  exact ⟨⟨u, e _ _ h1, h2⟩, f⟩
theorem rn_up {α : Type} [Rep α] {F F1 H1 : Hp} {v : V} {r : List α} (hh : Ex H0 H) (m : rn K F H F1 H1 v r) : rn K F0 H0 F1 H1 v r := by
  obtain ⟨p, vs, h1, h2, h3⟩ := m
  exact ⟨p, vs, h1, ex_back hh h2, h3⟩
theorem s_tryAs {α : Type} (sl : Z → L2.St) (J : α → Hp → Hp → L2.St → Prop) {m : M α} {h : Err → M τ} {k : α → M τ} (q : Wp ce E H0 (catchM m h k) P)
    (hh : ∀ c H' z, Ex H H' → Wp ce E H0 (h c) P → wAs K cv i (tsOf K t1) Wout D (.ref (ce c.name)) none (sl z) H')
    (h1 : ∀ x F1 H1 σ1, J x F1 H1 σ1 → Wp ce E H0 (k x) P → D.nx σ1 H1)
    (hb : ∀ (E' : XK) (P' : α → Prop), (∀ cls d H', E' cls d H' → ∀ z, wAs K cv i (tsOf K t1) Wout D cls d (sl z) H') → (∀ x, P' x → Wp ce E H0 (k x) P) → (∀ x, P' x → ∀ F1 H1 σ1, J x F1 H1 σ1 → D.nx σ1 H1) → Wp ce E' H m P' →
      tb (wAs K cv i (tsOf K t1) Wout D) D σ H) : tTryAs tb K cv i (tsOf K t1) Wout D σ H := by
  refine hb (fun cls d H' => ∀ z, wAs K cv i (tsOf K t1) Wout D cls d (sl z) H') (fun x => Wp ce E H0 (k x) P) (fun _ _ _ e => e) (fun _ p => p) (fun x p F1 H1 σ1 j => h1 x F1 H1 σ1 j p) ?_
  cases m with
  | ok x => exact q
  | er c => exact fun H' e z => hh c H' z e q
  | bad => exact q
theorem s_tryOn {α : Type} (sl : Z → L2.St) (J : α → Hp → Hp → L2.St → Prop) {m : M α} {h : Err → M τ} {k : α → M τ} (q : Wp ce E H0 (catchM m h k) P)
    (hh : ∀ c H' z, Ex H H' → Wp ce E H0 (h c) P → wOnly K cv ts Wout D (.ref (ce c.name)) none (sl z) H')
    (h1 : ∀ x F1 H1 σ1, J x F1 H1 σ1 → Wp ce E H0 (k x) P → D.nx σ1 H1)
    (hb : ∀ (E' : XK) (P' : α → Prop), (∀ cls d H', E' cls d H' → ∀ z, wOnly K cv ts Wout D cls d (sl z) H') → (∀ x, P' x → Wp ce E H0 (k x) P) → (∀ x, P' x → ∀ F1 H1 σ1, J x F1 H1 σ1 → D.nx σ1 H1) → Wp ce E' H m P' →
      tb (wOnly K cv ts Wout D) D σ H) : tTryOn tb K cv ts Wout D σ H := by
  refine hb (fun cls d H' => ∀ z, wOnly K cv ts Wout D cls d (sl z) H') (fun x => Wp ce E H0 (k x) P) (fun _ _ _ e => e) (fun _ p => p) (fun x p F1 H1 σ1 j => h1 x F1 H1 σ1 j p) ?_
  cases m with
  | ok x => exact q
  | er c => exact fun H' e z => hh c H' z e q
  | bad => exact q
theorem q_tryAs {t2 : TS} {α : Type} (sl : Z → L2.St) (J : α → Hp → Hp → L2.St → Prop) {m : M α} {h : Err → M τ} {k : α → M τ} (q : Wp ce E H0 (catchM m h k) P)
    (hh : ∀ c H' z, Ex H H' → Wp ce E H0 (h c) P → wAs K cv i (tsOf K t1) Wout { D with nx := t2 D } (.ref (ce c.name)) none (sl z) H')
    (h1 : ∀ x F1 H1 σ1, J x F1 H1 σ1 → Wp ce E H0 (k x) P → t2 D σ1 H1)
    (hb : ∀ (E' : XK) (P' : α → Prop), (∀ cls d H', E' cls d H' → ∀ z, wAs K cv i (tsOf K t1) Wout { D with nx := t2 D } cls d (sl z) H') → (∀ x, P' x → Wp ce E H0 (k x) P) → (∀ x, P' x → ∀ F1 H1 σ1, J x F1 H1 σ1 → t2 D σ1 H1) → Wp ce E' H m P' →
      tb (wAs K cv i (tsOf K t1) Wout { D with nx := t2 D }) { D with nx := t2 D } σ H) : tSeq (tTryAs tb K cv i (tsOf K t1) Wout) t2 D σ H := s_tryAs (D := { D with nx := t2 D }) sl J q hh h1 hb
theorem q_tryOn {t2 : TS} {α : Type} (sl : Z → L2.St) (J : α → Hp → Hp → L2.St → Prop) {m : M α} {h : Err → M τ} {k : α → M τ} (q : Wp ce E H0 (catchM m h k) P)
    (hh : ∀ c H' z, Ex H H' → Wp ce E H0 (h c) P → wOnly K cv ts Wout { D with nx := t2 D } (.ref (ce c.name)) none (sl z) H')
    (h1 : ∀ x F1 H1 σ1, J x F1 H1 σ1 → Wp ce E H0 (k x) P → t2 D σ1 H1)
    (hb : ∀ (E' : XK) (P' : α → Prop), (∀ cls d H', E' cls d H' → ∀ z, wOnly K cv ts Wout { D with nx := t2 D } cls d (sl z) H') → (∀ x, P' x → Wp ce E H0 (k x) P) → (∀ x, P' x → ∀ F1 H1 σ1, J x F1 H1 σ1 → t2 D σ1 H1) → Wp ce E' H m P' →
      tb (wOnly K cv ts Wout { D with nx := t2 D }) { D with nx := t2 D } σ H) : tSeq (tTryOn tb K cv ts Wout) t2 D σ H := s_tryOn (D := { D with nx := t2 D }) sl J q hh h1 hb
theorem was_yes {A : Addr} (hx : PySem.W.exmOne K (.ref A) cv = some true) (hc : ExcC K A)
    (h : ∀ a, H a = none → t1 A a { nx := fun σ' H' => D.nx (σ'.set i none) H', rt := D.rt, bk := fun σ' H' => D.bk (σ'.set i none) H', ct := fun σ' H' => D.ct (σ'.set i none) H' } (σ.set i (some (.ref a))) H) :
    wAs K cv i (tsOf K t1) Wout D (.ref A) none σ H := ⟨true, hx, fun _ a na => ⟨A, rfl, rfl, hc, h a na⟩, fun z => nomatch z⟩
theorem wonly_yes {A : Addr} {t : TS} (hx : PySem.W.exmOne K (.ref A) cv = some true) (h : t D σ H) : wOnly K cv (fun _ _ _ => t) Wout D (.ref A) none σ H := ⟨true, hx, fun _ a na => h, fun z => nomatch z⟩
/-- a call that may raise, within a try -/
theorem e_callU [MdMo md] {α : Type} {E' : XK} {W : WX} {ta : TA} {x : α} {R : Hp → List V → α → Prop} {f : α → M ρ} (hE : ∀ cls d H', E' cls d H' → W cls d σ H') (ha : EvAM ce E' ta σ F H (.ok x) R) : Ev ce E' (tCallS (SpF ce R md f) (WE W) ta) σ F H md (f x) := fun F1 H1 g1 Q q =>
  ha F1 H1 g1 _ fun F2 H2 vs g2 r2 => ⟨F2, x, g2.fh, r2, by
    have q' := Post.mo g2 q
    cases hm : f x with
    | ok r => rw [hm] at q'; exact q'
    | er c => rw [hm] at q'; exact fun H' e => hE _ _ _ (q' H' e)
    | bad => rw [hm] at q'; exact q'⟩
theorem em_callU [MdMo md] {α : Type} {E' : XK} {W : WX} {ta : TA} {m1 : M α} {R : Hp → List V → α → Prop} {f : α → M ρ} (hE : ∀ cls d H', E' cls d H' → W cls d σ H') (ha : EvAM ce E' ta σ F H m1 R) : Ev ce E' (tCallS (SpF ce R md f) (WE W) ta) σ F H md (m1.bind fun x => f x) := fun F1 H1 g1 Q q => by
  refine ha F1 H1 g1 _ ?_
  cases m1 with
  | ok x =>
    exact fun F2 H2 vs g2 r2 => ⟨F2, x, g2.fh, r2, by
      have q' := Post.mo g2 q
      cases hm : f x with
      | ok r => have e : (M.ok x : M α).bind (fun x => f x) = .ok r := hm; rw [e] at q'; exact q'
      | er c => have e : (M.ok x : M α).bind (fun x => f x) = .er c := hm; rw [e] at q'; exact fun H' e => hE _ _ _ (q' H' e)
      | bad => have e : (M.ok x : M α).bind (fun x => f x) = .bad := hm; rw [e] at q'; exact q'⟩
  | er c => exact q
  | bad => exact q
theorem wp_pos {c : Prop} [Decidable c] {m1 m2 : M τ} (h : c) (w : Wp ce E H0 (if c then m1 else m2) P) : Wp ce E H0 m1 P := by rwa [if_pos h] at w
theorem wp_neg {c : Prop} [Decidable c] {m1 m2 : M τ} (h : ¬ c) (w : Wp ce E H0 (if c then m1 else m2) P) : Wp ce E H0 m2 P := by rwa [if_neg h] at w
end
/-! ### what isinstance and except ask of classes -/
theorem kit_own {K : PySem.W.Frag} {A T : Addr} {b : Bool} (hd : PySem.W.hasDictIn K T = true) (ht : PySem.W.typeIn K (.ref T) = some (.type "type")) (hs : PySem.W.subIn K (.ref A) (.ref T) = some b) (hb : (A == T) = true → b = true) : PySem.W.kitOne K (.ref A) (.ref T) = some b := by
  obtain ⟨cd, hc, _⟩ := PySem.W.any_some hd
  unfold PySem.W.kitOne
  by_cases e : (Value.ref A == Value.ref T) = true
  · rw [if_pos e, hb (by
      have := beq_iff_eq.mp e
      cases this
      exact beq_self_eq_true A)]
  · rw [if_neg e]
    show (if ((PySem.W.clsIn K T).isSome && PySem.W.typeIn K (.ref T) == some (.type "type")) = true then PySem.W.subIn K (.ref A) (.ref T) else none) = some b
    rw [if_pos (by rw [hc, ht]; rfl)]
    exact hs
theorem kit_bt {K : PySem.W.Frag} {A : Addr} {T : String} {b : Bool} (hm : PySem.W.kitMeta T = true) (hs : PySem.W.subIn K (.ref A) (.type T) = some b) : PySem.W.kitOne K (.ref A) (.type T) = some b := by
  unfold PySem.W.kitOne
  have e : ¬ (Value.ref A == Value.type T) = true := fun z => by
    have := beq_iff_eq.mp z
    cases this
  rw [if_neg e]
  show (if PySem.W.kitMeta T = true then PySem.W.subIn K (.ref A) (.type T) else none) = some b
  rw [if_pos hm]
  exact hs
end Mw

set_option Elab.async false
set_option linter.all false
set_option maxRecDepth 100000
set_option maxHeartbeats 2000000
/-! Mw, part L: all, any. -/
namespace Mw
open PySem L2
open Rep (rp)
section
variable {ρ α β : Type} [Rep α] {ce : Ce} {E : XK} {K : PySem.W.Frag}
theorem paired_bool {H : Hp} : ∀ {vs : List V} {xs : List Bool}, Paired (rp K H) vs xs → vs = xs.map V.bl
  | _, _, .nil => rfl
  | _, _, .cons h t => by
    cases h
    rw [paired_bool t]
    rfl
theorem a_all {xs : List Bool} : OpA ce E (RC K R0) (rAll K) (rv K) (xs, ()) (.ok (xs.all id)) := fun F1 H1 vs e ⟨v, r, e1, ⟨a, us, h1, h2, h3⟩, e3⟩ Q q => by
  cases e3
  subst e1 h1
  have := paired_bool h3
  subst this
  exact ⟨a, xs, rfl, SqL.of (e _ _ h2), q _ _ _ (Gr.rf e) rfl⟩
theorem a_any {xs : List Bool} : OpA ce E (RC K R0) (rAny K) (rv K) (xs, ()) (.ok (xs.any id)) := fun F1 H1 vs e ⟨v, r, e1, ⟨a, us, h1, h2, h3⟩, e3⟩ Q q => by
  cases e3
  subst e1 h1
  have := paired_bool h3
  subst this
  exact ⟨a, xs, rfl, SqL.of (e _ _ h2), q _ _ _ (Gr.rf e) rfl⟩
end
noncomputable def setM {α : Type} (xs : List α) (i : Int) (x : α) : M (List α) := match ixN xs.length i with
  | some j => .ok (xs.set j x)
  | none => .bad
noncomputable def insM {α : Type} (xs : List α) (i : Int) (x : α) : M (List α) := chk (xs.length < 16000000 ∧ 0 ≤ i ∧ i < 2 ^ 63) (xs.take i.toNat ++ [x] ++ xs.drop i.toNat)
noncomputable def popAtM {α : Type} (xs : List α) (i : Int) : M (List α) := match seqIndex? i xs.length with
  | some j => chk (-(2 ^ 63) ≤ i ∧ i < 2 ^ 63 ∧ j < xs.length) (xs.eraseIdx j)
  | none => .bad
theorem paired_setA {α β : Type} {F : α → β → Prop} {v : α} {x : β} (h : F v x) : ∀ {vs : List α} {xs : List β} (j : Nat), Paired F vs xs → Paired F (vs.set j v) (xs.set j x)
  | _, _, _, .nil => .nil
  | _, _, 0, .cons _ t => .cons h t
  | _, _, j + 1, .cons a t => .cons a (paired_setA h j t)
theorem paired_erase {α β : Type} {F : α → β → Prop} : ∀ {vs : List α} {xs : List β} (j : Nat), Paired F vs xs → Paired F (vs.eraseIdx j) (xs.eraseIdx j)
  | _, _, _, .nil => .nil
  | _, _, 0, .cons _ t => t
  | _, _, j + 1, .cons a t => .cons a (paired_erase j t)
def rIns : V → List V → Hp → VK → Prop := fun x vs H Q => ∃ (l : Addr) (xs : List V) (i : Int) (y : V), x = .ref l ∧ vs = [.int i, y] ∧ H l = some (.lst xs) ∧ xs.length < sizeLine ∧ 0 ≤ i ∧ i < 2 ^ 63 ∧ Q .non (upd H l (.lst (xs.take i.toNat ++ [y] ++ xs.drop i.toNat)))
section
variable {τ α : Type} [Rep α] {ce : Ce} {E : XK} {K : PySem.W.Frag} {σ : L2.St} {F H F0 H0 : Hp} {te ti : TE} {D : Ends} {P : τ → Prop}
theorem s_setl (A : List Addr) {i : Nat} {p : Addr} {xs : List α} {m1 : M α} {m2 : M Int} {k : List α → M τ} [Flat α] (hp : σ[i]? = some (some (.ref p))) (o : Own K F H p xs) (n0 : H0 p = none) (G : Gr F0 H0 F H)
    (q : Wp ce E H0 (m1.bind fun x => m2.bind fun y => (setM xs y x).bind k) P) (hF : ∀ p ∈ A, F p = none) (hA : ∀ p ∈ A, ∃ o, H p = some o ∧ NoTup o) (h : Ev ce E te σ (fz F H A) H (rv K) m1) (hk : Ev ce E ti σ (fz F H A) H (rv K) m2)
    (c : ∀ ys F1 H1, Ex F F1 → Gr F0 H0 F1 H1 → Own K F1 H1 p ys → (∀ (T : Type) [Rep T] [Obj T] (q : Addr) (z : T), q ≠ p → Own K F H q z → Own K F1 H1 q z) → Wp ce E H0 (k ys) P → D.nx σ H1) :
    tAsg te (gSub (tVar i) ti rSetL) D σ H := by
  obtain ⟨vs, h1, h2⟩ := o.lst
  have hf := o.f
  have hA' : ∀ p ∈ A, H p ≠ none := fun p m => by obtain ⟨o, e, _⟩ := hA p m; rw [e]; exact fun z => nomatch z
  refine h _ H (Gr.rf (fz_h G.fh)) _ ?_
  cases m1 with
  | ok x =>
    intro F1 H1 v g0 r0
    refine ⟨.ref p, hp, hk F1 H1 g0 _ ?_⟩
    have q2 : Wp ce E H0 (m2.bind fun y => (setM xs y x).bind k) P := q
    cases m2 with
    | ok y =>
      rintro F2 H2 vy g1 rfl
      have gg := g0.tr g1
      have g := gr_th hF hA' G.fh gg
      have r : rp K (th F2 A) v x := Flat.fl (th_of hA gg) (Rep.mo g1.ff r0)
      have w' : Wp ce E H0 ((setM xs y x).bind k) P := q2
      unfold setM at w'
      split at w'
      · rename_i j hj
        rw [← Paired.length h2] at hj
        have hf1 : th F2 A p = none := g.nw p hf (by rw [h1]; exact fun z => nomatch z)
        exact ⟨p, vs, y, j, rfl, rfl, g.hh _ _ h1, hj, c _ _ _ g.ff (Gr.mut (G.tr g) n0 hf1) (own_new hf1 upd_same (paired_setA r j (paired_mo g.ff h2))) (fun T _ _ q z hq o => (o.mo g).upd hq) w'⟩
      · exact w'.elim
    | er cc => exact fun H' e => q2 H' ((G.hh.tr g0.hh).tr e)
    | bad => exact q2
  | er cc => exact fun H' e => q H' (G.hh.tr e)
  | bad => exact q
theorem s_insl (A : List Addr) {i : Nat} {p : Addr} {xs : List α} {m1 : M Int} {m2 : M α} {k : List α → M τ} [Flat α] (hp : σ[i]? = some (some (.ref p))) (o : Own K F H p xs) (n0 : H0 p = none) (G : Gr F0 H0 F H)
    (q : Wp ce E H0 (m1.bind fun y => m2.bind fun x => (insM xs y x).bind k) P) (hF : ∀ p ∈ A, F p = none) (hA : ∀ p ∈ A, ∃ o, H p = some o ∧ NoTup o) (hk : Ev ce E ti σ (fz F H A) H (rv K) m1) (h : Ev ce E te σ (fz F H A) H (rv K) m2)
    (c : ∀ ys F1 H1, Ex F F1 → Gr F0 H0 F1 H1 → Own K F1 H1 p ys → (∀ (T : Type) [Rep T] [Obj T] (q : Addr) (z : T), q ≠ p → Own K F H q z → Own K F1 H1 q z) → Wp ce E H0 (k ys) P → D.nx σ H1) :
    tDrop (tBM K "list" rIns (tVar i) (tCons ti (tCons te tNil))) D σ H := by
  obtain ⟨vs, h1, h2⟩ := o.lst
  have hf := o.f
  have hA' : ∀ p ∈ A, H p ≠ none := fun p m => by obtain ⟨o, e, _⟩ := hA p m; rw [e]; exact fun z => nomatch z
  refine ⟨.ref p, hp, .inl ⟨rfl, vs, SqL.of h1⟩, hk _ H (Gr.rf (fz_h G.fh)) _ ?_⟩
  cases m1 with
  | ok y =>
    rintro F1 H1 vy g0 rfl
    refine h F1 H1 g0 _ ?_
    have q2 : Wp ce E H0 (m2.bind fun x => (insM xs y x).bind k) P := q
    cases m2 with
    | ok x =>
      intro F2 H2 v g1 r0
      have gg := g0.tr g1
      have g := gr_th hF hA' G.fh gg
      have r : rp K (th F2 A) v x := Flat.fl (th_of hA gg) r0
      have w' : Wp ce E H0 ((insM xs y x).bind k) P := q2
      unfold insM chk at w'
      split at w'
      · rename_i hc
        have hf1 : th F2 A p = none := g.nw p hf (by rw [h1]; exact fun z => nomatch z)
        refine ⟨p, vs, y, v, rfl, rfl, g.hh _ _ h1, by rw [Paired.length h2, sizeLine_eq]; omega, hc.2.1, hc.2.2, ?_⟩
        have pm := paired_mo (K := K) g.ff h2
        exact c _ _ _ g.ff (Gr.mut (G.tr g) n0 hf1) (own_new hf1 upd_same (paired_app (paired_app (paired_take _ pm) (.cons r .nil)) (paired_drop _ pm))) (fun T _ _ q z hq o => (o.mo g).upd hq) w'
      · exact w'.elim
    | er cc => exact fun H' e => q2 H' ((G.hh.tr g0.hh).tr e)
    | bad => exact q2
  | er cc => exact fun H' e => q H' (G.hh.tr e)
  | bad => exact q
theorem s_popl (A : List Addr) {i : Nat} {p : Addr} {xs : List α} {m1 : M Int} {k : List α → M τ} (hp : σ[i]? = some (some (.ref p))) (o : Own K F H p xs) (n0 : H0 p = none) (G : Gr F0 H0 F H)
    (q : Wp ce E H0 (m1.bind fun y => (popAtM xs y).bind k) P) (hF : ∀ p ∈ A, F p = none) (hA : ∀ p ∈ A, ∃ o, H p = some o ∧ NoTup o) (hk : Ev ce E ti σ (fz F H A) H (rv K) m1)
    (c : ∀ ys F1 H1, Ex F F1 → Gr F0 H0 F1 H1 → Own K F1 H1 p ys → (∀ (T : Type) [Rep T] [Obj T] (q : Addr) (z : T), q ≠ p → Own K F H q z → Own K F1 H1 q z) → Wp ce E H0 (k ys) P → D.nx σ H1) :
    tDrop (tBM K "list" rPopAt (tVar i) (tCons ti tNil)) D σ H := by
  obtain ⟨vs, h1, h2⟩ := o.lst
  have hf := o.f
  have hA' : ∀ p ∈ A, H p ≠ none := fun p m => by obtain ⟨o, e, _⟩ := hA p m; rw [e]; exact fun z => nomatch z
  refine ⟨.ref p, hp, .inl ⟨rfl, vs, SqL.of h1⟩, hk _ H (Gr.rf (fz_h G.fh)) _ ?_⟩
  cases m1 with
  | ok y =>
    rintro F1 H1 vy g0 rfl
    have g := gr_th hF hA' G.fh g0
    have w' : Wp ce E H0 ((popAtM xs y).bind k) P := q
    unfold popAtM at w'
    split at w'
    · rename_i j hj
      unfold chk at w'
      split at w'
      · rename_i hc
        rw [← Paired.length h2] at hj
        have hl : j < vs.length := by rw [Paired.length h2]; exact hc.2.2
        have hf1 : th F1 A p = none := g.nw p hf (by rw [h1]; exact fun z => nomatch z)
        exact ⟨p, vs, y, j, _, rfl, rfl, g.hh _ _ h1, hc.1, hc.2.1, hj, List.getElem?_eq_getElem hl, c _ _ _ g.ff (Gr.mut (G.tr g) n0 hf1) (own_new hf1 upd_same (paired_erase j (paired_mo g.ff h2))) (fun T _ _ q z hq o => (o.mo g).upd hq) w'⟩
      · exact w'.elim
    · exact w'.elim
  | er cc => exact fun H' e => q H' (G.hh.tr e)
  | bad => exact q
variable {t2 : TS}
theorem q_setl (A : List Addr) {i : Nat} {p : Addr} {xs : List α} {m1 : M α} {m2 : M Int} {k : List α → M τ} [Flat α] (hp : σ[i]? = some (some (.ref p))) (o : Own K F H p xs) (n0 : H0 p = none) (G : Gr F0 H0 F H)
    (q : Wp ce E H0 (m1.bind fun x => m2.bind fun y => (setM xs y x).bind k) P) (hF : ∀ p ∈ A, F p = none) (hA : ∀ p ∈ A, ∃ o, H p = some o ∧ NoTup o) (h : Ev ce E te σ (fz F H A) H (rv K) m1) (hk : Ev ce E ti σ (fz F H A) H (rv K) m2)
    (c : ∀ ys F1 H1, Ex F F1 → Gr F0 H0 F1 H1 → Own K F1 H1 p ys → (∀ (T : Type) [Rep T] [Obj T] (q : Addr) (z : T), q ≠ p → Own K F H q z → Own K F1 H1 q z) → Wp ce E H0 (k ys) P → t2 D σ H1) :
    tSeq (tAsg te (gSub (tVar i) ti rSetL)) t2 D σ H := s_setl (D := { D with nx := t2 D }) A hp o n0 G q hF hA h hk c
theorem q_insl (A : List Addr) {i : Nat} {p : Addr} {xs : List α} {m1 : M Int} {m2 : M α} {k : List α → M τ} [Flat α] (hp : σ[i]? = some (some (.ref p))) (o : Own K F H p xs) (n0 : H0 p = none) (G : Gr F0 H0 F H)
    (q : Wp ce E H0 (m1.bind fun y => m2.bind fun x => (insM xs y x).bind k) P) (hF : ∀ p ∈ A, F p = none) (hA : ∀ p ∈ A, ∃ o, H p = some o ∧ NoTup o) (hk : Ev ce E ti σ (fz F H A) H (rv K) m1) (h : Ev ce E te σ (fz F H A) H (rv K) m2)
    (c : ∀ ys F1 H1, Ex F F1 → Gr F0 H0 F1 H1 → Own K F1 H1 p ys → (∀ (T : Type) [Rep T] [Obj T] (q : Addr) (z : T), q ≠ p → Own K F H q z → Own K F1 H1 q z) → Wp ce E H0 (k ys) P → t2 D σ H1) :
    tSeq (tDrop (tBM K "list" rIns (tVar i) (tCons ti (tCons te tNil)))) t2 D σ H := s_insl (D := { D with nx := t2 D }) A hp o n0 G q hF hA hk h c
theorem q_popl (A : List Addr) {i : Nat} {p : Addr} {xs : List α} {m1 : M Int} {k : List α → M τ} (hp : σ[i]? = some (some (.ref p))) (o : Own K F H p xs) (n0 : H0 p = none) (G : Gr F0 H0 F H)
    (q : Wp ce E H0 (m1.bind fun y => (popAtM xs y).bind k) P) (hF : ∀ p ∈ A, F p = none) (hA : ∀ p ∈ A, ∃ o, H p = some o ∧ NoTup o) (hk : Ev ce E ti σ (fz F H A) H (rv K) m1)
    (c : ∀ ys F1 H1, Ex F F1 → Gr F0 H0 F1 H1 → Own K F1 H1 p ys → (∀ (T : Type) [Rep T] [Obj T] (q : Addr) (z : T), q ≠ p → Own K F H q z → Own K F1 H1 q z) → Wp ce E H0 (k ys) P → t2 D σ H1) :
    tSeq (tDrop (tBM K "list" rPopAt (tVar i) (tCons ti tNil))) t2 D σ H := s_popl (D := { D with nx := t2 D }) A hp o n0 G q hF hA hk c
end
end Mw

set_option Elab.async false
set_option linter.all false
set_option maxRecDepth 100000
set_option maxHeartbeats 2000000
/-! Mw, part M: lists of two unlike things. -/
namespace Mw
open PySem L2
open Rep (rp)
/-- a word: a text that may stand in data that is compared -/
structure Wd where
  s : Str
  ok : PyData.canLay0 (.str s) = true
  deriving DecidableEq
def wd (x : Str) : Wd := if h : PyData.canLay0 (.str x) = true then ⟨x, h⟩ else ⟨Str.ofString "", by decide +kernel⟩
instance : Rep Wd := ⟨fun _ _ v x => v = .str x.s, fun _ h => h⟩
instance : Dat Wd := ⟨fun w => .str w.s, 0, fun {K H v x} h => by cases h; exact .str x.s, fun x => x.ok, fun _ => Nat.le_refl _, fun x y => by
  obtain ⟨x, hx⟩ := x
  obtain ⟨y, hy⟩ := y
  simp only [PyData.eqv, Wd.mk.injEq]
  rw [Bool.eq_iff_iff]; simp⟩
instance : NotN Wd := ⟨fun x => ⟨by show PyData.eqv .none (.str x.s) = false; simp [PyData.eqv], by show PyData.eqv (.str x.s) .none = false; simp [PyData.eqv]⟩⟩
instance : NN Wd := ⟨fun h => by cases h; exact fun z => nomatch z⟩
theorem wd_s {x : Str} (h : PyData.canLay0 (.str x) = true) : (wd x).s = x := by unfold wd; rw [dif_pos h]
structure H2 (α β : Type) where
  a : α
  b : β
  deriving DecidableEq
instance {α β : Type} [Rep α] [Rep β] : Rep (H2 α β) := ⟨fun K H v x => ∃ p u w, v = .ref p ∧ H p = some (.lst [u, w]) ∧ rp K H u x.a ∧ rp K H w x.b, fun e ⟨p, u, w, h1, h2, h3, h4⟩ => ⟨p, u, w, h1, e _ _ h2, Rep.mo e h3, Rep.mo e h4⟩⟩
instance {α β : Type} [Rep α] [Rep β] [DecidableEq α] [DecidableEq β] [Dat α] [Dat β] : Dat (H2 α β) where
  dat := fun x => .list [Dat.dat x.a, Dat.dat x.b]
  deep := max (Dat.deep α) (Dat.deep β) + 1
  dp := fun {K H v x} ⟨a, u, w, h1, h2, h3, h4⟩ => by subst h1; exact .lst (SqL.of h2) (.cons (Dat.dp h3) (.cons (Dat.dp h4) .nil))
  cl := fun x => by simp [PyData.canLay0, PyData.canLayAll0, Dat.cl]
  de := fun x => by
    show max (PyData.depth _) (max (PyData.depth _) 0) + 1 ≤ _
    have h1 := Dat.de x.a
    have h2 := Dat.de x.b
    omega
  eq := fun x y => by
    obtain ⟨x1, x2⟩ := x
    obtain ⟨y1, y2⟩ := y
    simp only [PyData.eqv, PyData.eqvAll, Dat.eq, Bool.and_true, H2.mk.injEq]
    simp
section
variable {α β : Type} [Rep α] [Rep β] {ce : Ce} {E : XK} {K : PySem.W.Frag} {σ : L2.St} {F H : Hp} {ta tb : TE}
theorem em_h2 {m1 : M α} {m2 : M β} (ha : Ev ce E ta σ F H (rv K) m1) (hb : Ev ce E tb σ F H (rv K) m2) : Ev ce E (tLst (tCons ta (tCons tb tNil))) σ F H (rv K) (m1.bind fun x => m2.bind fun y => .ok (H2.mk x y)) := fun F1 H1 g1 Q q => by
  refine ha F1 H1 g1 _ ?_
  cases m1 with
  | ok x =>
    intro F2 H2 v2 g2 q2
    refine hb F2 H2 (g1.tr g2) _ ?_
    cases m2 with
    | ok y =>
      refine fun F3 H3 v3 g3 q3 => ⟨by show 2 ≤ sizeLine; decide, fun p np => ?_⟩
      have e := Ex.nw (o := .lst [v2, v3]) (ex_back g3.fh np)
      exact q _ _ _ ((g2.tr g3).tr (Gr.new g3.fh np)) ⟨p, v2, v3, rfl, upd_same, Rep.mo (g3.ff.tr e) q2, Rep.mo e q3⟩
    | er c => exact fun H' e => q H' (g2.hh.tr e)
    | bad => exact q
  | er c => exact q
  | bad => exact q
theorem e_h2 {x : α} {y : β} (ha : Ev ce E ta σ F H (rv K) (.ok x)) (hb : Ev ce E tb σ F H (rv K) (.ok y)) : Ev ce E (tLst (tCons ta (tCons tb tNil))) σ F H (rv K) (.ok (H2.mk x y)) := em_h2 (m1 := .ok x) (m2 := .ok y) ha hb
theorem o_h2a {x : H2 α β} {i : Int} (hi : i = 0) : Op2 ce E K (rIxL K) (rv K) x i (.ok x.a) := fun F1 H1 vx vy e rx ry Q q => by
  obtain ⟨p, u, w, rfl, h2, h3, h4⟩ := rx
  cases ry
  subst hi
  exact ⟨p, [u, w], 0, u, rfl, rfl, SqL.of (e _ _ h2), rfl, q F1 H1 u (Gr.rf e) h3⟩
theorem o_h2b {x : H2 α β} {i : Int} (hi : i = 1) : Op2 ce E K (rIxL K) (rv K) x i (.ok x.b) := fun F1 H1 vx vy e rx ry Q q => by
  obtain ⟨p, u, w, rfl, h2, h3, h4⟩ := rx
  cases ry
  subst hi
  exact ⟨p, [u, w], 1, w, rfl, rfl, SqL.of (e _ _ h2), rfl, q F1 H1 w (Gr.rf e) h4⟩
theorem em_wd {x : Str} (h : PyData.canLay0 (.str x) = true) : Ev ce E (tC (.str x)) σ F H (rv K) (.ok (wd x)) := fun F1 H1 g Q q => q F1 H1 _ (Gr.rf g.fh) (by show V.str x = V.str (wd x).s; rw [wd_s h])
theorem wd_eq {x y : Wd} : decide (V.str x.s = V.str y.s) = decide (x = y) := by
  obtain ⟨x, hx⟩ := x
  obtain ⟨y, hy⟩ := y
  rw [Bool.eq_iff_iff]
  simp
theorem o_eqW {x y : Wd} : Op2 ce E K rEq (rv K) x y (.ok (decide (x = y))) := fun F1 H1 vx vy e rx ry Q q => by
  cases rx; cases ry
  refine ⟨rfl, ?_⟩
  rw [wd_eq]
  exact q F1 H1 _ (Gr.rf e) rfl
theorem o_neW {x y : Wd} : Op2 ce E K rNe (rv K) x y (.ok (!decide (x = y))) := fun F1 H1 vx vy e rx ry Q q => by
  cases rx; cases ry
  refine ⟨rfl, ?_⟩
  rw [wd_eq]
  exact q F1 H1 _ (Gr.rf e) rfl
end
end Mw

set_option Elab.async false
set_option linter.all false
set_option maxRecDepth 100000
set_option maxHeartbeats 2000000
/-! Mw, part N: quadruples; trees of triples over ints. -/
namespace Mw
open PySem L2
open Rep (rp)
instance {α β γ δ : Type} [Rep α] [Rep β] [Rep γ] [Rep δ] [DecidableEq α] [DecidableEq β] [DecidableEq γ] [DecidableEq δ] [Dat α] [Dat β] [Dat γ] [Dat δ] : Dat (T4 α β γ δ) where
  dat := fun x => .tuple [Dat.dat x.a, Dat.dat x.b, Dat.dat x.c, Dat.dat x.d]
  deep := max (Dat.deep α) (max (Dat.deep β) (max (Dat.deep γ) (Dat.deep δ))) + 1
  dp := fun {K H v x} ⟨a, u, w, z, y, h1, h2, h3, h4, h5, h6⟩ => by subst h1; exact .tup h2 (.cons (Dat.dp h3) (.cons (Dat.dp h4) (.cons (Dat.dp h5) (.cons (Dat.dp h6) .nil))))
  cl := fun x => by simp [PyData.canLay0, PyData.canLayAll0, Dat.cl]
  de := fun x => by
    show max (PyData.depth _) (max (PyData.depth _) (max (PyData.depth _) (max (PyData.depth _) 0))) + 1 ≤ _
    have h1 := Dat.de x.a
    have h2 := Dat.de x.b
    have h3 := Dat.de x.c
    have h4 := Dat.de x.d
    omega
  eq := fun x y => by
    obtain ⟨x1, x2, x3, x4⟩ := x
    obtain ⟨y1, y2, y3, y4⟩ := y
    simp only [PyData.eqv, PyData.eqvAll, Dat.eq, Bool.and_true, T4.mk.injEq]
    simp
instance {α β γ δ : Type} [Rep α] [Rep β] [Rep γ] [Rep δ] [DecidableEq α] [DecidableEq β] [DecidableEq γ] [DecidableEq δ] [Dat α] [Dat β] [Dat γ] [Dat δ] : NotN (T4 α β γ δ) := ⟨fun x => ⟨by show PyData.eqv .none (.tuple _) = false; simp [PyData.eqv], by show PyData.eqv (.tuple _) .none = false; simp [PyData.eqv]⟩⟩
section
variable {ρ α β γ δ W τ : Type} [Rep α] [Rep β] [Rep γ] [Rep δ] {ce : Ce} {E : XK} {K : PySem.W.Frag} {σ : L2.St} {F H F' H' F0 H0 : Hp} {te ta tb tc td : TE} {tt tu : TT} {md : Md ρ} {m : M ρ}
theorem em_tup4 {m1 : M α} {m2 : M β} {m3 : M γ} {m4 : M δ} (ha : Ev ce E ta σ F H (rv K) m1) (hb : Ev ce E tb σ F H (rv K) m2) (hc : Ev ce E tc σ F H (rv K) m3) (hd : Ev ce E td σ F H (rv K) m4) :
    Ev ce E (tTup (tCons ta (tCons tb (tCons tc (tCons td tNil))))) σ F H (rv K) (m1.bind fun x => m2.bind fun y => m3.bind fun z => m4.bind fun u => .ok (T4.mk x y z u)) := fun F1 H1 g1 Q q => by
  refine ha F1 H1 g1 _ ?_
  cases m1 with
  | ok x =>
    intro F2 H2 v2 g2 q2
    refine hb F2 H2 (g1.tr g2) _ ?_
    cases m2 with
    | ok y =>
      intro F3 H3 v3 g3 q3
      refine hc F3 H3 ((g1.tr g2).tr g3) _ ?_
      cases m3 with
      | ok z =>
        intro F4 H4 v4 g4 q4
        refine hd F4 H4 (((g1.tr g2).tr g3).tr g4) _ ?_
        cases m4 with
        | ok u =>
          refine fun F5 H5 v5 g5 q5 => ⟨by show 4 ≤ sizeLine; decide, fun p np => ?_⟩
          have e := Ex.nw (o := .tup [v2, v3, v4, v5]) (ex_back g5.fh np)
          exact q _ _ _ ((((g2.tr g3).tr g4).tr g5).tr (Gr.new g5.fh np)) ⟨p, v2, v3, v4, v5, rfl, SqT.of upd_same, Rep.mo (((g3.ff.tr g4.ff).tr g5.ff).tr e) q2, Rep.mo ((g4.ff.tr g5.ff).tr e) q3, Rep.mo (g5.ff.tr e) q4, Rep.mo e q5⟩
        | er c => exact fun H' e => q H' (((g2.tr g3).tr g4).hh.tr e)
        | bad => exact q
      | er c => exact fun H' e => q H' ((g2.tr g3).hh.tr e)
      | bad => exact q
    | er c => exact fun H' e => q H' (g2.hh.tr e)
    | bad => exact q
  | er c => exact q
  | bad => exact q
theorem e_tup4 {x : α} {y : β} {z : γ} {u : δ} (ha : Ev ce E ta σ F H (rv K) (.ok x)) (hb : Ev ce E tb σ F H (rv K) (.ok y)) (hc : Ev ce E tc σ F H (rv K) (.ok z)) (hd : Ev ce E td σ F H (rv K) (.ok u)) : Ev ce E (tTup (tCons ta (tCons tb (tCons tc (tCons td tNil))))) σ F H (rv K) (.ok (T4.mk x y z u)) := em_tup4 (m1 := .ok x) (m2 := .ok y) (m3 := .ok z) (m4 := .ok u) ha hb hc hd
theorem o_a4 {x : T4 α β γ δ} {i : Int} (hi : i = 0) : Op2 ce E K (rIxT K) (rv K) x i (.ok x.a) := fun F1 H1 vx vy e ⟨a, u, w, z, y, e1, e2, e3, e4, e5, e6⟩ ry Q q => by
  subst e1 hi
  cases ry
  exact ⟨a, [u, w, z, y], 0, u, rfl, rfl, ex_t e e2, rfl, q F1 H1 u (Gr.rf e) e3⟩
theorem o_b4 {x : T4 α β γ δ} {i : Int} (hi : i = 1) : Op2 ce E K (rIxT K) (rv K) x i (.ok x.b) := fun F1 H1 vx vy e ⟨a, u, w, z, y, e1, e2, e3, e4, e5, e6⟩ ry Q q => by
  subst e1 hi
  cases ry
  exact ⟨a, [u, w, z, y], 1, w, rfl, rfl, ex_t e e2, rfl, q F1 H1 w (Gr.rf e) e4⟩
theorem o_c4 {x : T4 α β γ δ} {i : Int} (hi : i = 2) : Op2 ce E K (rIxT K) (rv K) x i (.ok x.c) := fun F1 H1 vx vy e ⟨a, u, w, z, y, e1, e2, e3, e4, e5, e6⟩ ry Q q => by
  subst e1 hi
  cases ry
  exact ⟨a, [u, w, z, y], 2, z, rfl, rfl, ex_t e e2, rfl, q F1 H1 z (Gr.rf e) e5⟩
theorem o_d4 {x : T4 α β γ δ} {i : Int} (hi : i = 3) : Op2 ce E K (rIxT K) (rv K) x i (.ok x.d) := fun F1 H1 vx vy e ⟨a, u, w, z, y, e1, e2, e3, e4, e5, e6⟩ ry Q q => by
  subst e1 hi
  cases ry
  exact ⟨a, [u, w, z, y], 3, y, rfl, rfl, ex_t e e2, rfl, q F1 H1 y (Gr.rf e) e6⟩
theorem a_len4 {x : T4 α β γ δ} : OpA ce E (RC K R0) (rLenS K) (rv K) (x, ()) (.ok (4 : Int)) := fun F1 H1 vs e ⟨v, r, e1, ⟨a, u, w, z, y, h1, h2, h3, h4, h5, h6⟩, e3⟩ Q q => by
  cases e3
  subst e1 h1
  exact ⟨a, _, rfl, .inr (ex_t e h2), q F1 H1 _ (Gr.rf e) rfl⟩
def RTup4 (K : PySem.W.Frag) {α β γ δ : Type} [Rep α] [Rep β] [Rep γ] [Rep δ] (i j l n : Nat) : L2.St → Hp → L2.St → T4 α β γ δ → Prop := fun σ0 F σ2 x => ∃ u w z y, σ2 = (((σ0.set i (some u)).set j (some w)).set l (some z)).set n (some y) ∧ rp K F u x.a ∧ rp K F w x.b ∧ rp K F z x.c ∧ rp K F y x.d
theorem tg_tup4 {i j l n : Nat} : Tg K (α := T4 α β γ δ) (gTup K 4 (gCons (gName i) (gCons (gName j) (gCons (gName l) (gCons (gName n) gNil))))) (RTup4 K i j l n) := fun σ0 F H v x e ⟨a, u, w, z, y, h1, h2, h3, h4, h5, h6⟩ Q q =>
  ⟨a, [u, w, z, y], h1, ex_t e h2, rfl, u, [w, z, y], rfl, w, [z, y], rfl, z, [y], rfl, y, [], rfl, rfl, q _ ⟨u, w, z, y, rfl, h3, h4, h5, h6⟩⟩
theorem wipe4 {σ : L2.St} {i j l m : Nat} {u v w x : Option V} : wipe (((((wipe σ [i, j, l, m]).set i u).set j v).set l w).set m x) [i, j, l, m] = wipe σ [i, j, l, m] := by
  show (((((((((((σ.set m none).set l none).set j none).set i none).set i u).set j v).set l w).set m x).set m none).set l none).set j none).set i none = (((σ.set m none).set l none).set j none).set i none
  apply List.ext_getElem?
  intro n
  simp only [List.getElem?_set, List.length_set]
  by_cases a : i = n
  · subst a; simp
  · by_cases b : j = n
    · subst b; simp [a]
    · by_cases c : l = n
      · subst c; simp [a, b]
      · by_cases d : m = n
        · subst d; simp [a, b, c]
        · simp [a, b, c, d]
end
/-! ### a list of one's own is walked: lent to the loop, taken back behind it -/
section
variable {K : PySem.W.Frag} {F H F' H' F0 H0 F1 H1 : Hp} {T : Type} [Rep T] [Obj T]
theorem own_lend {p : Addr} {x : T} (G : Gr F0 H0 F H) (o : Own K F H p x) (n0 : H0 p = none) : ∃ F', Gr F0 H0 F' H ∧ Ex F F' ∧ rp K F' (.ref p) x ∧ (∀ q, q ≠ p → F' q = F q) ∧ F' p = H p := by
  obtain ⟨⟨u, h1, h2⟩, h3⟩ := o
  refine ⟨upd F p u, ⟨G.ff.tr (Ex.nw h3), fun a w e => ?_, G.hh, fun b a1 a2 => ?_⟩, Ex.nw h3, Obj.rep upd_same (Obj.mo (Ex.nw h3) h2), fun q hq => upd_ne hq, by rw [upd_same, h1]⟩
  · by_cases z : a = p
    · subst z; rw [upd_same] at e; rw [h1]; exact e
    · rw [upd_ne z] at e; exact G.fh a w e
  · have : b ≠ p := fun z => by subst z; exact a2 n0
    rw [upd_ne this]; exact G.nw b a1 a2
theorem own_back {p : Addr} {x : T} (o : Own K F H p x) (n0 : F0 p = none) (e : Ex F F') (hp : F' p = H p) (e1 : Ex F' F1) (G : Gr F0 H0 F1 H1) : ∃ Fu, Gr F0 H0 Fu H1 ∧ Ex F Fu ∧ Own K Fu H1 p x ∧ TupEx F1 Fu ∧ (∀ q, q ≠ p → Fu q = F1 q) := by
  obtain ⟨⟨u, h1, h2⟩, h3⟩ := o
  have a1 : F1 p = some u := e1 _ _ (by rw [hp]; exact h1)
  have a2 : H1 p = some u := G.fh _ _ a1
  have aq : ∀ q, q ≠ p → th F1 [p] q = F1 q := fun q hq => by unfold th; rw [if_neg (by simpa using hq)]
  have ap : th F1 [p] p = none := by unfold th; rw [if_pos (by simp)]
  have ee : Ex F (th F1 [p]) := fun a w h => by
    have : a ≠ p := fun z => by subst z; rw [h3] at h; cases h
    rw [aq a this]; exact e1 _ _ (e _ _ h)
  refine ⟨th F1 [p], ⟨fun a w h => ?_, fun a w h => ?_, G.hh, fun b b1 b2 => ?_⟩, ee, ⟨⟨u, a2, Obj.mo ee h2⟩, ap⟩, ?_, aq⟩
  · have : a ≠ p := fun z => by subst z; rw [n0] at h; cases h
    rw [aq a this]; exact G.ff a w h
  · have : a ≠ p := fun z => by subst z; rw [ap] at h; cases h
    rw [aq a this] at h; exact G.fh a w h
  · by_cases z : b = p
    · subst z; exact ap
    · rw [aq b z]; exact G.nw b b1 b2
  · refine th_tup fun q m xs r => ?_
    rw [List.mem_singleton.mp m] at r
    have nt := Obj.nt h2
    rcases r with r | ⟨w, r⟩
    · rw [a1] at r; exact nt.1 xs (Option.some.inj r)
    · rw [a1] at r; exact nt.2 w xs (Option.some.inj r)
theorem own_fl {α : Type} [Rep α] [Flat α] {q : Addr} {x : List α} (o : Own K F H q x) (e : TupEx F F') (h : F' q = F q) : Own K F' H q x := by
  obtain ⟨⟨u, h1, vs, h2, h4⟩, h3⟩ := o
  exact ⟨⟨u, h1, vs, h2, paired_fl e h4⟩, by rw [h]; exact h3⟩
end
/-! ### trees -/
inductive Tr where
  | lf (n : Int)
  | nd (s : Int) (a b : Tr)
  deriving DecidableEq
def Tr.isN : Tr → Bool
  | .lf _ => false
  | .nd _ _ _ => true
def rTr (K : PySem.W.Frag) (H : Hp) : Tr → V → Prop
  | .lf n, v => v = .int n
  | .nd s a b, v => ∃ p w z, v = .ref p ∧ SqT K H p [.int s, w, z] ∧ rTr K H a w ∧ rTr K H b z
theorem rTr_mo {K : PySem.W.Frag} {H H' : Hp} (e : Ex H H') : ∀ {x : Tr} {v : V}, rTr K H x v → rTr K H' x v
  | .lf _, _, h => h
  | .nd _ _ _, _, ⟨p, w, z, h1, h2, h3, h4⟩ => ⟨p, w, z, h1, ex_t e h2, rTr_mo e h3, rTr_mo e h4⟩
instance : Rep Tr := ⟨fun K H v x => rTr K H x v, fun e h => rTr_mo e h⟩
theorem rTr_fl {K : PySem.W.Frag} {H H' : Hp} (e : TupEx H H') : ∀ {x : Tr} {v : V}, rTr K H x v → rTr K H' x v
  | .lf _, _, h => h
  | .nd _ _ _, _, ⟨p, w, z, h1, h2, h3, h4⟩ => ⟨p, w, z, h1, tup_t e h2, rTr_fl e h3, rTr_fl e h4⟩
instance : Flat Tr := ⟨fun e h => rTr_fl e h⟩
instance : NN Tr := ⟨fun {K F v x} h => by
  cases x with
  | lf n => rw [show v = .int n from h]; exact fun z => nomatch z
  | nd s a b => obtain ⟨p, w, z, h1, _⟩ := h; rw [h1]; exact fun z => nomatch z⟩
def trI : Tr → M Int
  | .lf n => .ok n
  | .nd _ _ _ => .bad
def trA : Tr → M Int
  | .nd s _ _ => .ok s
  | .lf _ => .bad
def trK : Tr → Int → M Tr
  | .nd s a b, i => if i = 0 then .ok (.lf s) else if i = 1 then .ok a else if i = 2 then .ok b else .bad
  | .lf _, _ => .bad
section
variable {ρ : Type} {ce : Ce} {E : XK} {K : PySem.W.Frag} {σ : L2.St} {F H F' H' F0 H0 : Hp} {te ta tb tc td : TE} {tt tu : TT}
theorem em_trl {m : M Int} (h : Ev ce E te σ F H (rv K) m) : Ev ce E te σ F H (rv K) (m.bind fun x => .ok (Tr.lf x)) := fun F1 H1 g1 Q q => by
  refine h F1 H1 g1 _ ?_
  cases m with
  | ok x => exact fun F2 H2 v g2 r => q F2 H2 v g2 r
  | er c => exact q
  | bad => exact q
theorem e_trl {x : Int} (h : Ev ce E te σ F H (rv K) (.ok x)) : Ev ce E te σ F H (rv K) (.ok (Tr.lf x)) := em_trl (m := .ok x) h
theorem em_trn {m : M (T3 Int Tr Tr)} (h : Ev ce E te σ F H (rv K) m) : Ev ce E te σ F H (rv K) (m.bind fun x => .ok (Tr.nd x.a x.b x.c)) := fun F1 H1 g1 Q q => by
  refine h F1 H1 g1 _ ?_
  cases m with
  | ok x =>
    intro F2 H2 v g2 ⟨a, u, w, z, h1, h2, h3, h4, h5⟩
    have h3' : u = .int x.a := h3
    exact q F2 H2 v g2 ⟨a, w, z, h1, by rw [← h3']; exact h2, h4, h5⟩
  | er c => exact q
  | bad => exact q
theorem e_trn {x : T3 Int Tr Tr} (h : Ev ce E te σ F H (rv K) (.ok x)) : Ev ce E te σ F H (rv K) (.ok (Tr.nd x.a x.b x.c)) := em_trn (m := .ok x) h
theorem em_trI {m : M Tr} (h : Ev ce E te σ F H (rv K) m) : Ev ce E te σ F H (rv K) (m.bind trI) := fun F1 H1 g1 Q q => by
  refine h F1 H1 g1 _ ?_
  cases m with
  | ok x =>
    cases x with
    | lf n => exact fun F2 H2 v g2 r => q F2 H2 v g2 r
    | nd s a b => exact q.elim
  | er c => exact q
  | bad => exact q
theorem o_trA {x : Tr} {i : Int} (hi : i = 0) : Op2 ce E K (rIxT K) (rv K) x i (trA x) := fun F1 H1 vx vy e rx ry Q q => by
  subst hi
  cases ry
  cases x with
  | lf n => exact q.elim
  | nd s a b =>
    obtain ⟨p, w, z, h1, h2, h3, h4⟩ := rx
    subst h1
    exact ⟨p, [.int s, w, z], 0, .int s, rfl, rfl, ex_t e h2, rfl, q F1 H1 _ (Gr.rf e) rfl⟩
theorem o_trK {x : Tr} {i : Int} : Op2 ce E K (rIxT K) (rv K) x i (trK x i) := fun F1 H1 vx vy e rx ry Q q => by
  cases ry
  cases x with
  | lf n => exact q.elim
  | nd s a b =>
    obtain ⟨p, w, z, h1, h2, h3, h4⟩ := rx
    subst h1
    by_cases c0 : i = 0
    · subst c0
      exact ⟨p, [.int s, w, z], 0, .int s, rfl, rfl, ex_t e h2, rfl, q F1 H1 _ (Gr.rf e) rfl⟩
    · by_cases c1 : i = 1
      · subst c1
        exact ⟨p, [.int s, w, z], 1, w, rfl, rfl, ex_t e h2, rfl, q F1 H1 _ (Gr.rf e) h3⟩
      · by_cases c2 : i = 2
        · subst c2
          exact ⟨p, [.int s, w, z], 2, z, rfl, rfl, ex_t e h2, rfl, q F1 H1 _ (Gr.rf e) h4⟩
        · rw [show trK (.nd s a b) i = .bad from by unfold trK; dsimp only; rw [if_neg c0, if_neg c1, if_neg c2]] at q
          exact q.elim
/-- one plain operand's place, that may fail -/
theorem em_ixm {α β γ : Type} [Rep α] [Rep β] [Rep γ] {r : R2} {m1 : M α} {y : β} {g : α → M γ} (ha : Ev ce E ta σ F H (rv K) m1) (hb : Ev ce E tb σ F H (rv K) (.ok y)) (hr : ∀ x, Op2 ce E K r (rv K) x y (g x)) : Ev ce E (tOp r ta tb) σ F H (rv K) (m1.bind g) := fun F1 H1 g1 Q q => by
  refine ha F1 H1 g1 _ ?_
  cases m1 with
  | ok x => exact fun F2 H2 vx g2 rx => hb F2 H2 (g1.tr g2) _ fun F3 H3 vy g3 ry => hr x F3 H3 vx vy g3.fh (Rep.mo g3.ff rx) ry Q (Post.mo (g2.tr g3) q)
  | er c => exact q
  | bad => exact q
theorem em_isiT {m : M Tr} {n : String} {b c : Bool} (ha : Ev ce E ta σ F H (rv K) m) (hn : PySem.W.kitOne K (.type "int") (.type n) = some c) (hb : PySem.W.kitOne K (.type "tuple") (.type n) = some b) :
    Ev ce E (tCB (rIsi K) (tCons ta (tCons (tC (.ty n)) tNil))) σ F H (rv K) (m.bind fun x => .ok (if x.isN then b else c)) := fun F1 H1 g1 Q q => by
  refine ha F1 H1 g1 _ ?_
  cases m with
  | ok x =>
    intro F2 H2 v g2 r
    cases x with
    | lf i => cases (show v = .int i from r); exact ⟨_, .ty n, _, _, c, rfl, .ty n, .base (.int i), hn, q F2 H2 _ g2 rfl⟩
    | nd s a d =>
      obtain ⟨p, w, z, h1, h2, h3, h4⟩ := r
      subst h1
      exact ⟨_, .ty n, _, _, b, rfl, .ty n, tyx_tup g2.fh h2, hb, q F2 H2 _ g2 rfl⟩
  | er c => exact q
  | bad => exact q
end
end Mw

set_option Elab.async false
set_option linter.all false
set_option maxRecDepth 100000
set_option maxHeartbeats 2000000
/-! Mw, part O: script + [..]. -/
namespace Mw
open PySem L2
open Rep (rp)
def rCatL (K : PySem.W.Frag) : R2 := fun x y H Q => ∃ l b xs zs, x = V.ref l ∧ y = V.ref b ∧ SqL K H l xs ∧ SqL K H b zs ∧ xs.length + zs.length ≤ sizeLine ∧ ∀ p, H p = none → Q (V.ref p) (upd H p (HO.lst (xs ++ zs)))
theorem op_catL {X : Cx} : OpR X (binaryOp .Add) (rCatL X.K) := by
  intro pins s σ H x y v u Q I rx ry h
  obtain ⟨l, b, xs, zs, rfl, rfl, h1, h2, hz, q⟩ := h
  cases rx
  cases ry
  obtain ⟨i1, r1, p1, l1⟩ := I.list h1
  obtain ⟨i2, r2, p2, l2⟩ := I.list h2
  obtain ⟨⟨c1, d1, a1, s1⟩, n1, g1, hc1, hd1, ha1⟩ := p1
  obtain ⟨⟨c2, d2, a2, s2⟩, n2, g2, hc2, hd2, ha2⟩ := p2
  dsimp only at hc1 hd1 ha1 hc2 hd2 ha2
  subst hc1 ha1 hc2 ha2
  have e1 := r1.length
  have e2 := r2.length
  refine concat_meets ⟨_, g1, rfl⟩ ⟨_, g2, rfl⟩ noFill_list_add seq_list_add PySem.F.slot_list_add PySem.F.entry_list_add (PySem.F.args_list_add_2 (Value.ref l) (Value.ref b)) (PyProof.Rows.list_addW l b i1.toArray i2.toArray n1 n2 d1 d2 s1 s2 (by simp; omega)) ⟨g1, g2, ?_⟩
  rw [List.append_toArray]
  exact ⟨V.ref s.heap.objs.size, upd H s.heap.objs.size (HO.lst (xs ++ zs)), I.lnew (r1.append r2) (by rw [List.length_append]; exact hz), rfl, q s.heap.objs.size I.fresh⟩
section
variable {ce : Ce} {E : XK} {K : PySem.W.Frag}
theorem o_catS {xs : Scr} {ys : List Int} : Op2 ce E K (rCatL K) (rn K) xs ys (catM xs.l ys) := fun F1 H1 vx vy e ⟨a, h1, h2⟩ ⟨b, ws, k1, k2, k3⟩ Q q => by
  unfold catM chk at q
  split at q
  · rename_i hc
    refine ⟨a, b, _, ws, h1, k1, ex_l e h2, SqL.of (e _ _ k2), ?_, fun p np => ?_⟩
    · rw [Paired.length k3, List.length_map, sizeLine_eq]; omega
    · exact q F1 _ _ (Gr.own e np) ⟨p, _, rfl, np, ex_back e np, upd_same, paired_app (rep_int xs.l) k3⟩
  · exact q.elim
end
/-- a loop by what is known behind each turn -/
theorem forM_by {α S τ : Type} {f : α → S → M (Ctl S τ)} {k : S → M τ} {P : M τ → Prop} (J : List α → S → Prop) {xs : List α} {s : S} (h0 : J [] s)
    (hs : ∀ p x s, (p ++ [x]) <+: xs → J p s → ∃ s', f x s = .ok (.nx s') ∧ J (p ++ [x]) s') (hk : ∀ s', J xs s' → P (k s')) : P (forM f k xs s) := by
  obtain ⟨s', h1, e⟩ := forM_ex (f := f) (k := k) J xs [] s h0 hs
  rw [e]
  exact hk s' h1
/-! ### a list of three unlike things -/
structure H3 (α β γ : Type) where
  a : α
  b : β
  c : γ
  deriving DecidableEq
instance {α β γ : Type} [Rep α] [Rep β] [Rep γ] : Rep (H3 α β γ) := ⟨fun K H v x => ∃ p u w z, v = .ref p ∧ H p = some (.lst [u, w, z]) ∧ rp K H u x.a ∧ rp K H w x.b ∧ rp K H z x.c, fun e ⟨p, u, w, z, h1, h2, h3, h4, h5⟩ => ⟨p, u, w, z, h1, e _ _ h2, Rep.mo e h3, Rep.mo e h4, Rep.mo e h5⟩⟩
instance {α β γ : Type} [Rep α] [Rep β] [Rep γ] [DecidableEq α] [DecidableEq β] [DecidableEq γ] [Dat α] [Dat β] [Dat γ] : Dat (H3 α β γ) where
  dat := fun x => .list [Dat.dat x.a, Dat.dat x.b, Dat.dat x.c]
  deep := max (Dat.deep α) (max (Dat.deep β) (Dat.deep γ)) + 1
  dp := fun {K H v x} ⟨a, u, w, z, h1, h2, h3, h4, h5⟩ => by subst h1; exact .lst (SqL.of h2) (.cons (Dat.dp h3) (.cons (Dat.dp h4) (.cons (Dat.dp h5) .nil)))
  cl := fun x => by simp [PyData.canLay0, PyData.canLayAll0, Dat.cl]
  de := fun x => by
    show max (PyData.depth _) (max (PyData.depth _) (max (PyData.depth _) 0)) + 1 ≤ _
    have h1 := Dat.de x.a
    have h2 := Dat.de x.b
    have h3 := Dat.de x.c
    omega
  eq := fun x y => by
    obtain ⟨x1, x2, x3⟩ := x
    obtain ⟨y1, y2, y3⟩ := y
    simp only [PyData.eqv, PyData.eqvAll, Dat.eq, Bool.and_true, H3.mk.injEq]
    simp
section
variable {α β γ : Type} [Rep α] [Rep β] [Rep γ] {ce : Ce} {E : XK} {K : PySem.W.Frag} {σ : L2.St} {F H : Hp} {ta tb tc : TE}
theorem em_h3 {m1 : M α} {m2 : M β} {m3 : M γ} (ha : Ev ce E ta σ F H (rv K) m1) (hb : Ev ce E tb σ F H (rv K) m2) (hc : Ev ce E tc σ F H (rv K) m3) : Ev ce E (tLst (tCons ta (tCons tb (tCons tc tNil)))) σ F H (rv K) (m1.bind fun x => m2.bind fun y => m3.bind fun z => .ok (H3.mk x y z)) := fun F1 H1 g1 Q q => by
  refine ha F1 H1 g1 _ ?_
  cases m1 with
  | ok x =>
    intro F2 H2 v2 g2 q2
    refine hb F2 H2 (g1.tr g2) _ ?_
    cases m2 with
    | ok y =>
      intro F3 H3 v3 g3 q3
      refine hc F3 H3 ((g1.tr g2).tr g3) _ ?_
      cases m3 with
      | ok z =>
        refine fun F4 H4 v4 g4 q4 => ⟨by show 3 ≤ sizeLine; decide, fun p np => ?_⟩
        have e := Ex.nw (o := .lst [v2, v3, v4]) (ex_back g4.fh np)
        exact q _ _ _ (((g2.tr g3).tr g4).tr (Gr.new g4.fh np)) ⟨p, v2, v3, v4, rfl, upd_same, Rep.mo ((g3.ff.tr g4.ff).tr e) q2, Rep.mo (g4.ff.tr e) q3, Rep.mo e q4⟩
      | er c => exact fun H' e => q H' ((g2.tr g3).hh.tr e)
      | bad => exact q
    | er c => exact fun H' e => q H' (g2.hh.tr e)
    | bad => exact q
  | er c => exact q
  | bad => exact q
theorem e_h3 {x : α} {y : β} {z : γ} (ha : Ev ce E ta σ F H (rv K) (.ok x)) (hb : Ev ce E tb σ F H (rv K) (.ok y)) (hc : Ev ce E tc σ F H (rv K) (.ok z)) : Ev ce E (tLst (tCons ta (tCons tb (tCons tc tNil)))) σ F H (rv K) (.ok (H3.mk x y z)) := em_h3 (m1 := .ok x) (m2 := .ok y) (m3 := .ok z) ha hb hc
theorem o_h3a {x : H3 α β γ} {i : Int} (hi : i = 0) : Op2 ce E K (rIxL K) (rv K) x i (.ok x.a) := fun F1 H1 vx vy e rx ry Q q => by
  obtain ⟨p, u, w, z, rfl, h2, h3, h4, h5⟩ := rx
  cases ry
  subst hi
  exact ⟨p, [u, w, z], 0, u, rfl, rfl, SqL.of (e _ _ h2), rfl, q F1 H1 u (Gr.rf e) h3⟩
theorem o_h3b {x : H3 α β γ} {i : Int} (hi : i = 1) : Op2 ce E K (rIxL K) (rv K) x i (.ok x.b) := fun F1 H1 vx vy e rx ry Q q => by
  obtain ⟨p, u, w, z, rfl, h2, h3, h4, h5⟩ := rx
  cases ry
  subst hi
  exact ⟨p, [u, w, z], 1, w, rfl, rfl, SqL.of (e _ _ h2), rfl, q F1 H1 w (Gr.rf e) h4⟩
theorem o_h3c {x : H3 α β γ} {i : Int} (hi : i = 2) : Op2 ce E K (rIxL K) (rv K) x i (.ok x.c) := fun F1 H1 vx vy e rx ry Q q => by
  obtain ⟨p, u, w, z, rfl, h2, h3, h4, h5⟩ := rx
  cases ry
  subst hi
  exact ⟨p, [u, w, z], 2, z, rfl, rfl, SqL.of (e _ _ h2), rfl, q F1 H1 z (Gr.rf e) h5⟩
end
end Mw

set_option Elab.async false
set_option linter.all false
set_option maxRecDepth 100000
set_option maxHeartbeats 2000000
/-! Mw, part P: tests over one's own lists; rows of ints and words; a parameter of one's own; the object with parts and rows. -/
namespace Mw
open PySem L2
open Rep (rp)
section
variable {ce : Ce} {E : XK} {K : PySem.W.Frag} {σ : L2.St} {F H : Hp} {tt : TT}
/-- a test that reads lists of one's own -/
theorem t_lend (A : List Addr) {m : M Bool} (hF : ∀ p ∈ A, F p = none) (hA : ∀ p ∈ A, ∃ o, H p = some o ∧ NoTup o) (h : EvT ce E tt σ (fz F H A) H m) : EvT ce E tt σ F H m := fun F1 H1 g Q q => by
  have hA' : ∀ p ∈ A, H p ≠ none := fun p m => by obtain ⟨o, e, _⟩ := hA p m; rw [e]; exact fun z => nomatch z
  have hF1 : ∀ p ∈ A, F1 p = none := fun p m => g.nw p (hF p m) (hA' p m)
  have hA1 : ∀ p ∈ A, H1 p ≠ none := fun p m => g.hh.ne (hA' p m)
  have gz : Gr (fz F H A) H (fz F1 H1 A) H1 := ⟨fun a o e => by
    unfold fz at e ⊢
    split
    · rename_i c; rw [if_pos c] at e; exact g.hh a o e
    · rename_i c; rw [if_neg c] at e; exact g.ff a o e, fz_h g.fh, g.hh, fun b h1 h2 => by
    unfold fz at h1 ⊢
    split
    · rename_i c; rw [if_pos c] at h1; exact absurd h1 h2
    · rename_i c; rw [if_neg c] at h1; exact g.nw b h1 h2⟩
  refine h (fz F1 H1 A) H1 gz Q ?_
  cases m with
  | ok r => exact fun F2 H2 g2 => q (th F2 A) H2 (gr_th hF1 hA1 g.fh g2)
  | er c => exact q
  | bad => exact q
end
/-! ### cells and rows -/
inductive Cl where
  | i (n : Int)
  | w (s : Wd)
  deriving DecidableEq
def rCl : Cl → V → Prop
  | .i n, v => v = .int n
  | .w s, v => v = .str s.s
instance : Rep Cl := ⟨fun _ _ v x => rCl x v, fun _ h => h⟩
instance : Flat Cl := ⟨fun _ h => h⟩
instance : NN Cl := ⟨fun {K F v x} h => by
  cases x with
  | i n => rw [show v = .int n from h]; exact fun z => nomatch z
  | w s => rw [show v = .str s.s from h]; exact fun z => nomatch z⟩
instance : Dat Cl where
  dat := fun x => match x with
    | .i n => .int n
    | .w s => .str s.s
  deep := 0
  dp := fun {K H v x} h => by
    cases x with
    | i n => rw [show v = .int n from h]; exact .int n
    | w s => rw [show v = .str s.s from h]; exact .str s.s
  cl := fun x => by
    cases x with
    | i n => rfl
    | w s => exact s.ok
  de := fun x => by cases x <;> exact Nat.le_refl _
  eq := fun x y => by
    rw [Bool.eq_iff_iff]
    cases x with
    | i n => cases y <;> simp [PyData.eqv]
    | w s =>
      cases y with
      | i n => simp [PyData.eqv]
      | w t =>
        obtain ⟨s, hs⟩ := s
        obtain ⟨t, ht⟩ := t
        simp [PyData.eqv]
structure Row where
  cs : List Cl
  deriving DecidableEq
instance : Rep Row := ⟨fun K H v x => ∃ a vs, v = .ref a ∧ SqT K H a vs ∧ Paired (rp K H) vs x.cs, fun e ⟨a, vs, h1, h2, h3⟩ => ⟨a, vs, h1, ex_t e h2, paired_mo e h3⟩⟩
instance : Flat Row := ⟨fun e ⟨a, vs, h1, h2, h3⟩ => ⟨a, vs, h1, tup_t e h2, paired_fl e h3⟩⟩
instance : NN Row := ⟨fun ⟨a, vs, h1, _⟩ => by subst h1; exact fun z => nomatch z⟩
instance : Dat Row where
  dat := fun x => .tuple (x.cs.map Dat.dat)
  deep := 1
  dp := fun {K H v x} ⟨a, vs, h1, h2, h3⟩ => by subst h1; exact .tup h2 (dpAll_of h3)
  cl := fun x => by simpa [PyData.canLay0] using clAll x.cs
  de := fun x => by
    show PyData.depthAll (x.cs.map Dat.dat) + 1 ≤ _
    exact Nat.succ_le_succ (deAll x.cs)
  eq := fun x y => by
    obtain ⟨x⟩ := x
    obtain ⟨y⟩ := y
    simpa [PyData.eqv] using eqAll x y
instance : NotN Row := ⟨fun x => ⟨by show PyData.eqv .none (.tuple _) = false; simp [PyData.eqv], by show PyData.eqv (.tuple _) .none = false; simp [PyData.eqv]⟩⟩
def clI : Cl → M Int
  | .i n => .ok n
  | .w _ => .bad
section
variable {α β γ ρ : Type} [Rep α] [Rep β] [Rep γ] {ce : Ce} {E : XK} {K : PySem.W.Frag} {σ : L2.St} {F H F' H' F0 H0 : Hp} {te ta tb tc td : TE} {tt tu : TT}
instance : Ty Row := ⟨"tuple", fun {K F H v x} e ⟨a, vs, h1, h2, _⟩ => by subst h1; exact tyx_tup e h2⟩
theorem em_clI {m : M Cl} (h : Ev ce E te σ F H (rv K) m) : Ev ce E te σ F H (rv K) (m.bind clI) := fun F1 H1 g1 Q q => by
  refine h F1 H1 g1 _ ?_
  cases m with
  | ok x =>
    cases x with
    | i n => exact fun F2 H2 v g2 r => q F2 H2 v g2 r
    | w s => exact q.elim
  | er c => exact q
  | bad => exact q
theorem em_cli {m : M Int} (h : Ev ce E te σ F H (rv K) m) : Ev ce E te σ F H (rv K) (m.bind fun x => .ok (Cl.i x)) := fun F1 H1 g1 Q q => by
  refine h F1 H1 g1 _ ?_
  cases m with
  | ok x => exact fun F2 H2 v g2 r => q F2 H2 v g2 r
  | er c => exact q
  | bad => exact q
theorem e_cli {x : Int} (h : Ev ce E te σ F H (rv K) (.ok x)) : Ev ce E te σ F H (rv K) (.ok (Cl.i x)) := em_cli (m := .ok x) h
theorem em_clw {m : M Wd} (h : Ev ce E te σ F H (rv K) m) : Ev ce E te σ F H (rv K) (m.bind fun x => .ok (Cl.w x)) := fun F1 H1 g1 Q q => by
  refine h F1 H1 g1 _ ?_
  cases m with
  | ok x => exact fun F2 H2 v g2 r => q F2 H2 v g2 r
  | er c => exact q
  | bad => exact q
theorem e_clw {x : Wd} (h : Ev ce E te σ F H (rv K) (.ok x)) : Ev ce E te σ F H (rv K) (.ok (Cl.w x)) := em_clw (m := .ok x) h
theorem o_rowix {xs : Row} {i : Int} : Op2 ce E K (rIxT K) (rv K) xs i (ixM xs.cs i) := fun F1 H1 vx vy e ⟨a, vs, h1, h2, h3⟩ ry Q q => by
  subst h1
  cases ry
  unfold ixM at q
  split at q
  · rename_i x hx
    obtain ⟨v, hv, rv'⟩ := atI_pair h3 hx
    exact ⟨a, vs, i, v, rfl, rfl, ex_t e h2, hv, q F1 H1 v (Gr.rf e) rv'⟩
  · exact q.elim
theorem a_lenR {x : Row} : OpA ce E (RC K R0) (rLenS K) (rv K) (x, ()) (.ok (x.cs.length : Int)) := fun F1 H1 vs e ⟨v, r, e1, ⟨a, us, h1, h2, h3⟩, e3⟩ Q q => by
  cases e3
  subst e1 h1
  refine ⟨a, _, rfl, .inr (ex_t e h2), ?_⟩
  rw [Paired.length h3]
  exact q F1 H1 _ (Gr.rf e) rfl
theorem em_row {ta : TA} {m : M (List Cl)} (ha : EvL ce E K ta σ F H m) : Ev ce E (tTup ta) σ F H (rv K) (m.bind fun x => chk (x.length ≤ 1000) (Row.mk x)) := fun F1 H1 g1 Q q => by
  refine ha F1 H1 g1 _ ?_
  cases m with
  | ok x =>
    have q' : Post ce (rv K) (chk (x.length ≤ 1000) (Row.mk x)) F1 H1 Q E := q
    unfold chk at q'
    intro F2 H2 vs g2 r2
    by_cases hx : x.length ≤ 1000
    · rw [if_pos hx] at q'
      refine ⟨Nat.le_of_lt (small1000 (by rw [Paired.length r2]; exact hx)), fun p np => ?_⟩
      have e := Ex.nw (o := .tup vs) (ex_back g2.fh np)
      exact q' _ _ _ (g2.tr (Gr.new g2.fh np)) ⟨p, vs, rfl, SqT.of upd_same, paired_mo e r2⟩
    · rw [if_neg hx] at q'
      exact q'.elim
  | er c => exact q
  | bad => exact q
end
/-! ### a parameter of one's own: the first one -/
def SpO (ce : Ce) (K : PySem.W.Frag) {α β ρ : Type} [Rep α] (R : Hp → List V → β → Prop) (md : Md ρ) (f : List α × β → M ρ) : Sp := fun vs H Q E => ∃ F H0 p us x y r, vs = .ref p :: r ∧ Ex F H0 ∧ H0 p = none ∧ H = upd H0 p (.lst us) ∧ Paired (rp K F) us x ∧ R F r y ∧ Post ce md (f (x, y)) F H0 Q E
def SpO0 (ce : Ce) (K : PySem.W.Frag) {α β ρ : Type} [Rep α] (R : Hp → List V → β → Prop) (md : Md ρ) (f : List α × β → M ρ) : Sp := fun vs H Q _ => ∃ F H0 p us x y r, vs = .ref p :: r ∧ Ex F H0 ∧ H0 p = none ∧ H = upd H0 p (.lst us) ∧ Paired (rp K F) us x ∧ R F r y ∧ Post ce md (f (x, y)) F H0 Q E0
section
variable {α β ρ : Type} [Rep α] {ce : Ce} {E : XK} {K : PySem.W.Frag} {σ : L2.St} {F H : Hp} {ta : TE} {tr : TA} {md : Md ρ}
theorem own_start {p : Addr} {us : List V} {x : List α} (e : Ex F H) (h : H p = none) (r : Paired (rp K F) us x) : Gr F H F (upd H p (.lst us)) ∧ Own K F (upd H p (.lst us)) p x :=
  ⟨Gr.own e h, ⟨⟨.lst us, upd_same, us, rfl, r⟩, ex_back e h⟩⟩
theorem callO [MdMo md] {m1 : M (List α)} {m2 : M β} {R : Hp → List V → β → Prop} {f : List α × β → M ρ} {Ec : XK} {P : List V → Hp → VK → Prop}
    (hP : ∀ F1 H1 p us x y r (Q : VK), Ex F1 H1 → H1 p = none → Paired (rp K F1) us x → R F1 r y → Post ce md (f (x, y)) F1 H1 Q E → P (.ref p :: r) (upd H1 p (.lst us)) Q)
    (ha : Ev ce E ta σ F H (rn K) m1) (hb : EvAM ce E tr σ F H m2 R) : ∀ F1 H1, Gr F H F1 H1 → ∀ Q : VK, Post ce md (m1.bind fun x => m2.bind fun y => f (x, y)) F1 H1 Q E → tCons ta tr σ H1 fun vs H2 => P vs H2 Q := fun F1 H1 g1 Q q => by
  refine ha F1 H1 g1 _ ?_
  cases m1 with
  | ok x =>
    rintro F2 H2 v g2 ⟨p, us, rfl, p1, p2, p3, p4⟩
    refine hb F2 H2 (g1.tr g2) _ ?_
    cases m2 with
    | ok y =>
      intro F3 H3 vs g3 r3
      have n3 : F3 p = none := g3.nw p p2 (by rw [p3]; exact fun z => nomatch z)
      have h3 : H3 p = some (.lst us) := g3.hh _ _ p3
      have eH : H3 = upd (th H3 [p]) p (.lst us) := by
        funext b
        by_cases z : b = p
        · subst z; rw [upd_same, h3]
        · rw [upd_ne z]; unfold th; rw [if_neg (by simpa using z)]
      have tp : th H3 [p] p = none := by unfold th; rw [if_pos (by simp)]
      have tq : ∀ b, b ≠ p → th H3 [p] b = H3 b := fun b z => by unfold th; rw [if_neg (by simpa using z)]
      have e3 : Ex F3 (th H3 [p]) := fun a o h => by
        have : a ≠ p := fun z => by subst z; rw [n3] at h; cases h
        rw [tq a this]; exact g3.fh a o h
      have gg : Gr F1 H1 F3 (th H3 [p]) := ⟨(g2.tr g3).ff, e3, fun a o h => by
        have : a ≠ p := fun z => by subst z; rw [p1] at h; cases h
        rw [tq a this]; exact (g2.tr g3).hh a o h, (g2.tr g3).nw⟩
      rw [eH]
      exact hP F3 (th H3 [p]) p us x y vs Q e3 tp (paired_mo g3.ff p4) r3 (Post.mo gg q)
    | er c => exact fun H' e => q H' (g2.hh.tr e)
    | bad => exact q
  | er c => exact q
  | bad => exact q
theorem em_callO0 [MdMo md] {m1 : M (List α)} {m2 : M β} {R : Hp → List V → β → Prop} {f : List α × β → M ρ} (ha : Ev ce E ta σ F H (rn K) m1) (hb : EvAM ce E tr σ F H m2 R) :
    Ev ce E (tCall (SpO0 ce K R md f) [] E0 (tCons ta tr)) σ F H md (m1.bind fun x => m2.bind fun y => (f (x, y)).ne) := fun F1 H1 g1 Q q =>
  callO (md := md) (f := fun a => (f a).ne) (P := fun vs H Q => SpO0 ce K R md f (vs ++ []) H Q E0) (Ec := E) (fun F1 H1 p us x y r Q e n pr rr q => by
    rw [List.append_nil]
    exact ⟨F1, H1, p, us, x, y, r, rfl, e, n, rfl, pr, rr, post_ne q⟩) ha hb F1 H1 g1 Q q
theorem em_callOX [MdMo md] {m1 : M (List α)} {m2 : M β} {R : Hp → List V → β → Prop} {f : List α × β → M ρ} (ha : Ev ce E ta σ F H (rn K) m1) (hb : EvAM ce E tr σ F H m2 R) :
    Ev ce E (tCall (SpO ce K R md f) [] E (tCons ta tr)) σ F H md (m1.bind fun x => m2.bind fun y => f (x, y)) := fun F1 H1 g1 Q q =>
  callO (md := md) (f := f) (P := fun vs H Q => SpO ce K R md f (vs ++ []) H Q E) (Ec := E) (fun F1 H1 p us x y r Q e n pr rr q => by
    rw [List.append_nil]
    exact ⟨F1, H1, p, us, x, y, r, rfl, e, n, rfl, pr, rr, q⟩) ha hb F1 H1 g1 Q q
end
/-! ### an object that is being made; the works -/
structure RawO where
  C : Addr
  dx : Addr
  fs : List (Str × V)
instance : Rep RawO := ⟨fun _ H v x => ∃ p, v = .ref p ∧ H p = some (.ins x.C x.dx x.fs), fun e ⟨p, h1, h2⟩ => ⟨p, h1, e _ _ h2⟩⟩
instance : Obj RawO where
  ho := fun _ _ o x => o = .ins x.C x.dx x.fs
  mo := fun _ h => h
  rep := fun {K H p o x} e h => ⟨p, rfl, by rw [e, h]⟩
  nt := fun {K H o x} h => by subst h; exact ⟨(fun _ z => nomatch z), (fun _ _ z => nomatch z)⟩
structure Wk where
  parts : Int
  rows : List Row
instance : Rep Wk := ⟨fun K H v x => ∃ a C dx fs u w, v = .ref a ∧ H a = some (.ins C dx fs) ∧ Cls K C ∧ NoAttr K C "parts" ∧ NoAttr K C "rows" ∧ fs.lookup ("parts" : Str) = some u ∧ fs.lookup ("rows" : Str) = some w ∧ rp K H u x.parts ∧ rp K H w x.rows,
  fun e ⟨a, C, dx, fs, u, w, h1, h2, h3, h4, h5, h6, h7, h8, h9⟩ => ⟨a, C, dx, fs, u, w, h1, e _ _ h2, h3, h4, h5, h6, h7, Rep.mo e h8, Rep.mo e h9⟩⟩
instance : NN Wk := ⟨fun ⟨a, _, _, _, _, _, h1, _⟩ => by subst h1; exact fun z => nomatch z⟩
section
variable {ρ τ : Type} [Rep ρ] {ce : Ce} {E : XK} {K : PySem.W.Frag} {σ : L2.St} {F H F0 H0 : Hp} {te ta : TE} {md : Md ρ} {D : Ends} {P : τ → Prop}
theorem em_wkp {m : M Wk} (ha : Ev ce E ta σ F H (rv K) m) : Ev ce E (tFld K ta "parts") σ F H (rv K) (m.bind fun x => .ok x.parts) := fun F1 H1 g1 Q q => by
  refine ha F1 H1 g1 _ ?_
  cases m with
  | ok x =>
    rintro F2 H2 v g2 ⟨a, C, dx, fs, u, w, h1, h2, h3, h4, h5, h6, h7, h8, h9⟩
    exact ⟨a, C, dx, fs, u, h1, g2.fh _ _ h2, h3, h4, h6, q F2 H2 u g2 h8⟩
  | er c => exact q
  | bad => exact q
theorem em_wkr {m : M Wk} (ha : Ev ce E ta σ F H (rv K) m) : Ev ce E (tFld K ta "rows") σ F H (rv K) (m.bind fun x => .ok x.rows) := fun F1 H1 g1 Q q => by
  refine ha F1 H1 g1 _ ?_
  cases m with
  | ok x =>
    rintro F2 H2 v g2 ⟨a, C, dx, fs, u, w, h1, h2, h3, h4, h5, h6, h7, h8, h9⟩
    exact ⟨a, C, dx, fs, w, h1, g2.fh _ _ h2, h3, h5, h7, q F2 H2 w g2 h9⟩
  | er c => exact q
  | bad => exact q
theorem e_wkp {x : Wk} (ha : Ev ce E ta σ F H (rv K) (.ok x)) : Ev ce E (tFld K ta "parts") σ F H (rv K) (.ok x.parts) := em_wkp (m := .ok x) ha
theorem e_wkr {x : Wk} (ha : Ev ce E ta σ F H (rv K) (.ok x)) : Ev ce E (tFld K ta "rows") σ F H (rv K) (.ok x.rows) := em_wkr (m := .ok x) ha
/-- self.f = e, in __init__: the object is one's own -/
theorem s_setf {α : Type} [Rep α] {i : Nat} {p : Addr} {o : RawO} {f : Str} {m1 : M α} {k : α → M τ} (hp : σ[i]? = some (some (.ref p))) (c : Cls K o.C) (na : NoAttr K o.C f) (hl : o.fs.length < 1000) (ow : Own K F H p o) (n0 : H0 p = none) (G : Gr F0 H0 F H)
    (q : Wp ce E H0 (m1.bind k) P) (h : Ev ce E te σ F H (rv K) m1)
    (cc : ∀ x F1 H1 v, Ex F F1 → Gr F0 H0 F1 H1 → rp K F1 v x → Own K F1 H1 p (RawO.mk o.C o.dx (putF f v o.fs)) → Wp ce E H0 (k x) P → D.nx σ H1) : sFld K (tVar i) te f D σ H := by
  show te σ H fun y H1 => tVar i σ H1 fun x H2 => _
  refine h.go G q fun x F1 H1 v g r w => ?_
  refine ⟨.ref p, hp, ?_⟩
  have o1 := ow.mo g
  obtain ⟨⟨u, h1, h2⟩, h3⟩ := o1
  have h2' : u = .ins o.C o.dx o.fs := h2
  subst h2'
  refine ⟨p, o.C, o.dx, o.fs, rfl, h1, c, na, hl, ?_⟩
  exact cc x F1 _ v g.ff (Gr.mut (G.tr g) n0 h3) r ⟨⟨_, upd_same, rfl⟩, h3⟩ w
theorem q_setf {t2 : TS} {α : Type} [Rep α] {i : Nat} {p : Addr} {o : RawO} {f : Str} {m1 : M α} {k : α → M τ} (hp : σ[i]? = some (some (.ref p))) (c : Cls K o.C) (na : NoAttr K o.C f) (hl : o.fs.length < 1000) (ow : Own K F H p o) (n0 : H0 p = none) (G : Gr F0 H0 F H)
    (q : Wp ce E H0 (m1.bind k) P) (h : Ev ce E te σ F H (rv K) m1)
    (cc : ∀ x F1 H1 v, Ex F F1 → Gr F0 H0 F1 H1 → rp K F1 v x → Own K F1 H1 p (RawO.mk o.C o.dx (putF f v o.fs)) → Wp ce E H0 (k x) P → t2 D σ H1) : tSeq (sFld K (tVar i) te f) t2 D σ H := s_setf (D := { D with nx := t2 D }) hp c na hl ow n0 G q h cc
/-- the promise of __init__ -/
def SpI (ce : Ce) (K : PySem.W.Frag) (C : Addr) {α : Type} (R : Hp → List V → α → Prop) (f : α → M Wk) : Sp := fun vs H Q E => ∃ F H0 p dx x r, vs = .ref p :: r ∧ Ex F H0 ∧ H0 p = none ∧ H0 dx = none ∧ dx ≠ p ∧ H = upd (upd H0 dx (.own p)) p (.ins C dx []) ∧ R F r x ∧ Post ce (rv K) (f x) F H0 (fun v H' => v = .ref p → Q .non H') E
theorem raw_start {C p dx : Addr} (e : Ex F H) (h : H p = none) (hd : H dx = none) (ne : dx ≠ p) : Gr F H F (upd (upd H dx (.own p)) p (.ins C dx [])) ∧ Own K F (upd (upd H dx (.own p)) p (.ins C dx [])) p (RawO.mk C dx []) :=
  ⟨(Gr.own e hd).tr (Gr.own (Gr.own e hd).fh (by rw [upd_ne ne.symm]; exact h)), ⟨⟨_, upd_same, rfl⟩, ex_back e h⟩⟩
/-- the object is whole -/
theorem wk_done {C dx p : Addr} {u w : V} {pa : Int} {rs : List Row} (G : Gr F0 H0 F H) (n0 : H0 p = none) (o : Own K F H p (RawO.mk C dx (putF "rows" w (putF "parts" u [])))) (c : Cls K C) (n1 : NoAttr K C "parts") (n2 : NoAttr K C "rows") (r1 : rp K F u pa) (r2 : rp K F w rs) :
    ∃ F', Gr F0 H0 F' H ∧ rp K F' (.ref p) (Wk.mk pa rs) := by
  obtain ⟨F', g, e, ⟨p', h1, h2⟩, _⟩ := own_fix G o n0
  cases h1
  refine ⟨F', g, p, C, dx, _, u, w, rfl, h2, c, n1, n2, ?_, ?_, Rep.mo e r1, Rep.mo e r2⟩
  · rw [lookup_putF, if_neg (by decide +kernel), lookup_putF, if_pos rfl]
  · rw [lookup_putF, if_pos rfl]
theorem em_makeX {α : Type} {C : Addr} {ta : TA} {m1 : M α} {R : Hp → List V → α → Prop} {f : α → M Wk} (ha : EvAM ce E ta σ F H m1 R) : Ev ce E (tMake C (SpI ce K C R f) [] E ta) σ F H (rv K) (m1.bind fun x => f x) := fun F1 H1 g1 Q q => by
  refine ha F1 H1 g1 _ ?_
  cases m1 with
  | ok x =>
    intro F2 H2 vs g2 r2 p dx np nd ne
    rw [List.append_nil]
    refine ⟨F2, H2, p, dx, x, vs, rfl, g2.fh, np, nd, ne, rfl, r2, ?_⟩
    have q' := Post.mo g2 q
    have q'' : Post ce (rv K) (f x) F2 H2 Q E := q'
    revert q''
    cases f x with
    | ok r => exact fun z F3 H3 v g3 r3 e => ⟨rfl, by rw [← e]; exact z F3 H3 v g3 r3⟩
    | er c => exact fun z => z
    | bad => exact fun z => z
  | er c => exact q
  | bad => exact q
end
def trLen : Tr → M Int
  | .nd _ _ _ => .ok 3
  | .lf _ => .bad
theorem a_lenT {ce : Ce} {E : XK} {K : PySem.W.Frag} {x : Tr} : OpA ce E (RC K R0) (rLenS K) (rv K) (x, ()) (trLen x) := fun F1 H1 vs e ⟨v, r, e1, h, e3⟩ Q q => by
  cases e3
  cases x with
  | lf n => exact q.elim
  | nd s a b =>
    obtain ⟨p, w, z, h1, h2, h3, h4⟩ := h
    subst e1 h1
    exact ⟨p, _, rfl, .inr (ex_t e h2), q F1 H1 _ (Gr.rf e) rfl⟩
end Mw

set_option Elab.async false
set_option linter.all false
set_option maxRecDepth 100000
set_option maxHeartbeats 2000000
/-! Mw, part Q: told borders or trees. -/
namespace Mw
open PySem L2
open Rep (rp)
/-- ("shut", a pair) or ("tree", a tree) -/
inductive Sh where
  | shut (p : Int × Int)
  | tree (t : Tr)
  deriving DecidableEq
def wShut : Wd := wd (Str.ofString "shut")
def wTree : Wd := wd (Str.ofString "tree")
instance : Rep Sh := ⟨fun K H v x => match x with
  | .shut p => rp K H v (wShut, p)
  | .tree t => rp K H v (wTree, t), fun {K H H' v x} e h => by
    cases x with
    | shut p => exact Rep.mo (x := (wShut, p)) e h
    | tree t => exact Rep.mo (x := (wTree, t)) e h⟩
instance : Flat Wd := ⟨fun _ h => h⟩
instance : Flat Sh := ⟨fun {K H H' v x} e h => by
    cases x with
    | shut p => exact Flat.fl (x := (wShut, p)) e h
    | tree t => exact Flat.fl (x := (wTree, t)) e h⟩
instance : NN Sh := ⟨fun {K F v x} h => by
    cases x with
    | shut p => obtain ⟨a, u, w, h1, _⟩ := h; rw [h1]; exact fun z => nomatch z
    | tree t => obtain ⟨a, u, w, h1, _⟩ := h; rw [h1]; exact fun z => nomatch z⟩
instance : Ty Sh := ⟨"tuple", fun {K F H v x} e h => by
    cases x with
    | shut p => obtain ⟨a, u, w, h1, h2, _⟩ := h; subst h1; exact tyx_tup e h2
    | tree t => obtain ⟨a, u, w, h1, h2, _⟩ := h; subst h1; exact tyx_tup e h2⟩
noncomputable def shS (x : Wd × (Int × Int)) : M Sh := if x.1 = wShut then .ok (.shut x.2) else .bad
noncomputable def shT (x : Wd × Tr) : M Sh := if x.1 = wTree then .ok (.tree x.2) else .bad
def shW : Sh → Wd
  | .shut _ => wShut
  | .tree _ => wTree
def shV : Sh → M Tr
  | .shut _ => .bad
  | .tree t => .ok t
def shNe : Sh → Sh → M Bool
  | .shut p, .shut q => .ok (!decide (p = q))
  | _, _ => .bad
section
variable {ρ : Type} {ce : Ce} {E : XK} {K : PySem.W.Frag} {σ : L2.St} {F H F' H' F0 H0 : Hp} {te ta tb tc td : TE} {tt tu : TT}
theorem em_shS {m : M (Wd × (Int × Int))} (h : Ev ce E te σ F H (rv K) m) : Ev ce E te σ F H (rv K) (m.bind shS) := fun F1 H1 g1 Q q => by
  refine h F1 H1 g1 _ ?_
  cases m with
  | ok x =>
    intro F2 H2 v g2 r
    have q' : Post ce (rv K) (shS x) F1 H1 Q E := q
    unfold shS at q'
    split at q'
    · rename_i c
      refine q' F2 H2 v g2 ?_
      show rp K F2 v (wShut, x.2)
      rw [← c]
      exact r
    · exact q'.elim
  | er c => exact q
  | bad => exact q
theorem em_shT {m : M (Wd × Tr)} (h : Ev ce E te σ F H (rv K) m) : Ev ce E te σ F H (rv K) (m.bind shT) := fun F1 H1 g1 Q q => by
  refine h F1 H1 g1 _ ?_
  cases m with
  | ok x =>
    intro F2 H2 v g2 r
    have q' : Post ce (rv K) (shT x) F1 H1 Q E := q
    unfold shT at q'
    split at q'
    · rename_i c
      refine q' F2 H2 v g2 ?_
      show rp K F2 v (wTree, x.2)
      rw [← c]
      exact r
    · exact q'.elim
  | er c => exact q
  | bad => exact q
theorem o_shA {x : Sh} {i : Int} (hi : i = 0) : Op2 ce E K (rIxT K) (rv K) x i (.ok (shW x)) := fun F1 H1 vx vy e rx ry Q q => by
  cases x with
  | shut p => exact o_fst (x := (wShut, p)) hi F1 H1 vx vy e rx ry Q q
  | tree t => exact o_fst (x := (wTree, t)) hi F1 H1 vx vy e rx ry Q q
theorem o_shB {x : Sh} {i : Int} (hi : i = 1) : Op2 ce E K (rIxT K) (rv K) x i (shV x) := fun F1 H1 vx vy e rx ry Q q => by
  cases x with
  | shut p => exact q.elim
  | tree t => exact o_snd (x := (wTree, t)) hi F1 H1 vx vy e rx ry Q q
theorem a_lenSh {x : Sh} : OpA ce E (RC K R0) (rLenS K) (rv K) (x, ()) (.ok (2 : Int)) := fun F1 H1 vs e ⟨v, r, e1, h, e3⟩ Q q => by
  cases x with
  | shut p => exact a_len2 (x := (wShut, p)) F1 H1 vs e ⟨v, r, e1, h, e3⟩ Q q
  | tree t => exact a_len2 (x := (wTree, t)) F1 H1 vs e ⟨v, r, e1, h, e3⟩ Q q
theorem o_shNe {x y : Sh} : Op2 ce E K (rNeD K) (rv K) x y (shNe x y) := fun F1 H1 vx vy e rx ry Q q => by
  cases x with
  | tree t => cases y <;> exact q.elim
  | shut p =>
    cases y with
    | tree t => exact q.elim
    | shut r =>
      have ee : decide (p = r) = decide ((wShut, p) = (wShut, r)) := by
        rw [Bool.eq_iff_iff]; simp
      have q' : Post ce (rv K) (.ok (!decide (p = r))) F1 H1 Q E := q
      rw [ee] at q'
      exact o_neD (x := (wShut, p)) (y := (wShut, r)) (by decide) F1 H1 vx vy e rx ry Q q'
noncomputable def shlM (x y : Int) : M Int := chk (CPow x y) (x * 2 ^ y.toNat)
theorem o_shl {x y : Int} : Op2 ce E K (rI CPow fun i j => .int (i * 2 ^ j.toNat)) (rv K) x y (shlM x y) := o_Ic fun _ => rfl
end
end Mw
/-! ### xs.count(y), xs.index(y), len(set(xs)) -/
namespace Mw
open PySem L2
open Rep (rp)
section
variable {ρ α β : Type} [Rep α] [Rep β] {ce : Ce} {E : XK} {K : PySem.W.Frag} {σ : L2.St} {F H F' H' F0 H0 : Hp} {te ta tb tc td : TE} {tt tu : TT} {md : Md ρ}
def OpB (ce : Ce) (E : XK) (K : PySem.W.Frag) (r : V → List V → Hp → VK → Prop) (md : Md ρ) (xs : List Int) (y : Int) (m : M ρ) : Prop :=
  ∀ F1 H1 p, Ex F1 H1 → F1 p = some (.lst (xs.map V.int)) → ∀ Q, Post ce md m F1 H1 Q E → r (.ref p) [.int y] H1 Q
theorem em_bmi [MdMo md] {r : V → List V → Hp → VK → Prop} {m1 : M (List Int)} {m2 : M Int} {g : List Int → Int → M ρ} (ha : Ev ce E ta σ F H (rv K) m1) (hb : Ev ce E tb σ F H (rv K) m2) (hr : ∀ x y, OpB ce E K r md x y (g x y)) :
    Ev ce E (tBM K "list" r ta (tCons tb tNil)) σ F H md (m1.bind fun x => m2.bind fun y => g x y) := fun F1 H1 g1 Q q => by
  refine ha F1 H1 g1 _ ?_
  cases m1 with
  | er c => exact q
  | bad => exact q
  | ok x =>
    rintro F2 H2 v g2 ⟨p, vs, rfl, h2, h3⟩
    have e3 := paired_int h3
    subst e3
    refine ⟨.inl ⟨rfl, _, SqL.of (g2.fh _ _ h2)⟩, hb F2 H2 (g1.tr g2) _ ?_⟩
    cases m2 with
    | er c => exact fun H' e => q H' (g2.hh.tr e)
    | bad => exact q
    | ok y =>
      intro F3 H3 w g3 r3
      cases (show w = .int y from r3)
      exact hr x y F3 H3 p g3.fh (g3.ff _ _ h2) Q (Post.mo (g2.tr g3) q)
theorem o_cnt {xs : List Int} {y : Int} : OpB ce E K (rCntI K) (rv K) xs y (.ok ((xs.count y : Nat) : Int)) := fun F1 H1 p e h Q q =>
  ⟨p, xs, y, rfl, rfl, SqL.of (e _ _ h), q F1 H1 _ (Gr.rf e) rfl⟩
noncomputable def idxM (xs : List Int) (y : Int) : M Int := chk (y ∈ xs) ((xs.idxOf y : Nat) : Int)
theorem eqV_int (a b : Int) : eqV (.int a) (.int b) = decide (a = b) := by
  show (a == b) = _
  rw [Bool.eq_iff_iff]; simp
theorem o_idx {xs : List Int} {y : Int} : OpB ce E K (rIndex K) (rv K) xs y (idxM xs y) := fun F1 H1 p e h Q q => by
  unfold idxM chk at q
  split at q
  · rename_i hy
    have hl := List.idxOf_lt_length_of_mem hy
    refine ⟨p, xs.map V.int, .int y, xs.idxOf y, .int y, rfl, rfl, SqL.of (e _ _ h), rfl, ?_, ?_, ?_, ?_, q F1 H1 _ (Gr.rf e) rfl⟩
    · rw [List.all_eq_true]
      intro v hv
      obtain ⟨k, _, rfl⟩ := List.mem_map.mp hv
      rfl
    · rw [List.getElem?_map, List.getElem?_eq_getElem hl, List.getElem_idxOf hl]; rfl
    · rw [eqV_int]; exact decide_eq_true rfl
    · intro m z hm hz
      rw [List.getElem?_map, List.getElem?_eq_getElem (Nat.lt_trans hm hl)] at hz
      cases Option.some.inj hz
      rw [eqV_int]
      refine decide_eq_false fun z => ?_
      have := List.not_of_lt_findIdx (p := fun k => k == y) (xs := xs) (i := m) hm
      rw [z] at this
      simp at this
  · exact q.elim
/-- the unlike ones, as they are met -/
def met (xs : List Int) : List Int := PyProof.Rows.firstMet (fun i => xs.getD i 0) xs.length
noncomputable def lenSet (xs : List Int) : M Int := chk (xs.length < 64) ((met xs).length : Int)
def tLS (K : PySem.W.Frag) (ta : TE) : TE := fun σ H Q => ta σ H fun x H1 => ∃ p ns, x = V.ref p ∧ SqL K H1 p (ns.map V.int) ∧ List.length ns < 64 ∧ Q (.int (met ns).length) H1
theorem pe_lenSetZ {X : Cx} {a : Expr} {ta : TE} {p1 p2 p3 p4 : Pos} (calm : X.calm = true) (g1 : Gl X "len") (n1 : X.mg "len" = none) (g2 : Gl X "set") (n2 : X.mg "set" = none) (h : PE X a ta)
    (hs : starEach [a] X.env = (false, eval a X.env) :: starEach [] X.env := by rfl) : PE X (.Call (.Name "len" p1) [.Call (.Name "set" p2) [a] [] p3] [] p4) (tLS X.K ta) where
  run := fun pins s σ H Q I q =>
    PyProof.Rows.Call_ (ld_blt I g1 n1 PySem.boot_len (PyProof.Rows.callWith_builtin1 (PyProof.Rows.args_cons (PyProof.Rows.Call_ (ld_blt I g2 n2 PyProof.Rows.boot_set (PyProof.Rows.callWith_type1
      (PyProof.Rows.args_cons (thn (h.run pins s σ H _ I q) fun v s1 ⟨x, H1, I1, r1, p, ns, ex, sq, lt, q1⟩ => PyProof.Rows.args_nil (by
        subst ex
        cases r1
        obtain ⟨its, vals, plain, _⟩ := I1.list sq
        have size : its.toArray.size = ns.length := by rw [List.size_toArray, ← vals.length, List.length_map]
        refine call_set_list (ns := ns) (I1.ok.hd calm) plain.isList (by simpa using vals.ints) (by unfold scanBound; omega) fun heap toks made kept => ?_
        rw [size] at made
        have le := PyProof.Rows.firstMet_length_le (fun i => ns.getD i 0) ns.length
        obtain ⟨o, es, ep, t, at_, exact_, data, _, _, _, fits, many⟩ := made
        have I2 : Inv X pins σ H1 { s1 with heap := heap, toks := toks } := I1.kept fun b u e => kept b u (Heap.lt_size e) e
        exact PyProof.Rows.args_nil (call_len_set at_ exact_ data fits (by omega) ⟨.int (met ns).length, H1, I2.tok _, ⟨_, by rw [many]; rfl⟩, q1⟩))) hs) hs rfl))) rfl) rfl rfl))
theorem em_lenSet {m : M (List Int)} (ha : Ev ce E ta σ F H (rv K) m) : Ev ce E (tLS K ta) σ F H (rv K) (m.bind lenSet) := fun F1 H1 g1 Q q => by
  refine ha F1 H1 g1 _ ?_
  cases m with
  | er c => exact q
  | bad => exact q
  | ok x =>
    rintro F2 H2 v g2 ⟨p, vs, rfl, h2, h3⟩
    have e3 := paired_int h3
    subst e3
    have q' : Post ce (rv K) (lenSet x) F1 H1 Q E := q
    unfold lenSet chk at q'
    split at q'
    · rename_i hl
      exact ⟨p, x, rfl, SqL.of (g2.fh _ _ h2), hl, q' F2 H2 _ g2 rfl⟩
    · exact q'.elim
end
end Mw

set_option Elab.async false
set_option linter.all false
set_option maxRecDepth 100000
set_option maxHeartbeats 2000000
/-! Mw, part R: told pairs whose list is new, and is changed later. -/
namespace Mw
open PySem L2
open Rep (rp)
section
variable {ρ α β τ : Type} [Rep α] [Rep β] {ce : Ce} {E : XK} {K : PySem.W.Frag} {σ : L2.St} {F H F' H' F0 H0 F1 H1 Fb Hb : Hp} {te ta tb tc td : TE} {tt tu : TT} {md : Md ρ} {D : Ends} {P : τ → Prop}
/-- None, or a pair whose second part is a list that was not there in H -/
def Nu1 (K : PySem.W.Frag) (F H : Hp) (v : V) (x : Option (α × List β)) : Prop := match x with
  | none => v = .non
  | some y => ∃ a u q vs, v = .ref a ∧ SqT K F a [u, .ref q] ∧ rp K F u y.1 ∧ F q = some (.lst vs) ∧ Paired (rp K F) vs y.2 ∧ H q = none
theorem Nu1.rp {v : V} {x : Option (α × List β)} (h : Nu1 K F H v x) : rp K F v x := by
  cases x with
  | none => exact h
  | some y =>
    obtain ⟨a, u, q, vs, h1, h2, h3, h4, h5, _⟩ := h
    exact ⟨⟨a, u, .ref q, h1, h2, h3, ⟨q, vs, rfl, h4, h5⟩⟩, by rw [h1]; exact fun z => nomatch z⟩
def rf1 (K : PySem.W.Frag) : Md (Option (α × List β)) := fun _ H F' _ v r => Nu1 K F' H v r
instance : MdMo (rf1 K (α := α) (β := β)) := ⟨fun {F H F1 H1 F2 H2 v r} g h => by
  cases r with
  | none => exact h
  | some y =>
    obtain ⟨a, u, q, vs, h1, h2, h3, h4, h5, h6⟩ := h
    exact ⟨a, u, q, vs, h1, h2, h3, h4, h5, ex_back g.hh h6⟩⟩
theorem Ev.fv {m : M (Option (α × List β))} (h : Ev ce E te σ F H (rf1 K) m) : Ev ce E te σ F H (rv K) m := fun F1 H1 g1 Q q => by
  refine h F1 H1 g1 _ ?_
  cases m with
  | ok x => exact fun F2 H2 v g2 r => q F2 H2 v g2 r.rp
  | er c => exact q
  | bad => exact q
/-- x = e, e tells such a pair -/
theorem s_asgF {i : Nat} {m1 : M (Option (α × List β))} {k : Option (α × List β) → M τ} (G : Gr F0 H0 F H) (q : Wp ce E H0 (m1.bind k) P) (h : Ev ce E te σ F H (rf1 K) m1)
    (c : ∀ x F1 H1 v, Gr F H F1 H1 → Nu1 K F1 H v x → Wp ce E H0 (k x) P → D.nx (σ.set i (some v)) H1) : tAsg te (gName i) D σ H := by
  refine h F H (Gr.rf G.fh) _ ?_
  cases m1 with
  | ok x => exact fun F1 H1 v g r => c x F1 H1 v g r q
  | er cc => exact fun H' e => q H' (G.hh.tr e)
  | bad => exact q
theorem q_asgF {t2 : TS} {i : Nat} {m1 : M (Option (α × List β))} {k : Option (α × List β) → M τ} (G : Gr F0 H0 F H) (q : Wp ce E H0 (m1.bind k) P) (h : Ev ce E te σ F H (rf1 K) m1)
    (c : ∀ x F1 H1 v, Gr F H F1 H1 → Nu1 K F1 H v x → Wp ce E H0 (k x) P → t2 D (σ.set i (some v)) H1) : tSeq (tAsg te (gName i)) t2 D σ H := s_asgF (D := { D with nx := t2 D }) G q h c
/-- return (e, x), x a list of one's own -/
theorem s_retF {i : Nat} {p : Addr} {xs : List β} {m1 : M α} {k : Option (α × List β) → M τ} (hp : σ[i]? = some (some (.ref p))) (o : Own K F H p xs) (n0 : H0 p = none) (G : Gr F0 H0 F H) (q : Wp ce E H0 (m1.bind fun x => k (some (x, xs))) P)
    (h : Ev ce E te σ F H (rv K) m1) (hD : ∀ r F1 H1 v, Gr F0 H0 F1 H1 → rf1 K F0 H0 F1 H1 v r → Wp ce E H0 (k r) P → D.rt v H1) : tRet (tTup (tCons te (tCons (tVar i) tNil))) D σ H := by
  refine h F H (Gr.rf G.fh) _ ?_
  cases m1 with
  | er cc => exact fun H' e => q H' (G.hh.tr e)
  | bad => exact q
  | ok x =>
    intro F2 H2 v g r
    refine ⟨.ref p, hp, by show 2 ≤ sizeLine; decide, fun a na => ?_⟩
    have G2 := G.tr g
    obtain ⟨F3, G3, e3, ⟨q', vs, ez, h1, h2⟩, _⟩ := own_fix G2 (o.mo g) n0
    cases ez
    have gn := Gr.new (p := a) (o := .tup [v, .ref p]) G3.fh na
    exact hD (some (x, xs)) _ _ _ (G3.tr gn) ⟨a, v, p, vs, rfl, SqT.of upd_same, Rep.mo gn.ff (Rep.mo e3 r), gn.ff _ _ h1, paired_mo gn.ff h2, n0⟩ q
/-- back to what stood ahead of the call -/
theorem gr_back {q : Addr} {u : HO} (Gb : Gr F0 H0 Fb Hb) (n : Hb q = none) (e : Ex Fb H) (G : Ex H0 H) : Gr F0 H0 Fb (upd H q u) where
  ff := Gb.ff
  fh := fun a o h => by
    have : a ≠ q := fun z => by subst z; rw [Gb.fh a o h] at n; cases n
    rw [upd_ne this]; exact e a o h
  hh := fun a o h => by
    have : a ≠ q := fun z => by subst z; rw [Gb.hh a o h] at n; cases n
    rw [upd_ne this]; exact G a o h
  nw := Gb.nw
/-- x[1].append(e) -/
theorem s_appF {i : Nat} {v : V} {x : Option (α × List β)} {m1 : M β} {k : M τ} (hp : σ[i]? = some (some v)) (nu : Nu1 K F1 Hb v x) (e1 : Ex F1 F) (Gb : Gr F0 H0 Fb Hb) (eb : Ex Fb F1) (G : Gr F0 H0 F H)
    (q : Wp ce E H0 ((getM x).bind fun y => m1.bind fun z => (appM y.2 z).bind fun _ => k) P) (h : Ev ce E te σ F H (rv K) m1)
    (c : ∀ H2, Gr F0 H0 Fb H2 → Wp ce E H0 k P → D.nx σ H2) : tDrop (tBM K "list" rAppend (tOp (rIxT K) (tVar i) (tC (.int 1))) (tCons te tNil)) D σ H := by
  cases x with
  | none => exact q.elim
  | some y =>
    obtain ⟨a, u, p, vs, rfl, h2, h3, h4, h5, h6⟩ := nu
    have hF : H p = some (.lst vs) := G.fh _ _ (e1 _ _ h4)
    refine ⟨.ref a, hp, a, [u, .ref p], 1, .ref p, rfl, rfl, ex_t (e1.tr G.fh) h2, rfl, .inl ⟨rfl, vs, SqL.of hF⟩, ?_⟩
    have q1 : Wp ce E H0 (m1.bind fun z => (appM y.2 z).bind fun _ => k) P := q
    refine h F H (Gr.rf G.fh) _ ?_
    cases m1 with
    | er cc => exact fun H' e => q1 H' (G.hh.tr e)
    | bad => exact q1
    | ok z =>
      intro F2 H2 w g r
      have q2 : Wp ce E H0 ((appM y.2 z).bind fun _ => k) P := q1
      unfold appM chk at q2
      split at q2
      · rename_i hl
        refine ⟨p, vs, w, rfl, rfl, g.hh _ _ hF, ?_, ?_⟩
        · rw [Paired.length h5, sizeLine_eq]; omega
        · exact c _ (gr_back Gb h6 (((eb.tr e1).tr g.ff).tr g.fh) (G.tr g).hh) q2
      · exact q2.elim
theorem q_appF {t2 : TS} {i : Nat} {v : V} {x : Option (α × List β)} {m1 : M β} {k : M τ} (hp : σ[i]? = some (some v)) (nu : Nu1 K F1 Hb v x) (e1 : Ex F1 F) (Gb : Gr F0 H0 Fb Hb) (eb : Ex Fb F1) (G : Gr F0 H0 F H)
    (q : Wp ce E H0 ((getM x).bind fun y => m1.bind fun z => (appM y.2 z).bind fun _ => k) P) (h : Ev ce E te σ F H (rv K) m1)
    (c : ∀ H2, Gr F0 H0 Fb H2 → Wp ce E H0 k P → t2 D σ H2) : tSeq (tDrop (tBM K "list" rAppend (tOp (rIxT K) (tVar i) (tC (.int 1))) (tCons te tNil))) t2 D σ H := s_appF (D := { D with nx := t2 D }) hp nu e1 Gb eb G q h c
/-- x.append(e): x was new when it was told, nothing leans on it but what is forgotten now -/
theorem s_appT {i : Nat} {p : Addr} {xs : List α} {m1 : M α} {k : List α → M τ} (hp : σ[i]? = some (some (.ref p))) (rx : rp K F (.ref p) xs) (n0 : H0 p = none) (e0 : Ex F0 H0) (G : Gr F0 H0 F H)
    (q : Wp ce E H0 (m1.bind fun x => (appM xs x).bind k) P) (h : Ev ce E te σ F H (rv K) m1)
    (c : ∀ ys Fu Hu, Gr F0 H0 Fu Hu → (∀ Fb, Ex Fb F → Fb p = none → Ex Fb Fu) → (∀ (γ : Type) [Rep γ] [Flat γ] (r : Addr) (z : List γ), r ≠ p → Own K F H r z → Own K Fu Hu r z) → Wp ce E H0 (k ys) P → D.nx σ Hu) :
    tDrop (tBM K "list" rAppend (tVar i) (tCons te tNil)) D σ H := by
  obtain ⟨a, vs, ea, h1, h2⟩ := rx
  cases ea
  refine ⟨.ref p, hp, .inl ⟨rfl, vs, SqL.of (G.fh _ _ h1)⟩, h F H (Gr.rf G.fh) _ ?_⟩
  cases m1 with
  | er cc => exact fun H' e => q H' (G.hh.tr e)
  | bad => exact q
  | ok x =>
    intro F1 H1 v g r
    have w' : Wp ce E H0 ((appM xs x).bind k) P := q
    unfold appM chk at w'
    split at w'
    · rename_i hl
      have l1 := g.ff _ _ h1
      have f0 : F0 p = none := ex_back e0 n0
      have aq : ∀ b, b ≠ p → th F1 [p] b = F1 b := fun b hb => by unfold th; rw [if_neg (by simpa using hb)]
      have ap : th F1 [p] p = none := by unfold th; rw [if_pos (by simp)]
      have G1 := G.tr g
      have te1 : TupEx F1 (th F1 [p]) := th_tup fun b m ys rd => by
        rw [List.mem_singleton.mp m] at rd
        rcases rd with rd | ⟨o, rd⟩ <;> (rw [l1] at rd; cases rd)
      refine ⟨p, vs, v, rfl, rfl, g.fh _ _ l1, by rw [Paired.length h2, sizeLine_eq]; omega, c (xs ++ [x]) (th F1 [p]) _ ⟨fun b o e => ?_, fun b o e => ?_, fun b o e => ?_, fun b b1 b2 => ?_⟩ (fun Fb eb nb b o e => ?_) (fun γ _ _ r z hr o => ?_) w'⟩
      · have : b ≠ p := fun z => by subst z; rw [f0] at e; cases e
        rw [aq b this]; exact G1.ff b o e
      · have : b ≠ p := fun z => by subst z; rw [ap] at e; cases e
        rw [aq b this] at e
        rw [upd_ne this]; exact G1.fh b o e
      · have : b ≠ p := fun z => by subst z; rw [n0] at e; cases e
        rw [upd_ne this]; exact G1.hh b o e
      · by_cases z : b = p
        · subst z; exact ap
        · rw [aq b z]; exact G1.nw b b1 b2
      · have : b ≠ p := fun z => by subst z; rw [nb] at e; cases e
        rw [aq b this]; exact g.ff b o (eb b o e)
      · exact (own_fl (o.mo g) te1 (aq r hr)).upd hr
    · exact w'.elim
theorem q_appT {t2 : TS} {i : Nat} {p : Addr} {xs : List α} {m1 : M α} {k : List α → M τ} (hp : σ[i]? = some (some (.ref p))) (rx : rp K F (.ref p) xs) (n0 : H0 p = none) (e0 : Ex F0 H0) (G : Gr F0 H0 F H)
    (q : Wp ce E H0 (m1.bind fun x => (appM xs x).bind k) P) (h : Ev ce E te σ F H (rv K) m1)
    (c : ∀ ys Fu Hu, Gr F0 H0 Fu Hu → (∀ Fb, Ex Fb F → Fb p = none → Ex Fb Fu) → (∀ (γ : Type) [Rep γ] [Flat γ] (r : Addr) (z : List γ), r ≠ p → Own K F H r z → Own K Fu Hu r z) → Wp ce E H0 (k ys) P → t2 D σ Hu) :
    tSeq (tDrop (tBM K "list" rAppend (tVar i) (tCons te tNil))) t2 D σ H := s_appT (D := { D with nx := t2 D }) hp rx n0 e0 G q h c
end
end Mw

set_option Elab.async false
set_option linter.all false
set_option maxRecDepth 100000
set_option maxHeartbeats 4000000
/-! Mw, part S: a set made of a list of ints, its members sorted. -/
namespace L2
open PySem PySem.Spec PyProof.Rows
/-- the set as it is made, with nothing in it -/
abbrev eSet (w : World) : Obj := { cls := .type "set", dict := none, data := .set #[] 0 (.fresh 0 0 (!w.params.followText "set-order")) }
section
variable {P : Program} {w : World} {A : Around} {E : Value → Shared → Prop} {s : Shared}
theorem eset_call {l : Addr} {xs : Array Value} (ns : List Int) {Q : Value → Shared → Prop} (none_ : A.handled = none) (isL : s.heap.IsList l xs) (allI : IntsAre xs.toList ns) (few : ns.length + 1 < scanBound)
    (fin : ∀ (heap : Heap) (toks c : Nat), SetR w heap s.heap.objs.size (fun j => decide (j ∈ ns)) c → c ≤ ns.length → (∀ b o, s.heap.get? b = some o → heap.get? b = some o) → Q (.ref s.heap.objs.size) { s with heap := heap, toks := toks }) :
    wpAny (model P w) A (call (.type "set") [.ref l]) Q E s := by
  obtain ⟨c, tl, m0⟩ := F.called_set.mro
  have m1 := F.called_set.made
  have m2 := F.called_set.sub
  have m3 := F.called_set.notType
  have m4 := F.called_set.canCreate
  have m5 := F.typeCall_set_1 (.ref l)
  have m6 := F.called_set.init.lookup
  have m7 := F.called_set.init.bind (.ref s.heap.objs.size)
  refine wpAny_call (codeAny_of_tree (show wpAny _ _ (callAny (.type "set") _) _ _ _ from wpAny_pure ⟨Code.quiet_builtin _ (by decide +kernel), codeAny_builtin F.entry_type_call ?_⟩))
  rw [Around.under_plain (weight_type_call_type "set" [.ref l] []) rfl]
  repeat (any_goals (first | assumption | wp_step))
  refine codeAny_mono (code_set_led1 (.ref l) (E := E) (Q₁ := fun v s1 => v = .ref s.heap.objs.size ∧ s1 = { s with heap := s.heap.push (eSet w) }) ⟨rfl, rfl⟩) fun r s1 hr => ?_
  match r, hr with
  | .error e, hr => exact hr
  | .ok (.ret v), hr =>
    obtain ⟨rfl, rfl⟩ := hr
    have ty : Shared.TypeIs { s with heap := s.heap.push (eSet w) } (.ref s.heap.objs.size) "set" := ⟨_, Heap.get?_push_size _ rfl, rfl⟩
    repeat (any_goals (first | assumption | wp_step))
    refine codeAny_mono (codeAny_call_builtin (R := wants (fun v s2 => v = .none ∧ Q (.ref s.heap.objs.size) s2) E) F.called_set.init.plain F.entry_set_init (check_set_init_1 ty ?_)) fun r2 s2 hr2 => ?_
    · have many : xs.size = ns.length := (Array.length_toList).symm.trans (IntsAre.length allI)
      have made : (s.heap.push (eSet w)).get? s.heap.objs.size = some (eSet w) := Heap.get?_push_size _ rfl
      obtain ⟨⟨cl, di, da, sl⟩, at_, c1, n1, d1⟩ := isL
      simp only at c1 d1
      subst c1 d1
      have lt : l < s.heap.objs.size := Heap.lt_size at_
      have at2 : (s.heap.push (eSet w)).get? l = some { cls := .type "list", dict := di, data := .seq xs n1, slots := sl } := Heap.get?_push_of_some _ at_
      have L2' : (s.heap.push (eSet w)).IsList l xs := ⟨_, at2, rfl, n1, rfl⟩
      have k1 := F.sub_list_set
      have k2 := F.sub_list_frozenset
      have k3 : (Value.type "list" == Value.type "dict") = false := by decide
      unfold Builtin.«set.__init__» noKeywords Builtin.Frozenset.updateFrom
      generalize ePI : pyIter = PI
      wp_walk
      subst ePI
      refine wpAny_pyIter_list L2' (wpAny_bind (wpAny_runValue ?_))
      have sz : (s.heap.push (eSet w)).objs.size = s.heap.objs.size + 1 := Heap.size_push ..
      have ap : l ≠ (s.heap.push (eSet w)).objs.size := by rw [sz]; exact Nat.ne_of_lt (Nat.lt_succ_of_lt lt)
      have fr : s.heap.objs.size ∉ [(s.heap.push (eSet w)).objs.size, l] := by rw [sz]; simp; exact fun z => absurd lt (by rw [z]; exact Nat.lt_irrefl _)
      have inH : A.in1.in1.in1.handled = none := by simp [none_]
      refine set_update_ints ((Walks.list inH _ l ap xs).toS) s.heap.objs.size fr ns many few (fun i v hv => ?_) (xs.size - 0) 0 _ (by omega) (Nat.zero_le _)
        ⟨⟨_, Heap.get?_push_size _ rfl, rfl, rfl⟩, L2'.push _⟩ ⟨0, Nat.le_refl 0, setR_new_at (Heap.get?_push_of_some _ made)⟩ (fun s' c mv le R1 => ?_)
      · have hi : i < ns.length := by rw [← many]; exact (Array.getElem?_eq_some_iff.mp hv).1
        obtain ⟨t, e⟩ := IntsAre.int_at allI i v (by rw [Array.getElem?_toList]; exact hv)
        exact ⟨ns[i], t, List.getElem?_eq_getElem hi, by rw [e, List.getD_eq_getElem?_getD, List.getElem?_eq_getElem hi] <;> rfl⟩
      · obtain ⟨heap, gens, drawn, toks, os⟩ := s'
        cases (mv.gens : gens = s.gens)
        cases (mv.drawn : drawn = s.drawn)
        cases (mv.os : os = s.os)
        show wpAny _ _ _ _ _ _
        refine wpAny_pure (show wpAny _ _ (ret Value.none) _ _ _ from wpAny_pure ⟨rfl, fin heap toks c R1 (by rw [← many]; exact le) fun b o e => ?_⟩)
        have bl : b < s.heap.objs.size := Heap.lt_size e
        exact mv.heap b o (by rw [sz]; simp; exact ⟨Nat.ne_of_lt bl, Nat.ne_of_lt (Nat.lt_succ_of_lt bl)⟩) (Heap.get?_push_of_some _ (Heap.get?_push_of_some _ e))
    · match r2, hr2 with
      | .error e, hr2 => exact hr2
      | .ok (.ret v2), hr2 =>
        obtain ⟨rfl, q⟩ := hr2
        repeat (any_goals (first | assumption | wp_step))
end
section
variable {X : Cx}
/-- set(xs), xs a list of ints -/
def rSetI (K : PySem.W.Frag) (w : World) : List V → Hp → VK → Prop := fun vs H Q => ∃ l ns, vs = [V.ref l] ∧ SqL K H l (ns.map V.int) ∧ List.length ns < 64 ∧ ∀ p c, H p = none → c ≤ ns.length → Q (.ref p) (upd H p (SetO w p (fun j => decide (j ∈ ns)) c))
theorem cr_setI (calm : X.calm = true) : CallR X (.type "set") (rSetI X.K X.w) := by
  intro pins s σ H vs us Q I r h
  obtain ⟨l, ns, rfl, sq, lt, q⟩ := h
  rw [Vals.ref1 r]
  obtain ⟨its, vals, plain, _⟩ := I.list sq
  have e := vals.length
  rw [List.length_map] at e
  refine eset_call ns (I.ok.hd calm) plain.isList (by simpa using vals.ints) (by unfold scanBound; omega) fun heap toks c R1 le k => ?_
  exact ⟨.ref _, upd H s.heap.objs.size (SetO X.w s.heap.objs.size (fun j => decide (j ∈ ns)) c), I.laid (t' := toks) k (Nat.le_refl _) (setO_new R1), rfl, q _ c (I.hok.fresh (Nat.le_refl _)) le⟩
end
end L2
namespace Mw
open PySem L2
open Rep (rp)
/-- each once -/
def once : List Int → List Int
  | [] => []
  | x :: r => if x ∈ once r then once r else x :: once r
theorem once_mem : ∀ {l : List Int} {x : Int}, x ∈ once l ↔ x ∈ l
  | [], x => Iff.rfl
  | y :: r, x => by
    unfold once
    split
    · rename_i h
      rw [once_mem, List.mem_cons]
      exact ⟨.inr, fun z => z.elim (fun e => e ▸ once_mem.mp h) id⟩
    · rw [List.mem_cons, List.mem_cons, once_mem]
theorem once_nd : ∀ l : List Int, (once l).Nodup
  | [] => List.nodup_nil
  | y :: r => by
    unfold once
    split
    · exact once_nd r
    · rename_i h
      exact List.nodup_cons.mpr ⟨h, once_nd r⟩
theorem once_len : ∀ l : List Int, (once l).length ≤ l.length
  | [] => Nat.le_refl 0
  | y :: r => by
    have := once_len r
    unfold once
    split
    · rw [List.length_cons]; omega
    · rw [List.length_cons, List.length_cons]; omega
/-- sorted(set(xs)) -/
def sortU (xs : List Int) : List Int := sortI (once xs)
theorem sortU_is {xs ns : List Int} (h : ns.Pairwise (· < ·)) (m : ∀ k, k ∈ ns ↔ k ∈ xs) : ns = sortU xs := by
  have nd : ns.Nodup := h.imp fun a => by intro z; omega
  have pm : ns.Perm (sortU xs) := by
    refine List.Perm.trans ?_ (sortI_perm _).symm
    rw [List.perm_ext_iff_of_nodup nd (once_nd xs)]
    exact fun k => (m k).trans once_mem.symm
  exact sorted_same pm (h.imp fun a => Int.le_of_lt a) (sortI_sorted _)
theorem sortU_lt (xs : List Int) : (sortU xs).Pairwise (· < ·) := L2.lt_of_le_nodup _ (sortI_sorted _) ((sortI_perm _).nodup_iff.mpr (once_nd xs))
theorem sortU_mem {xs : List Int} {x : Int} : x ∈ sortU xs ↔ x ∈ xs := ((sortI_perm _).mem_iff).trans once_mem
theorem sortU_len (xs : List Int) : (sortU xs).length ≤ xs.length := by
  unfold sortU
  rw [(sortI_perm _).length_eq]
  exact once_len xs
noncomputable def sortUM (xs : List Int) : M (List Int) := chk (xs.length < 64) (sortU xs)
section
variable {ce : Ce} {E : XK} {K : PySem.W.Frag} {wo : World} {σ : L2.St} {F H : Hp} {te : TE}
theorem em_sortU {m : M (List Int)} (h : Ev ce E te σ F H (rv K) m) : Ev ce E (tCB (rSortedSet wo) (tCons (tCB (rSetI K wo) (tCons te tNil)) tNil)) σ F H (rn K) (m.bind sortUM) := fun F1 H1 g1 Q q => by
  show te σ H1 _
  refine h F1 H1 g1 _ ?_
  cases m with
  | er c => exact q
  | bad => exact q
  | ok x =>
    rintro F2 H2 v g2 ⟨l, vs, rfl, h2, h3⟩
    cases paired_int h3
    have q' : Post ce (rn K) (sortUM x) F1 H1 Q E := q
    unfold sortUM chk at q'
    split at q'
    · rename_i lt
      refine ⟨l, x, rfl, SqL.of (g2.fh _ _ h2), lt, fun p c np le => ?_⟩
      have g3 := Gr.own (o := SetO wo p (fun j => decide (j ∈ x)) c) g2.fh np
      refine ⟨p, _, c, rfl, upd_same, by omega, fun ns r hs hm hl nr => ?_⟩
      have e := sortU_is hs fun k => (hm k).trans decide_eq_true_iff
      subst e
      have g4 := Gr.own (o := .lst ((sortU x).map V.int)) g3.fh nr
      exact q' F2 _ _ ((g2.tr g3).tr g4) ⟨r, _, rfl, ex_back (g2.tr g3).hh nr, ex_back g3.fh nr, upd_same, rep_int _⟩
    · exact q'.elim
end
end Mw

set_option Elab.async false
set_option linter.all false
set_option maxRecDepth 100000
set_option maxHeartbeats 4000000
noncomputable section
namespace Kx
open PySem L2 Mw
open Rep (rp)
def FUEL : Nat := 1000000
theorem pow_10_60 : (10 : Int) ^ (60 : Int).toNat = 1000000000000000000000000000000000000000000000000000000000000 := by decide +kernel
/-! ### _law_whole_to -/
@[irreducible] def m_law_whole_to (a0_rows : (List Row)) (a1_row : Int) (a2_size : Int) : M (Option Int) :=
  (((M.ok a0_rows).bind fun x_47 => (M.ok a1_row).bind fun y_48 => ixM x_47 y_48).bind fun told_49 => ((((M.ok told_49).bind fun x_55 => (M.ok (0 : Int)).bind fun y_56 => ixM x_55.cs y_56).bind fun x_57 => (M.ok (Cl.w (wd (Str.ofString "mesh")))).bind fun y_58 => .ok (decide (x_57 = y_58))).bind fun b => if b then (((((((M.ok told_49).bind fun x_66 => (M.ok (3 : Int)).bind fun y_67 => ixM x_66.cs y_67).bind clI).bind fun x_72 => ((((M.ok told_49).bind fun x_68 => (M.ok (2 : Int)).bind fun y_69 => ixM x_68.cs y_69).bind clI).bind fun x_70 => (M.ok ([] : List Int)).bind fun y_71 => .ok (x_70 :: y_71)).bind fun y_73 => .ok (x_72 :: y_73)).bind fun x_74 => chk (x_74.length ≤ 1000) x_74).bind fun x_82 => ((((M.ok a2_size).bind fun x_77 => (((M.ok told_49).bind fun x_75 => (M.ok (1 : Int)).bind fun y_76 => ixM x_75.cs y_76).bind clI).bind fun y_78 => .ok (decide (x_77 ≤ y_78))).bind fun x_79 => (M.ok ()).bind fun y_80 => .ok (x_79, y_80)).bind fun a_81 => .ok (if a_81.1 then (1 : Int) else 0)).bind fun y_83 => ixM x_82 y_83).bind fun x_84 => .ok (some x_84)) else ((andM (((M.ok told_49).bind fun x_85 => (M.ok (0 : Int)).bind fun y_86 => ixM x_85.cs y_86).bind fun x_87 => (M.ok (Cl.w (wd (Str.ofString "crush")))).bind fun y_88 => .ok (decide (x_87 = y_88))) (M.ok (decide (a2_size = (1 : Int))))).bind fun b => if b then ((((M.ok told_49).bind fun x_92 => (M.ok (1 : Int)).bind fun y_93 => ixM x_92.cs y_93).bind clI).bind fun x_94 => .ok (some x_94)) else (M.ok (none : (Option Int))))))
/-! ### _law_goes_round -/
@[irreducible] def m_law_goes_round_b2 (a0_rows : (List Row)) (a1_size : Int) (x_219 : Int) (s_218 : (Option Int)) : M (Ctl (Option Int) (Ctl Unit Bool)) :=
  ((M.ok (Option.isSome s_218)).bind fun b => if b then ((((M.ok a0_rows).bind fun x_247 => (((M.ok s_218).bind getM).bind fun x_245 => ((M.ok a1_size).bind fun x_243 => (M.ok ()).bind fun y_244 => .ok (x_243, y_244)).bind fun y_246 => .ok (x_245, y_246)).bind fun y_248 => .ok (x_247, y_248)).bind fun a_249 => (m_law_whole_to a_249.1 a_249.2.1 a_249.2.2.1).ne).bind fun here_250 => (M.ok (.nx here_250))) else (M.ok (.nx s_218)))
@[irreducible] def m_law_goes_round_b1 (a0_rows : (List Row)) (a1_size : Int) (x_190 : Int) (s_189 : Unit) : M (Ctl Unit Bool) :=
  ((M.ok (some x_190)).bind fun here_210 => (((M.ok (List.length a0_rows : Int)).bind rng1M).bind fun xs_268 => forM (m_law_goes_round_b2 a0_rows a1_size) (fun s_259 => ((M.ok (Option.isSome s_259)).bind fun b => if b then ((M.ok true).bind fun r_266 => .ok (.rt r_266)) else (M.ok (.nx ())))) xs_268 here_210))
@[irreducible] def m_law_goes_round (a0_rows : (List Row)) (a1_size : Int) : M Bool :=
  (((M.ok (List.length a0_rows : Int)).bind rng1M).bind fun xs_276 => forM (m_law_goes_round_b1 a0_rows a1_size) (fun s_271 => (M.ok false)) xs_276 ())
/-! ### _law_stuck -/
@[irreducible] def m_law_stuck_b1  (x_362 : Row) (s_361 : (List Int)) : M (Ctl (List Int) Bool) :=
  ((((M.ok x_362).bind fun x_383 => (M.ok (0 : Int)).bind fun y_384 => ixM x_383.cs y_384).bind fun x_385 => (M.ok (Cl.w (wd (Str.ofString "mesh")))).bind fun y_386 => .ok (decide (x_385 = y_386))).bind fun b => if b then (((M.ok s_361).bind fun x_401 => (((((M.ok x_362).bind fun x_390 => (M.ok (1 : Int)).bind fun y_391 => ixM x_390.cs y_391).bind clI).bind fun x_398 => (((((M.ok x_362).bind fun x_392 => (M.ok (1 : Int)).bind fun y_393 => ixM x_392.cs y_393).bind clI).bind fun x_394 => (M.ok (1 : Int)).bind fun y_395 => .ok (x_394 + y_395)).bind fun x_396 => (M.ok ([] : List Int)).bind fun y_397 => .ok (x_396 :: y_397)).bind fun y_399 => .ok (x_398 :: y_399)).bind fun x_400 => chk (x_400.length ≤ 1000) x_400).bind fun y_402 => catM x_401 y_402).bind fun sizes_403 => (M.ok (.nx sizes_403))) else (M.ok (.nx s_361)))
@[irreducible] def m_law_stuck (a0_rows : (List Row)) : M Bool :=
  ((M.ok [(1 : Int)]).bind fun sizes_353 => ((M.ok a0_rows).bind fun xs_428 => forM m_law_stuck_b1 (fun s_412 => (((((M.ok s_412).bind fun xs_421 => lcM (fun x_417 : Int => (m_law_goes_round a0_rows x_417).ne) (fun x_417 : Int => (M.ok x_417)) xs_421).bind fun x_422 => (M.ok ()).bind fun y_423 => .ok (x_422, y_423)).bind fun a_424 => .ok (List.length a_424.1 : Int)).bind fun x_425 => (M.ok (0 : Int)).bind fun y_426 => .ok (decide (y_426 < x_425)))) xs_428 sizes_353))
/-! ### good_row -/
@[irreducible] def m_good_row (a0_row : Row) (a1_many : Int) : M Bool :=
  ((andM (M.ok (decide ((a0_row.cs.length : Int) = (4 : Int)))) (((M.ok a0_row).bind fun x_472 => (M.ok (0 : Int)).bind fun y_473 => ixM x_472.cs y_473).bind fun x_474 => (M.ok (Cl.w (wd (Str.ofString "mesh")))).bind fun y_475 => .ok (decide (x_474 = y_475)))).bind fun b => if b then (andM ((M.ok (1 : Int)).bind fun x_481 => (((M.ok a0_row).bind fun x_479 => (M.ok (1 : Int)).bind fun y_480 => ixM x_479.cs y_480).bind clI).bind fun y_482 => if decide (x_481 ≤ y_482) then (M.ok (1000000000000000000000000000000000000000000000000000000000000)).bind fun z_483 => .ok (decide (y_482 ≤ z_483)) else .ok false) (andM ((M.ok (0 : Int)).bind fun x_486 => (((M.ok a0_row).bind fun x_484 => (M.ok (2 : Int)).bind fun y_485 => ixM x_484.cs y_485).bind clI).bind fun y_487 => if decide (x_486 ≤ y_487) then (M.ok a1_many).bind fun z_488 => .ok (decide (y_487 < z_488)) else .ok false) ((M.ok (0 : Int)).bind fun x_491 => (((M.ok a0_row).bind fun x_489 => (M.ok (3 : Int)).bind fun y_490 => ixM x_489.cs y_490).bind clI).bind fun y_492 => if decide (x_491 ≤ y_492) then (M.ok a1_many).bind fun z_493 => .ok (decide (y_492 < z_493)) else .ok false))) else ((andM (M.ok (decide ((a0_row.cs.length : Int) = (2 : Int)))) (((M.ok a0_row).bind fun x_494 => (M.ok (0 : Int)).bind fun y_495 => ixM x_494.cs y_495).bind fun x_496 => (M.ok (Cl.w (wd (Str.ofString "crush")))).bind fun y_497 => .ok (decide (x_496 = y_497)))).bind fun b => if b then ((M.ok (0 : Int)).bind fun x_503 => (((M.ok a0_row).bind fun x_501 => (M.ok (1 : Int)).bind fun y_502 => ixM x_501.cs y_502).bind clI).bind fun y_504 => if decide (x_503 ≤ y_504) then (M.ok a1_many).bind fun z_505 => .ok (decide (y_504 < z_505)) else .ok false) else (andM (M.ok (decide ((a0_row.cs.length : Int) = (2 : Int)))) (andM (((M.ok a0_row).bind fun x_506 => (M.ok (0 : Int)).bind fun y_507 => ixM x_506.cs y_507).bind fun x_508 => (M.ok (Cl.w (wd (Str.ofString "bin")))).bind fun y_509 => .ok (decide (x_508 = y_509))) ((M.ok (0 : Int)).bind fun x_512 => (((M.ok a0_row).bind fun x_510 => (M.ok (1 : Int)).bind fun y_511 => ixM x_510.cs y_511).bind clI).bind fun y_513 => if decide (x_512 ≤ y_513) then (M.ok (5)).bind fun z_514 => .ok (decide (y_513 ≤ z_514)) else .ok false)))))
/-! ### Works -/
@[irreducible] def m_Works_b1 (a2_rows : (List Row)) (x_520 : Row) (s_519 : Unit) : M (Ctl Unit Wk) :=
  ((notM (m_good_row x_520 (List.length a2_rows : Int)).ne).bind fun b => if b then (M.er ⟨"BadWorks"⟩) else (M.ok (.nx ())))
@[irreducible] def m_Works (a1_parts : Int) (a2_rows : (List Row)) : M Wk :=
  ((M.ok ((decide (a1_parts < (2 : Int))) || ((decide ((9) < a1_parts)) || ((decide ((List.length a2_rows : Int) < (1 : Int))) || (decide ((12) < (List.length a2_rows : Int))))))).bind fun b => if b then (M.er ⟨"BadWorks"⟩) else ((M.ok a2_rows).bind fun xs_567 => forM (m_Works_b1 a2_rows) (fun s_547 => ((M.ok a1_parts).bind fun parts_551 => ((M.ok a2_rows).bind fun rows_558 => (M.ok (Wk.mk parts_551 rows_558))))) xs_567 ()))
/-! ### _law_size -/
@[irreducible] def m_law_size (a0_cell : Int) : M Int :=
  ((M.ok (a0_cell / (4 : Int))).bind fun rest_580 => ((M.ok (decide ((a0_cell % (4 : Int)) = (0 : Int)))).bind fun b => if b then (M.ok ((1 : Int) + (rest_580 % (1000000000000000000000000000000000000000000000000000000000000 : Int)))) else ((M.ok (decide ((a0_cell % (4 : Int)) = (1 : Int)))).bind fun b => if b then (M.ok ((1000000000000000000000000000000000000000000000000000000000000 : Int) - (rest_580 % (9 : Int)))) else (M.ok ((1 : Int) + (rest_580 % (40 : Int)))))))
/-! ### _law_row -/
@[irreducible] def m_law_row (a0_cell : Int) (a1_many : Int) : M Row :=
  ((M.ok (a0_cell / (8 : Int))).bind fun rest_642 => ((M.ok (decide ((a0_cell % (8 : Int)) < (4 : Int)))).bind fun b => if b then (((M.ok (Cl.w (wd (Str.ofString "mesh")))).bind fun x_673 => (((((((M.ok rest_642).bind fun x_651 => (M.ok a1_many).bind fun y_652 => fdivM x_651 y_652).bind fun x_653 => (M.ok a1_many).bind fun y_654 => fdivM x_653 y_654).bind fun x_655 => (M.ok ()).bind fun y_656 => .ok (x_655, y_656)).bind fun a_657 => (m_law_size a_657.1).ne).bind fun x_664 => .ok (Cl.i x_664)).bind fun x_671 => ((((M.ok rest_642).bind fun x_658 => (M.ok a1_many).bind fun y_659 => modM x_658 y_659).bind fun x_665 => .ok (Cl.i x_665)).bind fun x_669 => (((((M.ok rest_642).bind fun x_660 => (M.ok a1_many).bind fun y_661 => fdivM x_660 y_661).bind fun x_662 => (M.ok a1_many).bind fun y_663 => modM x_662 y_663).bind fun x_666 => .ok (Cl.i x_666)).bind fun x_667 => (M.ok ([] : List Cl)).bind fun y_668 => .ok (x_667 :: y_668)).bind fun y_670 => .ok (x_669 :: y_670)).bind fun y_672 => .ok (x_671 :: y_672)).bind fun y_674 => .ok (x_673 :: y_674)).bind fun x_675 => chk (x_675.length ≤ 1000) (Row.mk x_675)) else ((M.ok (decide ((a0_cell % (8 : Int)) < (6 : Int)))).bind fun b => if b then (((M.ok (Cl.w (wd (Str.ofString "crush")))).bind fun x_684 => ((((M.ok rest_642).bind fun x_679 => (M.ok a1_many).bind fun y_680 => modM x_679 y_680).bind fun x_681 => .ok (Cl.i x_681)).bind fun x_682 => (M.ok ([] : List Cl)).bind fun y_683 => .ok (x_682 :: y_683)).bind fun y_685 => .ok (x_684 :: y_685)).bind fun x_686 => chk (x_686.length ≤ 1000) (Row.mk x_686)) else (((M.ok (Cl.w (wd (Str.ofString "bin")))).bind fun x_689 => ((M.ok (Cl.i (rest_642 % (6 : Int)))).bind fun x_687 => (M.ok ([] : List Cl)).bind fun y_688 => .ok (x_687 :: y_688)).bind fun y_690 => .ok (x_689 :: y_690)).bind fun x_691 => chk (x_691.length ≤ 1000) (Row.mk x_691)))))
/-! ### _law_cell_at -/
@[irreducible] def m_law_cell_at (a0_script : Scr) (a1_k : Int) : M Int :=
  ((M.ok (decide (a1_k < (a0_script.l.length : Int)))).bind fun b => if b then ((M.ok a0_script).bind fun x_700 => (M.ok a1_k).bind fun y_701 => ixS x_700 y_701) else (M.ok (0 : Int)))
/-! ### _law_plain -/
@[irreducible] def m_law_plain_b1 (a0_script : Scr) (a1_first : Int) (many_828 : Int) (x_847 : Int) (s_846 : (List Row)) : M (Ctl (List Row) Wk) :=
  ((m_law_cell_at a0_script ((a1_first + (1 : Int)) + x_847)).ne.bind fun cell_868 => ((M.ok ((many_828 - (1 : Int)) - x_847)).bind fun later_874 => ((M.ok ((decide ((0 : Int) < later_874)) && (decide ((cell_868 % (5 : Int)) < (4 : Int))))).bind fun b => if b then (((M.ok (x_847 + (1 : Int))).bind fun x_885 => ((M.ok (cell_868 / (5 : Int))).bind fun x_883 => (M.ok later_874).bind fun y_884 => modM x_883 y_884).bind fun y_886 => .ok (x_885 + y_886)).bind fun to_887 => (((M.ok (x_847 + (1 : Int))).bind fun x_895 => ((M.ok (cell_868 / (40 : Int))).bind fun x_893 => (M.ok later_874).bind fun y_894 => modM x_893 y_894).bind fun y_896 => .ok (x_895 + y_896)).bind fun beyond_897 => ((((M.ok (Cl.w (wd (Str.ofString "mesh")))).bind fun x_910 => (((m_law_size (cell_868 / (512 : Int))).ne.bind fun x_903 => .ok (Cl.i x_903)).bind fun x_908 => ((M.ok (Cl.i to_887)).bind fun x_906 => ((M.ok (Cl.i beyond_897)).bind fun x_904 => (M.ok ([] : List Cl)).bind fun y_905 => .ok (x_904 :: y_905)).bind fun y_907 => .ok (x_906 :: y_907)).bind fun y_909 => .ok (x_908 :: y_909)).bind fun y_911 => .ok (x_910 :: y_911)).bind fun x_912 => chk (x_912.length ≤ 1000) (Row.mk x_912)).bind fun x_919 => (appM s_846 x_919).bind fun rows_913 => (M.ok (.nx rows_913))))) else ((((M.ok (Cl.w (wd (Str.ofString "bin")))).bind fun x_922 => ((M.ok (Cl.i ((cell_868 / (5 : Int)) % (6 : Int)))).bind fun x_920 => (M.ok ([] : List Cl)).bind fun y_921 => .ok (x_920 :: y_921)).bind fun y_923 => .ok (x_922 :: y_923)).bind fun x_924 => chk (x_924.length ≤ 1000) (Row.mk x_924)).bind fun x_931 => (appM s_846 x_931).bind fun rows_925 => (M.ok (.nx rows_925))))))
@[irreducible] def m_law_plain (a0_script : Scr) (a1_first : Int) (a2_parts : Int) : M Wk :=
  (((M.ok (1 : Int)).bind fun x_826 => (((m_law_cell_at a0_script a1_first).ne.bind fun x_822 => (M.ok (8 : Int)).bind fun y_823 => fdivM x_822 y_823).bind fun x_824 => (M.ok (9 : Int)).bind fun y_825 => modM x_824 y_825).bind fun y_827 => .ok (x_826 + y_827)).bind fun many_828 => ((M.ok ([] : (List Row))).bind fun rows_834 => (((M.ok many_828).bind rng1M).bind fun xs_941 => forM (m_law_plain_b1 a0_script a1_first many_828) (fun s_935 => ((M.ok (a2_parts, s_935, ())).bind fun a_939 => (m_Works a_939.1 a_939.2.1))) xs_941 rows_834)))
/-! ### _law_free -/
@[irreducible] def m_law_free_b1 (a0_script : Scr) (a1_first : Int) (many_1056 : Int) (x_1072 : Int) (s_1071 : (List Row)) : M (Ctl (List Row) Wk) :=
  ((((m_law_cell_at a0_script ((a1_first + (1 : Int)) + x_1072)).ne.bind fun x_1095 => ((M.ok many_1056).bind fun x_1093 => (M.ok ()).bind fun y_1094 => .ok (x_1093, y_1094)).bind fun y_1096 => .ok (x_1095, y_1096)).bind fun a_1097 => (m_law_row a_1097.1 a_1097.2.1).ne).bind fun told_1098 => (M.bind ((((M.ok told_1098).bind fun x_1104 => (M.ok (0 : Int)).bind fun y_1105 => ixM x_1104.cs y_1105).bind fun x_1106 => (M.ok (Cl.w (wd (Str.ofString "crush")))).bind fun y_1107 => .ok (decide (x_1106 = y_1107))).bind fun b => if b then ((((M.ok (Cl.w (wd (Str.ofString "bin")))).bind fun x_1136 => ((((((M.ok told_1098).bind fun x_1129 => (M.ok (1 : Int)).bind fun y_1130 => ixM x_1129.cs y_1130).bind clI).bind fun x_1131 => (M.ok (6 : Int)).bind fun y_1132 => modM x_1131 y_1132).bind fun x_1133 => .ok (Cl.i x_1133)).bind fun x_1134 => (M.ok ([] : List Cl)).bind fun y_1135 => .ok (x_1134 :: y_1135)).bind fun y_1137 => .ok (x_1136 :: y_1137)).bind fun x_1138 => chk (x_1138.length ≤ 1000) (Row.mk x_1138)).bind fun told_1139 => (M.ok told_1139)) else (M.ok told_1098)) fun s_1111 => ((M.ok s_1111).bind fun x_1125 => (appM s_1071 x_1125).bind fun rows_1119 => (M.ok (.nx rows_1119)))))
@[irreducible] def m_law_free (a0_script : Scr) (a1_first : Int) (a2_parts : Int) : M Wk :=
  (((M.ok (1 : Int)).bind fun x_1054 => (((m_law_cell_at a0_script a1_first).ne.bind fun x_1050 => (M.ok (8 : Int)).bind fun y_1051 => fdivM x_1050 y_1051).bind fun x_1052 => (M.ok (9 : Int)).bind fun y_1053 => modM x_1052 y_1053).bind fun y_1055 => .ok (x_1054 + y_1055)).bind fun many_1056 => ((M.ok ([] : (List Row))).bind fun rows_1062 => (((M.ok many_1056).bind rng1M).bind fun xs_1157 => forM (m_law_free_b1 a0_script a1_first many_1056) (fun s_1148 => ((m_law_stuck s_1148).ne.bind fun b => if b then (m_law_plain a0_script a1_first a2_parts) else ((M.ok (a2_parts, s_1148, ())).bind fun a_1155 => (m_Works a_1155.1 a_1155.2.1)))) xs_1157 rows_1062)))
/-! ### _law_later -/
@[irreducible] def m_law_later_b1 (a1_more : Int) (x_1251 : Row) (s_1250 : (List Row)) : M (Ctl (List Row) (List Row)) :=
  ((((M.ok x_1251).bind fun x_1272 => (M.ok (0 : Int)).bind fun y_1273 => ixM x_1272.cs y_1273).bind fun x_1274 => (M.ok (Cl.w (wd (Str.ofString "mesh")))).bind fun y_1275 => .ok (decide (x_1274 = y_1275))).bind fun b => if b then ((((M.ok (Cl.w (wd (Str.ofString "mesh")))).bind fun x_1297 => (((M.ok x_1251).bind fun x_1279 => (M.ok (1 : Int)).bind fun y_1280 => ixM x_1279.cs y_1280).bind fun x_1295 => ((((((M.ok x_1251).bind fun x_1281 => (M.ok (2 : Int)).bind fun y_1282 => ixM x_1281.cs y_1282).bind clI).bind fun x_1283 => (M.ok a1_more).bind fun y_1284 => .ok (x_1283 + y_1284)).bind fun x_1289 => .ok (Cl.i x_1289)).bind fun x_1293 => ((((((M.ok x_1251).bind fun x_1285 => (M.ok (3 : Int)).bind fun y_1286 => ixM x_1285.cs y_1286).bind clI).bind fun x_1287 => (M.ok a1_more).bind fun y_1288 => .ok (x_1287 + y_1288)).bind fun x_1290 => .ok (Cl.i x_1290)).bind fun x_1291 => (M.ok ([] : List Cl)).bind fun y_1292 => .ok (x_1291 :: y_1292)).bind fun y_1294 => .ok (x_1293 :: y_1294)).bind fun y_1296 => .ok (x_1295 :: y_1296)).bind fun y_1298 => .ok (x_1297 :: y_1298)).bind fun x_1299 => chk (x_1299.length ≤ 1000) (Row.mk x_1299)).bind fun x_1306 => (appM s_1250 x_1306).bind fun made_1300 => (M.ok (.nx made_1300))) else ((M.ok x_1251).bind fun x_1313 => (appM s_1250 x_1313).bind fun made_1307 => (M.ok (.nx made_1307))))
@[irreducible] def m_law_later (a0_rows : (List Row)) (a1_more : Int) : M (List Row) :=
  ((M.ok ([] : (List Row))).bind fun made_1242 => ((M.ok a0_rows).bind fun xs_1322 => forM (m_law_later_b1 a1_more) (fun s_1317 => (M.ok s_1317)) xs_1322 made_1242))
/-! ### _law_beyond -/
@[irreducible] def m_law_beyond (a0_told : Row) (a1_at : Int) : M Row :=
  ((((M.ok a0_told).bind fun x_1365 => (M.ok (0 : Int)).bind fun y_1366 => ixM x_1365.cs y_1366).bind fun x_1367 => (M.ok (Cl.w (wd (Str.ofString "mesh")))).bind fun y_1368 => .ok (!decide (x_1367 = y_1368))).bind fun b => if b then (M.ok a0_told) else (((M.ok (Cl.w (wd (Str.ofString "mesh")))).bind fun x_1404 => (((M.ok a0_told).bind fun x_1372 => (M.ok (1 : Int)).bind fun y_1373 => ixM x_1372.cs y_1373).bind fun x_1402 => ((((((M.ok a0_told).bind fun x_1374 => (M.ok (2 : Int)).bind fun y_1375 => ixM x_1374.cs y_1375).bind clI).bind fun x_1383 => ((((((M.ok a0_told).bind fun x_1376 => (M.ok (2 : Int)).bind fun y_1377 => ixM x_1376.cs y_1377).bind clI).bind fun x_1378 => (M.ok a1_at).bind fun y_1379 => .ok (decide (y_1379 ≤ x_1378))).bind fun x_1380 => (M.ok ()).bind fun y_1381 => .ok (x_1380, y_1381)).bind fun a_1382 => .ok (if a_1382.1 then (1 : Int) else 0)).bind fun y_1384 => .ok (x_1383 + y_1384)).bind fun x_1396 => .ok (Cl.i x_1396)).bind fun x_1400 => ((((((M.ok a0_told).bind fun x_1385 => (M.ok (3 : Int)).bind fun y_1386 => ixM x_1385.cs y_1386).bind clI).bind fun x_1394 => ((((((M.ok a0_told).bind fun x_1387 => (M.ok (3 : Int)).bind fun y_1388 => ixM x_1387.cs y_1388).bind clI).bind fun x_1389 => (M.ok a1_at).bind fun y_1390 => .ok (decide (y_1390 ≤ x_1389))).bind fun x_1391 => (M.ok ()).bind fun y_1392 => .ok (x_1391, y_1392)).bind fun a_1393 => .ok (if a_1393.1 then (1 : Int) else 0)).bind fun y_1395 => .ok (x_1394 + y_1395)).bind fun x_1397 => .ok (Cl.i x_1397)).bind fun x_1398 => (M.ok ([] : List Cl)).bind fun y_1399 => .ok (x_1398 :: y_1399)).bind fun y_1401 => .ok (x_1400 :: y_1401)).bind fun y_1403 => .ok (x_1402 :: y_1403)).bind fun y_1405 => .ok (x_1404 :: y_1405)).bind fun x_1406 => chk (x_1406.length ≤ 1000) (Row.mk x_1406)))
/-! ### _law_turned -/
@[irreducible] def m_law_turned (a0_works : Wk) (a1_cell : Int) : M Wk :=
  ((M.ok a0_works.rows).bind fun rows_1602 => (((M.ok (a1_cell / (4 : Int))).bind fun x_1609 => (M.ok (List.length rows_1602 : Int)).bind fun y_1610 => modM x_1609 y_1610).bind fun at_1611 => (M.bind ((M.ok (decide ((a1_cell % (4 : Int)) = (0 : Int)))).bind fun b => if b then (((((M.ok rows_1602).bind fun x_1738 => (M.ok at_1611).bind fun y_1739 => ixM x_1738 y_1739).bind fun x_1740 => (M.ok (0 : Int)).bind fun y_1741 => ixM x_1740.cs y_1741).bind fun x_1742 => (M.ok (Cl.w (wd (Str.ofString "mesh")))).bind fun y_1743 => .ok (decide (x_1742 = y_1743))).bind fun b => if b then ((((M.ok (Cl.w (wd (Str.ofString "mesh")))).bind fun x_1781 => (((((M.ok (1 : Int)).bind fun x_1763 => ((((((M.ok rows_1602).bind fun x_1755 => (M.ok at_1611).bind fun y_1756 => ixM x_1755 y_1756).bind fun x_1757 => (M.ok (1 : Int)).bind fun y_1758 => ixM x_1757.cs y_1758).bind clI).bind fun x_1759 => (M.ok ((a1_cell / (64 : Int)) % (3 : Int))).bind fun y_1760 => .ok (x_1759 - y_1760)).bind fun x_1761 => (M.ok ()).bind fun y_1762 => .ok (x_1761, y_1762)).bind fun y_1764 => .ok (x_1763, y_1764)).bind fun a_1765 => .ok (if a_1765.2.1 > a_1765.1 then a_1765.2.1 else a_1765.1)).bind fun x_1774 => .ok (Cl.i x_1774)).bind fun x_1779 => ((((M.ok rows_1602).bind fun x_1766 => (M.ok at_1611).bind fun y_1767 => ixM x_1766 y_1767).bind fun x_1768 => (M.ok (2 : Int)).bind fun y_1769 => ixM x_1768.cs y_1769).bind fun x_1777 => ((((M.ok rows_1602).bind fun x_1770 => (M.ok at_1611).bind fun y_1771 => ixM x_1770 y_1771).bind fun x_1772 => (M.ok (3 : Int)).bind fun y_1773 => ixM x_1772.cs y_1773).bind fun x_1775 => (M.ok ([] : List Cl)).bind fun y_1776 => .ok (x_1775 :: y_1776)).bind fun y_1778 => .ok (x_1777 :: y_1778)).bind fun y_1780 => .ok (x_1779 :: y_1780)).bind fun y_1782 => .ok (x_1781 :: y_1782)).bind fun x_1783 => chk (x_1783.length ≤ 1000) (Row.mk x_1783)).bind fun x_1747 => (M.ok at_1611).bind fun y_1748 => (setM rows_1602 y_1748 x_1747).bind fun rows_1749 => (M.ok rows_1749)) else ((((M.ok (Cl.w (wd (Str.ofString "bin")))).bind fun x_1794 => ((M.ok (Cl.i ((a1_cell / (64 : Int)) % (6 : Int)))).bind fun x_1792 => (M.ok ([] : List Cl)).bind fun y_1793 => .ok (x_1792 :: y_1793)).bind fun y_1795 => .ok (x_1794 :: y_1795)).bind fun x_1796 => chk (x_1796.length ≤ 1000) (Row.mk x_1796)).bind fun x_1784 => (M.ok at_1611).bind fun y_1785 => (setM rows_1602 y_1785 x_1784).bind fun rows_1786 => (M.ok rows_1786))) else (M.ok rows_1602)) fun s_1620 => (M.bind ((M.ok ((decide ((a1_cell % (4 : Int)) = (1 : Int))) && (decide ((List.length s_1620 : Int) < (12 : Int))))).bind fun b => if b then (((((((M.ok (Cl.w (wd (Str.ofString "mesh")))).bind fun x_1709 => ((M.ok (Cl.i ((1 : Int) + ((a1_cell / (64 : Int)) % (50 : Int))))).bind fun x_1707 => ((M.ok (Cl.i (1 : Int))).bind fun x_1705 => ((M.ok (Cl.i (1 : Int))).bind fun x_1703 => (M.ok ([] : List Cl)).bind fun y_1704 => .ok (x_1703 :: y_1704)).bind fun y_1706 => .ok (x_1705 :: y_1706)).bind fun y_1708 => .ok (x_1707 :: y_1708)).bind fun y_1710 => .ok (x_1709 :: y_1710)).bind fun x_1711 => chk (x_1711.length ≤ 1000) (Row.mk x_1711)).bind fun x_1712 => (M.ok ([] : List Row)).bind fun y_1713 => .ok (x_1712 :: y_1713)).bind fun x_1714 => chk (x_1714.length ≤ 1000) x_1714).bind fun x_1715 => (m_law_later s_1620 (1 : Int)).ne.bind fun y_1716 => catM x_1715 y_1716).bind fun rows_1724 => (M.ok rows_1724)) else (M.ok s_1620)) fun s_1629 => ((M.ok ((decide ((a1_cell % (4 : Int)) = (2 : Int))) && (decide ((List.length s_1629 : Int) < (12 : Int))))).bind fun b => if b then ((M.ok (List.length s_1629 : Int)).bind fun last_1640 => ((((m_law_later (cut s_1629 none (some at_1611)) (0 : Int)).ne.bind fun x_1654 => (((((M.ok (Cl.w (wd (Str.ofString "bin")))).bind fun x_1648 => ((M.ok (Cl.i (5 : Int))).bind fun x_1646 => (M.ok ([] : List Cl)).bind fun y_1647 => .ok (x_1646 :: y_1647)).bind fun y_1649 => .ok (x_1648 :: y_1649)).bind fun x_1650 => chk (x_1650.length ≤ 1000) (Row.mk x_1650)).bind fun x_1651 => (M.ok ([] : List Row)).bind fun y_1652 => .ok (x_1651 :: y_1652)).bind fun x_1653 => chk (x_1653.length ≤ 1000) x_1653).bind fun y_1655 => catM x_1654 y_1655).bind fun x_1656 => (m_law_later (cut s_1629 (some at_1611) none) (0 : Int)).ne.bind fun y_1657 => catM x_1656 y_1657).bind fun rows_1665 => (((M.ok a0_works.parts).bind fun x_1684 => (((M.ok (cut rows_1665 none (some (last_1640 + (1 : Int))))).bind fun xs_1681 => lcM (fun x_1677 : Row => (M.ok true)) (fun x_1677 : Row => (m_law_beyond x_1677 at_1611).ne) xs_1681).bind fun x_1682 => (M.ok ()).bind fun y_1683 => .ok (x_1682, y_1683)).bind fun y_1685 => .ok (x_1684, y_1685)).bind fun a_1686 => (m_Works a_1686.1 a_1686.2.1)))) else ((M.ok (a0_works.parts, s_1629, ())).bind fun a_1687 => (m_Works a_1687.1 a_1687.2.1)))))))
/-! ### _law_bin -/
@[irreducible] def m_law_bin_b1 (a0_rows : (List Row)) (a2_size : Int) (s_1876 : Int) : M (Ctl Int Int) :=
  ((((((((M.ok a0_rows).bind fun x_1913 => (M.ok s_1876).bind fun y_1914 => ixM x_1913 y_1914).bind fun x_1915 => (M.ok (3 : Int)).bind fun y_1916 => ixM x_1915.cs y_1916).bind clI).bind fun x_1923 => (((((M.ok a0_rows).bind fun x_1917 => (M.ok s_1876).bind fun y_1918 => ixM x_1917 y_1918).bind fun x_1919 => (M.ok (2 : Int)).bind fun y_1920 => ixM x_1919.cs y_1920).bind clI).bind fun x_1921 => (M.ok ([] : List Int)).bind fun y_1922 => .ok (x_1921 :: y_1922)).bind fun y_1924 => .ok (x_1923 :: y_1924)).bind fun x_1925 => chk (x_1925.length ≤ 1000) x_1925).bind fun x_1935 => ((((M.ok a2_size).bind fun x_1930 => ((((M.ok a0_rows).bind fun x_1926 => (M.ok s_1876).bind fun y_1927 => ixM x_1926 y_1927).bind fun x_1928 => (M.ok (1 : Int)).bind fun y_1929 => ixM x_1928.cs y_1929).bind clI).bind fun y_1931 => .ok (decide (x_1930 ≤ y_1931))).bind fun x_1932 => (M.ok ()).bind fun y_1933 => .ok (x_1932, y_1933)).bind fun a_1934 => .ok (if a_1934.1 then (1 : Int) else 0)).bind fun y_1936 => ixM x_1935 y_1936).bind fun row_1937 => (M.ok (.nx row_1937)))
@[irreducible] def m_law_bin_c1 (a0_rows : (List Row)) (s_1876 : Int) : M Bool :=
  ((((M.ok a0_rows).bind fun x_1883 => (M.ok s_1876).bind fun y_1884 => ixM x_1883 y_1884).bind fun x_1885 => (M.ok (0 : Int)).bind fun y_1886 => ixM x_1885.cs y_1886).bind fun x_1887 => (M.ok (Cl.w (wd (Str.ofString "mesh")))).bind fun y_1888 => .ok (decide (x_1887 = y_1888)))
@[irreducible] def m_law_bin (a0_rows : (List Row)) (a1_row : Int) (a2_size : Int) : M Int :=
  (whM (m_law_bin_c1 a0_rows) (m_law_bin_b1 a0_rows a2_size) (fun s_1946 => ((((M.ok a0_rows).bind fun x_1949 => (M.ok s_1946).bind fun y_1950 => ixM x_1949 y_1950).bind fun x_1951 => (M.ok (1 : Int)).bind fun y_1952 => ixM x_1951.cs y_1952).bind clI)) FUEL a1_row)
/-! ### _law_due -/
@[irreducible] def m_law_due_b2 (a0_one : Wk) (a1_other : Wk) (x_2123 : Int) (s_2122 : Unit) : M (Ctl Unit (Option Int)) :=
  (((m_law_bin a0_one.rows (0 : Int) x_2123).ne.bind fun x_2143 => (m_law_bin a1_other.rows (0 : Int) x_2123).ne.bind fun y_2144 => .ok (!decide (x_2143 = y_2144))).bind fun b => if b then ((M.ok (some x_2123)).bind fun r_2148 => .ok (.rt r_2148)) else (M.ok (.nx ())))
@[irreducible] def m_law_due_b1  (x_2067 : Row) (s_2066 : (List Int)) : M (Ctl (List Int) (Option Int)) :=
  ((((M.ok x_2067).bind fun x_2088 => (M.ok (0 : Int)).bind fun y_2089 => ixM x_2088.cs y_2089).bind fun x_2090 => (M.ok (Cl.w (wd (Str.ofString "mesh")))).bind fun y_2091 => .ok (decide (x_2090 = y_2091))).bind fun b => if b then (((M.ok s_2066).bind fun x_2106 => (((((M.ok x_2067).bind fun x_2095 => (M.ok (1 : Int)).bind fun y_2096 => ixM x_2095.cs y_2096).bind clI).bind fun x_2103 => (((((M.ok x_2067).bind fun x_2097 => (M.ok (1 : Int)).bind fun y_2098 => ixM x_2097.cs y_2098).bind clI).bind fun x_2099 => (M.ok (1 : Int)).bind fun y_2100 => .ok (x_2099 + y_2100)).bind fun x_2101 => (M.ok ([] : List Int)).bind fun y_2102 => .ok (x_2101 :: y_2102)).bind fun y_2104 => .ok (x_2103 :: y_2104)).bind fun x_2105 => chk (x_2105.length ≤ 1000) x_2105).bind fun y_2107 => catM x_2106 y_2107).bind fun sizes_2108 => (M.ok (.nx sizes_2108))) else (M.ok (.nx s_2066)))
@[irreducible] def m_law_due (a0_one : Wk) (a1_other : Wk) : M (Option Int) :=
  ((M.ok [(1 : Int)]).bind fun sizes_2056 => (((M.ok a0_one.rows).bind fun x_2062 => (M.ok a1_other.rows).bind fun y_2063 => catM x_2062 y_2063).bind fun xs_2158 => forM m_law_due_b1 (fun s_2117 => ((M.ok (sortI s_2117)).bind fun xs_2156 => forM (m_law_due_b2 a0_one a1_other) (fun s_2151 => (M.ok (none : (Option Int)))) xs_2156 ())) xs_2158 sizes_2056))
/-! ### pieces_of -/
@[irreducible] def m_pieces_of (a0_size : Int) (a1_parts : Int) : M (List (Int × Int)) :=
  ((((((M.ok a0_size).bind fun x_2228 => (M.ok a1_parts).bind fun y_2229 => fdivM x_2228 y_2229).bind fun x_2234 => ((M.ok a1_parts).bind fun x_2232 => ((M.ok a0_size).bind fun x_2230 => (M.ok a1_parts).bind fun y_2231 => modM x_2230 y_2231).bind fun y_2233 => .ok (x_2232 - y_2233)).bind fun x_2235 => .ok (x_2234, x_2235)).bind fun x_2246 => (((((M.ok a0_size).bind fun x_2236 => (M.ok a1_parts).bind fun y_2237 => fdivM x_2236 y_2237).bind fun x_2238 => (M.ok (1 : Int)).bind fun y_2239 => .ok (x_2238 + y_2239)).bind fun x_2242 => ((M.ok a0_size).bind fun x_2240 => (M.ok a1_parts).bind fun y_2241 => modM x_2240 y_2241).bind fun x_2243 => .ok (x_2242, x_2243)).bind fun x_2244 => (M.ok ([] : List (Int × Int))).bind fun y_2245 => .ok (x_2244 :: y_2245)).bind fun y_2247 => .ok (x_2246 :: y_2247)).bind fun x_2248 => chk (x_2248.length ≤ 1000) x_2248).bind fun pairs_2249 => ((M.ok pairs_2249).bind fun xs_2264 => lcM (fun x_2256 : (Int × Int) => (((M.ok x_2256.1).bind fun x_2259 => (M.ok x_2256.2).bind fun y_2260 => mulM x_2259 y_2260).bind fun x_2261 => (M.ok (0 : Int)).bind fun y_2262 => .ok (decide (y_2262 < x_2261)))) (fun x_2256 : (Int × Int) => (M.ok x_2256)) xs_2264))
/-! ### goes_on -/
@[irreducible] def m_goes_on (a0_works : Wk) (a1_row : Int) (a2_size : Int) : M (List (T3 Int Int Int)) :=
  (((M.ok a0_works.rows).bind fun x_2323 => (M.ok a1_row).bind fun y_2324 => ixM x_2323 y_2324).bind fun told_2325 => ((((M.ok told_2325).bind fun x_2331 => (M.ok (0 : Int)).bind fun y_2332 => ixM x_2331.cs y_2332).bind fun x_2333 => (M.ok (Cl.w (wd (Str.ofString "bin")))).bind fun y_2334 => .ok (decide (x_2333 = y_2334))).bind fun b => if b then (M.ok ([] : (List (T3 Int Int Int)))) else ((((M.ok told_2325).bind fun x_2338 => (M.ok (0 : Int)).bind fun y_2339 => ixM x_2338.cs y_2339).bind fun x_2340 => (M.ok (Cl.w (wd (Str.ofString "crush")))).bind fun y_2341 => .ok (decide (x_2340 = y_2341))).bind fun b => if b then ((m_pieces_of a2_size a0_works.parts).ne.bind fun xs_2357 => lcM (fun x_2346 : (Int × Int) => (M.ok true)) (fun x_2346 : (Int × Int) => ((((M.ok told_2325).bind fun x_2351 => (M.ok (1 : Int)).bind fun y_2352 => ixM x_2351.cs y_2352).bind clI).bind fun x_2353 => (M.ok x_2346.1).bind fun x_2354 => (M.ok x_2346.2).bind fun x_2355 => .ok (T3.mk x_2353 x_2354 x_2355))) xs_2357) else (((M.ok a2_size).bind fun x_2360 => (((M.ok told_2325).bind fun x_2358 => (M.ok (1 : Int)).bind fun y_2359 => ixM x_2358.cs y_2359).bind clI).bind fun y_2361 => .ok (decide (x_2360 ≤ y_2361))).bind fun b => if b then ((((((M.ok told_2325).bind fun x_2365 => (M.ok (2 : Int)).bind fun y_2366 => ixM x_2365.cs y_2366).bind clI).bind fun x_2367 => (M.ok a2_size).bind fun x_2368 => (M.ok (1 : Int)).bind fun x_2369 => .ok (T3.mk x_2367 x_2368 x_2369)).bind fun x_2370 => (M.ok ([] : List (T3 Int Int Int))).bind fun y_2371 => .ok (x_2370 :: y_2371)).bind fun x_2372 => chk (x_2372.length ≤ 1000) x_2372) else ((((((M.ok told_2325).bind fun x_2373 => (M.ok (3 : Int)).bind fun y_2374 => ixM x_2373.cs y_2374).bind clI).bind fun x_2375 => (M.ok a2_size).bind fun x_2376 => (M.ok (1 : Int)).bind fun x_2377 => .ok (T3.mk x_2375 x_2376 x_2377)).bind fun x_2378 => (M.ok ([] : List (T3 Int Int Int))).bind fun y_2379 => .ok (x_2378 :: y_2379)).bind fun x_2380 => chk (x_2380.length ≤ 1000) x_2380)))))
/-! ### bin_at -/
@[irreducible] def m_bin_at_b1 (a0_works : Wk) (a2_size : Int) (s_2431 : Int) : M (Ctl Int Int) :=
  ((((m_goes_on a0_works s_2431 a2_size).ne.bind fun x_2460 => (M.ok (0 : Int)).bind fun y_2461 => ixM x_2460 y_2461).bind fun x_2462 => .ok x_2462.a).bind fun row_2463 => (M.ok (.nx row_2463)))
@[irreducible] def m_bin_at_c1 (a0_works : Wk) (s_2431 : Int) : M Bool :=
  ((((M.ok a0_works.rows).bind fun x_2438 => (M.ok s_2431).bind fun y_2439 => ixM x_2438 y_2439).bind fun x_2440 => (M.ok (0 : Int)).bind fun y_2441 => ixM x_2440.cs y_2441).bind fun x_2442 => (M.ok (Cl.w (wd (Str.ofString "bin")))).bind fun y_2443 => .ok (!decide (x_2442 = y_2443)))
@[irreducible] def m_bin_at (a0_works : Wk) (a1_row : Int) (a2_size : Int) : M Int :=
  (whM (m_bin_at_c1 a0_works) (m_bin_at_b1 a0_works a2_size) (fun s_2472 => ((((M.ok a0_works.rows).bind fun x_2475 => (M.ok s_2472).bind fun y_2476 => ixM x_2475 y_2476).bind fun x_2477 => (M.ok (1 : Int)).bind fun y_2478 => ixM x_2477.cs y_2478).bind clI)) FUEL a1_row)
/-! ### sizes_looked -/
@[irreducible] def m_sizes_looked (a0_works : Wk) : M (List Int) :=
  (((M.ok a0_works.rows).bind fun xs_2521 => lcM (fun x_2511 : Row => (((M.ok x_2511).bind fun x_2514 => (M.ok (0 : Int)).bind fun y_2515 => ixM x_2514.cs y_2515).bind fun x_2516 => (M.ok (Cl.w (wd (Str.ofString "mesh")))).bind fun y_2517 => .ok (decide (x_2516 = y_2517)))) (fun x_2511 : Row => (((M.ok x_2511).bind fun x_2518 => (M.ok (1 : Int)).bind fun y_2519 => ixM x_2518.cs y_2519).bind clI)) xs_2521).bind fun openings_2522 => (((((M.ok [(1 : Int)]).bind fun x_2528 => (M.ok openings_2522).bind fun y_2529 => catM x_2528 y_2529).bind fun x_2536 => ((M.ok openings_2522).bind fun xs_2535 => lcM (fun x_2531 : Int => (M.ok true)) (fun x_2531 : Int => (M.ok (x_2531 + (1 : Int)))) xs_2535).bind fun y_2537 => catM x_2536 y_2537).bind fun x_2538 => (M.ok ()).bind fun y_2539 => .ok (x_2538, y_2539)).bind fun a_2540 => .ok (sortI a_2540.1)))
/-! ### whole_to -/
@[irreducible] def m_whole_to (a0_works : Wk) (a1_row : Int) (a2_size : Int) : M (Option Int) :=
  ((m_goes_on a0_works a1_row a2_size).ne.bind fun told_2563 => ((andM (M.ok (decide ((List.length told_2563 : Int) = (1 : Int)))) (andM ((((M.ok told_2563).bind fun x_2569 => (M.ok (0 : Int)).bind fun y_2570 => ixM x_2569 y_2570).bind fun x_2571 => .ok x_2571.b).bind fun x_2572 => (M.ok a2_size).bind fun y_2573 => .ok (decide (x_2572 = y_2573))) ((((M.ok told_2563).bind fun x_2574 => (M.ok (0 : Int)).bind fun y_2575 => ixM x_2574 y_2575).bind fun x_2576 => .ok x_2576.c).bind fun x_2577 => (M.ok (1 : Int)).bind fun y_2578 => .ok (decide (x_2577 = y_2578))))).bind fun b => if b then ((((M.ok told_2563).bind fun x_2582 => (M.ok (0 : Int)).bind fun y_2583 => ixM x_2582 y_2583).bind fun x_2584 => .ok x_2584.a).bind fun x_2585 => .ok (some x_2585)) else (M.ok (none : (Option Int)))))
/-! ### ring_from -/
@[irreducible] def m_ring_from_b1 (a0_works : Wk) (a2_size : Int) (s_2666 : ((List Int) × (Option Int))) : M (Ctl ((List Int) × (Option Int)) (List Int)) :=
  (((M.ok s_2666.2).bind getM).bind fun x_2700 => (appM s_2666.1 x_2700).bind fun way_2694 => ((((M.ok a0_works).bind fun x_2705 => (((M.ok s_2666.2).bind getM).bind fun x_2703 => ((M.ok a2_size).bind fun x_2701 => (M.ok ()).bind fun y_2702 => .ok (x_2701, y_2702)).bind fun y_2704 => .ok (x_2703, y_2704)).bind fun y_2706 => .ok (x_2705, y_2706)).bind fun a_2707 => (m_whole_to a_2707.1 a_2707.2.1 a_2707.2.2.1).ne).bind fun row_2708 => (M.ok (.nx (way_2694, row_2708)))))
@[irreducible] def m_ring_from_c1  (s_2666 : ((List Int) × (Option Int))) : M Bool :=
  (andM (M.ok (Option.isSome s_2666.2)) (((M.ok s_2666.2).bind getM).bind fun x_2674 => (M.ok s_2666.1).bind fun y_2675 => .ok (!decide (x_2674 ∈ y_2675))))
@[irreducible] def m_ring_from (a0_works : Wk) (a1_row : (Option Int)) (a2_size : Int) : M (List Int) :=
  ((M.ok ([] : (List Int))).bind fun way_2658 => (whM m_ring_from_c1 (m_ring_from_b1 a0_works a2_size) (fun s_2718 => ((M.ok (!Option.isSome s_2718.2)).bind fun b => if b then (M.ok ([] : (List Int))) else ((M.ok s_2718.1).bind fun x_2729 => (((M.ok s_2718.1).bind fun x_2724 => ((M.ok s_2718.2).bind getM).bind fun y_2725 => idxM x_2724 y_2725).bind fun x_2726 => .ok (some x_2726)).bind fun lo_2727 => (M.ok (none : Option Int)).bind fun hi_2728 => .ok (cut x_2729 lo_2727 hi_2728)))) FUEL (way_2658, a1_row)))
/-! ### ring_of -/
@[irreducible] def m_ring_of_b2 (a0_works : Wk) (x_2807 : Int) (x_2830 : Int) (s_2829 : Unit) : M (Ctl Unit (Ctl Unit (Option (Int × (List Int))))) :=
  ((m_ring_from a0_works (some x_2830) x_2807).ne.bind fun ring_2850 => ((M.ok (!decide (ring_2850 = ([] : List Int)))).bind fun b => if b then ((M.ok (some (x_2807, ring_2850))).bind fun r_2859 => .ok (.rt (.rt r_2859))) else (M.ok (.nx ()))))
@[irreducible] def m_ring_of_b1 (a0_works : Wk) (x_2807 : Int) (s_2806 : Unit) : M (Ctl Unit (Option (Int × (List Int)))) :=
  (((M.ok (List.length a0_works.rows : Int)).bind rng1M).bind fun xs_2867 => forM (m_ring_of_b2 a0_works x_2807) (fun s_2862 => (M.ok (.nx ()))) xs_2867 ())
@[irreducible] def m_ring_of (a0_works : Wk) : M (Option (Int × (List Int))) :=
  ((m_sizes_looked a0_works).ne.bind fun xs_2875 => forM (m_ring_of_b1 a0_works) (fun s_2870 => (M.ok (none : (Option (Int × (List Int)))))) xs_2875 ())
/-! ### form_of -/
@[irreducible] def m_form_of_b1 (a0_works : Wk) (a1_row : Int) (x_3045 : Int) (s_3044 : (List ((Option Int) × Int))) : M (Ctl (List ((Option Int) × Int)) (List ((Option Int) × Int))) :=
  ((m_bin_at a0_works a1_row x_3045).ne.bind fun found_3066 => (((M.ok found_3066).bind fun x_3075 => (((M.ok s_3044).bind fun x_3072 => (M.ok (0 : Int)).bind fun y_3073 => ixM x_3072 y_3073).bind fun x_3074 => .ok x_3074.2).bind fun y_3076 => .ok (!decide (x_3075 = y_3076))).bind fun b => if b then ((M.ok (0 : Int)).bind fun y_3087 => (M.ok ((some x_3045), found_3066)).bind fun x_3086 => (insM s_3044 y_3087 x_3086).bind fun form_3080 => (M.ok (.nx form_3080))) else (M.ok (.nx s_3044))))
@[irreducible] def m_form_of (a0_works : Wk) (a1_row : Int) : M (List ((Option Int) × Int)) :=
  ((((((M.ok a0_works.rows).bind fun xs_2997 => lcM (fun x_2989 : Row => (((M.ok x_2989).bind fun x_2992 => (M.ok (0 : Int)).bind fun y_2993 => ixM x_2992.cs y_2993).bind fun x_2994 => (M.ok (Cl.w (wd (Str.ofString "crush")))).bind fun y_2995 => .ok (decide (x_2994 = y_2995)))) (fun x_2989 : Row => (M.ok x_2989)) xs_2997).bind fun x_2998 => (M.ok ()).bind fun y_2999 => .ok (x_2998, y_2999)).bind fun a_3000 => .ok (List.length a_3000.1 : Int)).bind fun x_3001 => (M.ok (0 : Int)).bind fun y_3002 => .ok (decide (y_3002 < x_3001))).bind fun b => if b then (M.er ⟨"HasCrusher"⟩) else (((m_ring_of a0_works).ne.bind fun x_3006 => (M.ok ()).bind fun y_3007 => .ok (Option.isSome x_3006)).bind fun b => if b then (M.er ⟨"Stuck"⟩) else ((((M.ok a0_works.rows).bind fun xs_3022 => lcM (fun x_3012 : Row => (((M.ok x_3012).bind fun x_3015 => (M.ok (0 : Int)).bind fun y_3016 => ixM x_3015.cs y_3016).bind fun x_3017 => (M.ok (Cl.w (wd (Str.ofString "mesh")))).bind fun y_3018 => .ok (decide (x_3017 = y_3018)))) (fun x_3012 : Row => (((M.ok x_3012).bind fun x_3019 => (M.ok (1 : Int)).bind fun y_3020 => ixM x_3019.cs y_3020).bind clI)) xs_3022).bind sortUM).bind fun openings_3023 => ((m_bin_at a0_works a1_row ((1000000000000000000000000000000000000000000000000000000000000) + (1 : Int))).ne.bind fun last_3029 => ((M.ok [((none : (Option Int)), last_3029)]).bind fun form_3035 => (((M.ok openings_3023).bind fun x => .ok x.reverse).bind fun xs_3096 => forM (m_form_of_b1 a0_works a1_row) (fun s_3091 => (M.ok s_3091)) xs_3096 form_3035))))))
/-! ### bin_by -/
@[irreducible] def m_bin_by_b1 (a1_size : Int) (x_3142 : ((Option Int) × Int)) (s_3141 : Unit) : M (Ctl Unit Int) :=
  ((orM (M.ok (!Option.isSome x_3142.1)) ((M.ok a1_size).bind fun x_3164 => ((M.ok x_3142.1).bind getM).bind fun y_3165 => .ok (decide (x_3164 ≤ y_3165)))).bind fun b => if b then ((M.ok x_3142.2).bind fun r_3169 => .ok (.rt r_3169)) else (M.ok (.nx ())))
@[irreducible] def m_bin_by (a0_form : (List ((Option Int) × Int))) (a1_size : Int) : M Int :=
  ((M.ok a0_form).bind fun xs_3180 => forM (m_bin_by_b1 a1_size) (fun s_3172 => (((M.ok a0_form).bind fun x_3176 => (M.ok (-(1 : Int))).bind fun y_3177 => ixM x_3176 y_3177).bind fun x_3178 => .ok x_3178.2)) xs_3180 ())
/-! ### parted_at -/
@[irreducible] def m_parted_at_b1 (first_3247 : (List ((Option Int) × Int))) (second_3253 : (List ((Option Int) × Int))) (x_3279 : Int) (s_3278 : Unit) : M (Ctl Unit (Option Int)) :=
  (((m_bin_by first_3247 x_3279).ne.bind fun x_3299 => (m_bin_by second_3253 x_3279).ne.bind fun y_3300 => .ok (!decide (x_3299 = y_3300))).bind fun b => if b then ((M.ok (some x_3279)).bind fun r_3304 => .ok (.rt r_3304)) else (M.ok (.nx ())))
@[irreducible] def m_parted_at (a0_one : Wk) (a1_other : Wk) : M (Option Int) :=
  ((m_form_of a0_one (0 : Int)).bind fun first_3247 => ((m_form_of a1_other (0 : Int)).bind fun second_3253 => (((M.ok [(1 : Int)]).bind fun x_3269 => (((M.ok (cut first_3247 none (some (-(1 : Int))))).bind fun x_3259 => (M.ok (cut second_3253 none (some (-(1 : Int))))).bind fun y_3260 => catM x_3259 y_3260).bind fun xs_3268 => lcM (fun x_3262 : ((Option Int) × Int) => (M.ok true)) (fun x_3262 : ((Option Int) × Int) => (((M.ok x_3262.1).bind getM).bind fun x_3265 => (M.ok (1 : Int)).bind fun y_3266 => .ok (x_3265 + y_3266))) xs_3268).bind fun y_3270 => catM x_3269 y_3270).bind fun begins_3271 => ((M.ok (sortI begins_3271)).bind fun xs_3312 => forM (m_parted_at_b1 first_3247 second_3253) (fun s_3307 => (M.ok (none : (Option Int)))) xs_3312 ()))))
/-! ### _law_word -/
@[irreducible] def m_law_word (a0_one : Wk) (a1_other : Wk) : M Wd :=
  ((M.ok (wd (Str.ofString "told"))).bind fun word_3414 => (catchM ((m_parted_at a0_one a1_other).bind fun _ => (M.ok ())) (fun c => (if c.name = "HasCrusher" then ((M.ok (wd (Str.ofString "other"))).bind fun word_3443 => (M.bind ((M.ok (true && (!false))).bind fun b => if b then ((M.ok (wd (Str.ofString "crusher"))).bind fun word_3471 => (M.ok word_3471)) else (M.ok word_3443)) fun s_3452 => ((M.ok (false && (!true))).bind fun b => if b then ((M.ok (wd (Str.ofString "stuck"))).bind fun word_3462 => (M.ok word_3462)) else (M.ok s_3452)))) else (if c.name = "Stuck" then ((M.ok (wd (Str.ofString "other"))).bind fun word_3479 => (M.bind ((M.ok (false && (!true))).bind fun b => if b then ((M.ok (wd (Str.ofString "crusher"))).bind fun word_3507 => (M.ok word_3507)) else (M.ok word_3479)) fun s_3488 => ((M.ok (true && (!false))).bind fun b => if b then ((M.ok (wd (Str.ofString "stuck"))).bind fun word_3498 => (M.ok word_3498)) else (M.ok s_3488)))) else M.bad))) (fun s_3420 => (M.ok word_3414))))
/-! ### _law_refused -/
@[irreducible] def m_law_refused (a0_plain : Wk) (a1_cell : Int) : M Bool :=
  ((((M.ok (3 : Int)).bind fun x_3653 => ((((((M.ok (Cl.w (wd (Str.ofString "mesh")))).bind fun x_3638 => ((M.ok (Cl.i ((1 : Int) + ((a1_cell / (3 : Int)) % (1000000000000000000000000000000000000000000000000000000000000 : Int))))).bind fun x_3636 => ((((M.ok [(0 : Int), (1 : Int)]).bind fun x_3626 => (M.ok (a1_cell % (2 : Int))).bind fun y_3627 => ixM x_3626 y_3627).bind fun x_3630 => .ok (Cl.i x_3630)).bind fun x_3634 => ((((M.ok [(1 : Int), (0 : Int)]).bind fun x_3628 => (M.ok (a1_cell % (2 : Int))).bind fun y_3629 => ixM x_3628 y_3629).bind fun x_3631 => .ok (Cl.i x_3631)).bind fun x_3632 => (M.ok ([] : List Cl)).bind fun y_3633 => .ok (x_3632 :: y_3633)).bind fun y_3635 => .ok (x_3634 :: y_3635)).bind fun y_3637 => .ok (x_3636 :: y_3637)).bind fun y_3639 => .ok (x_3638 :: y_3639)).bind fun x_3640 => chk (x_3640.length ≤ 1000) (Row.mk x_3640)).bind fun x_3648 => ((((M.ok (Cl.w (wd (Str.ofString "bin")))).bind fun x_3643 => ((M.ok (Cl.i (2 : Int))).bind fun x_3641 => (M.ok ([] : List Cl)).bind fun y_3642 => .ok (x_3641 :: y_3642)).bind fun y_3644 => .ok (x_3643 :: y_3644)).bind fun x_3645 => chk (x_3645.length ≤ 1000) (Row.mk x_3645)).bind fun x_3646 => (M.ok ([] : List Row)).bind fun y_3647 => .ok (x_3646 :: y_3647)).bind fun y_3649 => .ok (x_3648 :: y_3649)).bind fun x_3650 => chk (x_3650.length ≤ 1000) x_3650).bind fun x_3651 => (M.ok ()).bind fun y_3652 => .ok (x_3651, y_3652)).bind fun y_3654 => .ok (x_3653, y_3654)).bind fun a_3655 => (m_Works a_3655.1 a_3655.2.1)).bind fun looped_3656 => ((((M.ok (4 : Int)).bind fun x_3679 => ((((((M.ok (Cl.w (wd (Str.ofString "bin")))).bind fun x_3664 => ((M.ok (Cl.i (1 : Int))).bind fun x_3662 => (M.ok ([] : List Cl)).bind fun y_3663 => .ok (x_3662 :: y_3663)).bind fun y_3665 => .ok (x_3664 :: y_3665)).bind fun x_3666 => chk (x_3666.length ≤ 1000) (Row.mk x_3666)).bind fun x_3674 => ((((M.ok (Cl.w (wd (Str.ofString "crush")))).bind fun x_3669 => ((M.ok (Cl.i (0 : Int))).bind fun x_3667 => (M.ok ([] : List Cl)).bind fun y_3668 => .ok (x_3667 :: y_3668)).bind fun y_3670 => .ok (x_3669 :: y_3670)).bind fun x_3671 => chk (x_3671.length ≤ 1000) (Row.mk x_3671)).bind fun x_3672 => (M.ok ([] : List Row)).bind fun y_3673 => .ok (x_3672 :: y_3673)).bind fun y_3675 => .ok (x_3674 :: y_3675)).bind fun x_3676 => chk (x_3676.length ≤ 1000) x_3676).bind fun x_3677 => (M.ok ()).bind fun y_3678 => .ok (x_3677, y_3678)).bind fun y_3680 => .ok (x_3679, y_3680)).bind fun a_3681 => (m_Works a_3681.1 a_3681.2.1)).bind fun broken_3682 => ((M.ok [[looped_3656, a0_plain], [a0_plain, looped_3656], [looped_3656, broken_3682]]).bind fun pairs_3688 => ((((M.ok pairs_3688).bind fun xs_3708 => lcM (fun x_3695 : (List Wk) => (M.ok true)) (fun x_3695 : (List Wk) => ((((M.ok x_3695).bind fun x_3698 => (M.ok (0 : Int)).bind fun y_3699 => ixM x_3698 y_3699).bind fun x_3704 => (((M.ok x_3695).bind fun x_3700 => (M.ok (1 : Int)).bind fun y_3701 => ixM x_3700 y_3701).bind fun x_3702 => (M.ok ()).bind fun y_3703 => .ok (x_3702, y_3703)).bind fun y_3705 => .ok (x_3704, y_3705)).bind fun a_3706 => (m_law_word a_3706.1 a_3706.2.1).ne)) xs_3708).bind fun x_3709 => (M.ok [(wd (Str.ofString "stuck")), (wd (Str.ofString "stuck")), (wd (Str.ofString "stuck"))]).bind fun y_3710 => .ok (!decide (x_3709 = y_3710))).bind fun b => if b then (M.ok false) else ((M.ok [[broken_3682, a0_plain], [a0_plain, broken_3682], [broken_3682, looped_3656], [broken_3682, broken_3682]]).bind fun pairs_3714 => (((M.ok pairs_3714).bind fun xs_3734 => lcM (fun x_3721 : (List Wk) => (M.ok true)) (fun x_3721 : (List Wk) => ((((M.ok x_3721).bind fun x_3724 => (M.ok (0 : Int)).bind fun y_3725 => ixM x_3724 y_3725).bind fun x_3730 => (((M.ok x_3721).bind fun x_3726 => (M.ok (1 : Int)).bind fun y_3727 => ixM x_3726 y_3727).bind fun x_3728 => (M.ok ()).bind fun y_3729 => .ok (x_3728, y_3729)).bind fun y_3731 => .ok (x_3730, y_3731)).bind fun a_3732 => (m_law_word a_3732.1 a_3732.2.1).ne)) xs_3734).bind fun x_3735 => (M.ok [(wd (Str.ofString "crusher")), (wd (Str.ofString "crusher")), (wd (Str.ofString "crusher")), (wd (Str.ofString "crusher"))]).bind fun y_3736 => .ok (decide (x_3735 = y_3736))))))))
/-! ### _law_whole -/
@[irreducible] def m_law_whole (a0_found : Int) : M Bool :=
  (M.ok (true && (!false)))
/-! ### law -/
@[irreducible] def m_law_b1  (x_3908 : (List Wk)) (s_3907 : Unit) : M (Ctl Unit Bool) :=
  (((((M.ok x_3908).bind fun x_3928 => (M.ok (0 : Int)).bind fun y_3929 => ixM x_3928 y_3929).bind fun x_3934 => (((M.ok x_3908).bind fun x_3930 => (M.ok (1 : Int)).bind fun y_3931 => ixM x_3930 y_3931).bind fun x_3932 => (M.ok ()).bind fun y_3933 => .ok (x_3932, y_3933)).bind fun y_3935 => .ok (x_3934, y_3935)).bind fun a_3936 => (m_law_due a_3936.1 a_3936.2.1).ne).bind fun due_3937 => (((((M.ok x_3908).bind fun x_3943 => (M.ok (0 : Int)).bind fun y_3944 => ixM x_3943 y_3944).bind fun x_3949 => (((M.ok x_3908).bind fun x_3945 => (M.ok (1 : Int)).bind fun y_3946 => ixM x_3945 y_3946).bind fun x_3947 => (M.ok ()).bind fun y_3948 => .ok (x_3947, y_3948)).bind fun y_3950 => .ok (x_3949, y_3950)).bind fun a_3951 => (m_parted_at a_3951.1 a_3951.2.1)).bind fun found_3952 => ((M.ok ((!Option.isSome due_3937) && (Option.isSome found_3952))).bind fun b => if b then ((M.ok false).bind fun r_3961 => .ok (.rt r_3961)) else ((andM (M.ok (Option.isSome due_3937)) (orM (notM ((((M.ok found_3952).bind getM).bind fun x_3962 => (M.ok ()).bind fun y_3963 => .ok (x_3962, y_3963)).bind fun a_3964 => (m_law_whole a_3964.1).ne)) (M.ok (!decide (found_3952 = due_3937))))).bind fun b => if b then ((M.ok false).bind fun r_3968 => .ok (.rt r_3968)) else (M.ok (.nx ()))))))
@[irreducible] def m_law (a0_script : Scr) : M Bool :=
  ((m_law_free a0_script (0 : Int) (2 : Int)).bind fun one_3872 => ((m_law_free a0_script (12 : Int) (9 : Int)).bind fun other_3878 => (M.bind ((((m_law_cell_at a0_script (11 : Int)).ne.bind fun x_3884 => (M.ok (2 : Int)).bind fun y_3885 => modM x_3884 y_3885).bind fun x_3886 => (M.ok (1 : Int)).bind fun y_3887 => .ok (decide (x_3886 = y_3887))).bind fun b => if b then ((((M.ok one_3872).bind fun x_3989 => (((m_law_cell_at a0_script (11 : Int)).ne.bind fun x_3985 => (M.ok (2 : Int)).bind fun y_3986 => fdivM x_3985 y_3986).bind fun x_3987 => (M.ok ()).bind fun y_3988 => .ok (x_3987, y_3988)).bind fun y_3990 => .ok (x_3989, y_3990)).bind fun a_3991 => (m_law_turned a_3991.1 a_3991.2.1)).bind fun other_3992 => ((m_law_stuck other_3992.rows).ne.bind fun b => if b then ((M.ok one_3872).bind fun other_4001 => (M.ok other_4001)) else (M.ok other_3992))) else (M.ok other_3878)) fun s_3891 => ((M.ok [one_3872.rows, s_3891.rows]).bind fun kept_3898 => ((M.ok [[one_3872, s_3891], [s_3891, one_3872], [one_3872, one_3872]]).bind fun xs_3981 => forM m_law_b1 (fun s_3971 => (andM (M.ok (decide ([one_3872.rows, s_3891.rows] = kept_3898))) (((M.ok one_3872).bind fun x_3977 => ((m_law_cell_at a0_script (10 : Int)).ne.bind fun x_3975 => (M.ok ()).bind fun y_3976 => .ok (x_3975, y_3976)).bind fun y_3978 => .ok (x_3977, y_3978)).bind fun a_3979 => (m_law_refused a_3979.1 a_3979.2.1)))) xs_3981 ())))))
/-! ### the plain law -/
theorem ix_nat {α : Type} [Rep α] (xs : List α) (i : Int) (h0 : 0 ≤ i) (h1 : i < xs.length) : ∃ x ∈ xs, ixM xs i = .ok x := by
  have hl : i.toNat < xs.length := by omega
  refine ⟨xs[i.toNat], List.getElem_mem hl, ?_⟩
  have := ixM_of (xs := xs) (i := i.toNat) (List.getElem?_eq_getElem hl)
  rw [Int.toNat_of_nonneg h0] at this
  exact this
theorem ix_mod {α : Type} [Rep α] (xs : List α) (x n : Int) (hn : (xs.length : Int) = n) (h : 0 < n) : ∃ v ∈ xs, ixM xs (x % n) = .ok v := ix_nat xs (x % n) (Int.emod_nonneg x (by omega)) (by have := Int.emod_lt_of_pos x h; omega)
theorem small_of (x : Int) (h1 : 0 ≤ x) (h2 : x ≤ 10 ^ 200) : x.natAbs < 2 ^ 10000 := by
  have a : x.natAbs ≤ 10 ^ 200 := by
    have : ((10 : Int) ^ 200) = ((10 ^ 200 : Nat) : Int) := by norm_cast
    omega
  exact Nat.lt_of_le_of_lt a (by decide +kernel)
theorem cell_at_ok (ns : List Int) (k : Int) (hk : 0 ≤ k) : ∃ c, m_law_cell_at ⟨ns⟩ k = .ok c := by
  unfold m_law_cell_at
  simp only [M.ok_bind]
  by_cases hz : k < (ns.length : Int)
  · rw [if_pos (decide_eq_true hz)]
    obtain ⟨v, _, ev⟩ := ix_nat ns k hk hz
    exact ⟨v, ev⟩
  · rw [if_neg (by simpa using hz)]
    exact ⟨_, rfl⟩
theorem size_ok (c : Int) : ∃ v, m_law_size c = .ok v ∧ 1 ≤ v ∧ v ≤ (1000000000000000000000000000000000000000000000000000000000000 : Int) := by
  unfold m_law_size
  simp only [M.ok_bind]
  by_cases h : c % 4 = 0
  · rw [if_pos (decide_eq_true h)]
    exact ⟨_, rfl, by omega, by omega⟩
  · rw [if_neg (by simpa using h)]
    by_cases h2 : c % 4 = 1
    · rw [if_pos (decide_eq_true h2)]
      exact ⟨_, rfl, by omega, by omega⟩
    · rw [if_neg (by simpa using h2)]
      exact ⟨_, rfl, by omega, by omega⟩
/-! rows -/
def cM : Cl := Cl.w (wd (Str.ofString "mesh"))
def cC : Cl := Cl.w (wd (Str.ofString "crush"))
def cB : Cl := Cl.w (wd (Str.ofString "bin"))
theorem mb : decide (cM = cB) = false := by decide +kernel
theorem mc : decide (cM = cC) = false := by decide +kernel
theorem cb : decide (cC = cB) = false := by decide +kernel
theorem cm : decide (cC = cM) = false := by decide +kernel
theorem bm : decide (cB = cM) = false := by decide +kernel
theorem bc : decide (cB = cC) = false := by decide +kernel
inductive GR (n : Int) : Row → Prop
  | mesh (o a b : Int) : 1 ≤ o → o ≤ (1000000000000000000000000000000000000000000000000000000000000 : Int) → 0 ≤ a → a < n → 0 ≤ b → b < n → GR n ⟨[cM, .i o, .i a, .i b]⟩
  | crush (a : Int) : 0 ≤ a → a < n → GR n ⟨[cC, .i a]⟩
  | bin (b : Int) : 0 ≤ b → b ≤ 5 → GR n ⟨[cB, .i b]⟩
theorem ix0 {α : Type} [Rep α] (a : α) (r : List α) : ixM (a :: r) 0 = .ok a := ixM_of (i := 0) rfl
theorem ix1 {α : Type} [Rep α] (a b : α) (r : List α) : ixM (a :: b :: r) 1 = .ok b := ixM_of (i := 1) rfl
theorem ix2 {α : Type} [Rep α] (a b c : α) (r : List α) : ixM (a :: b :: c :: r) 2 = .ok c := ixM_of (i := 2) rfl
theorem ix3 {α : Type} [Rep α] (a b c d : α) (r : List α) : ixM (a :: b :: c :: d :: r) 3 = .ok d := ixM_of (i := 3) rfl
theorem row_ok (c n : Int) (h1 : 1 ≤ n) (h2 : n ≤ 12) : ∃ r, m_law_row c n = .ok r ∧ GR n r := by
  have ns : n.natAbs < 2 ^ 8000 := Nat.lt_of_le_of_lt (show n.natAbs ≤ 12 by omega) (by decide +kernel)
  unfold m_law_row
  simp only [M.ok_bind, Mw.bind_assoc]
  by_cases c1 : c % 8 < 4
  · rw [if_pos (decide_eq_true c1), fdivM_ok (by omega) ns]
    simp only [M.ok_bind]
    rw [fdivM_ok (by omega) ns]
    simp only [M.ok_bind]
    obtain ⟨v, ev, v1, v2⟩ := size_ok (c / 8 / n / n)
    rw [ev]
    simp only [M.ok_bind, ne_ok]
    rw [modM_ok (by omega), modM_ok (by omega)]
    simp only [M.ok_bind]
    rw [chk_pos (by simp)]
    exact ⟨_, rfl, .mesh v _ _ v1 v2 (Int.emod_nonneg _ (by omega)) (Int.emod_lt_of_pos _ (by omega)) (Int.emod_nonneg _ (by omega)) (Int.emod_lt_of_pos _ (by omega))⟩
  · rw [if_neg (by simpa using c1)]
    by_cases c2 : c % 8 < 6
    · rw [if_pos (decide_eq_true c2), modM_ok (by omega)]
      simp only [M.ok_bind]
      rw [chk_pos (by simp)]
      exact ⟨_, rfl, .crush _ (Int.emod_nonneg _ (by omega)) (Int.emod_lt_of_pos _ (by omega))⟩
    · rw [if_neg (by simpa using c2), chk_pos (by simp)]
      exact ⟨_, rfl, .bin _ (by omega) (by omega)⟩
theorem good_is {n : Int} {r : Row} (g : GR n r) : m_good_row r n = .ok true := by
  unfold m_good_row
  cases g with
  | mesh o a b h1 h2 h3 h4 h5 h6 =>
    simp only [M.ok_bind, Mw.bind_assoc, Mw.andM, ix0, ix1, ix2, ix3, clI]
    have : decide (cM = Cl.w (wd (Str.ofString "mesh"))) = true := decide_eq_true rfl
    rw [this]
    have e4 : decide (((([cM, Cl.i o, Cl.i a, Cl.i b] : List Cl).length : Nat) : Int) = 4) = true := rfl
    rw [e4]
    simp only [if_true, M.ok_bind]
    rw [if_pos (decide_eq_true h1)]
    simp only [M.ok_bind, decide_eq_true h2, if_true]
    rw [if_pos (decide_eq_true h3)]
    simp only [M.ok_bind, decide_eq_true h4, if_true]
    rw [if_pos (decide_eq_true h5)]
    simp only [decide_eq_true h6]
  | crush a h1 h2 =>
    simp only [M.ok_bind, Mw.bind_assoc, Mw.andM, ix0, ix1, clI]
    have e4 : decide (((([cC, Cl.i a] : List Cl).length : Nat) : Int) = 4) = false := rfl
    have e2 : decide (((([cC, Cl.i a] : List Cl).length : Nat) : Int) = 2) = true := rfl
    have : decide (cC = Cl.w (wd (Str.ofString "crush"))) = true := decide_eq_true rfl
    rw [e4, e2, this]
    simp only [if_true, M.ok_bind, Bool.false_eq_true, if_false]
    rw [if_pos (decide_eq_true h1)]
    simp only [decide_eq_true h2]
  | bin b h1 h2 =>
    simp only [M.ok_bind, Mw.bind_assoc, Mw.andM, ix0, ix1, clI]
    have e4 : decide (((([cB, Cl.i b] : List Cl).length : Nat) : Int) = 4) = false := rfl
    have e2 : decide (((([cB, Cl.i b] : List Cl).length : Nat) : Int) = 2) = true := rfl
    have q1 : decide (cB = Cl.w (wd (Str.ofString "crush"))) = false := bc
    have q2 : decide (cB = Cl.w (wd (Str.ofString "bin"))) = true := decide_eq_true rfl
    rw [e4, e2, q1, q2]
    simp only [if_true, M.ok_bind, Bool.false_eq_true, if_false]
    rw [if_pos (decide_eq_true h1)]
    simp only [decide_eq_true h2]
theorem works_is (p : Int) (rs : List Row) (h1 : 2 ≤ p) (h2 : p ≤ 9) (l1 : 1 ≤ rs.length) (l2 : rs.length ≤ 12) (g : ∀ r ∈ rs, GR rs.length r) : m_Works p rs = .ok ⟨p, rs⟩ := by
  unfold m_Works
  simp only [M.ok_bind]
  rw [if_neg (by simp; omega)]
  rw [forM_all]
  intro r hr
  unfold m_Works_b1
  rw [good_is (g r hr)]
  rfl
/-! ### where a whole grain goes -/
def pcs (s p : Int) : List (Int × Int) := (if 0 < s / p then [(s / p, p - s % p)] else []) ++ (if 0 < s % p then [(s / p + 1, s % p)] else [])
theorem pieces_is (s p : Int) (hs : 1 ≤ s) (hs2 : s ≤ 10 ^ 100) (h1 : 2 ≤ p) (h2 : p ≤ 9) : m_pieces_of s p = .ok (pcs s p) := by
  have pn : p.natAbs < 2 ^ 8000 := Nat.lt_of_le_of_lt (show p.natAbs ≤ 9 by omega) (by decide +kernel)
  have q0 : 0 ≤ s / p := Int.ediv_nonneg (by omega) (by omega)
  have q1 : s / p ≤ s := Int.ediv_le_self p (by omega)
  have r0 := Int.emod_nonneg s (show p ≠ 0 by omega)
  have r1 := Int.emod_lt_of_pos s (show 0 < p by omega)
  unfold m_pieces_of pcs
  simp only [M.ok_bind, Mw.bind_assoc]
  rw [fdivM_ok (by omega) pn, modM_ok (by omega)]
  simp only [M.ok_bind]
  rw [chk_pos (by simp)]
  simp only [M.ok_bind]
  generalize s / p = q at q0 q1
  generalize s % p = r at r0 r1
  have bg : (10 : Int) ^ 100 + 20 ≤ 10 ^ 200 := by decide +kernel
  have sq : ∀ x : Int, 0 ≤ x → x ≤ s + 1 → x.natAbs < 2 ^ 10000 := fun x a b => small_of x a (by omega)
  rw [lcM_congr (c' := fun x => .ok (decide (0 < x.1 * x.2))) (e' := fun x => .ok x) (fun x hx => by
    simp only [List.mem_cons, List.not_mem_nil, or_false] at hx
    rcases hx with z | z <;> subst z
    · dsimp only
      rw [mulM_ok (sq q q0 (by omega)) (small_of _ (by omega) (by omega))]
      rfl
    · dsimp only
      rw [mulM_ok (sq (q + 1) (by omega) (by omega)) (small_of _ (by omega) (by omega))]
      rfl) (fun _ _ _ => rfl)]
  rw [lcM_ok (c := fun x : Int × Int => decide (0 < x.1 * x.2)) (e := fun x => x) (by simp), List.map_id']
  have a1 : decide (0 < q * (p - r)) = decide (0 < q) := by
    by_cases z : 0 < q
    · rw [decide_eq_true z, decide_eq_true (Int.mul_pos z (by omega))]
    · have : q = 0 := by omega
      subst this
      simp
  have a2 : decide (0 < (q + 1) * r) = decide (0 < r) := by
    by_cases z : 0 < r
    · rw [decide_eq_true z, decide_eq_true (Int.mul_pos (by omega) z)]
    · have : r = 0 := by omega
      subst this
      simp
  rw [List.filter_cons, List.filter_cons, List.filter_nil]
  dsimp only
  rw [a1, a2]
  by_cases z1 : 0 < q <;> by_cases z2 : 0 < r <;> simp [z1, z2]
def dR : Row := ⟨[]⟩
def nx (s : Int) (r : Row) : Option Int := match r.cs with
  | [_, .i o, .i a, .i b] => some (if s ≤ o then a else b)
  | [c, .i a] => if c = cC ∧ s = 1 then some a else none
  | _ => none
def fn (rs : List Row) (s i : Int) : Option Int := nx s (rs.getD i.toNat dR)
theorem nx_mesh (s o a b : Int) : nx s ⟨[cM, .i o, .i a, .i b]⟩ = some (if s ≤ o then a else b) := rfl
theorem nx_crush (s a : Int) : nx s ⟨[cC, .i a]⟩ = if s = 1 then some a else none := by
  show (if cC = cC ∧ s = 1 then some a else none) = _
  simp
theorem nx_bin (s b : Int) : nx s ⟨[cB, .i b]⟩ = none := by
  show (if cB = cC ∧ s = 1 then some b else none) = none
  rw [if_neg (fun z => absurd (decide_eq_true z.1) (by rw [show decide (cB = cC) = false from bc]; decide))]
theorem nx_rg {n s : Int} {r : Row} (g : GR n r) {t : Int} (h : nx s r = some t) : 0 ≤ t ∧ t < n := by
  cases g with
  | mesh o a b h1 h2 h3 h4 h5 h6 =>
    rw [nx_mesh] at h
    split at h <;> cases h <;> omega
  | crush a h1 h2 =>
    rw [nx_crush] at h
    split at h
    · cases h; omega
    · cases h
  | bin b h1 h2 => rw [nx_bin] at h; cases h
theorem ixR (rs : List Row) (p : Int) (h0 : 0 ≤ p) (h1 : p < rs.length) : ixM rs p = .ok (rs.getD p.toNat dR) ∧ rs.getD p.toNat dR ∈ rs := by
  have hl : p.toNat < rs.length := by omega
  have := ixM_of (xs := rs) (i := p.toNat) (List.getElem?_eq_getElem hl)
  rw [Int.toNat_of_nonneg h0] at this
  rw [this, List.getD_eq_getElem?_getD, List.getElem?_eq_getElem hl]
  exact ⟨rfl, List.getElem_mem hl⟩
theorem fn_rg {rs : List Row} (g : ∀ r ∈ rs, GR rs.length r) {s i t : Int} (h0 : 0 ≤ i) (h1 : i < rs.length) (h : fn rs s i = some t) : 0 ≤ t ∧ t < rs.length := nx_rg (g _ (ixR rs i h0 h1).2) h
theorem law_whole_is {rs : List Row} (g : ∀ r ∈ rs, GR rs.length r) (s i : Int) (h0 : 0 ≤ i) (h1 : i < rs.length) : m_law_whole_to rs i s = .ok (fn rs s i) := by
  obtain ⟨e, m⟩ := ixR rs i h0 h1
  have gr := g _ m
  unfold m_law_whole_to fn
  simp only [M.ok_bind, e]
  generalize rs.getD i.toNat dR = r at gr
  cases gr with
  | mesh o a b =>
    have q1 : decide (cM = Cl.w (wd (Str.ofString "mesh"))) = true := decide_eq_true rfl
    simp only [ix0, ix1, ix2, ix3, M.ok_bind, clI, q1, if_true]
    rw [chk_pos (by simp), nx_mesh]
    simp only [M.ok_bind]
    by_cases c : s ≤ o
    · rw [decide_eq_true c, if_pos rfl, if_pos c, ix1]; rfl
    · rw [decide_eq_false c, if_neg (by simp), if_neg c, ix0]; rfl
  | crush a =>
    have q1 : decide (cC = Cl.w (wd (Str.ofString "mesh"))) = false := cm
    have q2 : decide (cC = Cl.w (wd (Str.ofString "crush"))) = true := decide_eq_true rfl
    simp only [ix0, ix1, M.ok_bind, clI, q1, q2, Bool.false_eq_true, if_false, andM_t]
    rw [nx_crush]
    by_cases c : s = 1
    · rw [if_pos (decide_eq_true c), if_pos c]
    · rw [if_neg (by simpa using c), if_neg c]
  | bin b =>
    have q1 : decide (cB = Cl.w (wd (Str.ofString "mesh"))) = false := bm
    have q2 : decide (cB = Cl.w (wd (Str.ofString "crush"))) = false := bc
    simp only [ix0, ix1, M.ok_bind, clI, q1, q2, Bool.false_eq_true, if_false, andM_f]
    rw [nx_bin]
theorem whole_to_is {rs : List Row} (g : ∀ r ∈ rs, GR rs.length r) (p s i : Int) (p1 : 2 ≤ p) (p2 : p ≤ 9) (s1 : 1 ≤ s) (s2 : s ≤ 10 ^ 100) (h0 : 0 ≤ i) (h1 : i < rs.length) : m_whole_to ⟨p, rs⟩ i s = .ok (fn rs s i) := by
  obtain ⟨e, m⟩ := ixR rs i h0 h1
  have gr := g _ m
  unfold m_whole_to m_goes_on fn
  simp only [M.ok_bind, Mw.bind_assoc, e]
  generalize rs.getD i.toNat dR = r at gr
  cases gr with
  | mesh o a b =>
    have q1 : decide (cM = Cl.w (wd (Str.ofString "bin"))) = false := mb
    have q2 : decide (cM = Cl.w (wd (Str.ofString "crush"))) = false := mc
    simp only [ix0, ix1, ix2, ix3, M.ok_bind, clI, q1, q2, Bool.false_eq_true, if_false]
    rw [nx_mesh]
    by_cases c : s ≤ o
    · rw [if_pos (decide_eq_true c), if_pos c, chk_pos (by simp)]
      simp only [ne_ok, M.ok_bind, ix0, decide_true, andM_t]
      rfl
    · rw [if_neg (by simpa using c), if_neg c, chk_pos (by simp)]
      simp only [ne_ok, M.ok_bind, ix0, decide_true, andM_t]
      rfl
  | bin b =>
    have q1 : decide (cB = Cl.w (wd (Str.ofString "bin"))) = true := decide_eq_true rfl
    simp only [ix0, M.ok_bind, q1, if_true, ne_ok]
    rw [nx_bin]
    rfl
  | crush a =>
    have q1 : decide (cC = Cl.w (wd (Str.ofString "bin"))) = false := cb
    have q2 : decide (cC = Cl.w (wd (Str.ofString "crush"))) = true := decide_eq_true rfl
    simp only [ix0, ix1, M.ok_bind, clI, q1, q2, Bool.false_eq_true, if_false, if_true]
    rw [pieces_is s p s1 s2 p1 p2]
    simp only [M.ok_bind, ne_ok]
    have d1 : s / p < s ∨ s = 0 := by
      rcases Int.lt_or_le (s / p) s with z | z
      · exact .inl z
      · have := Int.ediv_lt_self_of_pos_of_ne_one (x := s) (y := p) (by omega) (by omega)
        omega
    have d0 : 0 ≤ s / p := Int.ediv_nonneg (by omega) (by omega)
    have r0 := Int.emod_nonneg s (show p ≠ 0 by omega)
    have dm := Int.mul_ediv_add_emod s p
    rw [lcM_all (fun x : Int × Int => T3.mk a x.1 x.2) (by unfold pcs; split <;> split <;> simp), nx_crush]
    try simp only [M.ok_bind]
    unfold pcs
    generalize s / p = q at d1 d0 dm
    generalize s % p = r at r0 dm
    by_cases z1 : 0 < q
    · rw [if_pos z1]
      by_cases z2 : 0 < r
      · rw [if_pos z2]
        have : ¬ s = 1 := fun z => by
          have := Int.mul_le_mul_of_nonneg_left (show (1 : Int) ≤ q by omega) (show 0 ≤ p by omega)
          omega
        rw [if_neg this]
        rfl
      · rw [if_neg z2]
        have : ¬ s = 1 := fun z => by
          have := Int.mul_le_mul_of_nonneg_left (show (1 : Int) ≤ q by omega) (show 0 ≤ p by omega)
          omega
        rw [if_neg this]
        simp only [List.append_nil, List.map_cons, List.map_nil, ne_ok, M.ok_bind, List.length_singleton, ix0]
        have e1 : decide (((1 : Nat) : Int) = 1) = true := rfl
        rw [e1, andM_t, decide_eq_false (show ¬ q = s by omega), andM_f]
        rfl
    · have q0 : q = 0 := by omega
      subst q0
      rw [Int.mul_zero, Int.zero_add] at dm
      subst dm
      rw [if_neg (by omega), if_pos (by omega)]
      simp only [List.nil_append, List.map_cons, List.map_nil, ne_ok, M.ok_bind, List.length_singleton, ix0]
      have e1 : decide (((1 : Nat) : Int) = 1) = true := rfl
      rw [e1, andM_t]
      by_cases z : r = 1
      · subst z; rfl
      · rw [if_neg z, decide_eq_false (show ¬ ((0 : Int) + 1 = r) by omega), andM_f]
        rfl
/-! ### ways -/
theorem pigeon : ∀ (n : Nat) (l : List Int), l.Nodup → (∀ x ∈ l, 0 ≤ x ∧ x < n) → l.length ≤ n
  | 0, [], _, _ => Nat.le_refl 0
  | 0, x :: l, _, h => by have := h x List.mem_cons_self; omega
  | n + 1, l, nd, h => by
    have := pigeon n (l.erase (n : Int)) (nd.erase _) fun x hx => by
      have hx' := (nd.mem_erase_iff).mp hx
      have := h x hx'.2
      have h1 := hx'.1
      omega
    have e := List.length_erase (a := (n : Int)) (l := l)
    split at e <;> omega
structure Way (f : Int → Option Int) (n : Nat) (way : List Int) (row : Option Int) : Prop where
  nd : way.Nodup
  rg : ∀ x ∈ way, 0 ≤ x ∧ x < n
  lk : ∀ i (h : i + 1 < way.length), f way[i] = some way[i + 1]
  la : ∀ x, way.getLast? = some x → f x = row
  rr : ∀ x, row = some x → 0 ≤ x ∧ x < n
theorem Way.len {f : Int → Option Int} {n : Nat} {way : List Int} {row : Option Int} (h : Way f n way row) : way.length ≤ n := pigeon n way h.nd h.rg
theorem Way.push {f : Int → Option Int} {n : Nat} {way : List Int} {r : Int} (h : Way f n way (some r)) (hf : ∀ x t : Int, 0 ≤ x → x < n → f x = some t → 0 ≤ t ∧ t < n) (hr : r ∉ way) : Way f n (way ++ [r]) (f r) where
  nd := List.nodup_append.mpr ⟨h.nd, (by simp), fun x hx y hy => by
    rw [List.mem_singleton.mp hy]
    exact fun z => hr (z ▸ hx)⟩
  rg := fun x hx => by
    rcases List.mem_append.mp hx with z | z
    · exact h.rg x z
    · rw [List.mem_singleton.mp z]; exact h.rr r rfl
  lk := fun i hi => by
    rw [List.length_append, List.length_singleton] at hi
    by_cases z : i + 1 < way.length
    · rw [List.getElem_append_left (by omega), List.getElem_append_left z]
      exact h.lk i z
    · have e : i + 1 = way.length := by omega
      rw [List.getElem_append_left (by omega), List.getElem_append_right (by omega)]
      have hl : way.getLast? = some way[i] := by
        rw [List.getLast?_eq_getElem?, show way.length - 1 = i by omega, List.getElem?_eq_getElem]
      have := h.la _ hl
      rw [this]
      simp
  la := fun x hx => by
    rw [List.getLast?_append] at hx
    simp at hx
    rw [hx]
  rr := fun x hx => hf r x (h.rr r rfl).1 (h.rr r rfl).2 hx
theorem way_go {f : Int → Option Int} {n : Nat} {τ : Type} {c : List Int × Option Int → M Bool} {b : List Int × Option Int → M (Ctl (List Int × Option Int) τ)} {k : List Int × Option Int → M τ} (hn : n ≤ 1000)
    (hf : ∀ x t : Int, 0 ≤ x → x < n → f x = some t → 0 ≤ t ∧ t < n) (hc : ∀ (w : List Int) (r : Int), c (w, some r) = .ok (!decide (r ∈ w))) (hc0 : ∀ w, c (w, none) = .ok false)
    (hb : ∀ (w : List Int) (r : Int), w.length ≤ 1000 → 0 ≤ r → r < n → b (w, some r) = .ok (.nx (w ++ [r], f r))) : ∀ (fu : Nat) (way : List Int) (row : Option Int), Way f n way row → n - way.length < fu →
    ∃ way' row', whM c b k fu (way, row) = k (way', row') ∧ Way f n way' row' ∧ way <+: way' ∧ (row' = none ∨ ∃ r ∈ way', row' = some r) ∧ (way = [] → row = way'.head? ∨ row = none)
  | 0, _, _, _, h => absurd h (Nat.not_lt_zero _)
  | fu + 1, way, row, W, h => by
    unfold whM
    cases row with
    | none =>
      rw [hc0]
      exact ⟨way, none, rfl, W, List.prefix_rfl, .inl rfl, fun _ => .inr rfl⟩
    | some r =>
      rw [hc]
      simp only [M.ok_bind]
      have wl := W.len
      by_cases z : r ∈ way
      · rw [decide_eq_true z]
        exact ⟨way, some r, rfl, W, List.prefix_rfl, .inr ⟨r, z, rfl⟩, fun q => by subst q; cases z⟩
      · rw [decide_eq_false z]
        simp only [Bool.not_false, if_true]
        have hr := W.rr r rfl
        rw [hb way r (by omega) hr.1 hr.2]
        simp only [M.ok_bind]
        have W2 := W.push hf z
        have wl2 := W2.len
        rw [List.length_append, List.length_singleton] at wl2
        obtain ⟨way', row', e, W', p, o, _⟩ := way_go hn hf hc hc0 hb fu (way ++ [r]) (f r) W2 (by rw [List.length_append, List.length_singleton]; omega)
        refine ⟨way', row', e, W', (List.prefix_append _ _).trans p, o, fun q => .inl ?_⟩
        subst q
        obtain ⟨t, ht⟩ := p
        rw [← ht]
        rfl
theorem way_nil {f : Int → Option Int} {n : Nat} {r : Int} (h0 : 0 ≤ r) (h1 : r < n) : Way f n [] (some r) where
  nd := List.nodup_nil
  rg := fun x hx => by cases hx
  lk := fun i h => by simp at h
  la := fun x hx => by simp at hx
  rr := fun x hx => by cases hx; exact ⟨h0, h1⟩
/-! ### rings -/
structure Rg (f : Int → Option Int) (n : Nat) (ring : List Int) : Prop where
  ne : ring ≠ []
  nd : ring.Nodup
  rg : ∀ x ∈ ring, 0 ≤ x ∧ x < n
  lk : ∀ k (h : k < ring.length), f ring[k] = ring[(k + 1) % ring.length]?
theorem Way.ring {f : Int → Option Int} {n : Nat} {way : List Int} {r : Int} (W : Way f n way (some r)) (h : r ∈ way) : Rg f n (way.drop (way.idxOf r)) := by
  have hl := List.idxOf_lt_length_of_mem h
  have ll : (way.drop (way.idxOf r)).length = way.length - way.idxOf r := List.length_drop
  refine ⟨fun z => ?_, W.nd.sublist (List.drop_sublist _ _), fun x hx => W.rg x (List.mem_of_mem_drop hx), fun k hk => ?_⟩
  · rw [z] at ll; simp at ll; omega
  · rw [List.getElem_drop]
    rw [ll] at hk ⊢
    by_cases z : k + 1 < way.length - way.idxOf r
    · rw [Nat.mod_eq_of_lt z, W.lk (way.idxOf r + k) (by omega), List.getElem?_drop, List.getElem?_eq_getElem (by omega)]
      congr 1
    · have e : k + 1 = way.length - way.idxOf r := by omega
      rw [e, Nat.mod_self, List.getElem?_drop, Nat.add_zero, List.getElem?_eq_getElem hl, List.getElem_idxOf hl]
      refine W.la _ ?_
      rw [List.getLast?_eq_getElem?, ← List.getElem?_eq_getElem]
      congr 1
      omega
theorem forM_stop {α τ : Type} {f : α → Unit → M (Ctl Unit τ)} {k : Unit → M τ} {p : α → Bool} {r : τ} : ∀ (xs : List α), (∀ x ∈ xs, f x () = .ok (if p x = true then .nx () else .rt r)) → forM f k xs () = if xs.all p = true then k () else .ok r
  | [], _ => rfl
  | x :: xs, h => by
    rw [forM_cons, h x List.mem_cons_self, List.all_cons]
    by_cases c : p x = true
    · rw [if_pos c, c, Bool.true_and]
      exact forM_stop xs fun y hy => h y (List.mem_cons_of_mem _ hy)
    · rw [if_neg c, Bool.eq_false_iff.mpr c, Bool.false_and]
      rfl
theorem mem_rng {a b x : Int} (h : x ∈ rng a b) : a ≤ x ∧ x < b := by
  unfold rng at h
  obtain ⟨k, hk, rfl⟩ := List.mem_map.mp h
  have := List.mem_range.mp hk
  omega
theorem rng_mem {b x : Int} (h0 : 0 ≤ x) (h1 : x < b) : x ∈ rng 0 b := by
  unfold rng
  exact List.mem_map.mpr ⟨x.toNat, List.mem_range.mpr (by omega), by omega⟩
theorem ixI (l : List Int) (p : Int) (h0 : 0 ≤ p) (h1 : p < l.length) : ixM l p = .ok (l.getD p.toNat 0) ∧ l.getD p.toNat 0 ∈ l := by
  have hl : p.toNat < l.length := by omega
  have := ixM_of (xs := l) (i := p.toNat) (List.getElem?_eq_getElem hl)
  rw [Int.toNat_of_nonneg h0] at this
  rw [this, List.getD_eq_getElem?_getD, List.getElem?_eq_getElem hl]
  exact ⟨rfl, List.getElem_mem hl⟩
def okE (n : Nat) (ring : List Int) (x : Int) : Bool := decide (0 ≤ x) && (decide (x < n) && decide (ring.count x ≤ 1))
def lkE (f : Int → Option Int) (ring : List Int) (k : Int) : Bool := decide (f (ring.getD k.toNat 0) = some (ring.getD ((k + 1) % ring.length).toNat 0))
def isRg (f : Int → Option Int) (n : Nat) (ring : List Int) : Bool := !ring.isEmpty && (ring.all (okE n ring) && (rng 0 ring.length).all (lkE f ring))
theorem all_rng {p : Int → Bool} (l : List Int) : ((rng 0 (l.length : Int)).all fun k => p (l.getD k.toNat 0)) = l.all p := by
  rw [Bool.eq_iff_iff, List.all_eq_true, List.all_eq_true]
  constructor
  · intro h x hx
    obtain ⟨i, hi, rfl⟩ := List.getElem_of_mem hx
    have := h (i : Int) (rng_mem (by omega) (by omega))
    rw [Int.toNat_natCast, List.getD_eq_getElem?_getD, List.getElem?_eq_getElem hi] at this
    exact this
  · intro h k hk
    have := mem_rng hk
    exact h _ (ixI l k (by omega) (by omega)).2
theorem okE_iff {n : Nat} {ring : List Int} : ring.all (okE n ring) = true ↔ ring.Nodup ∧ ∀ x ∈ ring, 0 ≤ x ∧ x < n := by
  rw [List.all_eq_true]
  constructor
  · intro h
    refine ⟨List.nodup_iff_count.mpr fun x => ?_, fun x hx => ?_⟩
    · by_cases z : x ∈ ring
      · have := h x z
        unfold okE at this
        simp only [Bool.and_eq_true, decide_eq_true_eq] at this
        exact this.2.2
      · rw [List.count_eq_zero_of_not_mem z]; omega
    · have := h x hx
      unfold okE at this
      simp only [Bool.and_eq_true, decide_eq_true_eq] at this
      exact ⟨this.1, this.2.1⟩
  · intro h x hx
    unfold okE
    simp only [Bool.and_eq_true, decide_eq_true_eq]
    exact ⟨(h.2 x hx).1, (h.2 x hx).2, List.nodup_iff_count.mp h.1 x⟩
theorem Rg.is {f : Int → Option Int} {n : Nat} {ring : List Int} (h : Rg f n ring) : isRg f n ring = true := by
  unfold isRg
  have hp : 0 < ring.length := List.length_pos_iff.mpr h.ne
  rw [Bool.and_eq_true, Bool.and_eq_true]
  refine ⟨by simpa using h.ne, okE_iff.mpr ⟨h.nd, h.rg⟩, List.all_eq_true.mpr fun k hk => ?_⟩
  have hb := mem_rng hk
  unfold lkE
  refine decide_eq_true ?_
  have hl : k.toNat < ring.length := by omega
  have hk2 := h.lk k.toNat hl
  rw [List.getD_eq_getElem?_getD, List.getElem?_eq_getElem hl]
  show f ring[k.toNat] = _
  rw [hk2]
  have hm : (k.toNat + 1) % ring.length < ring.length := Nat.mod_lt _ hp
  have e : ((k + 1) % (ring.length : Int)).toNat = (k.toNat + 1) % ring.length := by
    have : k + 1 = ((k.toNat + 1 : Nat) : Int) := by omega
    rw [this, ← Int.natCast_emod, Int.toNat_natCast]
  rw [e, List.getElem?_eq_getElem hm, List.getD_eq_getElem?_getD, List.getElem?_eq_getElem hm]
  rfl
/-! ### rings found -/
def isM (r : Row) : Bool := match r.cs with
  | x :: _ => decide (x = cM)
  | [] => false
def opn (r : Row) : Int := match r.cs with
  | _ :: .i o :: _ => o
  | _ => 1
def SZ (rs : List Row) : List Int := sortI ([1] ++ (rs.filter isM).map opn ++ ((rs.filter isM).map opn).map (· + 1))
theorem isM_opn {n : Int} {r : Row} (g : GR n r) (h : isM r = true) : 1 ≤ opn r ∧ opn r ≤ (1000000000000000000000000000000000000000000000000000000000000 : Int) := by
  cases g with
  | mesh o a b q1 q2 => exact ⟨q1, q2⟩
  | crush a => exact absurd (h.symm.trans cm) (by decide)
  | bin b => exact absurd (h.symm.trans bm) (by decide)
theorem SZ_mem {rs : List Row} {x : Int} : x ∈ SZ rs ↔ x = 1 ∨ ∃ r ∈ rs, isM r = true ∧ (x = opn r ∨ x = opn r + 1) := by
  unfold SZ
  rw [(sortI_perm _).mem_iff, List.mem_append, List.mem_append, List.mem_singleton, List.mem_map]
  constructor
  · rintro ((h | ⟨r, hr, h⟩) | h)
    · exact .inl h
    · obtain ⟨h1, h2⟩ := List.mem_filter.mp hr
      exact .inr ⟨r, h1, h2, .inl h.symm⟩
    · obtain ⟨y, hy, h⟩ := List.mem_map.mp h
      obtain ⟨r, hr, e⟩ := List.mem_map.mp hy
      obtain ⟨h1, h2⟩ := List.mem_filter.mp hr
      exact .inr ⟨r, h1, h2, .inr (by rw [← h, ← e])⟩
  · rintro (h | ⟨r, h1, h2, h | h⟩)
    · exact .inl (.inl h)
    · exact .inl (.inr ⟨r, List.mem_filter.mpr ⟨h1, h2⟩, h.symm⟩)
    · exact .inr (List.mem_map.mpr ⟨opn r, List.mem_map.mpr ⟨r, List.mem_filter.mpr ⟨h1, h2⟩, rfl⟩, h.symm⟩)
theorem SZ_bd {rs : List Row} (g : ∀ r ∈ rs, GR rs.length r) {x : Int} (h : x ∈ SZ rs) : 1 ≤ x ∧ x ≤ 10 ^ 100 := by
  have bg : (1000000000000000000000000000000000000000000000000000000000000 : Int) + 20 ≤ 10 ^ 100 := by decide +kernel
  rcases SZ_mem.mp h with h | ⟨r, h1, h2, h⟩
  · subst h; exact ⟨by omega, by omega⟩
  · have := isM_opn (g r h1) h2
    rcases h with h | h <;> omega
theorem looked_is {rs : List Row} (g : ∀ r ∈ rs, GR rs.length r) (hl : rs.length ≤ 12) (p : Int) : m_sizes_looked ⟨p, rs⟩ = .ok (SZ rs) := by
  unfold m_sizes_looked
  simp only [M.ok_bind, Mw.bind_assoc]
  rw [lcM_congr (c' := fun r => .ok (isM r)) (e' := fun r => .ok (opn r)) (fun r hr => by
    cases g r hr <;> (simp only [ix0, M.ok_bind]; rfl)) (fun r hr _ => by
    cases g r hr <;> (simp only [ix1, M.ok_bind, clI]; rfl))]
  rw [lcM_ok (c := isM) (e := opn) (by omega)]
  simp only [M.ok_bind]
  have fl := List.length_filter_le isM rs
  have ml : ((rs.filter isM).map opn).length ≤ 12 := by rw [List.length_map]; omega
  rw [catM_ok (by simp; omega)]
  simp only [M.ok_bind]
  rw [lcM_all (fun x : Int => x + 1) (by omega)]
  simp only [M.ok_bind]
  rw [catM_ok (by simp; omega)]
  rfl
def it (f : Int → Option Int) : Nat → Int → Option Int
  | 0, r => some r
  | m + 1, r => (it f m r).bind f
theorem it_none {f : Int → Option Int} {r : Int} {m : Nat} (h : it f m r = none) : ∀ k, it f (m + k) r = none
  | 0 => h
  | k + 1 => by
    show (it f (m + k) r).bind f = none
    rw [it_none h k]; rfl
theorem it_way {f : Int → Option Int} {n : Nat} {way : List Int} {row : Option Int} {r : Int} (W : Way f n way row) (h : way.head? = some r) : (∀ i (hi : i < way.length), it f i r = some way[i]) ∧ it f way.length r = row := by
  have h1 : ∀ i (hi : i < way.length), it f i r = some way[i] := fun i => by
    induction i with
    | zero =>
      intro hi
      rw [List.head?_eq_getElem?, List.getElem?_eq_getElem hi] at h
      exact h.symm
    | succ i ih =>
      intro hi
      show (it f i r).bind f = _
      rw [ih (by omega)]
      exact W.lk i hi
  refine ⟨h1, ?_⟩
  obtain ⟨m, e⟩ : ∃ m, way.length = m + 1 := by
    cases way with
    | nil => cases h
    | cons a l => exact ⟨l.length, rfl⟩
  rw [e]
  show (it f m r).bind f = row
  rw [h1 m (by omega)]
  refine W.la _ ?_
  rw [List.getLast?_eq_getElem?, show way.length - 1 = m by omega, List.getElem?_eq_getElem]
theorem it_ring {f : Int → Option Int} {n : Nat} {way : List Int} {t r : Int} (W : Way f n way (some t)) (ht : t ∈ way) (h : way.head? = some r) : ∀ m, ∃ x ∈ way, it f m r = some x
  | 0 => by
    obtain ⟨l, e⟩ : ∃ l, way = r :: l := by
      cases way with
      | nil => cases h
      | cons a l => cases h; exact ⟨l, rfl⟩
    exact ⟨r, by rw [e]; exact List.mem_cons_self, rfl⟩
  | m + 1 => by
    obtain ⟨x, hx, e⟩ := it_ring W ht h m
    obtain ⟨i, hi, rfl⟩ := List.getElem_of_mem hx
    show ∃ y ∈ way, (it f m r).bind f = some y
    rw [e]
    show ∃ y ∈ way, f way[i] = some y
    by_cases z : i + 1 < way.length
    · exact ⟨_, List.getElem_mem z, W.lk i z⟩
    · refine ⟨t, ht, W.la _ ?_⟩
      rw [List.getLast?_eq_getElem?, show way.length - 1 = i by omega, List.getElem?_eq_getElem]
theorem ring_from_is {rs : List Row} (g : ∀ r ∈ rs, GR rs.length r) (hl : rs.length ≤ 12) (p s r : Int) (p1 : 2 ≤ p) (p2 : p ≤ 9) (s1 : 1 ≤ s) (s2 : s ≤ 10 ^ 100) (h0 : 0 ≤ r) (h1 : r < rs.length) :
    ∃ l, m_ring_from ⟨p, rs⟩ (some r) s = .ok l ∧ ((l = [] ∧ it (fn rs s) rs.length r = none) ∨ (Rg (fn rs s) rs.length l ∧ l.length ≤ 12 ∧ it (fn rs s) rs.length r ≠ none)) := by
  unfold m_ring_from
  simp only [M.ok_bind]
  obtain ⟨w, row, e, W, _, o, hd⟩ := way_go (f := fn rs s) (n := rs.length) (c := m_ring_from_c1) (b := m_ring_from_b1 ⟨p, rs⟩ s) (k := fun s_1052 => ((M.ok (!Option.isSome s_1052.2)).bind fun b => if b then (M.ok ([] : (List Int))) else ((M.ok s_1052.1).bind fun x_1063 => (((M.ok s_1052.1).bind fun x_1058 => ((M.ok s_1052.2).bind getM).bind fun y_1059 => idxM x_1058 y_1059).bind fun x_1060 => .ok (some x_1060)).bind fun lo_1061 => (M.ok (none : Option Int)).bind fun hi_1062 => .ok (cut x_1063 lo_1061 hi_1062)))) (by omega)
    (fun x t a1 a2 e => fn_rg g a1 a2 e) (fun w r => by unfold m_ring_from_c1; rfl) (fun w => by unfold m_ring_from_c1; rfl)
    (fun w r hw a1 a2 => by
      unfold m_ring_from_b1
      simp only [M.ok_bind, Mw.bind_assoc, getM]
      rw [appM_ok (by omega), whole_to_is g p s r p1 p2 s1 s2 a1 a2]
      rfl) FUEL [] (some r) (way_nil h0 h1) (by unfold FUEL; omega)
  simp only [M.ok_bind] at e
  rw [e]
  have wl := W.len
  have hd' : w.head? = some r := by
    rcases hd rfl with z | z
    · exact z.symm
    · cases z
  rcases o with o | ⟨t, ht, o⟩
  · subst o
    refine ⟨[], rfl, .inl ⟨rfl, ?_⟩⟩
    have := it_none (it_way W hd').2 (rs.length - w.length)
    rw [show w.length + (rs.length - w.length) = rs.length by omega] at this
    exact this
  · subst o
    rw [if_neg (by simp)]
    simp only [getM, M.ok_bind]
    rw [show idxM w t = .ok ((w.idxOf t : Nat) : Int) from chk_pos ht _]
    simp only [M.ok_bind]
    have il := List.idxOf_lt_length_of_mem ht
    rw [cut_drop w (Nat.le_of_lt il)]
    refine ⟨_, rfl, .inr ⟨W.ring ht, by rw [List.length_drop]; omega, ?_⟩⟩
    obtain ⟨x, _, ex⟩ := it_ring W ht hd' rs.length
    rw [ex]
    exact fun z => nomatch z
theorem forM_hit {α τ : Type} {f : α → Unit → M (Ctl Unit τ)} {k : Unit → M τ} {Q : τ → Prop} {N : α → Prop} : ∀ (xs : List α), (∀ x ∈ xs, (f x () = .ok (.nx ()) ∧ N x) ∨ ∃ r, f x () = .ok (.rt r) ∧ Q r) → (forM f k xs () = k () ∧ ∀ x ∈ xs, N x) ∨ ∃ r, forM f k xs () = .ok r ∧ Q r
  | [], _ => .inl ⟨rfl, fun _ z => nomatch z⟩
  | x :: xs, h => by
    rw [forM_cons]
    rcases h x List.mem_cons_self with ⟨e, n⟩ | ⟨r, e, q⟩
    · rw [e]
      simp only [M.ok_bind]
      rcases forM_hit (k := k) xs fun y hy => h y (List.mem_cons_of_mem _ hy) with ⟨e2, n2⟩ | ⟨r, e2, q2⟩
      · refine .inl ⟨e2, fun y hy => ?_⟩
        rcases List.mem_cons.mp hy with z | z
        · rw [z]; exact n
        · exact n2 y z
      · exact .inr ⟨r, e2, q2⟩
    · rw [e]
      exact .inr ⟨r, rfl, q⟩
def NoRing (rs : List Row) (s : Int) : Prop := ∀ r : Int, 0 ≤ r → r < rs.length → it (fn rs s) rs.length r = none
def TheRing (rs : List Row) (o : Option (Int × List Int)) : Prop := ∃ s l, o = some (s, l) ∧ s ∈ SZ rs ∧ Rg (fn rs s) rs.length l ∧ l.length ≤ 12 ∧ ¬ NoRing rs s
theorem ring_of_is {rs : List Row} (g : ∀ r ∈ rs, GR rs.length r) (hl : rs.length ≤ 12) (p : Int) (p1 : 2 ≤ p) (p2 : p ≤ 9) : (m_ring_of ⟨p, rs⟩ = .ok none ∧ ∀ s ∈ SZ rs, NoRing rs s) ∨ ∃ o, m_ring_of ⟨p, rs⟩ = .ok o ∧ TheRing rs o := by
  unfold m_ring_of
  rw [looked_is g hl]
  simp only [M.ok_bind, ne_ok]
  refine forM_hit _ fun s hs => ?_
  obtain ⟨s1, s2⟩ := SZ_bd g hs
  unfold m_ring_of_b1
  simp only [M.ok_bind]
  rw [rng1M_ok (by omega)]
  simp only [M.ok_bind]
  rcases forM_hit (f := m_ring_of_b2 ⟨p, rs⟩ s) (k := fun _ => M.ok (.nx ())) (Q := fun c => ∃ o, c = .rt o ∧ TheRing rs o) (N := fun r => it (fn rs s) rs.length r = none) (rng 0 (rs.length : Int)) fun r hr => by
    have hb := mem_rng hr
    obtain ⟨l, el, h⟩ := ring_from_is g hl p s r p1 p2 s1 s2 (by omega) (by omega)
    unfold m_ring_of_b2
    rw [el]
    simp only [M.ok_bind, ne_ok]
    rcases h with ⟨z, h⟩ | ⟨R, ll, h⟩
    · subst z
      exact .inl ⟨rfl, h⟩
    · rw [if_pos (by have := R.ne; simpa using this)]
      exact .inr ⟨_, rfl, _, rfl, s, l, rfl, hs, R, ll, fun z => h (z r (by omega) (by omega))⟩ with ⟨e, n⟩ | ⟨c, e, o, ec, T⟩
  · rw [e]
    exact .inl ⟨rfl, fun r h0 h1 => n r (rng_mem h0 h1)⟩
  · rw [e, ec]
    exact .inr ⟨o, rfl, T⟩
def goR (rs : List Row) (s : Int) : Bool := !(rng 0 (rs.length : Int)).all fun r => !(it (fn rs s) rs.length r).isSome
theorem goR_iff {rs : List Row} {s : Int} : goR rs s = false ↔ NoRing rs s := by
  unfold goR NoRing
  rw [Bool.not_eq_false', List.all_eq_true]
  constructor
  · intro h r h0 h1
    have := h r (rng_mem h0 h1)
    simpa using this
  · intro h r hr
    have hb := mem_rng hr
    rw [h r (by omega) (by omega)]
    rfl
theorem goes_round_is {rs : List Row} (g : ∀ r ∈ rs, GR rs.length r) (hl : rs.length ≤ 12) (s : Int) : m_law_goes_round rs s = .ok (goR rs s) := by
  unfold m_law_goes_round
  simp only [M.ok_bind]
  rw [rng1M_ok (by omega)]
  simp only [M.ok_bind]
  rw [forM_stop (p := fun r => !(it (fn rs s) rs.length r).isSome) (r := true) (rng 0 (rs.length : Int)) (fun r hr => by
    have hb := mem_rng hr
    unfold m_law_goes_round_b1
    simp only [M.ok_bind]
    rw [rng1M_ok (by omega)]
    simp only [M.ok_bind]
    have key : ∀ (k : Option Int → M (Ctl Unit Bool)) (xs : List Int) (m : Nat), (∀ x, it (fn rs s) m r = some x → 0 ≤ x ∧ x < (rs.length : Int)) → forM (m_law_goes_round_b2 rs s) k xs (it (fn rs s) m r) = k (it (fn rs s) (m + xs.length) r) := fun k xs => by
      induction xs with
      | nil => exact fun m _ => rfl
      | cons y ys ih =>
        intro m hm
        rw [forM_cons]
        have e1 : m_law_goes_round_b2 rs s y (it (fn rs s) m r) = .ok (.nx (it (fn rs s) (m + 1) r)) := by
          unfold m_law_goes_round_b2
          show _ = M.ok (Ctl.nx ((it (fn rs s) m r).bind (fn rs s)))
          cases e : it (fn rs s) m r with
          | none => rfl
          | some x =>
            have hx := hm x e
            simp only [M.ok_bind, Mw.bind_assoc, Option.isSome_some, if_true, getM]
            rw [law_whole_is g s x hx.1 hx.2]
            rfl
        rw [e1]
        simp only [M.ok_bind]
        rw [ih (m + 1) (fun x hx => by
          have hx' : (it (fn rs s) m r).bind (fn rs s) = some x := hx
          cases e : it (fn rs s) m r with
          | none => rw [e] at hx'; cases hx'
          | some y =>
            rw [e] at hx'
            have hy := hm y e
            exact fn_rg g hy.1 hy.2 hx')]
        congr 2
        rw [List.length_cons]; omega
    have := key (fun s_1670 => if Option.isSome s_1670 = true then M.ok (Ctl.rt true) else M.ok (Ctl.nx ())) (rng 0 (rs.length : Int)) 0 (fun x hx => by cases hx; omega)
    rw [rng_len, show 0 + ((rs.length : Int) - 0).toNat = rs.length by omega] at this
    show forM (m_law_goes_round_b2 rs s) _ _ (it (fn rs s) 0 r) = _
    refine this.trans ?_
    cases it (fn rs s) rs.length r <;> rfl)]
  unfold goR
  cases (rng 0 (rs.length : Int)).all fun r => !(it (fn rs s) rs.length r).isSome <;> rfl
/-! ### forms -/
def isC (r : Row) : Bool := match r.cs with
  | x :: _ => decide (x = cC)
  | [] => false
def NC (rs : List Row) : Prop := ∀ r ∈ rs, isC r = false
def bn (r : Row) : Int := match r.cs with
  | [_, .i b] => b
  | _ => 0
theorem fn_none {rs : List Row} (g : ∀ r ∈ rs, GR rs.length r) (nc : NC rs) {s i : Int} (h0 : 0 ≤ i) (h1 : i < rs.length) (h : fn rs s i = none) : ∃ b, rs.getD i.toNat dR = ⟨[cB, .i b]⟩ ∧ 0 ≤ b ∧ b ≤ 5 := by
  obtain ⟨e, m⟩ := ixR rs i h0 h1
  have gr := g _ m
  have c := nc _ m
  unfold fn at h
  generalize rs.getD i.toNat dR = r at gr c h
  cases gr with
  | mesh o a b => rw [nx_mesh] at h; cases h
  | crush a => exact absurd (c.symm.trans (decide_eq_true rfl)) (by decide)
  | bin b q1 q2 => exact ⟨b, rfl, q1, q2⟩
theorem fn_some {rs : List Row} (g : ∀ r ∈ rs, GR rs.length r) (nc : NC rs) {s i t : Int} (h0 : 0 ≤ i) (h1 : i < rs.length) (h : fn rs s i = some t) : ∃ o a b, rs.getD i.toNat dR = ⟨[cM, .i o, .i a, .i b]⟩ ∧ t = if s ≤ o then a else b := by
  obtain ⟨e, m⟩ := ixR rs i h0 h1
  have gr := g _ m
  have c := nc _ m
  unfold fn at h
  generalize rs.getD i.toNat dR = r at gr c h
  cases gr with
  | mesh o a b => rw [nx_mesh] at h; exact ⟨o, a, b, rfl, (Option.some.inj h).symm⟩
  | crush a => exact absurd (c.symm.trans (decide_eq_true rfl)) (by decide)
  | bin b q1 q2 => rw [nx_bin] at h; cases h
theorem it_front (f : Int → Option Int) : ∀ (m : Nat) (r : Int), it f (m + 1) r = (f r).bind (it f m)
  | 0, r => by
    show (some r).bind f = _
    cases e : f r <;> simp [e, it]
  | m + 1, r => by
    show (it f (m + 1) r).bind f = _
    rw [it_front f m r]
    cases f r with
    | none => rfl
    | some t => rfl
def endr (f : Int → Option Int) : Nat → Int → Int
  | 0, r => r
  | m + 1, r => match f r with
    | none => r
    | some t => endr f m t
theorem loop_bin {f : Int → Option Int} {n : Nat} {τ : Type} {c : Int → M Bool} {b : Int → M (Ctl Int τ)} {k : Int → M τ} (hf : ∀ x t : Int, 0 ≤ x → x < n → f x = some t → 0 ≤ t ∧ t < n)
    (hc1 : ∀ i : Int, 0 ≤ i → i < n → f i = none → c i = .ok false) (hc2 : ∀ i t : Int, 0 ≤ i → i < n → f i = some t → c i = .ok true ∧ b i = .ok (.nx t)) : ∀ (m fu : Nat) (r : Int), 0 ≤ r → r < n → it f m r = none → m < fu →
    whM c b k fu r = k (endr f m r) ∧ (0 ≤ endr f m r ∧ endr f m r < n) ∧ f (endr f m r) = none
  | 0, _, r, _, _, h, _ => nomatch h
  | m + 1, 0, r, _, _, _, h => absurd h (Nat.not_lt_zero _)
  | m + 1, fu + 1, r, h0, h1, h, hm => by
    rw [it_front] at h
    unfold whM
    show _ = k (match f r with | none => r | some t => endr f m t) ∧ (0 ≤ (match f r with | none => r | some t => endr f m t) ∧ (match f r with | none => r | some t => endr f m t) < (n : Int)) ∧ f (match f r with | none => r | some t => endr f m t) = none
    cases e : f r with
    | none =>
      rw [hc1 r h0 h1 e]
      exact ⟨rfl, ⟨h0, h1⟩, e⟩
    | some t =>
      rw [e] at h
      obtain ⟨e1, e2⟩ := hc2 r t h0 h1 e
      obtain ⟨t0, t1⟩ := hf r t h0 h1 e
      rw [e1]
      simp only [M.ok_bind, if_true, e2]
      exact loop_bin hf hc1 hc2 m fu t t0 t1 h (by omega)
def BV (rs : List Row) (s r : Int) : Int := bn (rs.getD (endr (fn rs s) rs.length r).toNat dR)
theorem bin_at_is {rs : List Row} (g : ∀ r ∈ rs, GR rs.length r) (nc : NC rs) (hl : rs.length ≤ 12) (p : Int) {s r : Int} (nr : NoRing rs s) (h0 : 0 ≤ r) (h1 : r < rs.length) : m_bin_at ⟨p, rs⟩ r s = .ok (BV rs s r) := by
  unfold m_bin_at
  obtain ⟨e, ⟨r0, r1⟩, en⟩ := loop_bin (f := fn rs s) (n := rs.length) (c := m_bin_at_c1 ⟨p, rs⟩) (b := m_bin_at_b1 ⟨p, rs⟩ s)
    (k := fun s_1471 => ((((M.ok rs).bind fun x_1474 => (M.ok s_1471).bind fun y_1475 => ixM x_1474 y_1475).bind fun x_1476 => (M.ok (1 : Int)).bind fun y_1477 => ixM x_1476.cs y_1477).bind clI)) (fun x t a b e => fn_rg g a b e)
    (fun i a b e => by
      obtain ⟨bb, eb, _⟩ := fn_none g nc a b e
      unfold m_bin_at_c1
      simp only [M.ok_bind, (ixR rs i a b).1, eb, ix0]
      rw [show decide (cB = Cl.w (wd (Str.ofString "bin"))) = true from decide_eq_true rfl]
      rfl)
    (fun i t a b e => by
      obtain ⟨o, x, y, eb, et⟩ := fn_some g nc a b e
      unfold m_bin_at_c1 m_bin_at_b1 m_goes_on
      simp only [M.ok_bind, (ixR rs i a b).1, eb, ix0, ix1, ix2, ix3, clI]
      rw [show decide (cM = Cl.w (wd (Str.ofString "bin"))) = false from mb, show decide (cM = Cl.w (wd (Str.ofString "crush"))) = false from mc]
      refine ⟨rfl, ?_⟩
      simp only [Bool.false_eq_true, if_false]
      by_cases c : s ≤ o
      · rw [if_pos (decide_eq_true c), chk_pos (by simp), et, if_pos c]
        simp only [ne_ok, M.ok_bind, ix0]
      · rw [if_neg (by simpa using c), chk_pos (by simp), et, if_neg c]
        simp only [ne_ok, M.ok_bind, ix0]) rs.length FUEL r h0 h1 (nr r h0 h1) (by unfold FUEL; omega)
  obtain ⟨bb, eb, _⟩ := fn_none g nc r0 r1 en
  refine e.trans ?_
  simp only [M.ok_bind, (ixR rs _ r0 r1).1]
  unfold BV
  rw [eb]
  rfl
theorem law_bin_is {rs : List Row} (g : ∀ r ∈ rs, GR rs.length r) (nc : NC rs) (hl : rs.length ≤ 12) {s r : Int} (nr : NoRing rs s) (h0 : 0 ≤ r) (h1 : r < rs.length) : m_law_bin rs r s = .ok (BV rs s r) := by
  unfold m_law_bin
  obtain ⟨e, ⟨r0, r1⟩, en⟩ := loop_bin (f := fn rs s) (n := rs.length) (c := m_law_bin_c1 rs) (b := m_law_bin_b1 rs s)
    (k := fun s_1471 => ((((M.ok rs).bind fun x_1474 => (M.ok s_1471).bind fun y_1475 => ixM x_1474 y_1475).bind fun x_1476 => (M.ok (1 : Int)).bind fun y_1477 => ixM x_1476.cs y_1477).bind clI)) (fun x t a b e => fn_rg g a b e)
    (fun i a b e => by
      obtain ⟨bb, eb, _⟩ := fn_none g nc a b e
      unfold m_law_bin_c1
      simp only [M.ok_bind, (ixR rs i a b).1, eb, ix0]
      rw [show decide (cB = Cl.w (wd (Str.ofString "mesh"))) = false from bm])
    (fun i t a b e => by
      obtain ⟨o, x, y, eb, et⟩ := fn_some g nc a b e
      unfold m_law_bin_c1 m_law_bin_b1
      simp only [M.ok_bind, (ixR rs i a b).1, eb, ix0, ix1, ix2, ix3, clI]
      rw [show decide (cM = Cl.w (wd (Str.ofString "mesh"))) = true from decide_eq_true rfl]
      refine ⟨rfl, ?_⟩
      rw [chk_pos (by simp)]
      simp only [M.ok_bind]
      by_cases c : s ≤ o
      · rw [decide_eq_true c, if_pos rfl, et, if_pos c, ix1]; rfl
      · rw [decide_eq_false c, if_neg (by simp), et, if_neg c, ix0]; rfl) rs.length FUEL r h0 h1 (nr r h0 h1) (by unfold FUEL; omega)
  obtain ⟨bb, eb, _⟩ := fn_none g nc r0 r1 en
  refine e.trans ?_
  simp only [M.ok_bind, (ixR rs _ r0 r1).1]
  unfold BV
  rw [eb]
  rfl
theorem BV_bd {rs : List Row} (g : ∀ r ∈ rs, GR rs.length r) (nc : NC rs) {s r : Int} (nr : NoRing rs s) (h0 : 0 ≤ r) (h1 : r < rs.length) : 0 ≤ BV rs s r ∧ BV rs s r ≤ 5 := by
  obtain ⟨_, ⟨r0, r1⟩, en⟩ := loop_bin (τ := Unit) (f := fn rs s) (n := rs.length) (c := fun i => .ok (fn rs s i).isSome) (b := fun i => match fn rs s i with | some t => .ok (.nx t) | none => .bad) (k := fun _ => .ok ()) (fun x t a b e => fn_rg g a b e) (fun i a b e => by rw [e]; rfl) (fun i t a b e => by rw [e]; exact ⟨rfl, rfl⟩) rs.length (rs.length + 1) r h0 h1 (nr r h0 h1) (by omega)
  obtain ⟨bb, eb, b1, b2⟩ := fn_none g nc r0 r1 en
  unfold BV
  rw [eb]
  exact ⟨b1, b2⟩
def eqv (rs : List Row) (s t : Int) : Prop := ∀ r ∈ rs, isM r = true → (s ≤ opn r ↔ t ≤ opn r)
theorem fn_eqv {rs : List Row} (g : ∀ r ∈ rs, GR rs.length r) (nc : NC rs) {s t i : Int} (e : eqv rs s t) (h0 : 0 ≤ i) (h1 : i < rs.length) : fn rs s i = fn rs t i := by
  obtain ⟨_, m⟩ := ixR rs i h0 h1
  have gr := g _ m
  have c := nc _ m
  have ee := e _ m
  unfold fn
  generalize rs.getD i.toNat dR = r at gr c ee
  cases gr with
  | mesh o a b =>
    have k := ee (show isM ⟨[cM, .i o, .i a, .i b]⟩ = true from decide_eq_true rfl)
    have k' : s ≤ o ↔ t ≤ o := k
    rw [nx_mesh, nx_mesh]
    by_cases z : s ≤ o
    · rw [if_pos z, if_pos (k'.mp z)]
    · rw [if_neg z, if_neg fun y => z (k'.mpr y)]
  | crush a => exact absurd (c.symm.trans (decide_eq_true rfl)) (by decide)
  | bin b q1 q2 => rw [nx_bin, nx_bin]
theorem walk_congr {f f' : Int → Option Int} {n : Nat} (hf : ∀ x t : Int, 0 ≤ x → x < n → f x = some t → 0 ≤ t ∧ t < n) (e : ∀ i : Int, 0 ≤ i → i < n → f i = f' i) : ∀ (m : Nat) (r : Int), 0 ≤ r → r < n → it f m r = it f' m r ∧ endr f m r = endr f' m r
  | 0, r, _, _ => ⟨rfl, rfl⟩
  | m + 1, r, h0, h1 => by
    rw [it_front, it_front]
    show _ ∧ (match f r with | none => r | some t => endr f m t) = (match f' r with | none => r | some t => endr f' m t)
    rw [← e r h0 h1]
    cases er : f r with
    | none => exact ⟨rfl, rfl⟩
    | some t =>
      obtain ⟨t0, t1⟩ := hf r t h0 h1 er
      exact walk_congr hf e m t t0 t1
theorem NoRing.eqv {rs : List Row} (g : ∀ r ∈ rs, GR rs.length r) (nc : NC rs) {s t : Int} (e : eqv rs s t) (h : NoRing rs t) : NoRing rs s := fun r h0 h1 => by
  rw [(walk_congr (fun x t a b e => fn_rg g a b e) (fun i a b => fn_eqv g nc e a b) rs.length r h0 h1).1]
  exact h r h0 h1
theorem BV_eqv {rs : List Row} (g : ∀ r ∈ rs, GR rs.length r) (nc : NC rs) {s t r : Int} (e : eqv rs s t) (h0 : 0 ≤ r) (h1 : r < rs.length) : BV rs s r = BV rs t r := by
  unfold BV
  rw [(walk_congr (fun x t a b e => fn_rg g a b e) (fun i a b => fn_eqv g nc e a b) rs.length r h0 h1).2]
def osR (rs : List Row) : List Int := (rs.filter isM).map opn
theorem osR_mem {rs : List Row} {o : Int} : o ∈ osR rs ↔ ∃ r ∈ rs, isM r = true ∧ opn r = o := by
  unfold osR
  rw [List.mem_map]
  exact ⟨fun ⟨r, h, e⟩ => ⟨r, (List.mem_filter.mp h).1, (List.mem_filter.mp h).2, e⟩, fun ⟨r, h1, h2, e⟩ => ⟨r, List.mem_filter.mpr ⟨h1, h2⟩, e⟩⟩
theorem eqv_os {rs : List Row} {s t : Int} : eqv rs s t ↔ ∀ o ∈ osR rs, s ≤ o ↔ t ≤ o := by
  constructor
  · intro h o ho
    obtain ⟨r, h1, h2, e⟩ := osR_mem.mp ho
    rw [← e]; exact h r h1 h2
  · exact fun h r h1 h2 => h _ (osR_mem.mpr ⟨r, h1, h2, rfl⟩)
theorem rep_sz {rs : List Row} (g : ∀ r ∈ rs, GR rs.length r) {s : Int} (hs : 1 ≤ s) : ∃ t ∈ SZ rs, eqv rs s t := by
  by_cases z : (osR rs).filter (fun o => decide (o < s)) = []
  · refine ⟨1, SZ_mem.mpr (.inl rfl), eqv_os.mpr fun o ho => ?_⟩
    have := List.filter_eq_nil_iff.mp z o ho
    obtain ⟨r, h1, h2, e⟩ := osR_mem.mp ho
    have b := isM_opn (g r h1) h2
    rw [e] at b
    simp at this
    omega
  · obtain ⟨m1, m2⟩ := maxL_mem z
    obtain ⟨k1, k2⟩ := List.mem_filter.mp m1
    have k2' := of_decide_eq_true k2
    obtain ⟨r, h1, h2, e⟩ := osR_mem.mp k1
    refine ⟨maxL ((osR rs).filter fun o => decide (o < s)) + 1, SZ_mem.mpr (.inr ⟨r, h1, h2, .inr (by rw [e])⟩), eqv_os.mpr fun o ho => ?_⟩
    by_cases c : o < s
    · have := m2 o (List.mem_filter.mpr ⟨ho, decide_eq_true c⟩)
      omega
    · omega
theorem noring_all {rs : List Row} (g : ∀ r ∈ rs, GR rs.length r) (nc : NC rs) (h : ∀ s ∈ SZ rs, NoRing rs s) {s : Int} (hs : 1 ≤ s) : NoRing rs s := by
  obtain ⟨t, ht, e⟩ := rep_sz g hs
  exact NoRing.eqv g nc e (h t ht)
/-! the form that is told -/
abbrev FM := List (Option Int × Int)
def hdv (l : Int) : List (Int × Int) → Int
  | [] => l
  | q :: _ => q.2
def toF (l : Int) (ps : List (Int × Int)) : FM := (ps.map fun q => (some q.1, q.2)) ++ [(none, l)]
def FP (v : Int → Int) (l : Int) : List Int → List (Int × Int)
  | [] => []
  | o :: r => if v o = hdv l (FP v l r) then FP v l r else (o, v o) :: FP v l r
def fb (l : Int) : List (Int × Int) → Int → Int
  | [], _ => l
  | q :: r, s => if s ≤ q.1 then q.2 else fb l r s
def NU (l : Int) : List (Int × Int) → Prop
  | [] => True
  | q :: r => q.2 ≠ hdv l r ∧ NU l r
theorem FP_sub {v : Int → Int} {l : Int} : ∀ (r : List Int), ∀ q ∈ FP v l r, q.1 ∈ r ∧ q.2 = v q.1
  | [], q, h => nomatch h
  | o :: r, q, h => by
    unfold FP at h
    split at h
    · exact ⟨List.mem_cons_of_mem _ (FP_sub r q h).1, (FP_sub r q h).2⟩
    · rcases List.mem_cons.mp h with z | z
      · rw [z]; exact ⟨List.mem_cons_self, rfl⟩
      · exact ⟨List.mem_cons_of_mem _ (FP_sub r q z).1, (FP_sub r q z).2⟩
theorem FP_len {v : Int → Int} {l : Int} : ∀ (r : List Int), (FP v l r).length ≤ r.length
  | [] => Nat.le_refl 0
  | o :: r => by
    have := FP_len (v := v) (l := l) r
    unfold FP
    split
    · rw [List.length_cons]; omega
    · rw [List.length_cons, List.length_cons]; omega
theorem FP_lt {v : Int → Int} {l : Int} : ∀ (r : List Int), r.Pairwise (· < ·) → ((FP v l r).map (·.1)).Pairwise (· < ·)
  | [], _ => List.Pairwise.nil
  | o :: r, h => by
    obtain ⟨h1, h2⟩ := List.pairwise_cons.mp h
    unfold FP
    split
    · exact FP_lt r h2
    · rw [List.map_cons]
      refine List.pairwise_cons.mpr ⟨fun x hx => ?_, FP_lt r h2⟩
      obtain ⟨q, hq, rfl⟩ := List.mem_map.mp hx
      exact h1 _ (FP_sub r q hq).1
theorem FP_nu {v : Int → Int} {l : Int} : ∀ (r : List Int), NU l (FP v l r)
  | [] => True.intro
  | o :: r => by
    unfold FP
    split
    · exact FP_nu r
    · rename_i h
      exact ⟨h, FP_nu r⟩
theorem fb_hd {l s : Int} : ∀ {ps : List (Int × Int)}, (∀ q ∈ ps, s ≤ q.1) → fb l ps s = hdv l ps
  | [], _ => rfl
  | q :: r, h => if_pos (h q List.mem_cons_self)
theorem fb_go {v : Int → Int} {l W : Int} {O : List Int} (hv : ∀ s t : Int, 1 ≤ s → 1 ≤ t → (∀ o ∈ O, s ≤ o ↔ t ≤ o) → v s = v t) (hl : l = v W) (hW : 1 ≤ W ∧ ∀ o ∈ O, o < W) (hO : O.Pairwise (· < ·)) (h1 : ∀ o ∈ O, 1 ≤ o) :
    ∀ (r pre : List Int), O = pre ++ r → ∀ s : Int, 1 ≤ s → (∀ o ∈ pre, o < s) → fb l (FP v l r) s = v s
  | [], pre, e, s, hs, hp => by
    show l = v s
    rw [hl]
    refine hv W s hW.1 hs fun o ho => ?_
    have a := hW.2 o ho
    have b := hp o (by rw [e, List.append_nil] at ho; exact ho)
    omega
  | o :: r, pre, e, s, hs, hp => by
    have hO2 := hO
    rw [e, List.pairwise_append] at hO2
    obtain ⟨_, p2, p3⟩ := hO2
    obtain ⟨p4, p5⟩ := List.pairwise_cons.mp p2
    have ho1 := h1 o (by rw [e]; exact List.mem_append_right _ List.mem_cons_self)
    by_cases c : s ≤ o
    · have ev : v s = v o := hv s o hs ho1 fun x hx => by
        rw [e] at hx
        rcases List.mem_append.mp hx with z | z
        · have := hp x z
          have := p3 x z o List.mem_cons_self
          omega
        · rcases List.mem_cons.mp z with z | z
          · omega
          · have := p4 x z
            omega
      have hle : ∀ q ∈ FP v l r, s ≤ q.1 := fun q hq => by
        have := p4 _ (FP_sub r q hq).1
        omega
      unfold FP
      split
      · rename_i z
        rw [fb_hd hle, ← z, ev]
      · show (if s ≤ o then v o else _) = _
        rw [if_pos c, ev]
    · have ih := fb_go hv hl hW hO h1 r (pre ++ [o]) (by rw [e]; simp) s hs fun x hx => by
        rcases List.mem_append.mp hx with z | z
        · exact hp x z
        · rw [List.mem_singleton.mp z]; omega
      unfold FP
      split
      · exact ih
      · show (if s ≤ o then v o else _) = _
        rw [if_neg c]
        exact ih
def W1 : Int := 1000000000000000000000000000000000000000000000000000000000000 + 1
def PS (rs : List Row) (r : Int) : List (Int × Int) := FP (fun s => BV rs s r) (BV rs W1 r) (sortU (osR rs))
def FO (rs : List Row) (r : Int) : FM := toF (BV rs W1 r) (PS rs r)
theorem osR_bd {rs : List Row} (g : ∀ r ∈ rs, GR rs.length r) {o : Int} (h : o ∈ osR rs) : 1 ≤ o ∧ o ≤ (1000000000000000000000000000000000000000000000000000000000000 : Int) := by
  obtain ⟨r, h1, h2, e⟩ := osR_mem.mp h
  rw [← e]
  exact isM_opn (g r h1) h2
theorem fb_is {rs : List Row} (g : ∀ r ∈ rs, GR rs.length r) (nc : NC rs) {r s : Int} (h0 : 0 ≤ r) (h1 : r < rs.length) (hs : 1 ≤ s) : fb (BV rs W1 r) (PS rs r) s = BV rs s r := by
  unfold PS
  refine fb_go (v := fun s => BV rs s r) (W := W1) (O := sortU (osR rs)) (fun a b _ _ h => BV_eqv g nc (eqv_os.mpr fun o ho => h o (sortU_mem.mpr ho)) h0 h1) rfl ⟨by unfold W1; omega, fun o ho => ?_⟩ (sortU_lt _) (fun o ho => (osR_bd g (sortU_mem.mp ho)).1) _ [] rfl s hs fun _ z => nomatch z
  have := (osR_bd g (sortU_mem.mp ho)).2
  unfold W1
  omega
theorem os_lc {rs : List Row} (g : ∀ r ∈ rs, GR rs.length r) (hl : rs.length ≤ 12) : lcM (fun x : Row => (ixM x.cs 0).bind fun x => M.ok (decide (x = Cl.w (wd (Str.ofString "mesh"))))) (fun x : Row => (ixM x.cs 1).bind clI) rs = .ok (osR rs) := by
  rw [lcM_congr (c' := fun r => .ok (isM r)) (e' := fun r => .ok (opn r)) (fun r hr => by
    cases g r hr <;> (simp only [ix0, M.ok_bind]; rfl)) (fun r hr _ => by
    cases g r hr <;> (simp only [ix1, M.ok_bind, clI]; rfl))]
  exact lcM_ok isM opn (by omega)
theorem cr_lc {rs : List Row} (g : ∀ r ∈ rs, GR rs.length r) (hl : rs.length ≤ 12) : lcM (fun x : Row => (ixM x.cs 0).bind fun x => M.ok (decide (x = Cl.w (wd (Str.ofString "crush"))))) (fun x : Row => M.ok x) rs = .ok (rs.filter isC) := by
  rw [lcM_congr (c' := fun r => .ok (isC r)) (e' := fun r => .ok r) (fun r hr => by
    cases g r hr <;> (simp only [ix0, M.ok_bind]; rfl)) (fun r hr _ => rfl)]
  rw [lcM_ok isC (fun r => r) (by omega), List.map_id']
theorem osR_len {rs : List Row} (hl : rs.length ≤ 12) : (osR rs).length ≤ 12 := by
  unfold osR
  rw [List.length_map]
  have := List.length_filter_le isM rs
  omega
theorem form_go {v : Int → Int} {l : Int} {τ : Type} {f : Int → FM → M (Ctl FM τ)} {k : FM → M τ} : ∀ (r : List Int), r.length ≤ 1000 → (∀ o ∈ r, ∀ ps : List (Int × Int), ps.length ≤ 1000 → f o (toF l ps) = if v o = hdv l ps then .ok (.nx (toF l ps)) else .ok (.nx (toF l ((o, v o) :: ps)))) → forM f k r.reverse (toF l []) = k (toF l (FP v l r)) := by
  intro r
  have key : ∀ (xs : List Int) (acc : List Int), acc.length + xs.length ≤ 1000 → (∀ o ∈ xs, ∀ ps : List (Int × Int), ps.length ≤ 1000 → f o (toF l ps) = if v o = hdv l ps then .ok (.nx (toF l ps)) else .ok (.nx (toF l ((o, v o) :: ps)))) → forM f k xs (toF l (FP v l acc)) = k (toF l (FP v l (xs.reverse ++ acc))) := fun xs => by
    induction xs with
    | nil => exact fun acc _ _ => rfl
    | cons o os ih =>
      intro acc hl h
      rw [List.length_cons] at hl
      have fl := FP_len (v := v) (l := l) acc
      rw [forM_cons, h o List.mem_cons_self _ (by omega)]
      have e2 : FP v l (o :: acc) = if v o = hdv l (FP v l acc) then FP v l acc else (o, v o) :: FP v l acc := rfl
      have := ih (o :: acc) (by rw [List.length_cons]; omega) fun x hx => h x (List.mem_cons_of_mem _ hx)
      rw [List.reverse_cons, List.append_assoc]
      show _ = k (toF l (FP v l (os.reverse ++ (o :: acc))))
      rw [← this, e2]
      split <;> rfl
  intro hl h
  have := key r.reverse [] (by simpa using hl) fun o ho => h o (List.mem_reverse.mp ho)
  rw [List.reverse_reverse, List.append_nil] at this
  exact this
theorem form_of_is {rs : List Row} (g : ∀ r ∈ rs, GR rs.length r) (nc : NC rs) (hl : rs.length ≤ 12) (p : Int) (p1 : 2 ≤ p) (p2 : p ≤ 9) (nr : ∀ s ∈ SZ rs, NoRing rs s) {r : Int} (h0 : 0 ≤ r) (h1 : r < rs.length) : m_form_of ⟨p, rs⟩ r = .ok (FO rs r) := by
  have NR : ∀ s : Int, 1 ≤ s → NoRing rs s := fun s hs => noring_all g nc nr hs
  unfold m_form_of
  simp only [M.ok_bind, Mw.bind_assoc]
  rw [cr_lc g hl]
  have ec : rs.filter isC = [] := List.filter_eq_nil_iff.mpr fun r hr => by rw [nc r hr]; decide
  rw [ec]
  simp only [M.ok_bind]
  rw [if_neg (by simp)]
  rcases ring_of_is g hl p p1 p2 with ⟨e, _⟩ | ⟨o, e, s, ring, eo, hs, _, _, nn⟩
  · rw [e]
    simp only [M.ok_bind, ne_ok]
    rw [if_neg (by simp), os_lc g hl]
    simp only [M.ok_bind]
    rw [show sortUM (osR rs) = .ok (sortU (osR rs)) from chk_pos (by have := osR_len hl; omega) _]
    simp only [M.ok_bind]
    have eb := bin_at_is g nc hl p (NR W1 (by unfold W1; omega)) h0 h1
    unfold W1 at eb
    rw [eb]
    simp only [M.ok_bind, ne_ok]
    have sl := sortU_len (osR rs)
    have ol := osR_len (rs := rs) hl
    refine (form_go (v := fun s => BV rs s r) (l := BV rs W1 r) (f := m_form_of_b1 ⟨p, rs⟩ r) (k := fun s => M.ok s) (sortU (osR rs)) (by omega) fun o ho ps hps => ?_)
    have b := (osR_bd g (sortU_mem.mp ho)).1
    unfold m_form_of_b1
    rw [bin_at_is g nc hl p (NR o b) h0 h1]
    simp only [M.ok_bind, ne_ok]
    have eh : (ixM (toF (BV rs W1 r) ps) 0).bind (fun x => M.ok x.2) = .ok (hdv (BV rs W1 r) ps) := by
      cases ps with
      | nil => rfl
      | cons q t =>
        show (ixM ((some q.1, q.2) :: _) 0).bind _ = _
        rw [ix0]
        rfl
    rw [show (ixM (toF (BV rs W1 r) ps) 0).bind (fun x_2073 => M.ok x_2073.2) = .ok (hdv (BV rs W1 r) ps) from eh]
    simp only [M.ok_bind]
    by_cases c : BV rs o r = hdv (BV rs W1 r) ps
    · rw [if_pos c, decide_eq_true c]
      rfl
    · rw [if_neg c, decide_eq_false c, Bool.not_false, if_pos rfl]
      unfold insM
      rw [chk_pos (by
        refine ⟨?_, by decide, by decide⟩
        unfold toF
        rw [List.length_append, List.length_map, List.length_singleton]
        omega)]
      rfl
  · exact absurd (nr s hs) nn
theorem form_er {rs : List Row} (g : ∀ r ∈ rs, GR rs.length r) (hl : rs.length ≤ 12) (p : Int) (p1 : 2 ≤ p) (p2 : p ≤ 9) {r : Int} : ((∃ x ∈ rs, isC x = true) → m_form_of ⟨p, rs⟩ r = .er ⟨"HasCrusher"⟩) ∧ (NC rs → (∃ s ∈ SZ rs, ¬ NoRing rs s) → m_form_of ⟨p, rs⟩ r = .er ⟨"Stuck"⟩) := by
  unfold m_form_of
  simp only [M.ok_bind, Mw.bind_assoc]
  rw [cr_lc g hl]
  simp only [M.ok_bind]
  constructor
  · rintro ⟨x, hx, cx⟩
    have : 0 < (rs.filter isC).length := List.length_pos_iff.mpr fun z => List.filter_eq_nil_iff.mp z x hx cx
    rw [if_pos (decide_eq_true (by omega))]
  · intro nc ⟨s, hs, nn⟩
    have ec : rs.filter isC = [] := List.filter_eq_nil_iff.mpr fun r hr => by rw [nc r hr]; decide
    rw [ec, if_neg (by simp)]
    rcases ring_of_is g hl p p1 p2 with ⟨e, n⟩ | ⟨o, e, s', ring, eo, _⟩
    · exact absurd (n s hs) nn
    · rw [e, eo]
      rfl
/-! ### works that are not stuck -/
structure WG (rs : List Row) : Prop where
  l1 : 1 ≤ rs.length
  l2 : rs.length ≤ 12
  g : ∀ r ∈ rs, GR rs.length r
  nc : NC rs
  nr : ∀ s ∈ SZ rs, NoRing rs s
theorem stuck_go {rs : List Row} {k : List Int → M Bool} : ∀ (xs : List Row) (acc : List Int), (∀ r ∈ xs, GR rs.length r) → acc.length + 2 * xs.length ≤ 100 → ∃ l, forM m_law_stuck_b1 k xs acc = k l ∧ l.length ≤ 100 ∧ ∀ x, x ∈ l ↔ x ∈ acc ∨ ∃ r ∈ xs, isM r = true ∧ (x = opn r ∨ x = opn r + 1)
  | [], acc, _, h => ⟨acc, rfl, by simpa using h, fun x => by simp⟩
  | r :: xs, acc, g, h => by
    rw [List.length_cons] at h
    rw [forM_cons]
    have gr := g r List.mem_cons_self
    have one : ∃ a, m_law_stuck_b1 r acc = .ok (.nx a) ∧ a.length ≤ acc.length + 2 ∧ ∀ x, x ∈ a ↔ x ∈ acc ∨ (isM r = true ∧ (x = opn r ∨ x = opn r + 1)) := by
      unfold m_law_stuck_b1
      simp only [M.ok_bind, Mw.bind_assoc]
      cases gr with
      | mesh o a b =>
        have t1 : decide (cM = Cl.w (wd (Str.ofString "mesh"))) = true := decide_eq_true rfl
        simp only [M.ok_bind, ix0, ix1, clI, t1, if_true]
        rw [chk_pos (by simp)]
        simp only [M.ok_bind]
        rw [catM_ok (by simp; omega)]
        refine ⟨_, rfl, by simp, fun x => ?_⟩
        have i1 : isM ⟨[cM, .i o, .i a, .i b]⟩ = true := decide_eq_true rfl
        have i2 : opn ⟨[cM, .i o, .i a, .i b]⟩ = o := rfl
        rw [i1, i2]
        simp
      | crush a =>
        have t1 : decide (cC = Cl.w (wd (Str.ofString "mesh"))) = false := cm
        simp only [M.ok_bind, ix0, t1, Bool.false_eq_true, if_false]
        have i1 : isM ⟨[cC, .i a]⟩ = false := cm
        exact ⟨_, rfl, by omega, fun x => by rw [i1]; simp⟩
      | bin b =>
        have t1 : decide (cB = Cl.w (wd (Str.ofString "mesh"))) = false := bm
        simp only [M.ok_bind, ix0, t1, Bool.false_eq_true, if_false]
        have i1 : isM ⟨[cB, .i b]⟩ = false := bm
        exact ⟨_, rfl, by omega, fun x => by rw [i1]; simp⟩
    obtain ⟨a, ea, al, am⟩ := one
    rw [ea]
    simp only [M.ok_bind]
    obtain ⟨l, el, ll, lm⟩ := stuck_go (k := k) xs a (fun r hr => g r (List.mem_cons_of_mem _ hr)) (by omega)
    refine ⟨l, el, ll, fun x => ?_⟩
    rw [lm x, am x]
    simp only [List.mem_cons, exists_eq_or_imp, or_assoc]
theorem stuck_is {rs : List Row} (g : ∀ r ∈ rs, GR rs.length r) (hl : rs.length ≤ 12) : ∃ b, m_law_stuck rs = .ok b ∧ (b = false → ∀ s ∈ SZ rs, NoRing rs s) := by
  unfold m_law_stuck
  simp only [M.ok_bind, Mw.bind_assoc]
  obtain ⟨l, el, ll, lm⟩ := stuck_go (rs := rs) (k := fun s_412 => (lcM (fun x_417 : Int => (m_law_goes_round rs x_417).ne) (fun x_417 : Int => (M.ok x_417)) s_412).bind fun x_422 => M.ok (decide ((0 : Int) < (x_422.length : Int)))) rs [1] g (by simp; omega)
  rw [el]
  rw [lcM_congr (c' := fun s => .ok (goR rs s)) (e' := fun s => .ok s) (fun s _ => by rw [goes_round_is g (by omega)]; rfl) (fun _ _ _ => rfl)]
  rw [lcM_ok (c := goR rs) (e := fun s => s) (by omega), List.map_id']
  refine ⟨_, rfl, fun h s hs => ?_⟩
  have lmz : s ∈ l := by rw [lm s, List.mem_singleton]; exact SZ_mem.mp hs
  have : (l.filter (goR rs)).length = 0 := by
    have := of_decide_eq_false h
    omega
  rw [List.length_eq_zero_iff] at this
  exact goR_iff.mp (Bool.eq_false_iff.mpr (List.filter_eq_nil_iff.mp this s lmz))
theorem up_it {f : Int → Option Int} {n : Nat} (hf : ∀ x t : Int, 0 ≤ x → x < n → f x = some t → x < t ∧ t < n) : ∀ (m : Nat) (r x : Int), 0 ≤ r → r < n → it f m r = some x → r + m ≤ x ∧ x < n
  | 0, r, x, h0, h1, h => by cases h; omega
  | m + 1, r, x, h0, h1, h => by
    have h' : (it f m r).bind f = some x := h
    cases e : it f m r with
    | none => rw [e] at h'; cases h'
    | some y =>
      rw [e] at h'
      obtain ⟨a, b⟩ := up_it hf m r y h0 h1 e
      obtain ⟨c, d⟩ := hf y x (by omega) b h'
      omega
/-- row i leads to later rows alone -/
def LaterR (i : Nat) (r : Row) : Prop := (∃ b, r = ⟨[cB, .i b]⟩) ∨ ∃ o a b, r = ⟨[cM, .i o, .i a, .i b]⟩ ∧ (i : Int) < a ∧ (i : Int) < b
theorem later_noring {rs : List Row} (g : ∀ r ∈ rs, GR rs.length r) (nc : NC rs) (h : ∀ i r, rs[i]? = some r → LaterR i r) (s : Int) : NoRing rs s := fun r h0 h1 => by
  cases e : it (fn rs s) rs.length r with
  | none => rfl
  | some x =>
    have := up_it (f := fn rs s) (n := rs.length) (fun x t a b e => by
      refine ⟨?_, (fn_rg g a b e).2⟩
      obtain ⟨o, u, v, er, et⟩ := fn_some g nc a b e
      have hx : rs[x.toNat]? = some (rs.getD x.toNat dR) := by
        rw [List.getD_eq_getElem?_getD, List.getElem?_eq_getElem (by omega)]; rfl
      rcases h _ _ hx with ⟨bb, z⟩ | ⟨o', a', b', z, q1, q2⟩
      · rw [er] at z
        have := congrArg (fun r : Row => r.cs.length) z
        simp at this
      · rw [er] at z
        cases z
        rw [et]
        split <;> omega) rs.length r x h0 h1 e
    omega
theorem isC_GR {n : Int} {r : Row} (g : GR n r) (h : isC r = false) : (∃ b, r = ⟨[cB, .i b]⟩ ∧ 0 ≤ b ∧ b ≤ 5) ∨ ∃ o a b, r = ⟨[cM, .i o, .i a, .i b]⟩ ∧ 1 ≤ o ∧ o ≤ (1000000000000000000000000000000000000000000000000000000000000 : Int) ∧ 0 ≤ a ∧ a < n ∧ 0 ≤ b ∧ b < n := by
  cases g with
  | mesh o a b q1 q2 q3 q4 q5 q6 => exact .inr ⟨o, a, b, rfl, q1, q2, q3, q4, q5, q6⟩
  | crush a => exact absurd (h.symm.trans (decide_eq_true rfl)) (by decide)
  | bin b q1 q2 => exact .inl ⟨b, rfl, q1, q2⟩
theorem isC_bin (b : Int) : isC ⟨[cB, .i b]⟩ = false := bc
theorem isC_cr (a : Int) : isC ⟨[cC, .i a]⟩ = true := decide_eq_true rfl
theorem isC_mesh (o a b : Int) : isC ⟨[cM, .i o, .i a, .i b]⟩ = false := mc
theorem plain_ok (ns : List Int) (first p : Int) (hf : 0 ≤ first) (p1 : 2 ≤ p) (p2 : p ≤ 9) : ∃ rs, m_law_plain ⟨ns⟩ first p = .ok ⟨p, rs⟩ ∧ WG rs ∧ rs.length ≤ 9 := by
  obtain ⟨c0, ec⟩ := cell_at_ok ns first hf
  unfold m_law_plain
  simp only [M.ok_bind, Mw.bind_assoc, ec, ne_ok]
  rw [fdivM_ok (by omega) (by decide +kernel)]
  simp only [M.ok_bind]
  rw [modM_ok (by omega)]
  simp only [M.ok_bind]
  have m0 := Int.emod_nonneg (c0 / 8) (show (9 : Int) ≠ 0 by omega)
  have m1 := Int.emod_lt_of_pos (c0 / 8) (show (0 : Int) < 9 by omega)
  obtain ⟨n, hn⟩ : ∃ n : Nat, 1 + c0 / 8 % 9 = (n : Int) := ⟨(1 + c0 / 8 % 9).toNat, by omega⟩
  rw [hn, rng1M_ok (by omega)]
  simp only [M.ok_bind]
  refine forM_by (f := m_law_plain_b1 ⟨ns⟩ first (n : Int)) (P := fun m : M Wk => ∃ rs, m = .ok ⟨p, rs⟩ ∧ WG rs ∧ rs.length ≤ 9) (s := ([] : List Row)) (fun pre (s : List Row) => s.length = pre.length ∧ ∀ i r, s[i]? = some r → GR n r ∧ isC r = false ∧ LaterR i r) ⟨rfl, fun i r h => by simp at h⟩ (fun pre x s hp ⟨hs, hr⟩ => ?_) fun s ⟨hs, hr⟩ => ?_
  · obtain ⟨hx, hlt⟩ := rng_pre hp
    have push : ∀ r : Row, GR n r → isC r = false → LaterR pre.length r → ∃ s', (appM s r).bind (fun rows => M.ok (Ctl.nx rows : Ctl (List Row) Wk)) = .ok (.nx s') ∧ s'.length = (pre ++ [x]).length ∧ ∀ i r, s'[i]? = some r → GR n r ∧ isC r = false ∧ LaterR i r := fun r a b c => by
      rw [appM_ok (by omega)]
      refine ⟨_, rfl, by simp [hs], fun i r' h => ?_⟩
      by_cases z : i < s.length
      · rw [List.getElem?_append_left z] at h
        exact hr i r' h
      · rw [List.getElem?_append_right (by omega)] at h
        have : i - s.length = 0 := by
          rcases Nat.eq_zero_or_pos (i - s.length) with q | q
          · exact q
          · rw [List.getElem?_eq_none (by simp; omega)] at h; cases h
        rw [this] at h
        cases h
        have : i = pre.length := by omega
        rw [this]
        exact ⟨a, b, c⟩
    obtain ⟨c, ecc⟩ := cell_at_ok ns (first + 1 + x) (by omega)
    unfold m_law_plain_b1
    simp only [M.ok_bind, Mw.bind_assoc, ecc, ne_ok]
    by_cases q : (decide ((0 : Int) < (n : Int) - 1 - x) && decide (c % 5 < 4)) = true
    · rw [if_pos q]
      rw [Bool.and_eq_true, decide_eq_true_eq, decide_eq_true_eq] at q
      rw [modM_ok (by omega), modM_ok (by omega)]
      simp only [M.ok_bind]
      obtain ⟨v, ev, v1, v2⟩ := size_ok (c / 512)
      rw [ev]
      simp only [M.ok_bind, ne_ok]
      rw [chk_pos (by simp)]
      simp only [M.ok_bind]
      have a0 := Int.emod_nonneg (c / 5) (show (n : Int) - 1 - x ≠ 0 by omega)
      have a1 := Int.emod_lt_of_pos (c / 5) (show 0 < (n : Int) - 1 - x by omega)
      have b0 := Int.emod_nonneg (c / 40) (show (n : Int) - 1 - x ≠ 0 by omega)
      have b1 := Int.emod_lt_of_pos (c / 40) (show 0 < (n : Int) - 1 - x by omega)
      exact push _ (.mesh v _ _ v1 v2 (by omega) (by omega) (by omega) (by omega)) (isC_mesh _ _ _) (.inr ⟨_, _, _, rfl, by omega, by omega⟩)
    · rw [if_neg q, chk_pos (by simp)]
      simp only [M.ok_bind]
      exact push _ (.bin _ (by omega) (by omega)) (isC_bin _) (.inl ⟨_, rfl⟩)
  · have hl : s.length = n := by rw [hs, rng_len]; omega
    have g : ∀ r ∈ s, GR s.length r := fun r h => by
      obtain ⟨i, hi, rfl⟩ := List.getElem_of_mem h
      have := (hr i _ (List.getElem?_eq_getElem hi)).1
      rw [hl]; exact this
    have nc : NC s := fun r h => by
      obtain ⟨i, hi, rfl⟩ := List.getElem_of_mem h
      exact (hr i _ (List.getElem?_eq_getElem hi)).2.1
    rw [works_is p s p1 p2 (by omega) (by omega) g]
    exact ⟨s, rfl, ⟨by omega, by omega, g, nc, fun t _ => later_noring g nc (fun i r h => (hr i r h).2.2) t⟩, by omega⟩
theorem free_ok (ns : List Int) (first p : Int) (hf : 0 ≤ first) (p1 : 2 ≤ p) (p2 : p ≤ 9) : ∃ rs, m_law_free ⟨ns⟩ first p = .ok ⟨p, rs⟩ ∧ WG rs ∧ rs.length ≤ 9 := by
  obtain ⟨c0, ec⟩ := cell_at_ok ns first hf
  unfold m_law_free
  simp only [M.ok_bind, Mw.bind_assoc, ec, ne_ok]
  rw [fdivM_ok (by omega) (by decide +kernel)]
  simp only [M.ok_bind]
  rw [modM_ok (by omega)]
  simp only [M.ok_bind]
  have m0 := Int.emod_nonneg (c0 / 8) (show (9 : Int) ≠ 0 by omega)
  have m1 := Int.emod_lt_of_pos (c0 / 8) (show (0 : Int) < 9 by omega)
  obtain ⟨n, hn⟩ : ∃ n : Nat, 1 + c0 / 8 % 9 = (n : Int) := ⟨(1 + c0 / 8 % 9).toNat, by omega⟩
  rw [hn, rng1M_ok (by omega)]
  simp only [M.ok_bind]
  refine forM_by (f := m_law_free_b1 ⟨ns⟩ first (n : Int)) (P := fun m : M Wk => ∃ rs, m = .ok ⟨p, rs⟩ ∧ WG rs ∧ rs.length ≤ 9) (s := ([] : List Row)) (fun pre (s : List Row) => s.length = pre.length ∧ ∀ r ∈ s, GR n r ∧ isC r = false) ⟨rfl, fun r h => nomatch h⟩ (fun pre x s hp ⟨hs, hr⟩ => ?_) fun s ⟨hs, hr⟩ => ?_
  · obtain ⟨hx, hlt⟩ := rng_pre hp
    have push : ∀ r : Row, GR n r → isC r = false → ∃ s', (appM s r).bind (fun rows => M.ok (Ctl.nx rows : Ctl (List Row) Wk)) = .ok (.nx s') ∧ s'.length = (pre ++ [x]).length ∧ ∀ r ∈ s', GR n r ∧ isC r = false := fun r a b => by
      rw [appM_ok (by omega)]
      refine ⟨_, rfl, by simp [hs], fun r' h => ?_⟩
      rcases List.mem_append.mp h with z | z
      · exact hr r' z
      · rw [List.mem_singleton.mp z]; exact ⟨a, b⟩
    obtain ⟨c, ecc⟩ := cell_at_ok ns (first + 1 + x) (by omega)
    obtain ⟨r, er, gr⟩ := row_ok c (n : Int) (by omega) (by omega)
    unfold m_law_free_b1
    simp only [M.ok_bind, Mw.bind_assoc, ecc, ne_ok, er]
    cases gr with
    | mesh o a b q1 q2 q3 q4 q5 q6 =>
      rw [ix0]
      simp only [M.ok_bind]
      rw [show decide (cM = Cl.w (wd (Str.ofString "crush"))) = false from mc]
      simp only [Bool.false_eq_true, if_false, M.ok_bind]
      exact push _ (.mesh o a b q1 q2 q3 q4 q5 q6) (isC_mesh _ _ _)
    | bin b q1 q2 =>
      rw [ix0]
      simp only [M.ok_bind]
      rw [show decide (cB = Cl.w (wd (Str.ofString "crush"))) = false from bc]
      simp only [Bool.false_eq_true, if_false, M.ok_bind]
      exact push _ (.bin b q1 q2) (isC_bin _)
    | crush a q1 q2 =>
      rw [ix0]
      simp only [M.ok_bind]
      rw [show decide (cC = Cl.w (wd (Str.ofString "crush"))) = true from decide_eq_true rfl]
      simp only [if_true, M.ok_bind, ix1, clI]
      rw [modM_ok (by omega)]
      simp only [M.ok_bind]
      rw [chk_pos (by simp)]
      simp only [M.ok_bind]
      exact push _ (.bin _ (by omega) (by omega)) (isC_bin _)
  · have hl : s.length = n := by rw [hs, rng_len]; omega
    have g : ∀ r ∈ s, GR s.length r := fun r h => by rw [hl]; exact (hr r h).1
    have nc : NC s := fun r h => (hr r h).2
    obtain ⟨b, eb, hb⟩ := stuck_is g (by omega)
    rw [eb]
    simp only [M.ok_bind, ne_ok]
    cases b with
    | true => exact plain_ok ns first p hf p1 p2
    | false =>
      rw [if_neg (by simp), works_is p s p1 p2 (by omega) (by omega) g]
      exact ⟨s, rfl, ⟨by omega, by omega, g, nc, hb rfl⟩, by omega⟩
theorem form_is {rs : List Row} (w : WG rs) (p : Int) (p1 : 2 ≤ p) (p2 : p ≤ 9) {r : Int} (h0 : 0 ≤ r) (h1 : r < rs.length) : m_form_of ⟨p, rs⟩ r = .ok (FO rs r) := form_of_is w.g w.nc w.l2 p p1 p2 w.nr h0 h1
theorem bin_is {rs : List Row} (w : WG rs) {s r : Int} (hs : 1 ≤ s) (h0 : 0 ≤ r) (h1 : r < rs.length) : m_law_bin rs r s = .ok (BV rs s r) := law_bin_is w.g w.nc w.l2 (noring_all w.g w.nc w.nr hs) h0 h1
theorem cut_last {α : Type} (xs : List α) (m : α) : cut (xs ++ [m]) none (some (-1)) = xs := by
  unfold cut HT.sIx
  simp
  rw [show (-1 + ((xs.length : Int) + 1)).toNat = xs.length by omega]
  simp
theorem uptos_is (l : Int) (ps : List (Int × Int)) (h : ps.length ≤ 1000) : lcM (fun x : Option Int × Int => M.ok true) (fun x => getM x.1) (cut (toF l ps) none (some (-1))) = .ok (ps.map (·.1)) := by
  unfold toF
  rw [cut_last]
  rw [lcM_congr (c' := fun _ => .ok true) (e' := fun x : Option Int × Int => .ok (x.1.getD 0)) (fun _ _ => rfl) (fun x hx _ => by
    obtain ⟨q, _, rfl⟩ := List.mem_map.mp hx
    rfl)]
  rw [lcM_all (fun x : Option Int × Int => x.1.getD 0) (by rw [List.length_map]; omega), List.map_map]
  rfl
theorem PS_len {rs : List Row} (hl : rs.length ≤ 12) (r : Int) : (PS rs r).length ≤ 12 := by
  have h1 := FP_len (v := fun s => BV rs s r) (l := BV rs W1 r) (sortU (osR rs))
  have h2 := sortU_len (osR rs)
  have h3 := osR_len (rs := rs) hl
  unfold PS
  omega
theorem PS_up {rs : List Row} (g : ∀ r ∈ rs, GR rs.length r) {r : Int} {q : Int × Int} (h : q ∈ PS rs r) : 1 ≤ q.1 := by
  unfold PS at h
  exact (osR_bd g (sortU_mem.mp (FP_sub _ q h).1)).1
theorem isM_mesh (o a b : Int) : isM ⟨[cM, .i o, .i a, .i b]⟩ = true := decide_eq_true rfl
theorem wh (x : Int) : m_law_whole x = .ok true := by unfold m_law_whole; rfl
theorem GR.up {n m : Int} {r : Row} (g : GR n r) (h : n ≤ m) : GR m r := by
  cases g with
  | mesh o a b q1 q2 q3 q4 q5 q6 => exact .mesh o a b q1 q2 q3 (by omega) q5 (by omega)
  | crush a q1 q2 => exact .crush a q1 (by omega)
  | bin b q1 q2 => exact .bin b q1 q2
theorem loops {rs : List Row} (s i : Int) (h0 : 0 ≤ i) (h1 : i < rs.length) (h : fn rs s i = some i) : ¬ NoRing rs s := fun z => by
  have := z i h0 h1
  have k : ∀ m, it (fn rs s) m i = some i := fun m => by
    induction m with
    | zero => rfl
    | succ m ih =>
      show (it (fn rs s) m i).bind (fn rs s) = some i
      rw [ih]
      exact h
  rw [k] at this
  cases this
theorem bin_by_is (l s : Int) (ps : List (Int × Int)) : m_bin_by (toF l ps) s = .ok (fb l ps s) := by
  unfold m_bin_by
  simp only [M.ok_bind]
  generalize (fun _ : Unit => (ixM (toF l ps) (-1)).bind fun x : Option Int × Int => M.ok x.2) = k
  induction ps with
  | nil =>
    show forM _ _ [((none : Option Int), l)] () = _
    rw [forM_cons]
    unfold m_bin_by_b1
    rfl
  | cons q r ih =>
    show forM _ _ ((some q.1, q.2) :: toF l r) () = M.ok (if s ≤ q.1 then q.2 else fb l r s)
    rw [forM_cons]
    unfold m_bin_by_b1
    simp only [M.ok_bind, Option.isSome_some, Bool.not_true, orM_f, getM]
    by_cases c : s ≤ q.1
    · rw [if_pos (decide_eq_true c), if_pos c]
      rfl
    · rw [if_neg (by simpa using c), if_neg c]
      unfold m_bin_by_b1 at ih
      exact ih
theorem fb_eqv {l s t : Int} : ∀ {ps : List (Int × Int)}, (∀ q ∈ ps, s ≤ q.1 ↔ t ≤ q.1) → fb l ps s = fb l ps t
  | [], _ => rfl
  | q :: r, h => by
    have h1 := h q List.mem_cons_self
    show (if s ≤ q.1 then q.2 else fb l r s) = (if t ≤ q.1 then q.2 else fb l r t)
    by_cases c : s ≤ q.1
    · rw [if_pos c, if_pos (h1.mp c)]
    · rw [if_neg c, if_neg fun z => c (h1.mpr z), fb_eqv fun q hq => h q (List.mem_cons_of_mem _ hq)]
theorem find_least {P : Int → Bool} {s : Int} : ∀ {L : List Int}, L.Pairwise (· ≤ ·) → s ∈ L → P s = true → (∀ x ∈ L, P x = true → s ≤ x) → L.find? P = some s
  | [], _, h, _, _ => nomatch h
  | x :: r, hp, h, hs, hl => by
    obtain ⟨h1, h2⟩ := List.pairwise_cons.mp hp
    rw [List.find?_cons]
    by_cases c : P x = true
    · rw [c]
      have a := hl x List.mem_cons_self c
      have b : x ≤ s := by
        rcases List.mem_cons.mp h with z | z
        · omega
        · exact h1 s z
      have : x = s := by omega
      rw [this]
    · rw [Bool.eq_false_iff.mpr c]
      have : s ∈ r := by
        rcases List.mem_cons.mp h with z | z
        · rw [z] at hs; exact absurd hs c
        · exact z
      exact find_least h2 this hs fun y hy => hl y (List.mem_cons_of_mem _ hy)
theorem forM_first {f : Int → Unit → M (Ctl Unit (Option Int))} {P : Int → Bool} : ∀ (xs : List Int), (∀ x ∈ xs, f x () = .ok (if P x = true then .rt (some x) else .nx ())) → forM f (fun _ => M.ok none) xs () = .ok (xs.find? P)
  | [], _ => rfl
  | x :: r, h => by
    rw [forM_cons, h x List.mem_cons_self, List.find?_cons]
    by_cases c : P x = true
    · rw [if_pos c, c]; rfl
    · rw [if_neg c, Bool.eq_false_iff.mpr c]
      exact forM_first r fun y hy => h y (List.mem_cons_of_mem _ hy)
theorem due_go {k : List Int → M (Option Int)} {n m : Int} : ∀ (xs : List Row) (acc : List Int), (∀ r ∈ xs, GR n r ∨ GR m r) → acc.length + 2 * xs.length ≤ 100 → ∃ l, forM m_law_due_b1 k xs acc = k l ∧ l.length ≤ 100 ∧ ∀ x, x ∈ l ↔ x ∈ acc ∨ ∃ r ∈ xs, isM r = true ∧ (x = opn r ∨ x = opn r + 1)
  | [], acc, _, h => ⟨acc, rfl, by simpa using h, fun x => by simp⟩
  | r :: xs, acc, g, h => by
    rw [List.length_cons] at h
    rw [forM_cons]
    have one : ∀ z : Int, GR z r → ∃ a, m_law_due_b1 r acc = .ok (.nx a) ∧ a.length ≤ acc.length + 2 ∧ ∀ x, x ∈ a ↔ x ∈ acc ∨ (isM r = true ∧ (x = opn r ∨ x = opn r + 1)) := fun z gr => by
      unfold m_law_due_b1
      simp only [M.ok_bind, Mw.bind_assoc]
      cases gr with
      | mesh o a b =>
        have t1 : decide (cM = Cl.w (wd (Str.ofString "mesh"))) = true := decide_eq_true rfl
        simp only [M.ok_bind, ix0, ix1, clI, t1, if_true]
        rw [chk_pos (by simp)]
        simp only [M.ok_bind]
        rw [catM_ok (by simp; omega)]
        refine ⟨_, rfl, by simp, fun x => ?_⟩
        have i1 : isM ⟨[cM, .i o, .i a, .i b]⟩ = true := decide_eq_true rfl
        have i2 : opn ⟨[cM, .i o, .i a, .i b]⟩ = o := rfl
        rw [i1, i2]
        simp
      | crush a =>
        have t1 : decide (cC = Cl.w (wd (Str.ofString "mesh"))) = false := cm
        simp only [M.ok_bind, ix0, t1, Bool.false_eq_true, if_false]
        have i1 : isM ⟨[cC, .i a]⟩ = false := cm
        exact ⟨_, rfl, by omega, fun x => by rw [i1]; simp⟩
      | bin b =>
        have t1 : decide (cB = Cl.w (wd (Str.ofString "mesh"))) = false := bm
        simp only [M.ok_bind, ix0, t1, Bool.false_eq_true, if_false]
        have i1 : isM ⟨[cB, .i b]⟩ = false := bm
        exact ⟨_, rfl, by omega, fun x => by rw [i1]; simp⟩
    obtain ⟨a, ea, al, am⟩ := (g r List.mem_cons_self).elim (one n) (one m)
    rw [ea]
    simp only [M.ok_bind]
    obtain ⟨l, el, ll, lm⟩ := due_go (k := k) xs a (fun r hr => g r (List.mem_cons_of_mem _ hr)) (by omega)
    refine ⟨l, el, ll, fun x => ?_⟩
    rw [lm x, am x]
    simp only [List.mem_cons, exists_eq_or_imp, or_assoc]
theorem least_of {P : Int → Bool} (h : ∃ s : Int, 1 ≤ s ∧ P s = true) : ∃ s : Int, 1 ≤ s ∧ P s = true ∧ ∀ t, 1 ≤ t → t < s → P t = false := by
  have key : ∀ (n : Nat) (s : Int), s ≤ n → 1 ≤ s → P s = true → ∃ s : Int, 1 ≤ s ∧ P s = true ∧ ∀ t, 1 ≤ t → t < s → P t = false := fun n => by
    induction n with
    | zero => intro s a b _; omega
    | succ n ih =>
      intro s a b c
      by_cases z : ∃ t : Int, 1 ≤ t ∧ t < s ∧ P t = true
      · obtain ⟨t, t1, t2, t3⟩ := z
        exact ih t (by omega) t1 t3
      · refine ⟨s, b, c, fun t t1 t2 => Bool.eq_false_iff.mpr fun q => z ⟨t, t1, t2, q⟩⟩
  obtain ⟨s, h1, h2⟩ := h
  exact key s.toNat s (by omega) h1 h2
def unl (a b : List Row) (s : Int) : Bool := !decide (BV a s 0 = BV b s 0)
theorem both_is {a b : List Row} (wa : WG a) (wb : WG b) (p q : Int) (p1 : 2 ≤ p) (p2 : p ≤ 9) (q1 : 2 ≤ q) (q2 : q ≤ 9) : ∃ o, m_law_due ⟨p, a⟩ ⟨q, b⟩ = .ok o ∧ m_parted_at ⟨p, a⟩ ⟨q, b⟩ = .ok o := by
  have al := wa.l2
  have bl := wb.l2
  have a0 : (0 : Int) < a.length := by have := wa.l1; omega
  have b0 : (0 : Int) < b.length := by have := wb.l1; omega
  -- the law's list
  obtain ⟨l, el, ll, lm⟩ := due_go (n := a.length) (m := b.length) (k := fun s_2117 => forM (m_law_due_b2 ⟨p, a⟩ ⟨q, b⟩) (fun s_2151 => (M.ok (none : (Option Int)))) (sortI s_2117) ()) (a ++ b) [1] (fun r hr => (List.mem_append.mp hr).imp (wa.g r) (wb.g r)) (by rw [List.length_append]; simp; omega)
  have l1 : ∀ x ∈ l, 1 ≤ x := fun x hx => by
    rcases (lm x).mp hx with z | ⟨r, hr, hm, z⟩
    · rw [List.mem_singleton.mp z]; omega
    · have : 1 ≤ opn r := (List.mem_append.mp hr).elim (fun h => (isM_opn (wa.g r h) hm).1) (fun h => (isM_opn (wb.g r h) hm).1)
      omega
  have pa := PS_len (rs := a) al 0
  have pb := PS_len (rs := b) bl 0
  have e1 : m_law_due ⟨p, a⟩ ⟨q, b⟩ = .ok ((sortI l).find? (unl a b)) := by
    unfold m_law_due
    simp only [M.ok_bind]
    rw [catM_ok (by omega)]
    simp only [M.ok_bind]
    rw [el]
    refine forM_first _ fun x hx => ?_
    have x1 := l1 x ((sortI_perm _).mem_iff.mp hx)
    unfold m_law_due_b2
    simp only [M.ok_bind]
    rw [bin_is wa x1 (by omega) a0, bin_is wb x1 (by omega) b0]
    simp only [M.ok_bind, ne_ok]
    show _ = M.ok (if unl a b x = true then _ else _)
    unfold unl
    cases decide (BV a x 0 = BV b x 0) <;> rfl
  have e2 : m_parted_at ⟨p, a⟩ ⟨q, b⟩ = .ok ((sortI ([1] ++ ((PS a 0).map (·.1) ++ (PS b 0).map (·.1)).map (· + 1))).find? (unl a b)) := by
    unfold m_parted_at
    rw [form_is wa p p1 p2 (by omega) a0]
    simp only [M.ok_bind]
    rw [form_is wb q q1 q2 (by omega) b0]
    simp only [M.ok_bind, Mw.bind_assoc]
    rw [show cut (FO a 0) none (some (-1)) = (PS a 0).map fun q => (some q.1, q.2) from cut_last _ _, show cut (FO b 0) none (some (-1)) = (PS b 0).map fun q => (some q.1, q.2) from cut_last _ _]
    rw [catM_ok (by rw [List.length_map, List.length_map]; omega)]
    simp only [M.ok_bind]
    rw [lcM_congr (c' := fun _ => .ok true) (e' := fun x : Option Int × Int => .ok (x.1.getD 0 + 1)) (fun _ _ => rfl) (fun x hx _ => by
      rcases List.mem_append.mp hx with z | z <;> (obtain ⟨y, _, rfl⟩ := List.mem_map.mp z; rfl))]
    rw [lcM_all (fun x : Option Int × Int => x.1.getD 0 + 1) (by rw [List.length_append, List.length_map, List.length_map]; omega)]
    simp only [M.ok_bind]
    rw [catM_ok (by simp; omega)]
    simp only [M.ok_bind]
    have em : (((PS a 0).map fun q => ((some q.1 : Option Int), q.2)) ++ ((PS b 0).map fun q => (some q.1, q.2))).map (fun x : Option Int × Int => x.1.getD 0 + 1) = ((PS a 0).map (·.1) ++ (PS b 0).map (·.1)).map (· + 1) := by
      rw [List.map_append, List.map_append, List.map_map, List.map_map, List.map_map, List.map_map]
      rfl
    rw [em]
    refine forM_first _ fun x hx => ?_
    have x1 : 1 ≤ x := by
      rcases List.mem_append.mp ((sortI_perm _).mem_iff.mp hx) with z | z
      · rw [List.mem_singleton.mp z]; omega
      · obtain ⟨y, hy, rfl⟩ := List.mem_map.mp z
        rcases List.mem_append.mp hy with z | z <;> (obtain ⟨u, hu, rfl⟩ := List.mem_map.mp z)
        · have := PS_up wa.g hu; omega
        · have := PS_up wb.g hu; omega
    unfold m_parted_at_b1
    simp only [M.ok_bind]
    rw [show m_bin_by (FO a 0) x = .ok (fb (BV a W1 0) (PS a 0) x) from bin_by_is _ _ _, show m_bin_by (FO b 0) x = .ok (fb (BV b W1 0) (PS b 0) x) from bin_by_is _ _ _, fb_is wa.g wa.nc (by omega) a0 x1, fb_is wb.g wb.nc (by omega) b0 x1]
    simp only [M.ok_bind, ne_ok]
    show _ = M.ok (if unl a b x = true then _ else _)
    unfold unl
    cases decide (BV a x 0 = BV b x 0) <;> rfl
  refine ⟨_, e1, e2.trans ?_⟩
  congr 1
  have B1 : ∀ x ∈ sortI ([1] ++ ((PS a 0).map (·.1) ++ (PS b 0).map (·.1)).map (· + 1)), 1 ≤ x := fun x hx => by
    rcases List.mem_append.mp ((sortI_perm _).mem_iff.mp hx) with z | z
    · rw [List.mem_singleton.mp z]; omega
    · obtain ⟨y, hy, rfl⟩ := List.mem_map.mp z
      rcases List.mem_append.mp hy with z | z <;> (obtain ⟨u, hu, rfl⟩ := List.mem_map.mp z)
      · have := PS_up wa.g hu; omega
      · have := PS_up wb.g hu; omega
  by_cases U : ∃ s : Int, 1 ≤ s ∧ unl a b s = true
  · obtain ⟨s, s1, us, hs⟩ := least_of U
    have ge : ∀ x : Int, 1 ≤ x → unl a b x = true → s ≤ x := fun x x1 ux => by
      rcases Int.lt_or_le x s with z | z
      · rw [hs x x1 z] at ux; cases ux
      · exact z
    have sL : s ∈ sortI l := by
      refine (sortI_perm _).mem_iff.mpr ((lm s).mpr ?_)
      by_cases z : s = 1
      · exact .inl (by rw [z]; exact List.mem_cons_self)
      · have ut := hs (s - 1) (by omega) (by omega)
        unfold unl at us ut
        by_cases ca : eqv a s (s - 1)
        · by_cases cb : eqv b s (s - 1)
          · rw [BV_eqv wa.g wa.nc ca (by omega) a0, BV_eqv wb.g wb.nc cb (by omega) b0, ut] at us
            cases us
          · rw [eqv_os] at cb
            obtain ⟨o, ho⟩ := Classical.not_forall.mp cb
            obtain ⟨ho, hn⟩ := Classical.not_imp.mp ho
            obtain ⟨r, hr, hm, eo⟩ := osR_mem.mp ho
            exact .inr ⟨r, List.mem_append_right _ hr, hm, .inr (by omega)⟩
        · rw [eqv_os] at ca
          obtain ⟨o, ho⟩ := Classical.not_forall.mp ca
          obtain ⟨ho, hn⟩ := Classical.not_imp.mp ho
          obtain ⟨r, hr, hm, eo⟩ := osR_mem.mp ho
          exact .inr ⟨r, List.mem_append_left _ hr, hm, .inr (by omega)⟩
    have sB : s ∈ sortI ([1] ++ ((PS a 0).map (·.1) ++ (PS b 0).map (·.1)).map (· + 1)) := by
      refine (sortI_perm _).mem_iff.mpr ?_
      by_cases z : s = 1
      · exact List.mem_append_left _ (by rw [z]; exact List.mem_cons_self)
      · refine List.mem_append_right _ (List.mem_map.mpr ⟨s - 1, ?_, by omega⟩)
        have ut := hs (s - 1) (by omega) (by omega)
        unfold unl at us ut
        rw [← fb_is wa.g wa.nc (by omega) a0 s1, ← fb_is wb.g wb.nc (by omega) b0 s1] at us
        rw [← fb_is wa.g wa.nc (by omega) a0 (show 1 ≤ s - 1 by omega), ← fb_is wb.g wb.nc (by omega) b0 (show 1 ≤ s - 1 by omega)] at ut
        by_cases ca : ∀ q ∈ PS a 0, s ≤ q.1 ↔ s - 1 ≤ q.1
        · by_cases cb : ∀ q ∈ PS b 0, s ≤ q.1 ↔ s - 1 ≤ q.1
          · rw [fb_eqv ca, fb_eqv cb, ut] at us
            cases us
          · obtain ⟨o, ho⟩ := Classical.not_forall.mp cb
            obtain ⟨ho, hn⟩ := Classical.not_imp.mp ho
            exact List.mem_append_right _ (List.mem_map.mpr ⟨o, ho, by omega⟩)
        · obtain ⟨o, ho⟩ := Classical.not_forall.mp ca
          obtain ⟨ho, hn⟩ := Classical.not_imp.mp ho
          exact List.mem_append_left _ (List.mem_map.mpr ⟨o, ho, by omega⟩)
    rw [find_least (sortI_sorted _) sB us fun x hx => ge x (B1 x hx), find_least (sortI_sorted _) sL us fun x hx => ge x (l1 x ((sortI_perm _).mem_iff.mp hx))]
  · have none_ : ∀ x : Int, 1 ≤ x → ¬ unl a b x = true := fun x x1 ux => U ⟨x, x1, ux⟩
    rw [List.find?_eq_none.mpr fun x hx => none_ x (B1 x hx), List.find?_eq_none.mpr fun x hx => none_ x (l1 x ((sortI_perm _).mem_iff.mp hx))]
/-! the works turned -/
theorem later_is {n k : Int} (hk : 0 ≤ k) (xs : List Row) (h : ∀ r ∈ xs, GR n r ∧ isC r = false) (hl : xs.length ≤ 100) : ∃ ys, m_law_later xs k = .ok ys ∧ ys.length = xs.length ∧ ∀ r ∈ ys, GR (n + k) r ∧ isC r = false := by
  unfold m_law_later
  simp only [M.ok_bind]
  refine forM_by (f := m_law_later_b1 k) (P := fun m : M (List Row) => ∃ ys, m = .ok ys ∧ ys.length = xs.length ∧ ∀ r ∈ ys, GR (n + k) r ∧ isC r = false) (s := ([] : List Row)) (fun pre (s : List Row) => s.length = pre.length ∧ ∀ r ∈ s, GR (n + k) r ∧ isC r = false) ⟨rfl, fun r h => nomatch h⟩ (fun pre x s hp ⟨hs, hr⟩ => ?_) fun s ⟨hs, hr⟩ => ⟨s, rfl, hs, hr⟩
  have hlt := pre_len hp
  obtain ⟨gx, cx⟩ := h x (pre_mem hp)
  have push : ∀ r : Row, GR (n + k) r → isC r = false → ∃ s', (appM s r).bind (fun rows => M.ok (Ctl.nx rows : Ctl (List Row) (List Row))) = .ok (.nx s') ∧ s'.length = (pre ++ [x]).length ∧ ∀ r ∈ s', GR (n + k) r ∧ isC r = false := fun r a b => by
    rw [appM_ok (by omega)]
    refine ⟨_, rfl, by simp [hs], fun r' h => ?_⟩
    rcases List.mem_append.mp h with z | z
    · exact hr r' z
    · rw [List.mem_singleton.mp z]; exact ⟨a, b⟩
  unfold m_law_later_b1
  simp only [M.ok_bind, Mw.bind_assoc]
  rcases isC_GR gx cx with ⟨b, rfl, b1, b2⟩ | ⟨o, a, b, rfl, q1, q2, q3, q4, q5, q6⟩
  · rw [ix0]
    simp only [M.ok_bind]
    rw [show decide (cB = Cl.w (wd (Str.ofString "mesh"))) = false from bm]
    exact push _ (.bin b b1 b2) (isC_bin _)
  · simp only [ix0, ix1, ix2, ix3, M.ok_bind, clI]
    rw [show decide (cM = Cl.w (wd (Str.ofString "mesh"))) = true from decide_eq_true rfl, if_pos rfl, chk_pos (by simp)]
    simp only [M.ok_bind]
    exact push _ (.mesh o _ _ q1 q2 (by omega) (by omega) (by omega) (by omega)) (isC_mesh _ _ _)
theorem beyond_is {n at_ : Int} {r : Row} (g : GR n r) (c : isC r = false) : ∃ r', m_law_beyond r at_ = .ok r' ∧ GR (n + 1) r' ∧ isC r' = false := by
  unfold m_law_beyond
  simp only [M.ok_bind, Mw.bind_assoc]
  rcases isC_GR g c with ⟨b, rfl, b1, b2⟩ | ⟨o, a, b, rfl, q1, q2, q3, q4, q5, q6⟩
  · rw [ix0]
    simp only [M.ok_bind]
    rw [show decide (cB = Cl.w (wd (Str.ofString "mesh"))) = false from bm]
    exact ⟨_, rfl, .bin b b1 b2, isC_bin _⟩
  · simp only [ix0, ix1, ix2, ix3, M.ok_bind, clI]
    rw [show decide (cM = Cl.w (wd (Str.ofString "mesh"))) = true from decide_eq_true rfl, if_neg (by simp), chk_pos (by simp)]
    refine ⟨_, rfl, .mesh o _ _ q1 q2 ?_ ?_ ?_ ?_, isC_mesh _ _ _⟩ <;> split <;> omega
theorem setM_is (xs : List Row) (i : Int) (x : Row) (h0 : 0 ≤ i) (h1 : i < xs.length) (hl : xs.length ≤ 1000) : setM xs i x = .ok (xs.set i.toNat x) := by
  have : ixN xs.length i = some i.toNat := by
    unfold ixN
    rw [if_pos h0, if_pos h1]
  unfold setM
  rw [this]
theorem turned_is {rs : List Row} (w : WG rs) (l9 : rs.length ≤ 9) (p : Int) (p1 : 2 ≤ p) (p2 : p ≤ 9) (c : Int) : ∃ rs', m_law_turned ⟨p, rs⟩ c = .ok ⟨p, rs'⟩ ∧ 1 ≤ rs'.length ∧ rs'.length ≤ 12 ∧ (∀ r ∈ rs', GR rs'.length r) ∧ NC rs' := by
  have l1 := w.l1
  have at0 := Int.emod_nonneg (c / 4) (show (rs.length : Int) ≠ 0 by omega)
  have at1 := Int.emod_lt_of_pos (c / 4) (show (0 : Int) < rs.length by omega)
  have fin : ∀ rs' : List Row, rs'.length = rs.length → (∀ r ∈ rs', GR rs.length r ∧ isC r = false) → ∃ u, m_Works p rs' = .ok ⟨p, u⟩ ∧ 1 ≤ u.length ∧ u.length ≤ 12 ∧ (∀ r ∈ u, GR u.length r) ∧ NC u := fun rs' e h => by
    have g : ∀ r ∈ rs', GR rs'.length r := fun r hr => by rw [e]; exact (h r hr).1
    rw [works_is p rs' p1 p2 (by omega) (by omega) g]
    exact ⟨rs', rfl, by omega, by omega, g, fun r hr => (h r hr).2⟩
  unfold m_law_turned
  simp only [M.ok_bind, Mw.bind_assoc]
  rw [modM_ok (by omega)]
  simp only [M.ok_bind]
  generalize c / 4 % (rs.length : Int) = at_ at at0 at1
  have base : ∀ r ∈ rs, GR rs.length r ∧ isC r = false := fun r hr => ⟨w.g r hr, w.nc r hr⟩
  by_cases c0 : c % 4 = 0
  · rw [if_pos (decide_eq_true c0)]
    obtain ⟨e, m⟩ := ixR rs at_ at0 at1
    obtain ⟨gr, cr⟩ := base _ m
    simp only [M.ok_bind, Mw.bind_assoc, e]
    have go : ∀ x : Row, GR rs.length x → isC x = false → ∃ u, (setM rs at_ x).bind (fun s_1620 => (M.ok (decide (c % 4 = 1) && decide ((s_1620.length : Int) < 12))).bind fun b => if b = true then .bad else (M.ok (decide (c % 4 = 2) && decide ((s_1620.length : Int) < 12))).bind fun b => if b = true then .bad else m_Works p s_1620) = .ok ⟨p, u⟩ ∧ 1 ≤ u.length ∧ u.length ≤ 12 ∧ (∀ r ∈ u, GR u.length r) ∧ NC u := fun x gx cx => by
      rw [setM_is rs at_ x at0 at1 (by omega)]
      simp only [M.ok_bind]
      rw [decide_eq_false (by omega : ¬ c % 4 = 1), decide_eq_false (by omega : ¬ c % 4 = 2), Bool.false_and]
      simp only [Bool.false_eq_true, if_false]
      refine fin _ (by simp) fun r hr => ?_
      rcases List.mem_or_eq_of_mem_set hr with z | z
      · exact base r z
      · rw [z]; exact ⟨gx, cx⟩
    have k1 : decide (c % 4 = 1) = false := decide_eq_false (by omega)
    have k2 : decide (c % 4 = 2) = false := decide_eq_false (by omega)
    simp only [k1, k2, Bool.false_and, M.ok_bind, Bool.false_eq_true, if_false] at go ⊢
    rcases isC_GR gr cr with ⟨b, er, b1, b2⟩ | ⟨o, a, b, er, q1, q2, q3, q4, q5, q6⟩
    · rw [er]
      simp only [ix0, M.ok_bind]
      rw [show decide (cB = Cl.w (wd (Str.ofString "mesh"))) = false from bm, if_neg (by simp), chk_pos (by simp)]
      simp only [M.ok_bind, Mw.bind_assoc]
      exact go _ (.bin _ (by omega) (by omega)) (isC_bin _)
    · rw [er]
      simp only [ix0, ix1, ix2, ix3, M.ok_bind, clI]
      rw [show decide (cM = Cl.w (wd (Str.ofString "mesh"))) = true from decide_eq_true rfl, if_pos rfl, chk_pos (by simp)]
      simp only [M.ok_bind, Mw.bind_assoc]
      exact go _ (.mesh _ a b (by split <;> omega) (by split <;> omega) q3 q4 q5 q6) (isC_mesh _ _ _)
  · rw [if_neg (by simpa using c0)]
    simp only [M.ok_bind]
    by_cases c1 : c % 4 = 1
    · rw [decide_eq_true c1, decide_eq_true (by omega : (rs.length : Int) < 12), Bool.and_self, if_pos rfl, chk_pos (by simp)]
      simp only [M.ok_bind]
      rw [chk_pos (by simp)]
      simp only [M.ok_bind]
      obtain ⟨ys, ey, yl, yg⟩ := later_is (n := rs.length) (k := 1) (by omega) rs base (by omega)
      rw [ey]
      simp only [M.ok_bind, ne_ok]
      rw [catM_ok (by simp; omega)]
      simp only [M.ok_bind]
      rw [decide_eq_false (by omega : ¬ c % 4 = 2), Bool.false_and, if_neg (by simp)]
      have g : ∀ r ∈ [Row.mk [Cl.w (wd (Str.ofString "mesh")), Cl.i (1 + c / 64 % 50), Cl.i 1, Cl.i 1]] ++ ys, GR (rs.length + 1) r ∧ isC r = false := fun r hr => by
        rcases List.mem_append.mp hr with z | z
        · rw [List.mem_singleton.mp z]
          exact ⟨.mesh _ _ _ (by omega) (by omega) (by omega) (by omega) (by omega) (by omega), isC_mesh _ _ _⟩
        · exact yg r z
      have gl : ([Row.mk [Cl.w (wd (Str.ofString "mesh")), Cl.i (1 + c / 64 % 50), Cl.i 1, Cl.i 1]] ++ ys).length = rs.length + 1 := by simp; omega
      generalize [Row.mk [Cl.w (wd (Str.ofString "mesh")), Cl.i (1 + c / 64 % 50), Cl.i 1, Cl.i 1]] ++ ys = zs at g gl
      have gz : ∀ r ∈ zs, GR zs.length r := fun r hr => by rw [gl]; exact (g r hr).1
      rw [works_is p zs p1 p2 (by omega) (by omega) gz]
      exact ⟨zs, rfl, by omega, by omega, gz, fun r hr => (g r hr).2⟩
    · rw [decide_eq_false c1, Bool.false_and, if_neg (by simp)]
      simp only [M.ok_bind]
      by_cases c2 : c % 4 = 2
      · rw [decide_eq_true c2, decide_eq_true (by omega : (rs.length : Int) < 12), Bool.and_self, if_pos rfl]
        obtain ⟨i, hi⟩ : ∃ i : Nat, at_ = (i : Int) := ⟨at_.toNat, by omega⟩
        rw [hi, cut_take rs (by omega), cut_drop rs (by omega)]
        obtain ⟨ys, ey, yl, yg⟩ := later_is (n := rs.length) (k := 0) (by omega) (rs.take i) (fun r hr => base r (List.mem_of_mem_take hr)) (by rw [List.length_take]; omega)
        obtain ⟨zs, ez, zl, zg⟩ := later_is (n := rs.length) (k := 0) (by omega) (rs.drop i) (fun r hr => base r (List.mem_of_mem_drop hr)) (by rw [List.length_drop]; omega)
        rw [List.length_take] at yl
        rw [List.length_drop] at zl
        rw [ey, ez]
        simp only [M.ok_bind, ne_ok]
        rw [chk_pos (by simp)]
        simp only [M.ok_bind]
        rw [chk_pos (by simp)]
        simp only [M.ok_bind]
        rw [catM_ok (by simp; omega)]
        simp only [M.ok_bind]
        rw [catM_ok (by simp; omega)]
        simp only [M.ok_bind]
        have fl : (ys ++ [Row.mk [Cl.w (wd (Str.ofString "bin")), Cl.i 5]] ++ zs).length = rs.length + 1 := by simp; omega
        have fg : ∀ r ∈ ys ++ [Row.mk [Cl.w (wd (Str.ofString "bin")), Cl.i 5]] ++ zs, GR rs.length r ∧ isC r = false := fun r hr => by
          rcases List.mem_append.mp hr with z | z
          · rcases List.mem_append.mp z with z | z
            · have := yg r z; rw [Int.add_zero] at this; exact this
            · rw [List.mem_singleton.mp z]
              exact ⟨.bin 5 (by omega) (by omega), isC_bin _⟩
          · have := zg r z; rw [Int.add_zero] at this; exact this
        generalize ys ++ [Row.mk [Cl.w (wd (Str.ofString "bin")), Cl.i 5]] ++ zs = us at fl fg
        rw [show ((rs.length : Int) + 1) = ((rs.length + 1 : Nat) : Int) by omega, cut_take us (by omega), ← fl, List.take_length]
        obtain ⟨vs, ev, vl, vg⟩ := lcM_ex (e := fun x : Row => (m_law_beyond x (i : Int)).ne) (Q := fun _ r => GR (rs.length + 1) r ∧ isC r = false) (xs := us) (by omega) fun x hx => by
          obtain ⟨r', e', g', c'⟩ := beyond_is (at_ := (i : Int)) (fg x hx).1 (fg x hx).2
          exact ⟨r', by rw [e']; rfl, g', c'⟩
        rw [ev]
        simp only [M.ok_bind]
        have gz : ∀ r ∈ vs, GR vs.length r := fun r hr => by
          obtain ⟨x, _, q⟩ := vg r hr
          rw [vl, fl]
          exact q.1
        rw [works_is p vs p1 p2 (by omega) (by omega) gz]
        exact ⟨vs, rfl, by omega, by omega, gz, fun r hr => by obtain ⟨x, _, q⟩ := vg r hr; exact q.2⟩
      · rw [decide_eq_false c2, Bool.false_and, if_neg (by simp)]
        exact fin rs rfl base
theorem word_st {u v : Wk} (h : m_parted_at u v = .er ⟨"Stuck"⟩) : m_law_word u v = .ok (wd (Str.ofString "stuck")) := by
  unfold m_law_word
  rw [h]
  simp only [M.ok_bind, M.er_bind]
  unfold catchM
  dsimp only
  rw [if_neg (by decide), if_pos rfl]
  rfl
theorem word_cr {u v : Wk} (h : m_parted_at u v = .er ⟨"HasCrusher"⟩) : m_law_word u v = .ok (wd (Str.ofString "crusher")) := by
  unfold m_law_word
  rw [h]
  simp only [M.ok_bind, M.er_bind]
  unfold catchM
  dsimp only
  rw [if_pos rfl]
  rfl
theorem part_er1 {u v : Wk} {n : String} (h : m_form_of u 0 = .er ⟨n⟩) : m_parted_at u v = .er ⟨n⟩ := by
  unfold m_parted_at
  rw [h]
  rfl
theorem part_er2 {u v : Wk} {f : FM} {n : String} (h : m_form_of u 0 = .ok f) (h2 : m_form_of v 0 = .er ⟨n⟩) : m_parted_at u v = .er ⟨n⟩ := by
  unfold m_parted_at
  rw [h, h2]
  rfl
theorem refused_is {rs : List Row} (w : WG rs) (p : Int) (p1 : 2 ≤ p) (p2 : p ≤ 9) (c : Int) : m_law_refused ⟨p, rs⟩ c = .ok true := by
  unfold m_law_refused
  simp only [M.ok_bind, Mw.bind_assoc]
  have l1 := w.l1
  obtain ⟨x, y, e1, e2, hxy⟩ : ∃ x y : Int, ixM [(0 : Int), 1] (c % 2) = .ok x ∧ ixM [(1 : Int), 0] (c % 2) = .ok y ∧ ((x = 0 ∧ y = 1) ∨ (x = 1 ∧ y = 0)) := by
    rcases (by omega : c % 2 = 0 ∨ c % 2 = 1) with z | z <;> rw [z]
    · exact ⟨0, 1, ix0 _ _, ix0 _ _, .inl ⟨rfl, rfl⟩⟩
    · exact ⟨1, 0, ix1 _ _ _, ix1 _ _ _, .inr ⟨rfl, rfl⟩⟩
  rw [e1, e2]
  simp only [M.ok_bind]
  rw [chk_pos (by simp)]
  simp only [M.ok_bind]
  rw [chk_pos (by simp)]
  simp only [M.ok_bind]
  rw [chk_pos (by simp)]
  simp only [M.ok_bind]
  generalize ho : 1 + c / 3 % (1000000000000000000000000000000000000000000000000000000000000 : Int) = o
  have o1 : 1 ≤ o := by omega
  have o2 : o ≤ (1000000000000000000000000000000000000000000000000000000000000 : Int) := by omega
  generalize hlp : [Row.mk [Cl.w (wd (Str.ofString "mesh")), Cl.i o, Cl.i x, Cl.i y], Row.mk [Cl.w (wd (Str.ofString "bin")), Cl.i 2]] = lp
  have lpl : lp.length = 2 := by rw [← hlp]; rfl
  have lg : ∀ r ∈ lp, GR lp.length r ∧ isC r = false := fun r hr => by
    rw [lpl]
    rw [← hlp] at hr
    simp only [List.mem_cons, List.not_mem_nil, or_false] at hr
    rcases hr with z | z <;> subst z
    · exact ⟨.mesh o x y o1 o2 (by omega) (by omega) (by omega) (by omega), isC_mesh _ _ _⟩
    · exact ⟨.bin 2 (by omega) (by omega), isC_bin _⟩
  have st : ∃ s ∈ SZ lp, ¬ NoRing lp s := by
    have f0 : ∀ s, fn lp s 0 = some (if s ≤ o then x else y) := fun s => by
      unfold fn
      rw [← hlp]
      exact nx_mesh s o x y
    rcases hxy with ⟨hx, hy⟩ | ⟨hx, hy⟩
    · exact ⟨1, SZ_mem.mpr (.inl rfl), loops 1 0 (by omega) (by omega) (by rw [f0, if_pos o1, hx])⟩
    · exact ⟨o + 1, SZ_mem.mpr (.inr ⟨_, by rw [← hlp]; exact List.mem_cons_self, isM_mesh _ _ _, .inr rfl⟩), loops (o + 1) 0 (by omega) (by omega) (by rw [f0, if_neg (by omega), hy])⟩
  rw [works_is 3 lp (by omega) (by omega) (by omega) (by omega) fun r hr => (lg r hr).1]
  simp only [M.ok_bind]
  rw [chk_pos (by simp)]
  simp only [M.ok_bind]
  rw [chk_pos (by simp)]
  simp only [M.ok_bind]
  rw [chk_pos (by simp)]
  simp only [M.ok_bind]
  generalize hbk : [Row.mk [Cl.w (wd (Str.ofString "bin")), Cl.i 1], Row.mk [Cl.w (wd (Str.ofString "crush")), Cl.i 0]] = bk
  have bkl : bk.length = 2 := by rw [← hbk]; rfl
  have bg : ∀ r ∈ bk, GR bk.length r := fun r hr => by
    rw [bkl]
    rw [← hbk] at hr
    simp only [List.mem_cons, List.not_mem_nil, or_false] at hr
    rcases hr with z | z <;> subst z
    · exact .bin 1 (by omega) (by omega)
    · exact .crush 0 (by omega) (by omega)
  have bcr : ∃ x ∈ bk, isC x = true := ⟨_, by rw [← hbk]; exact List.mem_cons_of_mem _ List.mem_cons_self, isC_cr 0⟩
  rw [works_is 4 bk (by omega) (by omega) (by omega) (by omega) bg]
  simp only [M.ok_bind]
  have fl : ∀ q, m_form_of ⟨3, lp⟩ q = .er ⟨"Stuck"⟩ := fun q => (form_er (fun r hr => (lg r hr).1) (by omega) 3 (by omega) (by omega)).2 (fun r hr => (lg r hr).2) st
  have fk : ∀ q, m_form_of ⟨4, bk⟩ q = .er ⟨"HasCrusher"⟩ := fun q => (form_er bg (by omega) 4 (by omega) (by omega)).1 bcr
  have fp := form_is w p p1 p2 (r := 0) (by omega) (by omega)
  have L1 : lcM (fun x_3695 : (List Wk) => (M.ok true)) (fun x_3695 : (List Wk) => (ixM x_3695 0).bind fun x => (ixM x_3695 1).bind fun y => (m_law_word x y).ne) [[⟨3, lp⟩, ⟨p, rs⟩], [⟨p, rs⟩, ⟨3, lp⟩], [⟨3, lp⟩, ⟨4, bk⟩]] = .ok [wd (Str.ofString "stuck"), wd (Str.ofString "stuck"), wd (Str.ofString "stuck")] := by
    rw [lcM_congr (c' := fun _ => .ok true) (e' := fun _ => .ok (wd (Str.ofString "stuck"))) (fun _ _ => rfl) (fun x hx _ => by
      simp only [List.mem_cons, List.not_mem_nil, or_false] at hx
      rcases hx with z | z | z <;> subst z <;> rw [ix0, ix1] <;> simp only [M.ok_bind]
      · rw [word_st (part_er1 (fl 0))]; rfl
      · rw [word_st (part_er2 fp (fl 0))]; rfl
      · rw [word_st (part_er1 (fl 0))]; rfl)]
    exact lcM_all _ (by simp)
  have L2 : lcM (fun x_3695 : (List Wk) => (M.ok true)) (fun x_3695 : (List Wk) => (ixM x_3695 0).bind fun x => (ixM x_3695 1).bind fun y => (m_law_word x y).ne) [[⟨4, bk⟩, ⟨p, rs⟩], [⟨p, rs⟩, ⟨4, bk⟩], [⟨4, bk⟩, ⟨3, lp⟩], [⟨4, bk⟩, ⟨4, bk⟩]] = .ok [wd (Str.ofString "crusher"), wd (Str.ofString "crusher"), wd (Str.ofString "crusher"), wd (Str.ofString "crusher")] := by
    rw [lcM_congr (c' := fun _ => .ok true) (e' := fun _ => .ok (wd (Str.ofString "crusher"))) (fun _ _ => rfl) (fun x hx _ => by
      simp only [List.mem_cons, List.not_mem_nil, or_false] at hx
      rcases hx with z | z | z | z <;> subst z <;> rw [ix0, ix1] <;> simp only [M.ok_bind]
      · rw [word_cr (part_er1 (fk 0))]; rfl
      · rw [word_cr (part_er2 fp (fk 0))]; rfl
      · rw [word_cr (part_er1 (fk 0))]; rfl
      · rw [word_cr (part_er1 (fk 0))]; rfl)]
    exact lcM_all _ (by simp)
  rw [L1]
  simp only [M.ok_bind]
  rw [if_neg (by simp), L2]
  simp
theorem law_true (ns : List Int) (h : ns.length ≤ 63) : m_law ⟨ns⟩ = .ok true := by
  obtain ⟨c10, ec10⟩ := cell_at_ok ns 10 (by omega)
  obtain ⟨c11, ec11⟩ := cell_at_ok ns 11 (by omega)
  obtain ⟨a, ea, wa, al⟩ := free_ok ns 0 2 (by omega) (by omega) (by omega)
  obtain ⟨b, eb, wb, bl⟩ := free_ok ns 12 9 (by omega) (by omega) (by omega)
  unfold m_law
  simp only [M.ok_bind, Mw.bind_assoc, ea, eb, ec10, ec11, ne_ok]
  rw [modM_ok (by omega)]
  simp only [M.ok_bind]
  have fin : ∀ (q : Int) (o : List Row), 2 ≤ q → q ≤ 9 → WG o → (forM m_law_b1 (fun s_3971 => (andM (M.ok (decide ([a, o] = [a, o]))) (m_law_refused ⟨2, a⟩ c10))) [[⟨2, a⟩, ⟨q, o⟩], [⟨q, o⟩, ⟨2, a⟩], [⟨2, a⟩, ⟨2, a⟩]] ()) = .ok true := fun q o q1 q2 wo => by
    have one : ∀ (p q : Int) (x y : List Row), 2 ≤ p → p ≤ 9 → 2 ≤ q → q ≤ 9 → WG x → WG y → m_law_b1 [⟨p, x⟩, ⟨q, y⟩] () = .ok (.nx ()) := fun p q x y p1 p2 q1 q2 wx wy => by
      obtain ⟨u, e1, e2⟩ := both_is wx wy p q p1 p2 q1 q2
      unfold m_law_b1
      simp only [M.ok_bind, Mw.bind_assoc, ix0, ix1]
      rw [e1, e2]
      simp only [M.ok_bind, ne_ok]
      cases u with
      | none => rfl
      | some v =>
        simp only [Option.isSome_some, Bool.not_true, Bool.false_and, Bool.false_eq_true, if_false, andM_t, getM, M.ok_bind, wh, ne_ok, notM_ok, orM_f, decide_true]
    rw [forM_all fun x hx => by
      simp only [List.mem_cons, List.not_mem_nil, or_false] at hx
      rcases hx with z | z | z <;> subst z
      · exact one 2 q a o (by omega) (by omega) q1 q2 wa wo
      · exact one q 2 o a q1 q2 (by omega) (by omega) wo wa
      · exact one 2 2 a a (by omega) (by omega) (by omega) (by omega) wa wa]
    rw [refused_is wa 2 (by omega) (by omega), decide_eq_true rfl]
    rfl
  by_cases z : c11 % 2 = 1
  · rw [if_pos (decide_eq_true z), fdivM_ok (by omega) (by decide +kernel)]
    simp only [M.ok_bind]
    obtain ⟨u, eu, u1, u2, ug, un⟩ := turned_is wa al 2 (by omega) (by omega) (c11 / 2)
    rw [eu]
    simp only [M.ok_bind]
    obtain ⟨s, es, hs⟩ := stuck_is ug u2
    rw [es]
    simp only [M.ok_bind, ne_ok]
    cases s with
    | true =>
      have := fin 2 a (by omega) (by omega) wa
      simp only [M.ok_bind, if_true] at this ⊢
      exact this
    | false =>
      have := fin 2 u (by omega) (by omega) ⟨u1, u2, ug, un, hs rfl⟩
      simp only [M.ok_bind, Bool.false_eq_true, if_false] at this ⊢
      exact this
  · rw [if_neg (by simpa using z)]
    have := fin 9 b (by omega) (by omega) wb
    simp only [M.ok_bind] at this ⊢
    exact this

def topS (i : Nat) : Stmt := PySem.Challenge.pw_meshworks_k27_where_works_part.main.body.getD i (.Pass ⟨0, 0, 0, 0⟩)
section
variable {P : Program} {w : World} {K : PySem.W.Frag} {mg : Str → Option Value} {base : Heap} {ce : Ce}
/-! ### _law_whole_to -/
abbrev s_law_whole_to : Stmt := topS 30
abbrev N_law_whole_to : List Str := ["rows", "row", "size", "told"]
theorem sc_law_whole_to : FnScope N_law_whole_to ["rows", "row", "size"] (defScope s_law_whole_to) := ⟨rfl, rfl, rfl, by decide +kernel, rfl, by decide +kernel, by decide +kernel⟩
abbrev sp_law_whole_to (K : PySem.W.Frag) (ce : Ce) : Sp := SpF0 ce (RC K (α := (List Row)) (RC K (α := Int) (RC K (α := Int) R0))) (rv K (ρ := (Option Int))) (fun a : ((List Row) × Int × Int × Unit) => m_law_whole_to a.1 a.2.1 a.2.2.1)
theorem ok_law_whole_to {f : Addr} {fd : FuncData} (FF : Fun K "_law_whole_to" "_law_whole_to" s_law_whole_to f fd) (z_int : mg "int" = none) : FnOk P w K mg base CX0 1 f fd ["rows", "row", "size"] (sp_law_whole_to K ce) := by
  refine FF.ok sc_law_whole_to (fun vs H0 Q E h => ?_) (fun cdv A outer s H0 vs Q E hr h => ?_)
  · obtain ⟨F0, ⟨a0_rows, a1_row, a2_size, _⟩, e0, ⟨v0, _, rfl, r0, ⟨v1, _, rfl, r1, ⟨v2, _, rfl, r2, rfl⟩⟩⟩, w⟩ := h
    rfl
  · obtain ⟨F0, ⟨a0_rows, a1_row, a2_size, _⟩, e0, ⟨v0, _, rfl, r0, ⟨v1, _, rfl, r1, ⟨v2, _, rfl, r2, rfl⟩⟩⟩, w⟩ := h
    have w := wp_post w
    have G := Gr.rf e0
    have nd := sc_law_whole_to.nd
    have hQ : ∀ r F1 H1 v, Gr F0 H0 F1 H1 → (rv K (ρ := (Option Int))) F0 H0 F1 H1 v r → Fin (rv K (ρ := (Option Int))) F0 H0 Q r → Q v H1 := fun r F1 H1 v g m p => p F1 H1 v g m
    refine ⟨_, (pss_cons (ps_set (i := 3) nd rfl (by first | exact Or.inl rfl | exact Or.inr rfl) (pe_ix (r := rIxL K) ix_list (pv 0) (pv 1) (fun _ _ => rfl)))
      (pss_cons (ps_if (pt_cmpR (r := rEqD K) (op_eqD hr.units) (pe_ix (r := rIxT K) ix_tup (pv 3) pe_int (fun _ _ => rfl)) pe_str (nomark _)) (pss_one (ps_ret (pe_ix (r := rIxL K) ix_list (pe_lst (pa_cons (pe_ix (r := rIxT K) ix_tup (pv 3) pe_int (fun _ _ => rfl)) (pa_cons (pe_ix (r := rIxT K) ix_tup (pv 3) pe_int (fun _ _ => rfl)) pa_nil))) (pe_callTy call_int1 (by rfl) z_int (by decide +kernel) (pa_cons (pe_cmpR op_le (pv 2) (pe_ix (r := rIxT K) ix_tup (pv 3) pe_int (fun _ _ => rfl)) (nomark _)) pa_nil)) (fun _ _ => rfl)))) pss_nil)
      (pss_cons (ps_if (PW.pt (pw_and (pt_cmpR (r := rEqD K) (op_eqD hr.units) (pe_ix (r := rIxT K) ix_tup (pv 3) pe_int (fun _ _ => rfl)) pe_str (nomark _)) (pw_and1 (pt_cmpR op_eq (pv 2) pe_int (nomark _))))) (pss_one (ps_ret (pe_ix (r := rIxT K) ix_tup (pv 3) pe_int (fun _ _ => rfl)))) pss_nil)
      (pss_one (ps_ret pe_non))))), ?_⟩
    have w := show Wp ce E0 H0 (m_law_whole_to a0_rows a1_row a2_size) _ from w
    unfold m_law_whole_to at w
    refine q_asg (K := K) G w (em_op (em_var rfl r0) (em_var rfl r1) fun _ _ => o_ixL) fun told_49 F_50 H_51 v_53 g_52 r_54 w => ?_
    have G := G.tr g_52
    have r0 := Rep.mo (K := K) g_52.ff r0
    have r1 := Rep.mo (K := K) g_52.ff r1
    have r2 := Rep.mo (K := K) g_52.ff r2
    refine q_if2 G w (t_of (em_op (em_op (em_var rfl r_54) em_int fun _ _ => o_rowix) (e_clw (em_wd (by decide +kernel))) fun _ _ => (o_eqD (by decide)))) (fun F_59 H_60 g_61 w => ?_) (fun F_59 H_60 g_61 w => ?_)
    · have G := G.tr g_61
      have r0 := Rep.mo (K := K) g_61.ff r0
      have r1 := Rep.mo (K := K) g_61.ff r1
      have r2 := Rep.mo (K := K) g_61.ff r2
      have r_54 := Rep.mo (K := K) g_61.ff r_54
      exact s_ret0 G w (em_some (em_op (Ev.nv (em_lst' (el_cons (em_clI (em_op (em_var rfl r_54) em_int fun _ _ => o_rowix)) (el_cons (em_clI (em_op (em_var rfl r_54) em_int fun _ _ => o_rowix)) (el_nil (α := Int)))))) (em_cb (ea_cons (em_op (em_var rfl r2) (em_clI (em_op (em_var rfl r_54) em_int fun _ _ => o_rowix)) fun _ _ => o_le) ea_nil) fun _ => a_intB) fun _ _ => o_ixL)) fun r F1 H1 v g m p => hQ r F1 H1 v g m p
    · have G := G.tr g_61
      have r0 := Rep.mo (K := K) g_61.ff r0
      have r1 := Rep.mo (K := K) g_61.ff r1
      have r2 := Rep.mo (K := K) g_61.ff r2
      have r_54 := Rep.mo (K := K) g_61.ff r_54
      refine s_next ?_
      refine s_nx ?_
      refine q_if2 G w (tm_and (t_of (em_op (em_op (em_var rfl r_54) em_int fun _ _ => o_rowix) (e_clw (em_wd (by decide +kernel))) fun _ _ => (o_eqD (by decide)))) (t_of (e2 (em_var rfl r2) em_int o_eqI))) (fun F_89 H_90 g_91 w => ?_) (fun F_89 H_90 g_91 w => ?_)
      · have G := G.tr g_91
        have r0 := Rep.mo (K := K) g_91.ff r0
        have r1 := Rep.mo (K := K) g_91.ff r1
        have r2 := Rep.mo (K := K) g_91.ff r2
        have r_54 := Rep.mo (K := K) g_91.ff r_54
        exact s_ret0 G w (em_some (em_clI (em_op (em_var rfl r_54) em_int fun _ _ => o_rowix))) fun r F1 H1 v g m p => hQ r F1 H1 v g m p
      · have G := G.tr g_91
        have r0 := Rep.mo (K := K) g_91.ff r0
        have r1 := Rep.mo (K := K) g_91.ff r1
        have r2 := Rep.mo (K := K) g_91.ff r2
        have r_54 := Rep.mo (K := K) g_91.ff r_54
        refine s_next ?_
        refine s_nx ?_
        exact s_ret0 G w (em_none (α := Int)) fun r F1 H1 v g m p => hQ r F1 H1 v g m p
/-! ### _law_goes_round -/
abbrev s_law_goes_round : Stmt := topS 31
abbrev N_law_goes_round : List Str := ["rows", "size", "row", "here", "step"]
theorem sc_law_goes_round : FnScope N_law_goes_round ["rows", "size"] (defScope s_law_goes_round) := ⟨rfl, rfl, rfl, by decide +kernel, rfl, by decide +kernel, by decide +kernel⟩
abbrev sp_law_goes_round (K : PySem.W.Frag) (ce : Ce) : Sp := SpF0 ce (RC K (α := (List Row)) (RC K (α := Int) R0)) (rv K (ρ := Bool)) (fun a : ((List Row) × Int × Unit) => m_law_goes_round a.1 a.2.1)
theorem ok_law_goes_round {f : Addr} {fd : FuncData} (FF : Fun K "_law_goes_round" "_law_goes_round" s_law_goes_round f fd) {a__law_whole_to : Addr} {d__law_whole_to : FuncData} (G__law_whole_to : FnOk P w K mg base CX0 1 a__law_whole_to d__law_whole_to ["rows", "row", "size"] (sp_law_whole_to K ce)) (mg__law_whole_to : mg "_law_whole_to" = some (.ref a__law_whole_to)) (k__law_whole_to : PySem.W.keepIn K (.ref a__law_whole_to) = true) (b__law_whole_to : Binds K d__law_whole_to ["rows", "row", "size"] []) (z_len : mg "len" = none) (z_range : mg "range" = none) : FnOk P w K mg base CX0 2 f fd ["rows", "size"] (sp_law_goes_round K ce) := by
  refine FF.ok sc_law_goes_round (fun vs H0 Q E h => ?_) (fun cdv A outer s H0 vs Q E hr h => ?_)
  · obtain ⟨F0, ⟨a0_rows, a1_size, _⟩, e0, ⟨v0, _, rfl, r0, ⟨v1, _, rfl, r1, rfl⟩⟩, w⟩ := h
    rfl
  · obtain ⟨F0, ⟨a0_rows, a1_size, _⟩, e0, ⟨v0, _, rfl, r0, ⟨v1, _, rfl, r1, rfl⟩⟩, w⟩ := h
    have w := wp_post w
    have G := Gr.rf e0
    have nd := sc_law_goes_round.nd
    have hQ : ∀ r F1 H1 v, Gr F0 H0 F1 H1 → (rv K (ρ := Bool)) F0 H0 F1 H1 v r → Fin (rv K (ρ := Bool)) F0 H0 Q r → Q v H1 := fun r F1 H1 v g m p => p F1 H1 v g m
    refine ⟨_, (pss_cons (ps_for (by first | exact PassesOwn.never | exact passes_of rfl) rfl (pi_range1 rfl z_range (pa_cons (pe_callB (r := rLenS K) call_len_seq (by rfl) z_len (by decide +kernel) (pa_cons (pv 0) pa_nil)) pa_nil)) (pg_name (i := 2) nd rfl (by first | exact Or.inl rfl | exact Or.inr rfl)) (pss_cons (ps_set (i := 3) nd rfl (by first | exact Or.inl rfl | exact Or.inr rfl) (pv 2))
      (pss_cons (ps_for (by first | exact PassesOwn.never | exact passes_of rfl) rfl (pi_range1 rfl z_range (pa_cons (pe_callB (r := rLenS K) call_len_seq (by rfl) z_len (by decide +kernel) (pa_cons (pv 0) pa_nil)) pa_nil)) (pg_name (i := 4) nd rfl (by first | exact Or.inl rfl | exact Or.inr rfl)) (pss_one (ps_if (pt_cmpR op_notN (pv 3) pe_non (nomark _)) (pss_one (ps_set (i := 3) nd rfl (by first | exact Or.inl rfl | exact Or.inr rfl) (pe_call G__law_whole_to (hr.mono (by decide)) rfl mg__law_whole_to k__law_whole_to b__law_whole_to .nil pass0 (pa_cons (pv 0) (pa_cons (pv 3) (pa_cons (pv 1) pa_nil)))))) pss_nil)))
      (pss_one (ps_if (pt_cmpR op_notN (pv 3) pe_non (nomark _)) (pss_one (ps_ret pe_bl)) pss_nil)))))
      (pss_one (ps_ret pe_bl))), ?_⟩
    have w := show Wp ce E0 H0 (m_law_goes_round a0_rows a1_size) _ from w
    unfold m_law_goes_round at w
    refine q_for (S := Unit) (fun s F' H' σ' => ∃ (z_186 : Option V) (z_187 : Option V) (z_188 : Option V), σ' = [some v0, some v1, z_186, z_187, z_188] ∧ Gr F0 H0 F' H' ∧ Ex F0 F') G (ei_rng1 (e_cb (e_cons (em_var rfl r0) ea_nil) a_len)) (tg_name (K := K)) w (fun _ _ g_275 => ⟨_, _, _, rfl, G.tr g_275, g_275.ff⟩) (fun _ _ _ _ ⟨_, _, _, _, G, _⟩ => G) ?_ ?_
    · rintro x_190 s_189 F_191 H_192 _ ⟨z_186, z_187, z_188, hs_193, G, e_194⟩ F_195 H_196 σ_197 g_198 ⟨v_206, h_208, r_207⟩ D_203 P_204 hrt_205 hN_199 hC_200 hB_201 hP_202 w
      subst hs_193
      subst h_208
      have r0 := Rep.mo (K := K) e_194 r0
      have r1 := Rep.mo (K := K) e_194 r1
      have G := G.tr g_198
      have r0 := Rep.mo (K := K) g_198.ff r0
      have r1 := Rep.mo (K := K) g_198.ff r1
      have e_194 := Ex.tr e_194 g_198.ff
      have e_209 := Ex.rf F_195
      have hQ : ∀ r F1 H1 v, Gr F0 H0 F1 H1 → (rv K (ρ := Bool)) F0 H0 F1 H1 v r → P_204 (.rt r) → D_203.rt v H1 := fun r F1 H1 v g m p => by rw [hrt_205]; exact hQ r F1 H1 v g m (hP_202 _ p)
      unfold m_law_goes_round_b1 at w
      refine q_asg (K := K) G w (e_some (em_var rfl r_207)) fun here_210 F_211 H_212 v_214 g_213 r_215 w => ?_
      have G := G.tr g_213
      have r0 := Rep.mo (K := K) g_213.ff r0
      have r1 := Rep.mo (K := K) g_213.ff r1
      have r_207 := Rep.mo (K := K) g_213.ff r_207
      have e_194 := Ex.tr e_194 g_213.ff
      have e_209 := Ex.tr e_209 g_213.ff
      refine q_for (S := (Option Int)) (fun s F' H' σ' => ∃ (v_216 : V) (z_217 : Option V), σ' = [some v0, some v1, some v_206, some v_216, z_217] ∧ Gr F0 H0 F' H' ∧ Ex F_211 F' ∧ rp (α := (Option Int)) K F' v_216 s) G (ei_rng1 (e_cb (e_cons (em_var rfl r0) ea_nil) a_len)) (tg_name (K := K)) w (fun _ _ g_267 => ⟨_, _, rfl, G.tr g_267, g_267.ff, Rep.mo (K := K) g_267.ff r_215⟩) (fun _ _ _ _ ⟨_, _, _, G, _⟩ => G) ?_ ?_
      · rintro x_219 s_218 F_220 H_221 _ ⟨v_216, z_217, hs_222, G, e_223, r_224⟩ F_225 H_226 σ_227 g_228 ⟨v_236, h_238, r_237⟩ D_233 P_234 hrt_235 hN_229 hC_230 hB_231 hP_232 w
        subst hs_222
        subst h_238
        have r0 := Rep.mo (K := K) e_223 r0
        have r1 := Rep.mo (K := K) e_223 r1
        have r_207 := Rep.mo (K := K) e_223 r_207
        have e_194 := Ex.tr e_194 e_223
        have e_209 := Ex.tr e_209 e_223
        have G := G.tr g_228
        have r0 := Rep.mo (K := K) g_228.ff r0
        have r1 := Rep.mo (K := K) g_228.ff r1
        have r_207 := Rep.mo (K := K) g_228.ff r_207
        have r_224 := Rep.mo (K := K) g_228.ff r_224
        have e_194 := Ex.tr e_194 g_228.ff
        have e_209 := Ex.tr e_209 g_228.ff
        have e_223 := Ex.tr e_223 g_228.ff
        have e_239 := Ex.rf F_225
        have hQ : ∀ r F1 H1 v, Gr F0 H0 F1 H1 → (rv K (ρ := Bool)) F0 H0 F1 H1 v r → P_234 (.rt (.rt r)) → D_233.rt v H1 := fun r F1 H1 v g m p => by rw [hrt_235]; exact hQ r F1 H1 v g m (hP_232 _ p)
        unfold m_law_goes_round_b2 at w
        refine s_if2 G w (t_of (e2 (em_var rfl r_224) em_unit o_notN)) (fun F_240 H_241 g_242 w => ?_) (fun F_240 H_241 g_242 w => ?_)
        · have G := G.tr g_242
          have r0 := Rep.mo (K := K) g_242.ff r0
          have r1 := Rep.mo (K := K) g_242.ff r1
          have r_207 := Rep.mo (K := K) g_242.ff r_207
          have r_224 := Rep.mo (K := K) g_242.ff r_224
          have r_237 := Rep.mo (K := K) g_242.ff r_237
          have e_194 := Ex.tr e_194 g_242.ff
          have e_209 := Ex.tr e_209 g_242.ff
          have e_223 := Ex.tr e_223 g_242.ff
          have e_239 := Ex.tr e_239 g_242.ff
          refine s_asg (K := K) G w (em_call0 (f := (fun a : ((List Row) × Int × Int × Unit) => m_law_whole_to a.1 a.2.1 a.2.2.1)) (ea_cons (em_var rfl r0) (ea_cons (em_get (em_var rfl r_224)) (ea_cons (em_var rfl r1) ea_nil)))) fun here_250 F_251 H_252 v_254 g_253 r_255 w => ?_
          have G := G.tr g_253
          have r0 := Rep.mo (K := K) g_253.ff r0
          have r1 := Rep.mo (K := K) g_253.ff r1
          have r_207 := Rep.mo (K := K) g_253.ff r_207
          have r_237 := Rep.mo (K := K) g_253.ff r_237
          have e_194 := Ex.tr e_194 g_253.ff
          have e_209 := Ex.tr e_209 g_253.ff
          have e_223 := Ex.tr e_223 g_253.ff
          have e_239 := Ex.tr e_239 g_253.ff
          exact hN_229 _ w _ _ _ e_239 ⟨_, _, rfl, G, e_223, r_255⟩
        · have G := G.tr g_242
          have r0 := Rep.mo (K := K) g_242.ff r0
          have r1 := Rep.mo (K := K) g_242.ff r1
          have r_207 := Rep.mo (K := K) g_242.ff r_207
          have r_224 := Rep.mo (K := K) g_242.ff r_224
          have r_237 := Rep.mo (K := K) g_242.ff r_237
          have e_194 := Ex.tr e_194 g_242.ff
          have e_209 := Ex.tr e_209 g_242.ff
          have e_223 := Ex.tr e_223 g_242.ff
          have e_239 := Ex.tr e_239 g_242.ff
          refine s_next ?_
          exact hN_229 _ w _ _ _ e_239 ⟨_, _, rfl, G, e_223, r_224⟩
      · rintro s_259 F_260 H_261 _ e_262 ⟨v_216, z_217, hs_256, G, e_257, r_258⟩ w
        subst hs_256
        have r0 := Rep.mo (K := K) e_257 r0
        have r1 := Rep.mo (K := K) e_257 r1
        have r_207 := Rep.mo (K := K) e_257 r_207
        have e_194 := Ex.tr e_194 e_257
        have e_209 := Ex.tr e_209 e_257
        refine s_if2 G w (t_of (e2 (em_var rfl r_258) em_unit o_notN)) (fun F_263 H_264 g_265 w => ?_) (fun F_263 H_264 g_265 w => ?_)
        · have G := G.tr g_265
          have r0 := Rep.mo (K := K) g_265.ff r0
          have r1 := Rep.mo (K := K) g_265.ff r1
          have r_207 := Rep.mo (K := K) g_265.ff r_207
          have r_258 := Rep.mo (K := K) g_265.ff r_258
          have e_194 := Ex.tr e_194 g_265.ff
          have e_209 := Ex.tr e_209 g_265.ff
          exact s_ret G w em_bl fun r F1 H1 v g m p => hQ r F1 H1 v g m p
        · have G := G.tr g_265
          have r0 := Rep.mo (K := K) g_265.ff r0
          have r1 := Rep.mo (K := K) g_265.ff r1
          have r_207 := Rep.mo (K := K) g_265.ff r_207
          have r_258 := Rep.mo (K := K) g_265.ff r_258
          have e_194 := Ex.tr e_194 g_265.ff
          have e_209 := Ex.tr e_209 g_265.ff
          refine s_next ?_
          exact hN_199 _ w _ _ _ e_209 ⟨_, _, _, rfl, G, e_194⟩
    · rintro s_271 F_272 H_273 _ e_274 ⟨z_186, z_187, z_188, hs_269, G, e_270⟩ w
      subst hs_269
      have r0 := Rep.mo (K := K) e_270 r0
      have r1 := Rep.mo (K := K) e_270 r1
      exact s_ret0 G w em_bl fun r F1 H1 v g m p => hQ r F1 H1 v g m p
/-! ### _law_stuck -/
abbrev s_law_stuck : Stmt := topS 32
abbrev N_law_stuck : List Str := ["rows", "sizes", "told", "size"]
theorem sc_law_stuck : FnScope N_law_stuck ["rows"] (defScope s_law_stuck) := ⟨rfl, rfl, rfl, by decide +kernel, rfl, by decide +kernel, by decide +kernel⟩
abbrev sp_law_stuck (K : PySem.W.Frag) (ce : Ce) : Sp := SpF0 ce (RC K (α := (List Row)) R0) (rv K (ρ := Bool)) (fun a : ((List Row) × Unit) => m_law_stuck a.1)
theorem ok_law_stuck {f : Addr} {fd : FuncData} (FF : Fun K "_law_stuck" "_law_stuck" s_law_stuck f fd) {a__law_goes_round : Addr} {d__law_goes_round : FuncData} (G__law_goes_round : FnOk P w K mg base CX0 2 a__law_goes_round d__law_goes_round ["rows", "size"] (sp_law_goes_round K ce)) (mg__law_goes_round : mg "_law_goes_round" = some (.ref a__law_goes_round)) (k__law_goes_round : PySem.W.keepIn K (.ref a__law_goes_round) = true) (b__law_goes_round : Binds K d__law_goes_round ["rows", "size"] []) (z_len : mg "len" = none) : FnOk P w K mg base CX0 3 f fd ["rows"] (sp_law_stuck K ce) := by
  refine FF.ok sc_law_stuck (fun vs H0 Q E h => ?_) (fun cdv A outer s H0 vs Q E hr h => ?_)
  · obtain ⟨F0, ⟨a0_rows, _⟩, e0, ⟨v0, _, rfl, r0, rfl⟩, w⟩ := h
    rfl
  · obtain ⟨F0, ⟨a0_rows, _⟩, e0, ⟨v0, _, rfl, r0, rfl⟩, w⟩ := h
    have w := wp_post w
    have G := Gr.rf e0
    have nd := sc_law_stuck.nd
    have hQ : ∀ r F1 H1 v, Gr F0 H0 F1 H1 → (rv K (ρ := Bool)) F0 H0 F1 H1 v r → Fin (rv K (ρ := Bool)) F0 H0 Q r → Q v H1 := fun r F1 H1 v g m p => p F1 H1 v g m
    refine ⟨_, (pss_cons (ps_set (i := 1) nd rfl (by first | exact Or.inl rfl | exact Or.inr rfl) (pe_lst (pa_cons pe_int pa_nil)))
      (pss_cons (ps_for (by first | exact PassesOwn.never | exact passes_of rfl) rfl (pi_list (pv 0)) (pg_name (i := 2) nd rfl (by first | exact Or.inl rfl | exact Or.inr rfl)) (pss_one (ps_if (pt_cmpR (r := rEqD K) (op_eqD hr.units) (pe_ix (r := rIxT K) ix_tup (pv 2) pe_int (fun _ _ => rfl)) pe_str (nomark _)) (pss_one (ps_set (i := 1) nd rfl (by first | exact Or.inl rfl | exact Or.inr rfl) (pe_op op_cat (pv 1) (pe_lst (pa_cons (pe_ix (r := rIxT K) ix_tup (pv 2) pe_int (fun _ _ => rfl)) (pa_cons (pe_op op_add (pe_ix (r := rIxT K) ix_tup (pv 2) pe_int (fun _ _ => rfl)) pe_int) pa_nil)))))) pss_nil)))
      (pss_one (ps_ret (pe_cmpR op_gt (pe_callB (r := rLenS K) call_len_seq (by rfl) z_len (by decide +kernel) (pa_cons (pe_lc (own := [("size", 3)]) (g := (gName 3)) (by rfl) nd (pi_list (pv 1)) (blkOk_by (own := [("size", 3)]) (N := N_law_stuck) (sc := defScope s_law_stuck) (by decide +kernel)) (fun _ _ _ _ _ => (pg_name (i := 3) nd rfl (by first | exact Or.inl rfl | exact Or.inr rfl))) (fun _ _ _ _ _ => (pts_one (pt_val (pe_call G__law_goes_round (hr.mono (by decide)) rfl mg__law_goes_round k__law_goes_round b__law_goes_round .nil pass0 (pa_cons (pv 0) (pa_cons (pv 3) pa_nil)))))) (fun _ _ _ _ _ => (pv 3))) pa_nil)) pe_int (nomark _)))))), ?_⟩
    have w := show Wp ce E0 H0 (m_law_stuck a0_rows) _ from w
    unfold m_law_stuck at w
    refine q_asg (K := K) G w (Ev.nv (e_lst (e_lcons em_int (el_nil (α := Int))) (by simp))) fun sizes_353 F_354 H_355 v_357 g_356 r_358 w => ?_
    have G := G.tr g_356
    have r0 := Rep.mo (K := K) g_356.ff r0
    refine q_for (S := (List Int)) (fun s F' H' σ' => ∃ (v_359 : V) (z_360 : Option V), σ' = [some v0, some v_359, z_360, none] ∧ Gr F0 H0 F' H' ∧ Ex F_354 F' ∧ rp (α := (List Int)) K F' v_359 s) G (ei_list (em_var rfl r0)) (tg_name (K := K)) w (fun _ _ g_427 => ⟨_, _, rfl, G.tr g_427, g_427.ff, Rep.mo (K := K) g_427.ff r_358⟩) (fun _ _ _ _ ⟨_, _, _, G, _⟩ => G) ?_ ?_
    · rintro x_362 s_361 F_363 H_364 _ ⟨v_359, z_360, hs_365, G, e_366, r_367⟩ F_368 H_369 σ_370 g_371 ⟨v_379, h_381, r_380⟩ D_376 P_377 hrt_378 hN_372 hC_373 hB_374 hP_375 w
      subst hs_365
      subst h_381
      have r0 := Rep.mo (K := K) e_366 r0
      have G := G.tr g_371
      have r0 := Rep.mo (K := K) g_371.ff r0
      have r_367 := Rep.mo (K := K) g_371.ff r_367
      have e_366 := Ex.tr e_366 g_371.ff
      have e_382 := Ex.rf F_368
      have hQ : ∀ r F1 H1 v, Gr F0 H0 F1 H1 → (rv K (ρ := Bool)) F0 H0 F1 H1 v r → P_377 (.rt r) → D_376.rt v H1 := fun r F1 H1 v g m p => by rw [hrt_378]; exact hQ r F1 H1 v g m (hP_375 _ p)
      unfold m_law_stuck_b1 at w
      refine s_if2 G w (t_of (em_op (em_op (em_var rfl r_380) em_int fun _ _ => o_rowix) (e_clw (em_wd (by decide +kernel))) fun _ _ => (o_eqD (by decide)))) (fun F_387 H_388 g_389 w => ?_) (fun F_387 H_388 g_389 w => ?_)
      · have G := G.tr g_389
        have r0 := Rep.mo (K := K) g_389.ff r0
        have r_367 := Rep.mo (K := K) g_389.ff r_367
        have r_380 := Rep.mo (K := K) g_389.ff r_380
        have e_366 := Ex.tr e_366 g_389.ff
        have e_382 := Ex.tr e_382 g_389.ff
        refine s_asg (K := K) G w (Ev.nv (em_op (em_var rfl r_367) (Ev.nv (em_lst' (el_cons (em_clI (em_op (em_var rfl r_380) em_int fun _ _ => o_rowix)) (el_cons (em_op (em_clI (em_op (em_var rfl r_380) em_int fun _ _ => o_rowix)) em_int fun _ _ => o_add) (el_nil (α := Int)))))) fun _ _ => o_cat)) fun sizes_403 F_404 H_405 v_407 g_406 r_408 w => ?_
        have G := G.tr g_406
        have r0 := Rep.mo (K := K) g_406.ff r0
        have r_380 := Rep.mo (K := K) g_406.ff r_380
        have e_366 := Ex.tr e_366 g_406.ff
        have e_382 := Ex.tr e_382 g_406.ff
        exact hN_372 _ w _ _ _ e_382 ⟨_, _, rfl, G, e_366, r_408⟩
      · have G := G.tr g_389
        have r0 := Rep.mo (K := K) g_389.ff r0
        have r_367 := Rep.mo (K := K) g_389.ff r_367
        have r_380 := Rep.mo (K := K) g_389.ff r_380
        have e_366 := Ex.tr e_366 g_389.ff
        have e_382 := Ex.tr e_382 g_389.ff
        refine s_next ?_
        exact hN_372 _ w _ _ _ e_382 ⟨_, _, rfl, G, e_366, r_367⟩
    · rintro s_412 F_413 H_414 _ e_415 ⟨v_359, z_360, hs_409, G, e_410, r_411⟩ w
      subst hs_409
      have r0 := Rep.mo (K := K) e_410 r0
      exact s_ret0 G w (em_op (em_cb (ea_cons (Ev.nv (em_lc (c := (fun x_417 : Int => (m_law_goes_round a0_rows x_417).ne)) (e := (fun x_417 : Int => (M.ok x_417))) (ei_list (em_var rfl r_411)) (tg_name (K := K)) (fun _ _ _ ⟨_, h, _⟩ => by rw [h]; exact wipe1) (fun x_417 _ _ _ g_416 ⟨v_418, h_420, r_419⟩ => by subst h_420; exact (t_B (e_call0 (f := (fun a : ((List Row) × Int × Unit) => m_law_goes_round a.1 a.2.1)) (x := (a0_rows, x_417, ())) (e_cons (em_var rfl (Rep.mo g_416.ff r0)) (e_cons (em_var rfl r_419) ea_nil))))) (fun x_417 _ _ _ g_416 ⟨v_418, h_420, r_419⟩ => by subst h_420; exact (em_var rfl r_419)))) ea_nil) fun _ => a_len) em_int fun _ _ => o_gt) fun r F1 H1 v g m p => hQ r F1 H1 v g m p
/-! ### good_row -/
abbrev s_good_row : Stmt := topS 10
abbrev N_good_row : List Str := ["row", "many"]
theorem sc_good_row : FnScope N_good_row ["row", "many"] (defScope s_good_row) := ⟨rfl, rfl, rfl, by decide +kernel, rfl, by decide +kernel, by decide +kernel⟩
abbrev sp_good_row (K : PySem.W.Frag) (ce : Ce) : Sp := SpF0 ce (RC K (α := Row) (RC K (α := Int) R0)) (rv K (ρ := Bool)) (fun a : (Row × Int × Unit) => m_good_row a.1 a.2.1)
theorem ok_good_row {f : Addr} {fd : FuncData} (FF : Fun K "good_row" "good_row" s_good_row f fd) {t_MOST_BIN : Tok} (c_MOST_BIN : mg "MOST_BIN" = some (.int 5 t_MOST_BIN)) {t_WIDEST : Tok} (c_WIDEST : mg "WIDEST" = some (.int 1000000000000000000000000000000000000000000000000000000000000 t_WIDEST)) (z_len : mg "len" = none) : FnOk P w K mg base CX0 1 f fd ["row", "many"] (sp_good_row K ce) := by
  refine FF.ok sc_good_row (fun vs H0 Q E h => ?_) (fun cdv A outer s H0 vs Q E hr h => ?_)
  · obtain ⟨F0, ⟨a0_row, a1_many, _⟩, e0, ⟨v0, _, rfl, r0, ⟨v1, _, rfl, r1, rfl⟩⟩, w⟩ := h
    rfl
  · obtain ⟨F0, ⟨a0_row, a1_many, _⟩, e0, ⟨v0, _, rfl, r0, ⟨v1, _, rfl, r1, rfl⟩⟩, w⟩ := h
    have w := wp_post w
    have G := Gr.rf e0
    have nd := sc_good_row.nd
    have hQ : ∀ r F1 H1 v, Gr F0 H0 F1 H1 → (rv K (ρ := Bool)) F0 H0 F1 H1 v r → Fin (rv K (ρ := Bool)) F0 H0 Q r → Q v H1 := fun r F1 H1 v g m p => p F1 H1 v g m
    refine ⟨_, (pss_cons (ps_if (PW.pt (pw_and (pt_cmpR op_eq (pe_callB (r := rLenS K) call_len_seq (by rfl) z_len (by decide +kernel) (pa_cons (pv 0) pa_nil)) pe_int (nomark _)) (pw_and1 (pt_cmpR (r := rEqD K) (op_eqD hr.units) (pe_ix (r := rIxT K) ix_tup (pv 0) pe_int (fun _ _ => rfl)) pe_str (nomark _))))) (pss_one (ps_ret (pe_and (pe_chain op_le op_le pe_int (pe_ix (r := rIxT K) ix_tup (pv 0) pe_int (fun _ _ => rfl)) (pe_glob (v := .int 1000000000000000000000000000000000000000000000000000000000000) rfl c_WIDEST ⟨_, rfl⟩)) (pe_and (pe_chain op_le op_lt pe_int (pe_ix (r := rIxT K) ix_tup (pv 0) pe_int (fun _ _ => rfl)) (pv 1)) (pe_one (pe_chain op_le op_lt pe_int (pe_ix (r := rIxT K) ix_tup (pv 0) pe_int (fun _ _ => rfl)) (pv 1))))))) pss_nil)
      (pss_cons (ps_if (PW.pt (pw_and (pt_cmpR op_eq (pe_callB (r := rLenS K) call_len_seq (by rfl) z_len (by decide +kernel) (pa_cons (pv 0) pa_nil)) pe_int (nomark _)) (pw_and1 (pt_cmpR (r := rEqD K) (op_eqD hr.units) (pe_ix (r := rIxT K) ix_tup (pv 0) pe_int (fun _ _ => rfl)) pe_str (nomark _))))) (pss_one (ps_ret (pe_chain op_le op_lt pe_int (pe_ix (r := rIxT K) ix_tup (pv 0) pe_int (fun _ _ => rfl)) (pv 1)))) pss_nil)
      (pss_one (ps_ret (pe_and (pe_cmpR op_eq (pe_callB (r := rLenS K) call_len_seq (by rfl) z_len (by decide +kernel) (pa_cons (pv 0) pa_nil)) pe_int (nomark _)) (pe_and (pe_cmpR (r := rEqD K) (op_eqD hr.units) (pe_ix (r := rIxT K) ix_tup (pv 0) pe_int (fun _ _ => rfl)) pe_str (nomark _)) (pe_one (pe_chain op_le op_le pe_int (pe_ix (r := rIxT K) ix_tup (pv 0) pe_int (fun _ _ => rfl)) (pe_glob (v := .int 5) rfl c_MOST_BIN ⟨_, rfl⟩))))))))), ?_⟩
    have w := show Wp ce E0 H0 (m_good_row a0_row a1_many) _ from w
    unfold m_good_row at w
    refine q_if2 G w (tm_and (t_of (e2 (e_cb (e_cons (em_var rfl r0) ea_nil) a_lenR) em_int o_eqI)) (t_of (em_op (em_op (em_var rfl r0) em_int fun _ _ => o_rowix) (e_clw (em_wd (by decide +kernel))) fun _ _ => (o_eqD (by decide))))) (fun F_476 H_477 g_478 w => ?_) (fun F_476 H_477 g_478 w => ?_)
    · have G := G.tr g_478
      have r0 := Rep.mo (K := K) g_478.ff r0
      have r1 := Rep.mo (K := K) g_478.ff r1
      exact s_ret0 G w (em_andV (em_chain (p := fun a b => decide (a ≤ b)) (p' := fun a b => decide (a ≤ b)) em_int (em_clI (em_op (em_var rfl r0) em_int fun _ _ => o_rowix)) em_int (fun _ _ => o_le) (fun _ _ => o_le)) (em_andV (em_chain (p := fun a b => decide (a ≤ b)) (p' := fun a b => decide (a < b)) em_int (em_clI (em_op (em_var rfl r0) em_int fun _ _ => o_rowix)) (em_var rfl r1) (fun _ _ => o_le) (fun _ _ => o_lt)) (em_chain (p := fun a b => decide (a ≤ b)) (p' := fun a b => decide (a < b)) em_int (em_clI (em_op (em_var rfl r0) em_int fun _ _ => o_rowix)) (em_var rfl r1) (fun _ _ => o_le) (fun _ _ => o_lt)))) fun r F1 H1 v g m p => hQ r F1 H1 v g m p
    · have G := G.tr g_478
      have r0 := Rep.mo (K := K) g_478.ff r0
      have r1 := Rep.mo (K := K) g_478.ff r1
      refine s_next ?_
      refine s_nx ?_
      refine q_if2 G w (tm_and (t_of (e2 (e_cb (e_cons (em_var rfl r0) ea_nil) a_lenR) em_int o_eqI)) (t_of (em_op (em_op (em_var rfl r0) em_int fun _ _ => o_rowix) (e_clw (em_wd (by decide +kernel))) fun _ _ => (o_eqD (by decide))))) (fun F_498 H_499 g_500 w => ?_) (fun F_498 H_499 g_500 w => ?_)
      · have G := G.tr g_500
        have r0 := Rep.mo (K := K) g_500.ff r0
        have r1 := Rep.mo (K := K) g_500.ff r1
        exact s_ret0 G w (em_chain (p := fun a b => decide (a ≤ b)) (p' := fun a b => decide (a < b)) em_int (em_clI (em_op (em_var rfl r0) em_int fun _ _ => o_rowix)) (em_var rfl r1) (fun _ _ => o_le) (fun _ _ => o_lt)) fun r F1 H1 v g m p => hQ r F1 H1 v g m p
      · have G := G.tr g_500
        have r0 := Rep.mo (K := K) g_500.ff r0
        have r1 := Rep.mo (K := K) g_500.ff r1
        refine s_next ?_
        refine s_nx ?_
        exact s_ret0 G w (em_andV (e2 (e_cb (e_cons (em_var rfl r0) ea_nil) a_lenR) em_int o_eqI) (em_andV (em_op (em_op (em_var rfl r0) em_int fun _ _ => o_rowix) (e_clw (em_wd (by decide +kernel))) fun _ _ => (o_eqD (by decide))) (em_chain (p := fun a b => decide (a ≤ b)) (p' := fun a b => decide (a ≤ b)) em_int (em_clI (em_op (em_var rfl r0) em_int fun _ _ => o_rowix)) em_int (fun _ _ => o_le) (fun _ _ => o_le)))) fun r F1 H1 v g m p => hQ r F1 H1 v g m p
/-! ### Works -/
abbrev s_Works : Stmt := inClass (topS 11) 0
abbrev N_Works : List Str := ["self", "parts", "rows", "row"]
theorem sc_Works : FnScope N_Works ["self", "parts", "rows"] (defScope s_Works) := ⟨rfl, rfl, rfl, by decide +kernel, rfl, by decide +kernel, by decide +kernel⟩
abbrev sp_Works (K : PySem.W.Frag) (ce : Ce) : Sp := SpI ce K (ce "Works") (RC K (α := Int) (RC K (α := (List Row)) R0)) (fun a : (Int × (List Row) × Unit) => m_Works a.1 a.2.1)
theorem ok_Works {f : Addr} {fd : FuncData} (FF : Fun K "__init__" "Works.__init__" s_Works f fd) (cls_Works : Cls K (ce "Works")) {t_MOST_PARTS : Tok} (c_MOST_PARTS : mg "MOST_PARTS" = some (.int 9 t_MOST_PARTS)) {t_MOST_ROWS : Tok} (c_MOST_ROWS : mg "MOST_ROWS" = some (.int 12 t_MOST_ROWS)) (x_BadWorks : ErrC K mg (ce "BadWorks") "BadWorks") {a_good_row : Addr} {d_good_row : FuncData} (G_good_row : FnOk P w K mg base CX0 1 a_good_row d_good_row ["row", "many"] (sp_good_row K ce)) (mg_good_row : mg "good_row" = some (.ref a_good_row)) (k_good_row : PySem.W.keepIn K (.ref a_good_row) = true) (b_good_row : Binds K d_good_row ["row", "many"] []) (na_Works_parts : NoAttr K (ce "Works") "parts") (na_Works_rows : NoAttr K (ce "Works") "rows") (z_len : mg "len" = none) (z_list : mg "list" = none) : FnOk P w K mg base (L2.CX P w) 2 f fd ["self", "parts", "rows"] (sp_Works K ce) := by
  refine FF.okX sc_Works (fun vs H0 Q E h => ?_) (fun cdv A outer s Hs vs Q E hr h => ?_)
  · obtain ⟨F0, H0, p0, dx0, ⟨a1_parts, a2_rows, _⟩, _, rfl, e0, np0, nd0, ne0, rfl, ⟨v1, _, rfl, r1, ⟨v2, _, rfl, r2, rfl⟩⟩, w⟩ := h
    rfl
  · obtain ⟨F0, H0, p0, dx0, ⟨a1_parts, a2_rows, _⟩, _, rfl, e0, np0, nd0, ne0, rfl, ⟨v1, _, rfl, r1, ⟨v2, _, rfl, r2, rfl⟩⟩, w⟩ := h
    have w := wp_post w
    obtain ⟨G, o_0⟩ := raw_start (K := K) (C := ce "Works") e0 np0 nd0 ne0
    have nd := sc_Works.nd
    have hQ : ∀ r F1 H1 v, Gr F0 H0 F1 H1 → (rv K (ρ := Wk)) F0 H0 F1 H1 v r → Fin (rv K (ρ := Wk)) F0 H0 (fun v H' => v = .ref p0 → Q .non H') r → (v = .ref p0 → Q .non H1) := fun r F1 H1 v g m p => p F1 H1 v g m
    refine ⟨_, (pss_cons (ps_if (PW.pt (pw_or (pt_cmpR op_lt (pv 1) pe_int (nomark _)) (pw_or (pt_cmpR op_gt (pv 1) (pe_glob (v := .int 9) rfl c_MOST_PARTS ⟨_, rfl⟩) (nomark _)) (pw_or (pt_cmpR op_lt (pe_callB (r := rLenS K) call_len_seq (by rfl) z_len (by decide +kernel) (pa_cons (pv 2) pa_nil)) pe_int (nomark _)) (pw_or1 (pt_cmpR op_gt (pe_callB (r := rLenS K) call_len_seq (by rfl) z_len (by decide +kernel) (pa_cons (pv 2) pa_nil)) (pe_glob (v := .int 12) rfl c_MOST_ROWS ⟨_, rfl⟩) (nomark _))))))) (pss_one (ps_raise rfl (takes_of rfl rfl rfl rfl) (pmk_own PySem.F.excBase_ValueError x_BadWorks.x x_BadWorks.g x_BadWorks.k (raises_own x_BadWorks.b x_BadWorks.t) rfl))) pss_nil)
      (pss_cons (ps_for (by first | exact PassesOwn.never | exact passes_of rfl) rfl (pi_list (pv 2)) (pg_name (i := 3) nd rfl (by first | exact Or.inl rfl | exact Or.inr rfl)) (pss_one (ps_if (pt_not (pt_val (pe_call G_good_row (hr.mono (by decide)) rfl mg_good_row k_good_row b_good_row .nil pass0 (pa_cons (pv 3) (pa_cons (pe_callB (r := rLenS K) call_len_seq (by rfl) z_len (by decide +kernel) (pa_cons (pv 2) pa_nil)) pa_nil))))) (pss_one (ps_raise rfl (takes_of rfl rfl rfl rfl) (pmk_own PySem.F.excBase_ValueError x_BadWorks.x x_BadWorks.g x_BadWorks.k (raises_own x_BadWorks.b x_BadWorks.t) rfl))) pss_nil)))
      (pss_cons (ps_fld (pv 0) (pv 1) rfl)
      (pss_one (ps_fld (pv 0) (pe_callTy (r := rListS K) call_list_of (by rfl) z_list (by decide +kernel) (pa_cons (pv 2) pa_nil)) rfl))))), ?_⟩
    have w := show Wp ce E H0 (m_Works a1_parts a2_rows) _ from w
    unfold m_Works at w
    refine q_if2 G w (t_or (t_of (e2 (em_var rfl r1) em_int o_lt)) (t_or (t_of (e2 (em_var rfl r1) em_int o_gt)) (t_or (t_of (e2 (e_cb (e_cons (em_var rfl r2) ea_nil) a_len) em_int o_lt)) (t_of (e2 (e_cb (e_cons (em_var rfl r2) ea_nil) a_len) em_int o_gt))))) (fun F_515 H_516 g_517 w => ?_) (fun F_515 H_516 g_517 w => ?_)
    · have G := G.tr g_517
      have o_0 := o_0.mo g_517
      have r1 := Rep.mo (K := K) g_517.ff r1
      have r2 := Rep.mo (K := K) g_517.ff r2
      exact w _ G.hh
    · have G := G.tr g_517
      have o_0 := o_0.mo g_517
      have r1 := Rep.mo (K := K) g_517.ff r1
      have r2 := Rep.mo (K := K) g_517.ff r2
      refine s_next ?_
      refine s_nx ?_
      refine q_for (S := Unit) (fun s F' H' σ' => ∃ (z_518 : Option V), σ' = [some (.ref p0), some v1, some v2, z_518] ∧ Gr F0 H0 F' H' ∧ Ex F_515 F' ∧ Own K (T := RawO) F' H' p0 (RawO.mk (ce "Works") dx0 [])) G (ei_list (em_var rfl r2)) (tg_name (K := K)) w (fun _ _ g_566 => ⟨_, rfl, G.tr g_566, g_566.ff, o_0.mo g_566⟩) (fun _ _ _ _ ⟨_, _, G, _⟩ => G) ?_ ?_
      · rintro x_520 s_519 F_521 H_522 _ ⟨z_518, hs_523, G, e_524, o_525⟩ F_526 H_527 σ_528 g_529 ⟨v_537, h_539, r_538⟩ D_534 P_535 hrt_536 hN_530 hC_531 hB_532 hP_533 w
        subst hs_523
        subst h_539
        have r1 := Rep.mo (K := K) e_524 r1
        have r2 := Rep.mo (K := K) e_524 r2
        have G := G.tr g_529
        have o_525 := o_525.mo g_529
        have r1 := Rep.mo (K := K) g_529.ff r1
        have r2 := Rep.mo (K := K) g_529.ff r2
        have e_524 := Ex.tr e_524 g_529.ff
        have e_540 := Ex.rf F_526
        unfold m_Works_b1 at w
        refine s_if2 G w (tm_not (t_B (e_call0 (f := (fun a : (Row × Int × Unit) => m_good_row a.1 a.2.1)) (x := (x_520, (List.length a2_rows : Int), ())) (e_cons (em_var rfl r_538) (e_cons (e_cb (e_cons (em_var rfl r2) ea_nil) a_len) ea_nil))))) (fun F_541 H_542 g_543 w => ?_) (fun F_541 H_542 g_543 w => ?_)
        · have G := G.tr g_543
          have o_525 := o_525.mo g_543
          have r1 := Rep.mo (K := K) g_543.ff r1
          have r2 := Rep.mo (K := K) g_543.ff r2
          have r_538 := Rep.mo (K := K) g_543.ff r_538
          have e_524 := Ex.tr e_524 g_543.ff
          have e_540 := Ex.tr e_540 g_543.ff
          exact w _ G.hh
        · have G := G.tr g_543
          have o_525 := o_525.mo g_543
          have r1 := Rep.mo (K := K) g_543.ff r1
          have r2 := Rep.mo (K := K) g_543.ff r2
          have r_538 := Rep.mo (K := K) g_543.ff r_538
          have e_524 := Ex.tr e_524 g_543.ff
          have e_540 := Ex.tr e_540 g_543.ff
          refine s_next ?_
          exact hN_530 _ w _ _ _ e_540 ⟨_, rfl, G, e_524, o_525⟩
      · rintro s_547 F_548 H_549 _ e_550 ⟨z_518, hs_544, G, e_545, o_546⟩ w
        subst hs_544
        have r1 := Rep.mo (K := K) e_545 r1
        have r2 := Rep.mo (K := K) e_545 r2
        refine q_setf (K := K) rfl cls_Works na_Works_parts (by show 0 < 1000; decide) o_546 np0 G w (em_var rfl r1) fun parts_551 F_552 H_553 v_554 e_555 G r_556 o_557 w => ?_
        have r1 := Rep.mo (K := K) e_555 r1
        have r2 := Rep.mo (K := K) e_555 r2
        refine s_setf (K := K) rfl cls_Works na_Works_rows (by show 1 < 1000; decide) o_557 np0 G w (Ev.nv (e_cb (e_cons (em_var rfl r2) ea_nil) a_list)) fun rows_558 F_559 H_560 v_561 e_562 G r_563 o_564 w => ?_
        have r1 := Rep.mo (K := K) e_562 r1
        have r2 := Rep.mo (K := K) e_562 r2
        have r_556 := Rep.mo (K := K) e_562 r_556
        obtain ⟨F_565, G, r⟩ := wk_done G np0 o_564 cls_Works na_Works_parts na_Works_rows r_556 r_563
        exact hQ _ _ _ _ G r w rfl
/-! ### _law_size -/
abbrev s_law_size : Stmt := topS 27
abbrev N_law_size : List Str := ["cell", "rest"]
theorem sc_law_size : FnScope N_law_size ["cell"] (defScope s_law_size) := ⟨rfl, rfl, rfl, by decide +kernel, rfl, by decide +kernel, by decide +kernel⟩
abbrev sp_law_size (K : PySem.W.Frag) (ce : Ce) : Sp := SpF0 ce (RC K (α := Int) R0) (rv K (ρ := Int)) (fun a : (Int × Unit) => m_law_size a.1)
theorem ok_law_size {f : Addr} {fd : FuncData} (FF : Fun K "_law_size" "_law_size" s_law_size f fd) : FnOk P w K mg base CX0 1 f fd ["cell"] (sp_law_size K ce) := by
  refine FF.ok sc_law_size (fun vs H0 Q E h => ?_) (fun cdv A outer s H0 vs Q E hr h => ?_)
  · obtain ⟨F0, ⟨a0_cell, _⟩, e0, ⟨v0, _, rfl, r0, rfl⟩, w⟩ := h
    rfl
  · obtain ⟨F0, ⟨a0_cell, _⟩, e0, ⟨v0, _, rfl, r0, rfl⟩, w⟩ := h
    have w := wp_post w
    have G := Gr.rf e0
    have nd := sc_law_size.nd
    have hQ : ∀ r F1 H1 v, Gr F0 H0 F1 H1 → (rv K (ρ := Int)) F0 H0 F1 H1 v r → Fin (rv K (ρ := Int)) F0 H0 Q r → Q v H1 := fun r F1 H1 v g m p => p F1 H1 v g m
    refine ⟨_, (pss_cons (ps_set (i := 1) nd rfl (by first | exact Or.inl rfl | exact Or.inr rfl) (pe_op op_fdiv (pv 0) pe_int))
      (pss_cons (ps_if (pt_cmpR op_eq (pe_op op_mod (pv 0) pe_int) pe_int (nomark _)) (pss_one (ps_ret (pe_op op_add pe_int (pe_op op_mod (pv 1) (pe_op op_pow pe_int pe_int))))) pss_nil)
      (pss_cons (ps_if (pt_cmpR op_eq (pe_op op_mod (pv 0) pe_int) pe_int (nomark _)) (pss_one (ps_ret (pe_op op_sub (pe_op op_pow pe_int pe_int) (pe_op op_mod (pv 1) pe_int)))) pss_nil)
      (pss_one (ps_ret (pe_op op_add pe_int (pe_op op_mod (pv 1) pe_int))))))), ?_⟩
    have w := show Wp ce E0 H0 (m_law_size a0_cell) _ from w
    unfold m_law_size at w
    refine q_asg (K := K) G w (e2 (em_var rfl r0) em_int (o_fdiv ⟨by decide, by decide⟩)) fun rest_580 F_581 H_582 v_584 g_583 r_585 w => ?_
    have G := G.tr g_583
    have r0 := Rep.mo (K := K) g_583.ff r0
    refine q_if2 G w (t_of (e2 (e2 (em_var rfl r0) em_int (o_mod (by decide))) em_int o_eqI)) (fun F_586 H_587 g_588 w => ?_) (fun F_586 H_587 g_588 w => ?_)
    · have G := G.tr g_588
      have r0 := Rep.mo (K := K) g_588.ff r0
      have r_585 := Rep.mo (K := K) g_588.ff r_585
      exact s_ret0 G w (e2 em_int (e2 (em_var rfl r_585) (e_is (e2 em_int em_int (o_pow (by decide))) pow_10_60) (o_mod (by decide))) o_add) fun r F1 H1 v g m p => hQ r F1 H1 v g m p
    · have G := G.tr g_588
      have r0 := Rep.mo (K := K) g_588.ff r0
      have r_585 := Rep.mo (K := K) g_588.ff r_585
      refine s_next ?_
      refine s_nx ?_
      refine q_if2 G w (t_of (e2 (e2 (em_var rfl r0) em_int (o_mod (by decide))) em_int o_eqI)) (fun F_589 H_590 g_591 w => ?_) (fun F_589 H_590 g_591 w => ?_)
      · have G := G.tr g_591
        have r0 := Rep.mo (K := K) g_591.ff r0
        have r_585 := Rep.mo (K := K) g_591.ff r_585
        exact s_ret0 G w (e2 (e_is (e2 em_int em_int (o_pow (by decide))) pow_10_60) (e2 (em_var rfl r_585) em_int (o_mod (by decide))) o_sub) fun r F1 H1 v g m p => hQ r F1 H1 v g m p
      · have G := G.tr g_591
        have r0 := Rep.mo (K := K) g_591.ff r0
        have r_585 := Rep.mo (K := K) g_591.ff r_585
        refine s_next ?_
        refine s_nx ?_
        exact s_ret0 G w (e2 em_int (e2 (em_var rfl r_585) em_int (o_mod (by decide))) o_add) fun r F1 H1 v g m p => hQ r F1 H1 v g m p
/-! ### _law_row -/
abbrev s_law_row : Stmt := topS 29
abbrev N_law_row : List Str := ["cell", "many", "rest"]
theorem sc_law_row : FnScope N_law_row ["cell", "many"] (defScope s_law_row) := ⟨rfl, rfl, rfl, by decide +kernel, rfl, by decide +kernel, by decide +kernel⟩
abbrev sp_law_row (K : PySem.W.Frag) (ce : Ce) : Sp := SpF0 ce (RC K (α := Int) (RC K (α := Int) R0)) (rv K (ρ := Row)) (fun a : (Int × Int × Unit) => m_law_row a.1 a.2.1)
theorem ok_law_row {f : Addr} {fd : FuncData} (FF : Fun K "_law_row" "_law_row" s_law_row f fd) {a__law_size : Addr} {d__law_size : FuncData} (G__law_size : FnOk P w K mg base CX0 1 a__law_size d__law_size ["cell"] (sp_law_size K ce)) (mg__law_size : mg "_law_size" = some (.ref a__law_size)) (k__law_size : PySem.W.keepIn K (.ref a__law_size) = true) (b__law_size : Binds K d__law_size ["cell"] []) : FnOk P w K mg base CX0 2 f fd ["cell", "many"] (sp_law_row K ce) := by
  refine FF.ok sc_law_row (fun vs H0 Q E h => ?_) (fun cdv A outer s H0 vs Q E hr h => ?_)
  · obtain ⟨F0, ⟨a0_cell, a1_many, _⟩, e0, ⟨v0, _, rfl, r0, ⟨v1, _, rfl, r1, rfl⟩⟩, w⟩ := h
    rfl
  · obtain ⟨F0, ⟨a0_cell, a1_many, _⟩, e0, ⟨v0, _, rfl, r0, ⟨v1, _, rfl, r1, rfl⟩⟩, w⟩ := h
    have w := wp_post w
    have G := Gr.rf e0
    have nd := sc_law_row.nd
    have hQ : ∀ r F1 H1 v, Gr F0 H0 F1 H1 → (rv K (ρ := Row)) F0 H0 F1 H1 v r → Fin (rv K (ρ := Row)) F0 H0 Q r → Q v H1 := fun r F1 H1 v g m p => p F1 H1 v g m
    refine ⟨_, (pss_cons (ps_set (i := 2) nd rfl (by first | exact Or.inl rfl | exact Or.inr rfl) (pe_op op_fdiv (pv 0) pe_int))
      (pss_cons (ps_if (pt_cmpR op_lt (pe_op op_mod (pv 0) pe_int) pe_int (nomark _)) (pss_one (ps_ret (pe_tup (pa_cons pe_str (pa_cons (pe_call G__law_size (hr.mono (by decide)) rfl mg__law_size k__law_size b__law_size .nil pass0 (pa_cons (pe_op op_fdivW (pe_op op_fdivW (pv 2) (pv 1)) (pv 1)) pa_nil)) (pa_cons (pe_op op_mod (pv 2) (pv 1)) (pa_cons (pe_op op_mod (pe_op op_fdivW (pv 2) (pv 1)) (pv 1)) pa_nil))))))) pss_nil)
      (pss_cons (ps_if (pt_cmpR op_lt (pe_op op_mod (pv 0) pe_int) pe_int (nomark _)) (pss_one (ps_ret (pe_tup (pa_cons pe_str (pa_cons (pe_op op_mod (pv 2) (pv 1)) pa_nil))))) pss_nil)
      (pss_one (ps_ret (pe_tup (pa_cons pe_str (pa_cons (pe_op op_mod (pv 2) pe_int) pa_nil)))))))), ?_⟩
    have w := show Wp ce E0 H0 (m_law_row a0_cell a1_many) _ from w
    unfold m_law_row at w
    refine q_asg (K := K) G w (e2 (em_var rfl r0) em_int (o_fdiv ⟨by decide, by decide⟩)) fun rest_642 F_643 H_644 v_646 g_645 r_647 w => ?_
    have G := G.tr g_645
    have r0 := Rep.mo (K := K) g_645.ff r0
    have r1 := Rep.mo (K := K) g_645.ff r1
    refine q_if2 G w (t_of (e2 (e2 (em_var rfl r0) em_int (o_mod (by decide))) em_int o_lt)) (fun F_648 H_649 g_650 w => ?_) (fun F_648 H_649 g_650 w => ?_)
    · have G := G.tr g_650
      have r0 := Rep.mo (K := K) g_650.ff r0
      have r1 := Rep.mo (K := K) g_650.ff r1
      have r_647 := Rep.mo (K := K) g_650.ff r_647
      exact s_ret0 G w (em_row (el_cons (e_clw (em_wd (by decide +kernel))) (el_cons (em_cli (em_call0 (f := (fun a : (Int × Unit) => m_law_size a.1)) (ea_cons (em_op (em_op (em_var rfl r_647) (em_var rfl r1) fun _ _ => o_fdivM) (em_var rfl r1) fun _ _ => o_fdivM) ea_nil))) (el_cons (em_cli (em_op (em_var rfl r_647) (em_var rfl r1) fun _ _ => o_modM)) (el_cons (em_cli (em_op (em_op (em_var rfl r_647) (em_var rfl r1) fun _ _ => o_fdivM) (em_var rfl r1) fun _ _ => o_modM)) (el_nil (α := Cl))))))) fun r F1 H1 v g m p => hQ r F1 H1 v g m p
    · have G := G.tr g_650
      have r0 := Rep.mo (K := K) g_650.ff r0
      have r1 := Rep.mo (K := K) g_650.ff r1
      have r_647 := Rep.mo (K := K) g_650.ff r_647
      refine s_next ?_
      refine s_nx ?_
      refine q_if2 G w (t_of (e2 (e2 (em_var rfl r0) em_int (o_mod (by decide))) em_int o_lt)) (fun F_676 H_677 g_678 w => ?_) (fun F_676 H_677 g_678 w => ?_)
      · have G := G.tr g_678
        have r0 := Rep.mo (K := K) g_678.ff r0
        have r1 := Rep.mo (K := K) g_678.ff r1
        have r_647 := Rep.mo (K := K) g_678.ff r_647
        exact s_ret0 G w (em_row (el_cons (e_clw (em_wd (by decide +kernel))) (el_cons (em_cli (em_op (em_var rfl r_647) (em_var rfl r1) fun _ _ => o_modM)) (el_nil (α := Cl))))) fun r F1 H1 v g m p => hQ r F1 H1 v g m p
      · have G := G.tr g_678
        have r0 := Rep.mo (K := K) g_678.ff r0
        have r1 := Rep.mo (K := K) g_678.ff r1
        have r_647 := Rep.mo (K := K) g_678.ff r_647
        refine s_next ?_
        refine s_nx ?_
        exact s_ret0 G w (em_row (el_cons (e_clw (em_wd (by decide +kernel))) (el_cons (e_cli (e2 (em_var rfl r_647) em_int (o_mod (by decide)))) (el_nil (α := Cl))))) fun r F1 H1 v g m p => hQ r F1 H1 v g m p
/-! ### _law_cell_at -/
abbrev s_law_cell_at : Stmt := topS 26
abbrev N_law_cell_at : List Str := ["script", "k"]
theorem sc_law_cell_at : FnScope N_law_cell_at ["script", "k"] (defScope s_law_cell_at) := ⟨rfl, rfl, rfl, by decide +kernel, rfl, by decide +kernel, by decide +kernel⟩
abbrev sp_law_cell_at (K : PySem.W.Frag) (ce : Ce) : Sp := SpF0 ce (RC K (α := Scr) (RC K (α := Int) R0)) (rv K (ρ := Int)) (fun a : (Scr × Int × Unit) => m_law_cell_at a.1 a.2.1)
theorem ok_law_cell_at {f : Addr} {fd : FuncData} (FF : Fun K "_law_cell_at" "_law_cell_at" s_law_cell_at f fd) (z_len : mg "len" = none) : FnOk P w K mg base CX0 1 f fd ["script", "k"] (sp_law_cell_at K ce) := by
  refine FF.ok sc_law_cell_at (fun vs H0 Q E h => ?_) (fun cdv A outer s H0 vs Q E hr h => ?_)
  · obtain ⟨F0, ⟨a0_script, a1_k, _⟩, e0, ⟨v0, _, rfl, r0, ⟨v1, _, rfl, r1, rfl⟩⟩, w⟩ := h
    rfl
  · obtain ⟨F0, ⟨a0_script, a1_k, _⟩, e0, ⟨v0, _, rfl, r0, ⟨v1, _, rfl, r1, rfl⟩⟩, w⟩ := h
    have w := wp_post w
    have G := Gr.rf e0
    have nd := sc_law_cell_at.nd
    have hQ : ∀ r F1 H1 v, Gr F0 H0 F1 H1 → (rv K (ρ := Int)) F0 H0 F1 H1 v r → Fin (rv K (ρ := Int)) F0 H0 Q r → Q v H1 := fun r F1 H1 v g m p => p F1 H1 v g m
    refine ⟨_, (pss_cons (ps_if (pt_cmpR op_lt (pv 1) (pe_callB (r := rLenS K) call_len_seq (by rfl) z_len (by decide +kernel) (pa_cons (pv 0) pa_nil)) (nomark _)) (pss_one (ps_ret (pe_ix (r := rIxL K) ix_list (pv 0) (pv 1) (fun _ _ => rfl)))) pss_nil)
      (pss_one (ps_ret pe_int))), ?_⟩
    have w := show Wp ce E0 H0 (m_law_cell_at a0_script a1_k) _ from w
    unfold m_law_cell_at at w
    refine q_if2 G w (t_of (e2 (em_var rfl r1) (e_cb (e_cons (em_var rfl r0) ea_nil) a_lenS) o_lt)) (fun F_697 H_698 g_699 w => ?_) (fun F_697 H_698 g_699 w => ?_)
    · have G := G.tr g_699
      have r0 := Rep.mo (K := K) g_699.ff r0
      have r1 := Rep.mo (K := K) g_699.ff r1
      exact s_ret0 G w (em_op (em_var rfl r0) (em_var rfl r1) fun _ _ => o_ixS) fun r F1 H1 v g m p => hQ r F1 H1 v g m p
    · have G := G.tr g_699
      have r0 := Rep.mo (K := K) g_699.ff r0
      have r1 := Rep.mo (K := K) g_699.ff r1
      refine s_next ?_
      refine s_nx ?_
      exact s_ret0 G w em_int fun r F1 H1 v g m p => hQ r F1 H1 v g m p
/-! ### _law_plain -/
abbrev s_law_plain : Stmt := topS 28
abbrev N_law_plain : List Str := ["script", "first", "parts", "many", "rows", "k", "cell", "later", "to", "beyond"]
theorem sc_law_plain : FnScope N_law_plain ["script", "first", "parts"] (defScope s_law_plain) := ⟨rfl, rfl, rfl, by decide +kernel, rfl, by decide +kernel, by decide +kernel⟩
abbrev sp_law_plain (K : PySem.W.Frag) (ce : Ce) : Sp := SpF ce (RC K (α := Scr) (RC K (α := Int) (RC K (α := Int) R0))) (rv K (ρ := Wk)) (fun a : (Scr × Int × Int × Unit) => m_law_plain a.1 a.2.1 a.2.2.1)
theorem ok_law_plain {f : Addr} {fd : FuncData} (FF : Fun K "_law_plain" "_law_plain" s_law_plain f fd) {a__law_cell_at : Addr} {d__law_cell_at : FuncData} (G__law_cell_at : FnOk P w K mg base CX0 1 a__law_cell_at d__law_cell_at ["script", "k"] (sp_law_cell_at K ce)) (mg__law_cell_at : mg "_law_cell_at" = some (.ref a__law_cell_at)) (k__law_cell_at : PySem.W.keepIn K (.ref a__law_cell_at) = true) (b__law_cell_at : Binds K d__law_cell_at ["script", "k"] []) {a__law_size : Addr} {d__law_size : FuncData} (G__law_size : FnOk P w K mg base CX0 1 a__law_size d__law_size ["cell"] (sp_law_size K ce)) (mg__law_size : mg "_law_size" = some (.ref a__law_size)) (k__law_size : PySem.W.keepIn K (.ref a__law_size) = true) (b__law_size : Binds K d__law_size ["cell"] []) {a_Works : Addr} {d_Works : FuncData} (M_Works : Mk K (ce "Works") a_Works) (G_Works : FnOk P w K mg base (L2.CX P w) 2 a_Works d_Works ["self", "parts", "rows"] (sp_Works K ce)) (mgc_Works : mg "Works" = some (.ref (ce "Works"))) (b_Works : Binds K d_Works ["self", "parts", "rows"] []) (z_range : mg "range" = none) : FnOk P w K mg base (L2.CX P w) 4 f fd ["script", "first", "parts"] (sp_law_plain K ce) := by
  refine FF.okX sc_law_plain (fun vs H0 Q E h => ?_) (fun cdv A outer s H0 vs Q E hr h => ?_)
  · obtain ⟨F0, ⟨a0_script, a1_first, a2_parts, _⟩, e0, ⟨v0, _, rfl, r0, ⟨v1, _, rfl, r1, ⟨v2, _, rfl, r2, rfl⟩⟩⟩, w⟩ := h
    rfl
  · obtain ⟨F0, ⟨a0_script, a1_first, a2_parts, _⟩, e0, ⟨v0, _, rfl, r0, ⟨v1, _, rfl, r1, ⟨v2, _, rfl, r2, rfl⟩⟩⟩, w⟩ := h
    have w := wp_post w
    have G := Gr.rf e0
    have nd := sc_law_plain.nd
    have hQ : ∀ r F1 H1 v, Gr F0 H0 F1 H1 → (rv K (ρ := Wk)) F0 H0 F1 H1 v r → Fin (rv K (ρ := Wk)) F0 H0 Q r → Q v H1 := fun r F1 H1 v g m p => p F1 H1 v g m
    refine ⟨_, (pss_cons (ps_set (i := 3) nd rfl (by first | exact Or.inl rfl | exact Or.inr rfl) (pe_op op_add pe_int (pe_op op_mod (pe_op op_fdivW (pe_call G__law_cell_at (hr.mono (by decide)) rfl mg__law_cell_at k__law_cell_at b__law_cell_at .nil pass0 (pa_cons (pv 0) (pa_cons (pv 1) pa_nil))) pe_int) pe_int)))
      (pss_cons (ps_set (i := 4) nd rfl (by first | exact Or.inl rfl | exact Or.inr rfl) (pe_lst pa_nil))
      (pss_cons (ps_for (by first | exact PassesOwn.never | exact passes_of rfl) rfl (pi_range1 rfl z_range (pa_cons (pv 3) pa_nil)) (pg_name (i := 5) nd rfl (by first | exact Or.inl rfl | exact Or.inr rfl)) (pss_cons (ps_set (i := 6) nd rfl (by first | exact Or.inl rfl | exact Or.inr rfl) (pe_call G__law_cell_at (hr.mono (by decide)) rfl mg__law_cell_at k__law_cell_at b__law_cell_at .nil pass0 (pa_cons (pv 0) (pa_cons (pe_op op_add (pe_op op_add (pv 1) pe_int) (pv 5)) pa_nil))))
      (pss_cons (ps_set (i := 7) nd rfl (by first | exact Or.inl rfl | exact Or.inr rfl) (pe_op op_sub (pe_op op_sub (pv 3) pe_int) (pv 5)))
      (pss_one (ps_if (PW.pt (pw_and (pt_cmpR op_gt (pv 7) pe_int (nomark _)) (pw_and1 (pt_cmpR op_lt (pe_op op_mod (pv 6) pe_int) pe_int (nomark _))))) (pss_cons (ps_set (i := 8) nd rfl (by first | exact Or.inl rfl | exact Or.inr rfl) (pe_op op_add (pe_op op_add (pv 5) pe_int) (pe_op op_mod (pe_op op_fdiv (pv 6) pe_int) (pv 7))))
      (pss_cons (ps_set (i := 9) nd rfl (by first | exact Or.inl rfl | exact Or.inr rfl) (pe_op op_add (pe_op op_add (pv 5) pe_int) (pe_op op_mod (pe_op op_fdiv (pv 6) pe_int) (pv 7))))
      (pss_one (ps_expr (pe_bm PySem.F.plainAttrs_list PySem.F.slot_list_append PySem.F.type_list_append mt_append (pv 4) (pa_cons (pe_tup (pa_cons pe_str (pa_cons (pe_call G__law_size (hr.mono (by decide)) rfl mg__law_size k__law_size b__law_size .nil pass0 (pa_cons (pe_op op_fdiv (pv 6) pe_int) pa_nil)) (pa_cons (pv 8) (pa_cons (pv 9) pa_nil))))) pa_nil)))))) (pss_one (ps_expr (pe_bm PySem.F.plainAttrs_list PySem.F.slot_list_append PySem.F.type_list_append mt_append (pv 4) (pa_cons (pe_tup (pa_cons pe_str (pa_cons (pe_op op_mod (pe_op op_fdiv (pv 6) pe_int) pe_int) pa_nil))) pa_nil)))))))))
      (pss_one (ps_ret (pe_make M_Works G_Works (hr.mono (by decide)) rfl mgc_Works b_Works .nil (passes_call (takes_of rfl rfl rfl rfl) (fun _ _ _ _ h => h)) (pa_cons (pv 2) (pa_cons (pv 4) pa_nil)))))))), ?_⟩
    have w := show Wp ce E H0 (m_law_plain a0_script a1_first a2_parts) _ from w
    unfold m_law_plain at w
    refine q_asg (K := K) G w (em_op em_int (em_op (em_op (e_call0 (f := (fun a : (Scr × Int × Unit) => m_law_cell_at a.1 a.2.1)) (x := (a0_script, a1_first, ())) (e_cons (em_var rfl r0) (e_cons (em_var rfl r1) ea_nil))) em_int fun _ _ => o_fdivM) em_int fun _ _ => o_modM) fun _ _ => o_add) fun many_828 F_829 H_830 v_832 g_831 r_833 w => ?_
    have G := G.tr g_831
    have r0 := Rep.mo (K := K) g_831.ff r0
    have r1 := Rep.mo (K := K) g_831.ff r1
    have r2 := Rep.mo (K := K) g_831.ff r2
    refine q_asgN (K := K) G w (e_lst (el_nil (α := Row)) (by decide)) fun rows_834 F_835 H_836 p_838 g_837 n_839 o_840 w => ?_
    have n0p_838 := ex_back G.hh n_839
    have G := G.tr g_837
    have r0 := Rep.mo (K := K) g_837.ff r0
    have r1 := Rep.mo (K := K) g_837.ff r1
    have r2 := Rep.mo (K := K) g_837.ff r2
    have r_833 := Rep.mo (K := K) g_837.ff r_833
    refine q_for (S := (List Row)) (fun s F' H' σ' => ∃ (z_841 : Option V) (z_842 : Option V) (z_843 : Option V) (z_844 : Option V) (z_845 : Option V), σ' = [some v0, some v1, some v2, some v_832, some (.ref p_838), z_841, z_842, z_843, z_844, z_845] ∧ Gr F0 H0 F' H' ∧ Ex F_835 F' ∧ Own K (T := (List Row)) F' H' p_838 s) G (ei_rng1 (em_var rfl r_833)) (tg_name (K := K)) w (fun _ _ g_940 => ⟨_, _, _, _, _, rfl, G.tr g_940, g_940.ff, o_840.mo g_940⟩) (fun _ _ _ _ ⟨_, _, _, _, _, _, G, _⟩ => G) ?_ ?_
    · rintro x_847 s_846 F_848 H_849 _ ⟨z_841, z_842, z_843, z_844, z_845, hs_850, G, e_851, o_852⟩ F_853 H_854 σ_855 g_856 ⟨v_864, h_866, r_865⟩ D_861 P_862 hrt_863 hN_857 hC_858 hB_859 hP_860 w
      subst hs_850
      subst h_866
      have r0 := Rep.mo (K := K) e_851 r0
      have r1 := Rep.mo (K := K) e_851 r1
      have r2 := Rep.mo (K := K) e_851 r2
      have r_833 := Rep.mo (K := K) e_851 r_833
      have G := G.tr g_856
      have r0 := Rep.mo (K := K) g_856.ff r0
      have r1 := Rep.mo (K := K) g_856.ff r1
      have r2 := Rep.mo (K := K) g_856.ff r2
      have r_833 := Rep.mo (K := K) g_856.ff r_833
      have o_852 := o_852.mo g_856
      have e_851 := Ex.tr e_851 g_856.ff
      have e_867 := Ex.rf F_853
      have hQ : ∀ r F1 H1 v, Gr F0 H0 F1 H1 → (rv K (ρ := Wk)) F0 H0 F1 H1 v r → P_862 (.rt r) → D_861.rt v H1 := fun r F1 H1 v g m p => by rw [hrt_863]; exact hQ r F1 H1 v g m (hP_860 _ p)
      unfold m_law_plain_b1 at w
      refine q_asg (K := K) G w (e_call0 (f := (fun a : (Scr × Int × Unit) => m_law_cell_at a.1 a.2.1)) (x := (a0_script, ((a1_first + (1 : Int)) + x_847), ())) (e_cons (em_var rfl r0) (e_cons (e2 (e2 (em_var rfl r1) em_int o_add) (em_var rfl r_865) o_add) ea_nil))) fun cell_868 F_869 H_870 v_872 g_871 r_873 w => ?_
      have G := G.tr g_871
      have r0 := Rep.mo (K := K) g_871.ff r0
      have r1 := Rep.mo (K := K) g_871.ff r1
      have r2 := Rep.mo (K := K) g_871.ff r2
      have r_833 := Rep.mo (K := K) g_871.ff r_833
      have o_852 := o_852.mo g_871
      have r_865 := Rep.mo (K := K) g_871.ff r_865
      have e_851 := Ex.tr e_851 g_871.ff
      have e_867 := Ex.tr e_867 g_871.ff
      refine q_asg (K := K) G w (e2 (e2 (em_var rfl r_833) em_int o_sub) (em_var rfl r_865) o_sub) fun later_874 F_875 H_876 v_878 g_877 r_879 w => ?_
      have G := G.tr g_877
      have r0 := Rep.mo (K := K) g_877.ff r0
      have r1 := Rep.mo (K := K) g_877.ff r1
      have r2 := Rep.mo (K := K) g_877.ff r2
      have r_833 := Rep.mo (K := K) g_877.ff r_833
      have o_852 := o_852.mo g_877
      have r_865 := Rep.mo (K := K) g_877.ff r_865
      have r_873 := Rep.mo (K := K) g_877.ff r_873
      have e_851 := Ex.tr e_851 g_877.ff
      have e_867 := Ex.tr e_867 g_877.ff
      refine s_if2 G w (t_and (t_of (e2 (em_var rfl r_879) em_int o_gt)) (t_of (e2 (e2 (em_var rfl r_873) em_int (o_mod (by decide))) em_int o_lt))) (fun F_880 H_881 g_882 w => ?_) (fun F_880 H_881 g_882 w => ?_)
      · have G := G.tr g_882
        have r0 := Rep.mo (K := K) g_882.ff r0
        have r1 := Rep.mo (K := K) g_882.ff r1
        have r2 := Rep.mo (K := K) g_882.ff r2
        have r_833 := Rep.mo (K := K) g_882.ff r_833
        have o_852 := o_852.mo g_882
        have r_865 := Rep.mo (K := K) g_882.ff r_865
        have r_873 := Rep.mo (K := K) g_882.ff r_873
        have r_879 := Rep.mo (K := K) g_882.ff r_879
        have e_851 := Ex.tr e_851 g_882.ff
        have e_867 := Ex.tr e_867 g_882.ff
        refine q_asg (K := K) G w (em_op (e2 (em_var rfl r_865) em_int o_add) (em_op (e2 (em_var rfl r_873) em_int (o_fdiv ⟨by decide, by decide⟩)) (em_var rfl r_879) fun _ _ => o_modM) fun _ _ => o_add) fun to_887 F_888 H_889 v_891 g_890 r_892 w => ?_
        have G := G.tr g_890
        have r0 := Rep.mo (K := K) g_890.ff r0
        have r1 := Rep.mo (K := K) g_890.ff r1
        have r2 := Rep.mo (K := K) g_890.ff r2
        have r_833 := Rep.mo (K := K) g_890.ff r_833
        have o_852 := o_852.mo g_890
        have r_865 := Rep.mo (K := K) g_890.ff r_865
        have r_873 := Rep.mo (K := K) g_890.ff r_873
        have r_879 := Rep.mo (K := K) g_890.ff r_879
        have e_851 := Ex.tr e_851 g_890.ff
        have e_867 := Ex.tr e_867 g_890.ff
        refine q_asg (K := K) G w (em_op (e2 (em_var rfl r_865) em_int o_add) (em_op (e2 (em_var rfl r_873) em_int (o_fdiv ⟨by decide, by decide⟩)) (em_var rfl r_879) fun _ _ => o_modM) fun _ _ => o_add) fun beyond_897 F_898 H_899 v_901 g_900 r_902 w => ?_
        have G := G.tr g_900
        have r0 := Rep.mo (K := K) g_900.ff r0
        have r1 := Rep.mo (K := K) g_900.ff r1
        have r2 := Rep.mo (K := K) g_900.ff r2
        have r_833 := Rep.mo (K := K) g_900.ff r_833
        have o_852 := o_852.mo g_900
        have r_865 := Rep.mo (K := K) g_900.ff r_865
        have r_873 := Rep.mo (K := K) g_900.ff r_873
        have r_879 := Rep.mo (K := K) g_900.ff r_879
        have r_892 := Rep.mo (K := K) g_900.ff r_892
        have e_851 := Ex.tr e_851 g_900.ff
        have e_867 := Ex.tr e_867 g_900.ff
        refine s_app rfl o_852 n0p_838 G w (em_row (el_cons (e_clw (em_wd (by decide +kernel))) (el_cons (em_cli (e_call0 (f := (fun a : (Int × Unit) => m_law_size a.1)) (x := ((cell_868 / (512 : Int)), ())) (e_cons (e2 (em_var rfl r_873) em_int (o_fdiv ⟨by decide, by decide⟩)) ea_nil))) (el_cons (e_cli (em_var rfl r_892)) (el_cons (e_cli (em_var rfl r_902)) (el_nil (α := Cl))))))) fun rows_913 F_914 H_915 e_916 G o_917 hO_918 w => ?_
        have r0 := Rep.mo (K := K) e_916 r0
        have r1 := Rep.mo (K := K) e_916 r1
        have r2 := Rep.mo (K := K) e_916 r2
        have r_833 := Rep.mo (K := K) e_916 r_833
        have r_865 := Rep.mo (K := K) e_916 r_865
        have r_873 := Rep.mo (K := K) e_916 r_873
        have r_879 := Rep.mo (K := K) e_916 r_879
        have r_892 := Rep.mo (K := K) e_916 r_892
        have r_902 := Rep.mo (K := K) e_916 r_902
        have e_851 := Ex.tr e_851 e_916
        have e_867 := Ex.tr e_867 e_916
        exact hN_857 _ w _ _ _ e_867 ⟨_, _, _, _, _, rfl, G, e_851, o_917⟩
      · have G := G.tr g_882
        have r0 := Rep.mo (K := K) g_882.ff r0
        have r1 := Rep.mo (K := K) g_882.ff r1
        have r2 := Rep.mo (K := K) g_882.ff r2
        have r_833 := Rep.mo (K := K) g_882.ff r_833
        have o_852 := o_852.mo g_882
        have r_865 := Rep.mo (K := K) g_882.ff r_865
        have r_873 := Rep.mo (K := K) g_882.ff r_873
        have r_879 := Rep.mo (K := K) g_882.ff r_879
        have e_851 := Ex.tr e_851 g_882.ff
        have e_867 := Ex.tr e_867 g_882.ff
        refine s_app rfl o_852 n0p_838 G w (em_row (el_cons (e_clw (em_wd (by decide +kernel))) (el_cons (e_cli (e2 (e2 (em_var rfl r_873) em_int (o_fdiv ⟨by decide, by decide⟩)) em_int (o_mod (by decide)))) (el_nil (α := Cl))))) fun rows_925 F_926 H_927 e_928 G o_929 hO_930 w => ?_
        have r0 := Rep.mo (K := K) e_928 r0
        have r1 := Rep.mo (K := K) e_928 r1
        have r2 := Rep.mo (K := K) e_928 r2
        have r_833 := Rep.mo (K := K) e_928 r_833
        have r_865 := Rep.mo (K := K) e_928 r_865
        have r_873 := Rep.mo (K := K) e_928 r_873
        have r_879 := Rep.mo (K := K) e_928 r_879
        have e_851 := Ex.tr e_851 e_928
        have e_867 := Ex.tr e_867 e_928
        exact hN_857 _ w _ _ _ e_867 ⟨_, _, _, _, _, rfl, G, e_851, o_929⟩
    · rintro s_935 F_936 H_937 _ e_938 ⟨z_841, z_842, z_843, z_844, z_845, hs_932, G, e_933, o_934⟩ w
      subst hs_932
      have r0 := Rep.mo (K := K) e_933 r0
      have r1 := Rep.mo (K := K) e_933 r1
      have r2 := Rep.mo (K := K) e_933 r2
      have r_833 := Rep.mo (K := K) e_933 r_833
      have GA := gr_fz (A := [p_838]) G (own1 n0p_838)
      exact s_ret0 GA w (em_makeX (f := (fun a : (Int × (List Row) × Unit) => m_Works a.1 a.2.1)) (e_cons (em_var rfl (Rep.mo (fz_ex G.fh) r2)) (e_cons (em_var rfl (o_934.lent G.fh (by simp))) ea_nil))) fun r F1 H1 v g m p => hQ r F1 H1 v g m p
/-! ### _law_free -/
abbrev s_law_free : Stmt := topS 33
abbrev N_law_free : List Str := ["script", "first", "parts", "many", "rows", "k", "told"]
theorem sc_law_free : FnScope N_law_free ["script", "first", "parts"] (defScope s_law_free) := ⟨rfl, rfl, rfl, by decide +kernel, rfl, by decide +kernel, by decide +kernel⟩
abbrev sp_law_free (K : PySem.W.Frag) (ce : Ce) : Sp := SpF ce (RC K (α := Scr) (RC K (α := Int) (RC K (α := Int) R0))) (rv K (ρ := Wk)) (fun a : (Scr × Int × Int × Unit) => m_law_free a.1 a.2.1 a.2.2.1)
theorem ok_law_free {f : Addr} {fd : FuncData} (FF : Fun K "_law_free" "_law_free" s_law_free f fd) {a__law_cell_at : Addr} {d__law_cell_at : FuncData} (G__law_cell_at : FnOk P w K mg base CX0 1 a__law_cell_at d__law_cell_at ["script", "k"] (sp_law_cell_at K ce)) (mg__law_cell_at : mg "_law_cell_at" = some (.ref a__law_cell_at)) (k__law_cell_at : PySem.W.keepIn K (.ref a__law_cell_at) = true) (b__law_cell_at : Binds K d__law_cell_at ["script", "k"] []) {a__law_plain : Addr} {d__law_plain : FuncData} (G__law_plain : FnOk P w K mg base (L2.CX P w) 4 a__law_plain d__law_plain ["script", "first", "parts"] (sp_law_plain K ce)) (mg__law_plain : mg "_law_plain" = some (.ref a__law_plain)) (k__law_plain : PySem.W.keepIn K (.ref a__law_plain) = true) (b__law_plain : Binds K d__law_plain ["script", "first", "parts"] []) {a__law_row : Addr} {d__law_row : FuncData} (G__law_row : FnOk P w K mg base CX0 2 a__law_row d__law_row ["cell", "many"] (sp_law_row K ce)) (mg__law_row : mg "_law_row" = some (.ref a__law_row)) (k__law_row : PySem.W.keepIn K (.ref a__law_row) = true) (b__law_row : Binds K d__law_row ["cell", "many"] []) {a__law_stuck : Addr} {d__law_stuck : FuncData} (G__law_stuck : FnOk P w K mg base CX0 3 a__law_stuck d__law_stuck ["rows"] (sp_law_stuck K ce)) (mg__law_stuck : mg "_law_stuck" = some (.ref a__law_stuck)) (k__law_stuck : PySem.W.keepIn K (.ref a__law_stuck) = true) (b__law_stuck : Binds K d__law_stuck ["rows"] []) {a_Works : Addr} {d_Works : FuncData} (M_Works : Mk K (ce "Works") a_Works) (G_Works : FnOk P w K mg base (L2.CX P w) 2 a_Works d_Works ["self", "parts", "rows"] (sp_Works K ce)) (mgc_Works : mg "Works" = some (.ref (ce "Works"))) (b_Works : Binds K d_Works ["self", "parts", "rows"] []) (z_range : mg "range" = none) : FnOk P w K mg base (L2.CX P w) 5 f fd ["script", "first", "parts"] (sp_law_free K ce) := by
  refine FF.okX sc_law_free (fun vs H0 Q E h => ?_) (fun cdv A outer s H0 vs Q E hr h => ?_)
  · obtain ⟨F0, ⟨a0_script, a1_first, a2_parts, _⟩, e0, ⟨v0, _, rfl, r0, ⟨v1, _, rfl, r1, ⟨v2, _, rfl, r2, rfl⟩⟩⟩, w⟩ := h
    rfl
  · obtain ⟨F0, ⟨a0_script, a1_first, a2_parts, _⟩, e0, ⟨v0, _, rfl, r0, ⟨v1, _, rfl, r1, ⟨v2, _, rfl, r2, rfl⟩⟩⟩, w⟩ := h
    have w := wp_post w
    have G := Gr.rf e0
    have nd := sc_law_free.nd
    have hQ : ∀ r F1 H1 v, Gr F0 H0 F1 H1 → (rv K (ρ := Wk)) F0 H0 F1 H1 v r → Fin (rv K (ρ := Wk)) F0 H0 Q r → Q v H1 := fun r F1 H1 v g m p => p F1 H1 v g m
    refine ⟨_, (pss_cons (ps_set (i := 3) nd rfl (by first | exact Or.inl rfl | exact Or.inr rfl) (pe_op op_add pe_int (pe_op op_mod (pe_op op_fdivW (pe_call G__law_cell_at (hr.mono (by decide)) rfl mg__law_cell_at k__law_cell_at b__law_cell_at .nil pass0 (pa_cons (pv 0) (pa_cons (pv 1) pa_nil))) pe_int) pe_int)))
      (pss_cons (ps_set (i := 4) nd rfl (by first | exact Or.inl rfl | exact Or.inr rfl) (pe_lst pa_nil))
      (pss_cons (ps_for (by first | exact PassesOwn.never | exact passes_of rfl) rfl (pi_range1 rfl z_range (pa_cons (pv 3) pa_nil)) (pg_name (i := 5) nd rfl (by first | exact Or.inl rfl | exact Or.inr rfl)) (pss_cons (ps_set (i := 6) nd rfl (by first | exact Or.inl rfl | exact Or.inr rfl) (pe_call G__law_row (hr.mono (by decide)) rfl mg__law_row k__law_row b__law_row .nil pass0 (pa_cons (pe_call G__law_cell_at (hr.mono (by decide)) rfl mg__law_cell_at k__law_cell_at b__law_cell_at .nil pass0 (pa_cons (pv 0) (pa_cons (pe_op op_add (pe_op op_add (pv 1) pe_int) (pv 5)) pa_nil))) (pa_cons (pv 3) pa_nil))))
      (pss_cons (ps_if (pt_cmpR (r := rEqD K) (op_eqD hr.units) (pe_ix (r := rIxT K) ix_tup (pv 6) pe_int (fun _ _ => rfl)) pe_str (nomark _)) (pss_one (ps_set (i := 6) nd rfl (by first | exact Or.inl rfl | exact Or.inr rfl) (pe_tup (pa_cons pe_str (pa_cons (pe_op op_mod (pe_ix (r := rIxT K) ix_tup (pv 6) pe_int (fun _ _ => rfl)) pe_int) pa_nil))))) pss_nil)
      (pss_one (ps_expr (pe_bm PySem.F.plainAttrs_list PySem.F.slot_list_append PySem.F.type_list_append mt_append (pv 4) (pa_cons (pv 6) pa_nil)))))))
      (pss_cons (ps_if (pt_val (pe_call G__law_stuck (hr.mono (by decide)) rfl mg__law_stuck k__law_stuck b__law_stuck .nil pass0 (pa_cons (pv 4) pa_nil))) (pss_one (ps_ret (pe_call G__law_plain (hr.mono (by decide)) rfl mg__law_plain k__law_plain b__law_plain .nil (passes_call (takes_of rfl rfl rfl rfl) (fun _ _ _ _ h => h)) (pa_cons (pv 0) (pa_cons (pv 1) (pa_cons (pv 2) pa_nil)))))) pss_nil)
      (pss_one (ps_ret (pe_make M_Works G_Works (hr.mono (by decide)) rfl mgc_Works b_Works .nil (passes_call (takes_of rfl rfl rfl rfl) (fun _ _ _ _ h => h)) (pa_cons (pv 2) (pa_cons (pv 4) pa_nil))))))))), ?_⟩
    have w := show Wp ce E H0 (m_law_free a0_script a1_first a2_parts) _ from w
    unfold m_law_free at w
    refine q_asg (K := K) G w (em_op em_int (em_op (em_op (e_call0 (f := (fun a : (Scr × Int × Unit) => m_law_cell_at a.1 a.2.1)) (x := (a0_script, a1_first, ())) (e_cons (em_var rfl r0) (e_cons (em_var rfl r1) ea_nil))) em_int fun _ _ => o_fdivM) em_int fun _ _ => o_modM) fun _ _ => o_add) fun many_1056 F_1057 H_1058 v_1060 g_1059 r_1061 w => ?_
    have G := G.tr g_1059
    have r0 := Rep.mo (K := K) g_1059.ff r0
    have r1 := Rep.mo (K := K) g_1059.ff r1
    have r2 := Rep.mo (K := K) g_1059.ff r2
    refine q_asgN (K := K) G w (e_lst (el_nil (α := Row)) (by decide)) fun rows_1062 F_1063 H_1064 p_1066 g_1065 n_1067 o_1068 w => ?_
    have n0p_1066 := ex_back G.hh n_1067
    have G := G.tr g_1065
    have r0 := Rep.mo (K := K) g_1065.ff r0
    have r1 := Rep.mo (K := K) g_1065.ff r1
    have r2 := Rep.mo (K := K) g_1065.ff r2
    have r_1061 := Rep.mo (K := K) g_1065.ff r_1061
    refine q_for (S := (List Row)) (fun s F' H' σ' => ∃ (z_1069 : Option V) (z_1070 : Option V), σ' = [some v0, some v1, some v2, some v_1060, some (.ref p_1066), z_1069, z_1070] ∧ Gr F0 H0 F' H' ∧ Ex F_1063 F' ∧ Own K (T := (List Row)) F' H' p_1066 s) G (ei_rng1 (em_var rfl r_1061)) (tg_name (K := K)) w (fun _ _ g_1156 => ⟨_, _, rfl, G.tr g_1156, g_1156.ff, o_1068.mo g_1156⟩) (fun _ _ _ _ ⟨_, _, _, G, _⟩ => G) ?_ ?_
    · rintro x_1072 s_1071 F_1073 H_1074 _ ⟨z_1069, z_1070, hs_1075, G, e_1076, o_1077⟩ F_1078 H_1079 σ_1080 g_1081 ⟨v_1089, h_1091, r_1090⟩ D_1086 P_1087 hrt_1088 hN_1082 hC_1083 hB_1084 hP_1085 w
      subst hs_1075
      subst h_1091
      have r0 := Rep.mo (K := K) e_1076 r0
      have r1 := Rep.mo (K := K) e_1076 r1
      have r2 := Rep.mo (K := K) e_1076 r2
      have r_1061 := Rep.mo (K := K) e_1076 r_1061
      have G := G.tr g_1081
      have r0 := Rep.mo (K := K) g_1081.ff r0
      have r1 := Rep.mo (K := K) g_1081.ff r1
      have r2 := Rep.mo (K := K) g_1081.ff r2
      have r_1061 := Rep.mo (K := K) g_1081.ff r_1061
      have o_1077 := o_1077.mo g_1081
      have e_1076 := Ex.tr e_1076 g_1081.ff
      have e_1092 := Ex.rf F_1078
      have hQ : ∀ r F1 H1 v, Gr F0 H0 F1 H1 → (rv K (ρ := Wk)) F0 H0 F1 H1 v r → P_1087 (.rt r) → D_1086.rt v H1 := fun r F1 H1 v g m p => by rw [hrt_1088]; exact hQ r F1 H1 v g m (hP_1085 _ p)
      unfold m_law_free_b1 at w
      refine q_asg (K := K) G w (em_call0 (f := (fun a : (Int × Int × Unit) => m_law_row a.1 a.2.1)) (ea_cons (e_call0 (f := (fun a : (Scr × Int × Unit) => m_law_cell_at a.1 a.2.1)) (x := (a0_script, ((a1_first + (1 : Int)) + x_1072), ())) (e_cons (em_var rfl r0) (e_cons (e2 (e2 (em_var rfl r1) em_int o_add) (em_var rfl r_1090) o_add) ea_nil))) (ea_cons (em_var rfl r_1061) ea_nil))) fun told_1098 F_1099 H_1100 v_1102 g_1101 r_1103 w => ?_
      have G := G.tr g_1101
      have r0 := Rep.mo (K := K) g_1101.ff r0
      have r1 := Rep.mo (K := K) g_1101.ff r1
      have r2 := Rep.mo (K := K) g_1101.ff r2
      have r_1061 := Rep.mo (K := K) g_1101.ff r_1061
      have o_1077 := o_1077.mo g_1101
      have r_1090 := Rep.mo (K := K) g_1101.ff r_1090
      have e_1076 := Ex.tr e_1076 g_1101.ff
      have e_1092 := Ex.tr e_1092 g_1101.ff
      refine q_join (W := Row) (fun s F' H' σ' => ∃ (v_1112 : V), σ' = [some v0, some v1, some v2, some v_1060, some (.ref p_1066), some v_1089, some v_1112] ∧ Gr F0 H0 F' H' ∧ Ex F_1099 F' ∧ rp (α := Row) K F' v_1112 s ∧ Own K (T := (List Row)) F' H' p_1066 s_1071) w ?_ ?_
      · rintro s_1111 F_1117 H_1118 σs_1111 ⟨v_1112, hs_1113, G, e_1114, r_1115, o_1116⟩ w
        subst hs_1113
        have r0 := Rep.mo (K := K) e_1114 r0
        have r1 := Rep.mo (K := K) e_1114 r1
        have r2 := Rep.mo (K := K) e_1114 r2
        have r_1061 := Rep.mo (K := K) e_1114 r_1061
        have r_1090 := Rep.mo (K := K) e_1114 r_1090
        have e_1076 := Ex.tr e_1076 e_1114
        have e_1092 := Ex.tr e_1092 e_1114
        refine s_app rfl o_1116 n0p_1066 G w (em_var rfl r_1115) fun rows_1119 F_1120 H_1121 e_1122 G o_1123 hO_1124 w => ?_
        have r0 := Rep.mo (K := K) e_1122 r0
        have r1 := Rep.mo (K := K) e_1122 r1
        have r2 := Rep.mo (K := K) e_1122 r2
        have r_1061 := Rep.mo (K := K) e_1122 r_1061
        have r_1090 := Rep.mo (K := K) e_1122 r_1090
        have r_1115 := Rep.mo (K := K) e_1122 r_1115
        have e_1076 := Ex.tr e_1076 e_1122
        have e_1092 := Ex.tr e_1092 e_1122
        exact hN_1082 _ w _ _ _ e_1092 ⟨_, _, rfl, G, e_1076, o_1123⟩
      · intro P_1127 hk_1126 w
        refine s_if2 G w (t_of (em_op (em_op (em_var rfl r_1103) em_int fun _ _ => o_rowix) (e_clw (em_wd (by decide +kernel))) fun _ _ => (o_eqD (by decide)))) (fun F_1108 H_1109 g_1110 w => ?_) (fun F_1108 H_1109 g_1110 w => ?_)
        · have e_1128 : Ex F_1099 F_1108 := g_1110.ff
          have G := G.tr g_1110
          have r0 := Rep.mo (K := K) g_1110.ff r0
          have r1 := Rep.mo (K := K) g_1110.ff r1
          have r2 := Rep.mo (K := K) g_1110.ff r2
          have r_1061 := Rep.mo (K := K) g_1110.ff r_1061
          have o_1077 := o_1077.mo g_1110
          have r_1090 := Rep.mo (K := K) g_1110.ff r_1090
          have r_1103 := Rep.mo (K := K) g_1110.ff r_1103
          have e_1076 := Ex.tr e_1076 g_1110.ff
          have e_1092 := Ex.tr e_1092 g_1110.ff
          refine s_asg (K := K) G w (em_row (el_cons (e_clw (em_wd (by decide +kernel))) (el_cons (em_cli (em_op (em_clI (em_op (em_var rfl r_1103) em_int fun _ _ => o_rowix)) em_int fun _ _ => o_modM)) (el_nil (α := Cl))))) fun told_1139 F_1140 H_1141 v_1143 g_1142 r_1144 w => ?_
          have G := G.tr g_1142
          have r0 := Rep.mo (K := K) g_1142.ff r0
          have r1 := Rep.mo (K := K) g_1142.ff r1
          have r2 := Rep.mo (K := K) g_1142.ff r2
          have r_1061 := Rep.mo (K := K) g_1142.ff r_1061
          have o_1077 := o_1077.mo g_1142
          have r_1090 := Rep.mo (K := K) g_1142.ff r_1090
          have e_1076 := Ex.tr e_1076 g_1142.ff
          have e_1092 := Ex.tr e_1092 g_1142.ff
          have e_1128 := Ex.tr e_1128 g_1142.ff
          exact hk_1126 _ w _ _ _ ⟨_, rfl, G, e_1128, r_1144, o_1077⟩
        · have e_1128 : Ex F_1099 F_1108 := g_1110.ff
          have G := G.tr g_1110
          have r0 := Rep.mo (K := K) g_1110.ff r0
          have r1 := Rep.mo (K := K) g_1110.ff r1
          have r2 := Rep.mo (K := K) g_1110.ff r2
          have r_1061 := Rep.mo (K := K) g_1110.ff r_1061
          have o_1077 := o_1077.mo g_1110
          have r_1090 := Rep.mo (K := K) g_1110.ff r_1090
          have r_1103 := Rep.mo (K := K) g_1110.ff r_1103
          have e_1076 := Ex.tr e_1076 g_1110.ff
          have e_1092 := Ex.tr e_1092 g_1110.ff
          refine s_next ?_
          exact hk_1126 _ w _ _ _ ⟨_, rfl, G, e_1128, r_1103, o_1077⟩
    · rintro s_1148 F_1149 H_1150 _ e_1151 ⟨z_1069, z_1070, hs_1145, G, e_1146, o_1147⟩ w
      subst hs_1145
      have r0 := Rep.mo (K := K) e_1146 r0
      have r1 := Rep.mo (K := K) e_1146 r1
      have r2 := Rep.mo (K := K) e_1146 r2
      have r_1061 := Rep.mo (K := K) e_1146 r_1061
      refine q_if2A [p_1066] G w (own1 o_1147.f) (own1 o_1147.ls) (t_B (e_call0 (f := (fun a : ((List Row) × Unit) => m_law_stuck a.1)) (x := (s_1148, ())) (e_cons (em_var rfl (o_1147.lent G.fh (by simp))) ea_nil))) (fun F_1152 H_1153 g_1154 w => ?_) (fun F_1152 H_1153 g_1154 w => ?_)
      · have G := G.tr g_1154
        have r0 := Rep.mo (K := K) g_1154.ff r0
        have r1 := Rep.mo (K := K) g_1154.ff r1
        have r2 := Rep.mo (K := K) g_1154.ff r2
        have r_1061 := Rep.mo (K := K) g_1154.ff r_1061
        have o_1147 := o_1147.mo g_1154
        exact s_ret0 G w (e_callX (f := (fun a : (Scr × Int × Int × Unit) => m_law_plain a.1 a.2.1 a.2.2.1)) (x := (a0_script, a1_first, a2_parts, ())) (e_cons (em_var rfl r0) (e_cons (em_var rfl r1) (e_cons (em_var rfl r2) ea_nil)))) fun r F1 H1 v g m p => hQ r F1 H1 v g m p
      · have G := G.tr g_1154
        have r0 := Rep.mo (K := K) g_1154.ff r0
        have r1 := Rep.mo (K := K) g_1154.ff r1
        have r2 := Rep.mo (K := K) g_1154.ff r2
        have r_1061 := Rep.mo (K := K) g_1154.ff r_1061
        have o_1147 := o_1147.mo g_1154
        refine s_next ?_
        refine s_nx ?_
        have GA := gr_fz (A := [p_1066]) G (own1 n0p_1066)
        exact s_ret0 GA w (em_makeX (f := (fun a : (Int × (List Row) × Unit) => m_Works a.1 a.2.1)) (e_cons (em_var rfl (Rep.mo (fz_ex G.fh) r2)) (e_cons (em_var rfl (o_1147.lent G.fh (by simp))) ea_nil))) fun r F1 H1 v g m p => hQ r F1 H1 v g m p
/-! ### _law_later -/
abbrev s_law_later : Stmt := topS 36
abbrev N_law_later : List Str := ["rows", "more", "made", "told"]
theorem sc_law_later : FnScope N_law_later ["rows", "more"] (defScope s_law_later) := ⟨rfl, rfl, rfl, by decide +kernel, rfl, by decide +kernel, by decide +kernel⟩
abbrev sp_law_later (K : PySem.W.Frag) (ce : Ce) : Sp := SpF0 ce (RC K (α := (List Row)) (RC K (α := Int) R0)) (rn K (α := Row)) (fun a : ((List Row) × Int × Unit) => m_law_later a.1 a.2.1)
theorem ok_law_later {f : Addr} {fd : FuncData} (FF : Fun K "_law_later" "_law_later" s_law_later f fd) : FnOk P w K mg base CX0 1 f fd ["rows", "more"] (sp_law_later K ce) := by
  refine FF.ok sc_law_later (fun vs H0 Q E h => ?_) (fun cdv A outer s H0 vs Q E hr h => ?_)
  · obtain ⟨F0, ⟨a0_rows, a1_more, _⟩, e0, ⟨v0, _, rfl, r0, ⟨v1, _, rfl, r1, rfl⟩⟩, w⟩ := h
    rfl
  · obtain ⟨F0, ⟨a0_rows, a1_more, _⟩, e0, ⟨v0, _, rfl, r0, ⟨v1, _, rfl, r1, rfl⟩⟩, w⟩ := h
    have w := wp_post w
    have G := Gr.rf e0
    have nd := sc_law_later.nd
    have hQ : ∀ r F1 H1 v, Gr F0 H0 F1 H1 → (rn K (α := Row)) F0 H0 F1 H1 v r → Fin (rn K (α := Row)) F0 H0 Q r → Q v H1 := fun r F1 H1 v g m p => p F1 H1 v g m
    refine ⟨_, (pss_cons (ps_set (i := 2) nd rfl (by first | exact Or.inl rfl | exact Or.inr rfl) (pe_lst pa_nil))
      (pss_cons (ps_for (by first | exact PassesOwn.never | exact passes_of rfl) rfl (pi_list (pv 0)) (pg_name (i := 3) nd rfl (by first | exact Or.inl rfl | exact Or.inr rfl)) (pss_one (ps_if (pt_cmpR (r := rEqD K) (op_eqD hr.units) (pe_ix (r := rIxT K) ix_tup (pv 3) pe_int (fun _ _ => rfl)) pe_str (nomark _)) (pss_one (ps_expr (pe_bm PySem.F.plainAttrs_list PySem.F.slot_list_append PySem.F.type_list_append mt_append (pv 2) (pa_cons (pe_tup (pa_cons pe_str (pa_cons (pe_ix (r := rIxT K) ix_tup (pv 3) pe_int (fun _ _ => rfl)) (pa_cons (pe_op op_add (pe_ix (r := rIxT K) ix_tup (pv 3) pe_int (fun _ _ => rfl)) (pv 1)) (pa_cons (pe_op op_add (pe_ix (r := rIxT K) ix_tup (pv 3) pe_int (fun _ _ => rfl)) (pv 1)) pa_nil))))) pa_nil)))) (pss_one (ps_expr (pe_bm PySem.F.plainAttrs_list PySem.F.slot_list_append PySem.F.type_list_append mt_append (pv 2) (pa_cons (pv 3) pa_nil)))))))
      (pss_one (ps_ret (pv 2))))), ?_⟩
    have w := show Wp ce E0 H0 (m_law_later a0_rows a1_more) _ from w
    unfold m_law_later at w
    refine q_asgN (K := K) G w (e_lst (el_nil (α := Row)) (by decide)) fun made_1242 F_1243 H_1244 p_1246 g_1245 n_1247 o_1248 w => ?_
    have n0p_1246 := ex_back G.hh n_1247
    have G := G.tr g_1245
    have r0 := Rep.mo (K := K) g_1245.ff r0
    have r1 := Rep.mo (K := K) g_1245.ff r1
    refine q_for (S := (List Row)) (fun s F' H' σ' => ∃ (z_1249 : Option V), σ' = [some v0, some v1, some (.ref p_1246), z_1249] ∧ Gr F0 H0 F' H' ∧ Ex F_1243 F' ∧ Own K (T := (List Row)) F' H' p_1246 s) G (ei_list (em_var rfl r0)) (tg_name (K := K)) w (fun _ _ g_1321 => ⟨_, rfl, G.tr g_1321, g_1321.ff, o_1248.mo g_1321⟩) (fun _ _ _ _ ⟨_, _, G, _⟩ => G) ?_ ?_
    · rintro x_1251 s_1250 F_1252 H_1253 _ ⟨z_1249, hs_1254, G, e_1255, o_1256⟩ F_1257 H_1258 σ_1259 g_1260 ⟨v_1268, h_1270, r_1269⟩ D_1265 P_1266 hrt_1267 hN_1261 hC_1262 hB_1263 hP_1264 w
      subst hs_1254
      subst h_1270
      have r0 := Rep.mo (K := K) e_1255 r0
      have r1 := Rep.mo (K := K) e_1255 r1
      have G := G.tr g_1260
      have r0 := Rep.mo (K := K) g_1260.ff r0
      have r1 := Rep.mo (K := K) g_1260.ff r1
      have o_1256 := o_1256.mo g_1260
      have e_1255 := Ex.tr e_1255 g_1260.ff
      have e_1271 := Ex.rf F_1257
      have hQ : ∀ r F1 H1 v, Gr F0 H0 F1 H1 → (rn K (α := Row)) F0 H0 F1 H1 v r → P_1266 (.rt r) → D_1265.rt v H1 := fun r F1 H1 v g m p => by rw [hrt_1267]; exact hQ r F1 H1 v g m (hP_1264 _ p)
      unfold m_law_later_b1 at w
      refine s_if2 G w (t_of (em_op (em_op (em_var rfl r_1269) em_int fun _ _ => o_rowix) (e_clw (em_wd (by decide +kernel))) fun _ _ => (o_eqD (by decide)))) (fun F_1276 H_1277 g_1278 w => ?_) (fun F_1276 H_1277 g_1278 w => ?_)
      · have G := G.tr g_1278
        have r0 := Rep.mo (K := K) g_1278.ff r0
        have r1 := Rep.mo (K := K) g_1278.ff r1
        have o_1256 := o_1256.mo g_1278
        have r_1269 := Rep.mo (K := K) g_1278.ff r_1269
        have e_1255 := Ex.tr e_1255 g_1278.ff
        have e_1271 := Ex.tr e_1271 g_1278.ff
        refine s_app rfl o_1256 n0p_1246 G w (em_row (el_cons (e_clw (em_wd (by decide +kernel))) (el_cons (em_op (em_var rfl r_1269) em_int fun _ _ => o_rowix) (el_cons (em_cli (em_op (em_clI (em_op (em_var rfl r_1269) em_int fun _ _ => o_rowix)) (em_var rfl r1) fun _ _ => o_add)) (el_cons (em_cli (em_op (em_clI (em_op (em_var rfl r_1269) em_int fun _ _ => o_rowix)) (em_var rfl r1) fun _ _ => o_add)) (el_nil (α := Cl))))))) fun made_1300 F_1301 H_1302 e_1303 G o_1304 hO_1305 w => ?_
        have r0 := Rep.mo (K := K) e_1303 r0
        have r1 := Rep.mo (K := K) e_1303 r1
        have r_1269 := Rep.mo (K := K) e_1303 r_1269
        have e_1255 := Ex.tr e_1255 e_1303
        have e_1271 := Ex.tr e_1271 e_1303
        exact hN_1261 _ w _ _ _ e_1271 ⟨_, rfl, G, e_1255, o_1304⟩
      · have G := G.tr g_1278
        have r0 := Rep.mo (K := K) g_1278.ff r0
        have r1 := Rep.mo (K := K) g_1278.ff r1
        have o_1256 := o_1256.mo g_1278
        have r_1269 := Rep.mo (K := K) g_1278.ff r_1269
        have e_1255 := Ex.tr e_1255 g_1278.ff
        have e_1271 := Ex.tr e_1271 g_1278.ff
        refine s_app rfl o_1256 n0p_1246 G w (em_var rfl r_1269) fun made_1307 F_1308 H_1309 e_1310 G o_1311 hO_1312 w => ?_
        have r0 := Rep.mo (K := K) e_1310 r0
        have r1 := Rep.mo (K := K) e_1310 r1
        have r_1269 := Rep.mo (K := K) e_1310 r_1269
        have e_1255 := Ex.tr e_1255 e_1310
        have e_1271 := Ex.tr e_1271 e_1310
        exact hN_1261 _ w _ _ _ e_1271 ⟨_, rfl, G, e_1255, o_1311⟩
    · rintro s_1317 F_1318 H_1319 _ e_1320 ⟨z_1249, hs_1314, G, e_1315, o_1316⟩ w
      subst hs_1314
      have r0 := Rep.mo (K := K) e_1315 r0
      have r1 := Rep.mo (K := K) e_1315 r1
      exact ⟨_, rfl, hQ _ _ _ _ G (rn_own o_1316 n0p_1246) w⟩
/-! ### _law_beyond -/
abbrev s_law_beyond : Stmt := topS 37
abbrev N_law_beyond : List Str := ["told", "at"]
theorem sc_law_beyond : FnScope N_law_beyond ["told", "at"] (defScope s_law_beyond) := ⟨rfl, rfl, rfl, by decide +kernel, rfl, by decide +kernel, by decide +kernel⟩
abbrev sp_law_beyond (K : PySem.W.Frag) (ce : Ce) : Sp := SpF0 ce (RC K (α := Row) (RC K (α := Int) R0)) (rv K (ρ := Row)) (fun a : (Row × Int × Unit) => m_law_beyond a.1 a.2.1)
theorem ok_law_beyond {f : Addr} {fd : FuncData} (FF : Fun K "_law_beyond" "_law_beyond" s_law_beyond f fd) (z_int : mg "int" = none) : FnOk P w K mg base CX0 1 f fd ["told", "at"] (sp_law_beyond K ce) := by
  refine FF.ok sc_law_beyond (fun vs H0 Q E h => ?_) (fun cdv A outer s H0 vs Q E hr h => ?_)
  · obtain ⟨F0, ⟨a0_told, a1_at, _⟩, e0, ⟨v0, _, rfl, r0, ⟨v1, _, rfl, r1, rfl⟩⟩, w⟩ := h
    rfl
  · obtain ⟨F0, ⟨a0_told, a1_at, _⟩, e0, ⟨v0, _, rfl, r0, ⟨v1, _, rfl, r1, rfl⟩⟩, w⟩ := h
    have w := wp_post w
    have G := Gr.rf e0
    have nd := sc_law_beyond.nd
    have hQ : ∀ r F1 H1 v, Gr F0 H0 F1 H1 → (rv K (ρ := Row)) F0 H0 F1 H1 v r → Fin (rv K (ρ := Row)) F0 H0 Q r → Q v H1 := fun r F1 H1 v g m p => p F1 H1 v g m
    refine ⟨_, (pss_cons (ps_if (pt_cmpR (r := rNeD K) (op_neD hr.units) (pe_ix (r := rIxT K) ix_tup (pv 0) pe_int (fun _ _ => rfl)) pe_str (nomark _)) (pss_one (ps_ret (pv 0))) pss_nil)
      (pss_one (ps_ret (pe_tup (pa_cons pe_str (pa_cons (pe_ix (r := rIxT K) ix_tup (pv 0) pe_int (fun _ _ => rfl)) (pa_cons (pe_op op_add (pe_ix (r := rIxT K) ix_tup (pv 0) pe_int (fun _ _ => rfl)) (pe_callTy call_int1 (by rfl) z_int (by decide +kernel) (pa_cons (pe_cmpR op_ge (pe_ix (r := rIxT K) ix_tup (pv 0) pe_int (fun _ _ => rfl)) (pv 1) (nomark _)) pa_nil))) (pa_cons (pe_op op_add (pe_ix (r := rIxT K) ix_tup (pv 0) pe_int (fun _ _ => rfl)) (pe_callTy call_int1 (by rfl) z_int (by decide +kernel) (pa_cons (pe_cmpR op_ge (pe_ix (r := rIxT K) ix_tup (pv 0) pe_int (fun _ _ => rfl)) (pv 1) (nomark _)) pa_nil))) pa_nil)))))))), ?_⟩
    have w := show Wp ce E0 H0 (m_law_beyond a0_told a1_at) _ from w
    unfold m_law_beyond at w
    refine q_if2 G w (t_of (em_op (em_op (em_var rfl r0) em_int fun _ _ => o_rowix) (e_clw (em_wd (by decide +kernel))) fun _ _ => (o_neD (by decide)))) (fun F_1369 H_1370 g_1371 w => ?_) (fun F_1369 H_1370 g_1371 w => ?_)
    · have G := G.tr g_1371
      have r0 := Rep.mo (K := K) g_1371.ff r0
      have r1 := Rep.mo (K := K) g_1371.ff r1
      exact s_ret0 G w (em_var rfl r0) fun r F1 H1 v g m p => hQ r F1 H1 v g m p
    · have G := G.tr g_1371
      have r0 := Rep.mo (K := K) g_1371.ff r0
      have r1 := Rep.mo (K := K) g_1371.ff r1
      refine s_next ?_
      refine s_nx ?_
      exact s_ret0 G w (em_row (el_cons (e_clw (em_wd (by decide +kernel))) (el_cons (em_op (em_var rfl r0) em_int fun _ _ => o_rowix) (el_cons (em_cli (em_op (em_clI (em_op (em_var rfl r0) em_int fun _ _ => o_rowix)) (em_cb (ea_cons (em_op (em_clI (em_op (em_var rfl r0) em_int fun _ _ => o_rowix)) (em_var rfl r1) fun _ _ => o_ge) ea_nil) fun _ => a_intB) fun _ _ => o_add)) (el_cons (em_cli (em_op (em_clI (em_op (em_var rfl r0) em_int fun _ _ => o_rowix)) (em_cb (ea_cons (em_op (em_clI (em_op (em_var rfl r0) em_int fun _ _ => o_rowix)) (em_var rfl r1) fun _ _ => o_ge) ea_nil) fun _ => a_intB) fun _ _ => o_add)) (el_nil (α := Cl))))))) fun r F1 H1 v g m p => hQ r F1 H1 v g m p
/-! ### _law_turned -/
abbrev s_law_turned : Stmt := topS 35
abbrev N_law_turned : List Str := ["works", "cell", "rows", "at", "last", "row"]
theorem sc_law_turned : FnScope N_law_turned ["works", "cell"] (defScope s_law_turned) := ⟨rfl, rfl, rfl, by decide +kernel, rfl, by decide +kernel, by decide +kernel⟩
abbrev sp_law_turned (K : PySem.W.Frag) (ce : Ce) : Sp := SpF ce (RC K (α := Wk) (RC K (α := Int) R0)) (rv K (ρ := Wk)) (fun a : (Wk × Int × Unit) => m_law_turned a.1 a.2.1)
theorem ok_law_turned {f : Addr} {fd : FuncData} (FF : Fun K "_law_turned" "_law_turned" s_law_turned f fd) {a__law_beyond : Addr} {d__law_beyond : FuncData} (G__law_beyond : FnOk P w K mg base CX0 1 a__law_beyond d__law_beyond ["told", "at"] (sp_law_beyond K ce)) (mg__law_beyond : mg "_law_beyond" = some (.ref a__law_beyond)) (k__law_beyond : PySem.W.keepIn K (.ref a__law_beyond) = true) (b__law_beyond : Binds K d__law_beyond ["told", "at"] []) {a__law_later : Addr} {d__law_later : FuncData} (G__law_later : FnOk P w K mg base CX0 1 a__law_later d__law_later ["rows", "more"] (sp_law_later K ce)) (mg__law_later : mg "_law_later" = some (.ref a__law_later)) (k__law_later : PySem.W.keepIn K (.ref a__law_later) = true) (b__law_later : Binds K d__law_later ["rows", "more"] []) {a_Works : Addr} {d_Works : FuncData} (M_Works : Mk K (ce "Works") a_Works) (G_Works : FnOk P w K mg base (L2.CX P w) 2 a_Works d_Works ["self", "parts", "rows"] (sp_Works K ce)) (mgc_Works : mg "Works" = some (.ref (ce "Works"))) (b_Works : Binds K d_Works ["self", "parts", "rows"] []) (z_len : mg "len" = none) (z_list : mg "list" = none) (z_max : mg "max" = none) : FnOk P w K mg base (L2.CX P w) 4 f fd ["works", "cell"] (sp_law_turned K ce) := by
  refine FF.okX sc_law_turned (fun vs H0 Q E h => ?_) (fun cdv A outer s H0 vs Q E hr h => ?_)
  · obtain ⟨F0, ⟨a0_works, a1_cell, _⟩, e0, ⟨v0, _, rfl, r0, ⟨v1, _, rfl, r1, rfl⟩⟩, w⟩ := h
    rfl
  · obtain ⟨F0, ⟨a0_works, a1_cell, _⟩, e0, ⟨v0, _, rfl, r0, ⟨v1, _, rfl, r1, rfl⟩⟩, w⟩ := h
    have w := wp_post w
    have G := Gr.rf e0
    have nd := sc_law_turned.nd
    have hQ : ∀ r F1 H1 v, Gr F0 H0 F1 H1 → (rv K (ρ := Wk)) F0 H0 F1 H1 v r → Fin (rv K (ρ := Wk)) F0 H0 Q r → Q v H1 := fun r F1 H1 v g m p => p F1 H1 v g m
    refine ⟨_, (pss_cons (ps_set (i := 2) nd rfl (by first | exact Or.inl rfl | exact Or.inr rfl) (pe_callTy (r := rListS K) call_list_of (by rfl) z_list (by decide +kernel) (pa_cons (pe_fld (pv 0) rfl) pa_nil)))
      (pss_cons (ps_set (i := 3) nd rfl (by first | exact Or.inl rfl | exact Or.inr rfl) (pe_op op_mod (pe_op op_fdiv (pv 1) pe_int) (pe_callB (r := rLenS K) call_len_seq (by rfl) z_len (by decide +kernel) (pa_cons (pv 2) pa_nil))))
      (pss_cons (ps_if (pt_cmpR op_eq (pe_op op_mod (pv 1) pe_int) pe_int (nomark _)) (pss_one (ps_if (pt_cmpR (r := rEqD K) (op_eqD hr.units) (pe_ix (r := rIxT K) ix_tup (pe_ix (r := rIxL K) ix_list (pv 2) (pv 3) (fun _ _ => rfl)) pe_int (fun _ _ => rfl)) pe_str (nomark _)) (pss_one (ps_asg (pe_tup (pa_cons pe_str (pa_cons (pe_callB (call_max2 rfl) (by rfl) z_max (by decide +kernel) (pa_cons pe_int (pa_cons (pe_op op_sub (pe_ix (r := rIxT K) ix_tup (pe_ix (r := rIxL K) ix_list (pv 2) (pv 3) (fun _ _ => rfl)) pe_int (fun _ _ => rfl)) (pe_op op_mod (pe_op op_fdiv (pv 1) pe_int) pe_int)) pa_nil))) (pa_cons (pe_ix (r := rIxT K) ix_tup (pe_ix (r := rIxL K) ix_list (pv 2) (pv 3) (fun _ _ => rfl)) pe_int (fun _ _ => rfl)) (pa_cons (pe_ix (r := rIxT K) ix_tup (pe_ix (r := rIxL K) ix_list (pv 2) (pv 3) (fun _ _ => rfl)) pe_int (fun _ _ => rfl)) pa_nil))))) (pg_sub (pv 2) (pv 3) set_list))) (pss_one (ps_asg (pe_tup (pa_cons pe_str (pa_cons (pe_op op_mod (pe_op op_fdiv (pv 1) pe_int) pe_int) pa_nil))) (pg_sub (pv 2) (pv 3) set_list))))) pss_nil)
      (pss_cons (ps_if (PW.pt (pw_and (pt_cmpR op_eq (pe_op op_mod (pv 1) pe_int) pe_int (nomark _)) (pw_and1 (pt_cmpR op_lt (pe_callB (r := rLenS K) call_len_seq (by rfl) z_len (by decide +kernel) (pa_cons (pv 2) pa_nil)) pe_int (nomark _))))) (pss_one (ps_set (i := 2) nd rfl (by first | exact Or.inl rfl | exact Or.inr rfl) (pe_op op_cat (pe_lst (pa_cons (pe_tup (pa_cons pe_str (pa_cons (pe_op op_add pe_int (pe_op op_mod (pe_op op_fdiv (pv 1) pe_int) pe_int)) (pa_cons pe_int (pa_cons pe_int pa_nil))))) pa_nil)) (pe_call G__law_later (hr.mono (by decide)) rfl mg__law_later k__law_later b__law_later .nil pass0 (pa_cons (pv 2) (pa_cons pe_int pa_nil)))))) pss_nil)
      (pss_cons (ps_if (PW.pt (pw_and (pt_cmpR op_eq (pe_op op_mod (pv 1) pe_int) pe_int (nomark _)) (pw_and1 (pt_cmpR op_lt (pe_callB (r := rLenS K) call_len_seq (by rfl) z_len (by decide +kernel) (pa_cons (pv 2) pa_nil)) pe_int (nomark _))))) (pss_cons (ps_set (i := 4) nd rfl (by first | exact Or.inl rfl | exact Or.inr rfl) (pe_callB (r := rLenS K) call_len_seq (by rfl) z_len (by decide +kernel) (pa_cons (pv 2) pa_nil)))
      (pss_cons (ps_set (i := 2) nd rfl (by first | exact Or.inl rfl | exact Or.inr rfl) (pe_op op_cat (pe_op op_cat (pe_call G__law_later (hr.mono (by decide)) rfl mg__law_later k__law_later b__law_later .nil pass0 (pa_cons (pe_slice (r := rSlL K) sl_list (pv 2) po_none (po_some (pv 3))) (pa_cons pe_int pa_nil))) (pe_lst (pa_cons (pe_tup (pa_cons pe_str (pa_cons pe_int pa_nil))) pa_nil))) (pe_call G__law_later (hr.mono (by decide)) rfl mg__law_later k__law_later b__law_later .nil pass0 (pa_cons (pe_slice (r := rSlL K) sl_list (pv 2) (po_some (pv 3)) po_none) (pa_cons pe_int pa_nil)))))
      (pss_one (ps_ret (pe_make M_Works G_Works (hr.mono (by decide)) rfl mgc_Works b_Works .nil (passes_call (takes_of rfl rfl rfl rfl) (fun _ _ _ _ h => h)) (pa_cons (pe_fld (pv 0) rfl) (pa_cons (pe_lc (own := [("row", 5)]) (g := (gName 5)) (by rfl) nd (pi_list (pe_slice (r := rSlL K) sl_list (pv 2) po_none (po_some (pe_op op_add (pv 4) pe_int)))) (blkOk_by (own := [("row", 5)]) (N := N_law_turned) (sc := defScope s_law_turned) (by decide +kernel)) (fun _ _ _ _ _ => (pg_name (i := 5) nd rfl (by first | exact Or.inl rfl | exact Or.inr rfl))) (fun _ _ _ _ _ => pts_nil) (fun _ _ _ _ _ => (pe_call G__law_beyond (hr.mono (by decide)) rfl mg__law_beyond k__law_beyond b__law_beyond .nil pass0 (pa_cons (pv 5) (pa_cons (pv 3) pa_nil))))) pa_nil))))))) pss_nil)
      (pss_one (ps_ret (pe_make M_Works G_Works (hr.mono (by decide)) rfl mgc_Works b_Works .nil (passes_call (takes_of rfl rfl rfl rfl) (fun _ _ _ _ h => h)) (pa_cons (pe_fld (pv 0) rfl) (pa_cons (pv 2) pa_nil)))))))))), ?_⟩
    have w := show Wp ce E H0 (m_law_turned a0_works a1_cell) _ from w
    unfold m_law_turned at w
    refine q_asgN (K := K) G w (e_cb (e_cons (e_wkr (em_var rfl r0)) ea_nil) a_list) fun rows_1602 F_1603 H_1604 p_1606 g_1605 n_1607 o_1608 w => ?_
    have n0p_1606 := ex_back G.hh n_1607
    have G := G.tr g_1605
    have r0 := Rep.mo (K := K) g_1605.ff r0
    have r1 := Rep.mo (K := K) g_1605.ff r1
    refine q_asgA (K := K) [p_1606] G w (own1 o_1608.f) (own1 o_1608.ls) (own1 n0p_1606) (em_op (e2 (em_var rfl (Rep.mo (fz_ex G.fh) r1)) em_int (o_fdiv ⟨by decide, by decide⟩)) (e_cb (e_cons (em_var rfl (o_1608.lent G.fh (by simp))) ea_nil) a_len) fun _ _ => o_modM) fun at_1611 F_1612 H_1613 v_1615 g_1614 r_1616 w => ?_
    have G := G.tr g_1614
    have r0 := Rep.mo (K := K) g_1614.ff r0
    have r1 := Rep.mo (K := K) g_1614.ff r1
    have o_1608 := o_1608.mo g_1614
    refine q_join (W := (List Row)) (fun s F' H' σ' => σ' = [some v0, some v1, some (.ref p_1606), some v_1615, none, none] ∧ Gr F0 H0 F' H' ∧ Ex F_1612 F' ∧ Own K (T := (List Row)) F' H' p_1606 s) w ?_ ?_
    · rintro s_1620 F_1624 H_1625 σs_1620 ⟨hs_1621, G, e_1622, o_1623⟩ w
      subst hs_1621
      have r0 := Rep.mo (K := K) e_1622 r0
      have r1 := Rep.mo (K := K) e_1622 r1
      have r_1616 := Rep.mo (K := K) e_1622 r_1616
      refine q_join (W := (List Row)) (fun s F' H' σ' => ∃ (p_1630 : Addr), σ' = [some v0, some v1, some (.ref p_1630), some v_1615, none, none] ∧ Gr F0 H0 F' H' ∧ Ex F_1624 F' ∧ Own K (T := (List Row)) F' H' p_1630 s ∧ H0 p_1630 = none) w ?_ ?_
      · rintro s_1629 F_1635 H_1636 σs_1629 ⟨p_1630, hs_1631, G, e_1632, o_1633, n_1634⟩ w
        subst hs_1631
        have r0 := Rep.mo (K := K) e_1632 r0
        have r1 := Rep.mo (K := K) e_1632 r1
        have r_1616 := Rep.mo (K := K) e_1632 r_1616
        refine q_if2A [p_1630] G w (own1 o_1633.f) (own1 o_1633.ls) (t_and (t_of (e2 (e2 (em_var rfl (Rep.mo (fz_ex G.fh) r1)) em_int (o_mod (by decide))) em_int o_eqI)) (t_of (e2 (e_cb (e_cons (em_var rfl (o_1633.lent G.fh (by simp))) ea_nil) a_len) em_int o_lt))) (fun F_1637 H_1638 g_1639 w => ?_) (fun F_1637 H_1638 g_1639 w => ?_)
        · have G := G.tr g_1639
          have r0 := Rep.mo (K := K) g_1639.ff r0
          have r1 := Rep.mo (K := K) g_1639.ff r1
          have o_1633 := o_1633.mo g_1639
          have r_1616 := Rep.mo (K := K) g_1639.ff r_1616
          refine q_asgA (K := K) [p_1630] G w (own1 o_1633.f) (own1 o_1633.ls) (own1 n_1634) (e_cb (e_cons (em_var rfl (o_1633.lent G.fh (by simp))) ea_nil) a_len) fun last_1640 F_1641 H_1642 v_1644 g_1643 r_1645 w => ?_
          have G := G.tr g_1643
          have r0 := Rep.mo (K := K) g_1643.ff r0
          have r1 := Rep.mo (K := K) g_1643.ff r1
          have o_1633 := o_1633.mo g_1643
          have r_1616 := Rep.mo (K := K) g_1643.ff r_1616
          refine q_asgNA (K := K) [p_1630] G w (own1 o_1633.f) (own1 o_1633.ls) (own1 n_1634) (em_op (Ev.nv (em_op (Ev.nv (e_call0 (f := (fun a : ((List Row) × Int × Unit) => m_law_later a.1 a.2.1)) (x := ((cut s_1629 none (some at_1611)), (0 : Int), ())) (e_cons (Ev.nv (e_sl (em_var rfl (o_1633.lent G.fh (by simp))) eo_none (eo_some' (K := K) (em_var rfl (Rep.mo (fz_ex G.fh) r_1616))))) (e_cons em_int ea_nil)))) (Ev.nv (em_lst' (el_cons (em_row (el_cons (e_clw (em_wd (by decide +kernel))) (el_cons (e_cli em_int) (el_nil (α := Cl))))) (el_nil (α := Row))))) fun _ _ => o_cat)) (Ev.nv (e_call0 (f := (fun a : ((List Row) × Int × Unit) => m_law_later a.1 a.2.1)) (x := ((cut s_1629 (some at_1611) none), (0 : Int), ())) (e_cons (Ev.nv (e_sl (em_var rfl (o_1633.lent G.fh (by simp))) (eo_some' (K := K) (em_var rfl (Rep.mo (fz_ex G.fh) r_1616))) eo_none)) (e_cons em_int ea_nil)))) fun _ _ => o_cat) fun rows_1665 F_1666 H_1667 p_1672 g_1668 n_1673 o_1674 w => ?_
          have n0p_1672 := ex_back G.hh n_1673
          have G := G.tr g_1668
          have r0 := Rep.mo (K := K) g_1668.ff r0
          have r1 := Rep.mo (K := K) g_1668.ff r1
          have r_1616 := Rep.mo (K := K) g_1668.ff r_1616
          have r_1645 := Rep.mo (K := K) g_1668.ff r_1645
          have GA := gr_fz (A := [p_1672]) G (own1 n0p_1672)
          exact s_ret0 GA w (em_makeX (f := (fun a : (Int × (List Row) × Unit) => m_Works a.1 a.2.1)) (ea_cons (e_wkp (em_var rfl (Rep.mo (fz_ex G.fh) r0))) (ea_cons (Ev.nv (em_lc (c := (fun x_1677 : Row => (M.ok true))) (e := (fun x_1677 : Row => (m_law_beyond x_1677 at_1611).ne)) (ei_list (Ev.nv (e_sl (em_var rfl (o_1674.lent G.fh (by simp))) eo_none (eo_some' (K := K) (e2 (em_var rfl (Rep.mo (fz_ex G.fh) r_1645)) em_int o_add))))) (tg_name (K := K)) (fun _ _ _ ⟨_, h, _⟩ => by rw [h]; exact wipe1) (fun x_1677 _ _ _ g_1676 ⟨v_1678, h_1680, r_1679⟩ => by subst h_1680; exact t_yes) (fun x_1677 _ _ _ g_1676 ⟨v_1678, h_1680, r_1679⟩ => by subst h_1680; exact (e_call0 (f := (fun a : (Row × Int × Unit) => m_law_beyond a.1 a.2.1)) (x := (x_1677, at_1611, ())) (e_cons (em_var rfl r_1679) (e_cons (em_var rfl (Rep.mo g_1676.ff (Rep.mo (fz_ex G.fh) r_1616))) ea_nil)))))) ea_nil))) fun r F1 H1 v g m p => hQ r F1 H1 v g m p
        · have G := G.tr g_1639
          have r0 := Rep.mo (K := K) g_1639.ff r0
          have r1 := Rep.mo (K := K) g_1639.ff r1
          have o_1633 := o_1633.mo g_1639
          have r_1616 := Rep.mo (K := K) g_1639.ff r_1616
          refine s_next ?_
          refine s_nx ?_
          have GA := gr_fz (A := [p_1630]) G (own1 n_1634)
          exact s_ret0 GA w (em_makeX (f := (fun a : (Int × (List Row) × Unit) => m_Works a.1 a.2.1)) (e_cons (e_wkp (em_var rfl (Rep.mo (fz_ex G.fh) r0))) (e_cons (em_var rfl (o_1633.lent G.fh (by simp))) ea_nil))) fun r F1 H1 v g m p => hQ r F1 H1 v g m p
      · intro P_1689 hk_1688 w
        refine s_if2A [p_1606] G w (own1 o_1623.f) (own1 o_1623.ls) (t_and (t_of (e2 (e2 (em_var rfl (Rep.mo (fz_ex G.fh) r1)) em_int (o_mod (by decide))) em_int o_eqI)) (t_of (e2 (e_cb (e_cons (em_var rfl (o_1623.lent G.fh (by simp))) ea_nil) a_len) em_int o_lt))) (fun F_1626 H_1627 g_1628 w => ?_) (fun F_1626 H_1627 g_1628 w => ?_)
        · have e_1690 : Ex F_1624 F_1626 := g_1628.ff
          have G := G.tr g_1628
          have r0 := Rep.mo (K := K) g_1628.ff r0
          have r1 := Rep.mo (K := K) g_1628.ff r1
          have o_1623 := o_1623.mo g_1628
          have r_1616 := Rep.mo (K := K) g_1628.ff r_1616
          refine s_asgNA (K := K) [p_1606] G w (own1 o_1623.f) (own1 o_1623.ls) (own1 n0p_1606) (em_op (Ev.nv (em_lst' (el_cons (em_row (el_cons (e_clw (em_wd (by decide +kernel))) (el_cons (e_cli (e2 em_int (e2 (e2 (em_var rfl (Rep.mo (fz_ex G.fh) r1)) em_int (o_fdiv ⟨by decide, by decide⟩)) em_int (o_mod (by decide))) o_add)) (el_cons (e_cli em_int) (el_cons (e_cli em_int) (el_nil (α := Cl))))))) (el_nil (α := Row))))) (Ev.nv (e_call0 (f := (fun a : ((List Row) × Int × Unit) => m_law_later a.1 a.2.1)) (x := (s_1620, (1 : Int), ())) (e_cons (em_var rfl (o_1623.lent G.fh (by simp))) (e_cons em_int ea_nil)))) fun _ _ => o_cat) fun rows_1724 F_1725 H_1726 p_1731 g_1727 n_1732 o_1733 w => ?_
          have n0p_1731 := ex_back G.hh n_1732
          have G := G.tr g_1727
          have r0 := Rep.mo (K := K) g_1727.ff r0
          have r1 := Rep.mo (K := K) g_1727.ff r1
          have r_1616 := Rep.mo (K := K) g_1727.ff r_1616
          have e_1690 := Ex.tr e_1690 g_1727.ff
          exact hk_1688 _ w _ _ _ ⟨_, rfl, G, e_1690, o_1733, n0p_1731⟩
        · have e_1690 : Ex F_1624 F_1626 := g_1628.ff
          have G := G.tr g_1628
          have r0 := Rep.mo (K := K) g_1628.ff r0
          have r1 := Rep.mo (K := K) g_1628.ff r1
          have o_1623 := o_1623.mo g_1628
          have r_1616 := Rep.mo (K := K) g_1628.ff r_1616
          refine s_next ?_
          exact hk_1688 _ w _ _ _ ⟨_, rfl, G, e_1690, o_1623, n0p_1606⟩
    · intro P_1736 hk_1735 w
      refine s_if2 G w (t_of (e2 (e2 (em_var rfl r1) em_int (o_mod (by decide))) em_int o_eqI)) (fun F_1617 H_1618 g_1619 w => ?_) (fun F_1617 H_1618 g_1619 w => ?_)
      · have e_1737 : Ex F_1612 F_1617 := g_1619.ff
        have G := G.tr g_1619
        have r0 := Rep.mo (K := K) g_1619.ff r0
        have r1 := Rep.mo (K := K) g_1619.ff r1
        have o_1608 := o_1608.mo g_1619
        have r_1616 := Rep.mo (K := K) g_1619.ff r_1616
        refine s_if2A [p_1606] G w (own1 o_1608.f) (own1 o_1608.ls) (t_of (em_op (em_op (em_op (em_var rfl (o_1608.lent G.fh (by simp))) (em_var rfl (Rep.mo (fz_ex G.fh) r_1616)) fun _ _ => o_ixL) em_int fun _ _ => o_rowix) (e_clw (em_wd (by decide +kernel))) fun _ _ => (o_eqD (by decide)))) (fun F_1744 H_1745 g_1746 w => ?_) (fun F_1744 H_1745 g_1746 w => ?_)
        · have G := G.tr g_1746
          have r0 := Rep.mo (K := K) g_1746.ff r0
          have r1 := Rep.mo (K := K) g_1746.ff r1
          have o_1608 := o_1608.mo g_1746
          have r_1616 := Rep.mo (K := K) g_1746.ff r_1616
          have e_1737 := Ex.tr e_1737 g_1746.ff
          refine s_setl [p_1606] rfl o_1608 n0p_1606 G w (own1 o_1608.f) (own1 o_1608.ls) (em_row (el_cons (e_clw (em_wd (by decide +kernel))) (el_cons (em_cli (em_cb (ea_cons em_int (ea_cons (em_op (em_clI (em_op (em_op (em_var rfl (o_1608.lent G.fh (by simp))) (em_var rfl (Rep.mo (fz_ex G.fh) r_1616)) fun _ _ => o_ixL) em_int fun _ _ => o_rowix)) (e2 (e2 (em_var rfl (Rep.mo (fz_ex G.fh) r1)) em_int (o_fdiv ⟨by decide, by decide⟩)) em_int (o_mod (by decide))) fun _ _ => o_sub) ea_nil)) fun _ => a_max2)) (el_cons (em_op (em_op (em_var rfl (o_1608.lent G.fh (by simp))) (em_var rfl (Rep.mo (fz_ex G.fh) r_1616)) fun _ _ => o_ixL) em_int fun _ _ => o_rowix) (el_cons (em_op (em_op (em_var rfl (o_1608.lent G.fh (by simp))) (em_var rfl (Rep.mo (fz_ex G.fh) r_1616)) fun _ _ => o_ixL) em_int fun _ _ => o_rowix) (el_nil (α := Cl))))))) (em_var rfl (Rep.mo (fz_ex G.fh) r_1616)) fun rows_1749 F_1750 H_1751 e_1752 G o_1753 hO_1754 w => ?_
          have r0 := Rep.mo (K := K) e_1752 r0
          have r1 := Rep.mo (K := K) e_1752 r1
          have r_1616 := Rep.mo (K := K) e_1752 r_1616
          have e_1737 := Ex.tr e_1737 e_1752
          exact hk_1735 _ w _ _ _ ⟨rfl, G, e_1737, o_1753⟩
        · have G := G.tr g_1746
          have r0 := Rep.mo (K := K) g_1746.ff r0
          have r1 := Rep.mo (K := K) g_1746.ff r1
          have o_1608 := o_1608.mo g_1746
          have r_1616 := Rep.mo (K := K) g_1746.ff r_1616
          have e_1737 := Ex.tr e_1737 g_1746.ff
          refine s_setl [] rfl o_1608 n0p_1606 G w (fun _ m => nomatch m) (fun _ m => nomatch m) (em_row (el_cons (e_clw (em_wd (by decide +kernel))) (el_cons (e_cli (e2 (e2 (em_var rfl (Rep.mo (fz_ex G.fh) r1)) em_int (o_fdiv ⟨by decide, by decide⟩)) em_int (o_mod (by decide)))) (el_nil (α := Cl))))) (em_var rfl (Rep.mo (fz_ex G.fh) r_1616)) fun rows_1786 F_1787 H_1788 e_1789 G o_1790 hO_1791 w => ?_
          have r0 := Rep.mo (K := K) e_1789 r0
          have r1 := Rep.mo (K := K) e_1789 r1
          have r_1616 := Rep.mo (K := K) e_1789 r_1616
          have e_1737 := Ex.tr e_1737 e_1789
          exact hk_1735 _ w _ _ _ ⟨rfl, G, e_1737, o_1790⟩
      · have e_1737 : Ex F_1612 F_1617 := g_1619.ff
        have G := G.tr g_1619
        have r0 := Rep.mo (K := K) g_1619.ff r0
        have r1 := Rep.mo (K := K) g_1619.ff r1
        have o_1608 := o_1608.mo g_1619
        have r_1616 := Rep.mo (K := K) g_1619.ff r_1616
        refine s_next ?_
        exact hk_1735 _ w _ _ _ ⟨rfl, G, e_1737, o_1608⟩
/-! ### _law_bin -/
abbrev s_law_bin : Stmt := topS 34
abbrev N_law_bin : List Str := ["rows", "row", "size"]
theorem sc_law_bin : FnScope N_law_bin ["rows", "row", "size"] (defScope s_law_bin) := ⟨rfl, rfl, rfl, by decide +kernel, rfl, by decide +kernel, by decide +kernel⟩
abbrev sp_law_bin (K : PySem.W.Frag) (ce : Ce) : Sp := SpF0 ce (RC K (α := (List Row)) (RC K (α := Int) (RC K (α := Int) R0))) (rv K (ρ := Int)) (fun a : ((List Row) × Int × Int × Unit) => m_law_bin a.1 a.2.1 a.2.2.1)
theorem ok_law_bin {f : Addr} {fd : FuncData} (FF : Fun K "_law_bin" "_law_bin" s_law_bin f fd) (z_int : mg "int" = none) : FnOk P w K mg base CX0 1 f fd ["rows", "row", "size"] (sp_law_bin K ce) := by
  refine FF.ok sc_law_bin (fun vs H0 Q E h => ?_) (fun cdv A outer s H0 vs Q E hr h => ?_)
  · obtain ⟨F0, ⟨a0_rows, a1_row, a2_size, _⟩, e0, ⟨v0, _, rfl, r0, ⟨v1, _, rfl, r1, ⟨v2, _, rfl, r2, rfl⟩⟩⟩, w⟩ := h
    rfl
  · obtain ⟨F0, ⟨a0_rows, a1_row, a2_size, _⟩, e0, ⟨v0, _, rfl, r0, ⟨v1, _, rfl, r1, ⟨v2, _, rfl, r2, rfl⟩⟩⟩, w⟩ := h
    have w := wp_post w
    have G := Gr.rf e0
    have nd := sc_law_bin.nd
    have hQ : ∀ r F1 H1 v, Gr F0 H0 F1 H1 → (rv K (ρ := Int)) F0 H0 F1 H1 v r → Fin (rv K (ρ := Int)) F0 H0 Q r → Q v H1 := fun r F1 H1 v g m p => p F1 H1 v g m
    refine ⟨_, (pss_cons (ps_while (by first | exact PassesOwn.never | exact passes_of rfl) (pt_cmpR (r := rEqD K) (op_eqD hr.units) (pe_ix (r := rIxT K) ix_tup (pe_ix (r := rIxL K) ix_list (pv 0) (pv 1) (fun _ _ => rfl)) pe_int (fun _ _ => rfl)) pe_str (nomark _)) (pss_one (ps_set (i := 1) nd rfl (by first | exact Or.inl rfl | exact Or.inr rfl) (pe_ix (r := rIxL K) ix_list (pe_lst (pa_cons (pe_ix (r := rIxT K) ix_tup (pe_ix (r := rIxL K) ix_list (pv 0) (pv 1) (fun _ _ => rfl)) pe_int (fun _ _ => rfl)) (pa_cons (pe_ix (r := rIxT K) ix_tup (pe_ix (r := rIxL K) ix_list (pv 0) (pv 1) (fun _ _ => rfl)) pe_int (fun _ _ => rfl)) pa_nil))) (pe_callTy call_int1 (by rfl) z_int (by decide +kernel) (pa_cons (pe_cmpR op_le (pv 2) (pe_ix (r := rIxT K) ix_tup (pe_ix (r := rIxL K) ix_list (pv 0) (pv 1) (fun _ _ => rfl)) pe_int (fun _ _ => rfl)) (nomark _)) pa_nil)) (fun _ _ => rfl)))))
      (pss_one (ps_ret (pe_ix (r := rIxT K) ix_tup (pe_ix (r := rIxL K) ix_list (pv 0) (pv 1) (fun _ _ => rfl)) pe_int (fun _ _ => rfl))))), ?_⟩
    have w := show Wp ce E0 H0 (m_law_bin a0_rows a1_row a2_size) _ from w
    unfold m_law_bin at w
    refine q_while (S := Int) (fun s F' H' σ' => ∃ (v_1875 : V), σ' = [some v0, some v_1875, some v2] ∧ Gr F0 H0 F' H' ∧ Ex F0 F' ∧ rp (α := Int) K F' v_1875 s) ⟨_, rfl, G, Ex.rf _, r1⟩ (fun _ _ _ _ ⟨_, _, G, _⟩ => G) w ?_ ?_ ?_ ?_
    · rintro s_1876 F_1877 H_1878 _ ⟨v_1875, hs_1880, G, e_1881, r_1882⟩
      subst hs_1880
      have r0 := Rep.mo (K := K) e_1881 r0
      have r2 := Rep.mo (K := K) e_1881 r2
      unfold m_law_bin_c1
      exact (t_of (em_op (em_op (em_op (em_var rfl r0) (em_var rfl r_1882) fun _ _ => o_ixL) em_int fun _ _ => o_rowix) (e_clw (em_wd (by decide +kernel))) fun _ _ => (o_eqD (by decide))))
    · rintro s_1876 _ _ _ _ _ ⟨v_1875, hs_1889, G, e_1890, r_1891⟩ g_1892
      subst hs_1889
      exact ⟨_, rfl, G.tr g_1892, Ex.tr e_1890 g_1892.ff, Rep.mo (K := K) g_1892.ff r_1891⟩
    · rintro s_1876 F_1893 H_1894 _ ⟨v_1875, hs_1895, G, e_1896, r_1897⟩ D_1902 P_1903 hrt_1904 hN_1898 hC_1899 hB_1900 hP_1901 w
      subst hs_1895
      have r0 := Rep.mo (K := K) e_1896 r0
      have r2 := Rep.mo (K := K) e_1896 r2
      have hQ : ∀ r F1 H1 v, Gr F0 H0 F1 H1 → (rv K (ρ := Int)) F0 H0 F1 H1 v r → P_1903 (.rt r) → D_1902.rt v H1 := fun r F1 H1 v g m p => by rw [hrt_1904]; exact hQ r F1 H1 v g m (hP_1901 _ p)
      unfold m_law_bin_b1 at w
      refine s_asg (K := K) G w (em_op (Ev.nv (em_lst' (el_cons (em_clI (em_op (em_op (em_var rfl r0) (em_var rfl r_1897) fun _ _ => o_ixL) em_int fun _ _ => o_rowix)) (el_cons (em_clI (em_op (em_op (em_var rfl r0) (em_var rfl r_1897) fun _ _ => o_ixL) em_int fun _ _ => o_rowix)) (el_nil (α := Int)))))) (em_cb (ea_cons (em_op (em_var rfl r2) (em_clI (em_op (em_op (em_var rfl r0) (em_var rfl r_1897) fun _ _ => o_ixL) em_int fun _ _ => o_rowix)) fun _ _ => o_le) ea_nil) fun _ => a_intB) fun _ _ => o_ixL) fun row_1937 F_1938 H_1939 v_1941 g_1940 r_1942 w => ?_
      have G := G.tr g_1940
      have r0 := Rep.mo (K := K) g_1940.ff r0
      have r2 := Rep.mo (K := K) g_1940.ff r2
      have e_1896 := Ex.tr e_1896 g_1940.ff
      exact hN_1898 _ w _ _ _ ⟨_, rfl, G, e_1896, r_1942⟩
    · rintro s_1946 F_1947 H_1948 _ ⟨v_1875, hs_1943, G, e_1944, r_1945⟩ w
      subst hs_1943
      have r0 := Rep.mo (K := K) e_1944 r0
      have r2 := Rep.mo (K := K) e_1944 r2
      exact s_ret0 G w (em_clI (em_op (em_op (em_var rfl r0) (em_var rfl r_1945) fun _ _ => o_ixL) em_int fun _ _ => o_rowix)) fun r F1 H1 v g m p => hQ r F1 H1 v g m p
/-! ### _law_due -/
abbrev s_law_due : Stmt := topS 38
abbrev N_law_due : List Str := ["one", "other", "sizes", "told", "size"]
theorem sc_law_due : FnScope N_law_due ["one", "other"] (defScope s_law_due) := ⟨rfl, rfl, rfl, by decide +kernel, rfl, by decide +kernel, by decide +kernel⟩
abbrev sp_law_due (K : PySem.W.Frag) (ce : Ce) : Sp := SpF0 ce (RC K (α := Wk) (RC K (α := Wk) R0)) (rv K (ρ := (Option Int))) (fun a : (Wk × Wk × Unit) => m_law_due a.1 a.2.1)
theorem ok_law_due {f : Addr} {fd : FuncData} (FF : Fun K "_law_due" "_law_due" s_law_due f fd) {a__law_bin : Addr} {d__law_bin : FuncData} (G__law_bin : FnOk P w K mg base CX0 1 a__law_bin d__law_bin ["rows", "row", "size"] (sp_law_bin K ce)) (mg__law_bin : mg "_law_bin" = some (.ref a__law_bin)) (k__law_bin : PySem.W.keepIn K (.ref a__law_bin) = true) (b__law_bin : Binds K d__law_bin ["rows", "row", "size"] []) (z_sorted : mg "sorted" = none) : FnOk P w K mg base CX0 2 f fd ["one", "other"] (sp_law_due K ce) := by
  refine FF.ok sc_law_due (fun vs H0 Q E h => ?_) (fun cdv A outer s H0 vs Q E hr h => ?_)
  · obtain ⟨F0, ⟨a0_one, a1_other, _⟩, e0, ⟨v0, _, rfl, r0, ⟨v1, _, rfl, r1, rfl⟩⟩, w⟩ := h
    rfl
  · obtain ⟨F0, ⟨a0_one, a1_other, _⟩, e0, ⟨v0, _, rfl, r0, ⟨v1, _, rfl, r1, rfl⟩⟩, w⟩ := h
    have w := wp_post w
    have G := Gr.rf e0
    have nd := sc_law_due.nd
    have hQ : ∀ r F1 H1 v, Gr F0 H0 F1 H1 → (rv K (ρ := (Option Int))) F0 H0 F1 H1 v r → Fin (rv K (ρ := (Option Int))) F0 H0 Q r → Q v H1 := fun r F1 H1 v g m p => p F1 H1 v g m
    refine ⟨_, (pss_cons (ps_set (i := 2) nd rfl (by first | exact Or.inl rfl | exact Or.inr rfl) (pe_lst (pa_cons pe_int pa_nil)))
      (pss_cons (ps_for (by first | exact PassesOwn.never | exact passes_of rfl) rfl (pi_list (pe_op op_cat (pe_fld (pv 0) rfl) (pe_fld (pv 1) rfl))) (pg_name (i := 3) nd rfl (by first | exact Or.inl rfl | exact Or.inr rfl)) (pss_one (ps_if (pt_cmpR (r := rEqD K) (op_eqD hr.units) (pe_ix (r := rIxT K) ix_tup (pv 3) pe_int (fun _ _ => rfl)) pe_str (nomark _)) (pss_one (ps_set (i := 2) nd rfl (by first | exact Or.inl rfl | exact Or.inr rfl) (pe_op op_cat (pv 2) (pe_lst (pa_cons (pe_ix (r := rIxT K) ix_tup (pv 3) pe_int (fun _ _ => rfl)) (pa_cons (pe_op op_add (pe_ix (r := rIxT K) ix_tup (pv 3) pe_int (fun _ _ => rfl)) pe_int) pa_nil)))))) pss_nil)))
      (pss_cons (ps_for (by first | exact PassesOwn.never | exact passes_of rfl) rfl (pi_list (pe_callB (r := rSortedI K) cr_sortedI (by rfl) z_sorted (by decide +kernel) (pa_cons (pv 2) pa_nil))) (pg_name (i := 4) nd rfl (by first | exact Or.inl rfl | exact Or.inr rfl)) (pss_one (ps_if (pt_cmpR op_ne (pe_call G__law_bin (hr.mono (by decide)) rfl mg__law_bin k__law_bin b__law_bin .nil pass0 (pa_cons (pe_fld (pv 0) rfl) (pa_cons pe_int (pa_cons (pv 4) pa_nil)))) (pe_call G__law_bin (hr.mono (by decide)) rfl mg__law_bin k__law_bin b__law_bin .nil pass0 (pa_cons (pe_fld (pv 1) rfl) (pa_cons pe_int (pa_cons (pv 4) pa_nil)))) (nomark _)) (pss_one (ps_ret (pv 4))) pss_nil)))
      (pss_one (ps_ret pe_non))))), ?_⟩
    have w := show Wp ce E0 H0 (m_law_due a0_one a1_other) _ from w
    unfold m_law_due at w
    refine q_asg (K := K) G w (Ev.nv (e_lst (e_lcons em_int (el_nil (α := Int))) (by simp))) fun sizes_2056 F_2057 H_2058 v_2060 g_2059 r_2061 w => ?_
    have G := G.tr g_2059
    have r0 := Rep.mo (K := K) g_2059.ff r0
    have r1 := Rep.mo (K := K) g_2059.ff r1
    refine q_for (S := (List Int)) (fun s F' H' σ' => ∃ (v_2064 : V) (z_2065 : Option V), σ' = [some v0, some v1, some v_2064, z_2065, none] ∧ Gr F0 H0 F' H' ∧ Ex F_2057 F' ∧ rp (α := (List Int)) K F' v_2064 s) G (ei_list (Ev.nv (em_op (e_wkr (em_var rfl r0)) (e_wkr (em_var rfl r1)) fun _ _ => o_cat))) (tg_name (K := K)) w (fun _ _ g_2157 => ⟨_, _, rfl, G.tr g_2157, g_2157.ff, Rep.mo (K := K) g_2157.ff r_2061⟩) (fun _ _ _ _ ⟨_, _, _, G, _⟩ => G) ?_ ?_
    · rintro x_2067 s_2066 F_2068 H_2069 _ ⟨v_2064, z_2065, hs_2070, G, e_2071, r_2072⟩ F_2073 H_2074 σ_2075 g_2076 ⟨v_2084, h_2086, r_2085⟩ D_2081 P_2082 hrt_2083 hN_2077 hC_2078 hB_2079 hP_2080 w
      subst hs_2070
      subst h_2086
      have r0 := Rep.mo (K := K) e_2071 r0
      have r1 := Rep.mo (K := K) e_2071 r1
      have G := G.tr g_2076
      have r0 := Rep.mo (K := K) g_2076.ff r0
      have r1 := Rep.mo (K := K) g_2076.ff r1
      have r_2072 := Rep.mo (K := K) g_2076.ff r_2072
      have e_2071 := Ex.tr e_2071 g_2076.ff
      have e_2087 := Ex.rf F_2073
      have hQ : ∀ r F1 H1 v, Gr F0 H0 F1 H1 → (rv K (ρ := (Option Int))) F0 H0 F1 H1 v r → P_2082 (.rt r) → D_2081.rt v H1 := fun r F1 H1 v g m p => by rw [hrt_2083]; exact hQ r F1 H1 v g m (hP_2080 _ p)
      unfold m_law_due_b1 at w
      refine s_if2 G w (t_of (em_op (em_op (em_var rfl r_2085) em_int fun _ _ => o_rowix) (e_clw (em_wd (by decide +kernel))) fun _ _ => (o_eqD (by decide)))) (fun F_2092 H_2093 g_2094 w => ?_) (fun F_2092 H_2093 g_2094 w => ?_)
      · have G := G.tr g_2094
        have r0 := Rep.mo (K := K) g_2094.ff r0
        have r1 := Rep.mo (K := K) g_2094.ff r1
        have r_2072 := Rep.mo (K := K) g_2094.ff r_2072
        have r_2085 := Rep.mo (K := K) g_2094.ff r_2085
        have e_2071 := Ex.tr e_2071 g_2094.ff
        have e_2087 := Ex.tr e_2087 g_2094.ff
        refine s_asg (K := K) G w (Ev.nv (em_op (em_var rfl r_2072) (Ev.nv (em_lst' (el_cons (em_clI (em_op (em_var rfl r_2085) em_int fun _ _ => o_rowix)) (el_cons (em_op (em_clI (em_op (em_var rfl r_2085) em_int fun _ _ => o_rowix)) em_int fun _ _ => o_add) (el_nil (α := Int)))))) fun _ _ => o_cat)) fun sizes_2108 F_2109 H_2110 v_2112 g_2111 r_2113 w => ?_
        have G := G.tr g_2111
        have r0 := Rep.mo (K := K) g_2111.ff r0
        have r1 := Rep.mo (K := K) g_2111.ff r1
        have r_2085 := Rep.mo (K := K) g_2111.ff r_2085
        have e_2071 := Ex.tr e_2071 g_2111.ff
        have e_2087 := Ex.tr e_2087 g_2111.ff
        exact hN_2077 _ w _ _ _ e_2087 ⟨_, _, rfl, G, e_2071, r_2113⟩
      · have G := G.tr g_2094
        have r0 := Rep.mo (K := K) g_2094.ff r0
        have r1 := Rep.mo (K := K) g_2094.ff r1
        have r_2072 := Rep.mo (K := K) g_2094.ff r_2072
        have r_2085 := Rep.mo (K := K) g_2094.ff r_2085
        have e_2071 := Ex.tr e_2071 g_2094.ff
        have e_2087 := Ex.tr e_2087 g_2094.ff
        refine s_next ?_
        exact hN_2077 _ w _ _ _ e_2087 ⟨_, _, rfl, G, e_2071, r_2072⟩
    · rintro s_2117 F_2118 H_2119 _ e_2120 ⟨v_2064, z_2065, hs_2114, G, e_2115, r_2116⟩ w
      subst hs_2114
      have r0 := Rep.mo (K := K) e_2115 r0
      have r1 := Rep.mo (K := K) e_2115 r1
      refine q_for (S := Unit) (fun s F' H' σ' => ∃ (z_2121 : Option V), σ' = [some v0, some v1, some v_2064, z_2065, z_2121] ∧ Gr F0 H0 F' H' ∧ Ex F_2118 F') G (ei_list (Ev.nv (e_cb (e_cons (em_var rfl r_2116) ea_nil) a_sorted))) (tg_name (K := K)) w (fun _ _ g_2155 => ⟨_, rfl, G.tr g_2155, g_2155.ff⟩) (fun _ _ _ _ ⟨_, _, G, _⟩ => G) ?_ ?_
      · rintro x_2123 s_2122 F_2124 H_2125 _ ⟨z_2121, hs_2126, G, e_2127⟩ F_2128 H_2129 σ_2130 g_2131 ⟨v_2139, h_2141, r_2140⟩ D_2136 P_2137 hrt_2138 hN_2132 hC_2133 hB_2134 hP_2135 w
        subst hs_2126
        subst h_2141
        have r0 := Rep.mo (K := K) e_2127 r0
        have r1 := Rep.mo (K := K) e_2127 r1
        have r_2116 := Rep.mo (K := K) e_2127 r_2116
        have G := G.tr g_2131
        have r0 := Rep.mo (K := K) g_2131.ff r0
        have r1 := Rep.mo (K := K) g_2131.ff r1
        have r_2116 := Rep.mo (K := K) g_2131.ff r_2116
        have e_2127 := Ex.tr e_2127 g_2131.ff
        have e_2142 := Ex.rf F_2128
        have hQ : ∀ r F1 H1 v, Gr F0 H0 F1 H1 → (rv K (ρ := (Option Int))) F0 H0 F1 H1 v r → P_2137 (.rt r) → D_2136.rt v H1 := fun r F1 H1 v g m p => by rw [hrt_2138]; exact hQ r F1 H1 v g m (hP_2135 _ p)
        unfold m_law_due_b2 at w
        refine s_if2 G w (t_of (em_op (e_call0 (f := (fun a : ((List Row) × Int × Int × Unit) => m_law_bin a.1 a.2.1 a.2.2.1)) (x := (a0_one.rows, (0 : Int), x_2123, ())) (e_cons (e_wkr (em_var rfl r0)) (e_cons em_int (e_cons (em_var rfl r_2140) ea_nil)))) (e_call0 (f := (fun a : ((List Row) × Int × Int × Unit) => m_law_bin a.1 a.2.1 a.2.2.1)) (x := (a1_other.rows, (0 : Int), x_2123, ())) (e_cons (e_wkr (em_var rfl r1)) (e_cons em_int (e_cons (em_var rfl r_2140) ea_nil)))) fun _ _ => o_neI)) (fun F_2145 H_2146 g_2147 w => ?_) (fun F_2145 H_2146 g_2147 w => ?_)
        · have G := G.tr g_2147
          have r0 := Rep.mo (K := K) g_2147.ff r0
          have r1 := Rep.mo (K := K) g_2147.ff r1
          have r_2116 := Rep.mo (K := K) g_2147.ff r_2116
          have r_2140 := Rep.mo (K := K) g_2147.ff r_2140
          have e_2127 := Ex.tr e_2127 g_2147.ff
          have e_2142 := Ex.tr e_2142 g_2147.ff
          exact s_ret G w (e_some (em_var rfl r_2140)) fun r F1 H1 v g m p => hQ r F1 H1 v g m p
        · have G := G.tr g_2147
          have r0 := Rep.mo (K := K) g_2147.ff r0
          have r1 := Rep.mo (K := K) g_2147.ff r1
          have r_2116 := Rep.mo (K := K) g_2147.ff r_2116
          have r_2140 := Rep.mo (K := K) g_2147.ff r_2140
          have e_2127 := Ex.tr e_2127 g_2147.ff
          have e_2142 := Ex.tr e_2142 g_2147.ff
          refine s_next ?_
          exact hN_2132 _ w _ _ _ e_2142 ⟨_, rfl, G, e_2127⟩
      · rintro s_2151 F_2152 H_2153 _ e_2154 ⟨z_2121, hs_2149, G, e_2150⟩ w
        subst hs_2149
        have r0 := Rep.mo (K := K) e_2150 r0
        have r1 := Rep.mo (K := K) e_2150 r1
        have r_2116 := Rep.mo (K := K) e_2150 r_2116
        exact s_ret0 G w (em_none (α := Int)) fun r F1 H1 v g m p => hQ r F1 H1 v g m p
/-! ### pieces_of -/
abbrev s_pieces_of : Stmt := topS 12
abbrev N_pieces_of : List Str := ["size", "parts", "pairs", "pair"]
theorem sc_pieces_of : FnScope N_pieces_of ["size", "parts"] (defScope s_pieces_of) := ⟨rfl, rfl, rfl, by decide +kernel, rfl, by decide +kernel, by decide +kernel⟩
abbrev sp_pieces_of (K : PySem.W.Frag) (ce : Ce) : Sp := SpF0 ce (RC K (α := Int) (RC K (α := Int) R0)) (rn K (α := (Int × Int))) (fun a : (Int × Int × Unit) => m_pieces_of a.1 a.2.1)
theorem ok_pieces_of {f : Addr} {fd : FuncData} (FF : Fun K "pieces_of" "pieces_of" s_pieces_of f fd) : FnOk P w K mg base CX0 1 f fd ["size", "parts"] (sp_pieces_of K ce) := by
  refine FF.ok sc_pieces_of (fun vs H0 Q E h => ?_) (fun cdv A outer s H0 vs Q E hr h => ?_)
  · obtain ⟨F0, ⟨a0_size, a1_parts, _⟩, e0, ⟨v0, _, rfl, r0, ⟨v1, _, rfl, r1, rfl⟩⟩, w⟩ := h
    rfl
  · obtain ⟨F0, ⟨a0_size, a1_parts, _⟩, e0, ⟨v0, _, rfl, r0, ⟨v1, _, rfl, r1, rfl⟩⟩, w⟩ := h
    have w := wp_post w
    have G := Gr.rf e0
    have nd := sc_pieces_of.nd
    have hQ : ∀ r F1 H1 v, Gr F0 H0 F1 H1 → (rn K (α := (Int × Int))) F0 H0 F1 H1 v r → Fin (rn K (α := (Int × Int))) F0 H0 Q r → Q v H1 := fun r F1 H1 v g m p => p F1 H1 v g m
    refine ⟨_, (pss_cons (ps_set (i := 2) nd rfl (by first | exact Or.inl rfl | exact Or.inr rfl) (pe_lst (pa_cons (pe_tup (pa_cons (pe_op op_fdivW (pv 0) (pv 1)) (pa_cons (pe_op op_sub (pv 1) (pe_op op_mod (pv 0) (pv 1))) pa_nil))) (pa_cons (pe_tup (pa_cons (pe_op op_add (pe_op op_fdivW (pv 0) (pv 1)) pe_int) (pa_cons (pe_op op_mod (pv 0) (pv 1)) pa_nil))) pa_nil))))
      (pss_one (ps_ret (pe_lc (own := [("pair", 3)]) (g := (gName 3)) (by rfl) nd (pi_list (pv 2)) (blkOk_by (own := [("pair", 3)]) (N := N_pieces_of) (sc := defScope s_pieces_of) (by decide +kernel)) (fun _ _ _ _ _ => (pg_name (i := 3) nd rfl (by first | exact Or.inl rfl | exact Or.inr rfl))) (fun _ _ _ _ _ => (pts_one (pt_cmpR op_gt (pe_op op_mulW (pe_ix (r := rIxT K) ix_tup (pv 3) pe_int (fun _ _ => rfl)) (pe_ix (r := rIxT K) ix_tup (pv 3) pe_int (fun _ _ => rfl))) pe_int (nomark _)))) (fun _ _ _ _ _ => (pv 3)))))), ?_⟩
    have w := show Wp ce E0 H0 (m_pieces_of a0_size a1_parts) _ from w
    unfold m_pieces_of at w
    refine q_asg (K := K) G w (Ev.nv (em_lst' (el_cons (em_tup2 (em_op (em_var rfl r0) (em_var rfl r1) fun _ _ => o_fdivM) (em_op (em_var rfl r1) (em_op (em_var rfl r0) (em_var rfl r1) fun _ _ => o_modM) fun _ _ => o_sub)) (el_cons (em_tup2 (em_op (em_op (em_var rfl r0) (em_var rfl r1) fun _ _ => o_fdivM) em_int fun _ _ => o_add) (em_op (em_var rfl r0) (em_var rfl r1) fun _ _ => o_modM)) (el_nil (α := (Int × Int))))))) fun pairs_2249 F_2250 H_2251 v_2253 g_2252 r_2254 w => ?_
    have G := G.tr g_2252
    have r0 := Rep.mo (K := K) g_2252.ff r0
    have r1 := Rep.mo (K := K) g_2252.ff r1
    exact s_retN0 G w (em_lc (c := (fun x_2256 : (Int × Int) => (((M.ok x_2256.1).bind fun x_2259 => (M.ok x_2256.2).bind fun y_2260 => mulM x_2259 y_2260).bind fun x_2261 => (M.ok (0 : Int)).bind fun y_2262 => .ok (decide (y_2262 < x_2261))))) (e := (fun x_2256 : (Int × Int) => (M.ok x_2256))) (ei_list (em_var rfl r_2254)) (tg_name (K := K)) (fun _ _ _ ⟨_, h, _⟩ => by rw [h]; exact wipe1) (fun x_2256 _ _ _ g_2255 ⟨v_2257, h_2263, r_2258⟩ => by subst h_2263; exact (t_of (em_op (em_op (e2 (em_var rfl r_2258) em_int (o_fst rfl)) (e2 (em_var rfl r_2258) em_int (o_snd rfl)) fun _ _ => o_mul) em_int fun _ _ => o_gt))) (fun x_2256 _ _ _ g_2255 ⟨v_2257, h_2263, r_2258⟩ => by subst h_2263; exact (em_var rfl r_2258))) fun r F1 H1 v g m p => hQ r F1 H1 v g m p
/-! ### goes_on -/
abbrev s_goes_on : Stmt := topS 13
abbrev N_goes_on : List Str := ["works", "row", "size", "told", "piece", "many"]
theorem sc_goes_on : FnScope N_goes_on ["works", "row", "size"] (defScope s_goes_on) := ⟨rfl, rfl, rfl, by decide +kernel, rfl, by decide +kernel, by decide +kernel⟩
abbrev sp_goes_on (K : PySem.W.Frag) (ce : Ce) : Sp := SpF0 ce (RC K (α := Wk) (RC K (α := Int) (RC K (α := Int) R0))) (rn K (α := (T3 Int Int Int))) (fun a : (Wk × Int × Int × Unit) => m_goes_on a.1 a.2.1 a.2.2.1)
theorem ok_goes_on {f : Addr} {fd : FuncData} (FF : Fun K "goes_on" "goes_on" s_goes_on f fd) {a_pieces_of : Addr} {d_pieces_of : FuncData} (G_pieces_of : FnOk P w K mg base CX0 1 a_pieces_of d_pieces_of ["size", "parts"] (sp_pieces_of K ce)) (mg_pieces_of : mg "pieces_of" = some (.ref a_pieces_of)) (k_pieces_of : PySem.W.keepIn K (.ref a_pieces_of) = true) (b_pieces_of : Binds K d_pieces_of ["size", "parts"] []) : FnOk P w K mg base CX0 2 f fd ["works", "row", "size"] (sp_goes_on K ce) := by
  refine FF.ok sc_goes_on (fun vs H0 Q E h => ?_) (fun cdv A outer s H0 vs Q E hr h => ?_)
  · obtain ⟨F0, ⟨a0_works, a1_row, a2_size, _⟩, e0, ⟨v0, _, rfl, r0, ⟨v1, _, rfl, r1, ⟨v2, _, rfl, r2, rfl⟩⟩⟩, w⟩ := h
    rfl
  · obtain ⟨F0, ⟨a0_works, a1_row, a2_size, _⟩, e0, ⟨v0, _, rfl, r0, ⟨v1, _, rfl, r1, ⟨v2, _, rfl, r2, rfl⟩⟩⟩, w⟩ := h
    have w := wp_post w
    have G := Gr.rf e0
    have nd := sc_goes_on.nd
    have hQ : ∀ r F1 H1 v, Gr F0 H0 F1 H1 → (rn K (α := (T3 Int Int Int))) F0 H0 F1 H1 v r → Fin (rn K (α := (T3 Int Int Int))) F0 H0 Q r → Q v H1 := fun r F1 H1 v g m p => p F1 H1 v g m
    refine ⟨_, (pss_cons (ps_set (i := 3) nd rfl (by first | exact Or.inl rfl | exact Or.inr rfl) (pe_ix (r := rIxL K) ix_list (pe_fld (pv 0) rfl) (pv 1) (fun _ _ => rfl)))
      (pss_cons (ps_if (pt_cmpR (r := rEqD K) (op_eqD hr.units) (pe_ix (r := rIxT K) ix_tup (pv 3) pe_int (fun _ _ => rfl)) pe_str (nomark _)) (pss_one (ps_ret (pe_lst pa_nil))) pss_nil)
      (pss_cons (ps_if (pt_cmpR (r := rEqD K) (op_eqD hr.units) (pe_ix (r := rIxT K) ix_tup (pv 3) pe_int (fun _ _ => rfl)) pe_str (nomark _)) (pss_one (ps_ret (pe_lc (own := [("piece", 4), ("many", 5)]) (g := (gTup K 2 (gCons (gName 4) (gCons (gName 5) gNil)))) (by rfl) nd (pi_list (pe_call G_pieces_of (hr.mono (by decide)) rfl mg_pieces_of k_pieces_of b_pieces_of .nil pass0 (pa_cons (pv 2) (pa_cons (pe_fld (pv 0) rfl) pa_nil)))) (blkOk_by (own := [("piece", 4), ("many", 5)]) (N := N_goes_on) (sc := defScope s_goes_on) (by decide +kernel)) (fun _ _ _ _ _ => (pg_tup rfl (pgs_cons (pg_name (i := 4) nd rfl (by first | exact Or.inl rfl | exact Or.inr rfl)) (pgs_cons (pg_name (i := 5) nd rfl (by first | exact Or.inl rfl | exact Or.inr rfl)) pgs_nil)))) (fun _ _ _ _ _ => pts_nil) (fun _ _ _ _ _ => (pe_tup (pa_cons (pe_ix (r := rIxT K) ix_tup (pv 3) pe_int (fun _ _ => rfl)) (pa_cons (pv 4) (pa_cons (pv 5) pa_nil)))))))) pss_nil)
      (pss_cons (ps_if (pt_cmpR op_le (pv 2) (pe_ix (r := rIxT K) ix_tup (pv 3) pe_int (fun _ _ => rfl)) (nomark _)) (pss_one (ps_ret (pe_lst (pa_cons (pe_tup (pa_cons (pe_ix (r := rIxT K) ix_tup (pv 3) pe_int (fun _ _ => rfl)) (pa_cons (pv 2) (pa_cons pe_int pa_nil)))) pa_nil)))) pss_nil)
      (pss_one (ps_ret (pe_lst (pa_cons (pe_tup (pa_cons (pe_ix (r := rIxT K) ix_tup (pv 3) pe_int (fun _ _ => rfl)) (pa_cons (pv 2) (pa_cons pe_int pa_nil)))) pa_nil)))))))), ?_⟩
    have w := show Wp ce E0 H0 (m_goes_on a0_works a1_row a2_size) _ from w
    unfold m_goes_on at w
    refine q_asg (K := K) G w (em_op (e_wkr (em_var rfl r0)) (em_var rfl r1) fun _ _ => o_ixL) fun told_2325 F_2326 H_2327 v_2329 g_2328 r_2330 w => ?_
    have G := G.tr g_2328
    have r0 := Rep.mo (K := K) g_2328.ff r0
    have r1 := Rep.mo (K := K) g_2328.ff r1
    have r2 := Rep.mo (K := K) g_2328.ff r2
    refine q_if2 G w (t_of (em_op (em_op (em_var rfl r_2330) em_int fun _ _ => o_rowix) (e_clw (em_wd (by decide +kernel))) fun _ _ => (o_eqD (by decide)))) (fun F_2335 H_2336 g_2337 w => ?_) (fun F_2335 H_2336 g_2337 w => ?_)
    · have G := G.tr g_2337
      have r0 := Rep.mo (K := K) g_2337.ff r0
      have r1 := Rep.mo (K := K) g_2337.ff r1
      have r2 := Rep.mo (K := K) g_2337.ff r2
      have r_2330 := Rep.mo (K := K) g_2337.ff r_2330
      exact s_retN0 G w (e_lst (el_nil (α := (T3 Int Int Int))) (by decide)) fun r F1 H1 v g m p => hQ r F1 H1 v g m p
    · have G := G.tr g_2337
      have r0 := Rep.mo (K := K) g_2337.ff r0
      have r1 := Rep.mo (K := K) g_2337.ff r1
      have r2 := Rep.mo (K := K) g_2337.ff r2
      have r_2330 := Rep.mo (K := K) g_2337.ff r_2330
      refine s_next ?_
      refine s_nx ?_
      refine q_if2 G w (t_of (em_op (em_op (em_var rfl r_2330) em_int fun _ _ => o_rowix) (e_clw (em_wd (by decide +kernel))) fun _ _ => (o_eqD (by decide)))) (fun F_2342 H_2343 g_2344 w => ?_) (fun F_2342 H_2343 g_2344 w => ?_)
      · have G := G.tr g_2344
        have r0 := Rep.mo (K := K) g_2344.ff r0
        have r1 := Rep.mo (K := K) g_2344.ff r1
        have r2 := Rep.mo (K := K) g_2344.ff r2
        have r_2330 := Rep.mo (K := K) g_2344.ff r_2330
        exact s_retN0 G w (em_lc (c := (fun x_2346 : (Int × Int) => (M.ok true))) (e := (fun x_2346 : (Int × Int) => ((((M.ok told_2325).bind fun x_2351 => (M.ok (1 : Int)).bind fun y_2352 => ixM x_2351.cs y_2352).bind clI).bind fun x_2353 => (M.ok x_2346.1).bind fun x_2354 => (M.ok x_2346.2).bind fun x_2355 => .ok (T3.mk x_2353 x_2354 x_2355)))) (ei_list (Ev.nv (e_call0 (f := (fun a : (Int × Int × Unit) => m_pieces_of a.1 a.2.1)) (x := (a2_size, a0_works.parts, ())) (e_cons (em_var rfl r2) (e_cons (e_wkp (em_var rfl r0)) ea_nil))))) (tg_tup2 (K := K)) (fun _ _ _ ⟨_, _, h, _⟩ => by rw [h]; exact wipe2) (fun x_2346 _ _ _ g_2345 ⟨v_2347, v_2349, h_2356, r_2348, r_2350⟩ => by subst h_2356; exact t_yes) (fun x_2346 _ _ _ g_2345 ⟨v_2347, v_2349, h_2356, r_2348, r_2350⟩ => by subst h_2356; exact (em_tup3 (em_clI (em_op (em_var rfl (Rep.mo g_2345.ff r_2330)) em_int fun _ _ => o_rowix)) (em_var rfl r_2348) (em_var rfl r_2350)))) fun r F1 H1 v g m p => hQ r F1 H1 v g m p
      · have G := G.tr g_2344
        have r0 := Rep.mo (K := K) g_2344.ff r0
        have r1 := Rep.mo (K := K) g_2344.ff r1
        have r2 := Rep.mo (K := K) g_2344.ff r2
        have r_2330 := Rep.mo (K := K) g_2344.ff r_2330
        refine s_next ?_
        refine s_nx ?_
        refine q_if2 G w (t_of (em_op (em_var rfl r2) (em_clI (em_op (em_var rfl r_2330) em_int fun _ _ => o_rowix)) fun _ _ => o_le)) (fun F_2362 H_2363 g_2364 w => ?_) (fun F_2362 H_2363 g_2364 w => ?_)
        · have G := G.tr g_2364
          have r0 := Rep.mo (K := K) g_2364.ff r0
          have r1 := Rep.mo (K := K) g_2364.ff r1
          have r2 := Rep.mo (K := K) g_2364.ff r2
          have r_2330 := Rep.mo (K := K) g_2364.ff r_2330
          exact s_retN0 G w (em_lst' (el_cons (em_tup3 (em_clI (em_op (em_var rfl r_2330) em_int fun _ _ => o_rowix)) (em_var rfl r2) em_int) (el_nil (α := (T3 Int Int Int))))) fun r F1 H1 v g m p => hQ r F1 H1 v g m p
        · have G := G.tr g_2364
          have r0 := Rep.mo (K := K) g_2364.ff r0
          have r1 := Rep.mo (K := K) g_2364.ff r1
          have r2 := Rep.mo (K := K) g_2364.ff r2
          have r_2330 := Rep.mo (K := K) g_2364.ff r_2330
          refine s_next ?_
          refine s_nx ?_
          exact s_retN0 G w (em_lst' (el_cons (em_tup3 (em_clI (em_op (em_var rfl r_2330) em_int fun _ _ => o_rowix)) (em_var rfl r2) em_int) (el_nil (α := (T3 Int Int Int))))) fun r F1 H1 v g m p => hQ r F1 H1 v g m p
/-! ### bin_at -/
abbrev s_bin_at : Stmt := topS 20
abbrev N_bin_at : List Str := ["works", "row", "size"]
theorem sc_bin_at : FnScope N_bin_at ["works", "row", "size"] (defScope s_bin_at) := ⟨rfl, rfl, rfl, by decide +kernel, rfl, by decide +kernel, by decide +kernel⟩
abbrev sp_bin_at (K : PySem.W.Frag) (ce : Ce) : Sp := SpF0 ce (RC K (α := Wk) (RC K (α := Int) (RC K (α := Int) R0))) (rv K (ρ := Int)) (fun a : (Wk × Int × Int × Unit) => m_bin_at a.1 a.2.1 a.2.2.1)
theorem ok_bin_at {f : Addr} {fd : FuncData} (FF : Fun K "bin_at" "bin_at" s_bin_at f fd) {a_goes_on : Addr} {d_goes_on : FuncData} (G_goes_on : FnOk P w K mg base CX0 2 a_goes_on d_goes_on ["works", "row", "size"] (sp_goes_on K ce)) (mg_goes_on : mg "goes_on" = some (.ref a_goes_on)) (k_goes_on : PySem.W.keepIn K (.ref a_goes_on) = true) (b_goes_on : Binds K d_goes_on ["works", "row", "size"] []) : FnOk P w K mg base CX0 3 f fd ["works", "row", "size"] (sp_bin_at K ce) := by
  refine FF.ok sc_bin_at (fun vs H0 Q E h => ?_) (fun cdv A outer s H0 vs Q E hr h => ?_)
  · obtain ⟨F0, ⟨a0_works, a1_row, a2_size, _⟩, e0, ⟨v0, _, rfl, r0, ⟨v1, _, rfl, r1, ⟨v2, _, rfl, r2, rfl⟩⟩⟩, w⟩ := h
    rfl
  · obtain ⟨F0, ⟨a0_works, a1_row, a2_size, _⟩, e0, ⟨v0, _, rfl, r0, ⟨v1, _, rfl, r1, ⟨v2, _, rfl, r2, rfl⟩⟩⟩, w⟩ := h
    have w := wp_post w
    have G := Gr.rf e0
    have nd := sc_bin_at.nd
    have hQ : ∀ r F1 H1 v, Gr F0 H0 F1 H1 → (rv K (ρ := Int)) F0 H0 F1 H1 v r → Fin (rv K (ρ := Int)) F0 H0 Q r → Q v H1 := fun r F1 H1 v g m p => p F1 H1 v g m
    refine ⟨_, (pss_cons (ps_while (by first | exact PassesOwn.never | exact passes_of rfl) (pt_cmpR (r := rNeD K) (op_neD hr.units) (pe_ix (r := rIxT K) ix_tup (pe_ix (r := rIxL K) ix_list (pe_fld (pv 0) rfl) (pv 1) (fun _ _ => rfl)) pe_int (fun _ _ => rfl)) pe_str (nomark _)) (pss_one (ps_set (i := 1) nd rfl (by first | exact Or.inl rfl | exact Or.inr rfl) (pe_ix (r := rIxT K) ix_tup (pe_ix (r := rIxL K) ix_list (pe_call G_goes_on (hr.mono (by decide)) rfl mg_goes_on k_goes_on b_goes_on .nil pass0 (pa_cons (pv 0) (pa_cons (pv 1) (pa_cons (pv 2) pa_nil)))) pe_int (fun _ _ => rfl)) pe_int (fun _ _ => rfl)))))
      (pss_one (ps_ret (pe_ix (r := rIxT K) ix_tup (pe_ix (r := rIxL K) ix_list (pe_fld (pv 0) rfl) (pv 1) (fun _ _ => rfl)) pe_int (fun _ _ => rfl))))), ?_⟩
    have w := show Wp ce E0 H0 (m_bin_at a0_works a1_row a2_size) _ from w
    unfold m_bin_at at w
    refine q_while (S := Int) (fun s F' H' σ' => ∃ (v_2430 : V), σ' = [some v0, some v_2430, some v2] ∧ Gr F0 H0 F' H' ∧ Ex F0 F' ∧ rp (α := Int) K F' v_2430 s) ⟨_, rfl, G, Ex.rf _, r1⟩ (fun _ _ _ _ ⟨_, _, G, _⟩ => G) w ?_ ?_ ?_ ?_
    · rintro s_2431 F_2432 H_2433 _ ⟨v_2430, hs_2435, G, e_2436, r_2437⟩
      subst hs_2435
      have r0 := Rep.mo (K := K) e_2436 r0
      have r2 := Rep.mo (K := K) e_2436 r2
      unfold m_bin_at_c1
      exact (t_of (em_op (em_op (em_op (e_wkr (em_var rfl r0)) (em_var rfl r_2437) fun _ _ => o_ixL) em_int fun _ _ => o_rowix) (e_clw (em_wd (by decide +kernel))) fun _ _ => (o_neD (by decide))))
    · rintro s_2431 _ _ _ _ _ ⟨v_2430, hs_2444, G, e_2445, r_2446⟩ g_2447
      subst hs_2444
      exact ⟨_, rfl, G.tr g_2447, Ex.tr e_2445 g_2447.ff, Rep.mo (K := K) g_2447.ff r_2446⟩
    · rintro s_2431 F_2448 H_2449 _ ⟨v_2430, hs_2450, G, e_2451, r_2452⟩ D_2457 P_2458 hrt_2459 hN_2453 hC_2454 hB_2455 hP_2456 w
      subst hs_2450
      have r0 := Rep.mo (K := K) e_2451 r0
      have r2 := Rep.mo (K := K) e_2451 r2
      have hQ : ∀ r F1 H1 v, Gr F0 H0 F1 H1 → (rv K (ρ := Int)) F0 H0 F1 H1 v r → P_2458 (.rt r) → D_2457.rt v H1 := fun r F1 H1 v g m p => by rw [hrt_2459]; exact hQ r F1 H1 v g m (hP_2456 _ p)
      unfold m_bin_at_b1 at w
      refine s_asg (K := K) G w (em_ix (em_op (Ev.nv (e_call0 (f := (fun a : (Wk × Int × Int × Unit) => m_goes_on a.1 a.2.1 a.2.2.1)) (x := (a0_works, s_2431, a2_size, ())) (e_cons (em_var rfl r0) (e_cons (em_var rfl r_2452) (e_cons (em_var rfl r2) ea_nil))))) em_int fun _ _ => o_ixL) em_int fun _ => o_a3 rfl) fun row_2463 F_2464 H_2465 v_2467 g_2466 r_2468 w => ?_
      have G := G.tr g_2466
      have r0 := Rep.mo (K := K) g_2466.ff r0
      have r2 := Rep.mo (K := K) g_2466.ff r2
      have e_2451 := Ex.tr e_2451 g_2466.ff
      exact hN_2453 _ w _ _ _ ⟨_, rfl, G, e_2451, r_2468⟩
    · rintro s_2472 F_2473 H_2474 _ ⟨v_2430, hs_2469, G, e_2470, r_2471⟩ w
      subst hs_2469
      have r0 := Rep.mo (K := K) e_2470 r0
      have r2 := Rep.mo (K := K) e_2470 r2
      exact s_ret0 G w (em_clI (em_op (em_op (e_wkr (em_var rfl r0)) (em_var rfl r_2471) fun _ _ => o_ixL) em_int fun _ _ => o_rowix)) fun r F1 H1 v g m p => hQ r F1 H1 v g m p
/-! ### sizes_looked -/
abbrev s_sizes_looked : Stmt := topS 17
abbrev N_sizes_looked : List Str := ["works", "openings", "row", "opening"]
theorem sc_sizes_looked : FnScope N_sizes_looked ["works"] (defScope s_sizes_looked) := ⟨rfl, rfl, rfl, by decide +kernel, rfl, by decide +kernel, by decide +kernel⟩
abbrev sp_sizes_looked (K : PySem.W.Frag) (ce : Ce) : Sp := SpF0 ce (RC K (α := Wk) R0) (rn K (α := Int)) (fun a : (Wk × Unit) => m_sizes_looked a.1)
theorem ok_sizes_looked {f : Addr} {fd : FuncData} (FF : Fun K "sizes_looked" "sizes_looked" s_sizes_looked f fd) (z_sorted : mg "sorted" = none) : FnOk P w K mg base CX0 1 f fd ["works"] (sp_sizes_looked K ce) := by
  refine FF.ok sc_sizes_looked (fun vs H0 Q E h => ?_) (fun cdv A outer s H0 vs Q E hr h => ?_)
  · obtain ⟨F0, ⟨a0_works, _⟩, e0, ⟨v0, _, rfl, r0, rfl⟩, w⟩ := h
    rfl
  · obtain ⟨F0, ⟨a0_works, _⟩, e0, ⟨v0, _, rfl, r0, rfl⟩, w⟩ := h
    have w := wp_post w
    have G := Gr.rf e0
    have nd := sc_sizes_looked.nd
    have hQ : ∀ r F1 H1 v, Gr F0 H0 F1 H1 → (rn K (α := Int)) F0 H0 F1 H1 v r → Fin (rn K (α := Int)) F0 H0 Q r → Q v H1 := fun r F1 H1 v g m p => p F1 H1 v g m
    refine ⟨_, (pss_cons (by first | exact (ps_setLc (i := 1) (own := [("row", 2)]) (g := (gName 2)) (by rfl) nd rfl rfl (sw_true rfl rfl rfl (by decide +kernel)) (pi_list (pe_fld (pv 0) rfl)) (blkOk_by (own := [("row", 2)]) (N := N_sizes_looked) (sc := defScope s_sizes_looked) (by decide +kernel)) (fun _ _ _ _ _ => (pg_name (i := 2) nd rfl (by first | exact Or.inl rfl | exact Or.inr rfl))) (fun _ _ _ _ _ => (pts_one (pt_cmpR (r := rEqD K) (op_eqD hr.units) (pe_ix (r := rIxT K) ix_tup (pv 2) pe_int (fun _ _ => rfl)) pe_str (nomark _)))) (fun _ _ _ _ _ => (pe_ix (r := rIxT K) ix_tup (pv 2) pe_int (fun _ _ => rfl)))) | exact (ps_set (i := 1) nd rfl (by first | exact Or.inl rfl | exact Or.inr rfl) (pe_lc (own := [("row", 2)]) (g := (gName 2)) (by rfl) nd (pi_list (pe_fld (pv 0) rfl)) (blkOk_by (own := [("row", 2)]) (N := N_sizes_looked) (sc := defScope s_sizes_looked) (by decide +kernel)) (fun _ _ _ _ _ => (pg_name (i := 2) nd rfl (by first | exact Or.inl rfl | exact Or.inr rfl))) (fun _ _ _ _ _ => (pts_one (pt_cmpR (r := rEqD K) (op_eqD hr.units) (pe_ix (r := rIxT K) ix_tup (pv 2) pe_int (fun _ _ => rfl)) pe_str (nomark _)))) (fun _ _ _ _ _ => (pe_ix (r := rIxT K) ix_tup (pv 2) pe_int (fun _ _ => rfl))))))
      (pss_one (ps_ret (pe_callB (r := rSortedI K) cr_sortedI (by rfl) z_sorted (by decide +kernel) (pa_cons (pe_op op_cat (pe_op op_cat (pe_lst (pa_cons pe_int pa_nil)) (pv 1)) (pe_lc (own := [("opening", 3)]) (g := (gName 3)) (by rfl) nd (pi_list (pv 1)) (blkOk_by (own := [("opening", 3)]) (N := N_sizes_looked) (sc := defScope s_sizes_looked) (by decide +kernel)) (fun _ _ _ _ _ => (pg_name (i := 3) nd rfl (by first | exact Or.inl rfl | exact Or.inr rfl))) (fun _ _ _ _ _ => pts_nil) (fun _ _ _ _ _ => (pe_op op_add (pv 3) pe_int)))) pa_nil))))), ?_⟩
    have w := show Wp ce E0 H0 (m_sizes_looked a0_works) _ from w
    unfold m_sizes_looked at w
    refine q_asg (K := K) G w (Ev.nv (em_lc (c := (fun x_2511 : Row => (((M.ok x_2511).bind fun x_2514 => (M.ok (0 : Int)).bind fun y_2515 => ixM x_2514.cs y_2515).bind fun x_2516 => (M.ok (Cl.w (wd (Str.ofString "mesh")))).bind fun y_2517 => .ok (decide (x_2516 = y_2517))))) (e := (fun x_2511 : Row => (((M.ok x_2511).bind fun x_2518 => (M.ok (1 : Int)).bind fun y_2519 => ixM x_2518.cs y_2519).bind clI))) (ei_list (e_wkr (em_var rfl r0))) (tg_name (K := K)) (fun _ _ _ ⟨_, h, _⟩ => by rw [h]; exact wipe1) (fun x_2511 _ _ _ g_2510 ⟨v_2512, h_2520, r_2513⟩ => by subst h_2520; exact (t_of (em_op (em_op (em_var rfl r_2513) em_int fun _ _ => o_rowix) (e_clw (em_wd (by decide +kernel))) fun _ _ => (o_eqD (by decide))))) (fun x_2511 _ _ _ g_2510 ⟨v_2512, h_2520, r_2513⟩ => by subst h_2520; exact (em_clI (em_op (em_var rfl r_2513) em_int fun _ _ => o_rowix))))) fun openings_2522 F_2523 H_2524 v_2526 g_2525 r_2527 w => ?_
    have G := G.tr g_2525
    have r0 := Rep.mo (K := K) g_2525.ff r0
    exact s_retN0 G w (em_cb (ea_cons (Ev.nv (em_op (Ev.nv (em_op (Ev.nv (e_lst (e_lcons em_int (el_nil (α := Int))) (by simp))) (em_var rfl r_2527) fun _ _ => o_cat)) (Ev.nv (em_lc (c := (fun x_2531 : Int => (M.ok true))) (e := (fun x_2531 : Int => (M.ok (x_2531 + (1 : Int))))) (ei_list (em_var rfl r_2527)) (tg_name (K := K)) (fun _ _ _ ⟨_, h, _⟩ => by rw [h]; exact wipe1) (fun x_2531 _ _ _ g_2530 ⟨v_2532, h_2534, r_2533⟩ => by subst h_2534; exact t_yes) (fun x_2531 _ _ _ g_2530 ⟨v_2532, h_2534, r_2533⟩ => by subst h_2534; exact (e2 (em_var rfl r_2533) em_int o_add)))) fun _ _ => o_cat)) ea_nil) fun _ => a_sorted) fun r F1 H1 v g m p => hQ r F1 H1 v g m p
/-! ### whole_to -/
abbrev s_whole_to : Stmt := topS 15
abbrev N_whole_to : List Str := ["works", "row", "size", "told"]
theorem sc_whole_to : FnScope N_whole_to ["works", "row", "size"] (defScope s_whole_to) := ⟨rfl, rfl, rfl, by decide +kernel, rfl, by decide +kernel, by decide +kernel⟩
abbrev sp_whole_to (K : PySem.W.Frag) (ce : Ce) : Sp := SpF0 ce (RC K (α := Wk) (RC K (α := Int) (RC K (α := Int) R0))) (rv K (ρ := (Option Int))) (fun a : (Wk × Int × Int × Unit) => m_whole_to a.1 a.2.1 a.2.2.1)
theorem ok_whole_to {f : Addr} {fd : FuncData} (FF : Fun K "whole_to" "whole_to" s_whole_to f fd) {a_goes_on : Addr} {d_goes_on : FuncData} (G_goes_on : FnOk P w K mg base CX0 2 a_goes_on d_goes_on ["works", "row", "size"] (sp_goes_on K ce)) (mg_goes_on : mg "goes_on" = some (.ref a_goes_on)) (k_goes_on : PySem.W.keepIn K (.ref a_goes_on) = true) (b_goes_on : Binds K d_goes_on ["works", "row", "size"] []) (z_len : mg "len" = none) : FnOk P w K mg base CX0 3 f fd ["works", "row", "size"] (sp_whole_to K ce) := by
  refine FF.ok sc_whole_to (fun vs H0 Q E h => ?_) (fun cdv A outer s H0 vs Q E hr h => ?_)
  · obtain ⟨F0, ⟨a0_works, a1_row, a2_size, _⟩, e0, ⟨v0, _, rfl, r0, ⟨v1, _, rfl, r1, ⟨v2, _, rfl, r2, rfl⟩⟩⟩, w⟩ := h
    rfl
  · obtain ⟨F0, ⟨a0_works, a1_row, a2_size, _⟩, e0, ⟨v0, _, rfl, r0, ⟨v1, _, rfl, r1, ⟨v2, _, rfl, r2, rfl⟩⟩⟩, w⟩ := h
    have w := wp_post w
    have G := Gr.rf e0
    have nd := sc_whole_to.nd
    have hQ : ∀ r F1 H1 v, Gr F0 H0 F1 H1 → (rv K (ρ := (Option Int))) F0 H0 F1 H1 v r → Fin (rv K (ρ := (Option Int))) F0 H0 Q r → Q v H1 := fun r F1 H1 v g m p => p F1 H1 v g m
    refine ⟨_, (pss_cons (ps_set (i := 3) nd rfl (by first | exact Or.inl rfl | exact Or.inr rfl) (pe_call G_goes_on (hr.mono (by decide)) rfl mg_goes_on k_goes_on b_goes_on .nil pass0 (pa_cons (pv 0) (pa_cons (pv 1) (pa_cons (pv 2) pa_nil)))))
      (pss_cons (ps_if (PW.pt (pw_and (pt_cmpR op_eq (pe_callB (r := rLenS K) call_len_seq (by rfl) z_len (by decide +kernel) (pa_cons (pv 3) pa_nil)) pe_int (nomark _)) (pw_and (pt_cmpR op_eq (pe_ix (r := rIxT K) ix_tup (pe_ix (r := rIxL K) ix_list (pv 3) pe_int (fun _ _ => rfl)) pe_int (fun _ _ => rfl)) (pv 2) (nomark _)) (pw_and1 (pt_cmpR op_eq (pe_ix (r := rIxT K) ix_tup (pe_ix (r := rIxL K) ix_list (pv 3) pe_int (fun _ _ => rfl)) pe_int (fun _ _ => rfl)) pe_int (nomark _)))))) (pss_one (ps_ret (pe_ix (r := rIxT K) ix_tup (pe_ix (r := rIxL K) ix_list (pv 3) pe_int (fun _ _ => rfl)) pe_int (fun _ _ => rfl)))) pss_nil)
      (pss_one (ps_ret pe_non)))), ?_⟩
    have w := show Wp ce E0 H0 (m_whole_to a0_works a1_row a2_size) _ from w
    unfold m_whole_to at w
    refine q_asg (K := K) G w (Ev.nv (e_call0 (f := (fun a : (Wk × Int × Int × Unit) => m_goes_on a.1 a.2.1 a.2.2.1)) (x := (a0_works, a1_row, a2_size, ())) (e_cons (em_var rfl r0) (e_cons (em_var rfl r1) (e_cons (em_var rfl r2) ea_nil))))) fun told_2563 F_2564 H_2565 v_2567 g_2566 r_2568 w => ?_
    have G := G.tr g_2566
    have r0 := Rep.mo (K := K) g_2566.ff r0
    have r1 := Rep.mo (K := K) g_2566.ff r1
    have r2 := Rep.mo (K := K) g_2566.ff r2
    refine q_if2 G w (tm_and (t_of (e2 (e_cb (e_cons (em_var rfl r_2568) ea_nil) a_len) em_int o_eqI)) (tm_and (t_of (em_op (em_ix (em_op (em_var rfl r_2568) em_int fun _ _ => o_ixL) em_int fun _ => o_b3 rfl) (em_var rfl r2) fun _ _ => o_eqI)) (t_of (em_op (em_ix (em_op (em_var rfl r_2568) em_int fun _ _ => o_ixL) em_int fun _ => o_c3 rfl) em_int fun _ _ => o_eqI)))) (fun F_2579 H_2580 g_2581 w => ?_) (fun F_2579 H_2580 g_2581 w => ?_)
    · have G := G.tr g_2581
      have r0 := Rep.mo (K := K) g_2581.ff r0
      have r1 := Rep.mo (K := K) g_2581.ff r1
      have r2 := Rep.mo (K := K) g_2581.ff r2
      have r_2568 := Rep.mo (K := K) g_2581.ff r_2568
      exact s_ret0 G w (em_some (em_ix (em_op (em_var rfl r_2568) em_int fun _ _ => o_ixL) em_int fun _ => o_a3 rfl)) fun r F1 H1 v g m p => hQ r F1 H1 v g m p
    · have G := G.tr g_2581
      have r0 := Rep.mo (K := K) g_2581.ff r0
      have r1 := Rep.mo (K := K) g_2581.ff r1
      have r2 := Rep.mo (K := K) g_2581.ff r2
      have r_2568 := Rep.mo (K := K) g_2581.ff r_2568
      refine s_next ?_
      refine s_nx ?_
      exact s_ret0 G w (em_none (α := Int)) fun r F1 H1 v g m p => hQ r F1 H1 v g m p
/-! ### ring_from -/
abbrev s_ring_from : Stmt := topS 16
abbrev N_ring_from : List Str := ["works", "row", "size", "way"]
theorem sc_ring_from : FnScope N_ring_from ["works", "row", "size"] (defScope s_ring_from) := ⟨rfl, rfl, rfl, by decide +kernel, rfl, by decide +kernel, by decide +kernel⟩
abbrev sp_ring_from (K : PySem.W.Frag) (ce : Ce) : Sp := SpF0 ce (RC K (α := Wk) (RC K (α := (Option Int)) (RC K (α := Int) R0))) (rn K (α := Int)) (fun a : (Wk × (Option Int) × Int × Unit) => m_ring_from a.1 a.2.1 a.2.2.1)
theorem ok_ring_from {f : Addr} {fd : FuncData} (FF : Fun K "ring_from" "ring_from" s_ring_from f fd) {a_whole_to : Addr} {d_whole_to : FuncData} (G_whole_to : FnOk P w K mg base CX0 3 a_whole_to d_whole_to ["works", "row", "size"] (sp_whole_to K ce)) (mg_whole_to : mg "whole_to" = some (.ref a_whole_to)) (k_whole_to : PySem.W.keepIn K (.ref a_whole_to) = true) (b_whole_to : Binds K d_whole_to ["works", "row", "size"] []) : FnOk P w K mg base CX0 4 f fd ["works", "row", "size"] (sp_ring_from K ce) := by
  refine FF.ok sc_ring_from (fun vs H0 Q E h => ?_) (fun cdv A outer s H0 vs Q E hr h => ?_)
  · obtain ⟨F0, ⟨a0_works, a1_row, a2_size, _⟩, e0, ⟨v0, _, rfl, r0, ⟨v1, _, rfl, r1, ⟨v2, _, rfl, r2, rfl⟩⟩⟩, w⟩ := h
    rfl
  · obtain ⟨F0, ⟨a0_works, a1_row, a2_size, _⟩, e0, ⟨v0, _, rfl, r0, ⟨v1, _, rfl, r1, ⟨v2, _, rfl, r2, rfl⟩⟩⟩, w⟩ := h
    have w := wp_post w
    have G := Gr.rf e0
    have nd := sc_ring_from.nd
    have hQ : ∀ r F1 H1 v, Gr F0 H0 F1 H1 → (rn K (α := Int)) F0 H0 F1 H1 v r → Fin (rn K (α := Int)) F0 H0 Q r → Q v H1 := fun r F1 H1 v g m p => p F1 H1 v g m
    refine ⟨_, (pss_cons (ps_set (i := 3) nd rfl (by first | exact Or.inl rfl | exact Or.inr rfl) (pe_lst pa_nil))
      (pss_cons (ps_while (by first | exact PassesOwn.never | exact passes_of rfl) (PW.pt (pw_and (pt_cmpR op_notN (pv 1) pe_non (nomark _)) (pw_and1 (pt_cmpR (r := rIn K true) op_notIn_seq (pv 1) (pv 3) (by first | exact nomark _ | rfl | with_unfolding_all rfl))))) (pss_cons (ps_expr (pe_bm PySem.F.plainAttrs_list PySem.F.slot_list_append PySem.F.type_list_append mt_append (pv 3) (pa_cons (pv 1) pa_nil)))
      (pss_one (ps_set (i := 1) nd rfl (by first | exact Or.inl rfl | exact Or.inr rfl) (pe_call G_whole_to (hr.mono (by decide)) rfl mg_whole_to k_whole_to b_whole_to .nil pass0 (pa_cons (pv 0) (pa_cons (pv 1) (pa_cons (pv 2) pa_nil))))))))
      (pss_cons (ps_if (pt_cmpR op_isN (pv 1) pe_non (nomark _)) (pss_one (ps_ret (pe_lst pa_nil))) pss_nil)
      (pss_one (ps_ret (pe_slice (r := rSlL K) sl_list (pv 3) (po_some (pe_bm (r := rIndex K) PySem.F.plainAttrs_list PySem.F.slot_list_index PySem.F.type_list_index mt_index (pv 3) (pa_cons (pv 1) pa_nil))) po_none)))))), ?_⟩
    have w := show Wp ce E0 H0 (m_ring_from a0_works a1_row a2_size) _ from w
    unfold m_ring_from at w
    refine q_asgN (K := K) G w (e_lst (el_nil (α := Int)) (by decide)) fun way_2658 F_2659 H_2660 p_2662 g_2661 n_2663 o_2664 w => ?_
    have n0p_2662 := ex_back G.hh n_2663
    have G := G.tr g_2661
    have r0 := Rep.mo (K := K) g_2661.ff r0
    have r1 := Rep.mo (K := K) g_2661.ff r1
    have r2 := Rep.mo (K := K) g_2661.ff r2
    refine q_while (S := ((List Int) × (Option Int))) (fun s F' H' σ' => ∃ (v_2665 : V), σ' = [some v0, some v_2665, some v2, some (.ref p_2662)] ∧ Gr F0 H0 F' H' ∧ Ex F_2659 F' ∧ Own K (T := (List Int)) F' H' p_2662 s.1 ∧ rp (α := (Option Int)) K F' v_2665 s.2) ⟨_, rfl, G, Ex.rf _, o_2664, r1⟩ (fun _ _ _ _ ⟨_, _, G, _⟩ => G) w ?_ ?_ ?_ ?_
    · rintro s_2666 F_2667 H_2668 _ ⟨v_2665, hs_2670, G, e_2671, o_2672, r_2673⟩
      subst hs_2670
      have r0 := Rep.mo (K := K) e_2671 r0
      have r2 := Rep.mo (K := K) e_2671 r2
      unfold m_ring_from_c1
      exact t_lend [p_2662] (own1 o_2672.f) (own1 o_2672.ls) (tm_and (t_of (e2 (em_var rfl (Rep.mo (fz_ex G.fh) r_2673)) em_unit o_notN)) (t_of (em_op (em_get (em_var rfl (Rep.mo (fz_ex G.fh) r_2673))) (em_var rfl (o_2672.lent G.fh (by simp))) fun _ _ => o_notIn)))
    · rintro s_2666 _ _ _ _ _ ⟨v_2665, hs_2676, G, e_2677, o_2678, r_2679⟩ g_2680
      subst hs_2676
      exact ⟨_, rfl, G.tr g_2680, Ex.tr e_2677 g_2680.ff, o_2678.mo g_2680, Rep.mo (K := K) g_2680.ff r_2679⟩
    · rintro s_2666 F_2681 H_2682 _ ⟨v_2665, hs_2683, G, e_2684, o_2685, r_2686⟩ D_2691 P_2692 hrt_2693 hN_2687 hC_2688 hB_2689 hP_2690 w
      subst hs_2683
      have r0 := Rep.mo (K := K) e_2684 r0
      have r2 := Rep.mo (K := K) e_2684 r2
      have hQ : ∀ r F1 H1 v, Gr F0 H0 F1 H1 → (rn K (α := Int)) F0 H0 F1 H1 v r → P_2692 (.rt r) → D_2691.rt v H1 := fun r F1 H1 v g m p => by rw [hrt_2693]; exact hQ r F1 H1 v g m (hP_2690 _ p)
      unfold m_ring_from_b1 at w
      refine q_app rfl o_2685 n0p_2662 G w (em_get (em_var rfl r_2686)) fun way_2694 F_2695 H_2696 e_2697 G o_2698 hO_2699 w => ?_
      have r0 := Rep.mo (K := K) e_2697 r0
      have r_2686 := Rep.mo (K := K) e_2697 r_2686
      have r2 := Rep.mo (K := K) e_2697 r2
      have e_2684 := Ex.tr e_2684 e_2697
      refine s_asg (K := K) G w (em_call0 (f := (fun a : (Wk × Int × Int × Unit) => m_whole_to a.1 a.2.1 a.2.2.1)) (ea_cons (em_var rfl r0) (ea_cons (em_get (em_var rfl r_2686)) (ea_cons (em_var rfl r2) ea_nil)))) fun row_2708 F_2709 H_2710 v_2712 g_2711 r_2713 w => ?_
      have G := G.tr g_2711
      have r0 := Rep.mo (K := K) g_2711.ff r0
      have r2 := Rep.mo (K := K) g_2711.ff r2
      have o_2698 := o_2698.mo g_2711
      have e_2684 := Ex.tr e_2684 g_2711.ff
      exact hN_2687 _ w _ _ _ ⟨_, rfl, G, e_2684, o_2698, r_2713⟩
    · rintro s_2718 F_2719 H_2720 _ ⟨v_2665, hs_2714, G, e_2715, o_2716, r_2717⟩ w
      subst hs_2714
      have r0 := Rep.mo (K := K) e_2715 r0
      have r2 := Rep.mo (K := K) e_2715 r2
      refine q_if2 G w (t_of (e2 (em_var rfl r_2717) em_unit o_isN)) (fun F_2721 H_2722 g_2723 w => ?_) (fun F_2721 H_2722 g_2723 w => ?_)
      · have G := G.tr g_2723
        have r0 := Rep.mo (K := K) g_2723.ff r0
        have r_2717 := Rep.mo (K := K) g_2723.ff r_2717
        have r2 := Rep.mo (K := K) g_2723.ff r2
        have o_2716 := o_2716.mo g_2723
        exact s_retN0 G w (e_lst (el_nil (α := Int)) (by decide)) fun r F1 H1 v g m p => hQ r F1 H1 v g m p
      · have G := G.tr g_2723
        have r0 := Rep.mo (K := K) g_2723.ff r0
        have r_2717 := Rep.mo (K := K) g_2723.ff r_2717
        have r2 := Rep.mo (K := K) g_2723.ff r2
        have o_2716 := o_2716.mo g_2723
        refine s_next ?_
        refine s_nx ?_
        have GA := gr_fz (A := [p_2662]) G (own1 n0p_2662)
        exact s_retN0 GA w (em_sl (em_var rfl (o_2716.lent G.fh (by simp))) (eo_some (K := K) (em_bmi (em_var rfl (o_2716.lent G.fh (by simp))) (em_get (em_var rfl (Rep.mo (fz_ex G.fh) r_2717))) fun _ _ => o_idx)) eo_none) fun r F1 H1 v g m p => hQ r F1 H1 v g m p
/-! ### ring_of -/
abbrev s_ring_of : Stmt := topS 18
abbrev N_ring_of : List Str := ["works", "size", "row", "ring"]
theorem sc_ring_of : FnScope N_ring_of ["works"] (defScope s_ring_of) := ⟨rfl, rfl, rfl, by decide +kernel, rfl, by decide +kernel, by decide +kernel⟩
abbrev sp_ring_of (K : PySem.W.Frag) (ce : Ce) : Sp := SpF0 ce (RC K (α := Wk) R0) (rv K (ρ := (Option (Int × (List Int))))) (fun a : (Wk × Unit) => m_ring_of a.1)
theorem ok_ring_of {f : Addr} {fd : FuncData} (FF : Fun K "ring_of" "ring_of" s_ring_of f fd) {a_ring_from : Addr} {d_ring_from : FuncData} (G_ring_from : FnOk P w K mg base CX0 4 a_ring_from d_ring_from ["works", "row", "size"] (sp_ring_from K ce)) (mg_ring_from : mg "ring_from" = some (.ref a_ring_from)) (k_ring_from : PySem.W.keepIn K (.ref a_ring_from) = true) (b_ring_from : Binds K d_ring_from ["works", "row", "size"] []) {a_sizes_looked : Addr} {d_sizes_looked : FuncData} (G_sizes_looked : FnOk P w K mg base CX0 1 a_sizes_looked d_sizes_looked ["works"] (sp_sizes_looked K ce)) (mg_sizes_looked : mg "sizes_looked" = some (.ref a_sizes_looked)) (k_sizes_looked : PySem.W.keepIn K (.ref a_sizes_looked) = true) (b_sizes_looked : Binds K d_sizes_looked ["works"] []) (z_len : mg "len" = none) (z_range : mg "range" = none) : FnOk P w K mg base CX0 5 f fd ["works"] (sp_ring_of K ce) := by
  refine FF.ok sc_ring_of (fun vs H0 Q E h => ?_) (fun cdv A outer s H0 vs Q E hr h => ?_)
  · obtain ⟨F0, ⟨a0_works, _⟩, e0, ⟨v0, _, rfl, r0, rfl⟩, w⟩ := h
    rfl
  · obtain ⟨F0, ⟨a0_works, _⟩, e0, ⟨v0, _, rfl, r0, rfl⟩, w⟩ := h
    have w := wp_post w
    have G := Gr.rf e0
    have nd := sc_ring_of.nd
    have hQ : ∀ r F1 H1 v, Gr F0 H0 F1 H1 → (rv K (ρ := (Option (Int × (List Int))))) F0 H0 F1 H1 v r → Fin (rv K (ρ := (Option (Int × (List Int))))) F0 H0 Q r → Q v H1 := fun r F1 H1 v g m p => p F1 H1 v g m
    refine ⟨_, (pss_cons (ps_for (by first | exact PassesOwn.never | exact passes_of rfl) rfl (pi_list (pe_call G_sizes_looked (hr.mono (by decide)) rfl mg_sizes_looked k_sizes_looked b_sizes_looked .nil pass0 (pa_cons (pv 0) pa_nil))) (pg_name (i := 1) nd rfl (by first | exact Or.inl rfl | exact Or.inr rfl)) (pss_one (ps_for (by first | exact PassesOwn.never | exact passes_of rfl) rfl (pi_range1 rfl z_range (pa_cons (pe_callB (r := rLenS K) call_len_seq (by rfl) z_len (by decide +kernel) (pa_cons (pe_fld (pv 0) rfl) pa_nil)) pa_nil)) (pg_name (i := 2) nd rfl (by first | exact Or.inl rfl | exact Or.inr rfl)) (pss_cons (ps_set (i := 3) nd rfl (by first | exact Or.inl rfl | exact Or.inr rfl) (pe_call G_ring_from (hr.mono (by decide)) rfl mg_ring_from k_ring_from b_ring_from .nil pass0 (pa_cons (pv 0) (pa_cons (pv 2) (pa_cons (pv 1) pa_nil)))))
      (pss_one (ps_if (pt_cmpR (r := rNeD K) (op_neD hr.units) (pv 3) (pe_lst pa_nil) (nomark _)) (pss_one (ps_ret (pe_tup (pa_cons (pv 1) (pa_cons (pv 3) pa_nil))))) pss_nil))))))
      (pss_one (ps_ret pe_non))), ?_⟩
    have w := show Wp ce E0 H0 (m_ring_of a0_works) _ from w
    unfold m_ring_of at w
    refine q_for (S := Unit) (fun s F' H' σ' => ∃ (z_2803 : Option V) (z_2804 : Option V) (z_2805 : Option V), σ' = [some v0, z_2803, z_2804, z_2805] ∧ Gr F0 H0 F' H' ∧ Ex F0 F') G (ei_list (Ev.nv (e_call0 (f := (fun a : (Wk × Unit) => m_sizes_looked a.1)) (x := (a0_works, ())) (e_cons (em_var rfl r0) ea_nil)))) (tg_name (K := K)) w (fun _ _ g_2874 => ⟨_, _, _, rfl, G.tr g_2874, g_2874.ff⟩) (fun _ _ _ _ ⟨_, _, _, _, G, _⟩ => G) ?_ ?_
    · rintro x_2807 s_2806 F_2808 H_2809 _ ⟨z_2803, z_2804, z_2805, hs_2810, G, e_2811⟩ F_2812 H_2813 σ_2814 g_2815 ⟨v_2823, h_2825, r_2824⟩ D_2820 P_2821 hrt_2822 hN_2816 hC_2817 hB_2818 hP_2819 w
      subst hs_2810
      subst h_2825
      have r0 := Rep.mo (K := K) e_2811 r0
      have G := G.tr g_2815
      have r0 := Rep.mo (K := K) g_2815.ff r0
      have e_2811 := Ex.tr e_2811 g_2815.ff
      have e_2826 := Ex.rf F_2812
      have hQ : ∀ r F1 H1 v, Gr F0 H0 F1 H1 → (rv K (ρ := (Option (Int × (List Int))))) F0 H0 F1 H1 v r → P_2821 (.rt r) → D_2820.rt v H1 := fun r F1 H1 v g m p => by rw [hrt_2822]; exact hQ r F1 H1 v g m (hP_2819 _ p)
      unfold m_ring_of_b1 at w
      refine s_for (S := Unit) (fun s F' H' σ' => ∃ (z_2827 : Option V) (z_2828 : Option V), σ' = [some v0, some v_2823, z_2827, z_2828] ∧ Gr F0 H0 F' H' ∧ Ex F_2812 F') G (ei_rng1 (e_cb (e_cons (e_wkr (em_var rfl r0)) ea_nil) a_len)) (tg_name (K := K)) w (fun _ _ g_2866 => ⟨_, _, rfl, G.tr g_2866, g_2866.ff⟩) (fun _ _ _ _ ⟨_, _, _, G, _⟩ => G) ?_ ?_
      · rintro x_2830 s_2829 F_2831 H_2832 _ ⟨z_2827, z_2828, hs_2833, G, e_2834⟩ F_2835 H_2836 σ_2837 g_2838 ⟨v_2846, h_2848, r_2847⟩ D_2843 P_2844 hrt_2845 hN_2839 hC_2840 hB_2841 hP_2842 w
        subst hs_2833
        subst h_2848
        have r0 := Rep.mo (K := K) e_2834 r0
        have r_2824 := Rep.mo (K := K) e_2834 r_2824
        have e_2811 := Ex.tr e_2811 e_2834
        have e_2826 := Ex.tr e_2826 e_2834
        have G := G.tr g_2838
        have r0 := Rep.mo (K := K) g_2838.ff r0
        have r_2824 := Rep.mo (K := K) g_2838.ff r_2824
        have e_2811 := Ex.tr e_2811 g_2838.ff
        have e_2826 := Ex.tr e_2826 g_2838.ff
        have e_2834 := Ex.tr e_2834 g_2838.ff
        have e_2849 := Ex.rf F_2835
        have hQ : ∀ r F1 H1 v, Gr F0 H0 F1 H1 → (rv K (ρ := (Option (Int × (List Int))))) F0 H0 F1 H1 v r → P_2844 (.rt (.rt r)) → D_2843.rt v H1 := fun r F1 H1 v g m p => by rw [hrt_2845]; exact hQ r F1 H1 v g m (hP_2842 _ p)
        unfold m_ring_of_b2 at w
        refine q_asg (K := K) G w (Ev.nv (e_call0 (f := (fun a : (Wk × (Option Int) × Int × Unit) => m_ring_from a.1 a.2.1 a.2.2.1)) (x := (a0_works, (some x_2830), x_2807, ())) (e_cons (em_var rfl r0) (e_cons (e_some (em_var rfl r_2847)) (e_cons (em_var rfl r_2824) ea_nil))))) fun ring_2850 F_2851 H_2852 v_2854 g_2853 r_2855 w => ?_
        have G := G.tr g_2853
        have r0 := Rep.mo (K := K) g_2853.ff r0
        have r_2824 := Rep.mo (K := K) g_2853.ff r_2824
        have r_2847 := Rep.mo (K := K) g_2853.ff r_2847
        have e_2811 := Ex.tr e_2811 g_2853.ff
        have e_2826 := Ex.tr e_2826 g_2853.ff
        have e_2834 := Ex.tr e_2834 g_2853.ff
        have e_2849 := Ex.tr e_2849 g_2853.ff
        refine s_if2 G w (t_of (e2 (em_var rfl r_2855) (Ev.nv (e_lst (el_nil (α := Int)) (by decide))) (o_neD (by decide)))) (fun F_2856 H_2857 g_2858 w => ?_) (fun F_2856 H_2857 g_2858 w => ?_)
        · have G := G.tr g_2858
          have r0 := Rep.mo (K := K) g_2858.ff r0
          have r_2824 := Rep.mo (K := K) g_2858.ff r_2824
          have r_2847 := Rep.mo (K := K) g_2858.ff r_2847
          have r_2855 := Rep.mo (K := K) g_2858.ff r_2855
          have e_2811 := Ex.tr e_2811 g_2858.ff
          have e_2826 := Ex.tr e_2826 g_2858.ff
          have e_2834 := Ex.tr e_2834 g_2858.ff
          have e_2849 := Ex.tr e_2849 g_2858.ff
          exact s_ret G w (e_some (e_tup2 (em_var rfl r_2824) (em_var rfl r_2855))) fun r F1 H1 v g m p => hQ r F1 H1 v g m p
        · have G := G.tr g_2858
          have r0 := Rep.mo (K := K) g_2858.ff r0
          have r_2824 := Rep.mo (K := K) g_2858.ff r_2824
          have r_2847 := Rep.mo (K := K) g_2858.ff r_2847
          have r_2855 := Rep.mo (K := K) g_2858.ff r_2855
          have e_2811 := Ex.tr e_2811 g_2858.ff
          have e_2826 := Ex.tr e_2826 g_2858.ff
          have e_2834 := Ex.tr e_2834 g_2858.ff
          have e_2849 := Ex.tr e_2849 g_2858.ff
          refine s_next ?_
          exact hN_2839 _ w _ _ _ e_2849 ⟨_, _, rfl, G, e_2834⟩
      · rintro s_2862 F_2863 H_2864 _ e_2865 ⟨z_2827, z_2828, hs_2860, G, e_2861⟩ w
        subst hs_2860
        have r0 := Rep.mo (K := K) e_2861 r0
        have r_2824 := Rep.mo (K := K) e_2861 r_2824
        have e_2811 := Ex.tr e_2811 e_2861
        have e_2826 := Ex.tr e_2826 e_2861
        exact hN_2816 _ w _ _ _ e_2826 ⟨_, _, _, rfl, G, e_2811⟩
    · rintro s_2870 F_2871 H_2872 _ e_2873 ⟨z_2803, z_2804, z_2805, hs_2868, G, e_2869⟩ w
      subst hs_2868
      have r0 := Rep.mo (K := K) e_2869 r0
      exact s_ret0 G w (em_none (α := (Int × (List Int)))) fun r F1 H1 v g m p => hQ r F1 H1 v g m p
/-! ### form_of -/
abbrev s_form_of : Stmt := topS 21
abbrev N_form_of : List Str := ["works", "row", "told", "openings", "last", "form", "opening", "found"]
theorem sc_form_of : FnScope N_form_of ["works", "row"] (defScope s_form_of) := ⟨rfl, rfl, rfl, by decide +kernel, rfl, by decide +kernel, by decide +kernel⟩
abbrev sp_form_of (K : PySem.W.Frag) (ce : Ce) : Sp := SpF ce (RC K (α := Wk) (RC K (α := Int) R0)) (rn K (α := ((Option Int) × Int))) (fun a : (Wk × Int × Unit) => m_form_of a.1 a.2.1)
theorem ok_form_of {f : Addr} {fd : FuncData} (FF : Fun K "form_of" "form_of" s_form_of f fd) {t_WIDEST : Tok} (c_WIDEST : mg "WIDEST" = some (.int 1000000000000000000000000000000000000000000000000000000000000 t_WIDEST)) (x_HasCrusher : ErrC K mg (ce "HasCrusher") "HasCrusher") (x_Stuck : ErrC K mg (ce "Stuck") "Stuck") {a_bin_at : Addr} {d_bin_at : FuncData} (G_bin_at : FnOk P w K mg base CX0 3 a_bin_at d_bin_at ["works", "row", "size"] (sp_bin_at K ce)) (mg_bin_at : mg "bin_at" = some (.ref a_bin_at)) (k_bin_at : PySem.W.keepIn K (.ref a_bin_at) = true) (b_bin_at : Binds K d_bin_at ["works", "row", "size"] []) {a_ring_of : Addr} {d_ring_of : FuncData} (G_ring_of : FnOk P w K mg base CX0 5 a_ring_of d_ring_of ["works"] (sp_ring_of K ce)) (mg_ring_of : mg "ring_of" = some (.ref a_ring_of)) (k_ring_of : PySem.W.keepIn K (.ref a_ring_of) = true) (b_ring_of : Binds K d_ring_of ["works"] []) (z_len : mg "len" = none) (z_reversed : mg "reversed" = none) (z_set : mg "set" = none) (z_sorted : mg "sorted" = none) : FnOk P w K mg base (L2.CX P w) 6 f fd ["works", "row"] (sp_form_of K ce) := by
  refine FF.okX sc_form_of (fun vs H0 Q E h => ?_) (fun cdv A outer s H0 vs Q E hr h => ?_)
  · obtain ⟨F0, ⟨a0_works, a1_row, _⟩, e0, ⟨v0, _, rfl, r0, ⟨v1, _, rfl, r1, rfl⟩⟩, w⟩ := h
    rfl
  · obtain ⟨F0, ⟨a0_works, a1_row, _⟩, e0, ⟨v0, _, rfl, r0, ⟨v1, _, rfl, r1, rfl⟩⟩, w⟩ := h
    have w := wp_post w
    have G := Gr.rf e0
    have nd := sc_form_of.nd
    have hQ : ∀ r F1 H1 v, Gr F0 H0 F1 H1 → (rn K (α := ((Option Int) × Int))) F0 H0 F1 H1 v r → Fin (rn K (α := ((Option Int) × Int))) F0 H0 Q r → Q v H1 := fun r F1 H1 v g m p => p F1 H1 v g m
    refine ⟨_, (pss_cons (ps_if (pt_cmpR op_gt (pe_callB (r := rLenS K) call_len_seq (by rfl) z_len (by decide +kernel) (pa_cons (pe_lc (own := [("told", 2)]) (g := (gName 2)) (by rfl) nd (pi_list (pe_fld (pv 0) rfl)) (blkOk_by (own := [("told", 2)]) (N := N_form_of) (sc := defScope s_form_of) (by decide +kernel)) (fun _ _ _ _ _ => (pg_name (i := 2) nd rfl (by first | exact Or.inl rfl | exact Or.inr rfl))) (fun _ _ _ _ _ => (pts_one (pt_cmpR (r := rEqD K) (op_eqD hr.units) (pe_ix (r := rIxT K) ix_tup (pv 2) pe_int (fun _ _ => rfl)) pe_str (nomark _)))) (fun _ _ _ _ _ => (pv 2))) pa_nil)) pe_int (nomark _)) (pss_one (ps_raise rfl (takes_of rfl rfl rfl rfl) (pmk_own PySem.F.excBase_ValueError x_HasCrusher.x x_HasCrusher.g x_HasCrusher.k (raises_own x_HasCrusher.b x_HasCrusher.t) rfl))) pss_nil)
      (pss_cons (ps_if (pt_cmpR op_notN (pe_call G_ring_of (hr.mono (by decide)) rfl mg_ring_of k_ring_of b_ring_of .nil pass0 (pa_cons (pv 0) pa_nil)) pe_non (nomark _)) (pss_one (ps_raise rfl (takes_of rfl rfl rfl rfl) (pmk_own PySem.F.excBase_ValueError x_Stuck.x x_Stuck.g x_Stuck.k (raises_own x_Stuck.b x_Stuck.t) rfl))) pss_nil)
      (pss_cons (ps_set (i := 3) nd rfl (by first | exact Or.inl rfl | exact Or.inr rfl) (pe_callB (r := rSortedSet _) (cr_sortedSet rfl) (by rfl) z_sorted (by decide +kernel) (pa_cons (pe_callTy (r := rSetI K _) (cr_setI rfl) (by rfl) z_set (by decide +kernel) (pa_cons (pe_lc (own := [("told", 2)]) (g := (gName 2)) (by rfl) nd (pi_list (pe_fld (pv 0) rfl)) (blkOk_by (own := [("told", 2)]) (N := N_form_of) (sc := defScope s_form_of) (by decide +kernel)) (fun _ _ _ _ _ => (pg_name (i := 2) nd rfl (by first | exact Or.inl rfl | exact Or.inr rfl))) (fun _ _ _ _ _ => (pts_one (pt_cmpR (r := rEqD K) (op_eqD hr.units) (pe_ix (r := rIxT K) ix_tup (pv 2) pe_int (fun _ _ => rfl)) pe_str (nomark _)))) (fun _ _ _ _ _ => (pe_ix (r := rIxT K) ix_tup (pv 2) pe_int (fun _ _ => rfl)))) pa_nil)) pa_nil)))
      (pss_cons (ps_set (i := 4) nd rfl (by first | exact Or.inl rfl | exact Or.inr rfl) (pe_call G_bin_at (hr.mono (by decide)) rfl mg_bin_at k_bin_at b_bin_at .nil pass0 (pa_cons (pv 0) (pa_cons (pv 1) (pa_cons (pe_op op_add (pe_glob (v := .int 1000000000000000000000000000000000000000000000000000000000000) rfl c_WIDEST ⟨_, rfl⟩) pe_int) pa_nil)))))
      (pss_cons (ps_set (i := 5) nd rfl (by first | exact Or.inl rfl | exact Or.inr rfl) (pe_lst (pa_cons (pe_tup (pa_cons pe_non (pa_cons (pv 4) pa_nil))) pa_nil)))
      (pss_cons (ps_for (by first | exact PassesOwn.never | exact passes_of rfl) rfl (pi_reversed (by rfl) z_reversed (pa_cons (pv 3) pa_nil)) (pg_name (i := 6) nd rfl (by first | exact Or.inl rfl | exact Or.inr rfl)) (pss_cons (ps_set (i := 7) nd rfl (by first | exact Or.inl rfl | exact Or.inr rfl) (pe_call G_bin_at (hr.mono (by decide)) rfl mg_bin_at k_bin_at b_bin_at .nil pass0 (pa_cons (pv 0) (pa_cons (pv 1) (pa_cons (pv 6) pa_nil)))))
      (pss_one (ps_if (pt_cmpR op_ne (pv 7) (pe_ix (r := rIxT K) ix_tup (pe_ix (r := rIxL K) ix_list (pv 5) pe_int (fun _ _ => rfl)) pe_int (fun _ _ => rfl)) (nomark _)) (pss_one (ps_expr (pe_bm (r := rIns) PySem.F.plainAttrs_list PySem.F.slot_list_insert PySem.F.type_list_insert mt_insert (pv 5) (pa_cons pe_int (pa_cons (pe_tup (pa_cons (pv 6) (pa_cons (pv 7) pa_nil))) pa_nil))))) pss_nil))))
      (pss_one (ps_ret (pv 5))))))))), ?_⟩
    have w := show Wp ce E H0 (m_form_of a0_works a1_row) _ from w
    unfold m_form_of at w
    refine q_if2 G w (t_of (em_op (em_cb (ea_cons (Ev.nv (em_lc (c := (fun x_2989 : Row => (((M.ok x_2989).bind fun x_2992 => (M.ok (0 : Int)).bind fun y_2993 => ixM x_2992.cs y_2993).bind fun x_2994 => (M.ok (Cl.w (wd (Str.ofString "crush")))).bind fun y_2995 => .ok (decide (x_2994 = y_2995))))) (e := (fun x_2989 : Row => (M.ok x_2989))) (ei_list (e_wkr (em_var rfl r0))) (tg_name (K := K)) (fun _ _ _ ⟨_, h, _⟩ => by rw [h]; exact wipe1) (fun x_2989 _ _ _ g_2988 ⟨v_2990, h_2996, r_2991⟩ => by subst h_2996; exact (t_of (em_op (em_op (em_var rfl r_2991) em_int fun _ _ => o_rowix) (e_clw (em_wd (by decide +kernel))) fun _ _ => (o_eqD (by decide))))) (fun x_2989 _ _ _ g_2988 ⟨v_2990, h_2996, r_2991⟩ => by subst h_2996; exact (em_var rfl r_2991)))) ea_nil) fun _ => a_len) em_int fun _ _ => o_gt)) (fun F_3003 H_3004 g_3005 w => ?_) (fun F_3003 H_3004 g_3005 w => ?_)
    · have G := G.tr g_3005
      have r0 := Rep.mo (K := K) g_3005.ff r0
      have r1 := Rep.mo (K := K) g_3005.ff r1
      exact w _ G.hh
    · have G := G.tr g_3005
      have r0 := Rep.mo (K := K) g_3005.ff r0
      have r1 := Rep.mo (K := K) g_3005.ff r1
      refine s_next ?_
      refine s_nx ?_
      refine q_if2 G w (t_of (em_op (e_call0 (f := (fun a : (Wk × Unit) => m_ring_of a.1)) (x := (a0_works, ())) (e_cons (em_var rfl r0) ea_nil)) em_unit fun _ _ => o_notN)) (fun F_3008 H_3009 g_3010 w => ?_) (fun F_3008 H_3009 g_3010 w => ?_)
      · have G := G.tr g_3010
        have r0 := Rep.mo (K := K) g_3010.ff r0
        have r1 := Rep.mo (K := K) g_3010.ff r1
        exact w _ G.hh
      · have G := G.tr g_3010
        have r0 := Rep.mo (K := K) g_3010.ff r0
        have r1 := Rep.mo (K := K) g_3010.ff r1
        refine s_next ?_
        refine s_nx ?_
        refine q_asg (K := K) G w (Ev.nv (em_sortU (Ev.nv (em_lc (c := (fun x_3012 : Row => (((M.ok x_3012).bind fun x_3015 => (M.ok (0 : Int)).bind fun y_3016 => ixM x_3015.cs y_3016).bind fun x_3017 => (M.ok (Cl.w (wd (Str.ofString "mesh")))).bind fun y_3018 => .ok (decide (x_3017 = y_3018))))) (e := (fun x_3012 : Row => (((M.ok x_3012).bind fun x_3019 => (M.ok (1 : Int)).bind fun y_3020 => ixM x_3019.cs y_3020).bind clI))) (ei_list (e_wkr (em_var rfl r0))) (tg_name (K := K)) (fun _ _ _ ⟨_, h, _⟩ => by rw [h]; exact wipe1) (fun x_3012 _ _ _ g_3011 ⟨v_3013, h_3021, r_3014⟩ => by subst h_3021; exact (t_of (em_op (em_op (em_var rfl r_3014) em_int fun _ _ => o_rowix) (e_clw (em_wd (by decide +kernel))) fun _ _ => (o_eqD (by decide))))) (fun x_3012 _ _ _ g_3011 ⟨v_3013, h_3021, r_3014⟩ => by subst h_3021; exact (em_clI (em_op (em_var rfl r_3014) em_int fun _ _ => o_rowix))))))) fun openings_3023 F_3024 H_3025 v_3027 g_3026 r_3028 w => ?_
        have G := G.tr g_3026
        have r0 := Rep.mo (K := K) g_3026.ff r0
        have r1 := Rep.mo (K := K) g_3026.ff r1
        refine q_asg (K := K) G w (e_call0 (f := (fun a : (Wk × Int × Int × Unit) => m_bin_at a.1 a.2.1 a.2.2.1)) (x := (a0_works, a1_row, ((1000000000000000000000000000000000000000000000000000000000000) + (1 : Int)), ())) (e_cons (em_var rfl r0) (e_cons (em_var rfl r1) (e_cons (e2 em_int em_int o_add) ea_nil)))) fun last_3029 F_3030 H_3031 v_3033 g_3032 r_3034 w => ?_
        have G := G.tr g_3032
        have r0 := Rep.mo (K := K) g_3032.ff r0
        have r1 := Rep.mo (K := K) g_3032.ff r1
        have r_3028 := Rep.mo (K := K) g_3032.ff r_3028
        refine q_asgN (K := K) G w (e_lst (e_lcons (e_tup2 (em_none (α := Int)) (em_var rfl r_3034)) (el_nil (α := ((Option Int) × Int)))) (by simp)) fun form_3035 F_3036 H_3037 p_3039 g_3038 n_3040 o_3041 w => ?_
        have n0p_3039 := ex_back G.hh n_3040
        have G := G.tr g_3038
        have r0 := Rep.mo (K := K) g_3038.ff r0
        have r1 := Rep.mo (K := K) g_3038.ff r1
        have r_3028 := Rep.mo (K := K) g_3038.ff r_3028
        have r_3034 := Rep.mo (K := K) g_3038.ff r_3034
        refine q_for (S := (List ((Option Int) × Int))) (fun s F' H' σ' => ∃ (z_3042 : Option V) (z_3043 : Option V), σ' = [some v0, some v1, none, some v_3027, some v_3033, some (.ref p_3039), z_3042, z_3043] ∧ Gr F0 H0 F' H' ∧ Ex F_3036 F' ∧ Own K (T := (List ((Option Int) × Int))) F' H' p_3039 s) G (ei_rev (em_var rfl r_3028)) (tg_name (K := K)) w (fun _ _ g_3095 => ⟨_, _, rfl, G.tr g_3095, g_3095.ff, o_3041.mo g_3095⟩) (fun _ _ _ _ ⟨_, _, _, G, _⟩ => G) ?_ ?_
        · rintro x_3045 s_3044 F_3046 H_3047 _ ⟨z_3042, z_3043, hs_3048, G, e_3049, o_3050⟩ F_3051 H_3052 σ_3053 g_3054 ⟨v_3062, h_3064, r_3063⟩ D_3059 P_3060 hrt_3061 hN_3055 hC_3056 hB_3057 hP_3058 w
          subst hs_3048
          subst h_3064
          have r0 := Rep.mo (K := K) e_3049 r0
          have r1 := Rep.mo (K := K) e_3049 r1
          have r_3028 := Rep.mo (K := K) e_3049 r_3028
          have r_3034 := Rep.mo (K := K) e_3049 r_3034
          have G := G.tr g_3054
          have r0 := Rep.mo (K := K) g_3054.ff r0
          have r1 := Rep.mo (K := K) g_3054.ff r1
          have r_3028 := Rep.mo (K := K) g_3054.ff r_3028
          have r_3034 := Rep.mo (K := K) g_3054.ff r_3034
          have o_3050 := o_3050.mo g_3054
          have e_3049 := Ex.tr e_3049 g_3054.ff
          have e_3065 := Ex.rf F_3051
          have hQ : ∀ r F1 H1 v, Gr F0 H0 F1 H1 → (rn K (α := ((Option Int) × Int))) F0 H0 F1 H1 v r → P_3060 (.rt r) → D_3059.rt v H1 := fun r F1 H1 v g m p => by rw [hrt_3061]; exact hQ r F1 H1 v g m (hP_3058 _ p)
          unfold m_form_of_b1 at w
          refine q_asg (K := K) G w (e_call0 (f := (fun a : (Wk × Int × Int × Unit) => m_bin_at a.1 a.2.1 a.2.2.1)) (x := (a0_works, a1_row, x_3045, ())) (e_cons (em_var rfl r0) (e_cons (em_var rfl r1) (e_cons (em_var rfl r_3063) ea_nil)))) fun found_3066 F_3067 H_3068 v_3070 g_3069 r_3071 w => ?_
          have G := G.tr g_3069
          have r0 := Rep.mo (K := K) g_3069.ff r0
          have r1 := Rep.mo (K := K) g_3069.ff r1
          have r_3028 := Rep.mo (K := K) g_3069.ff r_3028
          have r_3034 := Rep.mo (K := K) g_3069.ff r_3034
          have o_3050 := o_3050.mo g_3069
          have r_3063 := Rep.mo (K := K) g_3069.ff r_3063
          have e_3049 := Ex.tr e_3049 g_3069.ff
          have e_3065 := Ex.tr e_3065 g_3069.ff
          refine s_if2A [p_3039] G w (own1 o_3050.f) (own1 o_3050.ls) (t_of (em_op (em_var rfl (Rep.mo (fz_ex G.fh) r_3071)) (em_ix (em_op (em_var rfl (o_3050.lent G.fh (by simp))) em_int fun _ _ => o_ixL) em_int fun _ => o_snd rfl) fun _ _ => o_neI)) (fun F_3077 H_3078 g_3079 w => ?_) (fun F_3077 H_3078 g_3079 w => ?_)
          · have G := G.tr g_3079
            have r0 := Rep.mo (K := K) g_3079.ff r0
            have r1 := Rep.mo (K := K) g_3079.ff r1
            have r_3028 := Rep.mo (K := K) g_3079.ff r_3028
            have r_3034 := Rep.mo (K := K) g_3079.ff r_3034
            have o_3050 := o_3050.mo g_3079
            have r_3063 := Rep.mo (K := K) g_3079.ff r_3063
            have r_3071 := Rep.mo (K := K) g_3079.ff r_3071
            have e_3049 := Ex.tr e_3049 g_3079.ff
            have e_3065 := Ex.tr e_3065 g_3079.ff
            refine s_insl [] rfl o_3050 n0p_3039 G w (fun _ m => nomatch m) (fun _ m => nomatch m) em_int (e_tup2 (e_some (em_var rfl (Rep.mo (fz_ex G.fh) r_3063))) (em_var rfl (Rep.mo (fz_ex G.fh) r_3071))) fun form_3080 F_3081 H_3082 e_3083 G o_3084 hO_3085 w => ?_
            have r0 := Rep.mo (K := K) e_3083 r0
            have r1 := Rep.mo (K := K) e_3083 r1
            have r_3028 := Rep.mo (K := K) e_3083 r_3028
            have r_3034 := Rep.mo (K := K) e_3083 r_3034
            have r_3063 := Rep.mo (K := K) e_3083 r_3063
            have r_3071 := Rep.mo (K := K) e_3083 r_3071
            have e_3049 := Ex.tr e_3049 e_3083
            have e_3065 := Ex.tr e_3065 e_3083
            exact hN_3055 _ w _ _ _ e_3065 ⟨_, _, rfl, G, e_3049, o_3084⟩
          · have G := G.tr g_3079
            have r0 := Rep.mo (K := K) g_3079.ff r0
            have r1 := Rep.mo (K := K) g_3079.ff r1
            have r_3028 := Rep.mo (K := K) g_3079.ff r_3028
            have r_3034 := Rep.mo (K := K) g_3079.ff r_3034
            have o_3050 := o_3050.mo g_3079
            have r_3063 := Rep.mo (K := K) g_3079.ff r_3063
            have r_3071 := Rep.mo (K := K) g_3079.ff r_3071
            have e_3049 := Ex.tr e_3049 g_3079.ff
            have e_3065 := Ex.tr e_3065 g_3079.ff
            refine s_next ?_
            exact hN_3055 _ w _ _ _ e_3065 ⟨_, _, rfl, G, e_3049, o_3050⟩
        · rintro s_3091 F_3092 H_3093 _ e_3094 ⟨z_3042, z_3043, hs_3088, G, e_3089, o_3090⟩ w
          subst hs_3088
          have r0 := Rep.mo (K := K) e_3089 r0
          have r1 := Rep.mo (K := K) e_3089 r1
          have r_3028 := Rep.mo (K := K) e_3089 r_3028
          have r_3034 := Rep.mo (K := K) e_3089 r_3034
          exact ⟨_, rfl, hQ _ _ _ _ G (rn_own o_3090 n0p_3039) w⟩
/-! ### bin_by -/
abbrev s_bin_by : Stmt := topS 22
abbrev N_bin_by : List Str := ["form", "size", "upto", "number"]
theorem sc_bin_by : FnScope N_bin_by ["form", "size"] (defScope s_bin_by) := ⟨rfl, rfl, rfl, by decide +kernel, rfl, by decide +kernel, by decide +kernel⟩
abbrev sp_bin_by (K : PySem.W.Frag) (ce : Ce) : Sp := SpF0 ce (RC K (α := (List ((Option Int) × Int))) (RC K (α := Int) R0)) (rv K (ρ := Int)) (fun a : ((List ((Option Int) × Int)) × Int × Unit) => m_bin_by a.1 a.2.1)
theorem ok_bin_by {f : Addr} {fd : FuncData} (FF : Fun K "bin_by" "bin_by" s_bin_by f fd) : FnOk P w K mg base CX0 1 f fd ["form", "size"] (sp_bin_by K ce) := by
  refine FF.ok sc_bin_by (fun vs H0 Q E h => ?_) (fun cdv A outer s H0 vs Q E hr h => ?_)
  · obtain ⟨F0, ⟨a0_form, a1_size, _⟩, e0, ⟨v0, _, rfl, r0, ⟨v1, _, rfl, r1, rfl⟩⟩, w⟩ := h
    rfl
  · obtain ⟨F0, ⟨a0_form, a1_size, _⟩, e0, ⟨v0, _, rfl, r0, ⟨v1, _, rfl, r1, rfl⟩⟩, w⟩ := h
    have w := wp_post w
    have G := Gr.rf e0
    have nd := sc_bin_by.nd
    have hQ : ∀ r F1 H1 v, Gr F0 H0 F1 H1 → (rv K (ρ := Int)) F0 H0 F1 H1 v r → Fin (rv K (ρ := Int)) F0 H0 Q r → Q v H1 := fun r F1 H1 v g m p => p F1 H1 v g m
    refine ⟨_, (pss_cons (ps_for (by first | exact PassesOwn.never | exact passes_of rfl) rfl (pi_list (pv 0)) (pg_tup rfl (pgs_cons (pg_name (i := 2) nd rfl (by first | exact Or.inl rfl | exact Or.inr rfl)) (pgs_cons (pg_name (i := 3) nd rfl (by first | exact Or.inl rfl | exact Or.inr rfl)) pgs_nil))) (pss_one (ps_if (PW.pt (pw_or (pt_cmpR op_isN (pv 2) pe_non (nomark _)) (pw_or1 (pt_cmpR op_le (pv 1) (pv 2) (nomark _))))) (pss_one (ps_ret (pv 3))) pss_nil)))
      (pss_one (ps_ret (pe_ix (r := rIxT K) ix_tup (pe_ix (r := rIxL K) ix_list (pv 0) (pe_un un_neg pe_int) (fun _ _ => rfl)) pe_int (fun _ _ => rfl))))), ?_⟩
    have w := show Wp ce E0 H0 (m_bin_by a0_form a1_size) _ from w
    unfold m_bin_by at w
    refine q_for (S := Unit) (fun s F' H' σ' => ∃ (z_3139 : Option V) (z_3140 : Option V), σ' = [some v0, some v1, z_3139, z_3140] ∧ Gr F0 H0 F' H' ∧ Ex F0 F') G (ei_list (em_var rfl r0)) (tg_tup2 (K := K)) w (fun _ _ g_3179 => ⟨_, _, rfl, G.tr g_3179, g_3179.ff⟩) (fun _ _ _ _ ⟨_, _, _, G, _⟩ => G) ?_ ?_
    · rintro x_3142 s_3141 F_3143 H_3144 _ ⟨z_3139, z_3140, hs_3145, G, e_3146⟩ F_3147 H_3148 σ_3149 g_3150 ⟨v_3158, v_3160, h_3162, r_3159, r_3161⟩ D_3155 P_3156 hrt_3157 hN_3151 hC_3152 hB_3153 hP_3154 w
      subst hs_3145
      subst h_3162
      have r0 := Rep.mo (K := K) e_3146 r0
      have r1 := Rep.mo (K := K) e_3146 r1
      have G := G.tr g_3150
      have r0 := Rep.mo (K := K) g_3150.ff r0
      have r1 := Rep.mo (K := K) g_3150.ff r1
      have e_3146 := Ex.tr e_3146 g_3150.ff
      have e_3163 := Ex.rf F_3147
      have hQ : ∀ r F1 H1 v, Gr F0 H0 F1 H1 → (rv K (ρ := Int)) F0 H0 F1 H1 v r → P_3156 (.rt r) → D_3155.rt v H1 := fun r F1 H1 v g m p => by rw [hrt_3157]; exact hQ r F1 H1 v g m (hP_3154 _ p)
      unfold m_bin_by_b1 at w
      refine s_if2 G w (tm_or (t_of (e2 (em_var rfl r_3159) em_unit o_isN)) (t_of (em_op (em_var rfl r1) (em_get (em_var rfl r_3159)) fun _ _ => o_le))) (fun F_3166 H_3167 g_3168 w => ?_) (fun F_3166 H_3167 g_3168 w => ?_)
      · have G := G.tr g_3168
        have r0 := Rep.mo (K := K) g_3168.ff r0
        have r1 := Rep.mo (K := K) g_3168.ff r1
        have r_3159 := Rep.mo (K := K) g_3168.ff r_3159
        have r_3161 := Rep.mo (K := K) g_3168.ff r_3161
        have e_3146 := Ex.tr e_3146 g_3168.ff
        have e_3163 := Ex.tr e_3163 g_3168.ff
        exact s_ret G w (em_var rfl r_3161) fun r F1 H1 v g m p => hQ r F1 H1 v g m p
      · have G := G.tr g_3168
        have r0 := Rep.mo (K := K) g_3168.ff r0
        have r1 := Rep.mo (K := K) g_3168.ff r1
        have r_3159 := Rep.mo (K := K) g_3168.ff r_3159
        have r_3161 := Rep.mo (K := K) g_3168.ff r_3161
        have e_3146 := Ex.tr e_3146 g_3168.ff
        have e_3163 := Ex.tr e_3163 g_3168.ff
        refine s_next ?_
        exact hN_3151 _ w _ _ _ e_3163 ⟨_, _, rfl, G, e_3146⟩
    · rintro s_3172 F_3173 H_3174 _ e_3175 ⟨z_3139, z_3140, hs_3170, G, e_3171⟩ w
      subst hs_3170
      have r0 := Rep.mo (K := K) e_3171 r0
      have r1 := Rep.mo (K := K) e_3171 r1
      exact s_ret0 G w (em_ix (em_op (em_var rfl r0) (e_neg em_int) fun _ _ => o_ixL) em_int fun _ => o_snd rfl) fun r F1 H1 v g m p => hQ r F1 H1 v g m p
/-! ### parted_at -/
abbrev s_parted_at : Stmt := topS 23
abbrev N_parted_at : List Str := ["one", "other", "first", "second", "begins", "pair", "size"]
theorem sc_parted_at : FnScope N_parted_at ["one", "other"] (defScope s_parted_at) := ⟨rfl, rfl, rfl, by decide +kernel, rfl, by decide +kernel, by decide +kernel⟩
abbrev sp_parted_at (K : PySem.W.Frag) (ce : Ce) : Sp := SpF ce (RC K (α := Wk) (RC K (α := Wk) R0)) (rv K (ρ := (Option Int))) (fun a : (Wk × Wk × Unit) => m_parted_at a.1 a.2.1)
theorem ok_parted_at {f : Addr} {fd : FuncData} (FF : Fun K "parted_at" "parted_at" s_parted_at f fd) {a_bin_by : Addr} {d_bin_by : FuncData} (G_bin_by : FnOk P w K mg base CX0 1 a_bin_by d_bin_by ["form", "size"] (sp_bin_by K ce)) (mg_bin_by : mg "bin_by" = some (.ref a_bin_by)) (k_bin_by : PySem.W.keepIn K (.ref a_bin_by) = true) (b_bin_by : Binds K d_bin_by ["form", "size"] []) {a_form_of : Addr} {d_form_of : FuncData} (G_form_of : FnOk P w K mg base (L2.CX P w) 6 a_form_of d_form_of ["works", "row"] (sp_form_of K ce)) (mg_form_of : mg "form_of" = some (.ref a_form_of)) (k_form_of : PySem.W.keepIn K (.ref a_form_of) = true) (b_form_of : Binds K d_form_of ["works", "row"] []) (z_sorted : mg "sorted" = none) : FnOk P w K mg base (L2.CX P w) 7 f fd ["one", "other"] (sp_parted_at K ce) := by
  refine FF.okX sc_parted_at (fun vs H0 Q E h => ?_) (fun cdv A outer s H0 vs Q E hr h => ?_)
  · obtain ⟨F0, ⟨a0_one, a1_other, _⟩, e0, ⟨v0, _, rfl, r0, ⟨v1, _, rfl, r1, rfl⟩⟩, w⟩ := h
    rfl
  · obtain ⟨F0, ⟨a0_one, a1_other, _⟩, e0, ⟨v0, _, rfl, r0, ⟨v1, _, rfl, r1, rfl⟩⟩, w⟩ := h
    have w := wp_post w
    have G := Gr.rf e0
    have nd := sc_parted_at.nd
    have hQ : ∀ r F1 H1 v, Gr F0 H0 F1 H1 → (rv K (ρ := (Option Int))) F0 H0 F1 H1 v r → Fin (rv K (ρ := (Option Int))) F0 H0 Q r → Q v H1 := fun r F1 H1 v g m p => p F1 H1 v g m
    refine ⟨_, (pss_cons (ps_set (i := 2) nd rfl (by first | exact Or.inl rfl | exact Or.inr rfl) (pe_call G_form_of (hr.mono (by decide)) rfl mg_form_of k_form_of b_form_of .nil (passes_call (takes_of rfl rfl rfl rfl) (fun _ _ _ _ h => h)) (pa_cons (pv 0) (pa_cons pe_int pa_nil))))
      (pss_cons (ps_set (i := 3) nd rfl (by first | exact Or.inl rfl | exact Or.inr rfl) (pe_call G_form_of (hr.mono (by decide)) rfl mg_form_of k_form_of b_form_of .nil (passes_call (takes_of rfl rfl rfl rfl) (fun _ _ _ _ h => h)) (pa_cons (pv 1) (pa_cons pe_int pa_nil))))
      (pss_cons (ps_set (i := 4) nd rfl (by first | exact Or.inl rfl | exact Or.inr rfl) (pe_op op_cat (pe_lst (pa_cons pe_int pa_nil)) (pe_lc (own := [("pair", 5)]) (g := (gName 5)) (by rfl) nd (pi_list (pe_op op_cat (pe_slice (r := rSlL K) sl_list (pv 2) po_none (po_some (pe_un un_neg pe_int))) (pe_slice (r := rSlL K) sl_list (pv 3) po_none (po_some (pe_un un_neg pe_int))))) (blkOk_by (own := [("pair", 5)]) (N := N_parted_at) (sc := defScope s_parted_at) (by decide +kernel)) (fun _ _ _ _ _ => (pg_name (i := 5) nd rfl (by first | exact Or.inl rfl | exact Or.inr rfl))) (fun _ _ _ _ _ => pts_nil) (fun _ _ _ _ _ => (pe_op op_add (pe_ix (r := rIxT K) ix_tup (pv 5) pe_int (fun _ _ => rfl)) pe_int)))))
      (pss_cons (ps_for (by first | exact PassesOwn.never | exact passes_of rfl) rfl (pi_list (pe_callB (r := rSortedI K) cr_sortedI (by rfl) z_sorted (by decide +kernel) (pa_cons (pv 4) pa_nil))) (pg_name (i := 6) nd rfl (by first | exact Or.inl rfl | exact Or.inr rfl)) (pss_one (ps_if (pt_cmpR op_ne (pe_call G_bin_by (hr.mono (by decide)) rfl mg_bin_by k_bin_by b_bin_by .nil pass0 (pa_cons (pv 2) (pa_cons (pv 6) pa_nil))) (pe_call G_bin_by (hr.mono (by decide)) rfl mg_bin_by k_bin_by b_bin_by .nil pass0 (pa_cons (pv 3) (pa_cons (pv 6) pa_nil))) (nomark _)) (pss_one (ps_ret (pv 6))) pss_nil)))
      (pss_one (ps_ret pe_non)))))), ?_⟩
    have w := show Wp ce E H0 (m_parted_at a0_one a1_other) _ from w
    unfold m_parted_at at w
    refine q_asg (K := K) G w (Ev.nv (e_callX (f := (fun a : (Wk × Int × Unit) => m_form_of a.1 a.2.1)) (x := (a0_one, (0 : Int), ())) (e_cons (em_var rfl r0) (e_cons em_int ea_nil)))) fun first_3247 F_3248 H_3249 v_3251 g_3250 r_3252 w => ?_
    have G := G.tr g_3250
    have r0 := Rep.mo (K := K) g_3250.ff r0
    have r1 := Rep.mo (K := K) g_3250.ff r1
    refine q_asg (K := K) G w (Ev.nv (e_callX (f := (fun a : (Wk × Int × Unit) => m_form_of a.1 a.2.1)) (x := (a1_other, (0 : Int), ())) (e_cons (em_var rfl r1) (e_cons em_int ea_nil)))) fun second_3253 F_3254 H_3255 v_3257 g_3256 r_3258 w => ?_
    have G := G.tr g_3256
    have r0 := Rep.mo (K := K) g_3256.ff r0
    have r1 := Rep.mo (K := K) g_3256.ff r1
    have r_3252 := Rep.mo (K := K) g_3256.ff r_3252
    refine q_asg (K := K) G w (Ev.nv (em_op (Ev.nv (e_lst (e_lcons em_int (el_nil (α := Int))) (by simp))) (Ev.nv (em_lc (c := (fun x_3262 : ((Option Int) × Int) => (M.ok true))) (e := (fun x_3262 : ((Option Int) × Int) => (((M.ok x_3262.1).bind getM).bind fun x_3265 => (M.ok (1 : Int)).bind fun y_3266 => .ok (x_3265 + y_3266)))) (ei_list (Ev.nv (em_op (Ev.nv (e_sl (em_var rfl r_3252) eo_none (eo_some' (K := K) (e_neg em_int)))) (Ev.nv (e_sl (em_var rfl r_3258) eo_none (eo_some' (K := K) (e_neg em_int)))) fun _ _ => o_cat))) (tg_name (K := K)) (fun _ _ _ ⟨_, h, _⟩ => by rw [h]; exact wipe1) (fun x_3262 _ _ _ g_3261 ⟨v_3263, h_3267, r_3264⟩ => by subst h_3267; exact t_yes) (fun x_3262 _ _ _ g_3261 ⟨v_3263, h_3267, r_3264⟩ => by subst h_3267; exact (em_op (em_get (e2 (em_var rfl r_3264) em_int (o_fst rfl))) em_int fun _ _ => o_add)))) fun _ _ => o_cat)) fun begins_3271 F_3272 H_3273 v_3275 g_3274 r_3276 w => ?_
    have G := G.tr g_3274
    have r0 := Rep.mo (K := K) g_3274.ff r0
    have r1 := Rep.mo (K := K) g_3274.ff r1
    have r_3252 := Rep.mo (K := K) g_3274.ff r_3252
    have r_3258 := Rep.mo (K := K) g_3274.ff r_3258
    refine q_for (S := Unit) (fun s F' H' σ' => ∃ (z_3277 : Option V), σ' = [some v0, some v1, some v_3251, some v_3257, some v_3275, none, z_3277] ∧ Gr F0 H0 F' H' ∧ Ex F_3272 F') G (ei_list (Ev.nv (e_cb (e_cons (em_var rfl r_3276) ea_nil) a_sorted))) (tg_name (K := K)) w (fun _ _ g_3311 => ⟨_, rfl, G.tr g_3311, g_3311.ff⟩) (fun _ _ _ _ ⟨_, _, G, _⟩ => G) ?_ ?_
    · rintro x_3279 s_3278 F_3280 H_3281 _ ⟨z_3277, hs_3282, G, e_3283⟩ F_3284 H_3285 σ_3286 g_3287 ⟨v_3295, h_3297, r_3296⟩ D_3292 P_3293 hrt_3294 hN_3288 hC_3289 hB_3290 hP_3291 w
      subst hs_3282
      subst h_3297
      have r0 := Rep.mo (K := K) e_3283 r0
      have r1 := Rep.mo (K := K) e_3283 r1
      have r_3252 := Rep.mo (K := K) e_3283 r_3252
      have r_3258 := Rep.mo (K := K) e_3283 r_3258
      have r_3276 := Rep.mo (K := K) e_3283 r_3276
      have G := G.tr g_3287
      have r0 := Rep.mo (K := K) g_3287.ff r0
      have r1 := Rep.mo (K := K) g_3287.ff r1
      have r_3252 := Rep.mo (K := K) g_3287.ff r_3252
      have r_3258 := Rep.mo (K := K) g_3287.ff r_3258
      have r_3276 := Rep.mo (K := K) g_3287.ff r_3276
      have e_3283 := Ex.tr e_3283 g_3287.ff
      have e_3298 := Ex.rf F_3284
      have hQ : ∀ r F1 H1 v, Gr F0 H0 F1 H1 → (rv K (ρ := (Option Int))) F0 H0 F1 H1 v r → P_3293 (.rt r) → D_3292.rt v H1 := fun r F1 H1 v g m p => by rw [hrt_3294]; exact hQ r F1 H1 v g m (hP_3291 _ p)
      unfold m_parted_at_b1 at w
      refine s_if2 G w (t_of (em_op (e_call0 (f := (fun a : ((List ((Option Int) × Int)) × Int × Unit) => m_bin_by a.1 a.2.1)) (x := (first_3247, x_3279, ())) (e_cons (em_var rfl r_3252) (e_cons (em_var rfl r_3296) ea_nil))) (e_call0 (f := (fun a : ((List ((Option Int) × Int)) × Int × Unit) => m_bin_by a.1 a.2.1)) (x := (second_3253, x_3279, ())) (e_cons (em_var rfl r_3258) (e_cons (em_var rfl r_3296) ea_nil))) fun _ _ => o_neI)) (fun F_3301 H_3302 g_3303 w => ?_) (fun F_3301 H_3302 g_3303 w => ?_)
      · have G := G.tr g_3303
        have r0 := Rep.mo (K := K) g_3303.ff r0
        have r1 := Rep.mo (K := K) g_3303.ff r1
        have r_3252 := Rep.mo (K := K) g_3303.ff r_3252
        have r_3258 := Rep.mo (K := K) g_3303.ff r_3258
        have r_3276 := Rep.mo (K := K) g_3303.ff r_3276
        have r_3296 := Rep.mo (K := K) g_3303.ff r_3296
        have e_3283 := Ex.tr e_3283 g_3303.ff
        have e_3298 := Ex.tr e_3298 g_3303.ff
        exact s_ret G w (e_some (em_var rfl r_3296)) fun r F1 H1 v g m p => hQ r F1 H1 v g m p
      · have G := G.tr g_3303
        have r0 := Rep.mo (K := K) g_3303.ff r0
        have r1 := Rep.mo (K := K) g_3303.ff r1
        have r_3252 := Rep.mo (K := K) g_3303.ff r_3252
        have r_3258 := Rep.mo (K := K) g_3303.ff r_3258
        have r_3276 := Rep.mo (K := K) g_3303.ff r_3276
        have r_3296 := Rep.mo (K := K) g_3303.ff r_3296
        have e_3283 := Ex.tr e_3283 g_3303.ff
        have e_3298 := Ex.tr e_3298 g_3303.ff
        refine s_next ?_
        exact hN_3288 _ w _ _ _ e_3298 ⟨_, rfl, G, e_3283⟩
    · rintro s_3307 F_3308 H_3309 _ e_3310 ⟨z_3277, hs_3305, G, e_3306⟩ w
      subst hs_3305
      have r0 := Rep.mo (K := K) e_3306 r0
      have r1 := Rep.mo (K := K) e_3306 r1
      have r_3252 := Rep.mo (K := K) e_3306 r_3252
      have r_3258 := Rep.mo (K := K) e_3306 r_3258
      have r_3276 := Rep.mo (K := K) e_3306 r_3276
      exact s_ret0 G w (em_none (α := Int)) fun r F1 H1 v g m p => hQ r F1 H1 v g m p
/-! ### _law_word -/
abbrev s_law_word : Stmt := topS 39
abbrev N_law_word : List Str := ["one", "other", "word", "e"]
theorem sc_law_word : FnScope N_law_word ["one", "other"] (defScope s_law_word) := ⟨rfl, rfl, rfl, by decide +kernel, rfl, by decide +kernel, by decide +kernel⟩
abbrev sp_law_word (K : PySem.W.Frag) (ce : Ce) : Sp := SpF0 ce (RC K (α := Wk) (RC K (α := Wk) R0)) (rv K (ρ := Wd)) (fun a : (Wk × Wk × Unit) => m_law_word a.1 a.2.1)
theorem ok_law_word {f : Addr} {fd : FuncData} (FF : Fun K "_law_word" "_law_word" s_law_word f fd) (mc_HasCrusher : mg "HasCrusher" = some (.ref (ce "HasCrusher"))) (mc_MeshError : mg "MeshError" = some (.ref (ce "MeshError"))) (mc_Stuck : mg "Stuck" = some (.ref (ce "Stuck"))) {a_parted_at : Addr} {d_parted_at : FuncData} (G_parted_at : FnOk P w K mg base (L2.CX P w) 7 a_parted_at d_parted_at ["one", "other"] (sp_parted_at K ce)) (mg_parted_at : mg "parted_at" = some (.ref a_parted_at)) (k_parted_at : PySem.W.keepIn K (.ref a_parted_at) = true) (b_parted_at : Binds K d_parted_at ["one", "other"] []) (ki_HasCrusher_HasCrusher : PySem.W.kitOne K (.ref (ce "HasCrusher")) (.ref (ce "HasCrusher")) = some true) (ki_HasCrusher_Stuck : PySem.W.kitOne K (.ref (ce "HasCrusher")) (.ref (ce "Stuck")) = some false) (ki_Stuck_HasCrusher : PySem.W.kitOne K (.ref (ce "Stuck")) (.ref (ce "HasCrusher")) = some false) (ki_Stuck_Stuck : PySem.W.kitOne K (.ref (ce "Stuck")) (.ref (ce "Stuck")) = some true) (xc_HasCrusher : ExcC K (ce "HasCrusher")) (xc_Stuck : ExcC K (ce "Stuck")) (xm_HasCrusher_MeshError : PySem.W.exmOne K (.ref (ce "HasCrusher")) (.ref (ce "MeshError")) = some true) (xm_Stuck_MeshError : PySem.W.exmOne K (.ref (ce "Stuck")) (.ref (ce "MeshError")) = some true) (z_isinstance : mg "isinstance" = none) : FnOk P w K mg base CX0 8 f fd ["one", "other"] (sp_law_word K ce) := by
  refine FF.ok sc_law_word (fun vs H0 Q E h => ?_) (fun cdv A outer s H0 vs Q E hr h => ?_)
  · obtain ⟨F0, ⟨a0_one, a1_other, _⟩, e0, ⟨v0, _, rfl, r0, ⟨v1, _, rfl, r1, rfl⟩⟩, w⟩ := h
    rfl
  · obtain ⟨F0, ⟨a0_one, a1_other, _⟩, e0, ⟨v0, _, rfl, r0, ⟨v1, _, rfl, r1, rfl⟩⟩, w⟩ := h
    have w := wp_post w
    have G := Gr.rf e0
    have nd := sc_law_word.nd
    have hQ : ∀ r F1 H1 v, Gr F0 H0 F1 H1 → (rv K (ρ := Wd)) F0 H0 F1 H1 v r → Fin (rv K (ρ := Wd)) F0 H0 Q r → Q v H1 := fun r F1 H1 v g m p => p F1 H1 v g m
    refine ⟨_, (pss_cons (ps_set (i := 2) nd rfl (by first | exact Or.inl rfl | exact Or.inr rfl) pe_str)
      (pss_cons (ps_tryA (i := 3) rfl rfl nd rfl rfl ⟨rfl, by decide, .inl mc_MeshError⟩ takes0 (fun W pn xe tk _ => (pss_one (ps_expr (pe_callS G_parted_at (hr.mono (by decide)) rfl mg_parted_at k_parted_at b_parted_at (fun σ => passAt tk σ) (pa_cons (pv 0) (pa_cons (pv 1) pa_nil)))))) (suite_by fun C a oe pn xc hz hf => (pss_cons (ps_set (i := 2) nd rfl (by first | exact Or.inl rfl | exact Or.inr rfl) pe_str)
      (pss_cons (ps_if (PW.pt (pw_and (pt_val (pe_callB (r := rIsE K C a) (call_isE xc hz hf) (by rfl) z_isinstance (by decide +kernel) (pa_cons (pv 3) (pa_cons (pe_glob (v := .ref (ce "HasCrusher")) rfl mc_HasCrusher rfl) pa_nil)))) (pw_and1 (pt_not (pt_val (pe_callB (r := rIsE K C a) (call_isE xc hz hf) (by rfl) z_isinstance (by decide +kernel) (pa_cons (pv 3) (pa_cons (pe_glob (v := .ref (ce "Stuck")) rfl mc_Stuck rfl) pa_nil)))))))) (pss_one (ps_set (i := 2) nd rfl (by first | exact Or.inl rfl | exact Or.inr rfl) pe_str)) pss_nil)
      (pss_one (ps_if (PW.pt (pw_and (pt_val (pe_callB (r := rIsE K C a) (call_isE xc hz hf) (by rfl) z_isinstance (by decide +kernel) (pa_cons (pv 3) (pa_cons (pe_glob (v := .ref (ce "Stuck")) rfl mc_Stuck rfl) pa_nil)))) (pw_and1 (pt_not (pt_val (pe_callB (r := rIsE K C a) (call_isE xc hz hf) (by rfl) z_isinstance (by decide +kernel) (pa_cons (pv 3) (pa_cons (pe_glob (v := .ref (ce "HasCrusher")) rfl mc_HasCrusher rfl) pa_nil)))))))) (pss_one (ps_set (i := 2) nd rfl (by first | exact Or.inl rfl | exact Or.inr rfl) pe_str)) pss_nil))))))
      (pss_one (ps_ret (pv 2))))), ?_⟩
    have w := show Wp ce E0 H0 (m_law_word a0_one a1_other) _ from w
    unfold m_law_word at w
    refine q_asg (K := K) G w (em_wd (by decide +kernel)) fun word_3414 F_3415 H_3416 v_3418 g_3417 r_3419 w => ?_
    have G := G.tr g_3417
    have r0 := Rep.mo (K := K) g_3417.ff r0
    have r1 := Rep.mo (K := K) g_3417.ff r1
    refine q_tryAs (α := Unit) (fun z : Unit => [some v0, some v1, some v_3418, none]) (fun s F' H' σ' => σ' = [some v0, some v1, some v_3418, none] ∧ Gr F0 H0 F' H' ∧ Ex F_3415 F') w ?_ ?_ ?_
    · rintro ⟨c_3438⟩ H_3439 z_3440 e_3437 w
      by_cases h_3513 : c_3438 = "HasCrusher"
      · subst h_3513
        replace w := wp_pos rfl w
        have G := G.er e_3437
        refine was_yes xm_HasCrusher_MeshError xc_HasCrusher fun a_3441 n_3442 => ?_
        refine q_asg (K := K) G w (em_wd (by decide +kernel)) fun word_3443 F_3444 H_3445 v_3447 g_3446 r_3448 w => ?_
        have G := G.tr g_3446
        have r0 := Rep.mo (K := K) g_3446.ff r0
        have r1 := Rep.mo (K := K) g_3446.ff r1
        refine q_join (W := Wd) (fun s F' H' σ' => ∃ (v_3453 : V), σ' = [some v0, some v1, some v_3453, some (.ref a_3441)] ∧ Gr F0 H0 F' H' ∧ Ex F_3444 F' ∧ rp (α := Wd) K F' v_3453 s) w ?_ ?_
        · rintro s_3452 F_3457 H_3458 σs_3452 ⟨v_3453, hs_3454, G, e_3455, r_3456⟩ w
          subst hs_3454
          have r0 := Rep.mo (K := K) e_3455 r0
          have r1 := Rep.mo (K := K) e_3455 r1
          refine s_if2 G w (t_and (t_B (e_isE (b := false) rfl (fun _ h => h) ki_HasCrusher_Stuck)) (t_not (t_B (e_isE (b := true) rfl (fun _ h => h) ki_HasCrusher_HasCrusher)))) (fun F_3459 H_3460 g_3461 w => ?_) (fun F_3459 H_3460 g_3461 w => ?_)
          · have G := G.tr g_3461
            have r0 := Rep.mo (K := K) g_3461.ff r0
            have r1 := Rep.mo (K := K) g_3461.ff r1
            have r_3456 := Rep.mo (K := K) g_3461.ff r_3456
            refine s_asg (K := K) G w (em_wd (by decide +kernel)) fun word_3462 F_3463 H_3464 v_3466 g_3465 r_3467 w => ?_
            have G := G.tr g_3465
            have r0 := Rep.mo (K := K) g_3465.ff r0
            have r1 := Rep.mo (K := K) g_3465.ff r1
            refine s_nx ?_
            exact s_ret0 G w (em_var rfl r_3467) fun r F1 H1 v g m p => hQ r F1 H1 v g m p
          · have G := G.tr g_3461
            have r0 := Rep.mo (K := K) g_3461.ff r0
            have r1 := Rep.mo (K := K) g_3461.ff r1
            have r_3456 := Rep.mo (K := K) g_3461.ff r_3456
            refine s_next ?_
            refine s_nx ?_
            exact s_ret0 G w (em_var rfl r_3456) fun r F1 H1 v g m p => hQ r F1 H1 v g m p
        · intro P_3469 hk_3468 w
          refine s_if2 G w (t_and (t_B (e_isE (b := true) rfl (fun _ h => h) ki_HasCrusher_HasCrusher)) (t_not (t_B (e_isE (b := false) rfl (fun _ h => h) ki_HasCrusher_Stuck)))) (fun F_3449 H_3450 g_3451 w => ?_) (fun F_3449 H_3450 g_3451 w => ?_)
          · have e_3470 : Ex F_3444 F_3449 := g_3451.ff
            have G := G.tr g_3451
            have r0 := Rep.mo (K := K) g_3451.ff r0
            have r1 := Rep.mo (K := K) g_3451.ff r1
            have r_3448 := Rep.mo (K := K) g_3451.ff r_3448
            refine s_asg (K := K) G w (em_wd (by decide +kernel)) fun word_3471 F_3472 H_3473 v_3475 g_3474 r_3476 w => ?_
            have G := G.tr g_3474
            have r0 := Rep.mo (K := K) g_3474.ff r0
            have r1 := Rep.mo (K := K) g_3474.ff r1
            have e_3470 := Ex.tr e_3470 g_3474.ff
            exact hk_3468 _ w _ _ _ ⟨_, rfl, G, e_3470, r_3476⟩
          · have e_3470 : Ex F_3444 F_3449 := g_3451.ff
            have G := G.tr g_3451
            have r0 := Rep.mo (K := K) g_3451.ff r0
            have r1 := Rep.mo (K := K) g_3451.ff r1
            have r_3448 := Rep.mo (K := K) g_3451.ff r_3448
            refine s_next ?_
            exact hk_3468 _ w _ _ _ ⟨_, rfl, G, e_3470, r_3448⟩
      · replace w := wp_neg h_3513 w
        by_cases h_3514 : c_3438 = "Stuck"
        · subst h_3514
          replace w := wp_pos rfl w
          have G := G.er e_3437
          refine was_yes xm_Stuck_MeshError xc_Stuck fun a_3477 n_3478 => ?_
          refine q_asg (K := K) G w (em_wd (by decide +kernel)) fun word_3479 F_3480 H_3481 v_3483 g_3482 r_3484 w => ?_
          have G := G.tr g_3482
          have r0 := Rep.mo (K := K) g_3482.ff r0
          have r1 := Rep.mo (K := K) g_3482.ff r1
          refine q_join (W := Wd) (fun s F' H' σ' => ∃ (v_3489 : V), σ' = [some v0, some v1, some v_3489, some (.ref a_3477)] ∧ Gr F0 H0 F' H' ∧ Ex F_3480 F' ∧ rp (α := Wd) K F' v_3489 s) w ?_ ?_
          · rintro s_3488 F_3493 H_3494 σs_3488 ⟨v_3489, hs_3490, G, e_3491, r_3492⟩ w
            subst hs_3490
            have r0 := Rep.mo (K := K) e_3491 r0
            have r1 := Rep.mo (K := K) e_3491 r1
            refine s_if2 G w (t_and (t_B (e_isE (b := true) rfl (fun _ h => h) ki_Stuck_Stuck)) (t_not (t_B (e_isE (b := false) rfl (fun _ h => h) ki_Stuck_HasCrusher)))) (fun F_3495 H_3496 g_3497 w => ?_) (fun F_3495 H_3496 g_3497 w => ?_)
            · have G := G.tr g_3497
              have r0 := Rep.mo (K := K) g_3497.ff r0
              have r1 := Rep.mo (K := K) g_3497.ff r1
              have r_3492 := Rep.mo (K := K) g_3497.ff r_3492
              refine s_asg (K := K) G w (em_wd (by decide +kernel)) fun word_3498 F_3499 H_3500 v_3502 g_3501 r_3503 w => ?_
              have G := G.tr g_3501
              have r0 := Rep.mo (K := K) g_3501.ff r0
              have r1 := Rep.mo (K := K) g_3501.ff r1
              refine s_nx ?_
              exact s_ret0 G w (em_var rfl r_3503) fun r F1 H1 v g m p => hQ r F1 H1 v g m p
            · have G := G.tr g_3497
              have r0 := Rep.mo (K := K) g_3497.ff r0
              have r1 := Rep.mo (K := K) g_3497.ff r1
              have r_3492 := Rep.mo (K := K) g_3497.ff r_3492
              refine s_next ?_
              refine s_nx ?_
              exact s_ret0 G w (em_var rfl r_3492) fun r F1 H1 v g m p => hQ r F1 H1 v g m p
          · intro P_3505 hk_3504 w
            refine s_if2 G w (t_and (t_B (e_isE (b := false) rfl (fun _ h => h) ki_Stuck_HasCrusher)) (t_not (t_B (e_isE (b := true) rfl (fun _ h => h) ki_Stuck_Stuck)))) (fun F_3485 H_3486 g_3487 w => ?_) (fun F_3485 H_3486 g_3487 w => ?_)
            · have e_3506 : Ex F_3480 F_3485 := g_3487.ff
              have G := G.tr g_3487
              have r0 := Rep.mo (K := K) g_3487.ff r0
              have r1 := Rep.mo (K := K) g_3487.ff r1
              have r_3484 := Rep.mo (K := K) g_3487.ff r_3484
              refine s_asg (K := K) G w (em_wd (by decide +kernel)) fun word_3507 F_3508 H_3509 v_3511 g_3510 r_3512 w => ?_
              have G := G.tr g_3510
              have r0 := Rep.mo (K := K) g_3510.ff r0
              have r1 := Rep.mo (K := K) g_3510.ff r1
              have e_3506 := Ex.tr e_3506 g_3510.ff
              exact hk_3504 _ w _ _ _ ⟨_, rfl, G, e_3506, r_3512⟩
            · have e_3506 : Ex F_3480 F_3485 := g_3487.ff
              have G := G.tr g_3487
              have r0 := Rep.mo (K := K) g_3487.ff r0
              have r1 := Rep.mo (K := K) g_3487.ff r1
              have r_3484 := Rep.mo (K := K) g_3487.ff r_3484
              refine s_next ?_
              exact hk_3504 _ w _ _ _ ⟨_, rfl, G, e_3506, r_3484⟩
        · replace w := wp_neg h_3514 w
          exact w.elim
    · rintro s_3420 F_3430 H_3431 σs_3420 ⟨hs_3428, G, e_3429⟩ w
      subst hs_3428
      have r0 := Rep.mo (K := K) e_3429 r0
      have r1 := Rep.mo (K := K) e_3429 r1
      have r_3419 := Rep.mo (K := K) e_3429 r_3419
      exact s_ret0 G w (em_var rfl r_3419) fun r F1 H1 v g m p => hQ r F1 H1 v g m p
    · intro E_3426 P_3427 hE_3421 hP_3422 hk_3423 w
      have Gt_3424 := G
      have G := Gr.rf G.fh
      have e_3432 := Ex.rf F_3415
      refine s_drop G w (e_callU (fun _ _ _ h => hE_3421 _ _ _ h (())) (f := (fun a : (Wk × Wk × Unit) => m_parted_at a.1 a.2.1)) (x := (a0_one, a1_other, ())) (e_cons (em_var rfl r0) (e_cons (em_var rfl r1) ea_nil))) fun x_3433 F_3434 H_3435 g_3436 w => ?_
      have G := G.tr g_3436
      have r0 := Rep.mo (K := K) g_3436.ff r0
      have r1 := Rep.mo (K := K) g_3436.ff r1
      have r_3419 := Rep.mo (K := K) g_3436.ff r_3419
      have e_3432 := Ex.tr e_3432 g_3436.ff
      exact hk_3423 _ w _ _ _ ⟨rfl, Gt_3424.tr G, e_3432⟩
/-! ### _law_refused -/
abbrev s_law_refused : Stmt := topS 40
abbrev N_law_refused : List Str := ["plain", "cell", "looped", "broken", "pairs", "pair"]
theorem sc_law_refused : FnScope N_law_refused ["plain", "cell"] (defScope s_law_refused) := ⟨rfl, rfl, rfl, by decide +kernel, rfl, by decide +kernel, by decide +kernel⟩
abbrev sp_law_refused (K : PySem.W.Frag) (ce : Ce) : Sp := SpF ce (RC K (α := Wk) (RC K (α := Int) R0)) (rv K (ρ := Bool)) (fun a : (Wk × Int × Unit) => m_law_refused a.1 a.2.1)
theorem ok_law_refused {f : Addr} {fd : FuncData} (FF : Fun K "_law_refused" "_law_refused" s_law_refused f fd) {a__law_word : Addr} {d__law_word : FuncData} (G__law_word : FnOk P w K mg base CX0 8 a__law_word d__law_word ["one", "other"] (sp_law_word K ce)) (mg__law_word : mg "_law_word" = some (.ref a__law_word)) (k__law_word : PySem.W.keepIn K (.ref a__law_word) = true) (b__law_word : Binds K d__law_word ["one", "other"] []) {a_Works : Addr} {d_Works : FuncData} (M_Works : Mk K (ce "Works") a_Works) (G_Works : FnOk P w K mg base (L2.CX P w) 2 a_Works d_Works ["self", "parts", "rows"] (sp_Works K ce)) (mgc_Works : mg "Works" = some (.ref (ce "Works"))) (b_Works : Binds K d_Works ["self", "parts", "rows"] []) : FnOk P w K mg base (L2.CX P w) 9 f fd ["plain", "cell"] (sp_law_refused K ce) := by
  refine FF.okX sc_law_refused (fun vs H0 Q E h => ?_) (fun cdv A outer s H0 vs Q E hr h => ?_)
  · obtain ⟨F0, ⟨a0_plain, a1_cell, _⟩, e0, ⟨v0, _, rfl, r0, ⟨v1, _, rfl, r1, rfl⟩⟩, w⟩ := h
    rfl
  · obtain ⟨F0, ⟨a0_plain, a1_cell, _⟩, e0, ⟨v0, _, rfl, r0, ⟨v1, _, rfl, r1, rfl⟩⟩, w⟩ := h
    have w := wp_post w
    have G := Gr.rf e0
    have nd := sc_law_refused.nd
    have hQ : ∀ r F1 H1 v, Gr F0 H0 F1 H1 → (rv K (ρ := Bool)) F0 H0 F1 H1 v r → Fin (rv K (ρ := Bool)) F0 H0 Q r → Q v H1 := fun r F1 H1 v g m p => p F1 H1 v g m
    refine ⟨_, (pss_cons (ps_set (i := 2) nd rfl (by first | exact Or.inl rfl | exact Or.inr rfl) (pe_make M_Works G_Works (hr.mono (by decide)) rfl mgc_Works b_Works .nil (passes_call (takes_of rfl rfl rfl rfl) (fun _ _ _ _ h => h)) (pa_cons pe_int (pa_cons (pe_lst (pa_cons (pe_tup (pa_cons pe_str (pa_cons (pe_op op_add pe_int (pe_op op_mod (pe_op op_fdiv (pv 1) pe_int) (pe_op op_pow pe_int pe_int))) (pa_cons (pe_ix (r := rIxL K) ix_list (pe_lst (pa_cons pe_int (pa_cons pe_int pa_nil))) (pe_op op_mod (pv 1) pe_int) (fun _ _ => rfl)) (pa_cons (pe_ix (r := rIxL K) ix_list (pe_lst (pa_cons pe_int (pa_cons pe_int pa_nil))) (pe_op op_mod (pv 1) pe_int) (fun _ _ => rfl)) pa_nil))))) (pa_cons (pe_tup (pa_cons pe_str (pa_cons pe_int pa_nil))) pa_nil))) pa_nil))))
      (pss_cons (ps_set (i := 3) nd rfl (by first | exact Or.inl rfl | exact Or.inr rfl) (pe_make M_Works G_Works (hr.mono (by decide)) rfl mgc_Works b_Works .nil (passes_call (takes_of rfl rfl rfl rfl) (fun _ _ _ _ h => h)) (pa_cons pe_int (pa_cons (pe_lst (pa_cons (pe_tup (pa_cons pe_str (pa_cons pe_int pa_nil))) (pa_cons (pe_tup (pa_cons pe_str (pa_cons pe_int pa_nil))) pa_nil))) pa_nil))))
      (pss_cons (ps_set (i := 4) nd rfl (by first | exact Or.inl rfl | exact Or.inr rfl) (pe_lst (pa_cons (pe_lst (pa_cons (pv 2) (pa_cons (pv 0) pa_nil))) (pa_cons (pe_lst (pa_cons (pv 0) (pa_cons (pv 2) pa_nil))) (pa_cons (pe_lst (pa_cons (pv 2) (pa_cons (pv 3) pa_nil))) pa_nil)))))
      (pss_cons (ps_if (pt_cmpR (r := rNeD K) (op_neD hr.units) (pe_lc (own := [("pair", 5)]) (g := (gName 5)) (by rfl) nd (pi_list (pv 4)) (blkOk_by (own := [("pair", 5)]) (N := N_law_refused) (sc := defScope s_law_refused) (by decide +kernel)) (fun _ _ _ _ _ => (pg_name (i := 5) nd rfl (by first | exact Or.inl rfl | exact Or.inr rfl))) (fun _ _ _ _ _ => pts_nil) (fun _ _ _ _ _ => (pe_call G__law_word (hr.mono (by decide)) rfl mg__law_word k__law_word b__law_word .nil pass0 (pa_cons (pe_ix (r := rIxL K) ix_list (pv 5) pe_int (fun _ _ => rfl)) (pa_cons (pe_ix (r := rIxL K) ix_list (pv 5) pe_int (fun _ _ => rfl)) pa_nil))))) (pe_lst (pa_cons pe_str (pa_cons pe_str (pa_cons pe_str pa_nil)))) (nomark _)) (pss_one (ps_ret pe_bl)) pss_nil)
      (pss_cons (ps_set (i := 4) nd rfl (by first | exact Or.inl rfl | exact Or.inr rfl) (pe_lst (pa_cons (pe_lst (pa_cons (pv 3) (pa_cons (pv 0) pa_nil))) (pa_cons (pe_lst (pa_cons (pv 0) (pa_cons (pv 3) pa_nil))) (pa_cons (pe_lst (pa_cons (pv 3) (pa_cons (pv 2) pa_nil))) (pa_cons (pe_lst (pa_cons (pv 3) (pa_cons (pv 3) pa_nil))) pa_nil))))))
      (pss_one (ps_ret (pe_cmpR (r := rEqD K) (op_eqD hr.units) (pe_lc (own := [("pair", 5)]) (g := (gName 5)) (by rfl) nd (pi_list (pv 4)) (blkOk_by (own := [("pair", 5)]) (N := N_law_refused) (sc := defScope s_law_refused) (by decide +kernel)) (fun _ _ _ _ _ => (pg_name (i := 5) nd rfl (by first | exact Or.inl rfl | exact Or.inr rfl))) (fun _ _ _ _ _ => pts_nil) (fun _ _ _ _ _ => (pe_call G__law_word (hr.mono (by decide)) rfl mg__law_word k__law_word b__law_word .nil pass0 (pa_cons (pe_ix (r := rIxL K) ix_list (pv 5) pe_int (fun _ _ => rfl)) (pa_cons (pe_ix (r := rIxL K) ix_list (pv 5) pe_int (fun _ _ => rfl)) pa_nil))))) (pe_lst (pa_cons pe_str (pa_cons pe_str (pa_cons pe_str (pa_cons pe_str pa_nil))))) (nomark _))))))))), ?_⟩
    have w := show Wp ce E H0 (m_law_refused a0_plain a1_cell) _ from w
    unfold m_law_refused at w
    refine q_asg (K := K) G w (em_makeX (f := (fun a : (Int × (List Row) × Unit) => m_Works a.1 a.2.1)) (ea_cons em_int (ea_cons (Ev.nv (em_lst' (el_cons (em_row (el_cons (e_clw (em_wd (by decide +kernel))) (el_cons (e_cli (e2 em_int (e2 (e2 (em_var rfl r1) em_int (o_fdiv ⟨by decide, by decide⟩)) (e_is (e2 em_int em_int (o_pow (by decide))) pow_10_60) (o_mod (by decide))) o_add)) (el_cons (em_cli (em_op (Ev.nv (e_lst (e_lcons em_int (e_lcons em_int (el_nil (α := Int)))) (by simp))) (e2 (em_var rfl r1) em_int (o_mod (by decide))) fun _ _ => o_ixL)) (el_cons (em_cli (em_op (Ev.nv (e_lst (e_lcons em_int (e_lcons em_int (el_nil (α := Int)))) (by simp))) (e2 (em_var rfl r1) em_int (o_mod (by decide))) fun _ _ => o_ixL)) (el_nil (α := Cl))))))) (el_cons (em_row (el_cons (e_clw (em_wd (by decide +kernel))) (el_cons (e_cli em_int) (el_nil (α := Cl))))) (el_nil (α := Row)))))) ea_nil))) fun looped_3656 F_3657 H_3658 v_3660 g_3659 r_3661 w => ?_
    have G := G.tr g_3659
    have r0 := Rep.mo (K := K) g_3659.ff r0
    have r1 := Rep.mo (K := K) g_3659.ff r1
    refine q_asg (K := K) G w (em_makeX (f := (fun a : (Int × (List Row) × Unit) => m_Works a.1 a.2.1)) (ea_cons em_int (ea_cons (Ev.nv (em_lst' (el_cons (em_row (el_cons (e_clw (em_wd (by decide +kernel))) (el_cons (e_cli em_int) (el_nil (α := Cl))))) (el_cons (em_row (el_cons (e_clw (em_wd (by decide +kernel))) (el_cons (e_cli em_int) (el_nil (α := Cl))))) (el_nil (α := Row)))))) ea_nil))) fun broken_3682 F_3683 H_3684 v_3686 g_3685 r_3687 w => ?_
    have G := G.tr g_3685
    have r0 := Rep.mo (K := K) g_3685.ff r0
    have r1 := Rep.mo (K := K) g_3685.ff r1
    have r_3661 := Rep.mo (K := K) g_3685.ff r_3661
    refine q_asg (K := K) G w (Ev.nv (e_lst (e_lcons (Ev.nv (e_lst (e_lcons (em_var rfl r_3661) (e_lcons (em_var rfl r0) (el_nil (α := Wk)))) (by simp))) (e_lcons (Ev.nv (e_lst (e_lcons (em_var rfl r0) (e_lcons (em_var rfl r_3661) (el_nil (α := Wk)))) (by simp))) (e_lcons (Ev.nv (e_lst (e_lcons (em_var rfl r_3661) (e_lcons (em_var rfl r_3687) (el_nil (α := Wk)))) (by simp))) (el_nil (α := (List Wk)))))) (by simp))) fun pairs_3688 F_3689 H_3690 v_3692 g_3691 r_3693 w => ?_
    have G := G.tr g_3691
    have r0 := Rep.mo (K := K) g_3691.ff r0
    have r1 := Rep.mo (K := K) g_3691.ff r1
    have r_3661 := Rep.mo (K := K) g_3691.ff r_3661
    have r_3687 := Rep.mo (K := K) g_3691.ff r_3687
    refine q_if2 G w (t_of (em_op (Ev.nv (em_lc (c := (fun x_3695 : (List Wk) => (M.ok true))) (e := (fun x_3695 : (List Wk) => ((((M.ok x_3695).bind fun x_3698 => (M.ok (0 : Int)).bind fun y_3699 => ixM x_3698 y_3699).bind fun x_3704 => (((M.ok x_3695).bind fun x_3700 => (M.ok (1 : Int)).bind fun y_3701 => ixM x_3700 y_3701).bind fun x_3702 => (M.ok ()).bind fun y_3703 => .ok (x_3702, y_3703)).bind fun y_3705 => .ok (x_3704, y_3705)).bind fun a_3706 => (m_law_word a_3706.1 a_3706.2.1).ne))) (ei_list (em_var rfl r_3693)) (tg_name (K := K)) (fun _ _ _ ⟨_, h, _⟩ => by rw [h]; exact wipe1) (fun x_3695 _ _ _ g_3694 ⟨v_3696, h_3707, r_3697⟩ => by subst h_3707; exact t_yes) (fun x_3695 _ _ _ g_3694 ⟨v_3696, h_3707, r_3697⟩ => by subst h_3707; exact (em_call0 (f := (fun a : (Wk × Wk × Unit) => m_law_word a.1 a.2.1)) (ea_cons (em_op (em_var rfl r_3697) em_int fun _ _ => o_ixL) (ea_cons (em_op (em_var rfl r_3697) em_int fun _ _ => o_ixL) ea_nil)))))) (Ev.nv (e_lst (e_lcons (em_wd (by decide +kernel)) (e_lcons (em_wd (by decide +kernel)) (e_lcons (em_wd (by decide +kernel)) (el_nil (α := Wd))))) (by simp))) fun _ _ => (o_neD (by decide)))) (fun F_3711 H_3712 g_3713 w => ?_) (fun F_3711 H_3712 g_3713 w => ?_)
    · have G := G.tr g_3713
      have r0 := Rep.mo (K := K) g_3713.ff r0
      have r1 := Rep.mo (K := K) g_3713.ff r1
      have r_3661 := Rep.mo (K := K) g_3713.ff r_3661
      have r_3687 := Rep.mo (K := K) g_3713.ff r_3687
      have r_3693 := Rep.mo (K := K) g_3713.ff r_3693
      exact s_ret0 G w em_bl fun r F1 H1 v g m p => hQ r F1 H1 v g m p
    · have G := G.tr g_3713
      have r0 := Rep.mo (K := K) g_3713.ff r0
      have r1 := Rep.mo (K := K) g_3713.ff r1
      have r_3661 := Rep.mo (K := K) g_3713.ff r_3661
      have r_3687 := Rep.mo (K := K) g_3713.ff r_3687
      have r_3693 := Rep.mo (K := K) g_3713.ff r_3693
      refine s_next ?_
      refine s_nx ?_
      refine q_asg (K := K) G w (Ev.nv (e_lst (e_lcons (Ev.nv (e_lst (e_lcons (em_var rfl r_3687) (e_lcons (em_var rfl r0) (el_nil (α := Wk)))) (by simp))) (e_lcons (Ev.nv (e_lst (e_lcons (em_var rfl r0) (e_lcons (em_var rfl r_3687) (el_nil (α := Wk)))) (by simp))) (e_lcons (Ev.nv (e_lst (e_lcons (em_var rfl r_3687) (e_lcons (em_var rfl r_3661) (el_nil (α := Wk)))) (by simp))) (e_lcons (Ev.nv (e_lst (e_lcons (em_var rfl r_3687) (e_lcons (em_var rfl r_3687) (el_nil (α := Wk)))) (by simp))) (el_nil (α := (List Wk))))))) (by simp))) fun pairs_3714 F_3715 H_3716 v_3718 g_3717 r_3719 w => ?_
      have G := G.tr g_3717
      have r0 := Rep.mo (K := K) g_3717.ff r0
      have r1 := Rep.mo (K := K) g_3717.ff r1
      have r_3661 := Rep.mo (K := K) g_3717.ff r_3661
      have r_3687 := Rep.mo (K := K) g_3717.ff r_3687
      exact s_ret0 G w (em_op (Ev.nv (em_lc (c := (fun x_3721 : (List Wk) => (M.ok true))) (e := (fun x_3721 : (List Wk) => ((((M.ok x_3721).bind fun x_3724 => (M.ok (0 : Int)).bind fun y_3725 => ixM x_3724 y_3725).bind fun x_3730 => (((M.ok x_3721).bind fun x_3726 => (M.ok (1 : Int)).bind fun y_3727 => ixM x_3726 y_3727).bind fun x_3728 => (M.ok ()).bind fun y_3729 => .ok (x_3728, y_3729)).bind fun y_3731 => .ok (x_3730, y_3731)).bind fun a_3732 => (m_law_word a_3732.1 a_3732.2.1).ne))) (ei_list (em_var rfl r_3719)) (tg_name (K := K)) (fun _ _ _ ⟨_, h, _⟩ => by rw [h]; exact wipe1) (fun x_3721 _ _ _ g_3720 ⟨v_3722, h_3733, r_3723⟩ => by subst h_3733; exact t_yes) (fun x_3721 _ _ _ g_3720 ⟨v_3722, h_3733, r_3723⟩ => by subst h_3733; exact (em_call0 (f := (fun a : (Wk × Wk × Unit) => m_law_word a.1 a.2.1)) (ea_cons (em_op (em_var rfl r_3723) em_int fun _ _ => o_ixL) (ea_cons (em_op (em_var rfl r_3723) em_int fun _ _ => o_ixL) ea_nil)))))) (Ev.nv (e_lst (e_lcons (em_wd (by decide +kernel)) (e_lcons (em_wd (by decide +kernel)) (e_lcons (em_wd (by decide +kernel)) (e_lcons (em_wd (by decide +kernel)) (el_nil (α := Wd)))))) (by simp))) fun _ _ => (o_eqD (by decide))) fun r F1 H1 v g m p => hQ r F1 H1 v g m p
/-! ### _law_whole -/
abbrev s_law_whole : Stmt := topS 25
abbrev N_law_whole : List Str := ["found"]
theorem sc_law_whole : FnScope N_law_whole ["found"] (defScope s_law_whole) := ⟨rfl, rfl, rfl, by decide +kernel, rfl, by decide +kernel, by decide +kernel⟩
abbrev sp_law_whole (K : PySem.W.Frag) (ce : Ce) : Sp := SpF0 ce (RC K (α := Int) R0) (rv K (ρ := Bool)) (fun a : (Int × Unit) => m_law_whole a.1)
theorem ok_law_whole {f : Addr} {fd : FuncData} (FF : Fun K "_law_whole" "_law_whole" s_law_whole f fd) (z_bool : mg "bool" = none) (z_int : mg "int" = none) (z_isinstance : mg "isinstance" = none) : FnOk P w K mg base CX0 1 f fd ["found"] (sp_law_whole K ce) := by
  refine FF.ok sc_law_whole (fun vs H0 Q E h => ?_) (fun cdv A outer s H0 vs Q E hr h => ?_)
  · obtain ⟨F0, ⟨a0_found, _⟩, e0, ⟨v0, _, rfl, r0, rfl⟩, w⟩ := h
    rfl
  · obtain ⟨F0, ⟨a0_found, _⟩, e0, ⟨v0, _, rfl, r0, rfl⟩, w⟩ := h
    have w := wp_post w
    have G := Gr.rf e0
    have nd := sc_law_whole.nd
    have hQ : ∀ r F1 H1 v, Gr F0 H0 F1 H1 → (rv K (ρ := Bool)) F0 H0 F1 H1 v r → Fin (rv K (ρ := Bool)) F0 H0 Q r → Q v H1 := fun r F1 H1 v g m p => p F1 H1 v g m
    refine ⟨_, (pss_one (ps_ret (pe_and (pe_callB (r := rIsi K) call_isi (by rfl) z_isinstance (by decide +kernel) (pa_cons (pv 0) (pa_cons (pe_bltn (v := .ty "int") (by rfl) z_int (by decide +kernel) rfl) pa_nil))) (pe_one (pe_not (pe_callB (r := rIsi K) call_isi (by rfl) z_isinstance (by decide +kernel) (pa_cons (pv 0) (pa_cons (pe_bltn (v := .ty "bool") (by rfl) z_bool (by decide +kernel) rfl) pa_nil)))))))), ?_⟩
    have w := show Wp ce E0 H0 (m_law_whole a0_found) _ from w
    unfold m_law_whole at w
    exact s_ret0 G w (e_andV (e_isi (b := true) (em_var rfl r0) (kit_ty (by decide +kernel))) (e_notV (e_isi (b := false) (em_var rfl r0) (kit_ty (by decide +kernel))))) fun r F1 H1 v g m p => hQ r F1 H1 v g m p
/-! ### law -/
abbrev s_law : Stmt := topS 41
abbrev N_law : List Str := ["script", "one", "other", "kept", "pair", "due", "found"]
theorem sc_law : FnScope N_law ["script"] (defScope s_law) := ⟨rfl, rfl, rfl, by decide +kernel, rfl, by decide +kernel, by decide +kernel⟩
abbrev sp_law (K : PySem.W.Frag) (ce : Ce) : Sp := SpF ce (RC K (α := Scr) R0) (rv K (ρ := Bool)) (fun a : (Scr × Unit) => m_law a.1)
theorem ok_law {f : Addr} {fd : FuncData} (FF : Fun K "law" "law" s_law f fd) {a__law_cell_at : Addr} {d__law_cell_at : FuncData} (G__law_cell_at : FnOk P w K mg base CX0 1 a__law_cell_at d__law_cell_at ["script", "k"] (sp_law_cell_at K ce)) (mg__law_cell_at : mg "_law_cell_at" = some (.ref a__law_cell_at)) (k__law_cell_at : PySem.W.keepIn K (.ref a__law_cell_at) = true) (b__law_cell_at : Binds K d__law_cell_at ["script", "k"] []) {a__law_due : Addr} {d__law_due : FuncData} (G__law_due : FnOk P w K mg base CX0 2 a__law_due d__law_due ["one", "other"] (sp_law_due K ce)) (mg__law_due : mg "_law_due" = some (.ref a__law_due)) (k__law_due : PySem.W.keepIn K (.ref a__law_due) = true) (b__law_due : Binds K d__law_due ["one", "other"] []) {a__law_free : Addr} {d__law_free : FuncData} (G__law_free : FnOk P w K mg base (L2.CX P w) 5 a__law_free d__law_free ["script", "first", "parts"] (sp_law_free K ce)) (mg__law_free : mg "_law_free" = some (.ref a__law_free)) (k__law_free : PySem.W.keepIn K (.ref a__law_free) = true) (b__law_free : Binds K d__law_free ["script", "first", "parts"] []) {a__law_refused : Addr} {d__law_refused : FuncData} (G__law_refused : FnOk P w K mg base (L2.CX P w) 9 a__law_refused d__law_refused ["plain", "cell"] (sp_law_refused K ce)) (mg__law_refused : mg "_law_refused" = some (.ref a__law_refused)) (k__law_refused : PySem.W.keepIn K (.ref a__law_refused) = true) (b__law_refused : Binds K d__law_refused ["plain", "cell"] []) {a__law_stuck : Addr} {d__law_stuck : FuncData} (G__law_stuck : FnOk P w K mg base CX0 3 a__law_stuck d__law_stuck ["rows"] (sp_law_stuck K ce)) (mg__law_stuck : mg "_law_stuck" = some (.ref a__law_stuck)) (k__law_stuck : PySem.W.keepIn K (.ref a__law_stuck) = true) (b__law_stuck : Binds K d__law_stuck ["rows"] []) {a__law_turned : Addr} {d__law_turned : FuncData} (G__law_turned : FnOk P w K mg base (L2.CX P w) 4 a__law_turned d__law_turned ["works", "cell"] (sp_law_turned K ce)) (mg__law_turned : mg "_law_turned" = some (.ref a__law_turned)) (k__law_turned : PySem.W.keepIn K (.ref a__law_turned) = true) (b__law_turned : Binds K d__law_turned ["works", "cell"] []) {a__law_whole : Addr} {d__law_whole : FuncData} (G__law_whole : FnOk P w K mg base CX0 1 a__law_whole d__law_whole ["found"] (sp_law_whole K ce)) (mg__law_whole : mg "_law_whole" = some (.ref a__law_whole)) (k__law_whole : PySem.W.keepIn K (.ref a__law_whole) = true) (b__law_whole : Binds K d__law_whole ["found"] []) {a_parted_at : Addr} {d_parted_at : FuncData} (G_parted_at : FnOk P w K mg base (L2.CX P w) 7 a_parted_at d_parted_at ["one", "other"] (sp_parted_at K ce)) (mg_parted_at : mg "parted_at" = some (.ref a_parted_at)) (k_parted_at : PySem.W.keepIn K (.ref a_parted_at) = true) (b_parted_at : Binds K d_parted_at ["one", "other"] []) (z_list : mg "list" = none) : FnOk P w K mg base (L2.CX P w) 10 f fd ["script"] (sp_law K ce) := by
  refine FF.okX sc_law (fun vs H0 Q E h => ?_) (fun cdv A outer s H0 vs Q E hr h => ?_)
  · obtain ⟨F0, ⟨a0_script, _⟩, e0, ⟨v0, _, rfl, r0, rfl⟩, w⟩ := h
    rfl
  · obtain ⟨F0, ⟨a0_script, _⟩, e0, ⟨v0, _, rfl, r0, rfl⟩, w⟩ := h
    have w := wp_post w
    have G := Gr.rf e0
    have nd := sc_law.nd
    have hQ : ∀ r F1 H1 v, Gr F0 H0 F1 H1 → (rv K (ρ := Bool)) F0 H0 F1 H1 v r → Fin (rv K (ρ := Bool)) F0 H0 Q r → Q v H1 := fun r F1 H1 v g m p => p F1 H1 v g m
    refine ⟨_, (pss_cons (ps_set (i := 1) nd rfl (by first | exact Or.inl rfl | exact Or.inr rfl) (pe_call G__law_free (hr.mono (by decide)) rfl mg__law_free k__law_free b__law_free .nil (passes_call (takes_of rfl rfl rfl rfl) (fun _ _ _ _ h => h)) (pa_cons (pv 0) (pa_cons pe_int (pa_cons pe_int pa_nil)))))
      (pss_cons (ps_set (i := 2) nd rfl (by first | exact Or.inl rfl | exact Or.inr rfl) (pe_call G__law_free (hr.mono (by decide)) rfl mg__law_free k__law_free b__law_free .nil (passes_call (takes_of rfl rfl rfl rfl) (fun _ _ _ _ h => h)) (pa_cons (pv 0) (pa_cons pe_int (pa_cons pe_int pa_nil)))))
      (pss_cons (ps_if (pt_cmpR op_eq (pe_op op_mod (pe_call G__law_cell_at (hr.mono (by decide)) rfl mg__law_cell_at k__law_cell_at b__law_cell_at .nil pass0 (pa_cons (pv 0) (pa_cons pe_int pa_nil))) pe_int) pe_int (nomark _)) (pss_cons (ps_set (i := 2) nd rfl (by first | exact Or.inl rfl | exact Or.inr rfl) (pe_call G__law_turned (hr.mono (by decide)) rfl mg__law_turned k__law_turned b__law_turned .nil (passes_call (takes_of rfl rfl rfl rfl) (fun _ _ _ _ h => h)) (pa_cons (pv 1) (pa_cons (pe_op op_fdivW (pe_call G__law_cell_at (hr.mono (by decide)) rfl mg__law_cell_at k__law_cell_at b__law_cell_at .nil pass0 (pa_cons (pv 0) (pa_cons pe_int pa_nil))) pe_int) pa_nil))))
      (pss_one (ps_if (pt_val (pe_call G__law_stuck (hr.mono (by decide)) rfl mg__law_stuck k__law_stuck b__law_stuck .nil pass0 (pa_cons (pe_fld (pv 2) rfl) pa_nil))) (pss_one (ps_set (i := 2) nd rfl (by first | exact Or.inl rfl | exact Or.inr rfl) (pv 1))) pss_nil))) pss_nil)
      (pss_cons (ps_set (i := 3) nd rfl (by first | exact Or.inl rfl | exact Or.inr rfl) (pe_lst (pa_cons (pe_callTy (r := rListS K) call_list_of (by rfl) z_list (by decide +kernel) (pa_cons (pe_fld (pv 1) rfl) pa_nil)) (pa_cons (pe_callTy (r := rListS K) call_list_of (by rfl) z_list (by decide +kernel) (pa_cons (pe_fld (pv 2) rfl) pa_nil)) pa_nil))))
      (pss_cons (ps_for (by first | exact PassesOwn.never | exact passes_of rfl) rfl (pi_list (pe_lst (pa_cons (pe_lst (pa_cons (pv 1) (pa_cons (pv 2) pa_nil))) (pa_cons (pe_lst (pa_cons (pv 2) (pa_cons (pv 1) pa_nil))) (pa_cons (pe_lst (pa_cons (pv 1) (pa_cons (pv 1) pa_nil))) pa_nil))))) (pg_name (i := 4) nd rfl (by first | exact Or.inl rfl | exact Or.inr rfl)) (pss_cons (ps_set (i := 5) nd rfl (by first | exact Or.inl rfl | exact Or.inr rfl) (pe_call G__law_due (hr.mono (by decide)) rfl mg__law_due k__law_due b__law_due .nil pass0 (pa_cons (pe_ix (r := rIxL K) ix_list (pv 4) pe_int (fun _ _ => rfl)) (pa_cons (pe_ix (r := rIxL K) ix_list (pv 4) pe_int (fun _ _ => rfl)) pa_nil))))
      (pss_cons (ps_set (i := 6) nd rfl (by first | exact Or.inl rfl | exact Or.inr rfl) (pe_call G_parted_at (hr.mono (by decide)) rfl mg_parted_at k_parted_at b_parted_at .nil (passes_call (takes_of rfl rfl rfl rfl) (fun _ _ _ _ h => h)) (pa_cons (pe_ix (r := rIxL K) ix_list (pv 4) pe_int (fun _ _ => rfl)) (pa_cons (pe_ix (r := rIxL K) ix_list (pv 4) pe_int (fun _ _ => rfl)) pa_nil))))
      (pss_cons (ps_if (PW.pt (pw_and (pt_cmpR op_isN (pv 5) pe_non (nomark _)) (pw_and1 (pt_cmpR op_notN (pv 6) pe_non (nomark _))))) (pss_one (ps_ret pe_bl)) pss_nil)
      (pss_one (ps_if (PW.pt (pw_and (pt_cmpR op_notN (pv 5) pe_non (nomark _)) (pw_and1 (PW.pt (pw_or (pt_not (pt_val (pe_call G__law_whole (hr.mono (by decide)) rfl mg__law_whole k__law_whole b__law_whole .nil pass0 (pa_cons (pv 6) pa_nil)))) (pw_or1 (pt_cmpR (r := rNeD K) (op_neD hr.units) (pv 6) (pv 5) (nomark _)))))))) (pss_one (ps_ret pe_bl)) pss_nil))))))
      (pss_one (ps_ret (pe_and (pe_cmpR (r := rEqD K) (op_eqD hr.units) (pe_lst (pa_cons (pe_fld (pv 1) rfl) (pa_cons (pe_fld (pv 2) rfl) pa_nil))) (pv 3) (nomark _)) (pe_one (pe_call G__law_refused (hr.mono (by decide)) rfl mg__law_refused k__law_refused b__law_refused .nil (passes_call (takes_of rfl rfl rfl rfl) (fun _ _ _ _ h => h)) (pa_cons (pv 1) (pa_cons (pe_call G__law_cell_at (hr.mono (by decide)) rfl mg__law_cell_at k__law_cell_at b__law_cell_at .nil pass0 (pa_cons (pv 0) (pa_cons pe_int pa_nil))) pa_nil)))))))))))), ?_⟩
    have w := show Wp ce E H0 (m_law a0_script) _ from w
    unfold m_law at w
    refine q_asg (K := K) G w (e_callX (f := (fun a : (Scr × Int × Int × Unit) => m_law_free a.1 a.2.1 a.2.2.1)) (x := (a0_script, (0 : Int), (2 : Int), ())) (e_cons (em_var rfl r0) (e_cons em_int (e_cons em_int ea_nil)))) fun one_3872 F_3873 H_3874 v_3876 g_3875 r_3877 w => ?_
    have G := G.tr g_3875
    have r0 := Rep.mo (K := K) g_3875.ff r0
    refine q_asg (K := K) G w (e_callX (f := (fun a : (Scr × Int × Int × Unit) => m_law_free a.1 a.2.1 a.2.2.1)) (x := (a0_script, (12 : Int), (9 : Int), ())) (e_cons (em_var rfl r0) (e_cons em_int (e_cons em_int ea_nil)))) fun other_3878 F_3879 H_3880 v_3882 g_3881 r_3883 w => ?_
    have G := G.tr g_3881
    have r0 := Rep.mo (K := K) g_3881.ff r0
    have r_3877 := Rep.mo (K := K) g_3881.ff r_3877
    refine q_join (W := Wk) (fun s F' H' σ' => ∃ (v_3892 : V), σ' = [some v0, some v_3876, some v_3892, none, none, none, none] ∧ Gr F0 H0 F' H' ∧ Ex F_3879 F' ∧ rp (α := Wk) K F' v_3892 s) w ?_ ?_
    · rintro s_3891 F_3896 H_3897 σs_3891 ⟨v_3892, hs_3893, G, e_3894, r_3895⟩ w
      subst hs_3893
      have r0 := Rep.mo (K := K) e_3894 r0
      have r_3877 := Rep.mo (K := K) e_3894 r_3877
      refine q_asg (K := K) G w (Ev.nv (e_lst (e_lcons (Ev.nv (e_cb (e_cons (e_wkr (em_var rfl r_3877)) ea_nil) a_list)) (e_lcons (Ev.nv (e_cb (e_cons (e_wkr (em_var rfl r_3895)) ea_nil) a_list)) (el_nil (α := (List Row))))) (by simp))) fun kept_3898 F_3899 H_3900 v_3902 g_3901 r_3903 w => ?_
      have G := G.tr g_3901
      have r0 := Rep.mo (K := K) g_3901.ff r0
      have r_3877 := Rep.mo (K := K) g_3901.ff r_3877
      have r_3895 := Rep.mo (K := K) g_3901.ff r_3895
      refine q_for (S := Unit) (fun s F' H' σ' => ∃ (z_3904 : Option V) (z_3905 : Option V) (z_3906 : Option V), σ' = [some v0, some v_3876, some v_3892, some v_3902, z_3904, z_3905, z_3906] ∧ Gr F0 H0 F' H' ∧ Ex F_3899 F') G (ei_list (Ev.nv (e_lst (e_lcons (Ev.nv (e_lst (e_lcons (em_var rfl r_3877) (e_lcons (em_var rfl r_3895) (el_nil (α := Wk)))) (by simp))) (e_lcons (Ev.nv (e_lst (e_lcons (em_var rfl r_3895) (e_lcons (em_var rfl r_3877) (el_nil (α := Wk)))) (by simp))) (e_lcons (Ev.nv (e_lst (e_lcons (em_var rfl r_3877) (e_lcons (em_var rfl r_3877) (el_nil (α := Wk)))) (by simp))) (el_nil (α := (List Wk)))))) (by simp)))) (tg_name (K := K)) w (fun _ _ g_3980 => ⟨_, _, _, rfl, G.tr g_3980, g_3980.ff⟩) (fun _ _ _ _ ⟨_, _, _, _, G, _⟩ => G) ?_ ?_
      · rintro x_3908 s_3907 F_3909 H_3910 _ ⟨z_3904, z_3905, z_3906, hs_3911, G, e_3912⟩ F_3913 H_3914 σ_3915 g_3916 ⟨v_3924, h_3926, r_3925⟩ D_3921 P_3922 hrt_3923 hN_3917 hC_3918 hB_3919 hP_3920 w
        subst hs_3911
        subst h_3926
        have r0 := Rep.mo (K := K) e_3912 r0
        have r_3877 := Rep.mo (K := K) e_3912 r_3877
        have r_3895 := Rep.mo (K := K) e_3912 r_3895
        have r_3903 := Rep.mo (K := K) e_3912 r_3903
        have G := G.tr g_3916
        have r0 := Rep.mo (K := K) g_3916.ff r0
        have r_3877 := Rep.mo (K := K) g_3916.ff r_3877
        have r_3895 := Rep.mo (K := K) g_3916.ff r_3895
        have r_3903 := Rep.mo (K := K) g_3916.ff r_3903
        have e_3912 := Ex.tr e_3912 g_3916.ff
        have e_3927 := Ex.rf F_3913
        have hQ : ∀ r F1 H1 v, Gr F0 H0 F1 H1 → (rv K (ρ := Bool)) F0 H0 F1 H1 v r → P_3922 (.rt r) → D_3921.rt v H1 := fun r F1 H1 v g m p => by rw [hrt_3923]; exact hQ r F1 H1 v g m (hP_3920 _ p)
        unfold m_law_b1 at w
        refine q_asg (K := K) G w (em_call0 (f := (fun a : (Wk × Wk × Unit) => m_law_due a.1 a.2.1)) (ea_cons (em_op (em_var rfl r_3925) em_int fun _ _ => o_ixL) (ea_cons (em_op (em_var rfl r_3925) em_int fun _ _ => o_ixL) ea_nil))) fun due_3937 F_3938 H_3939 v_3941 g_3940 r_3942 w => ?_
        have G := G.tr g_3940
        have r0 := Rep.mo (K := K) g_3940.ff r0
        have r_3877 := Rep.mo (K := K) g_3940.ff r_3877
        have r_3895 := Rep.mo (K := K) g_3940.ff r_3895
        have r_3903 := Rep.mo (K := K) g_3940.ff r_3903
        have r_3925 := Rep.mo (K := K) g_3940.ff r_3925
        have e_3912 := Ex.tr e_3912 g_3940.ff
        have e_3927 := Ex.tr e_3927 g_3940.ff
        refine q_asg (K := K) G w (em_callX (f := (fun a : (Wk × Wk × Unit) => m_parted_at a.1 a.2.1)) (ea_cons (em_op (em_var rfl r_3925) em_int fun _ _ => o_ixL) (ea_cons (em_op (em_var rfl r_3925) em_int fun _ _ => o_ixL) ea_nil))) fun found_3952 F_3953 H_3954 v_3956 g_3955 r_3957 w => ?_
        have G := G.tr g_3955
        have r0 := Rep.mo (K := K) g_3955.ff r0
        have r_3877 := Rep.mo (K := K) g_3955.ff r_3877
        have r_3895 := Rep.mo (K := K) g_3955.ff r_3895
        have r_3903 := Rep.mo (K := K) g_3955.ff r_3903
        have r_3925 := Rep.mo (K := K) g_3955.ff r_3925
        have r_3942 := Rep.mo (K := K) g_3955.ff r_3942
        have e_3912 := Ex.tr e_3912 g_3955.ff
        have e_3927 := Ex.tr e_3927 g_3955.ff
        refine q_if2 G w (t_and (t_of (e2 (em_var rfl r_3942) em_unit o_isN)) (t_of (e2 (em_var rfl r_3957) em_unit o_notN))) (fun F_3958 H_3959 g_3960 w => ?_) (fun F_3958 H_3959 g_3960 w => ?_)
        · have G := G.tr g_3960
          have r0 := Rep.mo (K := K) g_3960.ff r0
          have r_3877 := Rep.mo (K := K) g_3960.ff r_3877
          have r_3895 := Rep.mo (K := K) g_3960.ff r_3895
          have r_3903 := Rep.mo (K := K) g_3960.ff r_3903
          have r_3925 := Rep.mo (K := K) g_3960.ff r_3925
          have r_3942 := Rep.mo (K := K) g_3960.ff r_3942
          have r_3957 := Rep.mo (K := K) g_3960.ff r_3957
          have e_3912 := Ex.tr e_3912 g_3960.ff
          have e_3927 := Ex.tr e_3927 g_3960.ff
          exact s_ret G w em_bl fun r F1 H1 v g m p => hQ r F1 H1 v g m p
        · have G := G.tr g_3960
          have r0 := Rep.mo (K := K) g_3960.ff r0
          have r_3877 := Rep.mo (K := K) g_3960.ff r_3877
          have r_3895 := Rep.mo (K := K) g_3960.ff r_3895
          have r_3903 := Rep.mo (K := K) g_3960.ff r_3903
          have r_3925 := Rep.mo (K := K) g_3960.ff r_3925
          have r_3942 := Rep.mo (K := K) g_3960.ff r_3942
          have r_3957 := Rep.mo (K := K) g_3960.ff r_3957
          have e_3912 := Ex.tr e_3912 g_3960.ff
          have e_3927 := Ex.tr e_3927 g_3960.ff
          refine s_next ?_
          refine s_nx ?_
          refine s_if2 G w (tm_and (t_of (e2 (em_var rfl r_3942) em_unit o_notN)) (tm_or (tm_not (t_B (em_call0 (f := (fun a : (Int × Unit) => m_law_whole a.1)) (ea_cons (em_get (em_var rfl r_3957)) ea_nil)))) (t_of (e2 (em_var rfl r_3957) (em_var rfl r_3942) (o_neD (by decide)))))) (fun F_3965 H_3966 g_3967 w => ?_) (fun F_3965 H_3966 g_3967 w => ?_)
          · have G := G.tr g_3967
            have r0 := Rep.mo (K := K) g_3967.ff r0
            have r_3877 := Rep.mo (K := K) g_3967.ff r_3877
            have r_3895 := Rep.mo (K := K) g_3967.ff r_3895
            have r_3903 := Rep.mo (K := K) g_3967.ff r_3903
            have r_3925 := Rep.mo (K := K) g_3967.ff r_3925
            have r_3942 := Rep.mo (K := K) g_3967.ff r_3942
            have r_3957 := Rep.mo (K := K) g_3967.ff r_3957
            have e_3912 := Ex.tr e_3912 g_3967.ff
            have e_3927 := Ex.tr e_3927 g_3967.ff
            exact s_ret G w em_bl fun r F1 H1 v g m p => hQ r F1 H1 v g m p
          · have G := G.tr g_3967
            have r0 := Rep.mo (K := K) g_3967.ff r0
            have r_3877 := Rep.mo (K := K) g_3967.ff r_3877
            have r_3895 := Rep.mo (K := K) g_3967.ff r_3895
            have r_3903 := Rep.mo (K := K) g_3967.ff r_3903
            have r_3925 := Rep.mo (K := K) g_3967.ff r_3925
            have r_3942 := Rep.mo (K := K) g_3967.ff r_3942
            have r_3957 := Rep.mo (K := K) g_3967.ff r_3957
            have e_3912 := Ex.tr e_3912 g_3967.ff
            have e_3927 := Ex.tr e_3927 g_3967.ff
            refine s_next ?_
            exact hN_3917 _ w _ _ _ e_3927 ⟨_, _, _, rfl, G, e_3912⟩
      · rintro s_3971 F_3972 H_3973 _ e_3974 ⟨z_3904, z_3905, z_3906, hs_3969, G, e_3970⟩ w
        subst hs_3969
        have r0 := Rep.mo (K := K) e_3970 r0
        have r_3877 := Rep.mo (K := K) e_3970 r_3877
        have r_3895 := Rep.mo (K := K) e_3970 r_3895
        have r_3903 := Rep.mo (K := K) e_3970 r_3903
        exact s_ret0 G w (em_andV (e2 (Ev.nv (e_lst (e_lcons (e_wkr (em_var rfl r_3877)) (e_lcons (e_wkr (em_var rfl r_3895)) (el_nil (α := (List Row))))) (by simp))) (em_var rfl r_3903) (o_eqD (by decide))) (em_callX (f := (fun a : (Wk × Int × Unit) => m_law_refused a.1 a.2.1)) (ea_cons (em_var rfl r_3877) (ea_cons (e_call0 (f := (fun a : (Scr × Int × Unit) => m_law_cell_at a.1 a.2.1)) (x := (a0_script, (10 : Int), ())) (e_cons (em_var rfl r0) (e_cons em_int ea_nil))) ea_nil)))) fun r F1 H1 v g m p => hQ r F1 H1 v g m p
    · intro P_3983 hk_3982 w
      refine s_if2 G w (t_of (em_op (em_op (e_call0 (f := (fun a : (Scr × Int × Unit) => m_law_cell_at a.1 a.2.1)) (x := (a0_script, (11 : Int), ())) (e_cons (em_var rfl r0) (e_cons em_int ea_nil))) em_int fun _ _ => o_modM) em_int fun _ _ => o_eqI)) (fun F_3888 H_3889 g_3890 w => ?_) (fun F_3888 H_3889 g_3890 w => ?_)
      · have e_3984 : Ex F_3879 F_3888 := g_3890.ff
        have G := G.tr g_3890
        have r0 := Rep.mo (K := K) g_3890.ff r0
        have r_3877 := Rep.mo (K := K) g_3890.ff r_3877
        have r_3883 := Rep.mo (K := K) g_3890.ff r_3883
        refine q_asg (K := K) G w (em_callX (f := (fun a : (Wk × Int × Unit) => m_law_turned a.1 a.2.1)) (ea_cons (em_var rfl r_3877) (ea_cons (em_op (e_call0 (f := (fun a : (Scr × Int × Unit) => m_law_cell_at a.1 a.2.1)) (x := (a0_script, (11 : Int), ())) (e_cons (em_var rfl r0) (e_cons em_int ea_nil))) em_int fun _ _ => o_fdivM) ea_nil))) fun other_3992 F_3993 H_3994 v_3996 g_3995 r_3997 w => ?_
        have G := G.tr g_3995
        have r0 := Rep.mo (K := K) g_3995.ff r0
        have r_3877 := Rep.mo (K := K) g_3995.ff r_3877
        have e_3984 := Ex.tr e_3984 g_3995.ff
        refine s_if2 G w (t_B (e_call0 (f := (fun a : ((List Row) × Unit) => m_law_stuck a.1)) (x := (other_3992.rows, ())) (e_cons (e_wkr (em_var rfl r_3997)) ea_nil))) (fun F_3998 H_3999 g_4000 w => ?_) (fun F_3998 H_3999 g_4000 w => ?_)
        · have G := G.tr g_4000
          have r0 := Rep.mo (K := K) g_4000.ff r0
          have r_3877 := Rep.mo (K := K) g_4000.ff r_3877
          have r_3997 := Rep.mo (K := K) g_4000.ff r_3997
          have e_3984 := Ex.tr e_3984 g_4000.ff
          refine s_asg (K := K) G w (em_var rfl r_3877) fun other_4001 F_4002 H_4003 v_4005 g_4004 r_4006 w => ?_
          have G := G.tr g_4004
          have r0 := Rep.mo (K := K) g_4004.ff r0
          have r_3877 := Rep.mo (K := K) g_4004.ff r_3877
          have e_3984 := Ex.tr e_3984 g_4004.ff
          exact hk_3982 _ w _ _ _ ⟨_, rfl, G, e_3984, r_4006⟩
        · have G := G.tr g_4000
          have r0 := Rep.mo (K := K) g_4000.ff r0
          have r_3877 := Rep.mo (K := K) g_4000.ff r_3877
          have r_3997 := Rep.mo (K := K) g_4000.ff r_3997
          have e_3984 := Ex.tr e_3984 g_4000.ff
          refine s_next ?_
          exact hk_3982 _ w _ _ _ ⟨_, rfl, G, e_3984, r_3997⟩
      · have e_3984 : Ex F_3879 F_3888 := g_3890.ff
        have G := G.tr g_3890
        have r0 := Rep.mo (K := K) g_3890.ff r0
        have r_3877 := Rep.mo (K := K) g_3890.ff r_3877
        have r_3883 := Rep.mo (K := K) g_3890.ff r_3883
        refine s_next ?_
        exact hk_3982 _ w _ _ _ ⟨_, rfl, G, e_3984, r_3883⟩
end
def spLaw (K : PySem.W.Frag) : Sp := fun vs H Q _ => ∃ (a : Addr) (ns : List Int), vs = [.ref a] ∧ SqL K H a (ns.map V.int) ∧ ns.length ≤ 63 ∧ ∀ H', Q (.bl true) H'
theorem law_of {P : Program} {w : World} {K : PySem.W.Frag} {mg : Str → Option Value} {base : Heap} {ce : Ce} {k : Nat} {f : Addr} {fd : FuncData} (F : FnOk P w K mg base (L2.CX P w) k f fd ["script"] (sp_law K ce)) : FnOk P w K mg base CX0 k f fd ["script"] (spLaw K) :=
  fn_quiet F fun vs H Q E ⟨a, ns, h1, h2, h3, h4⟩ => ⟨H, (⟨ns⟩, ()), Ex.rf _, ⟨.ref a, [], h1, ⟨a, rfl, h2⟩, rfl⟩, by
    show Post ce (rv K) (m_law ⟨ns⟩) H H Q E0
    rw [law_true ns h3]
    intro F' H' v g r
    cases r
    exact h4 H'⟩
theorem all_mk {l : PySem.W.OpenLaw} {w : World} {K : PySem.W.Frag} {h : Heap} {mg : Str → Option Value} {fa f0 f1 f2 f3 f4 f5 f6 f7 f8 f9 f10 f11 f12 f13 f14 f15 f16 f17 f18 f19 f20 f21 f22 f23 f24 f25 f26 f27 f28 C_BadWorks C_HasCrusher C_Stuck C_MeshError C_Works : Addr} {t_MOST_BIN : Tok} {t_MOST_PARTS : Tok} {t_MOST_ROWS : Tok} {t_WIDEST : Tok} (X : K.In h) (G : h.Ns mainGlobals mg) (hfa : mg "law" = some (.ref fa))
    {od0 an0 : Option Addr} {sl0 : Array (Option Value)} {oc0 kV0 dc0 pm0 cd0 ct0 : Value}
    {od1 an1 : Option Addr} {sl1 : Array (Option Value)} {oc1 kV1 dc1 pm1 cd1 ct1 : Value}
    {od2 an2 : Option Addr} {sl2 : Array (Option Value)} {oc2 kV2 dc2 pm2 cd2 ct2 : Value}
    {od3 an3 : Option Addr} {sl3 : Array (Option Value)} {oc3 kV3 dc3 pm3 cd3 ct3 : Value}
    {od4 an4 : Option Addr} {sl4 : Array (Option Value)} {oc4 kV4 dc4 pm4 cd4 ct4 : Value}
    {od5 an5 : Option Addr} {sl5 : Array (Option Value)} {oc5 kV5 dc5 pm5 cd5 ct5 : Value}
    {od6 an6 : Option Addr} {sl6 : Array (Option Value)} {oc6 kV6 dc6 pm6 cd6 ct6 : Value}
    {od7 an7 : Option Addr} {sl7 : Array (Option Value)} {oc7 kV7 dc7 pm7 cd7 ct7 : Value}
    {od8 an8 : Option Addr} {sl8 : Array (Option Value)} {oc8 kV8 dc8 pm8 cd8 ct8 : Value}
    {od9 an9 : Option Addr} {sl9 : Array (Option Value)} {oc9 kV9 dc9 pm9 cd9 ct9 : Value}
    {od10 an10 : Option Addr} {sl10 : Array (Option Value)} {oc10 kV10 dc10 pm10 cd10 ct10 : Value}
    {od11 an11 : Option Addr} {sl11 : Array (Option Value)} {oc11 kV11 dc11 pm11 cd11 ct11 : Value}
    {od12 an12 : Option Addr} {sl12 : Array (Option Value)} {oc12 kV12 dc12 pm12 cd12 ct12 : Value}
    {od13 an13 : Option Addr} {sl13 : Array (Option Value)} {oc13 kV13 dc13 pm13 cd13 ct13 : Value}
    {od14 an14 : Option Addr} {sl14 : Array (Option Value)} {oc14 kV14 dc14 pm14 cd14 ct14 : Value}
    {od15 an15 : Option Addr} {sl15 : Array (Option Value)} {oc15 kV15 dc15 pm15 cd15 ct15 : Value}
    {od16 an16 : Option Addr} {sl16 : Array (Option Value)} {oc16 kV16 dc16 pm16 cd16 ct16 : Value}
    {od17 an17 : Option Addr} {sl17 : Array (Option Value)} {oc17 kV17 dc17 pm17 cd17 ct17 : Value}
    {od18 an18 : Option Addr} {sl18 : Array (Option Value)} {oc18 kV18 dc18 pm18 cd18 ct18 : Value}
    {od19 an19 : Option Addr} {sl19 : Array (Option Value)} {oc19 kV19 dc19 pm19 cd19 ct19 : Value}
    {od20 an20 : Option Addr} {sl20 : Array (Option Value)} {oc20 kV20 dc20 pm20 cd20 ct20 : Value}
    {od21 an21 : Option Addr} {sl21 : Array (Option Value)} {oc21 kV21 dc21 pm21 cd21 ct21 : Value}
    {od22 an22 : Option Addr} {sl22 : Array (Option Value)} {oc22 kV22 dc22 pm22 cd22 ct22 : Value}
    {od23 an23 : Option Addr} {sl23 : Array (Option Value)} {oc23 kV23 dc23 pm23 cd23 ct23 : Value}
    {od24 an24 : Option Addr} {sl24 : Array (Option Value)} {oc24 kV24 dc24 pm24 cd24 ct24 : Value}
    {od25 an25 : Option Addr} {sl25 : Array (Option Value)} {oc25 kV25 dc25 pm25 cd25 ct25 : Value}
    {od26 an26 : Option Addr} {sl26 : Array (Option Value)} {oc26 kV26 dc26 pm26 cd26 ct26 : Value}
    {od27 an27 : Option Addr} {sl27 : Array (Option Value)} {oc27 kV27 dc27 pm27 cd27 ct27 : Value}
    {od28 an28 : Option Addr} {sl28 : Array (Option Value)} {oc28 kV28 dc28 pm28 cd28 ct28 : Value}
    (a0 : PySem.W.nsIn K mainGlobals "_law_whole_to" = some (some (.ref f0))) (l0 : K.lookup f0 = some ⟨oc0, od0, .func (PySem.W.fnOf "_law_whole_to" "_law_whole_to" (defArgs s_law_whole_to) (defBody s_law_whole_to) (defScope s_law_whole_to) .none kV0 dc0 pm0 an0 cd0 ct0), sl0⟩) (c0 : PySem.W.codeIn K cd0 "_law_whole_to" = true) (k0 : PySem.W.keepIn K (.ref f0) = true)
    (a1 : PySem.W.nsIn K mainGlobals "_law_goes_round" = some (some (.ref f1))) (l1 : K.lookup f1 = some ⟨oc1, od1, .func (PySem.W.fnOf "_law_goes_round" "_law_goes_round" (defArgs s_law_goes_round) (defBody s_law_goes_round) (defScope s_law_goes_round) .none kV1 dc1 pm1 an1 cd1 ct1), sl1⟩) (c1 : PySem.W.codeIn K cd1 "_law_goes_round" = true) (k1 : PySem.W.keepIn K (.ref f1) = true)
    (a2 : PySem.W.nsIn K mainGlobals "_law_stuck" = some (some (.ref f2))) (l2 : K.lookup f2 = some ⟨oc2, od2, .func (PySem.W.fnOf "_law_stuck" "_law_stuck" (defArgs s_law_stuck) (defBody s_law_stuck) (defScope s_law_stuck) .none kV2 dc2 pm2 an2 cd2 ct2), sl2⟩) (c2 : PySem.W.codeIn K cd2 "_law_stuck" = true) (k2 : PySem.W.keepIn K (.ref f2) = true)
    (a3 : PySem.W.nsIn K mainGlobals "good_row" = some (some (.ref f3))) (l3 : K.lookup f3 = some ⟨oc3, od3, .func (PySem.W.fnOf "good_row" "good_row" (defArgs s_good_row) (defBody s_good_row) (defScope s_good_row) .none kV3 dc3 pm3 an3 cd3 ct3), sl3⟩) (c3 : PySem.W.codeIn K cd3 "good_row" = true) (k3 : PySem.W.keepIn K (.ref f3) = true)
    (a4 : PySem.W.findIn K (.ref C_Works) "__init__" = some (some (.ref f4))) (i4 : PySem.W.isFn K (.ref f4) = true) (l4 : K.lookup f4 = some ⟨oc4, od4, .func (PySem.W.fnOf "__init__" "Works.__init__" (defArgs s_Works) (defBody s_Works) (defScope s_Works) .none kV4 dc4 pm4 an4 cd4 ct4), sl4⟩) (c4 : PySem.W.codeIn K cd4 "Works.__init__" = true) (k4 : PySem.W.keepIn K (.ref f4) = true)
    (a5 : PySem.W.nsIn K mainGlobals "_law_size" = some (some (.ref f5))) (l5 : K.lookup f5 = some ⟨oc5, od5, .func (PySem.W.fnOf "_law_size" "_law_size" (defArgs s_law_size) (defBody s_law_size) (defScope s_law_size) .none kV5 dc5 pm5 an5 cd5 ct5), sl5⟩) (c5 : PySem.W.codeIn K cd5 "_law_size" = true) (k5 : PySem.W.keepIn K (.ref f5) = true)
    (a6 : PySem.W.nsIn K mainGlobals "_law_row" = some (some (.ref f6))) (l6 : K.lookup f6 = some ⟨oc6, od6, .func (PySem.W.fnOf "_law_row" "_law_row" (defArgs s_law_row) (defBody s_law_row) (defScope s_law_row) .none kV6 dc6 pm6 an6 cd6 ct6), sl6⟩) (c6 : PySem.W.codeIn K cd6 "_law_row" = true) (k6 : PySem.W.keepIn K (.ref f6) = true)
    (a7 : PySem.W.nsIn K mainGlobals "_law_cell_at" = some (some (.ref f7))) (l7 : K.lookup f7 = some ⟨oc7, od7, .func (PySem.W.fnOf "_law_cell_at" "_law_cell_at" (defArgs s_law_cell_at) (defBody s_law_cell_at) (defScope s_law_cell_at) .none kV7 dc7 pm7 an7 cd7 ct7), sl7⟩) (c7 : PySem.W.codeIn K cd7 "_law_cell_at" = true) (k7 : PySem.W.keepIn K (.ref f7) = true)
    (a8 : PySem.W.nsIn K mainGlobals "_law_plain" = some (some (.ref f8))) (l8 : K.lookup f8 = some ⟨oc8, od8, .func (PySem.W.fnOf "_law_plain" "_law_plain" (defArgs s_law_plain) (defBody s_law_plain) (defScope s_law_plain) .none kV8 dc8 pm8 an8 cd8 ct8), sl8⟩) (c8 : PySem.W.codeIn K cd8 "_law_plain" = true) (k8 : PySem.W.keepIn K (.ref f8) = true)
    (a9 : PySem.W.nsIn K mainGlobals "_law_free" = some (some (.ref f9))) (l9 : K.lookup f9 = some ⟨oc9, od9, .func (PySem.W.fnOf "_law_free" "_law_free" (defArgs s_law_free) (defBody s_law_free) (defScope s_law_free) .none kV9 dc9 pm9 an9 cd9 ct9), sl9⟩) (c9 : PySem.W.codeIn K cd9 "_law_free" = true) (k9 : PySem.W.keepIn K (.ref f9) = true)
    (a10 : PySem.W.nsIn K mainGlobals "_law_later" = some (some (.ref f10))) (l10 : K.lookup f10 = some ⟨oc10, od10, .func (PySem.W.fnOf "_law_later" "_law_later" (defArgs s_law_later) (defBody s_law_later) (defScope s_law_later) .none kV10 dc10 pm10 an10 cd10 ct10), sl10⟩) (c10 : PySem.W.codeIn K cd10 "_law_later" = true) (k10 : PySem.W.keepIn K (.ref f10) = true)
    (a11 : PySem.W.nsIn K mainGlobals "_law_beyond" = some (some (.ref f11))) (l11 : K.lookup f11 = some ⟨oc11, od11, .func (PySem.W.fnOf "_law_beyond" "_law_beyond" (defArgs s_law_beyond) (defBody s_law_beyond) (defScope s_law_beyond) .none kV11 dc11 pm11 an11 cd11 ct11), sl11⟩) (c11 : PySem.W.codeIn K cd11 "_law_beyond" = true) (k11 : PySem.W.keepIn K (.ref f11) = true)
    (a12 : PySem.W.nsIn K mainGlobals "_law_turned" = some (some (.ref f12))) (l12 : K.lookup f12 = some ⟨oc12, od12, .func (PySem.W.fnOf "_law_turned" "_law_turned" (defArgs s_law_turned) (defBody s_law_turned) (defScope s_law_turned) .none kV12 dc12 pm12 an12 cd12 ct12), sl12⟩) (c12 : PySem.W.codeIn K cd12 "_law_turned" = true) (k12 : PySem.W.keepIn K (.ref f12) = true)
    (a13 : PySem.W.nsIn K mainGlobals "_law_bin" = some (some (.ref f13))) (l13 : K.lookup f13 = some ⟨oc13, od13, .func (PySem.W.fnOf "_law_bin" "_law_bin" (defArgs s_law_bin) (defBody s_law_bin) (defScope s_law_bin) .none kV13 dc13 pm13 an13 cd13 ct13), sl13⟩) (c13 : PySem.W.codeIn K cd13 "_law_bin" = true) (k13 : PySem.W.keepIn K (.ref f13) = true)
    (a14 : PySem.W.nsIn K mainGlobals "_law_due" = some (some (.ref f14))) (l14 : K.lookup f14 = some ⟨oc14, od14, .func (PySem.W.fnOf "_law_due" "_law_due" (defArgs s_law_due) (defBody s_law_due) (defScope s_law_due) .none kV14 dc14 pm14 an14 cd14 ct14), sl14⟩) (c14 : PySem.W.codeIn K cd14 "_law_due" = true) (k14 : PySem.W.keepIn K (.ref f14) = true)
    (a15 : PySem.W.nsIn K mainGlobals "pieces_of" = some (some (.ref f15))) (l15 : K.lookup f15 = some ⟨oc15, od15, .func (PySem.W.fnOf "pieces_of" "pieces_of" (defArgs s_pieces_of) (defBody s_pieces_of) (defScope s_pieces_of) .none kV15 dc15 pm15 an15 cd15 ct15), sl15⟩) (c15 : PySem.W.codeIn K cd15 "pieces_of" = true) (k15 : PySem.W.keepIn K (.ref f15) = true)
    (a16 : PySem.W.nsIn K mainGlobals "goes_on" = some (some (.ref f16))) (l16 : K.lookup f16 = some ⟨oc16, od16, .func (PySem.W.fnOf "goes_on" "goes_on" (defArgs s_goes_on) (defBody s_goes_on) (defScope s_goes_on) .none kV16 dc16 pm16 an16 cd16 ct16), sl16⟩) (c16 : PySem.W.codeIn K cd16 "goes_on" = true) (k16 : PySem.W.keepIn K (.ref f16) = true)
    (a17 : PySem.W.nsIn K mainGlobals "bin_at" = some (some (.ref f17))) (l17 : K.lookup f17 = some ⟨oc17, od17, .func (PySem.W.fnOf "bin_at" "bin_at" (defArgs s_bin_at) (defBody s_bin_at) (defScope s_bin_at) .none kV17 dc17 pm17 an17 cd17 ct17), sl17⟩) (c17 : PySem.W.codeIn K cd17 "bin_at" = true) (k17 : PySem.W.keepIn K (.ref f17) = true)
    (a18 : PySem.W.nsIn K mainGlobals "sizes_looked" = some (some (.ref f18))) (l18 : K.lookup f18 = some ⟨oc18, od18, .func (PySem.W.fnOf "sizes_looked" "sizes_looked" (defArgs s_sizes_looked) (defBody s_sizes_looked) (defScope s_sizes_looked) .none kV18 dc18 pm18 an18 cd18 ct18), sl18⟩) (c18 : PySem.W.codeIn K cd18 "sizes_looked" = true) (k18 : PySem.W.keepIn K (.ref f18) = true)
    (a19 : PySem.W.nsIn K mainGlobals "whole_to" = some (some (.ref f19))) (l19 : K.lookup f19 = some ⟨oc19, od19, .func (PySem.W.fnOf "whole_to" "whole_to" (defArgs s_whole_to) (defBody s_whole_to) (defScope s_whole_to) .none kV19 dc19 pm19 an19 cd19 ct19), sl19⟩) (c19 : PySem.W.codeIn K cd19 "whole_to" = true) (k19 : PySem.W.keepIn K (.ref f19) = true)
    (a20 : PySem.W.nsIn K mainGlobals "ring_from" = some (some (.ref f20))) (l20 : K.lookup f20 = some ⟨oc20, od20, .func (PySem.W.fnOf "ring_from" "ring_from" (defArgs s_ring_from) (defBody s_ring_from) (defScope s_ring_from) .none kV20 dc20 pm20 an20 cd20 ct20), sl20⟩) (c20 : PySem.W.codeIn K cd20 "ring_from" = true) (k20 : PySem.W.keepIn K (.ref f20) = true)
    (a21 : PySem.W.nsIn K mainGlobals "ring_of" = some (some (.ref f21))) (l21 : K.lookup f21 = some ⟨oc21, od21, .func (PySem.W.fnOf "ring_of" "ring_of" (defArgs s_ring_of) (defBody s_ring_of) (defScope s_ring_of) .none kV21 dc21 pm21 an21 cd21 ct21), sl21⟩) (c21 : PySem.W.codeIn K cd21 "ring_of" = true) (k21 : PySem.W.keepIn K (.ref f21) = true)
    (a22 : PySem.W.nsIn K mainGlobals "form_of" = some (some (.ref f22))) (l22 : K.lookup f22 = some ⟨oc22, od22, .func (PySem.W.fnOf "form_of" "form_of" (defArgs s_form_of) (defBody s_form_of) (defScope s_form_of) .none kV22 dc22 pm22 an22 cd22 ct22), sl22⟩) (c22 : PySem.W.codeIn K cd22 "form_of" = true) (k22 : PySem.W.keepIn K (.ref f22) = true)
    (a23 : PySem.W.nsIn K mainGlobals "bin_by" = some (some (.ref f23))) (l23 : K.lookup f23 = some ⟨oc23, od23, .func (PySem.W.fnOf "bin_by" "bin_by" (defArgs s_bin_by) (defBody s_bin_by) (defScope s_bin_by) .none kV23 dc23 pm23 an23 cd23 ct23), sl23⟩) (c23 : PySem.W.codeIn K cd23 "bin_by" = true) (k23 : PySem.W.keepIn K (.ref f23) = true)
    (a24 : PySem.W.nsIn K mainGlobals "parted_at" = some (some (.ref f24))) (l24 : K.lookup f24 = some ⟨oc24, od24, .func (PySem.W.fnOf "parted_at" "parted_at" (defArgs s_parted_at) (defBody s_parted_at) (defScope s_parted_at) .none kV24 dc24 pm24 an24 cd24 ct24), sl24⟩) (c24 : PySem.W.codeIn K cd24 "parted_at" = true) (k24 : PySem.W.keepIn K (.ref f24) = true)
    (a25 : PySem.W.nsIn K mainGlobals "_law_word" = some (some (.ref f25))) (l25 : K.lookup f25 = some ⟨oc25, od25, .func (PySem.W.fnOf "_law_word" "_law_word" (defArgs s_law_word) (defBody s_law_word) (defScope s_law_word) .none kV25 dc25 pm25 an25 cd25 ct25), sl25⟩) (c25 : PySem.W.codeIn K cd25 "_law_word" = true) (k25 : PySem.W.keepIn K (.ref f25) = true)
    (a26 : PySem.W.nsIn K mainGlobals "_law_refused" = some (some (.ref f26))) (l26 : K.lookup f26 = some ⟨oc26, od26, .func (PySem.W.fnOf "_law_refused" "_law_refused" (defArgs s_law_refused) (defBody s_law_refused) (defScope s_law_refused) .none kV26 dc26 pm26 an26 cd26 ct26), sl26⟩) (c26 : PySem.W.codeIn K cd26 "_law_refused" = true) (k26 : PySem.W.keepIn K (.ref f26) = true)
    (a27 : PySem.W.nsIn K mainGlobals "_law_whole" = some (some (.ref f27))) (l27 : K.lookup f27 = some ⟨oc27, od27, .func (PySem.W.fnOf "_law_whole" "_law_whole" (defArgs s_law_whole) (defBody s_law_whole) (defScope s_law_whole) .none kV27 dc27 pm27 an27 cd27 ct27), sl27⟩) (c27 : PySem.W.codeIn K cd27 "_law_whole" = true) (k27 : PySem.W.keepIn K (.ref f27) = true)
    (a28 : PySem.W.nsIn K mainGlobals "law" = some (some (.ref f28))) (l28 : K.lookup f28 = some ⟨oc28, od28, .func (PySem.W.fnOf "law" "law" (defArgs s_law) (defBody s_law) (defScope s_law) .none kV28 dc28 pm28 an28 cd28 ct28), sl28⟩) (c28 : PySem.W.codeIn K cd28 "law" = true) (k28 : PySem.W.keepIn K (.ref f28) = true)
    (ea_BadWorks : PySem.W.nsIn K mainGlobals "BadWorks" = some (some (.ref C_BadWorks))) (ex_BadWorks : PySem.W.excIn K C_BadWorks [.type "ValueError", .type "Exception", .type "BaseException", .type "object"] "ValueError.__new__" = true) (ek_BadWorks : PySem.W.keepIn K (.ref C_BadWorks) = true) (eb_BadWorks : PySem.W.subIn K (.ref C_BadWorks) (.type "BaseException") = some true) (et_BadWorks : PySem.W.typeIn K (.ref C_BadWorks) = some (.type "type"))
    (ea_HasCrusher : PySem.W.nsIn K mainGlobals "HasCrusher" = some (some (.ref C_HasCrusher))) (ex_HasCrusher : PySem.W.excIn K C_HasCrusher [.type "ValueError", .type "Exception", .type "BaseException", .type "object"] "ValueError.__new__" = true) (ek_HasCrusher : PySem.W.keepIn K (.ref C_HasCrusher) = true) (eb_HasCrusher : PySem.W.subIn K (.ref C_HasCrusher) (.type "BaseException") = some true) (et_HasCrusher : PySem.W.typeIn K (.ref C_HasCrusher) = some (.type "type"))
    (ea_Stuck : PySem.W.nsIn K mainGlobals "Stuck" = some (some (.ref C_Stuck))) (ex_Stuck : PySem.W.excIn K C_Stuck [.type "ValueError", .type "Exception", .type "BaseException", .type "object"] "ValueError.__new__" = true) (ek_Stuck : PySem.W.keepIn K (.ref C_Stuck) = true) (eb_Stuck : PySem.W.subIn K (.ref C_Stuck) (.type "BaseException") = some true) (et_Stuck : PySem.W.typeIn K (.ref C_Stuck) = some (.type "type"))
    (n_MOST_BIN : PySem.W.nsIn K mainGlobals "MOST_BIN" = some (some (.int 5 t_MOST_BIN)))
    (n_MOST_PARTS : PySem.W.nsIn K mainGlobals "MOST_PARTS" = some (some (.int 9 t_MOST_PARTS)))
    (n_MOST_ROWS : PySem.W.nsIn K mainGlobals "MOST_ROWS" = some (some (.int 12 t_MOST_ROWS)))
    (n_WIDEST : PySem.W.nsIn K mainGlobals "WIDEST" = some (some (.int 1000000000000000000000000000000000000000000000000000000000000 t_WIDEST)))
    (z_bool : PySem.W.nsIn K mainGlobals "bool" = some none)
    (z_int : PySem.W.nsIn K mainGlobals "int" = some none)
    (z_isinstance : PySem.W.nsIn K mainGlobals "isinstance" = some none)
    (z_len : PySem.W.nsIn K mainGlobals "len" = some none)
    (z_list : PySem.W.nsIn K mainGlobals "list" = some none)
    (z_max : PySem.W.nsIn K mainGlobals "max" = some none)
    (z_range : PySem.W.nsIn K mainGlobals "range" = some none)
    (z_reversed : PySem.W.nsIn K mainGlobals "reversed" = some none)
    (z_set : PySem.W.nsIn K mainGlobals "set" = some none)
    (z_sorted : PySem.W.nsIn K mainGlobals "sorted" = some none)
    (ea_MeshError : PySem.W.nsIn K mainGlobals "MeshError" = some (some (.ref C_MeshError)))
    (ea_Works : PySem.W.nsIn K mainGlobals "Works" = some (some (.ref C_Works)))
    (pg_Works : PySem.W.plainGet K C_Works Str.empty = true) (hd_Works : PySem.W.hasDictIn K C_Works = true) (po_Works : PySem.W.plainOver K C_Works = true) (sa_Works : PySem.W.findIn K (.ref C_Works) "__setattr__" = some (some (.builtin "object.__setattr__"))) (mk_Works : PySem.W.makesIn K C_Works = true) (kc_Works : PySem.W.keepIn K (.ref C_Works) = true)
    (hi_HasCrusher_HasCrusher : PySem.W.kitOne K (.ref C_HasCrusher) (.ref C_HasCrusher) = some true)
    (hi_HasCrusher_Stuck : PySem.W.kitOne K (.ref C_HasCrusher) (.ref C_Stuck) = some false)
    (hi_Stuck_HasCrusher : PySem.W.kitOne K (.ref C_Stuck) (.ref C_HasCrusher) = some false)
    (hi_Stuck_Stuck : PySem.W.kitOne K (.ref C_Stuck) (.ref C_Stuck) = some true)
    (hn_Works_parts : PySem.W.findIn K (.ref C_Works) "parts" = some none)
    (hn_Works_rows : PySem.W.findIn K (.ref C_Works) "rows" = some none)
    (xq0_HasCrusher : PySem.W.findIn K (.ref C_HasCrusher) "__getattribute__" = some (some (.builtin "BaseException.__getattribute__")))
    (xq1_HasCrusher : PySem.W.findIn K (.ref C_HasCrusher) "__getattr__" = some none)
    (xq2_HasCrusher : PySem.W.subIn K (.ref C_HasCrusher) (.type "BaseException") = some true)
    (xq3_HasCrusher : PySem.W.hasDictIn K C_HasCrusher = true)
    (xq4_HasCrusher : PySem.W.findIn K (.ref C_HasCrusher) "__class__" = some (some (.builtin "object.__class__")))
    (xq5_HasCrusher : PySem.W.mroIn K C_HasCrusher (.type "object") = some true)
    (xq0_Stuck : PySem.W.findIn K (.ref C_Stuck) "__getattribute__" = some (some (.builtin "BaseException.__getattribute__")))
    (xq1_Stuck : PySem.W.findIn K (.ref C_Stuck) "__getattr__" = some none)
    (xq2_Stuck : PySem.W.subIn K (.ref C_Stuck) (.type "BaseException") = some true)
    (xq3_Stuck : PySem.W.hasDictIn K C_Stuck = true)
    (xq4_Stuck : PySem.W.findIn K (.ref C_Stuck) "__class__" = some (some (.builtin "object.__class__")))
    (xq5_Stuck : PySem.W.mroIn K C_Stuck (.type "object") = some true)
    (hm_HasCrusher_MeshError : PySem.W.exmOne K (.ref C_HasCrusher) (.ref C_MeshError) = some true)
    (hm_Stuck_MeshError : PySem.W.exmOne K (.ref C_Stuck) (.ref C_MeshError) = some true)
    (xqA : PySem.W.specialIn K (.builtin "object.__class__") "__get__" = some (some (.builtin "getset_descriptor.__get__"))) (xqB : PySem.W.takesIn K (.builtin "object.__class__") = some true) :
    ∃ fd : FuncData, (∀ (s : Shared) (v : Value), BindsTo s fd ⟨[v], []⟩ [("script", v)]) ∧ ∀ base : Heap, K.In base → base.Ns mainGlobals mg → FnOk l.prog w K mg base CX0 10 fa fd ["script"] (spLaw K) := by
  have e := hfa.symm.trans (PySem.W.mg_of X G a28)
  cases e
  let ce : Ce := fun n => if n = "Works" then C_Works else (fun n => if n = "MeshError" then C_MeshError else (fun n => if n = "Stuck" then C_Stuck else (fun n => if n = "HasCrusher" then C_HasCrusher else (fun n => if n = "BadWorks" then C_BadWorks else (fun _ => 0) n) n) n) n) n
  have x_BadWorks : ErrC K mg (ce "BadWorks") "BadWorks" := by
    rw [show ce "BadWorks" = C_BadWorks from by simp [ce]]
    exact ⟨PySem.W.mg_of X G ea_BadWorks, ex_BadWorks, ek_BadWorks, eb_BadWorks, et_BadWorks⟩
  have x_HasCrusher : ErrC K mg (ce "HasCrusher") "HasCrusher" := by
    rw [show ce "HasCrusher" = C_HasCrusher from by simp [ce]]
    exact ⟨PySem.W.mg_of X G ea_HasCrusher, ex_HasCrusher, ek_HasCrusher, eb_HasCrusher, et_HasCrusher⟩
  have x_Stuck : ErrC K mg (ce "Stuck") "Stuck" := by
    rw [show ce "Stuck" = C_Stuck from by simp [ce]]
    exact ⟨PySem.W.mg_of X G ea_Stuck, ex_Stuck, ek_Stuck, eb_Stuck, et_Stuck⟩
  have cls_Works : Cls K (ce "Works") := by
    rw [show ce "Works" = C_Works from by simp [ce]]
    exact ⟨pg_Works, hd_Works, po_Works, sa_Works⟩
  have mgc_Works : mg "Works" = some (.ref (ce "Works")) := by
    rw [show ce "Works" = C_Works from by simp [ce]]
    exact PySem.W.mg_of X G ea_Works
  have M_Works : Mk K (ce "Works") f4 := by
    rw [show ce "Works" = C_Works from by simp [ce]]
    exact ⟨mk_Works, a4, i4, kc_Works⟩
  have mc_HasCrusher : mg "HasCrusher" = some (.ref (ce "HasCrusher")) := by
    rw [show ce "HasCrusher" = C_HasCrusher from by simp [ce]]
    exact PySem.W.mg_of X G ea_HasCrusher
  have mc_MeshError : mg "MeshError" = some (.ref (ce "MeshError")) := by
    rw [show ce "MeshError" = C_MeshError from by simp [ce]]
    exact PySem.W.mg_of X G ea_MeshError
  have mc_Stuck : mg "Stuck" = some (.ref (ce "Stuck")) := by
    rw [show ce "Stuck" = C_Stuck from by simp [ce]]
    exact PySem.W.mg_of X G ea_Stuck
  have ki_HasCrusher_HasCrusher : PySem.W.kitOne K (.ref (ce "HasCrusher")) (.ref (ce "HasCrusher")) = some true := by
    rw [show ce "HasCrusher" = C_HasCrusher from by simp [ce]]
    exact hi_HasCrusher_HasCrusher
  have ki_HasCrusher_Stuck : PySem.W.kitOne K (.ref (ce "HasCrusher")) (.ref (ce "Stuck")) = some false := by
    rw [show ce "HasCrusher" = C_HasCrusher from by simp [ce], show ce "Stuck" = C_Stuck from by simp [ce]]
    exact hi_HasCrusher_Stuck
  have ki_Stuck_HasCrusher : PySem.W.kitOne K (.ref (ce "Stuck")) (.ref (ce "HasCrusher")) = some false := by
    rw [show ce "Stuck" = C_Stuck from by simp [ce], show ce "HasCrusher" = C_HasCrusher from by simp [ce]]
    exact hi_Stuck_HasCrusher
  have ki_Stuck_Stuck : PySem.W.kitOne K (.ref (ce "Stuck")) (.ref (ce "Stuck")) = some true := by
    rw [show ce "Stuck" = C_Stuck from by simp [ce]]
    exact hi_Stuck_Stuck
  have na_Works_parts : NoAttr K (ce "Works") "parts" := by
    rw [show ce "Works" = C_Works from by simp [ce]]
    exact hn_Works_parts
  have na_Works_rows : NoAttr K (ce "Works") "rows" := by
    rw [show ce "Works" = C_Works from by simp [ce]]
    exact hn_Works_rows
  have xc_HasCrusher : ExcC K (ce "HasCrusher") := by
    rw [show ce "HasCrusher" = C_HasCrusher from by simp [ce]]
    exact ⟨xq0_HasCrusher, xq1_HasCrusher, xq2_HasCrusher, xq3_HasCrusher, xq4_HasCrusher, xqA, xqB, xq5_HasCrusher⟩
  have xc_Stuck : ExcC K (ce "Stuck") := by
    rw [show ce "Stuck" = C_Stuck from by simp [ce]]
    exact ⟨xq0_Stuck, xq1_Stuck, xq2_Stuck, xq3_Stuck, xq4_Stuck, xqA, xqB, xq5_Stuck⟩
  have xm_HasCrusher_MeshError : PySem.W.exmOne K (.ref (ce "HasCrusher")) (.ref (ce "MeshError")) = some true := by
    rw [show ce "HasCrusher" = C_HasCrusher from by simp [ce], show ce "MeshError" = C_MeshError from by simp [ce]]
    exact hm_HasCrusher_MeshError
  have xm_Stuck_MeshError : PySem.W.exmOne K (.ref (ce "Stuck")) (.ref (ce "MeshError")) = some true := by
    rw [show ce "Stuck" = C_Stuck from by simp [ce], show ce "MeshError" = C_MeshError from by simp [ce]]
    exact hm_Stuck_MeshError
  have c_MOST_BIN := PySem.W.mg_of X G n_MOST_BIN
  have c_MOST_PARTS := PySem.W.mg_of X G n_MOST_PARTS
  have c_MOST_ROWS := PySem.W.mg_of X G n_MOST_ROWS
  have c_WIDEST := PySem.W.mg_of X G n_WIDEST
  have z_bool := PySem.W.mg_none_of X G z_bool
  have z_int := PySem.W.mg_none_of X G z_int
  have z_isinstance := PySem.W.mg_none_of X G z_isinstance
  have z_len := PySem.W.mg_none_of X G z_len
  have z_list := PySem.W.mg_none_of X G z_list
  have z_max := PySem.W.mg_none_of X G z_max
  have z_range := PySem.W.mg_none_of X G z_range
  have z_reversed := PySem.W.mg_none_of X G z_reversed
  have z_set := PySem.W.mg_none_of X G z_set
  have z_sorted := PySem.W.mg_none_of X G z_sorted
  have F0 := fun_mk (st := s_law_whole_to) l0 c0 k0
  have b__law_whole_to := F0.binds (ps := ["rows", "row", "size"]) fun _ _ _ _ _ _ us hl => match us, hl with | [_, _, _], _ => rfl
  have mg__law_whole_to := PySem.W.mg_of X G a0
  have F1 := fun_mk (st := s_law_goes_round) l1 c1 k1
  have b__law_goes_round := F1.binds (ps := ["rows", "size"]) fun _ _ _ _ _ _ us hl => match us, hl with | [_, _], _ => rfl
  have mg__law_goes_round := PySem.W.mg_of X G a1
  have F2 := fun_mk (st := s_law_stuck) l2 c2 k2
  have b__law_stuck := F2.binds (ps := ["rows"]) fun _ _ _ _ _ _ us hl => match us, hl with | [_], _ => rfl
  have mg__law_stuck := PySem.W.mg_of X G a2
  have F3 := fun_mk (st := s_good_row) l3 c3 k3
  have b_good_row := F3.binds (ps := ["row", "many"]) fun _ _ _ _ _ _ us hl => match us, hl with | [_, _], _ => rfl
  have mg_good_row := PySem.W.mg_of X G a3
  have F4 := fun_mk (st := s_Works) l4 c4 k4
  have b_Works := F4.binds (ps := ["self", "parts", "rows"]) fun _ _ _ _ _ _ us hl => match us, hl with | [_, _, _], _ => rfl
  have F5 := fun_mk (st := s_law_size) l5 c5 k5
  have b__law_size := F5.binds (ps := ["cell"]) fun _ _ _ _ _ _ us hl => match us, hl with | [_], _ => rfl
  have mg__law_size := PySem.W.mg_of X G a5
  have F6 := fun_mk (st := s_law_row) l6 c6 k6
  have b__law_row := F6.binds (ps := ["cell", "many"]) fun _ _ _ _ _ _ us hl => match us, hl with | [_, _], _ => rfl
  have mg__law_row := PySem.W.mg_of X G a6
  have F7 := fun_mk (st := s_law_cell_at) l7 c7 k7
  have b__law_cell_at := F7.binds (ps := ["script", "k"]) fun _ _ _ _ _ _ us hl => match us, hl with | [_, _], _ => rfl
  have mg__law_cell_at := PySem.W.mg_of X G a7
  have F8 := fun_mk (st := s_law_plain) l8 c8 k8
  have b__law_plain := F8.binds (ps := ["script", "first", "parts"]) fun _ _ _ _ _ _ us hl => match us, hl with | [_, _, _], _ => rfl
  have mg__law_plain := PySem.W.mg_of X G a8
  have F9 := fun_mk (st := s_law_free) l9 c9 k9
  have b__law_free := F9.binds (ps := ["script", "first", "parts"]) fun _ _ _ _ _ _ us hl => match us, hl with | [_, _, _], _ => rfl
  have mg__law_free := PySem.W.mg_of X G a9
  have F10 := fun_mk (st := s_law_later) l10 c10 k10
  have b__law_later := F10.binds (ps := ["rows", "more"]) fun _ _ _ _ _ _ us hl => match us, hl with | [_, _], _ => rfl
  have mg__law_later := PySem.W.mg_of X G a10
  have F11 := fun_mk (st := s_law_beyond) l11 c11 k11
  have b__law_beyond := F11.binds (ps := ["told", "at"]) fun _ _ _ _ _ _ us hl => match us, hl with | [_, _], _ => rfl
  have mg__law_beyond := PySem.W.mg_of X G a11
  have F12 := fun_mk (st := s_law_turned) l12 c12 k12
  have b__law_turned := F12.binds (ps := ["works", "cell"]) fun _ _ _ _ _ _ us hl => match us, hl with | [_, _], _ => rfl
  have mg__law_turned := PySem.W.mg_of X G a12
  have F13 := fun_mk (st := s_law_bin) l13 c13 k13
  have b__law_bin := F13.binds (ps := ["rows", "row", "size"]) fun _ _ _ _ _ _ us hl => match us, hl with | [_, _, _], _ => rfl
  have mg__law_bin := PySem.W.mg_of X G a13
  have F14 := fun_mk (st := s_law_due) l14 c14 k14
  have b__law_due := F14.binds (ps := ["one", "other"]) fun _ _ _ _ _ _ us hl => match us, hl with | [_, _], _ => rfl
  have mg__law_due := PySem.W.mg_of X G a14
  have F15 := fun_mk (st := s_pieces_of) l15 c15 k15
  have b_pieces_of := F15.binds (ps := ["size", "parts"]) fun _ _ _ _ _ _ us hl => match us, hl with | [_, _], _ => rfl
  have mg_pieces_of := PySem.W.mg_of X G a15
  have F16 := fun_mk (st := s_goes_on) l16 c16 k16
  have b_goes_on := F16.binds (ps := ["works", "row", "size"]) fun _ _ _ _ _ _ us hl => match us, hl with | [_, _, _], _ => rfl
  have mg_goes_on := PySem.W.mg_of X G a16
  have F17 := fun_mk (st := s_bin_at) l17 c17 k17
  have b_bin_at := F17.binds (ps := ["works", "row", "size"]) fun _ _ _ _ _ _ us hl => match us, hl with | [_, _, _], _ => rfl
  have mg_bin_at := PySem.W.mg_of X G a17
  have F18 := fun_mk (st := s_sizes_looked) l18 c18 k18
  have b_sizes_looked := F18.binds (ps := ["works"]) fun _ _ _ _ _ _ us hl => match us, hl with | [_], _ => rfl
  have mg_sizes_looked := PySem.W.mg_of X G a18
  have F19 := fun_mk (st := s_whole_to) l19 c19 k19
  have b_whole_to := F19.binds (ps := ["works", "row", "size"]) fun _ _ _ _ _ _ us hl => match us, hl with | [_, _, _], _ => rfl
  have mg_whole_to := PySem.W.mg_of X G a19
  have F20 := fun_mk (st := s_ring_from) l20 c20 k20
  have b_ring_from := F20.binds (ps := ["works", "row", "size"]) fun _ _ _ _ _ _ us hl => match us, hl with | [_, _, _], _ => rfl
  have mg_ring_from := PySem.W.mg_of X G a20
  have F21 := fun_mk (st := s_ring_of) l21 c21 k21
  have b_ring_of := F21.binds (ps := ["works"]) fun _ _ _ _ _ _ us hl => match us, hl with | [_], _ => rfl
  have mg_ring_of := PySem.W.mg_of X G a21
  have F22 := fun_mk (st := s_form_of) l22 c22 k22
  have b_form_of := F22.binds (ps := ["works", "row"]) fun _ _ _ _ _ _ us hl => match us, hl with | [_, _], _ => rfl
  have mg_form_of := PySem.W.mg_of X G a22
  have F23 := fun_mk (st := s_bin_by) l23 c23 k23
  have b_bin_by := F23.binds (ps := ["form", "size"]) fun _ _ _ _ _ _ us hl => match us, hl with | [_, _], _ => rfl
  have mg_bin_by := PySem.W.mg_of X G a23
  have F24 := fun_mk (st := s_parted_at) l24 c24 k24
  have b_parted_at := F24.binds (ps := ["one", "other"]) fun _ _ _ _ _ _ us hl => match us, hl with | [_, _], _ => rfl
  have mg_parted_at := PySem.W.mg_of X G a24
  have F25 := fun_mk (st := s_law_word) l25 c25 k25
  have b__law_word := F25.binds (ps := ["one", "other"]) fun _ _ _ _ _ _ us hl => match us, hl with | [_, _], _ => rfl
  have mg__law_word := PySem.W.mg_of X G a25
  have F26 := fun_mk (st := s_law_refused) l26 c26 k26
  have b__law_refused := F26.binds (ps := ["plain", "cell"]) fun _ _ _ _ _ _ us hl => match us, hl with | [_, _], _ => rfl
  have mg__law_refused := PySem.W.mg_of X G a26
  have F27 := fun_mk (st := s_law_whole) l27 c27 k27
  have b__law_whole := F27.binds (ps := ["found"]) fun _ _ _ _ _ _ us hl => match us, hl with | [_], _ => rfl
  have mg__law_whole := PySem.W.mg_of X G a27
  have F28 := fun_mk (st := s_law) l28 c28 k28
  refine ⟨PySem.W.fnOf "law" "law" (defArgs s_law) (defBody s_law) (defScope s_law) .none kV28 dc28 pm28 an28 cd28 ct28, fun s v => .of_eq rfl, fun base _ _ => ?_⟩
  have G__law_whole_to := ok_law_whole_to (P := l.prog) (w := w) (mg := mg) (base := base) (ce := ce) F0 z_int
  have G__law_goes_round := ok_law_goes_round (P := l.prog) (w := w) (mg := mg) (base := base) (ce := ce) F1 G__law_whole_to mg__law_whole_to k0 b__law_whole_to z_len z_range
  have G__law_stuck := ok_law_stuck (P := l.prog) (w := w) (mg := mg) (base := base) (ce := ce) F2 G__law_goes_round mg__law_goes_round k1 b__law_goes_round z_len
  have G_good_row := ok_good_row (P := l.prog) (w := w) (mg := mg) (base := base) (ce := ce) F3 c_MOST_BIN c_WIDEST z_len
  have G_Works := ok_Works (P := l.prog) (w := w) (mg := mg) (base := base) (ce := ce) F4 cls_Works c_MOST_PARTS c_MOST_ROWS x_BadWorks G_good_row mg_good_row k3 b_good_row na_Works_parts na_Works_rows z_len z_list
  have G__law_size := ok_law_size (P := l.prog) (w := w) (mg := mg) (base := base) (ce := ce) F5
  have G__law_row := ok_law_row (P := l.prog) (w := w) (mg := mg) (base := base) (ce := ce) F6 G__law_size mg__law_size k5 b__law_size
  have G__law_cell_at := ok_law_cell_at (P := l.prog) (w := w) (mg := mg) (base := base) (ce := ce) F7 z_len
  have G__law_plain := ok_law_plain (P := l.prog) (w := w) (mg := mg) (base := base) (ce := ce) F8 G__law_cell_at mg__law_cell_at k7 b__law_cell_at G__law_size mg__law_size k5 b__law_size M_Works G_Works mgc_Works b_Works z_range
  have G__law_free := ok_law_free (P := l.prog) (w := w) (mg := mg) (base := base) (ce := ce) F9 G__law_cell_at mg__law_cell_at k7 b__law_cell_at G__law_plain mg__law_plain k8 b__law_plain G__law_row mg__law_row k6 b__law_row G__law_stuck mg__law_stuck k2 b__law_stuck M_Works G_Works mgc_Works b_Works z_range
  have G__law_later := ok_law_later (P := l.prog) (w := w) (mg := mg) (base := base) (ce := ce) F10
  have G__law_beyond := ok_law_beyond (P := l.prog) (w := w) (mg := mg) (base := base) (ce := ce) F11 z_int
  have G__law_turned := ok_law_turned (P := l.prog) (w := w) (mg := mg) (base := base) (ce := ce) F12 G__law_beyond mg__law_beyond k11 b__law_beyond G__law_later mg__law_later k10 b__law_later M_Works G_Works mgc_Works b_Works z_len z_list z_max
  have G__law_bin := ok_law_bin (P := l.prog) (w := w) (mg := mg) (base := base) (ce := ce) F13 z_int
  have G__law_due := ok_law_due (P := l.prog) (w := w) (mg := mg) (base := base) (ce := ce) F14 G__law_bin mg__law_bin k13 b__law_bin z_sorted
  have G_pieces_of := ok_pieces_of (P := l.prog) (w := w) (mg := mg) (base := base) (ce := ce) F15
  have G_goes_on := ok_goes_on (P := l.prog) (w := w) (mg := mg) (base := base) (ce := ce) F16 G_pieces_of mg_pieces_of k15 b_pieces_of
  have G_bin_at := ok_bin_at (P := l.prog) (w := w) (mg := mg) (base := base) (ce := ce) F17 G_goes_on mg_goes_on k16 b_goes_on
  have G_sizes_looked := ok_sizes_looked (P := l.prog) (w := w) (mg := mg) (base := base) (ce := ce) F18 z_sorted
  have G_whole_to := ok_whole_to (P := l.prog) (w := w) (mg := mg) (base := base) (ce := ce) F19 G_goes_on mg_goes_on k16 b_goes_on z_len
  have G_ring_from := ok_ring_from (P := l.prog) (w := w) (mg := mg) (base := base) (ce := ce) F20 G_whole_to mg_whole_to k19 b_whole_to
  have G_ring_of := ok_ring_of (P := l.prog) (w := w) (mg := mg) (base := base) (ce := ce) F21 G_ring_from mg_ring_from k20 b_ring_from G_sizes_looked mg_sizes_looked k18 b_sizes_looked z_len z_range
  have G_form_of := ok_form_of (P := l.prog) (w := w) (mg := mg) (base := base) (ce := ce) F22 c_WIDEST x_HasCrusher x_Stuck G_bin_at mg_bin_at k17 b_bin_at G_ring_of mg_ring_of k21 b_ring_of z_len z_reversed z_set z_sorted
  have G_bin_by := ok_bin_by (P := l.prog) (w := w) (mg := mg) (base := base) (ce := ce) F23
  have G_parted_at := ok_parted_at (P := l.prog) (w := w) (mg := mg) (base := base) (ce := ce) F24 G_bin_by mg_bin_by k23 b_bin_by G_form_of mg_form_of k22 b_form_of z_sorted
  have G__law_word := ok_law_word (P := l.prog) (w := w) (mg := mg) (base := base) (ce := ce) F25 mc_HasCrusher mc_MeshError mc_Stuck G_parted_at mg_parted_at k24 b_parted_at ki_HasCrusher_HasCrusher ki_HasCrusher_Stuck ki_Stuck_HasCrusher ki_Stuck_Stuck xc_HasCrusher xc_Stuck xm_HasCrusher_MeshError xm_Stuck_MeshError z_isinstance
  have G__law_refused := ok_law_refused (P := l.prog) (w := w) (mg := mg) (base := base) (ce := ce) F26 G__law_word mg__law_word k25 b__law_word M_Works G_Works mgc_Works b_Works
  have G__law_whole := ok_law_whole (P := l.prog) (w := w) (mg := mg) (base := base) (ce := ce) F27 z_bool z_int z_isinstance
  exact law_of (ok_law (mg := mg) (ce := ce) F28 G__law_cell_at mg__law_cell_at k7 b__law_cell_at G__law_due mg__law_due k14 b__law_due G__law_free mg__law_free k9 b__law_free G__law_refused mg__law_refused k26 b__law_refused G__law_stuck mg__law_stuck k2 b__law_stuck G__law_turned mg__law_turned k12 b__law_turned G__law_whole mg__law_whole k27 b__law_whole G_parted_at mg_parted_at k24 b_parted_at z_list)
end Kx
open PySem PySem.W PyProof.Rows L2 Mw
set_option maxRecDepth 100000 in
set_option maxHeartbeats 0 in
theorem PySem.Challenge.cw_meshworks_k27_where_works_part_holds : PySem.Challenge.rw_meshworks_k27_where_works_part.Holds := by
  w_on; o_law; k_head; (case hw => w_witness2)
  k_fill
  refine L2.walk_of (l := PySem.Challenge.rw_meshworks_k27_where_works_part) (n := 63) (k := 10) (x := "script") (CX := fun _ => L2.CX0) (sp := fun w => Kx.spLaw _) rfl (by decide) rfl ⟨rfl, by decide, by decide⟩ (fun w h Y => PySem.W.kIn_of Y) ?F (fun _ _ a ns hl _ hS => ⟨a, ns, rfl, hS, hl, fun _ => rfl⟩) (fun _ _ _ _ _ h => h)
  case F =>
    intro w mg fa h KX G hmg
    refine' Kx.all_mk KX G hmg ?a0 ?l0 ?c0 ?k0 ?a1 ?l1 ?c1 ?k1 ?a2 ?l2 ?c2 ?k2 ?a3 ?l3 ?c3 ?k3 ?a4 ?i4 ?l4 ?c4 ?k4 ?a5 ?l5 ?c5 ?k5 ?a6 ?l6 ?c6 ?k6 ?a7 ?l7 ?c7 ?k7 ?a8 ?l8 ?c8 ?k8 ?a9 ?l9 ?c9 ?k9 ?a10 ?l10 ?c10 ?k10 ?a11 ?l11 ?c11 ?k11 ?a12 ?l12 ?c12 ?k12 ?a13 ?l13 ?c13 ?k13 ?a14 ?l14 ?c14 ?k14 ?a15 ?l15 ?c15 ?k15 ?a16 ?l16 ?c16 ?k16 ?a17 ?l17 ?c17 ?k17 ?a18 ?l18 ?c18 ?k18 ?a19 ?l19 ?c19 ?k19 ?a20 ?l20 ?c20 ?k20 ?a21 ?l21 ?c21 ?k21 ?a22 ?l22 ?c22 ?k22 ?a23 ?l23 ?c23 ?k23 ?a24 ?l24 ?c24 ?k24 ?a25 ?l25 ?c25 ?k25 ?a26 ?l26 ?c26 ?k26 ?a27 ?l27 ?c27 ?k27 ?a28 ?l28 ?c28 ?k28 ?ea_BadWorks ?ex_BadWorks ?ek_BadWorks ?eb_BadWorks ?et_BadWorks ?ea_HasCrusher ?ex_HasCrusher ?ek_HasCrusher ?eb_HasCrusher ?et_HasCrusher ?ea_Stuck ?ex_Stuck ?ek_Stuck ?eb_Stuck ?et_Stuck ?n_MOST_BIN ?n_MOST_PARTS ?n_MOST_ROWS ?n_WIDEST ?z_bool ?z_int ?z_isinstance ?z_len ?z_list ?z_max ?z_range ?z_reversed ?z_set ?z_sorted ?ea_MeshError ?ea_Works ?pg_Works ?hd_Works ?po_Works ?sa_Works ?mk_Works ?kc_Works ?hi_HasCrusher_HasCrusher ?hi_HasCrusher_Stuck ?hi_Stuck_HasCrusher ?hi_Stuck_Stuck ?hn_Works_parts ?hn_Works_rows ?xq0_HasCrusher ?xq1_HasCrusher ?xq2_HasCrusher ?xq3_HasCrusher ?xq4_HasCrusher ?xq5_HasCrusher ?xq0_Stuck ?xq1_Stuck ?xq2_Stuck ?xq3_Stuck ?xq4_Stuck ?xq5_Stuck ?hm_HasCrusher_MeshError ?hm_Stuck_MeshError ?xqA ?xqB
    (case ea_BadWorks => k_is)
    (case ea_HasCrusher => k_is)
    (case ea_Stuck => k_is)
    (case ea_MeshError => k_is)
    (case ea_Works => k_is)
    (case a0 => k_is)
    (case l0 => k_is)
    (case c0 => k_is)
    (case k0 => k_is)
    (case a1 => k_is)
    (case l1 => k_is)
    (case c1 => k_is)
    (case k1 => k_is)
    (case a2 => k_is)
    (case l2 => k_is)
    (case c2 => k_is)
    (case k2 => k_is)
    (case a3 => k_is)
    (case l3 => k_is)
    (case c3 => k_is)
    (case k3 => k_is)
    (case a4 => k_is)
    (case i4 => k_is)
    (case l4 => k_is)
    (case c4 => k_is)
    (case k4 => k_is)
    (case a5 => k_is)
    (case l5 => k_is)
    (case c5 => k_is)
    (case k5 => k_is)
    (case a6 => k_is)
    (case l6 => k_is)
    (case c6 => k_is)
    (case k6 => k_is)
    (case a7 => k_is)
    (case l7 => k_is)
    (case c7 => k_is)
    (case k7 => k_is)
    (case a8 => k_is)
    (case l8 => k_is)
    (case c8 => k_is)
    (case k8 => k_is)
    (case a9 => k_is)
    (case l9 => k_is)
    (case c9 => k_is)
    (case k9 => k_is)
    (case a10 => k_is)
    (case l10 => k_is)
    (case c10 => k_is)
    (case k10 => k_is)
    (case a11 => k_is)
    (case l11 => k_is)
    (case c11 => k_is)
    (case k11 => k_is)
    (case a12 => k_is)
    (case l12 => k_is)
    (case c12 => k_is)
    (case k12 => k_is)
    (case a13 => k_is)
    (case l13 => k_is)
    (case c13 => k_is)
    (case k13 => k_is)
    (case a14 => k_is)
    (case l14 => k_is)
    (case c14 => k_is)
    (case k14 => k_is)
    (case a15 => k_is)
    (case l15 => k_is)
    (case c15 => k_is)
    (case k15 => k_is)
    (case a16 => k_is)
    (case l16 => k_is)
    (case c16 => k_is)
    (case k16 => k_is)
    (case a17 => k_is)
    (case l17 => k_is)
    (case c17 => k_is)
    (case k17 => k_is)
    (case a18 => k_is)
    (case l18 => k_is)
    (case c18 => k_is)
    (case k18 => k_is)
    (case a19 => k_is)
    (case l19 => k_is)
    (case c19 => k_is)
    (case k19 => k_is)
    (case a20 => k_is)
    (case l20 => k_is)
    (case c20 => k_is)
    (case k20 => k_is)
    (case a21 => k_is)
    (case l21 => k_is)
    (case c21 => k_is)
    (case k21 => k_is)
    (case a22 => k_is)
    (case l22 => k_is)
    (case c22 => k_is)
    (case k22 => k_is)
    (case a23 => k_is)
    (case l23 => k_is)
    (case c23 => k_is)
    (case k23 => k_is)
    (case a24 => k_is)
    (case l24 => k_is)
    (case c24 => k_is)
    (case k24 => k_is)
    (case a25 => k_is)
    (case l25 => k_is)
    (case c25 => k_is)
    (case k25 => k_is)
    (case a26 => k_is)
    (case l26 => k_is)
    (case c26 => k_is)
    (case k26 => k_is)
    (case a27 => k_is)
    (case l27 => k_is)
    (case c27 => k_is)
    (case k27 => k_is)
    (case a28 => k_is)
    (case l28 => k_is)
    (case c28 => k_is)
    (case k28 => k_is)
    (case ex_BadWorks => k_exc)
    (case ek_BadWorks => k_is)
    (case eb_BadWorks => k_is)
    (case et_BadWorks => k_is)
    (case ex_HasCrusher => k_exc)
    (case ek_HasCrusher => k_is)
    (case eb_HasCrusher => k_is)
    (case et_HasCrusher => k_is)
    (case ex_Stuck => k_exc)
    (case ek_Stuck => k_is)
    (case eb_Stuck => k_is)
    (case et_Stuck => k_is)
    (case n_MOST_BIN => k_is)
    (case n_MOST_PARTS => k_is)
    (case n_MOST_ROWS => k_is)
    (case n_WIDEST => k_is)
    (case z_bool => k_is)
    (case z_int => k_is)
    (case z_isinstance => k_is)
    (case z_len => k_is)
    (case z_list => k_is)
    (case z_max => k_is)
    (case z_range => k_is)
    (case z_reversed => k_is)
    (case z_set => k_is)
    (case z_sorted => k_is)
    (case pg_Works => k_is)
    (case hd_Works => k_is)
    (case po_Works => k_is)
    (case sa_Works => k_is)
    (case mk_Works => k_is)
    (case kc_Works => k_is)
    (case hi_HasCrusher_HasCrusher => exact (kit_own (by k_is) (by k_is) (by k_is) (by decide)))
    (case hi_HasCrusher_Stuck => exact (kit_own (by k_is) (by k_is) (by k_is) (by decide)))
    (case hi_Stuck_HasCrusher => exact (kit_own (by k_is) (by k_is) (by k_is) (by decide)))
    (case hi_Stuck_Stuck => exact (kit_own (by k_is) (by k_is) (by k_is) (by decide)))
    (case hn_Works_parts => k_is)
    (case hn_Works_rows => k_is)
    (case xq0_HasCrusher => k_is)
    (case xq1_HasCrusher => k_is)
    (case xq2_HasCrusher => k_is)
    (case xq3_HasCrusher => k_is)
    (case xq4_HasCrusher => k_is)
    (case xq5_HasCrusher => k_is)
    (case xq0_Stuck => k_is)
    (case xq1_Stuck => k_is)
    (case xq2_Stuck => k_is)
    (case xq3_Stuck => k_is)
    (case xq4_Stuck => k_is)
    (case xq5_Stuck => k_is)
    (case hm_HasCrusher_MeshError => exact PySem.W.exm_ref (by k_is) (by k_is) (by k_is) (by k_is))
    (case hm_Stuck_MeshError => exact PySem.W.exm_ref (by k_is) (by k_is) (by k_is) (by k_is))
    (case xqA => k_is)
    (case xqB => k_is)
