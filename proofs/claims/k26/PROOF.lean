import PyProof.Rows.All
import Wide.All
import OpenK.AllK
import Wide.FinOn
import HandS.ForMost
import HandS.ForExc
import HandS.Wide
import HandS.SortInts
import HandS.SortRule
import HandS.IsInst
import HandS.ExcIs
import HandS.Flow
import HandS.Style
import HandS.Conv
import HandS.More
import HandS.Evl
import HandS.ForDict
import HandS.Strs
import HandS.SetFor
import HandS.TupSets
import PySem.Challenge.RW_meshworks_k26_whole_forms_there_and_back
set_option Elab.async false
set_option linter.all false
set_option maxRecDepth 100000
set_option maxHeartbeats 2000000
/-! Mw, part A: data by their types, what represents them; the monad of the mirrors; what an expression tells. -/
namespace Mw
open PySem L2
abbrev Ex (H H' : Hp) : Prop := ∀ a o, H a = some o → H' a = some o
theorem Ex.rf (H : Hp) : Ex H H := fun _ _ h => h
theorem Ex.tr {H H1 H2 : Hp} (a : Ex H H1) (b : Ex H1 H2) : Ex H H2 := fun x o h => b x o (a x o h)
theorem Ex.nw {H : Hp} {p : Addr} {o : HO} (h : H p = none) : Ex H (upd H p o) := fun a u e => by
  rw [upd_ne (ne_of_none e h)]
  exact e
theorem ex_rd {H H' : Hp} {a : Addr} {u : HO} (e : Ex H H') (h : Rd H a u) : Rd H' a u := by
  rcases h with h | ⟨o, h⟩
  · exact Or.inl (e a _ h)
  · exact Or.inr ⟨o, e a _ h⟩
theorem ex_l {K : PySem.W.Frag} {H H' : Hp} {a : Addr} {xs : List V} (e : Ex H H') (h : SqL K H a xs) : SqL K H' a xs := by
  rcases h with h | h
  · exact Or.inl (ex_rd e h)
  · exact Or.inr h
theorem ex_t {K : PySem.W.Frag} {H H' : Hp} {a : Addr} {xs : List V} (e : Ex H H') (h : SqT K H a xs) : SqT K H' a xs := by
  rcases h with h | h
  · exact Or.inl (ex_rd e h)
  · exact Or.inr h

/-! ### what the frame may lean on (F), and all that is tracked (H): both grow -/
structure Gr (F H F' H' : Hp) : Prop where
  ff : Ex F F'
  fh : Ex F' H'
  hh : Ex H H'
  nw : ∀ b, F b = none → H b ≠ none → F' b = none
theorem Gr.rf {F H : Hp} (h : Ex F H) : Gr F H F H := ⟨Ex.rf _, h, Ex.rf _, fun _ a _ => a⟩
theorem Ex.ne {H H' : Hp} (h : Ex H H') {b : Addr} (n : H b ≠ none) : H' b ≠ none := by
  cases e : H b with
  | none => exact absurd e n
  | some o => rw [h b o e]; exact fun z => by cases z
theorem Gr.tr {F H F1 H1 F2 H2 : Hp} (a : Gr F H F1 H1) (b : Gr F1 H1 F2 H2) : Gr F H F2 H2 :=
  ⟨a.ff.tr b.ff, b.fh, a.hh.tr b.hh, fun c h1 h2 => b.nw c (a.nw c h1 h2) (a.hh.ne h2)⟩
/-- a new object that all may lean on -/
theorem Gr.new {F H : Hp} {p : Addr} {o : HO} (h : Ex F H) (n : H p = none) : Gr F H (upd F p o) (upd H p o) where
  ff := fun a u e => by
    have : a ≠ p := fun z => by subst z; rw [h a u e] at n; cases n
    rw [upd_ne this]; exact e
  fh := fun a u e => by
    by_cases z : a = p
    · subst z; rw [upd_same] at e ⊢; exact e
    · rw [upd_ne z] at e ⊢; exact h a u e
  hh := Ex.nw n
  nw := fun b h1 h2 => by
    have : b ≠ p := fun z => by subst z; exact h2 n
    rw [upd_ne this]; exact h1
/-- a new object of one's own -/
theorem Gr.own {F H : Hp} {p : Addr} {o : HO} (h : Ex F H) (n : H p = none) : Gr F H F (upd H p o) where
  ff := Ex.rf _
  fh := fun a u e => by
    have : a ≠ p := fun z => by subst z; rw [h a u e] at n; cases n
    rw [upd_ne this]; exact h a u e
  hh := Ex.nw n
  nw := fun b h1 _ => h1
/-- one's own object is changed -/
theorem Gr.mut {F0 H0 F H : Hp} {p : Addr} {o : HO} (g : Gr F0 H0 F H) (n0 : H0 p = none) (nf : F p = none) : Gr F0 H0 F (upd H p o) where
  ff := g.ff
  fh := fun a u e => by
    have : a ≠ p := fun z => by subst z; rw [e] at nf; cases nf
    rw [upd_ne this]; exact g.fh a u e
  hh := fun a u e => by
    have : a ≠ p := fun z => by subst z; rw [e] at n0; cases n0
    rw [upd_ne this]; exact g.hh a u e
  nw := g.nw
theorem ex_back {H H' : Hp} {p : Addr} (e : Ex H H') (h : H' p = none) : H p = none := by
  cases h1 : H p with
  | none => rfl
  | some o => rw [e p o h1] at h; cases h

/-! ### data -/
class Rep (α : Type) where
  rp : PySem.W.Frag → Hp → V → α → Prop
  mo : ∀ {K : PySem.W.Frag} {H H' : Hp} {v : V} {x : α}, Ex H H' → rp K H v x → rp K H' v x
open Rep (rp)
theorem paired_mo {α : Type} [Rep α] {K : PySem.W.Frag} {H H' : Hp} (e : Ex H H') : ∀ {vs : List V} {xs : List α}, Paired (rp K H) vs xs → Paired (rp K H') vs xs
  | _, _, .nil => .nil
  | _, _, .cons h t => .cons (Rep.mo e h) (paired_mo e t)
structure T3 (α β γ : Type) where
  a : α
  b : β
  c : γ
  deriving DecidableEq
structure T4 (α β γ δ : Type) where
  a : α
  b : β
  c : γ
  d : δ
  deriving DecidableEq
instance : Rep Int := ⟨fun _ _ v x => v = .int x, fun _ h => h⟩
instance : Rep Bool := ⟨fun _ _ v x => v = .bl x, fun _ h => h⟩
instance : Rep Str := ⟨fun _ _ v x => v = .str x, fun _ h => h⟩
instance : Rep Unit := ⟨fun _ _ v _ => v = .non, fun _ h => h⟩
instance {α : Type} [Rep α] : Rep (Option α) := ⟨fun K H v x => match x with
  | none => v = .non
  | some y => rp K H v y ∧ v ≠ .non, fun {K H H' v x} e h => by
    cases x with
    | none => exact h
    | some y => exact ⟨Rep.mo e h.1, h.2⟩⟩
instance {α β : Type} [Rep α] [Rep β] : Rep (α × β) := ⟨fun K H v x => ∃ a u w, v = .ref a ∧ SqT K H a [u, w] ∧ rp K H u x.1 ∧ rp K H w x.2,
  fun e ⟨a, u, w, h1, h2, h3, h4⟩ => ⟨a, u, w, h1, ex_t e h2, Rep.mo e h3, Rep.mo e h4⟩⟩
instance {α β γ : Type} [Rep α] [Rep β] [Rep γ] : Rep (T3 α β γ) := ⟨fun K H v x => ∃ a u w z, v = .ref a ∧ SqT K H a [u, w, z] ∧ rp K H u x.a ∧ rp K H w x.b ∧ rp K H z x.c,
  fun e ⟨a, u, w, z, h1, h2, h3, h4, h5⟩ => ⟨a, u, w, z, h1, ex_t e h2, Rep.mo e h3, Rep.mo e h4, Rep.mo e h5⟩⟩
instance {α β γ δ : Type} [Rep α] [Rep β] [Rep γ] [Rep δ] : Rep (T4 α β γ δ) := ⟨fun K H v x => ∃ a u w z y, v = .ref a ∧ SqT K H a [u, w, z, y] ∧ rp K H u x.a ∧ rp K H w x.b ∧ rp K H z x.c ∧ rp K H y x.d,
  fun e ⟨a, u, w, z, y, h1, h2, h3, h4, h5, h6⟩ => ⟨a, u, w, z, y, h1, ex_t e h2, Rep.mo e h3, Rep.mo e h4, Rep.mo e h5, Rep.mo e h6⟩⟩
instance {α : Type} [Rep α] : Rep (List α) := ⟨fun K H v x => ∃ a vs, v = .ref a ∧ H a = some (.lst vs) ∧ Paired (rp K H) vs x,
  fun e ⟨a, vs, h1, h2, h3⟩ => ⟨a, vs, h1, e _ _ h2, paired_mo e h3⟩⟩
/-- the script: read alone -/
structure Scr where
  l : List Int
instance : Rep Scr := ⟨fun K H v x => ∃ a, v = .ref a ∧ SqL K H a (x.l.map V.int), fun e ⟨a, h1, h2⟩ => ⟨a, h1, ex_l e h2⟩⟩
theorem paired_map {α β : Type} {F : α → β → Prop} {f : β → α} (h : ∀ b, F (f b) b) : ∀ xs : List β, Paired F (xs.map f) xs
  | [] => .nil
  | x :: r => .cons (h x) (paired_map h r)
theorem paired_int {K : PySem.W.Frag} {H : Hp} : ∀ {vs : List V} {xs : List Int}, Paired (rp K H) vs xs → vs = xs.map V.int
  | _, _, .nil => rfl
  | _, _, .cons h t => by
    rw [List.map_cons, ← paired_int t]
    exact congrArg (· :: _) h
theorem paired_bl {K : PySem.W.Frag} {H : Hp} : ∀ {vs : List V} {xs : List Bool}, Paired (rp K H) vs xs → vs = xs.map V.bl
  | _, _, .nil => rfl
  | _, _, .cons h t => by
    rw [List.map_cons, ← paired_bl t]
    exact congrArg (· :: _) h
theorem rep_int {K : PySem.W.Frag} {H : Hp} (xs : List Int) : Paired (rp K H) (xs.map V.int) xs := paired_map (F := rp K H) (f := V.int) (fun _ => rfl) xs
theorem paired_get {α β : Type} {F : α → β → Prop} : ∀ {vs : List α} {xs : List β} {i : Nat} {x : β}, Paired F vs xs → xs[i]? = some x → ∃ v, vs[i]? = some v ∧ F v x
  | _, _, _, _, .nil, e => by simp at e
  | _, _, 0, _, .cons r _, e => by simp at e; subst e; exact ⟨_, rfl, r⟩
  | _, _, i + 1, x, .cons _ t, e => by
    obtain ⟨u, h1, h2⟩ := paired_get (i := i) (x := x) t (by simpa using e)
    exact ⟨u, by simpa using h1, h2⟩
theorem paired_get' {α β : Type} {F : α → β → Prop} : ∀ {vs : List α} {xs : List β} {i : Nat} {v : α}, Paired F vs xs → vs[i]? = some v → ∃ x, xs[i]? = some x ∧ F v x
  | _, _, _, _, .nil, e => by simp at e
  | _, _, 0, _, .cons r _, e => by simp at e; subst e; exact ⟨_, rfl, r⟩
  | _, _, i + 1, x, .cons _ t, e => by
    obtain ⟨u, h1, h2⟩ := paired_get' (i := i) (v := x) t (by simpa using e)
    exact ⟨u, by simpa using h1, h2⟩
theorem paired_app {α β : Type} {F : α → β → Prop} : ∀ {vs ws : List α} {xs ys : List β}, Paired F vs xs → Paired F ws ys → Paired F (vs ++ ws) (xs ++ ys)
  | _, _, _, _, .nil, s => s
  | _, _, _, _, .cons r t, s => .cons r (paired_app t s)
theorem paired_take {α β : Type} {F : α → β → Prop} : ∀ {vs : List α} {xs : List β} (n : Nat), Paired F vs xs → Paired F (vs.take n) (xs.take n)
  | _, _, 0, _ => .nil
  | _, _, _ + 1, .nil => .nil
  | _, _, n + 1, .cons r t => .cons r (paired_take n t)
theorem paired_drop {α β : Type} {F : α → β → Prop} : ∀ {vs : List α} {xs : List β} (n : Nat), Paired F vs xs → Paired F (vs.drop n) (xs.drop n)
  | _, _, 0, r => r
  | _, _, _ + 1, .nil => .nil
  | _, _, n + 1, .cons _ t => paired_drop n t
theorem paired_rev {α β : Type} {F : α → β → Prop} : ∀ {vs : List α} {xs : List β}, Paired F vs xs → Paired F vs.reverse xs.reverse
  | _, _, .nil => .nil
  | _, _, .cons r t => by
    rw [List.reverse_cons, List.reverse_cons]
    exact paired_app (paired_rev t) (.cons r .nil)
theorem paired_set {α β : Type} {F : α → β → Prop} {v : α} {x : β} (r : F v x) : ∀ {vs : List α} {xs : List β} (i : Nat), Paired F vs xs → Paired F (vs.set i v) (xs.set i x)
  | _, _, _, .nil => .nil
  | _, _, 0, .cons _ t => .cons r t
  | _, _, i + 1, .cons q t => .cons q (paired_set r i t)
theorem paired_rep {α β : Type} {F : α → β → Prop} {v : α} {x : β} (r : F v x) : ∀ n : Nat, Paired F (List.replicate n v) (List.replicate n x)
  | 0 => .nil
  | n + 1 => .cons r (paired_rep r n)

/-! ### data that lean on no list -/
def TupEx (F F' : Hp) : Prop := ∀ a xs, Rd F a (.tup xs) → Rd F' a (.tup xs)
class Flat (α : Type) [Rep α] : Prop where
  fl : ∀ {K : PySem.W.Frag} {F F' : Hp} {v : V} {x : α}, TupEx F F' → rp K F v x → rp K F' v x
theorem tup_t {K : PySem.W.Frag} {H H' : Hp} {a : Addr} {xs : List V} (e : TupEx H H') (h : SqT K H a xs) : SqT K H' a xs := by
  rcases h with h | h
  · exact Or.inl (e a xs h)
  · exact Or.inr h
instance : Flat Int := ⟨fun _ h => h⟩
instance : Flat Bool := ⟨fun _ h => h⟩
instance : Flat Str := ⟨fun _ h => h⟩
instance : Flat Unit := ⟨fun _ h => h⟩
instance {α : Type} [Rep α] [Flat α] : Flat (Option α) := ⟨fun {K F F' v x} e h => by
  cases x with
  | none => exact h
  | some y => exact ⟨Flat.fl e h.1, h.2⟩⟩
instance {α β : Type} [Rep α] [Rep β] [Flat α] [Flat β] : Flat (α × β) := ⟨fun e ⟨a, u, w, h1, h2, h3, h4⟩ => ⟨a, u, w, h1, tup_t e h2, Flat.fl e h3, Flat.fl e h4⟩⟩
instance {α β γ : Type} [Rep α] [Rep β] [Rep γ] [Flat α] [Flat β] [Flat γ] : Flat (T3 α β γ) := ⟨fun e ⟨a, u, w, z, h1, h2, h3, h4, h5⟩ => ⟨a, u, w, z, h1, tup_t e h2, Flat.fl e h3, Flat.fl e h4, Flat.fl e h5⟩⟩
instance {α β γ δ : Type} [Rep α] [Rep β] [Rep γ] [Rep δ] [Flat α] [Flat β] [Flat γ] [Flat δ] : Flat (T4 α β γ δ) := ⟨fun e ⟨a, u, w, z, y, h1, h2, h3, h4, h5, h6⟩ => ⟨a, u, w, z, y, h1, tup_t e h2, Flat.fl e h3, Flat.fl e h4, Flat.fl e h5, Flat.fl e h6⟩⟩
theorem paired_fl {α : Type} [Rep α] [Flat α] {K : PySem.W.Frag} {F F' : Hp} (e : TupEx F F') : ∀ {vs : List V} {xs : List α}, Paired (rp K F) vs xs → Paired (rp K F') vs xs
  | _, _, .nil => .nil
  | _, _, .cons h t => .cons (Flat.fl e h) (paired_fl e t)

/-! ### the mirrors' monad -/
structure Err where
  name : String
  deriving DecidableEq
inductive M (α : Type) where
  | ok (a : α)
  | er (c : Err)
  | bad
  deriving DecidableEq
def M.bind {α β : Type} : M α → (α → M β) → M β
  | .ok a, f => f a
  | .er c, _ => .er c
  | .bad, _ => .bad
@[simp] theorem M.ok_bind {α β : Type} (a : α) (f : α → M β) : (M.ok a).bind f = f a := (rfl)
@[simp] theorem M.er_bind {α β : Type} (c : Err) (f : α → M β) : (M.er c : M α).bind f = .er c := (rfl)
@[simp] theorem M.bad_bind {α β : Type} (f : α → M β) : (M.bad : M α).bind f = .bad := (rfl)

/-! ### what comes of a run -/
abbrev Md (ρ : Type) := Hp → Hp → Hp → Hp → V → ρ → Prop
/-- any value that represents it -/
def rv (K : PySem.W.Frag) {ρ : Type} [Rep ρ] : Md ρ := fun _ _ F' _ v r => rp K F' v r
/-- a new list of one's own -/
def rn (K : PySem.W.Frag) {α : Type} [Rep α] : Md (List α) := fun _ H F' H' v r => ∃ p vs, v = .ref p ∧ H p = none ∧ F' p = none ∧ H' p = some (.lst vs) ∧ Paired (rp K F') vs r
/-- the classes of errors by their names -/
abbrev Ce := String → Addr
def Post {ρ : Type} (ce : Ce) (md : Md ρ) (m : M ρ) (F H : Hp) (Q : VK) (E : XK) : Prop :=
  match m with
  | .ok r => ∀ F' H' v, Gr F H F' H' → md F H F' H' v r → Q v H'
  | .er c => ∀ H', Ex H H' → E (.ref (ce c.name)) none H'
  | .bad => False
class MdMo {ρ : Type} (md : Md ρ) : Prop where
  mo : ∀ {F H F1 H1 F2 H2 v r}, Gr F H F1 H1 → md F1 H1 F2 H2 v r → md F H F2 H2 v r
instance {K : PySem.W.Frag} {ρ : Type} [Rep ρ] : MdMo (rv K (ρ := ρ)) := ⟨fun _ h => h⟩
instance {K : PySem.W.Frag} {α : Type} [Rep α] : MdMo (rn K (α := α)) := ⟨fun g ⟨p, vs, h1, h2, h3⟩ => ⟨p, vs, h1, ex_back g.hh h2, h3⟩⟩
theorem Post.mo {ρ : Type} {ce : Ce} {md : Md ρ} [MdMo md] {m : M ρ} {F H F1 H1 : Hp} {Q : VK} {E : XK} (g : Gr F H F1 H1) (h : Post ce md m F H Q E) : Post ce md m F1 H1 Q E := by
  cases m with
  | ok r => exact fun F' H' v g' hm => h F' H' v (g.tr g') (MdMo.mo g hm)
  | er c => exact fun H' e => h H' (g.hh.tr e)
  | bad => exact h
/-- what an expression tells, whatever has been done meanwhile -/
def Ev {ρ : Type} (ce : Ce) (E : XK) (te : TE) (σ : L2.St) (F H : Hp) (md : Md ρ) (m : M ρ) : Prop := ∀ F1 H1, Gr F H F1 H1 → ∀ Q : VK, Post ce md m F1 H1 Q E → te σ H1 Q
/-- a test -/
def PostT (ce : Ce) (m : M Bool) (F H : Hp) (Q : Bool → Hp → Prop) (E : XK) : Prop :=
  match m with
  | .ok r => ∀ F' H', Gr F H F' H' → Q r H'
  | .er c => ∀ H', Ex H H' → E (.ref (ce c.name)) none H'
  | .bad => False
def EvT (ce : Ce) (E : XK) (tt : TT) (σ : L2.St) (F H : Hp) (m : M Bool) : Prop := ∀ F1 H1, Gr F H F1 H1 → ∀ Q : Bool → Hp → Prop, PostT ce m F1 H1 Q E → tt σ H1 Q
theorem PostT.mo {ce : Ce} {m : M Bool} {F H F1 H1 : Hp} {Q : Bool → Hp → Prop} {E : XK} (g : Gr F H F1 H1) (h : PostT ce m F H Q E) : PostT ce m F1 H1 Q E := by
  cases m with
  | ok r => exact fun F' H' g' => h F' H' (g.tr g')
  | er c => exact fun H' e => h H' (g.hh.tr e)
  | bad => exact h
section
variable {ρ α β γ : Type} [Rep α] [Rep β] [Rep γ] {ce : Ce} {E : XK} {K : PySem.W.Frag} {σ : L2.St} {F H F' H' : Hp} {te ta tb tc : TE} {tt tu : TT} {md : Md ρ} {m : M ρ}
theorem Ev.mo (g : Gr F H F' H') (h : Ev ce E te σ F H md m) : Ev ce E te σ F' H' md m := fun F1 H1 g1 Q q => h F1 H1 (g.tr g1) Q q
theorem EvT.mo {m : M Bool} (g : Gr F H F' H') (h : EvT ce E tt σ F H m) : EvT ce E tt σ F' H' m := fun F1 H1 g1 Q q => h F1 H1 (g.tr g1) Q q
/-- run a part, then what follows (F0, H0: the entry) -/
theorem Ev.run {m1 : M α} {k : α → M ρ} {Q Q' : VK} {F0 H0 : Hp} (h : Ev ce E ta σ F H (rv K) m1) (G : Gr F0 H0 F H) (q : Post ce md (m1.bind k) F0 H0 Q E)
    (c : ∀ x F1 H1 v, m1 = .ok x → Gr F H F1 H1 → rp K F1 v x → Post ce md (k x) F0 H0 Q E → Q' v H1) : ta σ H Q' := by
  refine h F H (Gr.rf G.fh) Q' ?_
  cases m1 with
  | ok x => exact fun F1 H1 v g r => c x F1 H1 v rfl g r q
  | er cc => exact fun H' e => q H' (G.hh.tr e)
  | bad => exact q
theorem Ev.runN {m1 : M (List α)} {k : List α → M ρ} {Q Q' : VK} {F0 H0 : Hp} (h : Ev ce E ta σ F H (rn K) m1) (G : Gr F0 H0 F H) (q : Post ce md (m1.bind k) F0 H0 Q E)
    (c : ∀ x F1 H1 p vs, m1 = .ok x → Gr F H F1 H1 → H p = none → F1 p = none → H1 p = some (.lst vs) → Paired (rp K F1) vs x → Post ce md (k x) F0 H0 Q E → Q' (.ref p) H1) : ta σ H Q' := by
  refine h F H (Gr.rf G.fh) Q' ?_
  cases m1 with
  | ok x =>
    rintro F1 H1 v g ⟨p, vs, rfl, h1, h2, h3, h4⟩
    exact c x F1 H1 p vs rfl g h1 h2 h3 h4 q
  | er cc => exact fun H' e => q H' (G.hh.tr e)
  | bad => exact q
theorem EvT.run {m1 : M Bool} {k : Bool → M ρ} {Q : VK} {Q' : Bool → Hp → Prop} {F0 H0 : Hp} (h : EvT ce E tt σ F H m1) (G : Gr F0 H0 F H) (q : Post ce md (m1.bind k) F0 H0 Q E)
    (c : ∀ x F1 H1, m1 = .ok x → Gr F H F1 H1 → Post ce md (k x) F0 H0 Q E → Q' x H1) : tt σ H Q' := by
  refine h F H (Gr.rf G.fh) Q' ?_
  cases m1 with
  | ok x => exact fun F1 H1 g => c x F1 H1 rfl g q
  | er cc => exact fun H' e => q H' (G.hh.tr e)
  | bad => exact q
/-- a new list may be leant on -/
theorem Ev.nv {m : M (List α)} (h : Ev ce E te σ F H (rn K) m) : Ev ce E te σ F H (rv K) m := by
  intro F1 H1 g Q q
  refine h F1 H1 g Q ?_
  cases m with
  | ok x =>
    rintro F2 H2 v g2 ⟨p, vs, rfl, h1, h2, h3, h4⟩
    refine q (upd F2 p (.lst vs)) H2 (.ref p) ⟨g2.ff.tr (Ex.nw h2), ?_, g2.hh, fun b a1 a2 => ?_⟩ ⟨p, vs, rfl, upd_same, paired_mo (Ex.nw h2) h4⟩
    · intro a u e
      by_cases z : a = p
      · subst z; rw [upd_same] at e; rw [h3]; exact e
      · rw [upd_ne z] at e; exact g2.fh a u e
    · have : b ≠ p := fun z => by subst z; exact a2 h1
      rw [upd_ne this]; exact g2.nw b a1 a2
  | er c => exact q
  | bad => exact q
/-! ### names, constants, operators -/
theorem em_var {i : Nat} {v : V} {x : α} (h : σ[i]? = some (some v)) (r : rp K F v x) : Ev ce E (tVar i) σ F H (rv K) (.ok x) :=
  fun F1 H1 g Q q => ⟨v, h, q F1 H1 v (Gr.rf g.fh) (Rep.mo g.ff r)⟩
theorem em_int {i : Int} : Ev ce E (tC (.int i)) σ F H (rv K) (.ok i) := fun F1 H1 g Q q => q F1 H1 _ (Gr.rf g.fh) rfl
theorem em_bl {b : Bool} : Ev ce E (tC (.bl b)) σ F H (rv K) (.ok b) := fun F1 H1 g Q q => q F1 H1 _ (Gr.rf g.fh) rfl
theorem em_str {s : Str} : Ev ce E (tC (.str s)) σ F H (rv K) (.ok s) := fun F1 H1 g Q q => q F1 H1 _ (Gr.rf g.fh) rfl
theorem em_unit : Ev ce E (tC .non) σ F H (rv K) (.ok ()) := fun F1 H1 g Q q => q F1 H1 _ (Gr.rf g.fh) rfl
theorem em_none : Ev ce E (tC .non) σ F H (rv K) (.ok (none : Option α)) := fun F1 H1 g Q q => q F1 H1 _ (Gr.rf g.fh) rfl
def Op1 (ce : Ce) (E : XK) (K : PySem.W.Frag) (r : V → Hp → VK → Prop) (md : Md ρ) (x : α) (m : M ρ) : Prop := ∀ F1 H1 vx, Ex F1 H1 → rp K F1 vx x → ∀ Q, Post ce md m F1 H1 Q E → r vx H1 Q
def Op2 (ce : Ce) (E : XK) (K : PySem.W.Frag) (r : R2) (md : Md ρ) (x : α) (y : β) (m : M ρ) : Prop := ∀ F1 H1 vx vy, Ex F1 H1 → rp K F1 vx x → rp K F1 vy y → ∀ Q, Post ce md m F1 H1 Q E → r vx vy H1 Q
theorem em_op [MdMo md] {r : R2} {m1 : M α} {m2 : M β} {g : α → β → M ρ} (ha : Ev ce E ta σ F H (rv K) m1) (hb : Ev ce E tb σ F H (rv K) m2) (hr : ∀ x y, Op2 ce E K r md x y (g x y)) :
    Ev ce E (tOp r ta tb) σ F H md (m1.bind fun x => m2.bind fun y => g x y) := by
  intro F1 H1 g1 Q q
  refine ha F1 H1 g1 _ ?_
  cases m1 with
  | ok x =>
    intro F2 H2 vx g2 rx
    refine hb F2 H2 (g1.tr g2) _ ?_
    cases m2 with
    | ok y => exact fun F3 H3 vy g3 ry => hr x y F3 H3 vx vy g3.fh (Rep.mo g3.ff rx) ry Q (Post.mo (g2.tr g3) q)
    | er c => exact fun H' e => q H' (g2.hh.tr e)
    | bad => exact q
  | er c => exact q
  | bad => exact q
theorem em_un [MdMo md] {r : V → Hp → VK → Prop} {m1 : M α} {g : α → M ρ} (ha : Ev ce E ta σ F H (rv K) m1) (hr : ∀ x, Op1 ce E K r md x (g x)) :
    Ev ce E (tUn r ta) σ F H md (m1.bind g) := by
  intro F1 H1 g1 Q q
  refine ha F1 H1 g1 _ ?_
  cases m1 with
  | ok x => exact fun F2 H2 vx g2 rx => hr x F2 H2 vx g2.fh rx Q (Post.mo g2 q)
  | er c => exact q
  | bad => exact q
theorem o_I0 {x y : Int} {g : Int → Int → V} {z : α} (h : ∀ F, rp K F (g x y) z) : Op2 ce E K (rI0 g) (rv K) x y (.ok z) := fun F1 H1 vx vy e rx ry Q q => by
  cases rx; cases ry
  exact ⟨x, y, rfl, rfl, q F1 H1 _ (Gr.rf e) (h F1)⟩
theorem o_I {C : Int → Int → Prop} {x y : Int} {g : Int → Int → V} {z : α} (hc : C x y) (h : ∀ F, rp K F (g x y) z) : Op2 ce E K (rI C g) (rv K) x y (.ok z) := fun F1 H1 vx vy e rx ry Q q => by
  cases rx; cases ry
  exact ⟨x, y, rfl, rfl, hc, q F1 H1 _ (Gr.rf e) (h F1)⟩
/-- (decided classically: so that no kernel sets out to reckon the test) -/
noncomputable def chk {α : Type} (c : Prop) (x : α) : M α := @ite _ c (Classical.propDecidable c) (.ok x) .bad
theorem o_Ic {C : Int → Int → Prop} [∀ i j, Decidable (C i j)] {x y : Int} {g : Int → Int → V} {z : α} (h : ∀ F, rp K F (g x y) z) : Op2 ce E K (rI C g) (rv K) x y (chk (C x y) z) := fun F1 H1 vx vy e rx ry Q q => by
  unfold chk at q
  split at q
  · rename_i hc
    exact o_I hc h F1 H1 vx vy e rx ry Q q
  · exact q.elim
end
end Mw

set_option Elab.async false
set_option linter.all false
set_option maxRecDepth 100000
set_option maxHeartbeats 2000000
/-! Mw, part B: the readings of expressions. -/
namespace Mw
open PySem L2
open Rep (rp)
/-! ### numbers with bounds -/
def CDivZ (_ j : Int) : Prop := j ≠ 0 ∧ j.natAbs.log2 < 9000
instance : ∀ i j, Decidable (CMulW i j) := fun i j => by unfold CMulW; infer_instance
instance : ∀ i j, Decidable (CDivW i j) := fun i j => by unfold CDivW; infer_instance
instance : ∀ i j, Decidable (CDivZ i j) := fun i j => by unfold CDivZ; infer_instance
instance : ∀ i j, Decidable (CPow i j) := fun i j => by unfold CPow; infer_instance
section
variable {X : Cx}
theorem op_fdivZ : OpR X (binaryOp .FloorDiv) (rI CDivZ fun i j => .int (i.fdiv j)) := by
  intro pins s σ H x y v u Q I rx ry h
  obtain ⟨i, j, rfl, rfl, hc, q⟩ := h
  obtain ⟨t, rfl⟩ := rx
  obtain ⟨t', rfl⟩ := ry
  exact PyProof.Rows.floordiv_int hc.1 ⟨.int _, H, I.tok _, ⟨_, rfl⟩, q⟩ (.inl (PyProof.noPylong_of_log2 hc.2))
end
noncomputable def mulM (x y : Int) : M Int := chk (CMulW x y) (x * y)
noncomputable def fdivM (x y : Int) : M Int := chk (CDivW x y) (x / y)
noncomputable def fdivZ (x y : Int) : M Int := chk (CDivZ x y) (x.fdiv y)
noncomputable def modM (x y : Int) : M Int := chk (0 < y) (x % y)
noncomputable def powM (x y : Int) : M Int := chk (CPow x y) (x ^ y.toNat)
section
variable {ρ α β γ δ : Type} [Rep α] [Rep β] [Rep γ] [Rep δ] {ce : Ce} {E : XK} {K : PySem.W.Frag} {σ : L2.St} {F H F' H' : Hp} {te ta tb tc td : TE} {tt tu : TT} {md : Md ρ} {m : M ρ}
theorem o_add {x y : Int} : Op2 ce E K (rI0 fun i j => .int (i + j)) (rv K) x y (.ok (x + y)) := o_I0 fun _ => rfl
theorem o_sub {x y : Int} : Op2 ce E K (rI0 fun i j => .int (i - j)) (rv K) x y (.ok (x - y)) := o_I0 fun _ => rfl
theorem o_mul {x y : Int} : Op2 ce E K (rI CMulW fun i j => .int (i * j)) (rv K) x y (mulM x y) := o_Ic fun _ => rfl
theorem o_fdivM {x y : Int} : Op2 ce E K (rI CDivW fun i j => .int (i / j)) (rv K) x y (fdivM x y) := o_Ic fun _ => rfl
theorem o_fdivZ {x y : Int} : Op2 ce E K (rI CDivZ fun i j => .int (i.fdiv j)) (rv K) x y (fdivZ x y) := o_Ic fun _ => rfl
theorem o_modM {x y : Int} : Op2 ce E K (rI (fun _ j => 0 < j) fun i j => .int (i % j)) (rv K) x y (modM x y) := o_Ic fun _ => rfl
theorem o_powM {x y : Int} : Op2 ce E K (rI CPow fun i j => .int (i ^ j.toNat)) (rv K) x y (powM x y) := o_Ic fun _ => rfl
theorem o_lt {x y : Int} : Op2 ce E K (rI0 fun i j => .bl (decide (i < j))) (rv K) x y (.ok (decide (x < y))) := o_I0 fun _ => rfl
theorem o_le {x y : Int} : Op2 ce E K (rI0 fun i j => .bl (decide (i ≤ j))) (rv K) x y (.ok (decide (x ≤ y))) := o_I0 fun _ => rfl
theorem o_gt {x y : Int} : Op2 ce E K (rI0 fun i j => .bl (decide (j < i))) (rv K) x y (.ok (decide (y < x))) := o_I0 fun _ => rfl
theorem o_ge {x y : Int} : Op2 ce E K (rI0 fun i j => .bl (decide (j ≤ i))) (rv K) x y (.ok (decide (y ≤ x))) := o_I0 fun _ => rfl
/-- both sides plain: one rule for the operators on ints -/
theorem e2 {r : R2} {x : α} {y : β} {z : ρ} [MdMo md] (ha : Ev ce E ta σ F H (rv K) (.ok x)) (hb : Ev ce E tb σ F H (rv K) (.ok y)) (hr : Op2 ce E K r md x y (.ok z)) : Ev ce E (tOp r ta tb) σ F H md (.ok z) := by
  intro F1 H1 g1 Q q
  refine ha F1 H1 g1 _ fun F2 H2 vx g2 rx => hb F2 H2 (g1.tr g2) _ fun F3 H3 vy g3 ry => ?_
  exact hr F3 H3 vx vy g3.fh (Rep.mo g3.ff rx) ry Q (Post.mo (m := .ok z) (g2.tr g3) q)
theorem e_neg {x : Int} (ha : Ev ce E ta σ F H (rv K) (.ok x)) : Ev ce E (tUn (rU fun i => .int (-i)) ta) σ F H (rv K) (.ok (-x)) := by
  intro F1 H1 g1 Q q
  refine ha F1 H1 g1 _ fun F2 H2 vx g2 rx => ?_
  cases rx
  exact ⟨x, rfl, q F2 H2 _ g2 rfl⟩
theorem o_neg {x : Int} : Op1 ce E K (rU fun i => .int (-i)) (rv K) x (.ok (-x)) := fun F1 H1 vx e rx Q q => by
  cases rx
  exact ⟨x, rfl, q F1 H1 _ (Gr.rf e) rfl⟩
/-- a product, one factor written: below 2 ^ 64 -/
theorem o_mulL {x y : Int} (h : CMul x y) : Op2 ce E K (rI CMul fun i j => .int (i * j)) (rv K) x y (.ok (x * y)) := o_I h fun _ => rfl
theorem o_fdiv {x y : Int} (h : CDiv x y) : Op2 ce E K (rI CDiv fun i j => .int (i / j)) (rv K) x y (.ok (x / y)) := o_I h fun _ => rfl
theorem o_fdivW {x y : Int} (h : CDivW x y) : Op2 ce E K (rI CDivW fun i j => .int (i / j)) (rv K) x y (.ok (x / y)) := o_I h fun _ => rfl
theorem o_mod {x y : Int} (h : 0 < y) : Op2 ce E K (rI (fun _ j => 0 < j) fun i j => .int (i % j)) (rv K) x y (.ok (x % y)) := o_I h fun _ => rfl
theorem o_pow {x y : Int} (h : CPow x y) : Op2 ce E K (rI CPow fun i j => .int (i ^ j.toNat)) (rv K) x y (.ok (x ^ y.toNat)) := o_I h fun _ => rfl
/-- what is told in other words -/
theorem e_is {x y : ρ} (h : Ev ce E te σ F H md (.ok x)) (e : x = y) : Ev ce E te σ F H md (.ok y) := by rw [← e]; exact h
theorem em_is {m m' : M ρ} (h : Ev ce E te σ F H md m) (e : m = m') : Ev ce E te σ F H md m' := by rw [← e]; exact h

/-! ### tests -/
theorem t_of {m : M Bool} (h : Ev ce E te σ F H (rv K) m) : EvT ce E (tTest te) σ F H m := fun F1 H1 g1 Q q => by
  refine h F1 H1 g1 _ ?_
  cases m with
  | ok b => exact fun F2 H2 v g2 r => ⟨b, r, q F2 H2 g2⟩
  | er c => exact q
  | bad => exact q
theorem t_B {m : M Bool} (h : Ev ce E te σ F H (rv K) m) : EvT ce E (tB te) σ F H m := fun F1 H1 g1 Q q => by
  refine h F1 H1 g1 _ ?_
  cases m with
  | ok b => exact fun F2 H2 v g2 r => ⟨b, r, q F2 H2 g2⟩
  | er c => exact q
  | bad => exact q
theorem t_and {a b : Bool} (ha : EvT ce E tt σ F H (.ok a)) (hb : EvT ce E tu σ F H (.ok b)) : EvT ce E (tAnd tt tu) σ F H (.ok (a && b)) := fun F1 H1 g1 Q q => by
  refine ha F1 H1 g1 _ fun F2 H2 g2 => ?_
  cases a with
  | true => exact hb F2 H2 (g1.tr g2) _ fun F3 H3 g3 => q F3 H3 (g2.tr g3)
  | false => exact q F2 H2 g2
theorem t_or {a b : Bool} (ha : EvT ce E tt σ F H (.ok a)) (hb : EvT ce E tu σ F H (.ok b)) : EvT ce E (tOr tt tu) σ F H (.ok (a || b)) := fun F1 H1 g1 Q q => by
  refine ha F1 H1 g1 _ fun F2 H2 g2 => ?_
  cases a with
  | false => exact hb F2 H2 (g1.tr g2) _ fun F3 H3 g3 => q F3 H3 (g2.tr g3)
  | true => exact q F2 H2 g2
def andM (m : M Bool) (k : M Bool) : M Bool := m.bind fun a => if a then k else .ok false
def orM (m : M Bool) (k : M Bool) : M Bool := m.bind fun a => if a then .ok true else k
def notM (m : M Bool) : M Bool := m.bind fun a => .ok (!a)
@[simp] theorem andM_t (k : M Bool) : andM (.ok true) k = k := rfl
@[simp] theorem andM_f (k : M Bool) : andM (.ok false) k = .ok false := rfl
@[simp] theorem orM_t (k : M Bool) : orM (.ok true) k = .ok true := rfl
@[simp] theorem orM_f (k : M Bool) : orM (.ok false) k = k := rfl
@[simp] theorem notM_ok (a : Bool) : notM (.ok a) = .ok (!a) := rfl
theorem tm_and {m k : M Bool} (ha : EvT ce E tt σ F H m) (hb : EvT ce E tu σ F H k) : EvT ce E (tAnd tt tu) σ F H (andM m k) := fun F1 H1 g1 Q q => by
  refine ha F1 H1 g1 _ ?_
  cases m with
  | ok a =>
    intro F2 H2 g2
    cases a with
    | true => exact hb F2 H2 (g1.tr g2) _ (PostT.mo g2 q)
    | false => exact q F2 H2 g2
  | er c => exact q
  | bad => exact q
theorem tm_or {m k : M Bool} (ha : EvT ce E tt σ F H m) (hb : EvT ce E tu σ F H k) : EvT ce E (tOr tt tu) σ F H (orM m k) := fun F1 H1 g1 Q q => by
  refine ha F1 H1 g1 _ ?_
  cases m with
  | ok a =>
    intro F2 H2 g2
    cases a with
    | false => exact hb F2 H2 (g1.tr g2) _ (PostT.mo g2 q)
    | true => exact q F2 H2 g2
  | er c => exact q
  | bad => exact q
theorem t_not {a : Bool} (ha : EvT ce E tt σ F H (.ok a)) : EvT ce E (tNot tt) σ F H (.ok (!a)) := fun F1 H1 g1 Q q => ha F1 H1 g1 _ fun F2 H2 g2 => q F2 H2 g2
theorem tm_not {m : M Bool} (ha : EvT ce E tt σ F H m) : EvT ce E (tNot tt) σ F H (notM m) := fun F1 H1 g1 Q q => by
  refine ha F1 H1 g1 _ ?_
  cases m with
  | ok a => exact fun F2 H2 g2 => q F2 H2 g2
  | er c => exact q
  | bad => exact q
theorem e_andV {a b : Bool} (ha : Ev ce E ta σ F H (rv K) (.ok a)) (hb : Ev ce E tb σ F H (rv K) (.ok b)) : Ev ce E (tAndV ta tb) σ F H (rv K) (.ok (a && b)) := fun F1 H1 g1 Q q => by
  refine ha F1 H1 g1 _ fun F2 H2 v g2 r => ⟨a, r, ?_⟩
  cases a with
  | true => exact hb F2 H2 (g1.tr g2) _ fun F3 H3 v' g3 => q F3 H3 v' (g2.tr g3)
  | false => exact q F2 H2 _ g2 rfl
theorem e_orV {a b : Bool} (ha : Ev ce E ta σ F H (rv K) (.ok a)) (hb : Ev ce E tb σ F H (rv K) (.ok b)) : Ev ce E (tOrV ta tb) σ F H (rv K) (.ok (a || b)) := fun F1 H1 g1 Q q => by
  refine ha F1 H1 g1 _ fun F2 H2 v g2 r => ⟨a, r, ?_⟩
  cases a with
  | false => exact hb F2 H2 (g1.tr g2) _ fun F3 H3 v' g3 => q F3 H3 v' (g2.tr g3)
  | true => exact q F2 H2 _ g2 rfl
theorem em_andV {m k : M Bool} (ha : Ev ce E ta σ F H (rv K) m) (hb : Ev ce E tb σ F H (rv K) k) : Ev ce E (tAndV ta tb) σ F H (rv K) (andM m k) := fun F1 H1 g1 Q q => by
  refine ha F1 H1 g1 _ ?_
  cases m with
  | ok a =>
    refine fun F2 H2 v g2 r => ⟨a, r, ?_⟩
    cases a with
    | true => exact hb F2 H2 (g1.tr g2) _ (Post.mo g2 q)
    | false => exact q F2 H2 _ g2 rfl
  | er c => exact q
  | bad => exact q
theorem em_orV {m k : M Bool} (ha : Ev ce E ta σ F H (rv K) m) (hb : Ev ce E tb σ F H (rv K) k) : Ev ce E (tOrV ta tb) σ F H (rv K) (orM m k) := fun F1 H1 g1 Q q => by
  refine ha F1 H1 g1 _ ?_
  cases m with
  | ok a =>
    refine fun F2 H2 v g2 r => ⟨a, r, ?_⟩
    cases a with
    | false => exact hb F2 H2 (g1.tr g2) _ (Post.mo g2 q)
    | true => exact q F2 H2 _ g2 rfl
  | er c => exact q
  | bad => exact q
theorem e_notV {a : Bool} (ha : Ev ce E ta σ F H (rv K) (.ok a)) : Ev ce E (tNotV ta) σ F H (rv K) (.ok (!a)) := fun F1 H1 g1 Q q => ha F1 H1 g1 _ fun F2 H2 v g2 r => ⟨a, r, q F2 H2 _ g2 rfl⟩
theorem em_notV {m : M Bool} (ha : Ev ce E ta σ F H (rv K) m) : Ev ce E (tNotV ta) σ F H (rv K) (notM m) := fun F1 H1 g1 Q q => by
  refine ha F1 H1 g1 _ ?_
  cases m with
  | ok a => exact fun F2 H2 v g2 r => ⟨a, r, q F2 H2 _ g2 rfl⟩
  | er c => exact q
  | bad => exact q
theorem em_if [MdMo md] {b : M Bool} {m k : M ρ} (h : EvT ce E tt σ F H b) (ha : Ev ce E ta σ F H md m) (hb : Ev ce E tb σ F H md k) : Ev ce E (tIf tt ta tb) σ F H md (b.bind fun c => if c then m else k) := fun F1 H1 g1 Q q => by
  refine h F1 H1 g1 _ ?_
  cases b with
  | ok b =>
    refine fun F2 H2 g2 => ?_
    cases b with
    | true => exact ha F2 H2 (g1.tr g2) _ (Post.mo g2 q)
    | false => exact hb F2 H2 (g1.tr g2) _ (Post.mo g2 q)
  | er c => exact q
  | bad => exact q
/-- x < y < z and its like -/
theorem em_chain {r r' : R2} {m1 : M α} {m2 : M β} {m3 : M γ} {p : α → β → Bool} {p' : β → γ → Bool} (ha : Ev ce E ta σ F H (rv K) m1) (hb : Ev ce E tb σ F H (rv K) m2) (hc : Ev ce E tc σ F H (rv K) m3)
    (h : ∀ x y, Op2 ce E K r (rv K) x y (.ok (p x y))) (h' : ∀ x y, Op2 ce E K r' (rv K) x y (.ok (p' x y))) :
    Ev ce E (tChain r r' ta tb tc) σ F H (rv K) (m1.bind fun x => m2.bind fun y => if p x y then m3.bind fun z => .ok (p' y z) else .ok false) := fun F1 H1 g1 Q q => by
  refine ha F1 H1 g1 _ ?_
  cases m1 with
  | ok x =>
    intro F2 H2 vx g2 rx
    refine hb F2 H2 (g1.tr g2) _ ?_
    cases m2 with
    | ok y =>
      intro F3 H3 vy g3 ry
      refine h x y F3 H3 vx vy g3.fh (Rep.mo g3.ff rx) ry _ fun F4 H4 v4 g4 r4 => ⟨p x y, r4, ?_⟩
      have q' : Post ce (rv K) (if p x y then m3.bind fun z => .ok (p' y z) else .ok false) F1 H1 Q E := q
      cases e : p x y with
      | true =>
        rw [e] at q'
        refine hc F4 H4 (((g1.tr g2).tr g3).tr g4) _ ?_
        cases m3 with
        | ok z => exact fun F5 H5 vz g5 rz => h' y z F5 H5 vy vz g5.fh (Rep.mo (g4.ff.tr g5.ff) ry) rz Q (Post.mo (m := .ok (p' y z)) (((g2.tr g3).tr g4).tr g5) q')
        | er c => exact fun H' e => q' H' (((g2.tr g3).tr g4).hh.tr e)
        | bad => exact q'
      | false =>
        rw [e] at q'
        exact q' F4 H4 _ ((g2.tr g3).tr g4) rfl
    | er c => exact fun H' e => q H' (g2.hh.tr e)
    | bad => exact q
  | er c => exact q
  | bad => exact q

/-! ### argument lists: what stands for each -/
/-- RA tells that the values stand for the data -/
inductive RA (K : PySem.W.Frag) (F : Hp) : List V → List ((V → Prop)) → Prop
/-- the arguments are told one by one: k runs with all of them -/
def EvA (ce : Ce) (E : XK) (ta : TA) (σ : L2.St) (F H : Hp) (R : Hp → List V → Prop) : Prop := ∀ F1 H1, Gr F H F1 H1 → ∀ Q : List V → Hp → Prop, (∀ F2 H2 vs, Gr F1 H1 F2 H2 → R F2 vs → Q vs H2) → ta σ H1 Q
/-- .. with effects -/
def EvAM (ce : Ce) (E : XK) (ta : TA) (σ : L2.St) (F H : Hp) (m : M α) (R : Hp → List V → α → Prop) : Prop := ∀ F1 H1, Gr F H F1 H1 → ∀ Q : List V → Hp → Prop,
  (match m with
    | .ok x => ∀ F2 H2 vs, Gr F1 H1 F2 H2 → R F2 vs x → Q vs H2
    | .er c => ∀ H', Ex H1 H' → E (.ref (ce c.name)) none H'
    | .bad => False) → ta σ H1 Q
def R0 : Hp → List V → Unit → Prop := fun _ vs _ => vs = []
def RC (K : PySem.W.Frag) {α β : Type} [Rep α] (R : Hp → List V → β → Prop) : Hp → List V → α × β → Prop := fun F vs x => ∃ v r, vs = v :: r ∧ rp K F v x.1 ∧ R F r x.2
class RMo {α : Type} (R : Hp → List V → α → Prop) : Prop where
  mo : ∀ {F F' vs x}, Ex F F' → R F vs x → R F' vs x
instance : RMo R0 := ⟨fun _ h => h⟩
instance {K : PySem.W.Frag} {α β : Type} [Rep α] {R : Hp → List V → β → Prop} [RMo R] : RMo (RC K (α := α) R) := ⟨fun e ⟨v, r, h1, h2, h3⟩ => ⟨v, r, h1, Rep.mo e h2, RMo.mo e h3⟩⟩
theorem ea_nil : EvAM ce E tNil σ F H (.ok ()) R0 := fun F1 H1 g1 Q q => q F1 H1 [] (Gr.rf g1.fh) rfl
theorem ea_cons {tr : TA} {m1 : M α} {m2 : M β} {R : Hp → List V → β → Prop} (ha : Ev ce E ta σ F H (rv K) m1) (hr : EvAM ce E tr σ F H m2 R) :
    EvAM ce E (tCons ta tr) σ F H (m1.bind fun x => m2.bind fun y => .ok (x, y)) (RC K R) := fun F1 H1 g1 Q q => by
  refine ha F1 H1 g1 _ ?_
  cases m1 with
  | ok x =>
    intro F2 H2 vx g2 rx
    refine hr F2 H2 (g1.tr g2) _ ?_
    cases m2 with
    | ok y => exact fun F3 H3 vs g3 r3 => q F3 H3 (vx :: vs) (g2.tr g3) ⟨vx, vs, rfl, Rep.mo g3.ff rx, r3⟩
    | er c => exact fun H' e => q H' (g2.hh.tr e)
    | bad => exact q
  | er c => exact q
  | bad => exact q
theorem e_cons {tr : TA} {x : α} {y : β} {R : Hp → List V → β → Prop} (ha : Ev ce E ta σ F H (rv K) (.ok x)) (hr : EvAM ce E tr σ F H (.ok y) R) : EvAM ce E (tCons ta tr) σ F H (.ok (x, y)) (RC K R) := ea_cons (m1 := .ok x) (m2 := .ok y) ha hr
/-- a call of values that are known: r what it asks, m what comes of it -/
def OpA (ce : Ce) (E : XK) (R : Hp → List V → α → Prop) (r : List V → Hp → VK → Prop) (md : Md ρ) (x : α) (m : M ρ) : Prop := ∀ F1 H1 vs, Ex F1 H1 → R F1 vs x → ∀ Q, Post ce md m F1 H1 Q E → r vs H1 Q
theorem em_cb [MdMo md] {ta : TA} {r : List V → Hp → VK → Prop} {m1 : M α} {R : Hp → List V → α → Prop} {g : α → M ρ} (ha : EvAM ce E ta σ F H m1 R) (hr : ∀ x, OpA ce E R r md x (g x)) : Ev ce E (tCB r ta) σ F H md (m1.bind g) := fun F1 H1 g1 Q q => by
  refine ha F1 H1 g1 _ ?_
  cases m1 with
  | ok x => exact fun F2 H2 vs g2 r2 => hr x F2 H2 vs g2.fh r2 Q (Post.mo g2 q)
  | er c => exact q
  | bad => exact q
theorem e_cb [MdMo md] {ta : TA} {r : List V → Hp → VK → Prop} {x : α} {R : Hp → List V → α → Prop} {z : ρ} (ha : EvAM ce E ta σ F H (.ok x) R) (hr : OpA ce E R r md x (.ok z)) : Ev ce E (tCB r ta) σ F H md (.ok z) := fun F1 H1 g1 Q q =>
  ha F1 H1 g1 _ fun F2 H2 vs g2 r2 => hr F2 H2 vs g2.fh r2 Q (Post.mo (m := .ok z) g2 q)
/-- a call of a def by its promise -/
def SpA (ce : Ce) (R : Hp → List V → α → Prop) (sp : Sp) (md : Md ρ) (x : α) (m : M ρ) : Prop := ∀ F1 H1 vs, Ex F1 H1 → R F1 vs x → ∀ Q (E : XK), Post ce md m F1 H1 Q E → sp vs H1 Q E
theorem em_call [MdMo md] {ta : TA} {sp : Sp} {m1 : M α} {R : Hp → List V → α → Prop} {g : α → M ρ} (ha : EvAM ce E ta σ F H m1 R) (hr : ∀ x, SpA ce R sp md x (g x)) : Ev ce E (tCall sp [] E ta) σ F H md (m1.bind g) := fun F1 H1 g1 Q q => by
  refine ha F1 H1 g1 _ ?_
  cases m1 with
  | ok x =>
    intro F2 H2 vs g2 r2
    show sp (vs ++ []) H2 Q E
    rw [List.append_nil]
    exact hr x F2 H2 vs g2.fh r2 Q E (Post.mo g2 q)
  | er c => exact q
  | bad => exact q
theorem e_call [MdMo md] {ta : TA} {sp : Sp} {x : α} {R : Hp → List V → α → Prop} {m : M ρ} (ha : EvAM ce E ta σ F H (.ok x) R) (hr : SpA ce R sp md x m) : Ev ce E (tCall sp [] E ta) σ F H md m := fun F1 H1 g1 Q q =>
  ha F1 H1 g1 _ fun F2 H2 vs g2 r2 => by
    show sp (vs ++ []) H2 Q E
    rw [List.append_nil]
    exact hr F2 H2 vs g2.fh r2 Q E (Post.mo g2 q)

/-! ### displays -/
theorem gr_new {o : HO} {p : Addr} (h : Ex F H) (n : H p = none) : F p = none := ex_back h n
theorem em_tup {ta : TA} {m1 : M α} {R : Hp → List V → α → Prop} [RMo R] {g : α → ρ} [Rep ρ] (ha : EvAM ce E ta σ F H m1 R) (hs : ∀ F vs x, R F vs x → vs.length ≤ sizeLine)
    (hg : ∀ F p vs x, R F vs x → F p = some (.tup vs) → rp K F (.ref p) (g x)) : Ev ce E (tTup ta) σ F H (rv K) (m1.bind fun x => .ok (g x)) := fun F1 H1 g1 Q q => by
  refine ha F1 H1 g1 _ ?_
  cases m1 with
  | ok x =>
    refine fun F2 H2 vs g2 r2 => ⟨hs F2 vs x r2, fun p np => ?_⟩
    refine q (upd F2 p (.tup vs)) _ _ (g2.tr (Gr.new g2.fh np)) (hg _ p vs x (RMo.mo (Ex.nw (ex_back g2.fh np)) r2) upd_same)
  | er c => exact q
  | bad => exact q
theorem r2_len {F : Hp} {vs : List V} {x : α × β × Unit} (h : RC K (RC K R0) F vs x) : vs.length ≤ sizeLine := by
  obtain ⟨v, r, rfl, _, v', r', rfl, _, rfl⟩ := h
  show 2 ≤ sizeLine
  decide
theorem em_tup2 {m1 : M α} {m2 : M β} (ha : Ev ce E ta σ F H (rv K) m1) (hb : Ev ce E tb σ F H (rv K) m2) : Ev ce E (tTup (tCons ta (tCons tb tNil))) σ F H (rv K) (m1.bind fun x => m2.bind fun y => .ok (x, y)) := fun F1 H1 g1 Q q => by
  refine ha F1 H1 g1 _ ?_
  cases m1 with
  | ok x =>
    intro F2 H2 v2 g2 q2
    refine hb F2 H2 (g1.tr g2) _ ?_
    cases m2 with
    | ok y =>
      refine fun F3 H3 v3 g3 q3 => ⟨by show 2 ≤ sizeLine; decide, fun p np => ?_⟩
      have e := Ex.nw (o := .tup [v2, v3]) (ex_back g3.fh np)
      exact q _ _ _ ((g2.tr g3).tr (Gr.new g3.fh np)) ⟨p, v2, v3, rfl, SqT.of upd_same, Rep.mo (g3.ff.tr e) q2, Rep.mo e q3⟩
    | er c => exact fun H' e => q H' (g2.hh.tr e)
    | bad => exact q
  | er c => exact q
  | bad => exact q
theorem em_tup3 {m1 : M α} {m2 : M β} {m3 : M γ} (ha : Ev ce E ta σ F H (rv K) m1) (hb : Ev ce E tb σ F H (rv K) m2) (hc : Ev ce E tc σ F H (rv K) m3) :
    Ev ce E (tTup (tCons ta (tCons tb (tCons tc tNil)))) σ F H (rv K) (m1.bind fun x => m2.bind fun y => m3.bind fun z => .ok (T3.mk x y z)) := fun F1 H1 g1 Q q => by
  refine ha F1 H1 g1 _ ?_
  cases m1 with
  | ok x =>
    intro F2 H2 v2 g2 q2
    refine hb F2 H2 (g1.tr g2) _ ?_
    cases m2 with
    | ok y =>
      intro F3 H3 v3 g3 q3
      refine hc F3 H3 ((g1.tr g2).tr g3) _ ?_
      cases m3 with
      | ok z =>
        refine fun F4 H4 v4 g4 q4 => ⟨by show 3 ≤ sizeLine; decide, fun p np => ?_⟩
        have e := Ex.nw (o := .tup [v2, v3, v4]) (ex_back g4.fh np)
        exact q _ _ _ (((g2.tr g3).tr g4).tr (Gr.new g4.fh np)) ⟨p, v2, v3, v4, rfl, SqT.of upd_same, Rep.mo ((g3.ff.tr g4.ff).tr e) q2, Rep.mo (g4.ff.tr e) q3, Rep.mo e q4⟩
      | er c => exact fun H' e => q H' ((g2.tr g3).hh.tr e)
      | bad => exact q
    | er c => exact fun H' e => q H' (g2.hh.tr e)
    | bad => exact q
  | er c => exact q
  | bad => exact q
/-- a written list: its items one by one -/
def EvL (ce : Ce) (E : XK) (K : PySem.W.Frag) (ta : TA) (σ : L2.St) (F H : Hp) (m : M (List α)) : Prop := EvAM ce E ta σ F H m (fun F vs x => Paired (rp K F) vs x)
theorem el_nil : EvL ce E K tNil σ F H (.ok ([] : List α)) := fun F1 H1 g1 Q q => q F1 H1 [] (Gr.rf g1.fh) .nil
theorem el_cons {tr : TA} {m1 : M α} {m2 : M (List α)} (ha : Ev ce E ta σ F H (rv K) m1) (hr : EvL ce E K tr σ F H m2) : EvL ce E K (tCons ta tr) σ F H (m1.bind fun x => m2.bind fun y => .ok (x :: y)) := fun F1 H1 g1 Q q => by
  refine ha F1 H1 g1 _ ?_
  cases m1 with
  | ok x =>
    intro F2 H2 vx g2 rx
    refine hr F2 H2 (g1.tr g2) _ ?_
    cases m2 with
    | ok y => exact fun F3 H3 vs g3 r3 => q F3 H3 (vx :: vs) (g2.tr g3) (.cons (Rep.mo g3.ff rx) r3)
    | er c => exact fun H' e => q H' (g2.hh.tr e)
    | bad => exact q
  | er c => exact q
  | bad => exact q
theorem em_lst {ta : TA} {m : M (List α)} (ha : EvL ce E K ta σ F H m) (hs : ∀ x, m = .ok x → x.length ≤ 1000) : Ev ce E (tLst ta) σ F H (rn K) m := fun F1 H1 g1 Q q => by
  refine ha F1 H1 g1 _ ?_
  cases m with
  | ok x =>
    refine fun F2 H2 vs g2 r2 => ⟨Nat.le_of_lt (small1000 (by rw [Paired.length r2]; exact hs x rfl)), fun p np => ?_⟩
    exact q F2 _ _ (g2.tr (Gr.own g2.fh np)) ⟨p, vs, rfl, ex_back g2.hh np, ex_back g2.fh np, upd_same, r2⟩
  | er c => exact q
  | bad => exact q

/-! ### places, lengths, slices -/
def ixM (xs : List α) (i : Int) : M α := match atI xs i with
  | some x => .ok x
  | none => .bad
theorem atI_pair {F : V → α → Prop} {vs : List V} {xs : List α} {i : Int} {x : α} (h : Paired F vs xs) (e : atI xs i = some x) : ∃ v, atI vs i = some v ∧ F v x := by
  unfold atI at e ⊢
  rw [Paired.length h]
  cases q : ixN xs.length i with
  | none => rw [q] at e; cases e
  | some j =>
    rw [q] at e
    exact paired_get h e
theorem o_ixL {xs : List α} {i : Int} : Op2 ce E K (rIxL K) (rv K) xs i (ixM xs i) := fun F1 H1 vx vy e rx ry Q q => by
  obtain ⟨a, vs, rfl, h2, h3⟩ := rx
  cases ry
  unfold ixM at q
  split at q
  · rename_i x hx
    obtain ⟨v, hv, rv'⟩ := atI_pair h3 hx
    exact ⟨a, vs, i, v, rfl, rfl, SqL.of (e _ _ h2), hv, q F1 H1 v (Gr.rf e) rv'⟩
  · exact q.elim
theorem o_ixS {xs : Scr} {i : Int} : Op2 ce E K (rIxL K) (rv K) xs i (ixM xs.l i) := fun F1 H1 vx vy e rx ry Q q => by
  obtain ⟨a, rfl, h2⟩ := rx
  cases ry
  unfold ixM at q
  split at q
  · rename_i x hx
    obtain ⟨v, hv, rv'⟩ := atI_pair (rep_int (K := K) (H := F1) xs.l) hx
    exact ⟨a, _, i, v, rfl, rfl, ex_l e h2, hv, q F1 H1 v (Gr.rf e) rv'⟩
  · exact q.elim
/-- places of tuples -/
theorem e_fst {x : α × β} (ha : Ev ce E ta σ F H (rv K) (.ok x)) : Ev ce E (tOp (rIxT K) ta (tC (.int 0))) σ F H (rv K) (.ok x.1) := fun F1 H1 g1 Q q => by
  refine ha F1 H1 g1 _ fun F2 H2 vx g2 ⟨a, u, w, e1, e2, e3, e4⟩ => ?_
  subst e1
  exact ⟨a, [u, w], 0, u, rfl, rfl, ex_t g2.fh e2, rfl, q F2 H2 u g2 e3⟩
theorem e_snd {x : α × β} (ha : Ev ce E ta σ F H (rv K) (.ok x)) : Ev ce E (tOp (rIxT K) ta (tC (.int 1))) σ F H (rv K) (.ok x.2) := fun F1 H1 g1 Q q => by
  refine ha F1 H1 g1 _ fun F2 H2 vx g2 ⟨a, u, w, e1, e2, e3, e4⟩ => ?_
  subst e1
  exact ⟨a, [u, w], 1, w, rfl, rfl, ex_t g2.fh e2, rfl, q F2 H2 w g2 e4⟩
theorem o_fst {x : α × β} {i : Int} (hi : i = 0) : Op2 ce E K (rIxT K) (rv K) x i (.ok x.1) := fun F1 H1 vx vy e ⟨a, u, w, e1, e2, e3, e4⟩ ry Q q => by
  subst e1 hi
  cases ry
  exact ⟨a, [u, w], 0, u, rfl, rfl, ex_t e e2, rfl, q F1 H1 u (Gr.rf e) e3⟩
theorem o_snd {x : α × β} {i : Int} (hi : i = 1) : Op2 ce E K (rIxT K) (rv K) x i (.ok x.2) := fun F1 H1 vx vy e ⟨a, u, w, e1, e2, e3, e4⟩ ry Q q => by
  subst e1 hi
  cases ry
  exact ⟨a, [u, w], 1, w, rfl, rfl, ex_t e e2, rfl, q F1 H1 w (Gr.rf e) e4⟩
theorem o_a3 {x : T3 α β γ} {i : Int} (hi : i = 0) : Op2 ce E K (rIxT K) (rv K) x i (.ok x.a) := fun F1 H1 vx vy e ⟨a, u, w, z, e1, e2, e3, e4, e5⟩ ry Q q => by
  subst e1 hi
  cases ry
  exact ⟨a, [u, w, z], 0, u, rfl, rfl, ex_t e e2, rfl, q F1 H1 u (Gr.rf e) e3⟩
theorem o_b3 {x : T3 α β γ} {i : Int} (hi : i = 1) : Op2 ce E K (rIxT K) (rv K) x i (.ok x.b) := fun F1 H1 vx vy e ⟨a, u, w, z, e1, e2, e3, e4, e5⟩ ry Q q => by
  subst e1 hi
  cases ry
  exact ⟨a, [u, w, z], 1, w, rfl, rfl, ex_t e e2, rfl, q F1 H1 w (Gr.rf e) e4⟩
theorem o_c3 {x : T3 α β γ} {i : Int} (hi : i = 2) : Op2 ce E K (rIxT K) (rv K) x i (.ok x.c) := fun F1 H1 vx vy e ⟨a, u, w, z, e1, e2, e3, e4, e5⟩ ry Q q => by
  subst e1 hi
  cases ry
  exact ⟨a, [u, w, z], 2, z, rfl, rfl, ex_t e e2, rfl, q F1 H1 z (Gr.rf e) e5⟩
/-- len -/
def rLenS (K : PySem.W.Frag) : List V → Hp → VK → Prop := fun xs H Q => ∃ p ys, xs = [.ref p] ∧ (SqL K H p ys ∨ SqT K H p ys) ∧ Q (.int ys.length) H
theorem a_len {xs : List α} : OpA ce E (RC K R0) (rLenS K) (rv K) (xs, ()) (.ok (xs.length : Int)) := fun F1 H1 vs e ⟨v, r, e1, ⟨a, us, h1, h2, h3⟩, e3⟩ Q q => by
  cases e3
  subst e1 h1
  refine ⟨a, us, rfl, .inl (SqL.of (e _ _ h2)), ?_⟩
  rw [Paired.length h3]
  exact q F1 H1 _ (Gr.rf e) rfl
theorem a_lenS {xs : Scr} : OpA ce E (RC K R0) (rLenS K) (rv K) (xs, ()) (.ok (xs.l.length : Int)) := fun F1 H1 vs e ⟨v, r, e1, ⟨a, h1, h2⟩, e3⟩ Q q => by
  cases e3
  subst e1 h1
  refine ⟨a, _, rfl, .inl (ex_l e h2), ?_⟩
  rw [List.length_map]
  exact q F1 H1 _ (Gr.rf e) rfl
theorem a_len2 {x : α × β} : OpA ce E (RC K R0) (rLenS K) (rv K) (x, ()) (.ok (2 : Int)) := fun F1 H1 vs e ⟨v, r, e1, ⟨a, u, w, h1, h2, h3, h4⟩, e3⟩ Q q => by
  cases e3
  subst e1 h1
  exact ⟨a, _, rfl, .inr (ex_t e h2), q F1 H1 _ (Gr.rf e) rfl⟩
theorem a_len3 {x : T3 α β γ} : OpA ce E (RC K R0) (rLenS K) (rv K) (x, ()) (.ok (3 : Int)) := fun F1 H1 vs e ⟨v, r, e1, ⟨a, u, w, z, h1, h2, h3, h4, h5⟩, e3⟩ Q q => by
  cases e3
  subst e1 h1
  exact ⟨a, _, rfl, .inr (ex_t e h2), q F1 H1 _ (Gr.rf e) rfl⟩
/-- list(xs): a new one -/
def rListS (K : PySem.W.Frag) : List V → Hp → VK → Prop := fun xs H Q => ∃ p ys, xs = [.ref p] ∧ (SqL K H p ys ∨ SqT K H p ys) ∧ ∀ l, H l = none → Q (.ref l) (upd H l (.lst ys))
theorem a_list {xs : List α} : OpA ce E (RC K R0) (rListS K) (rn K) (xs, ()) (.ok xs) := fun F1 H1 vs e ⟨v, r, e1, ⟨a, us, h1, h2, h3⟩, e3⟩ Q q => by
  cases e3
  subst e1 h1
  exact ⟨a, us, rfl, .inl (SqL.of (e _ _ h2)), fun l nl => q F1 _ _ (Gr.own e nl) ⟨l, us, rfl, nl, ex_back e nl, upd_same, h3⟩⟩
theorem a_listS {xs : Scr} : OpA ce E (RC K R0) (rListS K) (rn K) (xs, ()) (.ok xs.l) := fun F1 H1 vs e ⟨v, r, e1, ⟨a, h1, h2⟩, e3⟩ Q q => by
  cases e3
  subst e1 h1
  exact ⟨a, _, rfl, .inl (ex_l e h2), fun l nl => q F1 _ _ (Gr.own e nl) ⟨l, _, rfl, nl, ex_back e nl, upd_same, rep_int _⟩⟩
/-- abs, max, min, int of what is known -/
theorem a_abs {x : Int} : OpA ce E (RC K R0) (fun xs H Q => ∃ i, xs = [.int i] ∧ Q (.int (if i < 0 then -i else i)) H) (rv K) (x, ()) (.ok (if x < 0 then -x else x)) := fun F1 H1 vs e ⟨v, r, e1, h1, e3⟩ Q q => by
  cases e3
  cases h1
  subst e1
  exact ⟨x, rfl, q F1 H1 _ (Gr.rf e) rfl⟩
theorem a_max2 {x y : Int} : OpA ce E (RC K (RC K R0)) (fun xs H Q => ∃ i j, xs = [.int i, .int j] ∧ Q (.int (if j > i then j else i)) H) (rv K) (x, y, ()) (.ok (if y > x then y else x)) := fun F1 H1 vs e ⟨v, r, e1, h1, v', r', e2, h2, e3⟩ Q q => by
  cases e3
  cases h1
  cases h2
  subst e2
  subst e1
  exact ⟨x, y, rfl, q F1 H1 _ (Gr.rf e) rfl⟩
theorem a_min2 {x y : Int} : OpA ce E (RC K (RC K R0)) (fun xs H Q => ∃ i j, xs = [.int i, .int j] ∧ Q (.int (if j < i then j else i)) H) (rv K) (x, y, ()) (.ok (if y < x then y else x)) := fun F1 H1 vs e ⟨v, r, e1, h1, v', r', e2, h2, e3⟩ Q q => by
  cases e3
  cases h1
  cases h2
  subst e2
  subst e1
  exact ⟨x, y, rfl, q F1 H1 _ (Gr.rf e) rfl⟩
theorem a_intB {x : Bool} : OpA ce E (RC K R0) (fun xs H Q => (∃ i, xs = [.int i] ∧ Q (.int i) H) ∨ ∃ k, xs = [.bl k] ∧ Q (.int (if k then 1 else 0)) H) (rv K) (x, ()) (.ok (if x then (1 : Int) else 0)) := fun F1 H1 vs e ⟨v, r, e1, h1, e3⟩ Q q => by
  cases e3
  cases h1
  subst e1
  exact .inr ⟨x, rfl, q F1 H1 _ (Gr.rf e) rfl⟩
/-- sum of ints -/
theorem a_sum {xs : List Int} : OpA ce E (RC K R0) (rSum K) (rv K) (xs, ()) (.ok xs.sum) := fun F1 H1 vs e ⟨v, r, e1, ⟨a, us, h1, h2, h3⟩, e3⟩ Q q => by
  cases e3
  subst e1 h1
  have := paired_int h3
  subst this
  exact ⟨a, xs, rfl, SqL.of (e _ _ h2), q F1 H1 _ (Gr.rf e) rfl⟩
/-- the greatest, the least of a list of ints -/
def maxL : List Int → Int
  | [] => 0
  | [x] => x
  | x :: r => max x (maxL r)
def minL : List Int → Int
  | [] => 0
  | [x] => x
  | x :: r => min x (minL r)
theorem maxL_mem : ∀ {xs : List Int}, xs ≠ [] → maxL xs ∈ xs ∧ ∀ y ∈ xs, y ≤ maxL xs
  | [], h => absurd rfl h
  | [x], _ => ⟨List.mem_singleton.mpr rfl, fun y hy => by rw [List.mem_singleton.mp hy]; exact Int.le_refl _⟩
  | x :: y :: r, _ => by
    obtain ⟨h1, h2⟩ := maxL_mem (xs := y :: r) (by simp)
    show max x (maxL (y :: r)) ∈ _ ∧ ∀ z ∈ _, z ≤ max x (maxL (y :: r))
    refine ⟨?_, fun z hz => ?_⟩
    · by_cases c : x ≤ maxL (y :: r)
      · rw [Int.max_eq_right c]; exact List.mem_cons_of_mem _ h1
      · rw [Int.max_eq_left (by omega)]; exact List.mem_cons_self
    · rcases List.mem_cons.mp hz with rfl | hz
      · exact Int.le_max_left _ _
      · exact Int.le_trans (h2 z hz) (Int.le_max_right _ _)
theorem minL_mem : ∀ {xs : List Int}, xs ≠ [] → minL xs ∈ xs ∧ ∀ y ∈ xs, minL xs ≤ y
  | [], h => absurd rfl h
  | [x], _ => ⟨List.mem_singleton.mpr rfl, fun y hy => by rw [List.mem_singleton.mp hy]; exact Int.le_refl _⟩
  | x :: y :: r, _ => by
    obtain ⟨h1, h2⟩ := minL_mem (xs := y :: r) (by simp)
    show min x (minL (y :: r)) ∈ _ ∧ ∀ z ∈ _, min x (minL (y :: r)) ≤ z
    refine ⟨?_, fun z hz => ?_⟩
    · by_cases c : x ≤ minL (y :: r)
      · rw [Int.min_eq_left c]; exact List.mem_cons_self
      · rw [Int.min_eq_right (by omega)]; exact List.mem_cons_of_mem _ h1
    · rcases List.mem_cons.mp hz with rfl | hz
      · exact Int.min_le_left _ _
      · exact Int.le_trans (Int.min_le_right _ _) (h2 z hz)
noncomputable def maxM (xs : List Int) : M Int := chk (xs ≠ []) (maxL xs)
noncomputable def minM (xs : List Int) : M Int := chk (xs ≠ []) (minL xs)
theorem a_max {xs : List Int} : OpA ce E (RC K R0) (rMax K) (rv K) (xs, ()) (maxM xs) := fun F1 H1 vs e ⟨v, r, e1, ⟨a, us, h1, h2, h3⟩, e3⟩ Q q => by
  cases e3
  subst e1 h1
  have := paired_int h3
  subst this
  unfold maxM chk at q
  split at q
  · rename_i hne
    refine ⟨a, xs, rfl, SqL.of (e _ _ h2), List.length_pos_iff.mpr hne, fun m hm hle => ?_⟩
    obtain ⟨k1, k2⟩ := maxL_mem hne
    have : m = maxL xs := Int.le_antisymm (k2 m hm) (hle _ k1)
    subst this
    exact q F1 H1 _ (Gr.rf e) rfl
  · exact q.elim
theorem a_min {xs : List Int} : OpA ce E (RC K R0) (rMin K) (rv K) (xs, ()) (minM xs) := fun F1 H1 vs e ⟨v, r, e1, ⟨a, us, h1, h2, h3⟩, e3⟩ Q q => by
  cases e3
  subst e1 h1
  have := paired_int h3
  subst this
  unfold minM chk at q
  split at q
  · rename_i hne
    refine ⟨a, xs, rfl, SqL.of (e _ _ h2), List.length_pos_iff.mpr hne, fun m hm hle => ?_⟩
    obtain ⟨k1, k2⟩ := minL_mem hne
    have : m = minL xs := Int.le_antisymm (hle _ k1) (k2 m hm)
    subst this
    exact q F1 H1 _ (Gr.rf e) rfl
  · exact q.elim
end
end Mw

set_option Elab.async false
set_option linter.all false
set_option maxRecDepth 100000
set_option maxHeartbeats 2000000
/-! Mw, part C: slices, sums of lists, comparisons of data, sorts, comprehensions. -/
namespace Mw
open PySem L2
open Rep (rp)
/-! ### slices, list + list, list * int -/
def cut {α : Type} (xs : List α) (lo hi : Option Int) : List α := (xs.drop (HT.sIx xs.length 0 lo)).take (HT.sIx xs.length xs.length hi - HT.sIx xs.length 0 lo)
theorem cutV_is (xs : List V) (lo hi : Option Int) : cutV xs lo hi = cut xs lo hi := rfl
theorem paired_cut {α β : Type} {F : α → β → Prop} {vs : List α} {xs : List β} (h : Paired F vs xs) (lo hi : Option Int) : Paired F (cut vs lo hi) (cut xs lo hi) := by
  unfold cut
  rw [Paired.length h]
  exact paired_take _ (paired_drop _ h)
section
variable {ρ α β γ δ : Type} [Rep α] [Rep β] [Rep γ] [Rep δ] {ce : Ce} {E : XK} {K : PySem.W.Frag} {σ : L2.St} {F H F' H' : Hp} {te ta tb tc td : TE} {tt tu : TT} {md : Md ρ} {m : M ρ}
def EvO (ce : Ce) (E : XK) (to : TO) (σ : L2.St) (F H : Hp) (m : M (Option Int)) : Prop := ∀ F1 H1, Gr F H F1 H1 → ∀ Q : Option Int → Hp → Prop,
  (match m with
    | .ok x => ∀ F2 H2, Gr F1 H1 F2 H2 → Q x H2
    | .er c => ∀ H', Ex H1 H' → E (.ref (ce c.name)) none H'
    | .bad => False) → to σ H1 Q
theorem eo_none : EvO ce E tNoPart σ F H (.ok none) := fun F1 H1 g1 Q q => q F1 H1 (Gr.rf g1.fh)
theorem eo_some {m : M Int} (h : Ev ce E te σ F H (rv K) m) : EvO ce E (tPart te) σ F H (m.bind fun i => .ok (some i)) := fun F1 H1 g1 Q q => by
  refine h F1 H1 g1 _ ?_
  cases m with
  | ok i => exact fun F2 H2 v g2 r => ⟨i, r, q F2 H2 g2⟩
  | er c => exact q
  | bad => exact q
theorem eo_some' {i : Int} (h : Ev ce E te σ F H (rv K) (.ok i)) : EvO ce E (tPart te) σ F H (.ok (some i)) := eo_some (m := .ok i) h
theorem em_sl {tl th : TO} {m1 : M (List α)} {m2 m3 : M (Option Int)} (ha : Ev ce E ta σ F H (rv K) m1) (hl : EvO ce E tl σ F H m2) (hh : EvO ce E th σ F H m3) :
    Ev ce E (tSl (rSlL K) ta tl th) σ F H (rn K) (m1.bind fun x => m2.bind fun lo => m3.bind fun hi => .ok (cut x lo hi)) := fun F1 H1 g1 Q q => by
  refine ha F1 H1 g1 _ ?_
  cases m1 with
  | ok x =>
    rintro F2 H2 vx g2 ⟨a, vs, e1, e2, e3⟩
    refine hl F2 H2 (g1.tr g2) _ ?_
    cases m2 with
    | ok lo =>
      intro F3 H3 g3
      refine hh F3 H3 ((g1.tr g2).tr g3) _ ?_
      cases m3 with
      | ok hi =>
        intro F4 H4 g4
        refine ⟨a, vs, e1, SqL.of (g4.hh _ _ (g3.hh _ _ (g2.fh _ _ e2))), fun p np => ?_⟩
        exact q F4 _ _ (((g2.tr g3).tr g4).tr (Gr.own g4.fh np)) ⟨p, _, rfl, ex_back ((g2.hh.tr g3.hh).tr g4.hh) np, ex_back g4.fh np, upd_same, paired_cut (paired_mo (g3.ff.tr g4.ff) e3) lo hi⟩
      | er c => exact fun H' e => q H' ((g2.tr g3).hh.tr e)
      | bad => exact q
    | er c => exact fun H' e => q H' (g2.hh.tr e)
    | bad => exact q
  | er c => exact q
  | bad => exact q
/-- a slice of the script -/
theorem em_slS {tl th : TO} {x : Scr} {m2 m3 : M (Option Int)} (ha : Ev ce E ta σ F H (rv K) (.ok x)) (hl : EvO ce E tl σ F H m2) (hh : EvO ce E th σ F H m3) :
    Ev ce E (tSl (rSlL K) ta tl th) σ F H (rn K) (m2.bind fun lo => m3.bind fun hi => .ok (cut x.l lo hi)) := fun F1 H1 g1 Q q => by
  refine ha F1 H1 g1 _ ?_
  rintro F2 H2 vx g2 ⟨a, e1, e2⟩
  refine hl F2 H2 (g1.tr g2) _ ?_
  cases m2 with
  | ok lo =>
    intro F3 H3 g3
    refine hh F3 H3 ((g1.tr g2).tr g3) _ ?_
    cases m3 with
    | ok hi =>
      intro F4 H4 g4
      refine ⟨a, _, e1, ex_l ((g2.fh.tr g3.hh).tr g4.hh) e2, fun p np => ?_⟩
      exact q F4 _ _ (((g2.tr g3).tr g4).tr (Gr.own g4.fh np)) ⟨p, _, rfl, ex_back ((g2.hh.tr g3.hh).tr g4.hh) np, ex_back g4.fh np, upd_same, paired_cut (rep_int x.l) lo hi⟩
    | er c => exact fun H' e => q H' ((g2.tr g3).hh.tr e)
    | bad => exact q
  | er c => exact fun H' e => q H' (g2.hh.tr e)
  | bad => exact q
theorem em_rev {m1 : M (List α)} (ha : Ev ce E ta σ F H (rv K) m1) : Ev ce E (tRevL K ta) σ F H (rn K) (m1.bind fun x => .ok x.reverse) := fun F1 H1 g1 Q q => by
  refine ha F1 H1 g1 _ ?_
  cases m1 with
  | ok x =>
    rintro F2 H2 vx g2 ⟨a, vs, e1, e2, e3⟩
    refine ⟨a, vs, e1, SqL.of (g2.fh _ _ e2), fun p np => ?_⟩
    exact q F2 _ _ (g2.tr (Gr.own g2.fh np)) ⟨p, _, rfl, ex_back g2.hh np, ex_back g2.fh np, upd_same, paired_rev e3⟩
  | er c => exact q
  | bad => exact q
noncomputable def catM {α : Type} (xs ys : List α) : M (List α) := chk (xs.length + ys.length ≤ 16000000) (xs ++ ys)
theorem o_cat {xs ys : List α} : Op2 ce E K rCat (rn K) xs ys (catM xs ys) := fun F1 H1 vx vy e ⟨a, vs, h1, h2, h3⟩ ⟨b, ws, k1, k2, k3⟩ Q q => by
  unfold catM chk at q
  split at q
  · rename_i hc
    refine ⟨a, b, vs, ws, h1, k1, e _ _ h2, e _ _ k2, ?_, fun p np => ?_⟩
    · rw [Paired.length h3, Paired.length k3, sizeLine_eq]; omega
    · exact q F1 _ _ (Gr.own e np) ⟨p, _, rfl, np, ex_back e np, upd_same, paired_app h3 k3⟩
  · exact q.elim
theorem paired_flat {F : V → α → Prop} {vs : List V} {xs : List α} (h : Paired F vs xs) : ∀ n : Nat, Paired F (List.replicate n vs).flatten (List.replicate n xs).flatten
  | 0 => .nil
  | n + 1 => by
    rw [List.replicate_succ, List.replicate_succ, List.flatten_cons, List.flatten_cons]
    exact paired_app h (paired_flat h n)
noncomputable def repM {α : Type} (xs : List α) (k : Int) : M (List α) := chk (-(2 ^ 63) ≤ k ∧ k < 2 ^ 63 ∧ xs.length * k.toNat ≤ 16000000) (List.replicate k.toNat xs).flatten
theorem o_rep {xs : List α} {k : Int} : Op2 ce E K rRep (rn K) xs k (repM xs k) := fun F1 H1 vx vy e ⟨a, vs, h1, h2, h3⟩ ry Q q => by
  cases ry
  unfold repM chk at q
  split at q
  · rename_i hc
    refine ⟨a, k, vs, h1, rfl, e _ _ h2, hc.1, hc.2.1, ?_, fun p np => ?_⟩
    · rw [Paired.length h3, sizeLine_eq]; omega
    · exact q F1 _ _ (Gr.own e np) ⟨p, _, rfl, np, ex_back e np, upd_same, paired_flat h3 _⟩
  · exact q.elim

/-! ### == of data -/
class Dat (α : Type) [Rep α] [DecidableEq α] where
  dat : α → PyData
  deep : Nat
  dp : ∀ {K : PySem.W.Frag} {H : Hp} {v : V} {x : α}, rp K H v x → Dp K H v (dat x)
  cl : ∀ x, (dat x).canLay0 = true
  de : ∀ x, (dat x).depth ≤ deep
  eq : ∀ x y, PyData.eqv (dat x) (dat y) = decide (x = y)
end
instance : Dat Int := ⟨fun i => .int i, 0, fun {K H v x} h => by cases h; exact .int x, fun _ => rfl, fun _ => Nat.le_refl _, fun x y => by simp only [PyData.eqv]; rw [Bool.eq_iff_iff]; simp⟩
instance : Dat Bool := ⟨fun i => .bool i, 0, fun {K H v x} h => by cases h; exact .bl x, fun _ => rfl, fun _ => Nat.le_refl _, fun x y => by simp only [PyData.eqv]; rw [Bool.eq_iff_iff]; simp⟩
/-- what is told apart from None -/
class NotN (α : Type) [Rep α] [DecidableEq α] [Dat α] : Prop where
  nn : ∀ x : α, PyData.eqv .none (Dat.dat x) = false ∧ PyData.eqv (Dat.dat x) .none = false
instance : NotN Int := ⟨fun x => ⟨by show PyData.eqv .none (.int x) = false; simp [PyData.eqv], by show PyData.eqv (.int x) .none = false; simp [PyData.eqv]⟩⟩
instance : NotN Bool := ⟨fun x => ⟨by show PyData.eqv .none (.bool x) = false; simp [PyData.eqv], by show PyData.eqv (.bool x) .none = false; simp [PyData.eqv]⟩⟩
instance {α : Type} [Rep α] [DecidableEq α] [Dat α] [NotN α] : Dat (Option α) where
  dat := fun x => match x with
    | none => .none
    | some y => Dat.dat y
  deep := Dat.deep α
  dp := fun {K H v x} h => by
    cases x with
    | none => cases h; exact .non
    | some y => exact Dat.dp h.1
  cl := fun x => by cases x with
    | none => rfl
    | some y => exact Dat.cl y
  de := fun x => by cases x with
    | none => exact Nat.zero_le _
    | some y => exact Dat.de y
  eq := fun x y => by
    cases x with
    | none => cases y with
      | none => simp [PyData.eqv]
      | some b => simpa using (NotN.nn b).1
    | some a => cases y with
      | none => simpa using (NotN.nn a).2
      | some b => simpa using Dat.eq a b
theorem dpAll_of {α : Type} [Rep α] [DecidableEq α] [Dat α] {K : PySem.W.Frag} {H : Hp} : ∀ {vs : List V} {xs : List α}, Paired (rp K H) vs xs → DpAll K H vs (xs.map Dat.dat)
  | _, _, .nil => .nil
  | _, _, .cons h t => .cons (Dat.dp h) (dpAll_of t)
theorem clAll {α : Type} [Rep α] [DecidableEq α] [Dat α] : ∀ xs : List α, PyData.canLayAll0 (xs.map Dat.dat) = true
  | [] => by simp [PyData.canLayAll0]
  | x :: r => by simp [PyData.canLayAll0, Dat.cl x, clAll r]
theorem deAll {α : Type} [Rep α] [DecidableEq α] [Dat α] : ∀ xs : List α, PyData.depthAll (xs.map Dat.dat) ≤ Dat.deep α
  | [] => Nat.zero_le _
  | x :: r => by
    show max (PyData.depth (Dat.dat x)) (PyData.depthAll (r.map Dat.dat)) ≤ _
    exact Nat.max_le.mpr ⟨Dat.de x, deAll r⟩
theorem eqAll {α : Type} [Rep α] [DecidableEq α] [Dat α] : ∀ xs ys : List α, PyData.eqvAll (xs.map Dat.dat) (ys.map Dat.dat) = decide (xs = ys)
  | [], [] => by simp [PyData.eqvAll]
  | [], _ :: _ => by simp [PyData.eqvAll]
  | _ :: _, [] => by simp [PyData.eqvAll]
  | x :: r, y :: s => by
    simp only [List.map_cons, PyData.eqvAll, Dat.eq x y, eqAll r s, List.cons.injEq]
    simp
instance {α : Type} [Rep α] [DecidableEq α] [Dat α] : Dat (List α) where
  dat := fun xs => .list (xs.map Dat.dat)
  deep := Dat.deep α + 1
  dp := fun {K H v x} ⟨a, vs, h1, h2, h3⟩ => by subst h1; exact .lst (SqL.of h2) (dpAll_of h3)
  cl := fun xs => by simpa [PyData.canLay0] using clAll xs
  de := fun xs => by
    show PyData.depthAll (xs.map Dat.dat) + 1 ≤ _
    exact Nat.succ_le_succ (deAll xs)
  eq := fun xs ys => by simpa [PyData.eqv] using eqAll xs ys
instance {α : Type} [Rep α] [DecidableEq α] [Dat α] : NotN (List α) := ⟨fun x => ⟨by show PyData.eqv .none (.list _) = false; simp [PyData.eqv], by show PyData.eqv (.list _) .none = false; simp [PyData.eqv]⟩⟩
instance {α β : Type} [Rep α] [Rep β] [DecidableEq α] [DecidableEq β] [Dat α] [Dat β] : Dat (α × β) where
  dat := fun x => .tuple [Dat.dat x.1, Dat.dat x.2]
  deep := max (Dat.deep α) (Dat.deep β) + 1
  dp := fun {K H v x} ⟨a, u, w, h1, h2, h3, h4⟩ => by subst h1; exact .tup h2 (.cons (Dat.dp h3) (.cons (Dat.dp h4) .nil))
  cl := fun x => by simp [PyData.canLay0, PyData.canLayAll0, Dat.cl]
  de := fun x => by
    show max (PyData.depth _) (max (PyData.depth _) 0) + 1 ≤ _
    have h1 := Dat.de x.1
    have h2 := Dat.de x.2
    omega
  eq := fun x y => by
    obtain ⟨x1, x2⟩ := x
    obtain ⟨y1, y2⟩ := y
    simp only [PyData.eqv, PyData.eqvAll, Dat.eq, Bool.and_true, Prod.mk.injEq]
    simp
instance {α β : Type} [Rep α] [Rep β] [DecidableEq α] [DecidableEq β] [Dat α] [Dat β] : NotN (α × β) := ⟨fun x => ⟨by show PyData.eqv .none (.tuple _) = false; simp [PyData.eqv], by show PyData.eqv (.tuple _) .none = false; simp [PyData.eqv]⟩⟩
instance {α β γ : Type} [Rep α] [Rep β] [Rep γ] [DecidableEq α] [DecidableEq β] [DecidableEq γ] [Dat α] [Dat β] [Dat γ] : Dat (T3 α β γ) where
  dat := fun x => .tuple [Dat.dat x.a, Dat.dat x.b, Dat.dat x.c]
  deep := max (Dat.deep α) (max (Dat.deep β) (Dat.deep γ)) + 1
  dp := fun {K H v x} ⟨a, u, w, z, h1, h2, h3, h4, h5⟩ => by subst h1; exact .tup h2 (.cons (Dat.dp h3) (.cons (Dat.dp h4) (.cons (Dat.dp h5) .nil)))
  cl := fun x => by simp [PyData.canLay0, PyData.canLayAll0, Dat.cl]
  de := fun x => by
    show max (PyData.depth _) (max (PyData.depth _) (max (PyData.depth _) 0)) + 1 ≤ _
    have h1 := Dat.de x.a
    have h2 := Dat.de x.b
    have h3 := Dat.de x.c
    omega
  eq := fun x y => by
    obtain ⟨x1, x2, x3⟩ := x
    obtain ⟨y1, y2, y3⟩ := y
    simp only [PyData.eqv, PyData.eqvAll, Dat.eq, Bool.and_true, T3.mk.injEq]
    simp
instance {α β γ : Type} [Rep α] [Rep β] [Rep γ] [DecidableEq α] [DecidableEq β] [DecidableEq γ] [Dat α] [Dat β] [Dat γ] : NotN (T3 α β γ) := ⟨fun x => ⟨by show PyData.eqv .none (.tuple _) = false; simp [PyData.eqv], by show PyData.eqv (.tuple _) .none = false; simp [PyData.eqv]⟩⟩
section
variable {ρ α β γ δ : Type} [Rep α] [Rep β] [Rep γ] [Rep δ] {ce : Ce} {E : XK} {K : PySem.W.Frag} {σ : L2.St} {F H F' H' : Hp} {te ta tb tc td : TE} {tt tu : TT} {md : Md ρ} {m : M ρ}
theorem shaped_of [DecidableEq α] [Dat α] (h : Dat.deep α ≤ 64) (x : α) : SeqAt.shaped (Dat.dat x) = true := by
  unfold SeqAt.shaped
  rw [Dat.cl x]
  exact decide_eq_true (Nat.le_trans (Dat.de x) h)
theorem o_eqD [DecidableEq α] [Dat α] {x y : α} (h : Dat.deep α ≤ 64) : Op2 ce E K (rEqD K) (rv K) x y (.ok (decide (x = y))) := fun F1 H1 vx vy e rx ry Q q => by
  refine ⟨Dat.dat x, Dat.dat y, Dat.dp (Rep.mo e rx), Dat.dp (Rep.mo e ry), shaped_of h x, shaped_of h y, ?_⟩
  rw [Dat.eq]
  exact q F1 H1 _ (Gr.rf e) rfl
theorem o_neD [DecidableEq α] [Dat α] {x y : α} (h : Dat.deep α ≤ 64) : Op2 ce E K (rNeD K) (rv K) x y (.ok (!decide (x = y))) := fun F1 H1 vx vy e rx ry Q q => by
  refine ⟨Dat.dat x, Dat.dat y, Dat.dp (Rep.mo e rx), Dat.dp (Rep.mo e ry), shaped_of h x, shaped_of h y, ?_⟩
  rw [Dat.eq]
  exact q F1 H1 _ (Gr.rf e) rfl
/-- x == y where the one may be None -/
theorem o_eqDo [DecidableEq α] [Dat α] [NotN α] {x : Option α} {y : α} (h : Dat.deep α ≤ 64) : Op2 ce E K (rEqD K) (rv K) x y (.ok (decide (x = some y))) := fun F1 H1 vx vy e rx ry Q q => by
  refine ⟨Dat.dat x, Dat.dat y, Dat.dp (Rep.mo e rx), Dat.dp (Rep.mo e ry), shaped_of (α := Option α) h x, shaped_of h y, ?_⟩
  rw [show PyData.eqv (Dat.dat x) (Dat.dat y) = decide (x = some y) from Dat.eq x (some y)]
  exact q F1 H1 _ (Gr.rf e) rfl
theorem o_neDo [DecidableEq α] [Dat α] [NotN α] {x : Option α} {y : α} (h : Dat.deep α ≤ 64) : Op2 ce E K (rNeD K) (rv K) x y (.ok (!decide (x = some y))) := fun F1 H1 vx vy e rx ry Q q => by
  refine ⟨Dat.dat x, Dat.dat y, Dat.dp (Rep.mo e rx), Dat.dp (Rep.mo e ry), shaped_of (α := Option α) h x, shaped_of h y, ?_⟩
  rw [show PyData.eqv (Dat.dat x) (Dat.dat y) = decide (x = some y) from Dat.eq x (some y)]
  exact q F1 H1 _ (Gr.rf e) rfl
theorem o_eqI {x y : Int} : Op2 ce E K rEq (rv K) x y (.ok (decide (x = y))) := fun F1 H1 vx vy e rx ry Q q => by
  cases rx; cases ry
  refine ⟨rfl, ?_⟩
  have : decide (V.int x = V.int y) = decide (x = y) := by rw [Bool.eq_iff_iff]; simp
  rw [this]
  exact q F1 H1 _ (Gr.rf e) rfl
theorem o_neI {x y : Int} : Op2 ce E K rNe (rv K) x y (.ok (!decide (x = y))) := fun F1 H1 vx vy e rx ry Q q => by
  cases rx; cases ry
  refine ⟨rfl, ?_⟩
  have : decide (V.int x = V.int y) = decide (x = y) := by rw [Bool.eq_iff_iff]; simp
  rw [this]
  exact q F1 H1 _ (Gr.rf e) rfl
theorem o_eqB {x y : Bool} : Op2 ce E K rEq (rv K) x y (.ok (decide (x = y))) := fun F1 H1 vx vy e rx ry Q q => by
  cases rx; cases ry
  refine ⟨rfl, ?_⟩
  have : decide (V.bl x = V.bl y) = decide (x = y) := by rw [Bool.eq_iff_iff]; simp
  rw [this]
  exact q F1 H1 _ (Gr.rf e) rfl
theorem o_neB {x y : Bool} : Op2 ce E K rNe (rv K) x y (.ok (!decide (x = y))) := fun F1 H1 vx vy e rx ry Q q => by
  cases rx; cases ry
  refine ⟨rfl, ?_⟩
  have : decide (V.bl x = V.bl y) = decide (x = y) := by rw [Bool.eq_iff_iff]; simp
  rw [this]
  exact q F1 H1 _ (Gr.rf e) rfl
theorem o_eqS {x y : Str} : Op2 ce E K rEq (rv K) x y (.ok (decide (x = y))) := fun F1 H1 vx vy e rx ry Q q => by
  cases rx; cases ry
  refine ⟨rfl, ?_⟩
  have : decide (V.str x = V.str y) = decide (x = y) := by rw [Bool.eq_iff_iff]; simp
  rw [this]
  exact q F1 H1 _ (Gr.rf e) rfl
theorem o_neS {x y : Str} : Op2 ce E K rNe (rv K) x y (.ok (!decide (x = y))) := fun F1 H1 vx vy e rx ry Q q => by
  cases rx; cases ry
  refine ⟨rfl, ?_⟩
  have : decide (V.str x = V.str y) = decide (x = y) := by rw [Bool.eq_iff_iff]; simp
  rw [this]
  exact q F1 H1 _ (Gr.rf e) rfl
/-- x is None, x is not None -/
def rIsN : R2 := fun x y H Q => y = .non ∧ Q (.bl (decide (x = .non))) H
def rNotN : R2 := fun x y H Q => y = .non ∧ Q (.bl (!decide (x = .non))) H
theorem o_isN {x : Option α} : Op2 ce E K rIsN (rv K) x () (.ok (!x.isSome)) := fun F1 H1 vx vy e rx ry Q q => by
  cases ry
  refine ⟨rfl, ?_⟩
  have : decide (vx = V.non) = !x.isSome := by
    cases x with
    | none => cases rx; rfl
    | some y => exact decide_eq_false rx.2
  rw [this]
  exact q F1 H1 _ (Gr.rf e) rfl
theorem o_notN {x : Option α} : Op2 ce E K rNotN (rv K) x () (.ok x.isSome) := fun F1 H1 vx vy e rx ry Q q => by
  cases ry
  refine ⟨rfl, ?_⟩
  have : (!decide (vx = V.non)) = x.isSome := by
    cases x with
    | none => cases rx; rfl
    | some y => rw [decide_eq_false rx.2] <;> rfl
  rw [this]
  exact q F1 H1 _ (Gr.rf e) rfl
theorem o_isU {x : Unit} : Op2 ce E K rIsN (rv K) x () (.ok true) := fun F1 H1 vx vy e rx ry Q q => by
  cases ry; cases rx
  exact ⟨rfl, q F1 H1 _ (Gr.rf e) rfl⟩
theorem o_notU {x : Unit} : Op2 ce E K rNotN (rv K) x () (.ok false) := fun F1 H1 vx vy e rx ry Q q => by
  cases ry; cases rx
  exact ⟨rfl, q F1 H1 _ (Gr.rf e) rfl⟩
/-- a value that may be None -/
class NN (α : Type) [Rep α] : Prop where
  nn : ∀ {K : PySem.W.Frag} {H : Hp} {v : V} {x : α}, rp K H v x → v ≠ .non
instance : NN Int := ⟨fun h => by cases h; exact fun z => nomatch z⟩
instance : NN Bool := ⟨fun h => by cases h; exact fun z => nomatch z⟩
instance : NN Str := ⟨fun h => by cases h; exact fun z => nomatch z⟩
instance : NN (List α) := ⟨fun ⟨a, vs, h1, _⟩ => by subst h1; exact fun z => nomatch z⟩
instance : NN (α × β) := ⟨fun ⟨a, u, w, h1, _⟩ => by subst h1; exact fun z => nomatch z⟩
instance : NN (T3 α β γ) := ⟨fun ⟨a, u, w, z, h1, _⟩ => by subst h1; exact fun z => nomatch z⟩
instance : NN (T4 α β γ δ) := ⟨fun ⟨a, u, w, z, y, h1, _⟩ => by subst h1; exact fun z => nomatch z⟩
theorem em_some [NN α] {m : M α} (h : Ev ce E te σ F H (rv K) m) : Ev ce E te σ F H (rv K) (m.bind fun x => .ok (some x)) := fun F1 H1 g1 Q q => by
  refine h F1 H1 g1 _ ?_
  cases m with
  | ok x => exact fun F2 H2 v g2 r => q F2 H2 v g2 ⟨r, NN.nn r⟩
  | er c => exact q
  | bad => exact q
/-- what is not None -/
def getM {α : Type} (x : Option α) : M α := match x with
  | some y => .ok y
  | none => .bad
theorem em_get {m : M (Option α)} (h : Ev ce E te σ F H (rv K) m) : Ev ce E te σ F H (rv K) (m.bind getM) := fun F1 H1 g1 Q q => by
  refine h F1 H1 g1 _ ?_
  cases m with
  | ok x =>
    cases x with
    | none => exact q.elim
    | some y => exact fun F2 H2 v g2 r => q F2 H2 v g2 r.1
  | er c => exact q
  | bad => exact q

/-! ### in a list -/
theorem inV_int (x : Int) : ∀ xs : List Int, inV (.int x) (xs.map V.int) = decide (x ∈ xs)
  | [] => by simp [inV]
  | y :: r => by
    have ih := inV_int x r
    unfold inV at ih ⊢
    rw [List.map_cons, List.any_cons, ih]
    have : eqV (V.int y) (V.int x) = decide (x = y) := by
      show (y == x) = decide (x = y)
      rw [Bool.eq_iff_iff, beq_iff_eq, decide_eq_true_eq]
      exact ⟨Eq.symm, Eq.symm⟩
    rw [this, Bool.eq_iff_iff]
    simp
theorem flat_ints : ∀ xs : List Int, (xs.map V.int).all flatV = true
  | [] => rfl
  | _ :: r => by rw [List.map_cons, List.all_cons, flat_ints r] <;> rfl
theorem o_in {x : Int} {xs : List Int} : Op2 ce E K (rIn K false) (rv K) x xs (.ok (decide (x ∈ xs))) := fun F1 H1 vx vy e rx ⟨a, vs, h1, h2, h3⟩ Q q => by
  cases rx
  have := paired_int h3
  subst this
  subst h1
  refine ⟨a, _, rfl, .inl (SqL.of (e _ _ h2)), rfl, flat_ints _, ?_⟩
  show Q (V.bl (if false = true then _ else _)) H1
  rw [if_neg Bool.false_ne_true, inV_int]
  exact q F1 H1 _ (Gr.rf e) rfl
theorem o_notIn {x : Int} {xs : List Int} : Op2 ce E K (rIn K true) (rv K) x xs (.ok (!decide (x ∈ xs))) := fun F1 H1 vx vy e rx ⟨a, vs, h1, h2, h3⟩ Q q => by
  cases rx
  have := paired_int h3
  subst this
  subst h1
  refine ⟨a, _, rfl, .inl (SqL.of (e _ _ h2)), rfl, flat_ints _, ?_⟩
  show Q (V.bl (if true = true then _ else _)) H1
  rw [if_pos rfl, inV_int]
  exact q F1 H1 _ (Gr.rf e) rfl

/-! ### sorted ints -/
def insI (x : Int) : List Int → List Int
  | [] => [x]
  | y :: r => if x ≤ y then x :: y :: r else y :: insI x r
def sortI : List Int → List Int
  | [] => []
  | x :: r => insI x (sortI r)
theorem insI_perm (x : Int) : ∀ xs, (insI x xs).Perm (x :: xs)
  | [] => List.Perm.refl _
  | y :: r => by
    unfold insI
    split
    · exact List.Perm.refl _
    · exact (List.Perm.cons y (insI_perm x r)).trans (List.Perm.swap x y r)
theorem sortI_perm : ∀ xs, (sortI xs).Perm xs
  | [] => List.Perm.refl _
  | x :: r => (insI_perm x _).trans (List.Perm.cons x (sortI_perm r))
theorem insI_sorted (x : Int) : ∀ {xs : List Int}, xs.Pairwise (· ≤ ·) → (insI x xs).Pairwise (· ≤ ·)
  | [], _ => List.pairwise_singleton _ _
  | y :: r, h => by
    unfold insI
    have hy := List.pairwise_cons.mp h
    split
    · rename_i c
      refine List.pairwise_cons.mpr ⟨fun z hz => ?_, h⟩
      rcases List.mem_cons.mp hz with rfl | hz
      · exact c
      · exact Int.le_trans c (hy.1 z hz)
    · rename_i c
      refine List.pairwise_cons.mpr ⟨fun z hz => ?_, insI_sorted x hy.2⟩
      rcases List.mem_cons.mp ((insI_perm x r).mem_iff.mp hz) with rfl | hz
      · omega
      · exact hy.1 z hz
theorem sortI_sorted : ∀ xs : List Int, (sortI xs).Pairwise (· ≤ ·)
  | [] => List.Pairwise.nil
  | x :: r => insI_sorted x (sortI_sorted r)
theorem sorted_same : ∀ {xs ys : List Int}, xs.Perm ys → xs.Pairwise (· ≤ ·) → ys.Pairwise (· ≤ ·) → xs = ys
  | [], ys, p, _, _ => (List.Perm.nil_eq p)
  | x :: r, [], p, _, _ => absurd p.length_eq (by simp)
  | x :: r, y :: s, p, h1, h2 => by
    have a1 := List.pairwise_cons.mp h1
    have a2 := List.pairwise_cons.mp h2
    have e : x = y := by
      have m1 : x ∈ y :: s := p.mem_iff.mp List.mem_cons_self
      have m2 : y ∈ x :: r := p.mem_iff.mpr List.mem_cons_self
      rcases List.mem_cons.mp m1 with rfl | m1
      · rfl
      · rcases List.mem_cons.mp m2 with rfl | m2
        · rfl
        · have := a1.1 y m2
          have := a2.1 x m1
          omega
    subst e
    rw [sorted_same (List.Perm.cons_inv p) a1.2 a2.2]
theorem a_sorted {xs : List Int} : OpA ce E (RC K R0) (rSortedI K) (rn K) (xs, ()) (.ok (sortI xs)) := fun F1 H1 vs e ⟨v, r, e1, ⟨a, us, h1, h2, h3⟩, e3⟩ Q q => by
  cases e3
  subst e1 h1
  have := paired_int h3
  subst this
  refine ⟨a, xs, rfl, SqL.of (e _ _ h2), fun ns p hp hs np => ?_⟩
  have : ns = sortI xs := sorted_same (hp.trans (sortI_perm xs).symm) hs (sortI_sorted xs)
  subst this
  exact q F1 _ _ (Gr.own e np) ⟨p, _, rfl, np, ex_back e np, upd_same, rep_int _⟩

/-! ### isinstance, by the types -/
theorem a_isI {n : String} {b : Bool} {x : Int} (hb : PySem.W.kitOne K (.type "int") (.type n) = some b) : OpA ce E (fun F vs (x : Int) => vs = [.int x, .ty n]) (rIsi K) (rv K) x (.ok b) := fun F1 H1 vs e h Q q => by
  subst h
  exact ⟨.int x, .ty n, _, _, b, rfl, .ty n, .base (.int x), hb, q F1 H1 _ (Gr.rf e) rfl⟩
end
end Mw

set_option Elab.async false
set_option linter.all false
set_option maxRecDepth 100000
set_option maxHeartbeats 2000000
/-! Mw, part D: statements, loops, comprehensions, defs. -/
namespace Mw
open PySem L2
open Rep (rp)
/-! ### what is left to be done -/
def Wp {τ : Type} (ce : Ce) (E : XK) (H0 : Hp) (m : M τ) (P : τ → Prop) : Prop :=
  match m with
  | .ok r => P r
  | .er c => ∀ H', Ex H0 H' → E (.ref (ce c.name)) none H'
  | .bad => False
def Fin {ρ : Type} (md : Md ρ) (F0 H0 : Hp) (Q : VK) : ρ → Prop := fun r => ∀ F' H' v, Gr F0 H0 F' H' → md F0 H0 F' H' v r → Q v H'
theorem wp_post {ρ : Type} {ce : Ce} {md : Md ρ} {m : M ρ} {F H : Hp} {Q : VK} {E : XK} (h : Post ce md m F H Q E) : Wp ce E H m (Fin md F H Q) := by
  cases m with
  | ok r => exact h
  | er c => exact h
  | bad => exact h
inductive Ctl (S τ : Type) where
  | nx (s : S)
  | br (s : S)
  | rt (r : τ)
def forM {α S τ : Type} (f : α → S → M (Ctl S τ)) (k : S → M τ) : List α → S → M τ
  | [], s => k s
  | x :: r, s => (f x s).bind fun c => match c with
    | .nx s' => forM f k r s'
    | .br s' => k s'
    | .rt r => .ok r
def whM {S τ : Type} (c : S → M Bool) (f : S → M (Ctl S τ)) (k : S → M τ) : Nat → S → M τ
  | 0, _ => .bad
  | n + 1, s => (c s).bind fun b => if b then (f s).bind fun z => match z with
    | .nx s' => whM c f k n s'
    | .br s' => k s'
    | .rt r => .ok r else k s
theorem forM_nil {α S τ : Type} (f : α → S → M (Ctl S τ)) (k : S → M τ) (s : S) : forM f k [] s = k s := rfl
theorem forM_cons {α S τ : Type} (f : α → S → M (Ctl S τ)) (k : S → M τ) (x : α) (r : List α) (s : S) : forM f k (x :: r) s = (f x s).bind fun c => match c with
    | .nx s' => forM f k r s'
    | .br s' => k s'
    | .rt r => .ok r := rfl
/-! ### comprehensions -/
def M.ne {α : Type} : M α → M α
  | .ok a => .ok a
  | _ => .bad
@[simp] theorem ne_ok {α : Type} (a : α) : (M.ok a).ne = .ok a := (rfl)
def compM {α β : Type} (c : α → M Bool) (e : α → M β) : List α → M (List β)
  | [] => .ok []
  | x :: r => (c x).ne.bind fun b => if b then (e x).ne.bind fun y => (compM c e r).bind fun ys => .ok (y :: ys) else compM c e r
noncomputable def lcM {α β : Type} (c : α → M Bool) (e : α → M β) (xs : List α) : M (List β) := @ite _ (xs.length ≤ 16000000) (Classical.propDecidable _) (compM c e xs) .bad
theorem compM_ok {α β : Type} (c : α → Bool) (e : α → β) : ∀ xs : List α, compM (fun x => .ok (c x)) (fun x => .ok (e x)) xs = .ok ((xs.filter c).map e)
  | [] => rfl
  | x :: r => by
    show (if c x = true then ((compM _ _ r).bind fun ys => M.ok (e x :: ys)) else compM _ _ r) = _
    rw [compM_ok c e r, List.filter_cons]
    split
    · rfl
    · rfl
theorem compM_all {α β : Type} (e : α → β) : ∀ xs : List α, compM (fun _ => .ok true) (fun x => .ok (e x)) xs = .ok (xs.map e)
  | [] => rfl
  | x :: r => by
    show ((compM _ _ r).bind fun ys => M.ok (e x :: ys)) = _
    rw [compM_all e r]
    rfl
theorem compM_congr {α β : Type} {c c' : α → M Bool} {e e' : α → M β} : ∀ {xs : List α}, (∀ x ∈ xs, c x = c' x) → (∀ x ∈ xs, c x = .ok true → e x = e' x) → compM c e xs = compM c' e' xs
  | [], _, _ => rfl
  | x :: r, h1, h2 => by
    have ih := compM_congr (xs := r) (fun y hy => h1 y (List.mem_cons_of_mem _ hy)) (fun y hy => h2 y (List.mem_cons_of_mem _ hy))
    unfold compM
    rw [ih, ← h1 x List.mem_cons_self]
    have h2' := h2 x List.mem_cons_self
    cases q : c x with
    | ok b =>
      cases b with
      | true => rw [h2' q]
      | false => rfl
    | er _ => rfl
    | bad => rfl
/-! ### what is walked -/
def Sq (K : PySem.W.Frag) {α : Type} [Rep α] (F : Hp) (J : It) (xs : List α) : Prop := ∀ i H, Ex F H →
  (∀ x, xs[i]? = some x → J.go i H ∧ ∀ v H', J.yld i H v H' → ∀ F1, Ex F F1 → Ex F1 H → ∃ F2, Gr F1 H F2 H' ∧ rp K F2 v x) ∧ (xs.length ≤ i → J.stop i H)
def EvI (ce : Ce) (E : XK) (K : PySem.W.Frag) {α : Type} [Rep α] (wi : TI) (σ : L2.St) (F H : Hp) (m : M (List α)) : Prop := ∀ F1 H1, Gr F H F1 H1 → ∀ R : It → Hp → Prop,
  Wp ce E H1 m (fun xs => ∀ F2 H2 J, Gr F1 H1 F2 H2 → Sq K F2 J xs → R J H2) → wi σ H1 R
section
variable {ρ α β γ δ S τ : Type} [Rep α] [Rep β] [Rep γ] [Rep δ] {ce : Ce} {E : XK} {K : PySem.W.Frag} {σ : L2.St} {F H F' H' F0 H0 : Hp} {te ta tb tc td : TE} {tt tu : TT} {md : Md ρ} {m : M ρ} {D : Ends} {ts tw : TS} {g : TG} {wi : TI} {P : τ → Prop}
theorem sq_list {a : Addr} {vs : List V} {xs : List α} (h : SqL K F a vs) (p : Paired (rp K F) vs xs) : Sq K F (Itl K a) xs := fun i H e => by
  have hl := Paired.length p
  refine ⟨fun x hx => ?_, fun hi => ⟨vs, ex_l e h, by omega⟩⟩
  obtain ⟨v, hv, rv'⟩ := paired_get p hx
  refine ⟨⟨vs, v, ex_l e h, hv⟩, fun w H' ⟨e1, e2⟩ F1 f1 f2 => ?_⟩
  subst e1
  have : some v = some w := hv.symm.trans (e2 vs (ex_l e h))
  cases this
  exact ⟨F1, Gr.rf f2, Rep.mo f1 rv'⟩
theorem ei_list {m : M (List α)} (h : Ev ce E te σ F H (rv K) m) : EvI ce E K (iList K te) σ F H m := fun F1 H1 g1 R q => by
  refine h F1 H1 g1 _ ?_
  cases m with
  | ok xs =>
    rintro F2 H2 v g2 ⟨a, vs, rfl, h2, h3⟩
    exact ⟨a, rfl, ⟨vs, SqL.of (g2.fh _ _ h2)⟩, q F2 H2 _ g2 (sq_list (SqL.of h2) h3)⟩
  | er c => exact q
  | bad => exact q
theorem ei_scr {x : Scr} (h : Ev ce E te σ F H (rv K) (.ok x)) : EvI ce E K (iList K te) σ F H (.ok x.l) := fun F1 H1 g1 R q => by
  refine h F1 H1 g1 _ ?_
  rintro F2 H2 v g2 ⟨a, rfl, h2⟩
  exact ⟨a, rfl, ⟨_, ex_l g2.fh h2⟩, q F2 H2 _ g2 (sq_list h2 (rep_int _))⟩
/-- range -/
def rng (lo hi : Int) : List Int := (List.range (hi - lo).toNat).map fun (k : Nat) => lo + (k : Int)
theorem rng_len (lo hi : Int) : (rng lo hi).length = (hi - lo).toNat := by unfold rng; rw [List.length_map, List.length_range]
theorem rng_get (lo hi : Int) (i : Nat) (h : i < (hi - lo).toNat) : (rng lo hi)[i]? = some (lo + (i : Int)) := by
  unfold rng
  rw [List.getElem?_map, List.getElem?_range h]
  rfl
theorem sq_rng {lo hi : Int} : Sq K F (Itr lo (hi - lo).toNat) (rng lo hi) := fun i H e => by
  refine ⟨fun x hx => ?_, fun h => ?_⟩
  · have hi' : i < (hi - lo).toNat := by
      have := (List.getElem?_eq_some_iff.mp hx).1
      rw [rng_len] at this
      exact this
    rw [rng_get _ _ _ hi'] at hx
    cases hx
    refine ⟨hi', fun v H' ⟨e1, e2⟩ F1 f1 f2 => ?_⟩
    subst e1 e2
    exact ⟨F1, Gr.rf f2, rfl⟩
  · rw [rng_len] at h
    exact h
noncomputable def rng1M (hi : Int) : M (List Int) := chk (-(2 ^ 62) ≤ hi ∧ hi < 2 ^ 62) (rng 0 hi)
noncomputable def rng2M (lo hi : Int) : M (List Int) := chk (-(2 ^ 62) ≤ lo ∧ lo < 2 ^ 62 ∧ -(2 ^ 62) ≤ hi ∧ hi < 2 ^ 62) (rng lo hi)
theorem ei_rng1 {m : M Int} (h : Ev ce E ta σ F H (rv K) m) : EvI ce E K (iRng1 (tCons ta tNil)) σ F H (m.bind rng1M) := fun F1 H1 g1 R q => by
  refine h F1 H1 g1 _ ?_
  cases m with
  | ok n =>
    intro F2 H2 v g2 r
    cases r
    have q' : Wp ce E H1 (rng1M n) (fun xs => ∀ F2 H2 J, Gr F1 H1 F2 H2 → Sq K F2 J xs → R J H2) := q
    unfold rng1M chk at q'
    by_cases hc : -(2 ^ 62) ≤ n ∧ n < 2 ^ 62
    · rw [if_pos hc] at q'
      refine ⟨n, rfl, hc.1, hc.2, q' F2 H2 _ g2 ?_⟩
      have := sq_rng (K := K) (F := F2) (lo := 0) (hi := n)
      rw [Int.sub_zero] at this
      exact this
    · rw [if_neg hc] at q'
      exact q'.elim
  | er c => exact q
  | bad => exact q
theorem ei_rng2 {m m2 : M Int} (h : Ev ce E ta σ F H (rv K) m) (h2 : Ev ce E tb σ F H (rv K) m2) : EvI ce E K (iRng2 (tCons ta (tCons tb tNil))) σ F H (m.bind fun lo => m2.bind fun hi => rng2M lo hi) := fun F1 H1 g1 R q => by
  refine h F1 H1 g1 _ ?_
  cases m with
  | ok lo =>
    intro F2 H2 v g2 r
    cases r
    refine h2 F2 H2 (g1.tr g2) _ ?_
    cases m2 with
    | ok n =>
      intro F3 H3 v g3 r
      cases r
      have q' : Wp ce E H1 (rng2M lo n) (fun xs => ∀ F2 H2 J, Gr F1 H1 F2 H2 → Sq K F2 J xs → R J H2) := q
      unfold rng2M chk at q'
      by_cases hc : -(2 ^ 62) ≤ lo ∧ lo < 2 ^ 62 ∧ -(2 ^ 62) ≤ n ∧ n < 2 ^ 62
      · rw [if_pos hc] at q'
        exact ⟨lo, n, rfl, hc, q' F3 H3 _ (g2.tr g3) sq_rng⟩
      · rw [if_neg hc] at q'
        exact q'.elim
    | er c => exact fun H' e => q H' (g2.hh.tr e)
    | bad => exact q
  | er c => exact q
  | bad => exact q

/-! ### targets -/
/-- behind the target's store of what x is, from the slots σ0 -/
def Tg (K : PySem.W.Frag) {α : Type} [Rep α] (g : TG) (R : L2.St → Hp → L2.St → α → Prop) : Prop := ∀ σ0 F H v x, Ex F H → rp K F v x → ∀ Q : L2.St → Hp → Prop, (∀ σ2, R σ0 F σ2 x → Q σ2 H) → g v σ0 H Q
def RName (K : PySem.W.Frag) {α : Type} [Rep α] (i : Nat) : L2.St → Hp → L2.St → α → Prop := fun σ0 F σ2 x => ∃ v, σ2 = σ0.set i (some v) ∧ rp K F v x
def RTup2 (K : PySem.W.Frag) {α β : Type} [Rep α] [Rep β] (i j : Nat) : L2.St → Hp → L2.St → α × β → Prop := fun σ0 F σ2 x => ∃ u w, σ2 = (σ0.set i (some u)).set j (some w) ∧ rp K F u x.1 ∧ rp K F w x.2
def RTup3 (K : PySem.W.Frag) {α β γ : Type} [Rep α] [Rep β] [Rep γ] (i j l : Nat) : L2.St → Hp → L2.St → T3 α β γ → Prop := fun σ0 F σ2 x => ∃ u w z, σ2 = ((σ0.set i (some u)).set j (some w)).set l (some z) ∧ rp K F u x.a ∧ rp K F w x.b ∧ rp K F z x.c
theorem tg_name {i : Nat} : Tg K (α := α) (gName i) (RName K i) := fun σ0 F H v x e r Q q => q _ ⟨v, rfl, r⟩
theorem tg_tup2 {i j : Nat} : Tg K (α := α × β) (gTup K 2 (gCons (gName i) (gCons (gName j) gNil))) (RTup2 K i j) := fun σ0 F H v x e ⟨a, u, w, h1, h2, h3, h4⟩ Q q =>
  ⟨a, [u, w], h1, ex_t e h2, rfl, u, [w], rfl, w, [], rfl, rfl, q _ ⟨u, w, rfl, h3, h4⟩⟩
theorem tg_tup3 {i j l : Nat} : Tg K (α := T3 α β γ) (gTup K 3 (gCons (gName i) (gCons (gName j) (gCons (gName l) gNil)))) (RTup3 K i j l) := fun σ0 F H v x e ⟨a, u, w, z, h1, h2, h3, h4, h5⟩ Q q =>
  ⟨a, [u, w, z], h1, ex_t e h2, rfl, u, [w, z], rfl, w, [z], rfl, z, [], rfl, rfl, q _ ⟨u, w, z, rfl, h3, h4, h5⟩⟩
theorem set_set_ne {σ : L2.St} {i j : Nat} {a b : Option V} (h : i ≠ j) : (σ.set i a).set j b = (σ.set j b).set i a := List.set_comm _ _ h
theorem wipe1 {σ : L2.St} {i : Nat} {v : Option V} : wipe ((wipe σ [i]).set i v) [i] = wipe σ [i] := by
  show ((σ.set i none).set i v).set i none = σ.set i none
  rw [List.set_set, List.set_set]
theorem wipe2 {σ : L2.St} {i j : Nat} {v w : Option V} : wipe (((wipe σ [i, j]).set i v).set j w) [i, j] = wipe σ [i, j] := by
  show (((((σ.set j none).set i none).set i v).set j w).set j none).set i none = (σ.set j none).set i none
  apply List.ext_getElem?
  intro n
  simp only [List.getElem?_set, List.length_set]
  by_cases a : i = n
  · subst a; simp
  · by_cases b : j = n
    · subst b; simp [a]
    · simp [a, b]
theorem wipe3 {σ : L2.St} {i j l : Nat} {u v w : Option V} : wipe ((((wipe σ [i, j, l]).set i u).set j v).set l w) [i, j, l] = wipe σ [i, j, l] := by
  show ((((((((σ.set l none).set j none).set i none).set i u).set j v).set l w).set l none).set j none).set i none = ((σ.set l none).set j none).set i none
  apply List.ext_getElem?
  intro n
  simp only [List.getElem?_set, List.length_set]
  by_cases a : i = n
  · subst a; simp
  · by_cases b : j = n
    · subst b; simp [a]
    · by_cases c : l = n
      · subst c; simp [a, b]
      · simp [a, b, c]
/-- [e for x in xs if c] -/
theorem em_lc {vs : List Nat} {m : M (List α)} {c : α → M Bool} {e : α → M β} {R : L2.St → Hp → L2.St → α → Prop} (hi : EvI ce E K wi σ F H m) (hg : Tg K g R)
    (hw : ∀ F σ2 (x : α), R (wipe σ vs) F σ2 x → wipe σ2 vs = wipe σ vs)
    (hc : ∀ x F1 H1 σ2, Gr F H F1 H1 → R (wipe σ vs) F1 σ2 x → EvT ce E0 tt σ2 F1 H1 (c x)) (he : ∀ x F1 H1 σ2, Gr F H F1 H1 → R (wipe σ vs) F1 σ2 x → Ev ce E0 te σ2 F1 H1 (rv K) (e x)) :
    Ev ce E (tLc wi g tt te vs) σ F H (rn K) (m.bind fun xs => lcM c e xs) := fun F1 H1 g1 Q q => by
  refine hi F1 H1 g1 _ ?_
  cases m with
  | er c => exact q
  | bad => exact q
  | ok xs =>
    intro F2 H2 J g2 sq Dl nd
    have q' : Post ce (rn K) (lcM c e xs) F1 H1 Q E := q
    unfold lcM at q'
    have hlen : xs.length ≤ 16000000 := by
      by_cases hlen : xs.length ≤ 16000000
      · exact hlen
      · rw [if_neg hlen] at q'
        exact q'.elim
    rw [if_pos hlen] at q'
    have nf : F2 Dl = none := ex_back g2.fh nd
    have gD : Gr F2 H2 F2 (upd H2 Dl (.lst [])) := Gr.own g2.fh nd
    -- the word: done so far, and what is left
    refine ⟨fun i m H' => m = xs.length - i ∧ i ≤ xs.length ∧ ∃ F' acc ys, Gr F2 H2 F' H' ∧ F' Dl = none ∧ H' Dl = some (.lst acc) ∧ acc.length ≤ i ∧ Paired (rp K F') acc ys ∧
      Post ce (rn K) ((compM c e (xs.drop i)).bind fun zs => .ok (ys ++ zs)) F1 H1 Q E, ⟨xs.length, by omega, Nat.zero_le _, F2, [], [], gD, nf, upd_same, Nat.zero_le _, .nil, ?_⟩, ?_⟩
    · rw [List.drop_zero]
      have : (compM c e xs).bind (fun zs => M.ok ([] ++ zs)) = compM c e xs := by
        cases compM c e xs <;> rfl
      rw [this]
      exact q'
    · rintro i mm H3 ⟨rfl, hi3, F3, acc, ys, g3, nf3, h3, hl3, p3, q3⟩
      have e3 : Ex F2 H3 := g3.ff.tr g3.fh
      by_cases hlt : i < xs.length
      · obtain ⟨x, hx⟩ : ∃ x, xs[i]? = some x := ⟨xs[i], List.getElem?_eq_getElem hlt⟩
        obtain ⟨go, yl⟩ := (sq i H3 e3).1 x hx
        have hd : xs.drop i = x :: xs.drop (i + 1) := by
          rw [List.drop_eq_getElem_cons hlt]
          rw [List.getElem?_eq_getElem hlt] at hx
          cases hx
          rfl
        rw [hd] at q3
        refine .inr ⟨go, fun H' => ∃ F' acc ys, Gr F2 H2 F' H' ∧ F' Dl = none ∧ H' Dl = some (.lst acc) ∧ acc.length ≤ i + 1 ∧ Paired (rp K F') acc ys ∧
          Post ce (rn K) ((compM c e (xs.drop (i + 1))).bind fun zs => .ok (ys ++ zs)) F1 H1 Q E, fun H' h' => ⟨xs.length - (i + 1), by omega, rfl, hlt, h'⟩, fun v H4 hy => ?_⟩
        obtain ⟨F4, g4, r4⟩ := yl v H4 hy F3 g3.ff g3.fh
        have g24 := g3.tr g4
        have gF : Gr F H F4 H4 := (g1.tr g2).tr g24
        refine hg _ F4 H4 v x g4.fh r4 _ fun σ2 hr => ⟨hw F4 σ2 x hr, ?_⟩
        -- the test
        have nf4 : F4 Dl = none := g4.nw Dl nf3 (by rw [h3]; exact fun z => nomatch z)
        have h4 : H4 Dl = some (.lst acc) := g4.hh _ _ h3
        refine hc x F4 H4 σ2 gF hr F4 H4 (Gr.rf g4.fh) _ ?_
        cases qc : c x with
        | er cc => exact (by
            have q3' := q3
            unfold compM at q3'
            rw [qc] at q3'
            exact q3'.elim)
        | bad => exact (by
            have q3' := q3
            unfold compM at q3'
            rw [qc] at q3'
            exact q3'.elim)
        | ok b =>
          intro F5 H5 g5
          have nf5 : F5 Dl = none := g5.nw Dl nf4 (by rw [h4]; exact fun z => nomatch z)
          have h5 : H5 Dl = some (.lst acc) := g5.hh _ _ h4
          cases b with
          | false =>
            show ∃ F' acc ys, _
            refine ⟨F5, acc, ys, g24.tr g5, nf5, h5, by omega, paired_mo (g4.ff.tr g5.ff) p3, ?_⟩
            have q3' := q3
            unfold compM at q3'
            rw [qc] at q3'
            exact q3'
          | true =>
            show te σ2 H5 _
            refine he x F4 H4 σ2 gF hr F5 H5 g5 _ ?_
            cases qe : e x with
            | er cc => exact (by
                have q3' := q3
                unfold compM at q3'
                rw [qc, qe] at q3'
                exact q3'.elim)
            | bad => exact (by
                have q3' := q3
                unfold compM at q3'
                rw [qc, qe] at q3'
                exact q3'.elim)
            | ok y =>
              intro F6 H6 v6 g6 r6
              have nf6 : F6 Dl = none := g6.nw Dl nf5 (by rw [h5]; exact fun z => nomatch z)
              have h6 : H6 Dl = some (.lst acc) := g6.hh _ _ h5
              refine ⟨acc, h6, ?_, F6, acc ++ [v6], ys ++ [y], Gr.mut ((g24.tr g5).tr g6) nd nf6, nf6, upd_same, ?_, paired_app (paired_mo ((g4.ff.tr g5.ff).tr g6.ff) p3) (.cons r6 .nil), ?_⟩
              · rw [sizeLine_eq]; omega
              · rw [List.length_append]
                show acc.length + 1 ≤ i + 1
                omega
              · have q3' := q3
                unfold compM at q3'
                rw [qc, qe] at q3'
                have ea : ((compM c e (xs.drop (i + 1))).bind fun zs => M.ok ((ys ++ [y]) ++ zs)) = (((compM c e (xs.drop (i + 1))).bind fun ys' => M.ok (y :: ys')).bind fun zs => M.ok (ys ++ zs)) := by
                  cases compM c e (xs.drop (i + 1)) with
                  | ok zs => show M.ok _ = M.ok _; rw [List.append_assoc]; rfl
                  | er _ => rfl
                  | bad => rfl
                rw [ea]
                exact q3'
      · have ei : i = xs.length := by omega
        refine .inl ⟨(sq i H3 e3).2 (by omega), ?_⟩
        rw [ei, List.drop_length] at q3
        have q3' : Post ce (rn K) (.ok (ys ++ [])) F1 H1 Q E := q3
        rw [List.append_nil] at q3'
        exact q3' F3 H3 _ (g2.tr g3) ⟨Dl, acc, rfl, ex_back g2.hh nd, nf3, h3, p3⟩
end
end Mw

set_option Elab.async false
set_option linter.all false
set_option maxRecDepth 100000
set_option maxHeartbeats 2000000
/-! Mw, part E: statements. -/
namespace Mw
open PySem L2
open Rep (rp)
/-! ### one's own lists lent out, and taken back -/
def fz (F H : Hp) (A : List Addr) : Hp := fun b => if b ∈ A then H b else F b
def th (F : Hp) (A : List Addr) : Hp := fun b => if b ∈ A then none else F b
theorem fz_ex {F H : Hp} {A : List Addr} (h : Ex F H) : Ex F (fz F H A) := fun a o e => by
  unfold fz
  split
  · exact h a o e
  · exact e
theorem fz_h {F H : Hp} {A : List Addr} (h : Ex F H) : Ex (fz F H A) H := fun a o e => by
  unfold fz at e
  split at e
  · exact e
  · exact h a o e
theorem fz_at {F H : Hp} {A : List Addr} {p : Addr} {o : HO} (m : p ∈ A) (h : H p = some o) : fz F H A p = some o := by
  unfold fz
  rw [if_pos m]
  exact h
theorem th_at {F : Hp} {A : List Addr} {p : Addr} (m : p ∈ A) : th F A p = none := by
  unfold th
  rw [if_pos m]
/-- the run went on from what was lent; now it is one's own again -/
theorem gr_th {F H F1 H1 : Hp} {A : List Addr} (hF : ∀ p ∈ A, F p = none) (hA : ∀ p ∈ A, H p ≠ none) (e : Ex F H) (g : Gr (fz F H A) H F1 H1) : Gr F H (th F1 A) H1 where
  ff := fun a o h => by
    have : a ∉ A := fun m => by rw [hF a m] at h; cases h
    unfold th
    rw [if_neg this]
    exact g.ff a o (fz_ex e a o h)
  fh := fun a o h => by
    unfold th at h
    split at h
    · cases h
    · exact g.fh a o h
  hh := g.hh
  nw := fun b h1 h2 => by
    unfold th
    split
    · rfl
    · rename_i hb
      refine g.nw b ?_ h2
      unfold fz
      rw [if_neg hb]
      exact h1
theorem th_tup {F : Hp} {A : List Addr} (h : ∀ p ∈ A, ∀ xs, ¬ Rd F p (.tup xs)) : TupEx F (th F A) := fun a xs r => by
  have : a ∉ A := fun m => h a m xs r
  rcases r with r | ⟨o, r⟩
  · refine .inl ?_
    unfold th
    rw [if_neg this]
    exact r
  · refine .inr ⟨o, ?_⟩
    unfold th
    rw [if_neg this]
    exact r
/-- no tuple -/
def NoTup (o : HO) : Prop := (∀ xs, o ≠ .tup xs) ∧ ∀ u xs, o ≠ .frz u (.tup xs)
/-- data that stand for one object -/
class Obj (T : Type) [Rep T] where
  ho : PySem.W.Frag → Hp → HO → T → Prop
  mo : ∀ {K : PySem.W.Frag} {H H' : Hp} {o : HO} {x : T}, Ex H H' → ho K H o x → ho K H' o x
  rep : ∀ {K : PySem.W.Frag} {H : Hp} {p : Addr} {o : HO} {x : T}, H p = some o → ho K H o x → rp K H (.ref p) x
  nt : ∀ {K : PySem.W.Frag} {H : Hp} {o : HO} {x : T}, ho K H o x → NoTup o
instance {α : Type} [Rep α] : Obj (List α) where
  ho := fun K H o x => ∃ vs, o = .lst vs ∧ Paired (rp K H) vs x
  mo := fun e ⟨vs, h1, h2⟩ => ⟨vs, h1, paired_mo e h2⟩
  rep := fun {K H p o x} e ⟨vs, h1, h2⟩ => by subst h1; exact ⟨p, vs, rfl, e, h2⟩
  nt := fun {K H o x} ⟨vs, h1, _⟩ => by subst h1; exact ⟨(fun _ z => nomatch z), (fun _ _ z => nomatch z)⟩
/-- p is one's own, an object that stands for x -/
structure Own (K : PySem.W.Frag) {T : Type} [Rep T] [Obj T] (F H : Hp) (p : Addr) (x : T) : Prop where
  h : ∃ o, H p = some o ∧ Obj.ho K F o x
  f : F p = none
theorem th_of {F H F1 H1 : Hp} {A : List Addr} (hA : ∀ p ∈ A, ∃ o, H p = some o ∧ NoTup o) (g : Gr (fz F H A) H F1 H1) : TupEx F1 (th F1 A) := th_tup fun p m xs r' => by
  obtain ⟨o, e, n1, n2⟩ := hA p m
  have e1 : F1 p = some o := g.ff _ _ (fz_at m e)
  rcases r' with r' | ⟨u, r'⟩
  · rw [e1] at r'
    exact n1 xs (Option.some.inj r')
  · rw [e1] at r'
    exact n2 u xs (Option.some.inj r')
section
variable {ρ α β γ δ S τ : Type} [Rep α] [Rep β] [Rep γ] [Rep δ] {ce : Ce} {E : XK} {K : PySem.W.Frag} {σ : L2.St} {F H F' H' F0 H0 : Hp} {te ta tb tc td : TE} {tt tu : TT} {md : Md ρ} {m : M ρ} {D : Ends} {ts tw : TS} {g : TG} {wi : TI} {P : τ → Prop}
variable {T : Type} [Rep T] [Obj T]
theorem Own.mo {p : Addr} {x : T} (o : Own K F H p x) (g : Gr F H F' H') : Own K F' H' p x := by
  obtain ⟨⟨u, h1, h2⟩, h3⟩ := o
  exact ⟨⟨u, g.hh _ _ h1, Obj.mo g.ff h2⟩, g.nw p h3 (by rw [h1]; exact fun z => nomatch z)⟩
theorem Own.ne {p : Addr} {x : T} (o : Own K F H p x) : H p ≠ none := by
  obtain ⟨⟨u, h1, h2⟩, h3⟩ := o
  rw [h1]; exact fun z => nomatch z
theorem Own.upd {p q : Addr} {x : T} {u : HO} (o : Own K F H p x) (h : p ≠ q) : Own K F (upd H q u) p x := by
  obtain ⟨⟨w, h1, h2⟩, h3⟩ := o
  exact ⟨⟨w, by rw [upd_ne h]; exact h1, h2⟩, h3⟩
theorem Own.lent {p : Addr} {x : T} {A : List Addr} (o : Own K F H p x) (e : Ex F H) (m : p ∈ A) : rp K (fz F H A) (.ref p) x := by
  obtain ⟨⟨u, h1, h2⟩, h3⟩ := o
  exact Obj.rep (fz_at m h1) (Obj.mo (fz_ex e) h2)
theorem own_new {p : Addr} {vs : List V} {xs : List α} (h1 : F p = none) (h2 : H p = some (.lst vs)) (h3 : Paired (rp K F) vs xs) : Own K F H p xs := ⟨⟨_, h2, vs, rfl, h3⟩, h1⟩
theorem Own.lst {p : Addr} {xs : List α} (o : Own K F H p xs) : ∃ vs, H p = some (.lst vs) ∧ Paired (rp K F) vs xs := by
  obtain ⟨⟨u, h1, vs, h2, h3⟩, _⟩ := o
  subst h2
  exact ⟨vs, h1, h3⟩

/-! ### statements -/
theorem s_seq {t1 t2 : TS} (h : t1 { D with nx := t2 D } σ H) : tSeq t1 t2 D σ H := h
theorem Ev.go {m1 : M α} {k : α → M τ} {Q' : VK} (h : Ev ce E ta σ F H (rv K) m1) (G : Gr F0 H0 F H) (q : Wp ce E H0 (m1.bind k) P)
    (c : ∀ x F1 H1 v, Gr F H F1 H1 → rp K F1 v x → Wp ce E H0 (k x) P → Q' v H1) : ta σ H Q' := by
  refine h F H (Gr.rf G.fh) Q' ?_
  cases m1 with
  | ok x => exact fun F1 H1 v g r => c x F1 H1 v g r q
  | er cc => exact fun H' e => q H' (G.hh.tr e)
  | bad => exact q
theorem Ev.goN {m1 : M (List α)} {k : List α → M τ} {Q' : VK} (h : Ev ce E ta σ F H (rn K) m1) (G : Gr F0 H0 F H) (q : Wp ce E H0 (m1.bind k) P)
    (c : ∀ x F1 H1 p, Gr F H F1 H1 → H p = none → Own K F1 H1 p x → Wp ce E H0 (k x) P → Q' (.ref p) H1) : ta σ H Q' := by
  refine h F H (Gr.rf G.fh) Q' ?_
  cases m1 with
  | ok x =>
    rintro F1 H1 v g ⟨p, vs, rfl, h1, h2, h3, h4⟩
    exact c x F1 H1 p g h1 (own_new h2 h3 h4) q
  | er cc => exact fun H' e => q H' (G.hh.tr e)
  | bad => exact q
theorem EvT.go {m1 : M Bool} {k : Bool → M τ} {Q' : Bool → Hp → Prop} (h : EvT ce E tt σ F H m1) (G : Gr F0 H0 F H) (q : Wp ce E H0 (m1.bind k) P)
    (c : ∀ x F1 H1, Gr F H F1 H1 → Wp ce E H0 (k x) P → Q' x H1) : tt σ H Q' := by
  refine h F H (Gr.rf G.fh) Q' ?_
  cases m1 with
  | ok x => exact fun F1 H1 g => c x F1 H1 g q
  | er cc => exact fun H' e => q H' (G.hh.tr e)
  | bad => exact q
/-- x = e -/
theorem s_asg {i : Nat} {m1 : M α} {k : α → M τ} (G : Gr F0 H0 F H) (q : Wp ce E H0 (m1.bind k) P) (h : Ev ce E te σ F H (rv K) m1)
    (c : ∀ x F1 H1 v, Gr F H F1 H1 → rp K F1 v x → Wp ce E H0 (k x) P → D.nx (σ.set i (some v)) H1) : tAsg te (gName i) D σ H := h.go G q fun x F1 H1 v g r w => c x F1 H1 v g r w
/-- x = a new list of one's own -/
theorem s_asgN {i : Nat} {m1 : M (List α)} {k : List α → M τ} (G : Gr F0 H0 F H) (q : Wp ce E H0 (m1.bind k) P) (h : Ev ce E te σ F H (rn K) m1)
    (c : ∀ x F1 H1 p, Gr F H F1 H1 → H p = none → Own K F1 H1 p x → Wp ce E H0 (k x) P → D.nx (σ.set i (some (.ref p))) H1) : tAsg te (gName i) D σ H := h.goN G q fun x F1 H1 p g n o w => c x F1 H1 p g n o w
/-- x = e, where e reads lists of one's own -/
theorem s_asgA (A : List Addr) {i : Nat} {m1 : M α} {k : α → M τ} [Flat α] (G : Gr F0 H0 F H) (q : Wp ce E H0 (m1.bind k) P) (hF : ∀ p ∈ A, F p = none) (hA : ∀ p ∈ A, ∃ o, H p = some o ∧ NoTup o) (h0 : ∀ p ∈ A, H0 p = none)
    (h : Ev ce E te σ (fz F H A) H (rv K) m1) (c : ∀ x F1 H1 v, Gr F H F1 H1 → rp K F1 v x → Wp ce E H0 (k x) P → D.nx (σ.set i (some v)) H1) : tAsg te (gName i) D σ H := by
  refine h _ H (Gr.rf (fz_h G.fh)) _ ?_
  have hA' : ∀ p ∈ A, H p ≠ none := fun p m => by obtain ⟨o, e, _⟩ := hA p m; rw [e]; exact fun z => nomatch z
  cases m1 with
  | ok x =>
    intro F1 H1 v g r
    exact c x (th F1 A) H1 v (gr_th hF hA' G.fh g) (Flat.fl (th_of hA g) r) q
  | er cc => exact fun H' e => q H' (G.hh.tr e)
  | bad => exact q
/-- if, where the test reads lists of one's own -/
theorem s_ifA (A : List Addr) {m1 : M Bool} {k : Bool → M τ} (G : Gr F0 H0 F H) (q : Wp ce E H0 (m1.bind k) P) (hF : ∀ p ∈ A, F p = none) (hA : ∀ p ∈ A, ∃ o, H p = some o ∧ NoTup o)
    (h : EvT ce E tt σ (fz F H A) H m1) (h1 : ∀ F1 H1, Gr F H F1 H1 → Wp ce E H0 (k true) P → ts D σ H1) (h2 : ∀ F1 H1, Gr F H F1 H1 → Wp ce E H0 (k false) P → tw D σ H1) : tIfS tt ts tw D σ H := by
  refine h _ H (Gr.rf (fz_h G.fh)) _ ?_
  have hA' : ∀ p ∈ A, H p ≠ none := fun p m => by obtain ⟨o, e, _⟩ := hA p m; rw [e]; exact fun z => nomatch z
  cases m1 with
  | ok b =>
    intro F1 H1 g
    cases b with
    | true => exact h1 _ H1 (gr_th hF hA' G.fh g) q
    | false => exact h2 _ H1 (gr_th hF hA' G.fh g) q
  | er cc => exact fun H' e => q H' (G.hh.tr e)
  | bad => exact q
theorem s_if {m1 : M Bool} {k : Bool → M τ} (G : Gr F0 H0 F H) (q : Wp ce E H0 (m1.bind k) P) (h : EvT ce E tt σ F H m1)
    (h1 : ∀ F1 H1, Gr F H F1 H1 → Wp ce E H0 (k true) P → ts D σ H1) (h2 : ∀ F1 H1, Gr F H F1 H1 → Wp ce E H0 (k false) P → tw D σ H1) : tIfS tt ts tw D σ H :=
  h.go G q fun b F1 H1 g w => by
    cases b with
    | true => exact h1 F1 H1 g w
    | false => exact h2 F1 H1 g w
/-- what follows is shown once -/
theorem s_cut {t : TS} (I : L2.St → Hp → Prop) (h1 : ∀ σ1 H1, I σ1 H1 → D.nx σ1 H1) (h2 : (∀ σ1 H1, I σ1 H1 → D.nx σ1 H1) → t D σ H) : t D σ H := h2 h1
/-- return e -/
theorem s_ret {m1 : M ρ} {k : ρ → M τ} [Rep ρ] (G : Gr F0 H0 F H) (q : Wp ce E H0 (m1.bind k) P) (h : Ev ce E te σ F H (rv K) m1)
    (hD : ∀ r F1 H1 v, Gr F0 H0 F1 H1 → rp K F1 v r → Wp ce E H0 (k r) P → D.rt v H1) : tRet te D σ H := h.go G q fun x F1 H1 v g r w => hD x F1 H1 v (G.tr g) r w
theorem s_retN {m1 : M (List α)} {k : List α → M τ} (G : Gr F0 H0 F H) (q : Wp ce E H0 (m1.bind k) P) (h : Ev ce E te σ F H (rn K) m1)
    (hD : ∀ r F1 H1 v, Gr F0 H0 F1 H1 → rn K F0 H0 F1 H1 v r → Wp ce E H0 (k r) P → D.rt v H1) : tRet te D σ H := h.goN G q fun x F1 H1 p g n o w => by
  obtain ⟨vs, h1, h2⟩ := o.lst
  exact hD x F1 H1 _ (G.tr g) ⟨p, vs, rfl, ex_back G.hh n, o.f, h1, h2⟩ w
theorem s_ret0 {m1 : M τ} [Rep τ] (G : Gr F0 H0 F H) (q : Wp ce E H0 m1 P) (h : Ev ce E te σ F H (rv K) m1) (hD : ∀ r F1 H1 v, Gr F0 H0 F1 H1 → rp K F1 v r → P r → D.rt v H1) : tRet te D σ H := by
  refine h F H (Gr.rf G.fh) _ ?_
  cases m1 with
  | ok x => exact fun F1 H1 v g r => hD x F1 H1 v (G.tr g) r q
  | er cc => exact fun H' e => q H' (G.hh.tr e)
  | bad => exact q
theorem s_retN0 {m1 : M (List α)} {P : List α → Prop} (G : Gr F0 H0 F H) (q : Wp ce E H0 m1 P) (h : Ev ce E te σ F H (rn K) m1) (hD : ∀ r F1 H1 v, Gr F0 H0 F1 H1 → rn K F0 H0 F1 H1 v r → P r → D.rt v H1) : tRet te D σ H := by
  refine h F H (Gr.rf G.fh) _ ?_
  cases m1 with
  | ok x =>
    intro F1 H1 v g r
    exact hD x F1 H1 v (G.tr g) (MdMo.mo G r) q
  | er cc => exact fun H' e => q H' (G.hh.tr e)
  | bad => exact q
/-- the lent heap is reached from the entry, too -/
theorem gr_fz {A : List Addr} (G : Gr F0 H0 F H) (h0 : ∀ p ∈ A, H0 p = none) : Gr F0 H0 (fz F H A) H :=
  ⟨G.ff.tr (fz_ex G.fh), fz_h G.fh, G.hh, fun b h1 h2 => by
    unfold fz
    split
    · rename_i hm
      exact absurd (h0 b hm) h2
    · exact G.nw b h1 h2⟩
/-- return p, a list of one's own -/
theorem rn_own {p : Addr} {xs : List α} (o : Own K F H p xs) (h0 : H0 p = none) : rn K F0 H0 F H (.ref p) xs := by
  obtain ⟨vs, h1, h2⟩ := o.lst
  exact ⟨p, vs, rfl, h0, o.f, h1, h2⟩
/-- e, alone -/
theorem s_drop {m1 : M α} {k : α → M τ} (G : Gr F0 H0 F H) (q : Wp ce E H0 (m1.bind k) P) (h : Ev ce E te σ F H (rv K) m1)
    (c : ∀ x F1 H1, Gr F H F1 H1 → Wp ce E H0 (k x) P → D.nx σ H1) : tDrop te D σ H := h.go G q fun x F1 H1 v g r w => c x F1 H1 g w
theorem s_raise {c : Err} {cls : Value} (G : Gr F0 H0 F H) (q : Wp ce E H0 (.er c : M τ) P) (hc : cls = .ref (ce c.name)) : E cls none H := by
  subst hc
  exact q H G.hh
/-! ### one's own lists change -/
noncomputable def appM {α : Type} (xs : List α) (x : α) : M (List α) := chk (xs.length < 16000000) (xs ++ [x])
/-- xs.append(e) -/
theorem s_app {i : Nat} {p : Addr} {xs : List α} {m1 : M α} {k : List α → M τ} (hp : σ[i]? = some (some (.ref p))) (o : Own K F H p xs) (n0 : H0 p = none) (G : Gr F0 H0 F H)
    (q : Wp ce E H0 (m1.bind fun x => (appM xs x).bind k) P) (h : Ev ce E te σ F H (rv K) m1)
    (c : ∀ ys F1 H1, Ex F F1 → Gr F0 H0 F1 H1 → Own K F1 H1 p ys → (∀ (T : Type) [Rep T] [Obj T] (q : Addr) (z : T), q ≠ p → Own K F H q z → Own K F1 H1 q z) → Wp ce E H0 (k ys) P → D.nx σ H1) :
    tDrop (tBM K "list" rAppend (tVar i) (tCons te tNil)) D σ H := by
  obtain ⟨vs, h1, h2⟩ := o.lst
  have h3 := o.f
  refine ⟨.ref p, hp, .inl ⟨rfl, vs, SqL.of h1⟩, h.go G q fun x F1 H1 v g r w => ?_⟩
  have w' : Wp ce E H0 ((appM xs x).bind k) P := w
  unfold appM chk at w'
  split at w'
  · rename_i hl
    refine ⟨p, vs, v, rfl, rfl, g.hh _ _ h1, ?_, ?_⟩
    · rw [Paired.length h2, sizeLine_eq]; omega
    · have hf1 : F1 p = none := g.nw p h3 (by rw [h1]; exact fun z => nomatch z)
      exact c (xs ++ [x]) F1 _ g.ff (Gr.mut (G.tr g) n0 hf1) (own_new hf1 upd_same (paired_app (paired_mo g.ff h2) (.cons r .nil))) (fun T _ _ q z hq o => (o.mo g).upd hq) w'
  · exact w'.elim
/-- xs.append(e), e reads lists of one's own -/
theorem s_appA (A : List Addr) {i : Nat} {p : Addr} {xs : List α} {m1 : M α} {k : List α → M τ} [Flat α] (hp : σ[i]? = some (some (.ref p))) (o : Own K F H p xs) (n0 : H0 p = none) (G : Gr F0 H0 F H)
    (q : Wp ce E H0 (m1.bind fun x => (appM xs x).bind k) P) (hF : ∀ p ∈ A, F p = none) (hA : ∀ p ∈ A, ∃ o, H p = some o ∧ NoTup o) (h : Ev ce E te σ (fz F H A) H (rv K) m1)
    (c : ∀ ys F1 H1, Ex F F1 → Gr F0 H0 F1 H1 → Own K F1 H1 p ys → (∀ (T : Type) [Rep T] [Obj T] (q : Addr) (z : T), q ≠ p → Own K F H q z → Own K F1 H1 q z) → Wp ce E H0 (k ys) P → D.nx σ H1) :
    tDrop (tBM K "list" rAppend (tVar i) (tCons te tNil)) D σ H := by
  obtain ⟨vs, h1, h2⟩ := o.lst
  have h3 := o.f
  refine ⟨.ref p, hp, .inl ⟨rfl, vs, SqL.of h1⟩, ?_⟩
  have hA' : ∀ p ∈ A, H p ≠ none := fun p m => by obtain ⟨o, e, _⟩ := hA p m; rw [e]; exact fun z => nomatch z
  refine h _ H (Gr.rf (fz_h G.fh)) _ ?_
  cases m1 with
  | ok x =>
    intro F1 H1 v g0 r0
    have g := gr_th hF hA' G.fh g0
    have r : rp K (th F1 A) v x := Flat.fl (th_of hA g0) r0
    have w' : Wp ce E H0 ((appM xs x).bind k) P := q
    unfold appM chk at w'
    split at w'
    · rename_i hl
      refine ⟨p, vs, v, rfl, rfl, g.hh _ _ h1, ?_, ?_⟩
      · rw [Paired.length h2, sizeLine_eq]; omega
      · have hf1 : th F1 A p = none := g.nw p h3 (by rw [h1]; exact fun z => nomatch z)
        exact c (xs ++ [x]) _ _ g.ff (Gr.mut (G.tr g) n0 hf1) (own_new hf1 upd_same (paired_app (paired_mo g.ff h2) (.cons r .nil))) (fun T _ _ q z hq o => (o.mo g).upd hq) w'
    · exact w'.elim
  | er cc => exact fun H' e => q H' (G.hh.tr e)
  | bad => exact q
/-! ### loops -/
theorem s_for {f : α → S → M (Ctl S τ)} {k : S → M τ} {s0 : S} {m : M (List α)} {R : L2.St → Hp → L2.St → α → Prop} (I : S → Hp → Hp → L2.St → Prop) (G : Gr F0 H0 F H) (hi : EvI ce E K wi σ F H m) (hg : Tg K g R)
    (q : Wp ce E H0 (m.bind fun xs => forM f k xs s0) P) (h0 : ∀ F1 H1, Gr F H F1 H1 → I s0 F1 H1 σ) (hG : ∀ s F' H' σ', I s F' H' σ' → Gr F0 H0 F' H')
    (turn : ∀ x s F1 H1 σ1, I s F1 H1 σ1 → ∀ F2 H2 σ2, Gr F1 H1 F2 H2 → R σ1 F2 σ2 x → ∀ (D' : Ends) (P' : Ctl S τ → Prop), D'.rt = D.rt →
      (∀ s', P' (.nx s') → ∀ F3 H3 σ3, Ex F2 F3 → I s' F3 H3 σ3 → D'.nx σ3 H3) → (∀ s', P' (.nx s') → ∀ F3 H3 σ3, Ex F2 F3 → I s' F3 H3 σ3 → D'.ct σ3 H3) →
      (∀ s', P' (.br s') → ∀ F3 H3 σ3, Ex F2 F3 → I s' F3 H3 σ3 → D'.bk σ3 H3) → (∀ r, P' (.rt r) → P r) → Wp ce E H0 (f x s) P' → ts D' σ2 H2)
    (after : ∀ s F1 H1 σ1, Ex F F1 → I s F1 H1 σ1 → Wp ce E H0 (k s) P → D.nx σ1 H1) : tFor wi g ts D σ H := by
  refine hi F H (Gr.rf G.fh) _ ?_
  cases m with
  | er c => exact fun H' e => q H' (G.hh.tr e)
  | bad => exact q
  | ok xs =>
    intro F2 H2 J g2 sq
    have q' : Wp ce E H0 (forM f k xs s0) P := q
    refine ⟨fun i m σ' H' => m = xs.length - i ∧ i ≤ xs.length ∧ ∃ s F', Ex F2 F' ∧ I s F' H' σ' ∧ Wp ce E H0 (forM f k (xs.drop i) s) P, ⟨xs.length, by omega, Nat.zero_le _, s0, F2, Ex.rf _, h0 F2 H2 g2, q'⟩, ?_⟩
    rintro i mm σ' H' ⟨rfl, hi', s, F', f2, I', q2⟩
    have G' := hG s F' H' σ' I'
    by_cases hlt : i < xs.length
    · obtain ⟨x, hx⟩ : ∃ x, xs[i]? = some x := ⟨xs[i], List.getElem?_eq_getElem hlt⟩
      have hd : xs.drop i = x :: xs.drop (i + 1) := by
        rw [List.drop_eq_getElem_cons hlt]
        rw [List.getElem?_eq_getElem hlt] at hx
        cases hx
        rfl
      rw [hd, forM_cons] at q2
      obtain ⟨go, yl⟩ := (sq i H' (f2.tr G'.fh)).1 x hx
      refine .inr ⟨go, fun σ' H' => ∃ s F', Ex F2 F' ∧ I s F' H' σ' ∧ Wp ce E H0 (forM f k (xs.drop (i + 1)) s) P, fun σ' H' h => ⟨xs.length - (i + 1), by omega, rfl, hlt, h⟩, fun v H3 hy => ?_⟩
      obtain ⟨F3, g3, r3⟩ := yl v H3 hy F' f2 G'.fh
      refine hg σ' F3 H3 v x g3.fh r3 _ fun σ2 hr => ?_
      refine turn x s F' H' σ' I' F3 H3 σ2 g3 hr _ (fun c => match c with
        | .nx s' => Wp ce E H0 (forM f k (xs.drop (i + 1)) s') P
        | .br s' => Wp ce E H0 (k s') P
        | .rt r => P r) rfl (fun s' p F4 H4 σ4 f4 I4 => ⟨s', F4, (f2.tr g3.ff).tr f4, I4, p⟩) (fun s' p F4 H4 σ4 f4 I4 => ⟨s', F4, (f2.tr g3.ff).tr f4, I4, p⟩)
        (fun s' p F4 H4 σ4 f4 I4 => after s' F4 H4 σ4 (g2.ff.tr ((f2.tr g3.ff).tr f4)) I4 p) (fun r p => p) ?_
      cases qf : f x s with
      | ok c =>
        rw [qf] at q2
        cases c with
        | nx s' => exact q2
        | br s' => exact q2
        | rt r => exact q2
      | er c => rw [qf] at q2; exact q2
      | bad => rw [qf] at q2; exact q2
    · have ei : i = xs.length := by omega
      rw [ei, List.drop_length] at q2
      exact .inl ⟨(sq i H' (f2.tr G'.fh)).2 (by omega), after s F' H' σ' (g2.ff.tr f2) I' q2⟩
theorem s_while {c : S → M Bool} {f : S → M (Ctl S τ)} {k : S → M τ} {s0 : S} {n : Nat} (I : S → Hp → Hp → L2.St → Prop) (h0 : I s0 F H σ) (hG : ∀ s F' H' σ', I s F' H' σ' → Gr F0 H0 F' H')
    (q : Wp ce E H0 (whM c f k n s0) P) (hc : ∀ s F1 H1 σ1, I s F1 H1 σ1 → EvT ce E tt σ1 F1 H1 (c s)) (hI : ∀ s F1 H1 F2 H2 σ1, I s F1 H1 σ1 → Gr F1 H1 F2 H2 → I s F2 H2 σ1)
    (turn : ∀ s F1 H1 σ1, I s F1 H1 σ1 → ∀ (D' : Ends) (P' : Ctl S τ → Prop), D'.rt = D.rt →
      (∀ s', P' (.nx s') → ∀ F3 H3 σ3, I s' F3 H3 σ3 → D'.nx σ3 H3) → (∀ s', P' (.nx s') → ∀ F3 H3 σ3, I s' F3 H3 σ3 → D'.ct σ3 H3) →
      (∀ s', P' (.br s') → ∀ F3 H3 σ3, I s' F3 H3 σ3 → D'.bk σ3 H3) → (∀ r, P' (.rt r) → P r) → Wp ce E H0 (f s) P' → ts D' σ1 H1)
    (after : ∀ s F1 H1 σ1, I s F1 H1 σ1 → Wp ce E H0 (k s) P → D.nx σ1 H1) : tWhile tt ts D σ H := by
  refine ⟨fun m σ' H' => ∃ s F', I s F' H' σ' ∧ Wp ce E H0 (whM c f k m s) P, ⟨n, s0, F, h0, q⟩, ?_⟩
  rintro m σ' H' ⟨s, F', I', q'⟩
  have G' := hG s F' H' σ' I'
  cases m with
  | zero => exact False.elim q'
  | succ m =>
    unfold whM at q'
    refine (hc s F' H' σ' I').go G' q' fun b F1 H1 g w => ?_
    have I1 := hI s F' H' F1 H1 σ' I' g
    cases b with
    | false => exact after s F1 H1 σ' I1 w
    | true =>
      refine ⟨fun σ' H' => ∃ s F', I s F' H' σ' ∧ Wp ce E H0 (whM c f k m s) P, fun σ' H' h => ⟨m, Nat.lt_succ_self m, h⟩, ?_⟩
      refine turn s F1 H1 σ' I1 _ (fun c' => match c' with
        | .nx s' => Wp ce E H0 (whM c f k m s') P
        | .br s' => Wp ce E H0 (k s') P
        | .rt r => P r) rfl (fun s' p F4 H4 σ4 I4 => ⟨s', F4, I4, p⟩) (fun s' p F4 H4 σ4 I4 => ⟨s', F4, I4, p⟩) (fun s' p F4 H4 σ4 I4 => after s' F4 H4 σ4 I4 p) (fun r p => p) ?_
      have w' : Wp ce E H0 ((f s).bind fun z => match z with
        | .nx s' => whM c f k m s'
        | .br s' => k s'
        | .rt r => .ok r) P := w
      cases qf : f s with
      | ok z =>
        rw [qf] at w'
        cases z with
        | nx s' => exact w'
        | br s' => exact w'
        | rt r => exact w'
      | er c => rw [qf] at w'; exact w'
      | bad => rw [qf] at w'; exact w'
end
/-! ### defs -/
def SpF (ce : Ce) {α ρ : Type} (R : Hp → List V → α → Prop) (md : Md ρ) (f : α → M ρ) : Sp := fun vs H Q E => ∃ F x, Ex F H ∧ R F vs x ∧ Post ce md (f x) F H Q E
theorem spa {ce : Ce} {α ρ : Type} {R : Hp → List V → α → Prop} {md : Md ρ} {f : α → M ρ} (x : α) : SpA ce R (SpF ce R md f) md x (f x) := fun F1 H1 vs e r Q E q => ⟨F1, x, e, r, q⟩
end Mw

set_option Elab.async false
set_option linter.all false
set_option maxRecDepth 100000
set_option maxHeartbeats 2000000
/-! Mw, part F: calls of defs that raise nothing, isinstance, what else the printed walks use. -/
namespace Mw
open PySem L2
open Rep (rp)
@[simp] theorem bind_assoc {α β γ : Type} (m : M α) (f : α → M β) (g : β → M γ) : (m.bind f).bind g = m.bind fun x => (f x).bind g := by cases m <;> rfl
theorem wp_bind {τ α : Type} {ce : Ce} {E : XK} {H0 : Hp} {m : M α} {k : α → M τ} {P : τ → Prop} (h : Wp ce E H0 (m.bind k) P) : Wp ce E H0 m (fun x => Wp ce E H0 (k x) P) := by
  cases m with
  | ok x => exact h
  | er c => exact h
  | bad => exact h
/-- a def that raises nothing -/
def SpF0 (ce : Ce) {α ρ : Type} (R : Hp → List V → α → Prop) (md : Md ρ) (f : α → M ρ) : Sp := fun vs H Q _ => ∃ F x, Ex F H ∧ R F vs x ∧ Post ce md (f x) F H Q E0
theorem post_ne {ρ : Type} {ce : Ce} {md : Md ρ} {m : M ρ} {F H : Hp} {Q : VK} {E E' : XK} (h : Post ce md m.ne F H Q E) : Post ce md m F H Q E' := by
  cases m with
  | ok r => exact h
  | er c => exact h.elim
  | bad => exact h
section
variable {ρ α β γ δ W τ : Type} [Rep α] [Rep β] [Rep γ] [Rep δ] {ce : Ce} {E : XK} {K : PySem.W.Frag} {σ : L2.St} {F H F' H' F0 H0 : Hp} {te ta tb tc td : TE} {tt tu : TT} {md : Md ρ} {m : M ρ} {D : Ends} {ts tw : TS} {P : τ → Prop}
theorem e_call0 [MdMo md] {ta : TA} {x : α} {R : Hp → List V → α → Prop} {f : α → M ρ} (ha : EvAM ce E ta σ F H (.ok x) R) : Ev ce E (tCall (SpF0 ce R md f) [] E0 ta) σ F H md (f x).ne := fun F1 H1 g1 Q q =>
  ha F1 H1 g1 _ fun F2 H2 vs g2 r2 => by
    show SpF0 ce R md f (vs ++ []) H2 Q E0
    rw [List.append_nil]
    exact ⟨F2, x, g2.fh, r2, post_ne (Post.mo g2 q)⟩
theorem em_call0 [MdMo md] {ta : TA} {m1 : M α} {R : Hp → List V → α → Prop} {f : α → M ρ} (ha : EvAM ce E ta σ F H m1 R) : Ev ce E (tCall (SpF0 ce R md f) [] E0 ta) σ F H md (m1.bind fun x => (f x).ne) := fun F1 H1 g1 Q q => by
  refine ha F1 H1 g1 _ ?_
  cases m1 with
  | ok x =>
    intro F2 H2 vs g2 r2
    show SpF0 ce R md f (vs ++ []) H2 Q E0
    rw [List.append_nil]
    exact ⟨F2, x, g2.fh, r2, post_ne (Post.mo g2 q)⟩
  | er c => exact q
  | bad => exact q
theorem e_callX [MdMo md] {ta : TA} {x : α} {R : Hp → List V → α → Prop} {f : α → M ρ} (ha : EvAM ce E ta σ F H (.ok x) R) : Ev ce E (tCall (SpF ce R md f) [] E ta) σ F H md (f x) := e_call ha (spa x)
theorem em_callX [MdMo md] {ta : TA} {m1 : M α} {R : Hp → List V → α → Prop} {f : α → M ρ} (ha : EvAM ce E ta σ F H m1 R) : Ev ce E (tCall (SpF ce R md f) [] E ta) σ F H md (m1.bind fun x => f x) := em_call ha fun x => spa x
theorem e_some [NN α] {x : α} (h : Ev ce E te σ F H (rv K) (.ok x)) : Ev ce E te σ F H (rv K) (.ok (some x)) := em_some (m := .ok x) h
theorem e_neg' {x : Int} (ha : Ev ce E ta σ F H (rv K) (.ok x)) : Ev ce E (tUn (rU fun i => .int (-i)) ta) σ F H (rv K) (.ok (-x)) := e_neg ha
theorem em_neg {m1 : M Int} (ha : Ev ce E ta σ F H (rv K) m1) : Ev ce E (tUn (rU fun i => .int (-i)) ta) σ F H (rv K) (m1.bind fun x => .ok (-x)) := em_un ha fun x => o_neg
/-- x < y < z, plain -/
theorem e_chain {r r' : R2} {x : α} {y : β} {z : γ} {b b' : Bool} (ha : Ev ce E ta σ F H (rv K) (.ok x)) (hb : Ev ce E tb σ F H (rv K) (.ok y)) (hc : Ev ce E tc σ F H (rv K) (.ok z))
    (h : Op2 ce E K r (rv K) x y (.ok b)) (h' : Op2 ce E K r' (rv K) y z (.ok b')) : Ev ce E (tChain r r' ta tb tc) σ F H (rv K) (.ok (b && b')) := fun F1 H1 g1 Q q => by
  refine ha F1 H1 g1 _ fun F2 H2 vx g2 rx => hb F2 H2 (g1.tr g2) _ fun F3 H3 vy g3 ry => ?_
  refine h F3 H3 vx vy g3.fh (Rep.mo g3.ff rx) ry _ fun F4 H4 v4 g4 r4 => ⟨b, r4, ?_⟩
  cases b with
  | true => exact hc F4 H4 (((g1.tr g2).tr g3).tr g4) _ fun F5 H5 vz g5 rz => h' F5 H5 vy vz g5.fh (Rep.mo (g4.ff.tr g5.ff) ry) rz Q (Post.mo (m := .ok b') (((g2.tr g3).tr g4).tr g5) q)
  | false => exact q F4 H4 _ ((g2.tr g3).tr g4) rfl
theorem e_if {b : Bool} {x y : ρ} [MdMo md] (h : EvT ce E tt σ F H (.ok b)) (ha : Ev ce E ta σ F H md (.ok x)) (hb : Ev ce E tb σ F H md (.ok y)) : Ev ce E (tIf tt ta tb) σ F H md (.ok (if b then x else y)) := fun F1 H1 g1 Q q => by
  refine h F1 H1 g1 _ fun F2 H2 g2 => ?_
  cases b with
  | true => exact ha F2 H2 (g1.tr g2) _ (Post.mo (m := .ok x) g2 q)
  | false => exact hb F2 H2 (g1.tr g2) _ (Post.mo (m := .ok y) g2 q)
theorem e_tup2 {x : α} {y : β} (ha : Ev ce E ta σ F H (rv K) (.ok x)) (hb : Ev ce E tb σ F H (rv K) (.ok y)) : Ev ce E (tTup (tCons ta (tCons tb tNil))) σ F H (rv K) (.ok (x, y)) := em_tup2 (m1 := .ok x) (m2 := .ok y) ha hb
theorem e_tup3 {x : α} {y : β} {z : γ} (ha : Ev ce E ta σ F H (rv K) (.ok x)) (hb : Ev ce E tb σ F H (rv K) (.ok y)) (hc : Ev ce E tc σ F H (rv K) (.ok z)) : Ev ce E (tTup (tCons ta (tCons tb (tCons tc tNil)))) σ F H (rv K) (.ok (T3.mk x y z)) := em_tup3 (m1 := .ok x) (m2 := .ok y) (m3 := .ok z) ha hb hc
theorem e_lcons {tr : TA} {x : α} {y : List α} (ha : Ev ce E ta σ F H (rv K) (.ok x)) (hr : EvL ce E K tr σ F H (.ok y)) : EvL ce E K (tCons ta tr) σ F H (.ok (x :: y)) := el_cons (m1 := .ok x) (m2 := .ok y) ha hr
theorem e_lst {ta : TA} {x : List α} (ha : EvL ce E K ta σ F H (.ok x)) (hs : x.length ≤ 1000) : Ev ce E (tLst ta) σ F H (rn K) (.ok x) := em_lst ha fun y e => by cases e; exact hs
/-- a written list whose items are reckoned: its length is looked at -/
theorem em_lst' {ta : TA} {m : M (List α)} (ha : EvL ce E K ta σ F H m) : Ev ce E (tLst ta) σ F H (rn K) (m.bind fun x => chk (x.length ≤ 1000) x) := fun F1 H1 g1 Q q => by
  cases m with
  | ok x =>
    have q' : Post ce (rn K) (chk (x.length ≤ 1000) x) F1 H1 Q E := q
    unfold chk at q'
    by_cases hx : x.length ≤ 1000
    · rw [if_pos hx] at q'
      exact em_lst ha (fun y e => by cases e; exact hx) F1 H1 g1 Q q'
    · rw [if_neg hx] at q'
      exact q'.elim
  | er c => exact em_lst ha (fun y e => nomatch e) F1 H1 g1 Q q
  | bad => exact q.elim
theorem em_rev' {x : List α} (ha : Ev ce E ta σ F H (rv K) (.ok x)) : Ev ce E (tRevL K ta) σ F H (rn K) (.ok x.reverse) := em_rev (m1 := .ok x) ha
theorem e_sl {tl th : TO} {x : List α} {lo hi : Option Int} (ha : Ev ce E ta σ F H (rv K) (.ok x)) (hl : EvO ce E tl σ F H (.ok lo)) (hh : EvO ce E th σ F H (.ok hi)) : Ev ce E (tSl (rSlL K) ta tl th) σ F H (rn K) (.ok (cut x lo hi)) := em_sl (m1 := .ok x) (m2 := .ok lo) (m3 := .ok hi) ha hl hh
theorem e_slS {tl th : TO} {x : Scr} {lo hi : Option Int} (ha : Ev ce E ta σ F H (rv K) (.ok x)) (hl : EvO ce E tl σ F H (.ok lo)) (hh : EvO ce E th σ F H (.ok hi)) : Ev ce E (tSl (rSlL K) ta tl th) σ F H (rn K) (.ok (cut x.l lo hi)) := em_slS (m2 := .ok lo) (m3 := .ok hi) ha hl hh
/-! ### isinstance -/
class Ty (α : Type) [Rep α] where
  nm : String
  ty : ∀ {K : PySem.W.Frag} {F H : Hp} {v : V} {x : α}, Ex F H → rp K F v x → TyX K H v (.type nm)
instance : Ty Int := ⟨"int", fun {K F H v x} _ h => by cases h; exact .base (.int x)⟩
instance : Ty Bool := ⟨"bool", fun {K F H v x} _ h => by cases h; exact .base (.bl x)⟩
instance : Ty Str := ⟨"str", fun {K F H v x} _ h => by cases h; exact .base (.str x)⟩
instance : Ty Unit := ⟨"NoneType", fun {K F H v x} _ h => by cases h; exact .base .non⟩
instance : Ty (List α) := ⟨"list", fun {K F H v x} e ⟨a, vs, h1, h2, h3⟩ => by subst h1; exact .base (.lst (e _ _ h2))⟩
theorem tyx_tup {a : Addr} {xs : List V} (e : Ex F H) (h : SqT K F a xs) : TyX K H (.ref a) (.type "tuple") := by
  rcases h with (h | ⟨o, h⟩) | ⟨o, its, n, hk, hc, _⟩
  · exact .base (.tup (e _ _ h))
  · exact .fTuple (e _ _ h)
  · exact .kTuple hk hc
instance : Ty (α × β) := ⟨"tuple", fun {K F H v x} e ⟨a, u, w, h1, h2, _⟩ => by subst h1; exact tyx_tup e h2⟩
instance : Ty (T3 α β γ) := ⟨"tuple", fun {K F H v x} e ⟨a, u, w, z, h1, h2, _⟩ => by subst h1; exact tyx_tup e h2⟩
instance : Ty (T4 α β γ δ) := ⟨"tuple", fun {K F H v x} e ⟨a, u, w, z, y, h1, h2, _⟩ => by subst h1; exact tyx_tup e h2⟩
theorem e_isi [Ty α] {x : α} {n : String} {b : Bool} (ha : Ev ce E ta σ F H (rv K) (.ok x)) (hb : PySem.W.kitOne K (.type (Ty.nm α)) (.type n) = some b) : Ev ce E (tCB (rIsi K) (tCons ta (tCons (tC (.ty n)) tNil))) σ F H (rv K) (.ok b) := fun F1 H1 g1 Q q =>
  ha F1 H1 g1 _ fun F2 H2 v g2 r => ⟨v, .ty n, _, _, b, rfl, .ty n, Ty.ty g2.fh r, hb, q F2 H2 _ g2 rfl⟩
/-- isinstance(x, T) where x may be None -/
theorem e_isiO [Ty α] {x : Option α} {n : String} {b : Bool} (ha : Ev ce E ta σ F H (rv K) (.ok x)) (hn : PySem.W.kitOne K (.type "NoneType") (.type n) = some false) (hb : PySem.W.kitOne K (.type (Ty.nm α)) (.type n) = some b) :
    Ev ce E (tCB (rIsi K) (tCons ta (tCons (tC (.ty n)) tNil))) σ F H (rv K) (.ok (x.isSome && b)) := fun F1 H1 g1 Q q =>
  ha F1 H1 g1 _ fun F2 H2 v g2 r => by
    cases x with
    | none => cases r; exact ⟨_, .ty n, _, _, false, rfl, .ty n, .base .non, hn, q F2 H2 _ g2 rfl⟩
    | some y => exact ⟨v, .ty n, _, _, b, rfl, .ty n, Ty.ty g2.fh r.1, hb, q F2 H2 _ g2 rfl⟩
theorem em_isi [Ty α] {m : M α} {n : String} {b : Bool} (ha : Ev ce E ta σ F H (rv K) m) (hb : PySem.W.kitOne K (.type (Ty.nm α)) (.type n) = some b) : Ev ce E (tCB (rIsi K) (tCons ta (tCons (tC (.ty n)) tNil))) σ F H (rv K) (m.bind fun _ => .ok b) := fun F1 H1 g1 Q q => by
  refine ha F1 H1 g1 _ ?_
  cases m with
  | ok x => exact fun F2 H2 v g2 r => ⟨v, .ty n, _, _, b, rfl, .ty n, Ty.ty g2.fh r, hb, q F2 H2 _ g2 rfl⟩
  | er c => exact q
  | bad => exact q
theorem em_isiO [Ty α] {m : M (Option α)} {n : String} {b : Bool} (ha : Ev ce E ta σ F H (rv K) m) (hn : PySem.W.kitOne K (.type "NoneType") (.type n) = some false) (hb : PySem.W.kitOne K (.type (Ty.nm α)) (.type n) = some b) :
    Ev ce E (tCB (rIsi K) (tCons ta (tCons (tC (.ty n)) tNil))) σ F H (rv K) (m.bind fun x => .ok (x.isSome && b)) := fun F1 H1 g1 Q q => by
  refine ha F1 H1 g1 _ ?_
  cases m with
  | ok x =>
    intro F2 H2 v g2 r
    cases x with
    | none => cases r; exact ⟨_, .ty n, _, _, false, rfl, .ty n, .base .non, hn, q F2 H2 _ g2 rfl⟩
    | some y => exact ⟨v, .ty n, _, _, b, rfl, .ty n, Ty.ty g2.fh r.1, hb, q F2 H2 _ g2 rfl⟩
  | er c => exact q
  | bad => exact q
/-! ### ifs -/
theorem s_if2 {m1 : M Bool} {k1 k2 : M τ} (G : Gr F0 H0 F H) (q : Wp ce E H0 (m1.bind fun b => if b then k1 else k2) P) (h : EvT ce E tt σ F H m1)
    (h1 : ∀ F1 H1, Gr F H F1 H1 → Wp ce E H0 k1 P → ts D σ H1) (h2 : ∀ F1 H1, Gr F H F1 H1 → Wp ce E H0 k2 P → tw D σ H1) : tIfS tt ts tw D σ H := s_if G q h h1 h2
theorem s_if2A (A : List Addr) {m1 : M Bool} {k1 k2 : M τ} (G : Gr F0 H0 F H) (q : Wp ce E H0 (m1.bind fun b => if b then k1 else k2) P) (hF : ∀ p ∈ A, F p = none) (hA : ∀ p ∈ A, ∃ o, H p = some o ∧ NoTup o)
    (h : EvT ce E tt σ (fz F H A) H m1) (h1 : ∀ F1 H1, Gr F H F1 H1 → Wp ce E H0 k1 P → ts D σ H1) (h2 : ∀ F1 H1, Gr F H F1 H1 → Wp ce E H0 k2 P → tw D σ H1) : tIfS tt ts tw D σ H := s_ifA A G q hF hA h h1 h2
theorem s_join {t : TS} {m1 : M W} {k : W → M τ} (J : W → Hp → Hp → L2.St → Prop) (q : Wp ce E H0 (m1.bind k) P)
    (h1 : ∀ w F1 H1 σ1, J w F1 H1 σ1 → Wp ce E H0 (k w) P → D.nx σ1 H1)
    (h2 : ∀ (P' : W → Prop), (∀ w, P' w → ∀ F1 H1 σ1, J w F1 H1 σ1 → D.nx σ1 H1) → Wp ce E H0 m1 P' → t D σ H) : t D σ H :=
  h2 (fun w => Wp ce E H0 (k w) P) (fun w p F1 H1 σ1 j => h1 w F1 H1 σ1 j p) (wp_bind q)
theorem own1 {Pp : Addr → Prop} {p : Addr} (h : Pp p) : ∀ q ∈ [p], Pp q := fun q m => by rw [List.mem_singleton.mp m]; exact h
theorem own2 {Pp : Addr → Prop} {p p' : Addr} (h : Pp p) (h' : Pp p') : ∀ q ∈ [p, p'], Pp q := fun q m => by
  rcases List.mem_cons.mp m with rfl | m
  · exact h
  · rw [List.mem_singleton.mp m]; exact h'
theorem own3 {Pp : Addr → Prop} {p p' p'' : Addr} (h : Pp p) (h' : Pp p') (h'' : Pp p'') : ∀ q ∈ [p, p', p''], Pp q := fun q m => by
  rcases List.mem_cons.mp m with rfl | m
  · exact h
  · exact own2 h' h'' q m
variable {T : Type} [Rep T] [Obj T]
theorem Own.ls {p : Addr} {x : T} (o : Own K F H p x) : ∃ o, H p = some o ∧ NoTup o := let ⟨⟨u, h, h2⟩, _⟩ := o; ⟨u, h, Obj.nt h2⟩
/-- a list of one's own from now on stays as it is -/
theorem own_fix {p : Addr} {x : T} (G : Gr F0 H0 F H) (o : Own K F H p x) (n0 : H0 p = none) : ∃ F', Gr F0 H0 F' H ∧ Ex F F' ∧ rp K F' (.ref p) x ∧ ∀ q, q ≠ p → F' q = F q := by
  obtain ⟨⟨u, h1, h2⟩, h3⟩ := o
  refine ⟨upd F p u, ⟨G.ff.tr (Ex.nw h3), fun a w e => ?_, G.hh, fun b a1 a2 => ?_⟩, Ex.nw h3, Obj.rep upd_same (Obj.mo (Ex.nw h3) h2), fun q hq => upd_ne hq⟩
  · by_cases z : a = p
    · subst z; rw [upd_same] at e; rw [h1]; exact e
    · rw [upd_ne z] at e; exact G.fh a w e
  · have : b ≠ p := fun z => by subst z; exact a2 n0
    rw [upd_ne this]; exact G.nw b a1 a2
/-- x += e -/
theorem s_aug {i : Nat} {v : V} {a : Int} {f : Int → Int → Int} {m1 : M Int} {k : Int → M τ} (hv : σ[i]? = some (some v)) (r : rp K F v a) (G : Gr F0 H0 F H) (q : Wp ce E H0 (m1.bind fun y => k (f a y)) P) (h : Ev ce E te σ F H (rv K) m1)
    (c : ∀ x F1 H1 v, Gr F H F1 H1 → rp K F1 v x → Wp ce E H0 (k x) P → D.nx (σ.set i (some v)) H1) : tAug i te (ipI f) D σ H := by
  cases r
  exact ⟨.int a, hv, h.go G q fun x F1 H1 v g r w => by cases r; exact ⟨a, x, rfl, rfl, c (f a x) F1 H1 _ g rfl w⟩⟩
end
end Mw
namespace Mw
open PySem L2
/-- an error class of one's own over ValueError, as the top has written it -/
structure ErrC (K : PySem.W.Frag) (mg : Str → Option Value) (C : Addr) (nm : Str) : Prop where
  g : mg nm = some (.ref C)
  x : PySem.W.excIn K C [.type "ValueError", .type "Exception", .type "BaseException", .type "object"] "ValueError.__new__" = true
  k : PySem.W.keepIn K (.ref C) = true
  b : PySem.W.subIn K (.ref C) (.type "BaseException") = some true
  t : PySem.W.typeIn K (.ref C) = some (.type "type")
section
variable {ρ α β γ δ W τ : Type} [Rep α] [Rep β] [Rep γ] [Rep δ] {ce : Ce} {E : XK} {K : PySem.W.Frag} {σ : L2.St} {F H F' H' F0 H0 : Hp} {te ta tb tc td : TE} {tt tu : TT} {md : Md ρ} {m : M ρ} {D : Ends} {ts tw : TS} {P : τ → Prop}
theorem t_yes : EvT ce E tYes σ F H (.ok true) := fun F1 H1 g Q q => q F1 H1 (Gr.rf g.fh)
/-- one plain operand's place, of a reckoned thing -/
theorem em_ix {r : R2} {m1 : M α} {y : β} {g : α → γ} (ha : Ev ce E ta σ F H (rv K) m1) (hb : Ev ce E tb σ F H (rv K) (.ok y)) (hr : ∀ x, Op2 ce E K r (rv K) x y (.ok (g x))) : Ev ce E (tOp r ta tb) σ F H (rv K) (m1.bind fun x => .ok (g x)) := fun F1 H1 g1 Q q => by
  refine ha F1 H1 g1 _ ?_
  cases m1 with
  | ok x => exact fun F2 H2 vx g2 rx => hb F2 H2 (g1.tr g2) _ fun F3 H3 vy g3 ry => hr x F3 H3 vx vy g3.fh (Rep.mo g3.ff rx) ry Q (Post.mo (m := .ok (g x)) (g2.tr g3) q)
  | er c => exact q
  | bad => exact q
theorem em_cb1 [MdMo md] {ta : TA} {r : List V → Hp → VK → Prop} {x : α} {R : Hp → List V → α → Prop} {m : M ρ} (ha : EvAM ce E ta σ F H (.ok x) R) (hr : OpA ce E R r md x m) : Ev ce E (tCB r ta) σ F H md m := fun F1 H1 g1 Q q =>
  ha F1 H1 g1 _ fun F2 H2 vs g2 r2 => hr F2 H2 vs g2.fh r2 Q (Post.mo g2 q)
/-- a, b = e -/
theorem s_asgT {g : TG} {R : L2.St → Hp → L2.St → α → Prop} (hg : Tg K g R) {m1 : M α} {k : α → M τ} (G : Gr F0 H0 F H) (q : Wp ce E H0 (m1.bind k) P) (h : Ev ce E te σ F H (rv K) m1)
    (c : ∀ x F1 H1 σ1, Gr F H F1 H1 → R σ F1 σ1 x → Wp ce E H0 (k x) P → D.nx σ1 H1) : tAsg te g D σ H := h.go G q fun x F1 H1 v g r w => hg σ F1 H1 v x g.fh r _ fun σ2 hr => c x F1 H1 σ2 g hr w
/-- x = a new list, where e reads lists of one's own -/
theorem s_asgNA (A : List Addr) {i : Nat} {m1 : M (List α)} {k : List α → M τ} [Flat α] (G : Gr F0 H0 F H) (q : Wp ce E H0 (m1.bind k) P) (hF : ∀ p ∈ A, F p = none) (hA : ∀ p ∈ A, ∃ o, H p = some o ∧ NoTup o) (h0 : ∀ p ∈ A, H0 p = none)
    (h : Ev ce E te σ (fz F H A) H (rn K) m1) (c : ∀ x F1 H1 p, Gr F H F1 H1 → H p = none → Own K F1 H1 p x → Wp ce E H0 (k x) P → D.nx (σ.set i (some (.ref p))) H1) : tAsg te (gName i) D σ H := by
  refine h _ H (Gr.rf (fz_h G.fh)) _ ?_
  have hA' : ∀ p ∈ A, H p ≠ none := fun p m => by obtain ⟨o, e, _⟩ := hA p m; rw [e]; exact fun z => nomatch z
  cases m1 with
  | ok x =>
    rintro F1 H1 v g ⟨p, vs, rfl, h1, h2, h3, h4⟩
    refine c x (th F1 A) H1 p (gr_th hF hA' G.fh g) h1 (own_new ?_ h3 (paired_fl (th_of hA g) h4)) q
    · unfold th
      split
      · rfl
      · exact h2
  | er cc => exact fun H' e => q H' (G.hh.tr e)
  | bad => exact q
theorem Own.other {T : Type} [Rep T] [Obj T] {q : Addr} {x : T} (o : Own K F H q x) (e : Ex F F') (h : F' q = F q) : Own K F' H q x := by
  obtain ⟨⟨u, h1, h2⟩, h3⟩ := o
  exact ⟨⟨u, h1, Obj.mo e h2⟩, by rw [h]; exact h3⟩
end
end Mw
/-! ### the same with a rest -/
namespace Mw
open PySem L2
open Rep (rp)
section
variable {ρ α β γ δ S W τ : Type} [Rep α] [Rep β] [Rep γ] [Rep δ] {ce : Ce} {E : XK} {K : PySem.W.Frag} {σ : L2.St} {F H F' H' F0 H0 : Hp} {te ta tb tc td : TE} {tt tu : TT} {md : Md ρ} {m : M ρ} {D : Ends} {ts tw : TS} {g : TG} {wi : TI} {P : τ → Prop}
theorem s_next (h : D.nx σ H) : tNext D σ H := h
theorem s_nx {X : L2.St → Hp → Prop} {R : VK} {B C : L2.St → Hp → Prop} (h : X σ H) : (Ends.mk X R B C).nx σ H := h
theorem q_asg {t2 : TS} {i : Nat} {m1 : M α} {k : α → M τ} (G : Gr F0 H0 F H) (q : Wp ce E H0 (m1.bind k) P) (h : Ev ce E te σ F H (rv K) m1)
    (c : ∀ x F1 H1 v, Gr F H F1 H1 → rp K F1 v x → Wp ce E H0 (k x) P → t2 D (σ.set i (some v)) H1) : tSeq (tAsg te (gName i)) t2 D σ H := s_asg (D := { D with nx := t2 D }) G q h c
theorem q_asgN {t2 : TS} {i : Nat} {m1 : M (List α)} {k : List α → M τ} (G : Gr F0 H0 F H) (q : Wp ce E H0 (m1.bind k) P) (h : Ev ce E te σ F H (rn K) m1)
    (c : ∀ x F1 H1 p, Gr F H F1 H1 → H p = none → Own K F1 H1 p x → Wp ce E H0 (k x) P → t2 D (σ.set i (some (.ref p))) H1) : tSeq (tAsg te (gName i)) t2 D σ H := s_asgN (D := { D with nx := t2 D }) G q h c
theorem q_asgA {t2 : TS} (A : List Addr) {i : Nat} {m1 : M α} {k : α → M τ} [Flat α] (G : Gr F0 H0 F H) (q : Wp ce E H0 (m1.bind k) P) (hF : ∀ p ∈ A, F p = none) (hA : ∀ p ∈ A, ∃ o, H p = some o ∧ NoTup o) (h0 : ∀ p ∈ A, H0 p = none)
    (h : Ev ce E te σ (fz F H A) H (rv K) m1) (c : ∀ x F1 H1 v, Gr F H F1 H1 → rp K F1 v x → Wp ce E H0 (k x) P → t2 D (σ.set i (some v)) H1) : tSeq (tAsg te (gName i)) t2 D σ H := s_asgA (D := { D with nx := t2 D }) A G q hF hA h0 h c
theorem q_drop {t2 : TS} {m1 : M α} {k : α → M τ} (G : Gr F0 H0 F H) (q : Wp ce E H0 (m1.bind k) P) (h : Ev ce E te σ F H (rv K) m1)
    (c : ∀ x F1 H1, Gr F H F1 H1 → Wp ce E H0 (k x) P → t2 D σ H1) : tSeq (tDrop te) t2 D σ H := s_drop (D := { D with nx := t2 D }) G q h c
theorem q_app {t2 : TS} {i : Nat} {p : Addr} {xs : List α} {m1 : M α} {k : List α → M τ} (hp : σ[i]? = some (some (.ref p))) (o : Own K F H p xs) (n0 : H0 p = none) (G : Gr F0 H0 F H)
    (q : Wp ce E H0 (m1.bind fun x => (appM xs x).bind k) P) (h : Ev ce E te σ F H (rv K) m1)
    (c : ∀ ys F1 H1, Ex F F1 → Gr F0 H0 F1 H1 → Own K F1 H1 p ys → (∀ (T : Type) [Rep T] [Obj T] (q : Addr) (z : T), q ≠ p → Own K F H q z → Own K F1 H1 q z) → Wp ce E H0 (k ys) P → t2 D σ H1) : tSeq (tDrop (tBM K "list" rAppend (tVar i) (tCons te tNil))) t2 D σ H := s_app (D := { D with nx := t2 D }) hp o n0 G q h c
theorem q_appA {t2 : TS} (A : List Addr) {i : Nat} {p : Addr} {xs : List α} {m1 : M α} {k : List α → M τ} [Flat α] (hp : σ[i]? = some (some (.ref p))) (o : Own K F H p xs) (n0 : H0 p = none) (G : Gr F0 H0 F H)
    (q : Wp ce E H0 (m1.bind fun x => (appM xs x).bind k) P) (hF : ∀ p ∈ A, F p = none) (hA : ∀ p ∈ A, ∃ o, H p = some o ∧ NoTup o) (h : Ev ce E te σ (fz F H A) H (rv K) m1)
    (c : ∀ ys F1 H1, Ex F F1 → Gr F0 H0 F1 H1 → Own K F1 H1 p ys → (∀ (T : Type) [Rep T] [Obj T] (q : Addr) (z : T), q ≠ p → Own K F H q z → Own K F1 H1 q z) → Wp ce E H0 (k ys) P → t2 D σ H1) : tSeq (tDrop (tBM K "list" rAppend (tVar i) (tCons te tNil))) t2 D σ H := s_appA (D := { D with nx := t2 D }) A hp o n0 G q hF hA h c
theorem q_for {t2 : TS} {f : α → S → M (Ctl S τ)} {k : S → M τ} {s0 : S} {m : M (List α)} {R : L2.St → Hp → L2.St → α → Prop} (I : S → Hp → Hp → L2.St → Prop) (G : Gr F0 H0 F H) (hi : EvI ce E K wi σ F H m) (hg : Tg K g R)
    (q : Wp ce E H0 (m.bind fun xs => forM f k xs s0) P) (h0 : ∀ F1 H1, Gr F H F1 H1 → I s0 F1 H1 σ) (hG : ∀ s F' H' σ', I s F' H' σ' → Gr F0 H0 F' H')
    (turn : ∀ x s F1 H1 σ1, I s F1 H1 σ1 → ∀ F2 H2 σ2, Gr F1 H1 F2 H2 → R σ1 F2 σ2 x → ∀ (D' : Ends) (P' : Ctl S τ → Prop), D'.rt = D.rt →
      (∀ s', P' (.nx s') → ∀ F3 H3 σ3, Ex F2 F3 → I s' F3 H3 σ3 → D'.nx σ3 H3) → (∀ s', P' (.nx s') → ∀ F3 H3 σ3, Ex F2 F3 → I s' F3 H3 σ3 → D'.ct σ3 H3) →
      (∀ s', P' (.br s') → ∀ F3 H3 σ3, Ex F2 F3 → I s' F3 H3 σ3 → D'.bk σ3 H3) → (∀ r, P' (.rt r) → P r) → Wp ce E H0 (f x s) P' → ts D' σ2 H2)
    (after : ∀ s F1 H1 σ1, Ex F F1 → I s F1 H1 σ1 → Wp ce E H0 (k s) P → t2 D σ1 H1) : tSeq (tFor wi g ts) t2 D σ H := s_for (D := { D with nx := t2 D }) I G hi hg q h0 hG turn after
theorem q_while {t2 : TS} {c : S → M Bool} {f : S → M (Ctl S τ)} {k : S → M τ} {s0 : S} {n : Nat} (I : S → Hp → Hp → L2.St → Prop) (h0 : I s0 F H σ) (hG : ∀ s F' H' σ', I s F' H' σ' → Gr F0 H0 F' H')
    (q : Wp ce E H0 (whM c f k n s0) P) (hc : ∀ s F1 H1 σ1, I s F1 H1 σ1 → EvT ce E tt σ1 F1 H1 (c s)) (hI : ∀ s F1 H1 F2 H2 σ1, I s F1 H1 σ1 → Gr F1 H1 F2 H2 → I s F2 H2 σ1)
    (turn : ∀ s F1 H1 σ1, I s F1 H1 σ1 → ∀ (D' : Ends) (P' : Ctl S τ → Prop), D'.rt = D.rt →
      (∀ s', P' (.nx s') → ∀ F3 H3 σ3, I s' F3 H3 σ3 → D'.nx σ3 H3) → (∀ s', P' (.nx s') → ∀ F3 H3 σ3, I s' F3 H3 σ3 → D'.ct σ3 H3) →
      (∀ s', P' (.br s') → ∀ F3 H3 σ3, I s' F3 H3 σ3 → D'.bk σ3 H3) → (∀ r, P' (.rt r) → P r) → Wp ce E H0 (f s) P' → ts D' σ1 H1)
    (after : ∀ s F1 H1 σ1, I s F1 H1 σ1 → Wp ce E H0 (k s) P → t2 D σ1 H1) : tSeq (tWhile tt ts) t2 D σ H := s_while (D := { D with nx := t2 D }) I h0 hG q hc hI turn after
theorem q_asgNA {t2 : TS} (A : List Addr) {i : Nat} {m1 : M (List α)} {k : List α → M τ} [Flat α] (G : Gr F0 H0 F H) (q : Wp ce E H0 (m1.bind k) P) (hF : ∀ p ∈ A, F p = none) (hA : ∀ p ∈ A, ∃ o, H p = some o ∧ NoTup o) (h0 : ∀ p ∈ A, H0 p = none)
    (h : Ev ce E te σ (fz F H A) H (rn K) m1) (c : ∀ x F1 H1 p, Gr F H F1 H1 → H p = none → Own K F1 H1 p x → Wp ce E H0 (k x) P → t2 D (σ.set i (some (.ref p))) H1) : tSeq (tAsg te (gName i)) t2 D σ H := s_asgNA (D := { D with nx := t2 D }) A G q hF hA h0 h c
theorem q_asgT {t2 : TS} {g : TG} {R : L2.St → Hp → L2.St → α → Prop} (hg : Tg K g R) {m1 : M α} {k : α → M τ} (G : Gr F0 H0 F H) (q : Wp ce E H0 (m1.bind k) P) (h : Ev ce E te σ F H (rv K) m1)
    (c : ∀ x F1 H1 σ1, Gr F H F1 H1 → R σ F1 σ1 x → Wp ce E H0 (k x) P → t2 D σ1 H1) : tSeq (tAsg te g) t2 D σ H := s_asgT (D := { D with nx := t2 D }) hg G q h c
theorem q_if2 {t2 : TS} {m1 : M Bool} {k1 k2 : M τ} (G : Gr F0 H0 F H) (q : Wp ce E H0 (m1.bind fun b => if b then k1 else k2) P) (h : EvT ce E tt σ F H m1)
    (h1 : ∀ F1 H1, Gr F H F1 H1 → Wp ce E H0 k1 P → ts { D with nx := t2 D } σ H1) (h2 : ∀ F1 H1, Gr F H F1 H1 → Wp ce E H0 k2 P → tw { D with nx := t2 D } σ H1) : tSeq (tIfS tt ts tw) t2 D σ H := s_if2 (D := { D with nx := t2 D }) G q h h1 h2
theorem q_if2A {t2 : TS} (A : List Addr) {m1 : M Bool} {k1 k2 : M τ} (G : Gr F0 H0 F H) (q : Wp ce E H0 (m1.bind fun b => if b then k1 else k2) P) (hF : ∀ p ∈ A, F p = none) (hA : ∀ p ∈ A, ∃ o, H p = some o ∧ NoTup o)
    (h : EvT ce E tt σ (fz F H A) H m1) (h1 : ∀ F1 H1, Gr F H F1 H1 → Wp ce E H0 k1 P → ts { D with nx := t2 D } σ H1) (h2 : ∀ F1 H1, Gr F H F1 H1 → Wp ce E H0 k2 P → tw { D with nx := t2 D } σ H1) : tSeq (tIfS tt ts tw) t2 D σ H := s_if2A (D := { D with nx := t2 D }) A G q hF hA h h1 h2
theorem q_aug {t2 : TS} {i : Nat} {v : V} {a : Int} {f : Int → Int → Int} {m1 : M Int} {k : Int → M τ} (hv : σ[i]? = some (some v)) (r : rp K F v a) (G : Gr F0 H0 F H) (q : Wp ce E H0 (m1.bind fun y => k (f a y)) P) (h : Ev ce E te σ F H (rv K) m1)
    (c : ∀ x F1 H1 v, Gr F H F1 H1 → rp K F1 v x → Wp ce E H0 (k x) P → t2 D (σ.set i (some v)) H1) : tSeq (tAug i te (ipI f)) t2 D σ H := s_aug (D := { D with nx := t2 D }) hv r G q h c
theorem q_join {t2 : TS} {t : TS} {m1 : M W} {k : W → M τ} (J : W → Hp → Hp → L2.St → Prop) (q : Wp ce E H0 (m1.bind k) P)
    (h1 : ∀ w F1 H1 σ1, J w F1 H1 σ1 → Wp ce E H0 (k w) P → t2 D σ1 H1)
    (h2 : ∀ (P' : W → Prop), (∀ w, P' w → ∀ F1 H1 σ1, J w F1 H1 σ1 → t2 D σ1 H1) → Wp ce E H0 m1 P' → t { D with nx := t2 D } σ H) : tSeq (t) t2 D σ H := s_join (D := { D with nx := t2 D }) J q h1 h2
end
end Mw

set_option Elab.async false
set_option linter.all false
set_option maxRecDepth 100000
set_option maxHeartbeats 2000000
/-! Mw, part G: plain laws that serve several mirrors. -/
namespace Mw
open PySem L2
theorem chk_pos {α : Type} {c : Prop} (h : c) (x : α) : chk c x = .ok x := if_pos h
theorem mulM_ok {x y : Int} (hx : x.natAbs < 2 ^ 10000) (hy : y.natAbs < 2 ^ 10000) : mulM x y = .ok (x * y) := chk_pos (wide_mul hx hy (by decide) (by decide) (by decide)) _
theorem modM_ok {x y : Int} (h : 0 < y) : modM x y = .ok (x % y) := chk_pos h _
theorem fdivM_ok {x y : Int} (h : 0 < y) (hy : y.natAbs < 2 ^ 8000) : fdivM x y = .ok (x / y) := chk_pos (wide_div h hy (by decide) (by decide)) _
theorem fdivZ_ok {x y : Int} (h : y ≠ 0) (hy : y.natAbs < 2 ^ 8000) : fdivZ x y = .ok (x.fdiv y) := chk_pos ⟨h, Nat.lt_of_lt_of_le (PySem.Flt.log2_lt_of (by decide) hy) (by decide)⟩ _
theorem ixM_of {α : Type} [Rep α] {xs : List α} {i : Nat} {x : α} (h : xs[i]? = some x) : ixM xs (i : Int) = .ok x := by
  unfold ixM
  rw [atI_nat h]
theorem catM_ok {α : Type} {xs ys : List α} (h : xs.length + ys.length ≤ 16000000) : catM xs ys = .ok (xs ++ ys) := chk_pos h _
theorem appM_ok {α : Type} {xs : List α} {x : α} (h : xs.length < 16000000) : appM xs x = .ok (xs ++ [x]) := chk_pos h _
theorem rng1M_ok {n : Int} (h : -(2 ^ 62) ≤ n ∧ n < 2 ^ 62) : rng1M n = .ok (rng 0 n) := by
  unfold rng1M
  exact chk_pos h _
theorem lcM_ok {α β : Type} (c : α → Bool) (e : α → β) {xs : List α} (h : xs.length ≤ 16000000) : lcM (fun x => .ok (c x)) (fun x => .ok (e x)) xs = .ok ((xs.filter c).map e) := by
  unfold lcM
  rw [if_pos h, compM_ok]
theorem lcM_all {α β : Type} (e : α → β) {xs : List α} (h : xs.length ≤ 16000000) : lcM (fun _ => .ok true) (fun x => .ok (e x)) xs = .ok (xs.map e) := by
  unfold lcM
  rw [if_pos h, compM_all]
theorem lcM_congr {α β : Type} {c c' : α → M Bool} {e e' : α → M β} {xs : List α} (h1 : ∀ x ∈ xs, c x = c' x) (h2 : ∀ x ∈ xs, c x = .ok true → e x = e' x) : lcM c e xs = lcM c' e' xs := by
  unfold lcM
  rw [compM_congr h1 h2]
/-- a loop without a state that only looks -/
theorem forM_all {α τ : Type} {f : α → Unit → M (Ctl Unit τ)} {k : Unit → M τ} : ∀ {xs : List α}, (∀ x ∈ xs, f x () = .ok (.nx ())) → forM f k xs () = k ()
  | [], _ => rfl
  | x :: r, h => by
    rw [forM_cons, h x List.mem_cons_self]
    exact forM_all fun y hy => h y (List.mem_cons_of_mem _ hy)
/-- a loop that always goes on -/
theorem forM_fold {α S τ : Type} {f : α → S → M (Ctl S τ)} {k : S → M τ} {g : S → α → S} (I : S → Prop) : ∀ {xs : List α} {s : S}, I s → (∀ x ∈ xs, ∀ s, I s → f x s = .ok (.nx (g s x)) ∧ I (g s x)) → forM f k xs s = k (xs.foldl g s)
  | [], _, _, _ => rfl
  | x :: r, s, hs, h => by
    rw [forM_cons, (h x List.mem_cons_self s hs).1]
    exact forM_fold I (h x List.mem_cons_self s hs).2 fun y hy => h y (List.mem_cons_of_mem _ hy)
theorem gcd_step (a b : Int) (ha : 0 ≤ a) (hb : 0 ≤ b) : Int.gcd b (a % b) = Int.gcd a b := by
  obtain ⟨m, rfl⟩ := Int.eq_ofNat_of_zero_le ha
  obtain ⟨k, rfl⟩ := Int.eq_ofNat_of_zero_le hb
  show Nat.gcd k (m % k) = Nat.gcd m k
  rw [Nat.gcd_comm m k, Nat.gcd_rec k m, Nat.gcd_comm]
/-- a loop that always goes on: what is told of what it has met -/
theorem forM_ex {α S τ : Type} {f : α → S → M (Ctl S τ)} {k : S → M τ} (J : List α → S → Prop) : ∀ (xs pre : List α) (s : S), J pre s →
    (∀ p x s, (p ++ [x]) <+: (pre ++ xs) → J p s → ∃ s', f x s = .ok (.nx s') ∧ J (p ++ [x]) s') → ∃ s', J (pre ++ xs) s' ∧ forM f k xs s = k s'
  | [], pre, s, h, _ => ⟨s, by rw [List.append_nil]; exact h, rfl⟩
  | x :: r, pre, s, h, hs => by
    have e0 : pre ++ x :: r = (pre ++ [x]) ++ r := by simp
    obtain ⟨s', e1, h1⟩ := hs pre x s (by rw [e0]; exact List.prefix_append _ _) h
    obtain ⟨s2, h2, e2⟩ := forM_ex (k := k) J r (pre ++ [x]) s' h1 (by rw [← e0]; exact hs)
    rw [e0]
    exact ⟨s2, h2, by rw [forM_cons, e1]; exact e2⟩
theorem pre_mem {α : Type} {p xs : List α} {x : α} (h : (p ++ [x]) <+: xs) : x ∈ xs := h.subset (List.mem_append_right p (List.mem_singleton.mpr rfl))
theorem pre_len {α : Type} {p xs : List α} {x : α} (h : (p ++ [x]) <+: xs) : p.length < xs.length := by
  have := h.length_le
  simp at this
  omega
theorem cut_sub {α : Type} {xs : List α} {lo hi : Option Int} {x : α} (h : x ∈ cut xs lo hi) : x ∈ xs := List.mem_of_mem_drop (List.mem_of_mem_take h)
theorem cut_len {α : Type} (xs : List α) (lo hi : Option Int) : (cut xs lo hi).length ≤ xs.length := by
  unfold cut
  rw [List.length_take, List.length_drop]
  omega
theorem six_nat {n d : Nat} {i : Nat} (h : i ≤ n) : HT.sIx n d (some (i : Int)) = i := by
  unfold HT.sIx
  dsimp only
  split <;> omega
theorem cut_take {α : Type} (xs : List α) {i : Nat} (h : i ≤ xs.length) : cut xs none (some (i : Int)) = xs.take i := by
  unfold cut
  rw [six_nat h]
  rfl
theorem cut_drop {α : Type} (xs : List α) {i : Nat} (h : i ≤ xs.length) : cut xs (some (i : Int)) none = xs.drop i := by
  unfold cut
  rw [six_nat h]
  show (xs.drop i).take (xs.length - i) = _
  rw [List.take_of_length_le (by rw [List.length_drop]; omega)]
theorem compM_ex {α β : Type} {e : α → M β} {Q : α → β → Prop} : ∀ {xs : List α}, (∀ x ∈ xs, ∃ v, e x = .ok v ∧ Q x v) → ∃ ys, compM (fun _ => .ok true) e xs = .ok ys ∧ ys.length = xs.length ∧ ∀ y ∈ ys, ∃ x ∈ xs, Q x y
  | [], _ => ⟨[], rfl, rfl, fun _ z => nomatch z⟩
  | x :: r, h => by
    obtain ⟨v, ev, hv⟩ := h x List.mem_cons_self
    obtain ⟨ys, e1, e2, e3⟩ := compM_ex fun y hy => h y (List.mem_cons_of_mem x hy)
    refine ⟨v :: ys, ?_, by simp [e2], fun y hy => ?_⟩
    · unfold compM
      rw [ev, e1]
      rfl
    · rcases List.mem_cons.mp hy with z | z
      · exact ⟨x, List.mem_cons_self, z ▸ hv⟩
      · obtain ⟨w, hw, q⟩ := e3 y z
        exact ⟨w, List.mem_cons_of_mem _ hw, q⟩
theorem lcM_ex {α β : Type} {e : α → M β} {Q : α → β → Prop} {xs : List α} (hl : xs.length ≤ 16000000) (h : ∀ x ∈ xs, ∃ v, e x = .ok v ∧ Q x v) : ∃ ys, lcM (fun _ => .ok true) e xs = .ok ys ∧ ys.length = xs.length ∧ ∀ y ∈ ys, ∃ x ∈ xs, Q x y := by
  unfold lcM
  rw [if_pos hl]
  exact compM_ex h
theorem rng_pre {p : List Int} {x : Int} {n : Nat} (h : (p ++ [x]) <+: rng 0 (n : Int)) : x = (p.length : Int) ∧ p.length < n := by
  have hl := pre_len h
  have e : (rng 0 (n : Int)).length = n := by unfold rng; simp
  rw [e] at hl
  refine ⟨?_, hl⟩
  obtain ⟨t, ht⟩ := h
  have h2 : (rng 0 (n : Int))[p.length]? = some x := by rw [← ht]; simp
  unfold rng at h2
  rw [List.getElem?_map] at h2
  obtain ⟨j, hj, e2⟩ := Option.map_eq_some_iff.mp h2
  have hj2 : p.length < (List.range ((n : Int) - 0).toNat).length := (List.getElem?_eq_some_iff.mp hj).1
  rw [List.getElem?_range (by simpa using hl)] at hj
  cases hj
  rw [← e2]
  omega
theorem ixM_last {α : Type} [Rep α] (k : List α) (m : α) : ixM (k ++ [m]) (-1) = .ok m := by
  unfold ixM
  have : atI (k ++ [m]) (-1) = some m := by
    have e : ixN (k ++ [m]).length (-1) = some k.length := by
      unfold ixN
      rw [if_neg (by decide), List.length_append, List.length_singleton]
      rw [if_pos (by omega)]
      congr 1
      omega
    unfold atI
    rw [e]
    simp
  rw [this]
end Mw

set_option Elab.async false
set_option linter.all false
set_option maxRecDepth 100000
set_option maxHeartbeats 2000000
/-! Mw, part H: dicts whose keys are whole numbers. -/
namespace Mw
open PySem L2
open Rep (rp)
structure Dc (α : Type) where
  kvs : List (Int × α)
def dlook {α : Type} (k : Int) (d : List (Int × α)) : Option α := (d.find? fun p => decide (p.1 = k)).map (·.2)
def dput {α : Type} (d : List (Int × α)) (k : Int) (x : α) : List (Int × α) := if (d.any fun p => decide (p.1 = k)) = true then d.map (fun p => if p.1 = k then (p.1, x) else p) else d ++ [(k, x)]
def dmerge {α : Type} (d more : List (Int × α)) : List (Int × α) := more.foldl (fun a p => dput a p.1 p.2) d
abbrev DRel (K : PySem.W.Frag) {α : Type} [Rep α] (H : Hp) : List (Key × V) → List (Int × α) → Prop := Paired fun q p => q.1 = Sum.inl p.1 ∧ rp K H q.2 p.2
theorem drel_mo {K : PySem.W.Frag} {α : Type} [Rep α] {H H' : Hp} (e : Ex H H') : ∀ {vs : List (Key × V)} {d : List (Int × α)}, DRel K H vs d → DRel K H' vs d
  | _, _, .nil => .nil
  | _, _, .cons h t => .cons ⟨h.1, Rep.mo e h.2⟩ (drel_mo e t)
instance {α : Type} [Rep α] : Rep (Dc α) := ⟨fun K H v x => ∃ a vs, v = .ref a ∧ H a = some (.dK vs) ∧ DRel K H vs x.kvs, fun e ⟨a, vs, h1, h2, h3⟩ => ⟨a, vs, h1, e _ _ h2, drel_mo e h3⟩⟩
instance {α : Type} [Rep α] : Obj (Dc α) where
  ho := fun K H o x => ∃ vs, o = .dK vs ∧ DRel K H vs x.kvs
  mo := fun e ⟨vs, h1, h2⟩ => ⟨vs, h1, drel_mo e h2⟩
  rep := fun {K H p o x} e ⟨vs, h1, h2⟩ => by subst h1; exact ⟨p, vs, rfl, e, h2⟩
  nt := fun {K H o x} ⟨vs, h1, _⟩ => by subst h1; exact ⟨(fun _ z => nomatch z), (fun _ _ z => nomatch z)⟩
section
variable {K : PySem.W.Frag} {α : Type} [Rep α] {H : Hp}
theorem key_dec {q : Key × V} {p : Int × α} (h : q.1 = Sum.inl p.1) (k : Int) : decide (q.1 = Sum.inl k) = decide (p.1 = k) := by
  rw [h, key_ll, Bool.eq_iff_iff]
  simp
theorem drel_any (k : Int) : ∀ {vs : List (Key × V)} {d : List (Int × α)}, DRel K H vs d → (vs.any fun q => decide (q.1 = Sum.inl k)) = d.any fun p => decide (p.1 = k)
  | _, _, .nil => rfl
  | _, _, .cons h t => by
    rw [List.any_cons, List.any_cons, drel_any k t, key_dec h.1]
theorem drel_look (k : Int) : ∀ {vs : List (Key × V)} {d : List (Int × α)}, DRel K H vs d → (∀ x, dlook k d = some x → ∃ v, valV vs (Sum.inl k) = some v ∧ rp K H v x) ∧ (dlook k d = none → valV vs (Sum.inl k) = none)
  | _, _, .nil => ⟨(fun x e => nomatch e), (fun _ => rfl)⟩
  | _, _, .cons (a := q) (b := p) (l₁ := vs) (l₂ := d) h t => by
    by_cases e : p.1 = k
    · have e1 : q.1 = Sum.inl k := by rw [h.1, e]
      have e2 : dlook k (p :: d) = some p.2 := by unfold dlook; rw [List.find?_cons, decide_eq_true e] <;> rfl
      rw [e2, valV_pos e1]
      exact ⟨fun x z => ⟨q.2, rfl, by cases z; exact h.2⟩, fun z => nomatch z⟩
    · have e1 : ¬ q.1 = Sum.inl k := by rw [h.1]; exact fun z => e (Sum.inl.inj z)
      have e2 : dlook k (p :: d) = dlook k d := by unfold dlook; rw [List.find?_cons, decide_eq_false e]
      rw [e2, valV_neg e1]
      exact drel_look k t
theorem drel_map {k : Int} {v : V} {x : α} (r : rp K H v x) : ∀ {vs : List (Key × V)} {d : List (Int × α)}, DRel K H vs d → DRel K H (vs.map fun q => if q.1 = Sum.inl k then (q.1, v) else q) (d.map fun p => if p.1 = k then (p.1, x) else p)
  | _, _, .nil => .nil
  | _, _, .cons (a := q) (b := p) h t => by
    refine .cons ?_ (drel_map r t)
    by_cases e : p.1 = k
    · have e1 : q.1 = Sum.inl k := by rw [h.1, e]
      dsimp only
      rw [if_pos e, if_pos e1]
      exact ⟨h.1, r⟩
    · have e1 : ¬ q.1 = Sum.inl k := by rw [h.1]; exact fun z => e (Sum.inl.inj z)
      dsimp only
      rw [if_neg e, if_neg e1]
      exact h
theorem drel_put {k : Int} {v : V} {x : α} {vs : List (Key × V)} {d : List (Int × α)} (h : DRel K H vs d) (r : rp K H v x) : DRel K H (putK vs (Sum.inl k) v) (dput d k x) := by
  unfold putK dput
  rw [drel_any k h]
  split
  · exact drel_map r h
  · exact paired_app h (.cons ⟨rfl, r⟩ .nil)
theorem drel_merge : ∀ {ws : List (Key × V)} {e : List (Int × α)} {vs : List (Key × V)} {d : List (Int × α)}, DRel K H ws e → DRel K H vs d → DRel K H (mergeK vs ws) (dmerge d e)
  | _, _, _, _, .nil, h => h
  | _, _, _, _, .cons (a := q) (b := p) g t, h => by
    show DRel K H (mergeK (putK _ q.1 q.2) _) (dmerge (dput _ p.1 p.2) _)
    rw [g.1]
    exact drel_merge t (drel_put h g.2)
theorem drel_len {vs : List (Key × V)} {d : List (Int × α)} (h : DRel K H vs d) : vs.length = d.length := Paired.length h
theorem drel_keys : ∀ {vs : List (Key × V)} {d : List (Int × α)}, DRel K H vs d → vs.map (·.1) = (d.map (·.1)).map Sum.inl
  | _, _, .nil => rfl
  | _, _, .cons h t => by rw [List.map_cons, List.map_cons, List.map_cons, drel_keys t, h.1]
theorem drel_keyV : ∀ {vs : List (Key × V)} {d : List (Int × α)}, DRel K H vs d → (vs.map fun q => kV q.1) = (d.map (·.1)).map V.int
  | _, _, .nil => rfl
  | _, _, .cons h t => by rw [List.map_cons, List.map_cons, List.map_cons, drel_keyV t, h.1] <;> rfl
theorem pairs_split : ∀ {vs : List V} {xs : List (Int × α)}, Paired (rp K H) vs xs → ∃ ps ws, vs = ps.map V.ref ∧ Paired (fun p kv => SqT K H p [kV kv.1, kv.2]) ps ws ∧ DRel K H ws xs
  | _, _, .nil => ⟨[], [], rfl, .nil, .nil⟩
  | _, _, .cons (b := x) ⟨a, u, w, h1, h2, h3, h4⟩ t => by
    obtain ⟨ps, ws, e, p, d⟩ := pairs_split t
    cases h3
    subst h1 e
    exact ⟨a :: ps, (Sum.inl x.1, w) :: ws, rfl, .cons h2 p, .cons ⟨rfl, h4⟩ d⟩
end
/-- a new object of one's own -/
def ro (K : PySem.W.Frag) {T : Type} [Rep T] [Obj T] : Md T := fun _ H F' H' v r => ∃ p, v = .ref p ∧ H p = none ∧ Own K F' H' p r
instance {K : PySem.W.Frag} {T : Type} [Rep T] [Obj T] : MdMo (ro K (T := T)) := ⟨fun g ⟨p, h1, h2, h3⟩ => ⟨p, h1, ex_back g.hh h2, h3⟩⟩
section
variable {ρ α β γ δ S W τ T : Type} [Rep α] [Rep β] [Rep γ] [Rep δ] [Rep T] [Obj T] {ce : Ce} {E : XK} {K : PySem.W.Frag} {σ : L2.St} {F H F' H' F0 H0 : Hp} {te ta tb tc td ty tx : TE} {tt tu : TT} {md : Md ρ} {m : M ρ} {D : Ends} {ts tw : TS} {g : TG} {wi : TI} {P : τ → Prop}
/-- a new object may be leant on -/
theorem Ev.ov {m : M T} (h : Ev ce E te σ F H (ro K) m) : Ev ce E te σ F H (rv K) m := by
  intro F1 H1 g Q q
  refine h F1 H1 g Q ?_
  cases m with
  | ok x =>
    rintro F2 H2 v g2 ⟨p, rfl, h1, ⟨u, h3, h4⟩, h2⟩
    refine q (upd F2 p u) H2 (.ref p) ⟨g2.ff.tr (Ex.nw h2), ?_, g2.hh, fun b a1 a2 => ?_⟩ (Obj.rep upd_same (Obj.mo (Ex.nw h2) h4))
    · intro a w e
      by_cases z : a = p
      · subst z; rw [upd_same] at e; rw [h3]; exact e
      · rw [upd_ne z] at e; exact g2.fh a w e
    · have : b ≠ p := fun z => by subst z; exact a2 h1
      rw [upd_ne this]; exact g2.nw b a1 a2
  | er c => exact q
  | bad => exact q
/-- x = a new object of one's own -/
theorem s_asgO {i : Nat} {m1 : M T} {k : T → M τ} (G : Gr F0 H0 F H) (q : Wp ce E H0 (m1.bind k) P) (h : Ev ce E te σ F H (ro K) m1)
    (c : ∀ x F1 H1 p, Gr F H F1 H1 → H p = none → Own K F1 H1 p x → Wp ce E H0 (k x) P → D.nx (σ.set i (some (.ref p))) H1) : tAsg te (gName i) D σ H := by
  refine h F H (Gr.rf G.fh) _ ?_
  cases m1 with
  | ok x =>
    rintro F1 H1 v g ⟨p, rfl, h1, o⟩
    exact c x F1 H1 p g h1 o q
  | er cc => exact fun H' e => q H' (G.hh.tr e)
  | bad => exact q
theorem em_dnew : Ev ce E tDNewK σ F H (ro K) (.ok (⟨[]⟩ : Dc α)) := fun F1 H1 g1 Q q p np =>
  q F1 _ _ (Gr.own g1.fh np) ⟨p, rfl, np, ⟨_, upd_same, [], rfl, .nil⟩, ex_back g1.fh np⟩
theorem a_dictP {xs : List (Int × α)} : OpA ce E (RC K R0) (fun xs H Q => ∃ (a : Addr) (ps : List Addr) (kvs : List (Key × V)), xs = [.ref a] ∧ SqL K H a (ps.map V.ref) ∧ Paired (fun p kv => SqT K H p [kV kv.1, kv.2]) ps kvs ∧
    ∀ p, H p = none → Q (.ref p) (upd H p (.dK (mergeK [] kvs)))) (ro K) (xs, ()) (.ok (⟨dmerge [] xs⟩ : Dc α)) := fun F1 H1 vs e ⟨v, r, e1, ⟨a, us, h1, h2, h3⟩, e3⟩ Q q => by
  cases e3
  subst e1 h1
  obtain ⟨ps, ws, rfl, hp, hd⟩ := pairs_split h3
  refine ⟨a, ps, ws, rfl, SqL.of (e _ _ h2), Paired.mapP hp fun p kv h => ex_t e h, fun p np => ?_⟩
  exact q F1 _ _ (Gr.own e np) ⟨p, rfl, np, ⟨_, upd_same, _, rfl, drel_merge hd .nil⟩, ex_back e np⟩
theorem a_dictD {d : Dc α} : OpA ce E (RC K R0) (fun xs H Q => ∃ (a : Addr) (kvs : List (Key × V)), xs = [.ref a] ∧ Rd H a (.dK kvs) ∧ ∀ p, H p = none → Q (.ref p) (upd H p (.dK kvs))) (ro K) (d, ()) (.ok d) := fun F1 H1 vs e ⟨v, r, e1, ⟨a, us, h1, h2, h3⟩, e3⟩ Q q => by
  cases e3
  subst e1 h1
  exact ⟨a, us, rfl, .inl (e _ _ h2), fun p np => q F1 _ _ (Gr.own e np) ⟨p, rfl, np, ⟨_, upd_same, _, rfl, h3⟩, ex_back e np⟩⟩
theorem a_listD {d : Dc α} : OpA ce E (RC K R0) (fun xs H Q => ∃ (a : Addr) (kvs : List (Key × V)), xs = [.ref a] ∧ Rd H a (.dK kvs) ∧ ∀ p, H p = none → Q (.ref p) (upd H p (.lst (kvs.map fun kv => kV kv.1)))) (rn K) (d, ()) (.ok (d.kvs.map (·.1))) := fun F1 H1 vs e ⟨v, r, e1, ⟨a, us, h1, h2, h3⟩, e3⟩ Q q => by
  cases e3
  subst e1 h1
  refine ⟨a, us, rfl, .inl (e _ _ h2), fun p np => ?_⟩
  rw [drel_keyV h3]
  exact q F1 _ _ (Gr.own e np) ⟨p, _, rfl, np, ex_back e np, upd_same, rep_int _⟩
noncomputable def sortDM {α : Type} (d : Dc α) : M (List Int) := chk (d.kvs.length < 64) (sortI (d.kvs.map (·.1)))
theorem a_sortedD {d : Dc α} : OpA ce E (RC K R0) (fun xs H Q => ∃ (a : Addr) (kvs : List (Key × V)) (ks : List Int), xs = [.ref a] ∧ Rd H a (.dK kvs) ∧ kvs.map (·.1) = ks.map Sum.inl ∧ ks.length < 64 ∧
    ∀ (ys : List Int) (p : Addr), ys.Perm ks → ys.Pairwise (· ≤ ·) → H p = none → Q (.ref p) (upd H p (.lst (ys.map V.int)))) (rn K) (d, ()) (sortDM d) := fun F1 H1 vs e ⟨v, r, e1, ⟨a, us, h1, h2, h3⟩, e3⟩ Q q => by
  cases e3
  subst e1 h1
  unfold sortDM chk at q
  split at q
  · rename_i hl
    refine ⟨a, us, d.kvs.map (·.1), rfl, .inl (e _ _ h2), drel_keys h3, by rw [List.length_map]; exact hl, fun ys p hp hs np => ?_⟩
    have : ys = sortI (d.kvs.map (·.1)) := sorted_same (hp.trans (sortI_perm _).symm) hs (sortI_sorted _)
    subst this
    exact q F1 _ _ (Gr.own e np) ⟨p, _, rfl, np, ex_back e np, upd_same, rep_int _⟩
  · exact q.elim
theorem a_lenD {d : Dc α} : OpA ce E (RC K R0) (fun xs H Q => ∃ a kvs, xs = [V.ref a] ∧ H a = some (.dK kvs) ∧ Q (.int kvs.length) H) (rv K) (d, ()) (.ok (d.kvs.length : Int)) := fun F1 H1 vs e ⟨v, r, e1, ⟨a, us, h1, h2, h3⟩, e3⟩ Q q => by
  cases e3
  subst e1 h1
  refine ⟨a, us, rfl, e _ _ h2, ?_⟩
  rw [drel_len h3]
  exact q F1 H1 _ (Gr.rf e) rfl
def dgetM {α : Type} (d : Dc α) (k : Int) : M α := match dlook k d.kvs with
  | some x => .ok x
  | none => .bad
/-- d[k] -/
theorem em_dget {m1 : M (Dc α)} {m2 : M Int} (ha : Ev ce E td σ F H (rv K) m1) (hb : Ev ce E ty σ F H (rv K) m2) : Ev ce E (tDGet td ty) σ F H (rv K) (m1.bind fun d => m2.bind fun k => dgetM d k) := fun F1 H1 g1 Q q => by
  refine ha F1 H1 g1 _ ?_
  cases m1 with
  | ok d =>
    rintro F2 H2 vx g2 ⟨a, vs, e1, e2, e3⟩
    refine hb F2 H2 (g1.tr g2) _ ?_
    cases m2 with
    | ok k =>
      rintro F3 H3 vk g3 rfl
      have q' : Post ce (rv K) (dgetM d k) F1 H1 Q E := q
      unfold dgetM at q'
      split at q'
      · rename_i x hx
        obtain ⟨v, hv, r⟩ := (drel_look k (drel_mo g3.ff e3)).1 x hx
        refine ⟨a, v, e1, ?_, q' F3 H3 v (g2.tr g3) r⟩
        have := DGet.k (k := Sum.inl k) (g3.hh _ _ (g2.fh _ _ e2))
        rw [hv] at this
        exact this
      · exact q'.elim
    | er c => exact fun H' e => q H' (g2.hh.tr e)
    | bad => exact q
  | er c => exact q
  | bad => exact q
/-- d.get(k, x) -/
theorem em_dget2 {m1 : M (Dc α)} {m2 : M Int} {m3 : M α} (ha : Ev ce E td σ F H (rv K) m1) (hb : Ev ce E ty σ F H (rv K) m2) (hc : Ev ce E tx σ F H (rv K) m3) :
    Ev ce E (tDGet2 td ty tx) σ F H (rv K) (m1.bind fun d => m2.bind fun k => m3.bind fun x => .ok ((dlook k d.kvs).getD x)) := fun F1 H1 g1 Q q => by
  refine ha F1 H1 g1 _ ?_
  cases m1 with
  | ok d =>
    rintro F2 H2 vx g2 ⟨a, vs, e1, e2, e3⟩
    refine ⟨a, e1, .inl ⟨vs, .inl (g2.fh _ _ e2)⟩, hb F2 H2 (g1.tr g2) _ ?_⟩
    cases m2 with
    | ok k =>
      rintro F3 H3 vk g3 rfl
      refine hc F3 H3 ((g1.tr g2).tr g3) _ ?_
      cases m3 with
      | ok x =>
        intro F4 H4 v4 g4 r4
        refine ⟨_, DGet.k (k := Sum.inl k) (g4.hh _ _ (g3.hh _ _ (g2.fh _ _ e2))), ?_⟩
        have hl := drel_look k (drel_mo (g3.ff.tr g4.ff) e3)
        cases hd : dlook k d.kvs with
        | some y =>
          obtain ⟨v, hv, r⟩ := hl.1 y hd
          rw [hv]
          refine q F4 H4 v ((g2.tr g3).tr g4) ?_
          rw [hd]
          exact r
        | none =>
          rw [hl.2 hd]
          refine q F4 H4 v4 ((g2.tr g3).tr g4) ?_
          rw [hd]
          exact r4
      | er c => exact fun H' e => q H' ((g2.tr g3).hh.tr e)
      | bad => exact q
    | er c => exact fun H' e => q H' (g2.hh.tr e)
    | bad => exact q
  | er c => exact q
  | bad => exact q
/-- k in d, k not in d -/
theorem em_din {m1 : M (Dc α)} {m2 : M Int} (hb : Ev ce E ty σ F H (rv K) m2) (ha : Ev ce E td σ F H (rv K) m1) : Ev ce E (tDIn ty td) σ F H (rv K) (m2.bind fun k => m1.bind fun d => .ok (dlook k d.kvs).isSome) := fun F1 H1 g1 Q q => by
  refine hb F1 H1 g1 _ ?_
  cases m2 with
  | ok k =>
    rintro F2 H2 vk g2 rfl
    refine ha F2 H2 (g1.tr g2) _ ?_
    cases m1 with
    | ok d =>
      rintro F3 H3 vx g3 ⟨a, vs, e1, e2, e3⟩
      refine ⟨a, _, e1, DGet.k (k := Sum.inl k) (g3.fh _ _ e2), ?_⟩
      have hl := drel_look k e3
      refine q F3 H3 _ (g2.tr g3) ?_
      show V.bl _ = V.bl _
      cases hd : dlook k d.kvs with
      | some y =>
        obtain ⟨v, hv, r⟩ := hl.1 y hd
        rw [hv] <;> rfl
      | none => rw [hl.2 hd] <;> rfl
    | er c => exact fun H' e => q H' (g2.hh.tr e)
    | bad => exact q
  | er c => exact q
  | bad => exact q
theorem em_dnotin {m1 : M (Dc α)} {m2 : M Int} (hb : Ev ce E ty σ F H (rv K) m2) (ha : Ev ce E td σ F H (rv K) m1) : Ev ce E (tDNotIn ty td) σ F H (rv K) (m2.bind fun k => m1.bind fun d => .ok (!(dlook k d.kvs).isSome)) := fun F1 H1 g1 Q q => by
  refine hb F1 H1 g1 _ ?_
  cases m2 with
  | ok k =>
    rintro F2 H2 vk g2 rfl
    refine ha F2 H2 (g1.tr g2) _ ?_
    cases m1 with
    | ok d =>
      rintro F3 H3 vx g3 ⟨a, vs, e1, e2, e3⟩
      refine ⟨a, _, e1, DGet.k (k := Sum.inl k) (g3.fh _ _ e2), ?_⟩
      have hl := drel_look k e3
      refine q F3 H3 _ (g2.tr g3) ?_
      show V.bl _ = V.bl _
      cases hd : dlook k d.kvs with
      | some y =>
        obtain ⟨v, hv, r⟩ := hl.1 y hd
        rw [hv] <;> rfl
      | none => rw [hl.2 hd] <;> rfl
    | er c => exact fun H' e => q H' (g2.hh.tr e)
    | bad => exact q
  | er c => exact q
  | bad => exact q
noncomputable def dputM {α : Type} (d : Dc α) (k : Int) (x : α) : M (Dc α) := chk (d.kvs.length < 16000000) ⟨dput d.kvs k x⟩
/-- d[k] = e: the value first, then the key; both may read what is one's own -/
theorem s_dput (A : List Addr) {i : Nat} {p : Addr} {d : Dc α} {m1 : M α} {m2 : M Int} {k : Dc α → M τ} [Flat α] (hp : σ[i]? = some (some (.ref p))) (o : Own K F H p d) (n0 : H0 p = none) (G : Gr F0 H0 F H)
    (q : Wp ce E H0 (m1.bind fun x => m2.bind fun y => (dputM d y x).bind k) P) (hF : ∀ p ∈ A, F p = none) (hA : ∀ p ∈ A, ∃ o, H p = some o ∧ NoTup o) (h : Ev ce E te σ (fz F H A) H (rv K) m1) (hk : Ev ce E ty σ (fz F H A) H (rv K) m2)
    (c : ∀ d' F1 H1, Ex F F1 → Gr F0 H0 F1 H1 → Own K F1 H1 p d' → (∀ (T : Type) [Rep T] [Obj T] (q : Addr) (z : T), q ≠ p → Own K F H q z → Own K F1 H1 q z) → Wp ce E H0 (k d') P → D.nx σ H1) :
    sDPut (tVar i) ty te D σ H := by
  obtain ⟨⟨u, h1, vs, h2, h3⟩, hf⟩ := o
  subst h2
  have hA' : ∀ p ∈ A, H p ≠ none := fun p m => by obtain ⟨o, e, _⟩ := hA p m; rw [e]; exact fun z => nomatch z
  refine h _ H (Gr.rf (fz_h G.fh)) _ ?_
  cases m1 with
  | ok x =>
    intro F1 H1 v g0 r0
    refine ⟨.ref p, hp, hk F1 H1 g0 _ ?_⟩
    have q2 : Wp ce E H0 (m2.bind fun y => (dputM d y x).bind k) P := q
    cases m2 with
    | ok y =>
      rintro F2 H2 vy g1 rfl
      have gg := g0.tr g1
      have g := gr_th hF hA' G.fh gg
      have r : rp K (th F2 A) v x := Flat.fl (th_of hA gg) (Rep.mo g1.ff r0)
      have w' : Wp ce E H0 ((dputM d y x).bind k) P := q2
      unfold dputM chk at w'
      split at w'
      · rename_i hl
        refine ⟨p, _, rfl, DPut.k (k := Sum.inl y) (g.hh _ _ h1) ?_, ?_⟩
        · rw [drel_len h3, sizeLine_eq]; omega
        · have hf1 : th F2 A p = none := g.nw p hf (by rw [h1]; exact fun z => nomatch z)
          exact c _ _ _ g.ff (Gr.mut (G.tr g) n0 hf1) ⟨⟨_, upd_same, _, rfl, drel_put (drel_mo g.ff h3) r⟩, hf1⟩ (fun T _ _ q z hq o => (o.mo g).upd hq) w'
      · exact w'.elim
    | er cc => exact fun H' e => q2 H' ((G.hh.tr g0.hh).tr e)
    | bad => exact q2
  | er cc => exact fun H' e => q H' (G.hh.tr e)
  | bad => exact q
theorem q_asgO {t2 : TS} {i : Nat} {m1 : M T} {k : T → M τ} (G : Gr F0 H0 F H) (q : Wp ce E H0 (m1.bind k) P) (h : Ev ce E te σ F H (ro K) m1)
    (c : ∀ x F1 H1 p, Gr F H F1 H1 → H p = none → Own K F1 H1 p x → Wp ce E H0 (k x) P → t2 D (σ.set i (some (.ref p))) H1) : tSeq (tAsg te (gName i)) t2 D σ H := s_asgO (D := { D with nx := t2 D }) G q h c
theorem q_dput {t2 : TS} (A : List Addr) {i : Nat} {p : Addr} {d : Dc α} {m1 : M α} {m2 : M Int} {k : Dc α → M τ} [Flat α] (hp : σ[i]? = some (some (.ref p))) (o : Own K F H p d) (n0 : H0 p = none) (G : Gr F0 H0 F H)
    (q : Wp ce E H0 (m1.bind fun x => m2.bind fun y => (dputM d y x).bind k) P) (hF : ∀ p ∈ A, F p = none) (hA : ∀ p ∈ A, ∃ o, H p = some o ∧ NoTup o) (h : Ev ce E te σ (fz F H A) H (rv K) m1) (hk : Ev ce E ty σ (fz F H A) H (rv K) m2)
    (c : ∀ d' F1 H1, Ex F F1 → Gr F0 H0 F1 H1 → Own K F1 H1 p d' → (∀ (T : Type) [Rep T] [Obj T] (q : Addr) (z : T), q ≠ p → Own K F H q z → Own K F1 H1 q z) → Wp ce E H0 (k d') P → t2 D σ H1) :
    tSeq (sDPut (tVar i) ty te) t2 D σ H := s_dput (D := { D with nx := t2 D }) A hp o n0 G q hF hA h hk c
end
end Mw

set_option Elab.async false
set_option linter.all false
set_option maxRecDepth 100000
set_option maxHeartbeats 2000000
/-! Mw, part I: enumerate, zip, reversed; try and what a suite asks of the error. -/
namespace Mw
open PySem L2
open Rep (rp)
abbrev ixS (x : Scr) (i : Int) : M Int := ixM x.l i
def enumL {α : Type} (xs : List α) : List (Int × α) := xs.zipIdx.map fun p => ((p.2 : Int), p.1)
theorem enumL_get {α : Type} (xs : List α) (i : Nat) (p : Int × α) (h : (enumL xs)[i]? = some p) : p.1 = (i : Int) ∧ xs[i]? = some p.2 := by
  unfold enumL at h
  rw [List.getElem?_map, List.getElem?_zipIdx] at h
  cases e : xs[i]? with
  | none => rw [e] at h; cases h
  | some x =>
    rw [e] at h
    cases h
    exact ⟨by simp, rfl⟩
theorem enumL_len {α : Type} (xs : List α) : (enumL xs).length = xs.length := by unfold enumL; simp
theorem zip_get {α β : Type} (xs : List α) (ys : List β) (i : Nat) (p : α × β) (h : (xs.zip ys)[i]? = some p) : xs[i]? = some p.1 ∧ ys[i]? = some p.2 := by
  rw [List.getElem?_zip_eq_some] at h
  exact h
section
variable {ρ α β γ δ S τ : Type} [Rep α] [Rep β] [Rep γ] [Rep δ] {ce : Ce} {E : XK} {K : PySem.W.Frag} {σ : L2.St} {F H F' H' F0 H0 : Hp} {te ta tb tc td : TE} {tt tu : TT} {md : Md ρ} {m : M ρ} {D : Ends} {ts tw : TS} {g : TG} {wi : TI} {P : τ → Prop}
theorem ei_enum {m : M (List α)} (h : Ev ce E te σ F H (rv K) m) : EvI ce E K (iEnum K (tCons te tNil)) σ F H (m.bind fun x => .ok (enumL x)) := fun F1 H1 g1 R q => by
  refine h F1 H1 g1 _ ?_
  cases m with
  | ok xs =>
    rintro F2 H2 v g2 ⟨a, vs, rfl, h2, h3⟩
    refine ⟨a, vs, rfl, SqL.of (g2.fh _ _ h2), q F2 H2 _ g2 fun i H e => ?_⟩
    have hl := Paired.length h3
    refine ⟨fun x hx => ?_, fun hi => ⟨vs, SqL.of (e _ _ h2), by rw [enumL_len] at hi; omega⟩⟩
    obtain ⟨e1, e2⟩ := enumL_get xs i x hx
    obtain ⟨w, hw, rw'⟩ := paired_get h3 e2
    refine ⟨⟨vs, w, SqL.of (e _ _ h2), hw⟩, fun v H' ⟨T, y, ev, nT, eH, hy⟩ F1' f1 f2 => ?_⟩
    have : some w = some y := hw.symm.trans (hy vs (SqL.of (e _ _ h2)))
    cases this
    subst ev eH
    refine ⟨_, Gr.new f2 nT, T, .int (i : Nat), w, rfl, SqT.of upd_same, ?_, Rep.mo (f1.tr (Ex.nw (ex_back f2 nT))) rw'⟩
    show V.int _ = V.int _
    rw [e1]
  | er c => exact q
  | bad => exact q
theorem ei_zip {m : M (List α)} {m2 : M (List β)} (h : Ev ce E ta σ F H (rv K) m) (h' : Ev ce E tb σ F H (rv K) m2) : EvI ce E K (iZip K (tCons ta (tCons tb tNil))) σ F H (m.bind fun x => m2.bind fun y => .ok (x.zip y)) := fun F1 H1 g1 R q => by
  refine h F1 H1 g1 _ ?_
  cases m with
  | ok xs =>
    rintro F2 H2 v g2 ⟨a, vs, rfl, h2, h3⟩
    refine h' F2 H2 (g1.tr g2) _ ?_
    cases m2 with
    | ok ys =>
      rintro F3 H3 v g3 ⟨b, ws, rfl, k2, k3⟩
      have h2' := g3.ff _ _ h2
      refine ⟨a, b, vs, ws, rfl, SqL.of (g3.fh _ _ h2'), SqL.of (g3.fh _ _ k2), q F3 H3 _ (g2.tr g3) fun i H e => ?_⟩
      have hl := Paired.length h3
      have hl2 := Paired.length k3
      refine ⟨fun x hx => ?_, fun hi => ⟨vs, ws, SqL.of (e _ _ h2'), SqL.of (e _ _ k2), by rw [List.length_zip] at hi; omega⟩⟩
      obtain ⟨e1, e2⟩ := zip_get xs ys i x hx
      obtain ⟨w1, hw1, r1⟩ := paired_get h3 e1
      obtain ⟨w2, hw2, r2⟩ := paired_get k3 e2
      refine ⟨⟨vs, ws, w1, w2, SqL.of (e _ _ h2'), SqL.of (e _ _ k2), hw1, hw2⟩, fun v H' ⟨T, y1, y2, ev, nT, eH, hy1, hy2⟩ F1' f1 f2 => ?_⟩
      have z1 : some w1 = some y1 := hw1.symm.trans (hy1 vs (SqL.of (e _ _ h2')))
      have z2 : some w2 = some y2 := hw2.symm.trans (hy2 ws (SqL.of (e _ _ k2)))
      cases z1
      cases z2
      subst ev eH
      have ee := Ex.nw (o := .tup [w1, w2]) (ex_back f2 nT)
      exact ⟨_, Gr.new f2 nT, T, w1, w2, rfl, SqT.of upd_same, Rep.mo ((g3.ff.tr f1).tr ee) r1, Rep.mo (f1.tr ee) r2⟩
    | er c => exact fun H' e => q H' (g2.hh.tr e)
    | bad => exact q
  | er c => exact q
  | bad => exact q
theorem ei_rev {m : M (List α)} (h : Ev ce E te σ F H (rv K) m) : EvI ce E K (iRev K (tCons te tNil)) σ F H (m.bind fun x => .ok x.reverse) := fun F1 H1 g1 R q => by
  refine h F1 H1 g1 _ ?_
  cases m with
  | ok xs =>
    rintro F2 H2 v g2 ⟨a, vs, rfl, h2, h3⟩
    refine ⟨a, vs, rfl, SqL.of (g2.fh _ _ h2), q F2 H2 _ g2 fun i H e => ?_⟩
    have hl := Paired.length h3
    refine ⟨fun x hx => ?_, fun hi => by rw [List.length_reverse] at hi; show vs.length ≤ i; omega⟩
    have hi : i < xs.length := by
      have := (List.getElem?_eq_some_iff.mp hx).1
      rw [List.length_reverse] at this
      exact this
    rw [List.getElem?_reverse hi] at hx
    obtain ⟨w, hw, rw'⟩ := paired_get h3 hx
    have hw' : vs[vs.length - 1 - i]? = some w := by rw [hl]; exact hw
    refine ⟨⟨by omega, vs, w, SqL.of (e _ _ h2), hw'⟩, fun v H' ⟨eH, hy⟩ F1' f1 f2 => ?_⟩
    have : some w = some v := hw'.symm.trans (hy vs (SqL.of (e _ _ h2)))
    cases this
    subst eH
    exact ⟨_, Gr.rf f2, Rep.mo f1 rw'⟩
  | er c => exact q
  | bad => exact q

/-! ### try -/
def catchM {α τ : Type} (m : M α) (h : Err → M τ) (k : α → M τ) : M τ := match m with
  | .ok x => k x
  | .er c => h c
  | .bad => .bad
@[simp] theorem catch_ok {α τ : Type} (x : α) (h : Err → M τ) (k : α → M τ) : catchM (.ok x) h k = k x := rfl
@[simp] theorem catch_er {α τ : Type} (c : Err) (h : Err → M τ) (k : α → M τ) : catchM (.er c) h k = h c := rfl
theorem s_try {W : WX} {tb : WX → TS} {m : M α} {h : Err → M τ} {k : α → M τ} (q : Wp ce E H0 (catchM m h k) P) (hh : ∀ c H', Ex H H' → Wp ce E H0 (h c) P → W (.ref (ce c.name)) none σ H')
    (hb : ∀ P' : α → Prop, (∀ x, P' x → Wp ce E H0 (k x) P) → Wp ce (WE W σ) H m P' → tb W D σ H) : tb W D σ H := by
  refine hb (fun x => Wp ce E H0 (k x) P) (fun x p => p) ?_
  cases m with
  | ok x => exact q
  | er c => exact fun H' e => hh c H' e q
  | bad => exact q
/-- a call within a try's body -/
theorem e_callT [MdMo md] {W : WX} {ta : TA} {x : α} {R : Hp → List V → α → Prop} {f : α → M ρ} (ha : EvAM ce (WE W σ) ta σ F H (.ok x) R) : Ev ce (WE W σ) (tCallS (SpF ce R md f) (WE W) ta) σ F H md (f x) := fun F1 H1 g1 Q q =>
  ha F1 H1 g1 _ fun F2 H2 vs g2 r2 => ⟨F2, x, g2.fh, r2, Post.mo g2 q⟩
theorem em_callT [MdMo md] {W : WX} {ta : TA} {m1 : M α} {R : Hp → List V → α → Prop} {f : α → M ρ} (ha : EvAM ce (WE W σ) ta σ F H m1 R) : Ev ce (WE W σ) (tCallS (SpF ce R md f) (WE W) ta) σ F H md (m1.bind fun x => f x) := fun F1 H1 g1 Q q => by
  refine ha F1 H1 g1 _ ?_
  cases m1 with
  | ok x => exact fun F2 H2 vs g2 r2 => ⟨F2, x, g2.fh, r2, Post.mo g2 q⟩
  | er c => exact q
  | bad => exact q
/-- the suite's reading, for an error of a class C that isinstance may be asked of -/
def tsOf (K : PySem.W.Frag) (t1 : Addr → Addr → TS) : Addr → Value → Option Addr → TS := fun a cls d D σ H => ∃ C, cls = .ref C ∧ d = none ∧ ExcC K C ∧ t1 C a D σ H
theorem suite_by {X : Cx} {suite : List Stmt} {t1 : Addr → Addr → TS} (h : ∀ (C a : Addr) (oe : PySem.Obj) (pn : List (Addr × PySem.Obj)), ExcC X.K C → Zc (.ref C) none oe → (∃ vs, oe.data = .fields vs) → PSs (X.suite a ((a, oe) :: pn)) suite (t1 C a))
    (a : Addr) (oe : PySem.Obj) (cls : Value) (d : Option Addr) (pn : List (Addr × PySem.Obj)) (hz : Zc cls d oe) (hf : ∃ vs, oe.data = .fields vs) : PSs (X.suite a ((a, oe) :: pn)) suite (tsOf X.K t1 a cls d) := by
  refine ⟨fun pins s σ H D I hh => ?_⟩
  obtain ⟨C, rfl, rfl, ex, hh⟩ := hh
  exact (h C a oe pn ex hz hf).run pins s σ H D I hh
theorem e_isE {i : Nat} {C a : Addr} {c : V} {cv : Value} {b : Bool} (hs : σ[i]? = some (some (.ref a))) (hc : ∀ u, RelV c u → u = cv) (hk : PySem.W.kitOne K (.ref C) cv = some b) : Ev ce E (tCB (rIsE K C a) (tCons (tVar i) (tCons (tC c) tNil))) σ F H (rv K) (.ok b) := fun F1 H1 g1 Q q =>
  ⟨.ref a, hs, c, cv, b, rfl, hc, hk, q F1 H1 _ (Gr.rf g1.fh) rfl⟩
/-- isinstance(e, (c1, c2, ..)) -/
def rIsET (K : PySem.W.Frag) (D a : Addr) : List V → Hp → VK → Prop := fun xs H Q => ∃ (tp : Addr) (cs : List V) (us : List Value) (b : Bool), xs = [.ref a, .ref tp] ∧ H tp = some (.tup cs) ∧ Paired ClsV cs us ∧ PySem.W.kitAny K (.ref D) us = some b ∧ Q (.bl b) H
theorem call_isET {X : Cx} {a D : Addr} {oe : PySem.Obj} {pn : List (Addr × PySem.Obj)} (C : ExcC X.K D) (hz : Zc (.ref D) none oe) (hf : ∃ vs, oe.data = .fields vs) : CallR (X.suite a ((a, oe) :: pn)) (.builtin "isinstance") (rIsET X.K D a) := by
  intro pins s σ H xs us Q I r h
  obtain ⟨tp, cs, ws, b, rfl, hT, k, e, q⟩ := h
  obtain ⟨u1, u2, rfl, r1, r2⟩ := vals2 r
  cases (show u1 = Value.ref a from r1)
  cases (show u2 = Value.ref tp from r2)
  obtain ⟨hget, _⟩ := I.pin (a, oe) (List.mem_append.mpr (.inl List.mem_cons_self))
  obtain ⟨vs, hv⟩ := hf
  have J : PySem.W.InstAt s.heap a oe D none := by
    obtain ⟨oc, od, oda, osl⟩ := oe
    obtain ⟨h1, h2⟩ := hz
    dsimp only at h1 h2 hv
    subst h1 h2 hv
    exact ⟨hget, rfl, rfl, trivial⟩
  obtain ⟨_, its, rv, o, h1, h2, n, h3⟩ := (show ObjOk X.prog X.w H s.heap tp (.tup cs) from I.hok tp _ hT)
  have e3 := ClsV.all k rv
  subst e3
  obtain ⟨oc, od, dt, sl⟩ := o
  simp only at h2 h3
  subst h2 h3
  exact PySem.W.kia_tup (PySem.W.handS_kitx_exc C.hg C.hk C.hs C.hd C.ha C.hn C.ht C.hm) I.kIn J h1 e (fun z => nomatch z) fun tk => ⟨.bl b, H, I.kept (t' := tk) fun _ _ z => z, rfl, q⟩
theorem e_isE2 {i : Nat} {C a : Addr} {c c' : V} {cv cv' : Value} {b : Bool} (hs : σ[i]? = some (some (.ref a))) (h1 : ClsV c cv) (h2 : ClsV c' cv') (hk : PySem.W.kitAny K (.ref C) [cv, cv'] = some b) : Ev ce E (tCB (rIsET K C a) (tCons (tVar i) (tCons (tTup (tCons (tC c) (tCons (tC c') tNil))) tNil))) σ F H (rv K) (.ok b) := fun F1 H1 g1 Q q =>
  ⟨.ref a, hs, by show 2 ≤ sizeLine; decide, fun tp np => ⟨tp, [c, c'], [cv, cv'], b, rfl, upd_same, .cons h1 (.cons h2 .nil), hk, q _ _ _ (Gr.new g1.fh np) rfl⟩⟩
theorem e_isE3 {i : Nat} {C a : Addr} {c c' c2 : V} {cv cv' cv2 : Value} {b : Bool} (hs : σ[i]? = some (some (.ref a))) (h1 : ClsV c cv) (h2 : ClsV c' cv') (h3 : ClsV c2 cv2) (hk : PySem.W.kitAny K (.ref C) [cv, cv', cv2] = some b) : Ev ce E (tCB (rIsET K C a) (tCons (tVar i) (tCons (tTup (tCons (tC c) (tCons (tC c') (tCons (tC c2) tNil)))) tNil))) σ F H (rv K) (.ok b) := fun F1 H1 g1 Q q =>
  ⟨.ref a, hs, by show 3 ≤ sizeLine; decide, fun tp np => ⟨tp, [c, c', c2], [cv, cv', cv2], b, rfl, upd_same, .cons h1 (.cons h2 (.cons h3 .nil)), hk, q _ _ _ (Gr.new g1.fh np) rfl⟩⟩
end
/-- a def that may raise, where what it computes raises nothing -/
theorem fn_quiet {P : Program} {w : World} {K : PySem.W.Frag} {mg : Str → Option Value} {base : Heap} {k : Nat} {f : Addr} {fd : FuncData} {ps : List Str} {sp sp' : Sp} (F : FnOk P w K mg base (L2.CX P w) k f fd ps sp)
    (h : ∀ vs H Q E, sp' vs H Q E → sp vs H Q E0) : FnOk P w K mg base CX0 k f fd ps sp' :=
  ⟨fun vs H Q E q => F.len vs H Q E0 (h _ _ _ _ q), fun A outer s H args us vs Q E hr he hb hv hs => codeAny_mono (F.run A outer s H args us vs Q E0 hr he hb hv (h _ _ _ _ hs)) fun r s' x => by
    cases r with
    | error e =>
      obtain ⟨_, _, _, _, _, _, _, _, _, _, _, _, z⟩ := x
      exact z.elim
    | ok v => cases v <;> exact x⟩
end Mw

set_option Elab.async false
set_option linter.all false
set_option maxRecDepth 100000
set_option maxHeartbeats 2000000
/-! Mw, part J: slices with a step. -/
namespace L2
open PySem PySem.Spec PyProof.Rows
/-- the items of xs[lo:hi:st] -/
def pickV {α : Type} (xs : List α) (lo hi : Option Int) (st : Int) : List α :=
  (sliceRange (PySem.sliceBounds lo hi (some st) xs.length).1 (PySem.sliceBounds lo hi (some st) xs.length).2.1 (PySem.sliceBounds lo hi (some st) xs.length).2.2).filterMap (xs[·]?)
def rSlP (K : PySem.W.Frag) (st : Int) : V → Option Int → Option Int → Hp → VK → Prop := fun x lo hi H Q => ∃ a xs, x = .ref a ∧ SqL K H a xs ∧ ∀ p, H p = none → Q (.ref p) (upd H p (.lst (pickV xs lo hi st)))
theorem vals_pick {xs : List V} {its : List Value} (r : Vals xs its) : ∀ l : List Nat, Vals (l.filterMap (xs[·]?)) (l.filterMap (its[·]?))
  | [] => .nil
  | i :: l => by
    rw [List.filterMap_cons, List.filterMap_cons]
    have h : (xs[i]? = none ∧ its[i]? = none) ∨ ∃ x v, xs[i]? = some x ∧ its[i]? = some v ∧ RelV x v := by
      induction r generalizing i with
      | nil => exact .inl ⟨rfl, rfl⟩
      | cons h t ih =>
        cases i with
        | zero => exact .inr ⟨_, _, rfl, rfl, h⟩
        | succ j => exact ih j
    rcases h with ⟨h1, h2⟩ | ⟨x, v, h1, h2, h3⟩
    · rw [h1, h2]; exact vals_pick r l
    · rw [h1, h2]; exact .cons h3 (vals_pick r l)
section
variable {X : Cx} {e : Expr} {lo hi : Option Expr} {te : TE} {tl th : TO}
theorem pe_sliceS {st : Int} {k : Nat} {p1 p3 pos : Pos} (h0 : st ≠ 0) (he : PE X e te) (hl : PO X lo tl) (hu : PO X hi th) : PE X (.Subscript e (.Slice lo hi (some (.Constant (.int st) k p1)) p3) pos) (tSl (rSlP X.K st) te tl th) := by
  refine ⟨fun pins s σ H Q I h => ?_⟩
  refine Subscript_ (thn (he.run pins s σ H _ I h) fun v s1 ⟨x, H1, I1, r1, q1⟩ => ?_)
  have hst : PO X (some (.Constant (.int st) k p1)) (tPart (tC (.int st))) := po_some pe_int
  refine wpAny_Slice (thn (hl.run pins s1 σ H1 _ I1 q1) fun vl s2 ⟨l, H2, I2, pl, q2⟩ => thn (hu.run pins s2 σ H2 _ I2 q2) fun vu s3 ⟨u, H3, I3, pu, q3⟩ => ?_)
  obtain ⟨a, xs, ex, hx, q⟩ := q3
  subst ex
  cases r1
  refine thn (hst.run pins s3 σ H3 (fun o H4 => o = some st ∧ H4 = H3) I3 ⟨st, rfl, rfl, rfl⟩) fun vs s4 ⟨o, H4, I4, ps, eo, e4⟩ => ?_
  subst eo e4
  have I5 : Inv X pins σ H4 { s4 with heap := s4.heap.push { cls := .type "slice", data := .fields #[vl, vu, vs] } } := I4.kept (t' := s4.toks) fun b ob q => Heap.get?_push_of_some _ q
  obtain ⟨its, r, ht, hz⟩ := I5.list hx
  have hlen := r.length
  show wpAny (model X.prog X.w) X.A (subscriptTail e (.Slice lo hi (some (.Constant (.int st) k p1)) p3) (.ref a) (.ref s4.heap.objs.size)) (EP X pins σ Q) X.xe { s4 with heap := s4.heap.push { cls := .type "slice", data := .fields #[vl, vu, vs] } }
  refine tail_any (ops := [.ref a, .ref s4.heap.objs.size]) ht.isList.typeIs (PySem.slot_list_getitem.lookup) ?_ (by with_unfolding_all rfl)
  refine wpAny_getItem_list_slice ht.isList (Heap.IsSliceOf.new _ vl vu vs) pl pu ps (fun z => h0 (Option.some.inj z)) ?_ (by rw [List.size_toArray]; omega)
  have e1 : slicePick its.toArray l u (some st) = (pickV its l u st).toArray := by
    unfold slicePick pickV
    simp
  rw [e1]
  have r2 : Vals (pickV xs l u st) (pickV its l u st) := by
    unfold pickV
    rw [hlen]
    exact vals_pick r _
  have hle : (pickV xs l u st).length ≤ sizeLine := by
    have := slicePick_size_le its.toArray l u (some st)
    rw [e1, List.size_toArray, List.size_toArray, ← r2.length] at this
    omega
  exact ⟨.ref _, _, I5.laid (t' := s4.toks) (o := .lst (pickV xs l u st)) (fun b ob q => Heap.get?_push_of_some _ q) (Nat.le_refl _) ⟨hle, _, 0, r2, Heap.get?_push_size _ rfl⟩, rfl, q _ (I5.hok.fresh (Nat.le_refl _))⟩
end
end L2
namespace Mw
open PySem L2
open Rep (rp)
theorem paired_pick {α β : Type} {F : α → β → Prop} {vs : List α} {xs : List β} (r : Paired F vs xs) (lo hi : Option Int) (st : Int) : Paired F (pickV vs lo hi st) (pickV xs lo hi st) := by
  unfold pickV
  rw [Paired.length r]
  have go : ∀ l : List Nat, Paired F (l.filterMap (vs[·]?)) (l.filterMap (xs[·]?)) := by
    intro l
    induction l with
    | nil => exact .nil
    | cons i l ih =>
      rw [List.filterMap_cons, List.filterMap_cons]
      cases e : xs[i]? with
      | some x =>
        obtain ⟨w, hw, rw'⟩ := paired_get r e
        rw [hw]
        exact .cons rw' ih
      | none =>
        have : vs[i]? = none := by
          rw [List.getElem?_eq_none_iff] at e ⊢
          have := Paired.length r
          omega
        rw [this]
        exact ih
  exact go _
section
variable {ρ α β γ δ S τ : Type} [Rep α] [Rep β] [Rep γ] [Rep δ] {ce : Ce} {E : XK} {K : PySem.W.Frag} {σ : L2.St} {F H F' H' F0 H0 : Hp} {te ta tb tc td : TE} {md : Md ρ} {m : M ρ}
theorem em_pk {tl th : TO} {st : Int} {m1 : M (List α)} {m2 m3 : M (Option Int)} (ha : Ev ce E ta σ F H (rv K) m1) (hl : EvO ce E tl σ F H m2) (hh : EvO ce E th σ F H m3) :
    Ev ce E (tSl (rSlP K st) ta tl th) σ F H (rn K) (m1.bind fun x => m2.bind fun lo => m3.bind fun hi => .ok (pickV x lo hi st)) := fun F1 H1 g1 Q q => by
  refine ha F1 H1 g1 _ ?_
  cases m1 with
  | ok x =>
    rintro F2 H2 vx g2 ⟨a, vs, e1, e2, e3⟩
    refine hl F2 H2 (g1.tr g2) _ ?_
    cases m2 with
    | ok lo =>
      intro F3 H3 g3
      refine hh F3 H3 ((g1.tr g2).tr g3) _ ?_
      cases m3 with
      | ok hi =>
        intro F4 H4 g4
        refine ⟨a, vs, e1, SqL.of (g4.hh _ _ (g3.hh _ _ (g2.fh _ _ e2))), fun p np => ?_⟩
        exact q F4 _ _ (((g2.tr g3).tr g4).tr (Gr.own g4.fh np)) ⟨p, _, rfl, ex_back ((g2.hh.tr g3.hh).tr g4.hh) np, ex_back g4.fh np, upd_same, paired_pick (paired_mo (g3.ff.tr g4.ff) e3) lo hi st⟩
      | er c => exact fun H' e => q H' ((g2.tr g3).hh.tr e)
      | bad => exact q
    | er c => exact fun H' e => q H' (g2.hh.tr e)
    | bad => exact q
  | er c => exact q
  | bad => exact q
theorem em_pkS {tl th : TO} {st : Int} {x : Scr} {m2 m3 : M (Option Int)} (ha : Ev ce E ta σ F H (rv K) (.ok x)) (hl : EvO ce E tl σ F H m2) (hh : EvO ce E th σ F H m3) :
    Ev ce E (tSl (rSlP K st) ta tl th) σ F H (rn K) (m2.bind fun lo => m3.bind fun hi => .ok (pickV x.l lo hi st)) := fun F1 H1 g1 Q q => by
  refine ha F1 H1 g1 _ ?_
  rintro F2 H2 vx g2 ⟨a, e1, e2⟩
  refine hl F2 H2 (g1.tr g2) _ ?_
  cases m2 with
  | ok lo =>
    intro F3 H3 g3
    refine hh F3 H3 ((g1.tr g2).tr g3) _ ?_
    cases m3 with
    | ok hi =>
      intro F4 H4 g4
      refine ⟨a, _, e1, ex_l ((g2.fh.tr g3.hh).tr g4.hh) e2, fun p np => ?_⟩
      exact q F4 _ _ (((g2.tr g3).tr g4).tr (Gr.own g4.fh np)) ⟨p, _, rfl, ex_back ((g2.hh.tr g3.hh).tr g4.hh) np, ex_back g4.fh np, upd_same, paired_pick (rep_int x.l) lo hi st⟩
    | er c => exact fun H' e => q H' ((g2.tr g3).hh.tr e)
    | bad => exact q
  | er c => exact fun H' e => q H' (g2.hh.tr e)
  | bad => exact q
theorem pick_sub {α : Type} {xs : List α} {lo hi : Option Int} {st : Int} {x : α} (h : x ∈ pickV xs lo hi st) : x ∈ xs := by
  unfold pickV at h
  obtain ⟨i, _, hi⟩ := List.mem_filterMap.mp h
  exact List.mem_of_getElem? hi
end
end Mw

set_option Elab.async false
set_option linter.all false
set_option maxRecDepth 100000
set_option maxHeartbeats 2000000
/-! Mw, part K: try, as statements of the walk. -/
namespace Mw
open PySem L2
open Rep (rp)
def tTryAs (tb : WX → TS) (K : PySem.W.Frag) (c : Value) (i : Nat) (ts : Addr → Value → Option Addr → TS) (Wout : WX) : TS := fun D σ H => tb (wAs K c i ts Wout D) D σ H
def tTryOn (tb : WX → TS) (K : PySem.W.Frag) (c : Value) (ts : Addr → Value → Option Addr → TS) (Wout : WX) : TS := fun D σ H => tb (wOnly K c ts Wout D) D σ H
section
variable {X : Cx} {x n : Str} {c : Value} {i : Nat} {body suite : List Stmt} {b₀ : Stmt} {np pos pos' : Pos} {tb : WX → TS} {ts : Addr → Value → Option Addr → TS} {Wout : WX}
theorem ps_tryA (hs : X.stack = X.env :: X.outer) (hf : X.env.frame = some X.env.locals) (hN : X.N.Nodup) (hi : X.N[i]? = some n) (hln : X.env.kindOf n = some .local) (hc : Names X x c) (tk : Takes X Wout)
    (hb : ∀ (W : WX) (pn : List (Addr × PySem.Obj)) (xe : Value → Shared → Prop), Takes (X.tr pn xe) W → PassesOwn (model X.prog X.w) X.A X.env xe → PSs (X.tr pn xe) body (tb W))
    (hsu : ∀ (a : Addr) (oe : PySem.Obj) (cls : Value) (d : Option Addr) (pn : List (Addr × PySem.Obj)), Zc cls d oe → (∃ vs, oe.data = .fields vs) → PSs (X.suite a ((a, oe) :: pn)) (b₀ :: suite) (ts a cls d)) :
    PS X (.Try body [.ExceptHandler (some (.Name x np)) (some n) (b₀ :: suite) pos'] [] [] pos) (tTryAs tb X.K c i ts Wout) := ps_try_as hs hf hN hi hln hc tk hb hsu
theorem ps_tryO (hs : X.stack = X.env :: X.outer) (hf : X.env.frame = some X.env.locals) (hc : Names X x c) (tk : Takes X Wout)
    (hb : ∀ (W : WX) (pn : List (Addr × PySem.Obj)) (xe : Value → Shared → Prop), Takes (X.tr pn xe) W → PassesOwn (model X.prog X.w) X.A X.env xe → PSs (X.tr pn xe) body (tb W))
    (hsu : ∀ (a : Addr) (oe : PySem.Obj) (cls : Value) (d : Option Addr) (pn : List (Addr × PySem.Obj)), Zc cls d oe → (∃ vs, oe.data = .fields vs) → PSs (X.suite a ((a, oe) :: pn)) (b₀ :: suite) (ts a cls d)) :
    PS X (.Try body [.ExceptHandler (some (.Name x np)) none (b₀ :: suite) pos'] [] [] pos) (tTryOn tb X.K c ts Wout) := ps_try_only hs hf hc tk hb hsu
end
section
variable {ρ α β S τ Z : Type} [Rep α] {ce : Ce} {E : XK} {K : PySem.W.Frag} {σ : L2.St} {F H F0 H0 : Hp} {md : Md ρ} {D : Ends} {P : τ → Prop} {tb : WX → TS} {t1 : Addr → Addr → TS} {ts : Addr → Value → Option Addr → TS} {cv : Value} {i : Nat} {Wout : WX}
theorem Gr.er {F H F' H' H2 : Hp} (g : Gr F H F' H') (e : Ex H' H2) : Gr F H F' H2 := ⟨g.ff, g.fh.tr e, g.hh.tr e, fun b a c => g.nw b a c⟩
theorem Own.er {T : Type} [Rep T] [Obj T] {H2 : Hp} {p : Addr} {x : T} (o : Own K F H p x) (e : Ex H H2) : Own K F H2 p x := by
  obtain ⟨⟨u, h1, h2⟩, f⟩ := o
  exact ⟨⟨u, e _ _ h1, h2⟩, f⟩
theorem rn_up {α : Type} [Rep α] {F F1 H1 : Hp} {v : V} {r : List α} (hh : Ex H0 H) (m : rn K F H F1 H1 v r) : rn K F0 H0 F1 H1 v r := by
  obtain ⟨p, vs, h1, h2, h3⟩ := m
  exact ⟨p, vs, h1, ex_back hh h2, h3⟩
theorem s_tryAs {α : Type} (sl : Z → L2.St) (J : α → Hp → Hp → L2.St → Prop) {m : M α} {h : Err → M τ} {k : α → M τ} (q : Wp ce E H0 (catchM m h k) P)
    (hh : ∀ c H' z, Ex H H' → Wp ce E H0 (h c) P → wAs K cv i (tsOf K t1) Wout D (.ref (ce c.name)) none (sl z) H')
    (h1 : ∀ x F1 H1 σ1, J x F1 H1 σ1 → Wp ce E H0 (k x) P → D.nx σ1 H1)
    (hb : ∀ (E' : XK) (P' : α → Prop), (∀ cls d H', E' cls d H' → ∀ z, wAs K cv i (tsOf K t1) Wout D cls d (sl z) H') → (∀ x, P' x → Wp ce E H0 (k x) P) → (∀ x, P' x → ∀ F1 H1 σ1, J x F1 H1 σ1 → D.nx σ1 H1) → Wp ce E' H m P' →
      tb (wAs K cv i (tsOf K t1) Wout D) D σ H) : tTryAs tb K cv i (tsOf K t1) Wout D σ H := by
  refine hb (fun cls d H' => ∀ z, wAs K cv i (tsOf K t1) Wout D cls d (sl z) H') (fun x => Wp ce E H0 (k x) P) (fun _ _ _ e => e) (fun _ p => p) (fun x p F1 H1 σ1 j => h1 x F1 H1 σ1 j p) ?_
  cases m with
  | ok x => exact q
  | er c => exact fun H' e z => hh c H' z e q
  | bad => exact q
theorem s_tryOn {α : Type} (sl : Z → L2.St) (J : α → Hp → Hp → L2.St → Prop) {m : M α} {h : Err → M τ} {k : α → M τ} (q : Wp ce E H0 (catchM m h k) P)
    (hh : ∀ c H' z, Ex H H' → Wp ce E H0 (h c) P → wOnly K cv ts Wout D (.ref (ce c.name)) none (sl z) H')
    (h1 : ∀ x F1 H1 σ1, J x F1 H1 σ1 → Wp ce E H0 (k x) P → D.nx σ1 H1)
    (hb : ∀ (E' : XK) (P' : α → Prop), (∀ cls d H', E' cls d H' → ∀ z, wOnly K cv ts Wout D cls d (sl z) H') → (∀ x, P' x → Wp ce E H0 (k x) P) → (∀ x, P' x → ∀ F1 H1 σ1, J x F1 H1 σ1 → D.nx σ1 H1) → Wp ce E' H m P' →
      tb (wOnly K cv ts Wout D) D σ H) : tTryOn tb K cv ts Wout D σ H := by
  refine hb (fun cls d H' => ∀ z, wOnly K cv ts Wout D cls d (sl z) H') (fun x => Wp ce E H0 (k x) P) (fun _ _ _ e => e) (fun _ p => p) (fun x p F1 H1 σ1 j => h1 x F1 H1 σ1 j p) ?_
  cases m with
  | ok x => exact q
  | er c => exact fun H' e z => hh c H' z e q
  | bad => exact q
theorem q_tryAs {t2 : TS} {α : Type} (sl : Z → L2.St) (J : α → Hp → Hp → L2.St → Prop) {m : M α} {h : Err → M τ} {k : α → M τ} (q : Wp ce E H0 (catchM m h k) P)
    (hh : ∀ c H' z, Ex H H' → Wp ce E H0 (h c) P → wAs K cv i (tsOf K t1) Wout { D with nx := t2 D } (.ref (ce c.name)) none (sl z) H')
    (h1 : ∀ x F1 H1 σ1, J x F1 H1 σ1 → Wp ce E H0 (k x) P → t2 D σ1 H1)
    (hb : ∀ (E' : XK) (P' : α → Prop), (∀ cls d H', E' cls d H' → ∀ z, wAs K cv i (tsOf K t1) Wout { D with nx := t2 D } cls d (sl z) H') → (∀ x, P' x → Wp ce E H0 (k x) P) → (∀ x, P' x → ∀ F1 H1 σ1, J x F1 H1 σ1 → t2 D σ1 H1) → Wp ce E' H m P' →
      tb (wAs K cv i (tsOf K t1) Wout { D with nx := t2 D }) { D with nx := t2 D } σ H) : tSeq (tTryAs tb K cv i (tsOf K t1) Wout) t2 D σ H := s_tryAs (D := { D with nx := t2 D }) sl J q hh h1 hb
theorem q_tryOn {t2 : TS} {α : Type} (sl : Z → L2.St) (J : α → Hp → Hp → L2.St → Prop) {m : M α} {h : Err → M τ} {k : α → M τ} (q : Wp ce E H0 (catchM m h k) P)
    (hh : ∀ c H' z, Ex H H' → Wp ce E H0 (h c) P → wOnly K cv ts Wout { D with nx := t2 D } (.ref (ce c.name)) none (sl z) H')
    (h1 : ∀ x F1 H1 σ1, J x F1 H1 σ1 → Wp ce E H0 (k x) P → t2 D σ1 H1)
    (hb : ∀ (E' : XK) (P' : α → Prop), (∀ cls d H', E' cls d H' → ∀ z, wOnly K cv ts Wout { D with nx := t2 D } cls d (sl z) H') → (∀ x, P' x → Wp ce E H0 (k x) P) → (∀ x, P' x → ∀ F1 H1 σ1, J x F1 H1 σ1 → t2 D σ1 H1) → Wp ce E' H m P' →
      tb (wOnly K cv ts Wout { D with nx := t2 D }) { D with nx := t2 D } σ H) : tSeq (tTryOn tb K cv ts Wout) t2 D σ H := s_tryOn (D := { D with nx := t2 D }) sl J q hh h1 hb
theorem was_yes {A : Addr} (hx : PySem.W.exmOne K (.ref A) cv = some true) (hc : ExcC K A)
    (h : ∀ a, H a = none → t1 A a { nx := fun σ' H' => D.nx (σ'.set i none) H', rt := D.rt, bk := fun σ' H' => D.bk (σ'.set i none) H', ct := fun σ' H' => D.ct (σ'.set i none) H' } (σ.set i (some (.ref a))) H) :
    wAs K cv i (tsOf K t1) Wout D (.ref A) none σ H := ⟨true, hx, fun _ a na => ⟨A, rfl, rfl, hc, h a na⟩, fun z => nomatch z⟩
theorem wonly_yes {A : Addr} {t : TS} (hx : PySem.W.exmOne K (.ref A) cv = some true) (h : t D σ H) : wOnly K cv (fun _ _ _ => t) Wout D (.ref A) none σ H := ⟨true, hx, fun _ a na => h, fun z => nomatch z⟩
/-- a call that may raise, within a try -/
theorem e_callU [MdMo md] {α : Type} {E' : XK} {W : WX} {ta : TA} {x : α} {R : Hp → List V → α → Prop} {f : α → M ρ} (hE : ∀ cls d H', E' cls d H' → W cls d σ H') (ha : EvAM ce E' ta σ F H (.ok x) R) : Ev ce E' (tCallS (SpF ce R md f) (WE W) ta) σ F H md (f x) := fun F1 H1 g1 Q q =>
  ha F1 H1 g1 _ fun F2 H2 vs g2 r2 => ⟨F2, x, g2.fh, r2, by
    have q' := Post.mo g2 q
    cases hm : f x with
    | ok r => rw [hm] at q'; exact q'
    | er c => rw [hm] at q'; exact fun H' e => hE _ _ _ (q' H' e)
    | bad => rw [hm] at q'; exact q'⟩
theorem em_callU [MdMo md] {α : Type} {E' : XK} {W : WX} {ta : TA} {m1 : M α} {R : Hp → List V → α → Prop} {f : α → M ρ} (hE : ∀ cls d H', E' cls d H' → W cls d σ H') (ha : EvAM ce E' ta σ F H m1 R) : Ev ce E' (tCallS (SpF ce R md f) (WE W) ta) σ F H md (m1.bind fun x => f x) := fun F1 H1 g1 Q q => by
  refine ha F1 H1 g1 _ ?_
  cases m1 with
  | ok x =>
    exact fun F2 H2 vs g2 r2 => ⟨F2, x, g2.fh, r2, by
      have q' := Post.mo g2 q
      cases hm : f x with
      | ok r => have e : (M.ok x : M α).bind (fun x => f x) = .ok r := hm; rw [e] at q'; exact q'
      | er c => have e : (M.ok x : M α).bind (fun x => f x) = .er c := hm; rw [e] at q'; exact fun H' e => hE _ _ _ (q' H' e)
      | bad => have e : (M.ok x : M α).bind (fun x => f x) = .bad := hm; rw [e] at q'; exact q'⟩
  | er c => exact q
  | bad => exact q
theorem wp_pos {c : Prop} [Decidable c] {m1 m2 : M τ} (h : c) (w : Wp ce E H0 (if c then m1 else m2) P) : Wp ce E H0 m1 P := by rwa [if_pos h] at w
theorem wp_neg {c : Prop} [Decidable c] {m1 m2 : M τ} (h : ¬ c) (w : Wp ce E H0 (if c then m1 else m2) P) : Wp ce E H0 m2 P := by rwa [if_neg h] at w
end
/-! ### what isinstance and except ask of classes -/
theorem kit_own {K : PySem.W.Frag} {A T : Addr} {b : Bool} (hd : PySem.W.hasDictIn K T = true) (ht : PySem.W.typeIn K (.ref T) = some (.type "type")) (hs : PySem.W.subIn K (.ref A) (.ref T) = some b) (hb : (A == T) = true → b = true) : PySem.W.kitOne K (.ref A) (.ref T) = some b := by
  obtain ⟨cd, hc, _⟩ := PySem.W.any_some hd
  unfold PySem.W.kitOne
  by_cases e : (Value.ref A == Value.ref T) = true
  · rw [if_pos e, hb (by
      have := beq_iff_eq.mp e
      cases this
      exact beq_self_eq_true A)]
  · rw [if_neg e]
    show (if ((PySem.W.clsIn K T).isSome && PySem.W.typeIn K (.ref T) == some (.type "type")) = true then PySem.W.subIn K (.ref A) (.ref T) else none) = some b
    rw [if_pos (by rw [hc, ht]; rfl)]
    exact hs
theorem kit_bt {K : PySem.W.Frag} {A : Addr} {T : String} {b : Bool} (hm : PySem.W.kitMeta T = true) (hs : PySem.W.subIn K (.ref A) (.type T) = some b) : PySem.W.kitOne K (.ref A) (.type T) = some b := by
  unfold PySem.W.kitOne
  have e : ¬ (Value.ref A == Value.type T) = true := fun z => by
    have := beq_iff_eq.mp z
    cases this
  rw [if_neg e]
  show (if PySem.W.kitMeta T = true then PySem.W.subIn K (.ref A) (.type T) else none) = some b
  rw [if_pos hm]
  exact hs
end Mw

set_option Elab.async false
set_option linter.all false
set_option maxRecDepth 100000
set_option maxHeartbeats 2000000
/-! Mw, part L: all, any. -/
namespace Mw
open PySem L2
open Rep (rp)
section
variable {ρ α β : Type} [Rep α] {ce : Ce} {E : XK} {K : PySem.W.Frag}
theorem paired_bool {H : Hp} : ∀ {vs : List V} {xs : List Bool}, Paired (rp K H) vs xs → vs = xs.map V.bl
  | _, _, .nil => rfl
  | _, _, .cons h t => by
    cases h
    rw [paired_bool t]
    rfl
theorem a_all {xs : List Bool} : OpA ce E (RC K R0) (rAll K) (rv K) (xs, ()) (.ok (xs.all id)) := fun F1 H1 vs e ⟨v, r, e1, ⟨a, us, h1, h2, h3⟩, e3⟩ Q q => by
  cases e3
  subst e1 h1
  have := paired_bool h3
  subst this
  exact ⟨a, xs, rfl, SqL.of (e _ _ h2), q _ _ _ (Gr.rf e) rfl⟩
theorem a_any {xs : List Bool} : OpA ce E (RC K R0) (rAny K) (rv K) (xs, ()) (.ok (xs.any id)) := fun F1 H1 vs e ⟨v, r, e1, ⟨a, us, h1, h2, h3⟩, e3⟩ Q q => by
  cases e3
  subst e1 h1
  have := paired_bool h3
  subst this
  exact ⟨a, xs, rfl, SqL.of (e _ _ h2), q _ _ _ (Gr.rf e) rfl⟩
end
noncomputable def setM {α : Type} (xs : List α) (i : Int) (x : α) : M (List α) := match ixN xs.length i with
  | some j => .ok (xs.set j x)
  | none => .bad
noncomputable def insM {α : Type} (xs : List α) (i : Int) (x : α) : M (List α) := chk (xs.length < 16000000 ∧ 0 ≤ i ∧ i < 2 ^ 63) (xs.take i.toNat ++ [x] ++ xs.drop i.toNat)
noncomputable def popAtM {α : Type} (xs : List α) (i : Int) : M (List α) := match seqIndex? i xs.length with
  | some j => chk (-(2 ^ 63) ≤ i ∧ i < 2 ^ 63 ∧ j < xs.length) (xs.eraseIdx j)
  | none => .bad
theorem paired_setA {α β : Type} {F : α → β → Prop} {v : α} {x : β} (h : F v x) : ∀ {vs : List α} {xs : List β} (j : Nat), Paired F vs xs → Paired F (vs.set j v) (xs.set j x)
  | _, _, _, .nil => .nil
  | _, _, 0, .cons _ t => .cons h t
  | _, _, j + 1, .cons a t => .cons a (paired_setA h j t)
theorem paired_erase {α β : Type} {F : α → β → Prop} : ∀ {vs : List α} {xs : List β} (j : Nat), Paired F vs xs → Paired F (vs.eraseIdx j) (xs.eraseIdx j)
  | _, _, _, .nil => .nil
  | _, _, 0, .cons _ t => t
  | _, _, j + 1, .cons a t => .cons a (paired_erase j t)
def rIns : V → List V → Hp → VK → Prop := fun x vs H Q => ∃ (l : Addr) (xs : List V) (i : Int) (y : V), x = .ref l ∧ vs = [.int i, y] ∧ H l = some (.lst xs) ∧ xs.length < sizeLine ∧ 0 ≤ i ∧ i < 2 ^ 63 ∧ Q .non (upd H l (.lst (xs.take i.toNat ++ [y] ++ xs.drop i.toNat)))
section
variable {τ α : Type} [Rep α] {ce : Ce} {E : XK} {K : PySem.W.Frag} {σ : L2.St} {F H F0 H0 : Hp} {te ti : TE} {D : Ends} {P : τ → Prop}
theorem s_setl (A : List Addr) {i : Nat} {p : Addr} {xs : List α} {m1 : M α} {m2 : M Int} {k : List α → M τ} [Flat α] (hp : σ[i]? = some (some (.ref p))) (o : Own K F H p xs) (n0 : H0 p = none) (G : Gr F0 H0 F H)
    (q : Wp ce E H0 (m1.bind fun x => m2.bind fun y => (setM xs y x).bind k) P) (hF : ∀ p ∈ A, F p = none) (hA : ∀ p ∈ A, ∃ o, H p = some o ∧ NoTup o) (h : Ev ce E te σ (fz F H A) H (rv K) m1) (hk : Ev ce E ti σ (fz F H A) H (rv K) m2)
    (c : ∀ ys F1 H1, Ex F F1 → Gr F0 H0 F1 H1 → Own K F1 H1 p ys → (∀ (T : Type) [Rep T] [Obj T] (q : Addr) (z : T), q ≠ p → Own K F H q z → Own K F1 H1 q z) → Wp ce E H0 (k ys) P → D.nx σ H1) :
    tAsg te (gSub (tVar i) ti rSetL) D σ H := by
  obtain ⟨vs, h1, h2⟩ := o.lst
  have hf := o.f
  have hA' : ∀ p ∈ A, H p ≠ none := fun p m => by obtain ⟨o, e, _⟩ := hA p m; rw [e]; exact fun z => nomatch z
  refine h _ H (Gr.rf (fz_h G.fh)) _ ?_
  cases m1 with
  | ok x =>
    intro F1 H1 v g0 r0
    refine ⟨.ref p, hp, hk F1 H1 g0 _ ?_⟩
    have q2 : Wp ce E H0 (m2.bind fun y => (setM xs y x).bind k) P := q
    cases m2 with
    | ok y =>
      rintro F2 H2 vy g1 rfl
      have gg := g0.tr g1
      have g := gr_th hF hA' G.fh gg
      have r : rp K (th F2 A) v x := Flat.fl (th_of hA gg) (Rep.mo g1.ff r0)
      have w' : Wp ce E H0 ((setM xs y x).bind k) P := q2
      unfold setM at w'
      split at w'
      · rename_i j hj
        rw [← Paired.length h2] at hj
        have hf1 : th F2 A p = none := g.nw p hf (by rw [h1]; exact fun z => nomatch z)
        exact ⟨p, vs, y, j, rfl, rfl, g.hh _ _ h1, hj, c _ _ _ g.ff (Gr.mut (G.tr g) n0 hf1) (own_new hf1 upd_same (paired_setA r j (paired_mo g.ff h2))) (fun T _ _ q z hq o => (o.mo g).upd hq) w'⟩
      · exact w'.elim
    | er cc => exact fun H' e => q2 H' ((G.hh.tr g0.hh).tr e)
    | bad => exact q2
  | er cc => exact fun H' e => q H' (G.hh.tr e)
  | bad => exact q
theorem s_insl (A : List Addr) {i : Nat} {p : Addr} {xs : List α} {m1 : M Int} {m2 : M α} {k : List α → M τ} [Flat α] (hp : σ[i]? = some (some (.ref p))) (o : Own K F H p xs) (n0 : H0 p = none) (G : Gr F0 H0 F H)
    (q : Wp ce E H0 (m1.bind fun y => m2.bind fun x => (insM xs y x).bind k) P) (hF : ∀ p ∈ A, F p = none) (hA : ∀ p ∈ A, ∃ o, H p = some o ∧ NoTup o) (hk : Ev ce E ti σ (fz F H A) H (rv K) m1) (h : Ev ce E te σ (fz F H A) H (rv K) m2)
    (c : ∀ ys F1 H1, Ex F F1 → Gr F0 H0 F1 H1 → Own K F1 H1 p ys → (∀ (T : Type) [Rep T] [Obj T] (q : Addr) (z : T), q ≠ p → Own K F H q z → Own K F1 H1 q z) → Wp ce E H0 (k ys) P → D.nx σ H1) :
    tDrop (tBM K "list" rIns (tVar i) (tCons ti (tCons te tNil))) D σ H := by
  obtain ⟨vs, h1, h2⟩ := o.lst
  have hf := o.f
  have hA' : ∀ p ∈ A, H p ≠ none := fun p m => by obtain ⟨o, e, _⟩ := hA p m; rw [e]; exact fun z => nomatch z
  refine ⟨.ref p, hp, .inl ⟨rfl, vs, SqL.of h1⟩, hk _ H (Gr.rf (fz_h G.fh)) _ ?_⟩
  cases m1 with
  | ok y =>
    rintro F1 H1 vy g0 rfl
    refine h F1 H1 g0 _ ?_
    have q2 : Wp ce E H0 (m2.bind fun x => (insM xs y x).bind k) P := q
    cases m2 with
    | ok x =>
      intro F2 H2 v g1 r0
      have gg := g0.tr g1
      have g := gr_th hF hA' G.fh gg
      have r : rp K (th F2 A) v x := Flat.fl (th_of hA gg) r0
      have w' : Wp ce E H0 ((insM xs y x).bind k) P := q2
      unfold insM chk at w'
      split at w'
      · rename_i hc
        have hf1 : th F2 A p = none := g.nw p hf (by rw [h1]; exact fun z => nomatch z)
        refine ⟨p, vs, y, v, rfl, rfl, g.hh _ _ h1, by rw [Paired.length h2, sizeLine_eq]; omega, hc.2.1, hc.2.2, ?_⟩
        have pm := paired_mo (K := K) g.ff h2
        exact c _ _ _ g.ff (Gr.mut (G.tr g) n0 hf1) (own_new hf1 upd_same (paired_app (paired_app (paired_take _ pm) (.cons r .nil)) (paired_drop _ pm))) (fun T _ _ q z hq o => (o.mo g).upd hq) w'
      · exact w'.elim
    | er cc => exact fun H' e => q2 H' ((G.hh.tr g0.hh).tr e)
    | bad => exact q2
  | er cc => exact fun H' e => q H' (G.hh.tr e)
  | bad => exact q
theorem s_popl (A : List Addr) {i : Nat} {p : Addr} {xs : List α} {m1 : M Int} {k : List α → M τ} (hp : σ[i]? = some (some (.ref p))) (o : Own K F H p xs) (n0 : H0 p = none) (G : Gr F0 H0 F H)
    (q : Wp ce E H0 (m1.bind fun y => (popAtM xs y).bind k) P) (hF : ∀ p ∈ A, F p = none) (hA : ∀ p ∈ A, ∃ o, H p = some o ∧ NoTup o) (hk : Ev ce E ti σ (fz F H A) H (rv K) m1)
    (c : ∀ ys F1 H1, Ex F F1 → Gr F0 H0 F1 H1 → Own K F1 H1 p ys → (∀ (T : Type) [Rep T] [Obj T] (q : Addr) (z : T), q ≠ p → Own K F H q z → Own K F1 H1 q z) → Wp ce E H0 (k ys) P → D.nx σ H1) :
    tDrop (tBM K "list" rPopAt (tVar i) (tCons ti tNil)) D σ H := by
  obtain ⟨vs, h1, h2⟩ := o.lst
  have hf := o.f
  have hA' : ∀ p ∈ A, H p ≠ none := fun p m => by obtain ⟨o, e, _⟩ := hA p m; rw [e]; exact fun z => nomatch z
  refine ⟨.ref p, hp, .inl ⟨rfl, vs, SqL.of h1⟩, hk _ H (Gr.rf (fz_h G.fh)) _ ?_⟩
  cases m1 with
  | ok y =>
    rintro F1 H1 vy g0 rfl
    have g := gr_th hF hA' G.fh g0
    have w' : Wp ce E H0 ((popAtM xs y).bind k) P := q
    unfold popAtM at w'
    split at w'
    · rename_i j hj
      unfold chk at w'
      split at w'
      · rename_i hc
        rw [← Paired.length h2] at hj
        have hl : j < vs.length := by rw [Paired.length h2]; exact hc.2.2
        have hf1 : th F1 A p = none := g.nw p hf (by rw [h1]; exact fun z => nomatch z)
        exact ⟨p, vs, y, j, _, rfl, rfl, g.hh _ _ h1, hc.1, hc.2.1, hj, List.getElem?_eq_getElem hl, c _ _ _ g.ff (Gr.mut (G.tr g) n0 hf1) (own_new hf1 upd_same (paired_erase j (paired_mo g.ff h2))) (fun T _ _ q z hq o => (o.mo g).upd hq) w'⟩
      · exact w'.elim
    · exact w'.elim
  | er cc => exact fun H' e => q H' (G.hh.tr e)
  | bad => exact q
variable {t2 : TS}
theorem q_setl (A : List Addr) {i : Nat} {p : Addr} {xs : List α} {m1 : M α} {m2 : M Int} {k : List α → M τ} [Flat α] (hp : σ[i]? = some (some (.ref p))) (o : Own K F H p xs) (n0 : H0 p = none) (G : Gr F0 H0 F H)
    (q : Wp ce E H0 (m1.bind fun x => m2.bind fun y => (setM xs y x).bind k) P) (hF : ∀ p ∈ A, F p = none) (hA : ∀ p ∈ A, ∃ o, H p = some o ∧ NoTup o) (h : Ev ce E te σ (fz F H A) H (rv K) m1) (hk : Ev ce E ti σ (fz F H A) H (rv K) m2)
    (c : ∀ ys F1 H1, Ex F F1 → Gr F0 H0 F1 H1 → Own K F1 H1 p ys → (∀ (T : Type) [Rep T] [Obj T] (q : Addr) (z : T), q ≠ p → Own K F H q z → Own K F1 H1 q z) → Wp ce E H0 (k ys) P → t2 D σ H1) :
    tSeq (tAsg te (gSub (tVar i) ti rSetL)) t2 D σ H := s_setl (D := { D with nx := t2 D }) A hp o n0 G q hF hA h hk c
theorem q_insl (A : List Addr) {i : Nat} {p : Addr} {xs : List α} {m1 : M Int} {m2 : M α} {k : List α → M τ} [Flat α] (hp : σ[i]? = some (some (.ref p))) (o : Own K F H p xs) (n0 : H0 p = none) (G : Gr F0 H0 F H)
    (q : Wp ce E H0 (m1.bind fun y => m2.bind fun x => (insM xs y x).bind k) P) (hF : ∀ p ∈ A, F p = none) (hA : ∀ p ∈ A, ∃ o, H p = some o ∧ NoTup o) (hk : Ev ce E ti σ (fz F H A) H (rv K) m1) (h : Ev ce E te σ (fz F H A) H (rv K) m2)
    (c : ∀ ys F1 H1, Ex F F1 → Gr F0 H0 F1 H1 → Own K F1 H1 p ys → (∀ (T : Type) [Rep T] [Obj T] (q : Addr) (z : T), q ≠ p → Own K F H q z → Own K F1 H1 q z) → Wp ce E H0 (k ys) P → t2 D σ H1) :
    tSeq (tDrop (tBM K "list" rIns (tVar i) (tCons ti (tCons te tNil)))) t2 D σ H := s_insl (D := { D with nx := t2 D }) A hp o n0 G q hF hA hk h c
theorem q_popl (A : List Addr) {i : Nat} {p : Addr} {xs : List α} {m1 : M Int} {k : List α → M τ} (hp : σ[i]? = some (some (.ref p))) (o : Own K F H p xs) (n0 : H0 p = none) (G : Gr F0 H0 F H)
    (q : Wp ce E H0 (m1.bind fun y => (popAtM xs y).bind k) P) (hF : ∀ p ∈ A, F p = none) (hA : ∀ p ∈ A, ∃ o, H p = some o ∧ NoTup o) (hk : Ev ce E ti σ (fz F H A) H (rv K) m1)
    (c : ∀ ys F1 H1, Ex F F1 → Gr F0 H0 F1 H1 → Own K F1 H1 p ys → (∀ (T : Type) [Rep T] [Obj T] (q : Addr) (z : T), q ≠ p → Own K F H q z → Own K F1 H1 q z) → Wp ce E H0 (k ys) P → t2 D σ H1) :
    tSeq (tDrop (tBM K "list" rPopAt (tVar i) (tCons ti tNil))) t2 D σ H := s_popl (D := { D with nx := t2 D }) A hp o n0 G q hF hA hk c
end
end Mw

set_option Elab.async false
set_option linter.all false
set_option maxRecDepth 100000
set_option maxHeartbeats 2000000
/-! Mw, part M: lists of two unlike things. -/
namespace Mw
open PySem L2
open Rep (rp)
/-- a word: a text that may stand in data that is compared -/
structure Wd where
  s : Str
  ok : PyData.canLay0 (.str s) = true
  deriving DecidableEq
def wd (x : Str) : Wd := if h : PyData.canLay0 (.str x) = true then ⟨x, h⟩ else ⟨Str.ofString "", by decide +kernel⟩
instance : Rep Wd := ⟨fun _ _ v x => v = .str x.s, fun _ h => h⟩
instance : Dat Wd := ⟨fun w => .str w.s, 0, fun {K H v x} h => by cases h; exact .str x.s, fun x => x.ok, fun _ => Nat.le_refl _, fun x y => by
  obtain ⟨x, hx⟩ := x
  obtain ⟨y, hy⟩ := y
  simp only [PyData.eqv, Wd.mk.injEq]
  rw [Bool.eq_iff_iff]; simp⟩
instance : NotN Wd := ⟨fun x => ⟨by show PyData.eqv .none (.str x.s) = false; simp [PyData.eqv], by show PyData.eqv (.str x.s) .none = false; simp [PyData.eqv]⟩⟩
instance : NN Wd := ⟨fun h => by cases h; exact fun z => nomatch z⟩
theorem wd_s {x : Str} (h : PyData.canLay0 (.str x) = true) : (wd x).s = x := by unfold wd; rw [dif_pos h]
structure H2 (α β : Type) where
  a : α
  b : β
  deriving DecidableEq
instance {α β : Type} [Rep α] [Rep β] : Rep (H2 α β) := ⟨fun K H v x => ∃ p u w, v = .ref p ∧ H p = some (.lst [u, w]) ∧ rp K H u x.a ∧ rp K H w x.b, fun e ⟨p, u, w, h1, h2, h3, h4⟩ => ⟨p, u, w, h1, e _ _ h2, Rep.mo e h3, Rep.mo e h4⟩⟩
instance {α β : Type} [Rep α] [Rep β] [DecidableEq α] [DecidableEq β] [Dat α] [Dat β] : Dat (H2 α β) where
  dat := fun x => .list [Dat.dat x.a, Dat.dat x.b]
  deep := max (Dat.deep α) (Dat.deep β) + 1
  dp := fun {K H v x} ⟨a, u, w, h1, h2, h3, h4⟩ => by subst h1; exact .lst (SqL.of h2) (.cons (Dat.dp h3) (.cons (Dat.dp h4) .nil))
  cl := fun x => by simp [PyData.canLay0, PyData.canLayAll0, Dat.cl]
  de := fun x => by
    show max (PyData.depth _) (max (PyData.depth _) 0) + 1 ≤ _
    have h1 := Dat.de x.a
    have h2 := Dat.de x.b
    omega
  eq := fun x y => by
    obtain ⟨x1, x2⟩ := x
    obtain ⟨y1, y2⟩ := y
    simp only [PyData.eqv, PyData.eqvAll, Dat.eq, Bool.and_true, H2.mk.injEq]
    simp
section
variable {α β : Type} [Rep α] [Rep β] {ce : Ce} {E : XK} {K : PySem.W.Frag} {σ : L2.St} {F H : Hp} {ta tb : TE}
theorem em_h2 {m1 : M α} {m2 : M β} (ha : Ev ce E ta σ F H (rv K) m1) (hb : Ev ce E tb σ F H (rv K) m2) : Ev ce E (tLst (tCons ta (tCons tb tNil))) σ F H (rv K) (m1.bind fun x => m2.bind fun y => .ok (H2.mk x y)) := fun F1 H1 g1 Q q => by
  refine ha F1 H1 g1 _ ?_
  cases m1 with
  | ok x =>
    intro F2 H2 v2 g2 q2
    refine hb F2 H2 (g1.tr g2) _ ?_
    cases m2 with
    | ok y =>
      refine fun F3 H3 v3 g3 q3 => ⟨by show 2 ≤ sizeLine; decide, fun p np => ?_⟩
      have e := Ex.nw (o := .lst [v2, v3]) (ex_back g3.fh np)
      exact q _ _ _ ((g2.tr g3).tr (Gr.new g3.fh np)) ⟨p, v2, v3, rfl, upd_same, Rep.mo (g3.ff.tr e) q2, Rep.mo e q3⟩
    | er c => exact fun H' e => q H' (g2.hh.tr e)
    | bad => exact q
  | er c => exact q
  | bad => exact q
theorem e_h2 {x : α} {y : β} (ha : Ev ce E ta σ F H (rv K) (.ok x)) (hb : Ev ce E tb σ F H (rv K) (.ok y)) : Ev ce E (tLst (tCons ta (tCons tb tNil))) σ F H (rv K) (.ok (H2.mk x y)) := em_h2 (m1 := .ok x) (m2 := .ok y) ha hb
theorem o_h2a {x : H2 α β} {i : Int} (hi : i = 0) : Op2 ce E K (rIxL K) (rv K) x i (.ok x.a) := fun F1 H1 vx vy e rx ry Q q => by
  obtain ⟨p, u, w, rfl, h2, h3, h4⟩ := rx
  cases ry
  subst hi
  exact ⟨p, [u, w], 0, u, rfl, rfl, SqL.of (e _ _ h2), rfl, q F1 H1 u (Gr.rf e) h3⟩
theorem o_h2b {x : H2 α β} {i : Int} (hi : i = 1) : Op2 ce E K (rIxL K) (rv K) x i (.ok x.b) := fun F1 H1 vx vy e rx ry Q q => by
  obtain ⟨p, u, w, rfl, h2, h3, h4⟩ := rx
  cases ry
  subst hi
  exact ⟨p, [u, w], 1, w, rfl, rfl, SqL.of (e _ _ h2), rfl, q F1 H1 w (Gr.rf e) h4⟩
theorem em_wd {x : Str} (h : PyData.canLay0 (.str x) = true) : Ev ce E (tC (.str x)) σ F H (rv K) (.ok (wd x)) := fun F1 H1 g Q q => q F1 H1 _ (Gr.rf g.fh) (by show V.str x = V.str (wd x).s; rw [wd_s h])
theorem wd_eq {x y : Wd} : decide (V.str x.s = V.str y.s) = decide (x = y) := by
  obtain ⟨x, hx⟩ := x
  obtain ⟨y, hy⟩ := y
  rw [Bool.eq_iff_iff]
  simp
theorem o_eqW {x y : Wd} : Op2 ce E K rEq (rv K) x y (.ok (decide (x = y))) := fun F1 H1 vx vy e rx ry Q q => by
  cases rx; cases ry
  refine ⟨rfl, ?_⟩
  rw [wd_eq]
  exact q F1 H1 _ (Gr.rf e) rfl
theorem o_neW {x y : Wd} : Op2 ce E K rNe (rv K) x y (.ok (!decide (x = y))) := fun F1 H1 vx vy e rx ry Q q => by
  cases rx; cases ry
  refine ⟨rfl, ?_⟩
  rw [wd_eq]
  exact q F1 H1 _ (Gr.rf e) rfl
end
end Mw

set_option Elab.async false
set_option linter.all false
set_option maxRecDepth 100000
set_option maxHeartbeats 2000000
/-! Mw, part N: quadruples; trees of triples over ints. -/
namespace Mw
open PySem L2
open Rep (rp)
instance {α β γ δ : Type} [Rep α] [Rep β] [Rep γ] [Rep δ] [DecidableEq α] [DecidableEq β] [DecidableEq γ] [DecidableEq δ] [Dat α] [Dat β] [Dat γ] [Dat δ] : Dat (T4 α β γ δ) where
  dat := fun x => .tuple [Dat.dat x.a, Dat.dat x.b, Dat.dat x.c, Dat.dat x.d]
  deep := max (Dat.deep α) (max (Dat.deep β) (max (Dat.deep γ) (Dat.deep δ))) + 1
  dp := fun {K H v x} ⟨a, u, w, z, y, h1, h2, h3, h4, h5, h6⟩ => by subst h1; exact .tup h2 (.cons (Dat.dp h3) (.cons (Dat.dp h4) (.cons (Dat.dp h5) (.cons (Dat.dp h6) .nil))))
  cl := fun x => by simp [PyData.canLay0, PyData.canLayAll0, Dat.cl]
  de := fun x => by
    show max (PyData.depth _) (max (PyData.depth _) (max (PyData.depth _) (max (PyData.depth _) 0))) + 1 ≤ _
    have h1 := Dat.de x.a
    have h2 := Dat.de x.b
    have h3 := Dat.de x.c
    have h4 := Dat.de x.d
    omega
  eq := fun x y => by
    obtain ⟨x1, x2, x3, x4⟩ := x
    obtain ⟨y1, y2, y3, y4⟩ := y
    simp only [PyData.eqv, PyData.eqvAll, Dat.eq, Bool.and_true, T4.mk.injEq]
    simp
instance {α β γ δ : Type} [Rep α] [Rep β] [Rep γ] [Rep δ] [DecidableEq α] [DecidableEq β] [DecidableEq γ] [DecidableEq δ] [Dat α] [Dat β] [Dat γ] [Dat δ] : NotN (T4 α β γ δ) := ⟨fun x => ⟨by show PyData.eqv .none (.tuple _) = false; simp [PyData.eqv], by show PyData.eqv (.tuple _) .none = false; simp [PyData.eqv]⟩⟩
section
variable {ρ α β γ δ W τ : Type} [Rep α] [Rep β] [Rep γ] [Rep δ] {ce : Ce} {E : XK} {K : PySem.W.Frag} {σ : L2.St} {F H F' H' F0 H0 : Hp} {te ta tb tc td : TE} {tt tu : TT} {md : Md ρ} {m : M ρ}
theorem em_tup4 {m1 : M α} {m2 : M β} {m3 : M γ} {m4 : M δ} (ha : Ev ce E ta σ F H (rv K) m1) (hb : Ev ce E tb σ F H (rv K) m2) (hc : Ev ce E tc σ F H (rv K) m3) (hd : Ev ce E td σ F H (rv K) m4) :
    Ev ce E (tTup (tCons ta (tCons tb (tCons tc (tCons td tNil))))) σ F H (rv K) (m1.bind fun x => m2.bind fun y => m3.bind fun z => m4.bind fun u => .ok (T4.mk x y z u)) := fun F1 H1 g1 Q q => by
  refine ha F1 H1 g1 _ ?_
  cases m1 with
  | ok x =>
    intro F2 H2 v2 g2 q2
    refine hb F2 H2 (g1.tr g2) _ ?_
    cases m2 with
    | ok y =>
      intro F3 H3 v3 g3 q3
      refine hc F3 H3 ((g1.tr g2).tr g3) _ ?_
      cases m3 with
      | ok z =>
        intro F4 H4 v4 g4 q4
        refine hd F4 H4 (((g1.tr g2).tr g3).tr g4) _ ?_
        cases m4 with
        | ok u =>
          refine fun F5 H5 v5 g5 q5 => ⟨by show 4 ≤ sizeLine; decide, fun p np => ?_⟩
          have e := Ex.nw (o := .tup [v2, v3, v4, v5]) (ex_back g5.fh np)
          exact q _ _ _ ((((g2.tr g3).tr g4).tr g5).tr (Gr.new g5.fh np)) ⟨p, v2, v3, v4, v5, rfl, SqT.of upd_same, Rep.mo (((g3.ff.tr g4.ff).tr g5.ff).tr e) q2, Rep.mo ((g4.ff.tr g5.ff).tr e) q3, Rep.mo (g5.ff.tr e) q4, Rep.mo e q5⟩
        | er c => exact fun H' e => q H' (((g2.tr g3).tr g4).hh.tr e)
        | bad => exact q
      | er c => exact fun H' e => q H' ((g2.tr g3).hh.tr e)
      | bad => exact q
    | er c => exact fun H' e => q H' (g2.hh.tr e)
    | bad => exact q
  | er c => exact q
  | bad => exact q
theorem e_tup4 {x : α} {y : β} {z : γ} {u : δ} (ha : Ev ce E ta σ F H (rv K) (.ok x)) (hb : Ev ce E tb σ F H (rv K) (.ok y)) (hc : Ev ce E tc σ F H (rv K) (.ok z)) (hd : Ev ce E td σ F H (rv K) (.ok u)) : Ev ce E (tTup (tCons ta (tCons tb (tCons tc (tCons td tNil))))) σ F H (rv K) (.ok (T4.mk x y z u)) := em_tup4 (m1 := .ok x) (m2 := .ok y) (m3 := .ok z) (m4 := .ok u) ha hb hc hd
theorem o_a4 {x : T4 α β γ δ} {i : Int} (hi : i = 0) : Op2 ce E K (rIxT K) (rv K) x i (.ok x.a) := fun F1 H1 vx vy e ⟨a, u, w, z, y, e1, e2, e3, e4, e5, e6⟩ ry Q q => by
  subst e1 hi
  cases ry
  exact ⟨a, [u, w, z, y], 0, u, rfl, rfl, ex_t e e2, rfl, q F1 H1 u (Gr.rf e) e3⟩
theorem o_b4 {x : T4 α β γ δ} {i : Int} (hi : i = 1) : Op2 ce E K (rIxT K) (rv K) x i (.ok x.b) := fun F1 H1 vx vy e ⟨a, u, w, z, y, e1, e2, e3, e4, e5, e6⟩ ry Q q => by
  subst e1 hi
  cases ry
  exact ⟨a, [u, w, z, y], 1, w, rfl, rfl, ex_t e e2, rfl, q F1 H1 w (Gr.rf e) e4⟩
theorem o_c4 {x : T4 α β γ δ} {i : Int} (hi : i = 2) : Op2 ce E K (rIxT K) (rv K) x i (.ok x.c) := fun F1 H1 vx vy e ⟨a, u, w, z, y, e1, e2, e3, e4, e5, e6⟩ ry Q q => by
  subst e1 hi
  cases ry
  exact ⟨a, [u, w, z, y], 2, z, rfl, rfl, ex_t e e2, rfl, q F1 H1 z (Gr.rf e) e5⟩
theorem o_d4 {x : T4 α β γ δ} {i : Int} (hi : i = 3) : Op2 ce E K (rIxT K) (rv K) x i (.ok x.d) := fun F1 H1 vx vy e ⟨a, u, w, z, y, e1, e2, e3, e4, e5, e6⟩ ry Q q => by
  subst e1 hi
  cases ry
  exact ⟨a, [u, w, z, y], 3, y, rfl, rfl, ex_t e e2, rfl, q F1 H1 y (Gr.rf e) e6⟩
theorem a_len4 {x : T4 α β γ δ} : OpA ce E (RC K R0) (rLenS K) (rv K) (x, ()) (.ok (4 : Int)) := fun F1 H1 vs e ⟨v, r, e1, ⟨a, u, w, z, y, h1, h2, h3, h4, h5, h6⟩, e3⟩ Q q => by
  cases e3
  subst e1 h1
  exact ⟨a, _, rfl, .inr (ex_t e h2), q F1 H1 _ (Gr.rf e) rfl⟩
def RTup4 (K : PySem.W.Frag) {α β γ δ : Type} [Rep α] [Rep β] [Rep γ] [Rep δ] (i j l n : Nat) : L2.St → Hp → L2.St → T4 α β γ δ → Prop := fun σ0 F σ2 x => ∃ u w z y, σ2 = (((σ0.set i (some u)).set j (some w)).set l (some z)).set n (some y) ∧ rp K F u x.a ∧ rp K F w x.b ∧ rp K F z x.c ∧ rp K F y x.d
theorem tg_tup4 {i j l n : Nat} : Tg K (α := T4 α β γ δ) (gTup K 4 (gCons (gName i) (gCons (gName j) (gCons (gName l) (gCons (gName n) gNil))))) (RTup4 K i j l n) := fun σ0 F H v x e ⟨a, u, w, z, y, h1, h2, h3, h4, h5, h6⟩ Q q =>
  ⟨a, [u, w, z, y], h1, ex_t e h2, rfl, u, [w, z, y], rfl, w, [z, y], rfl, z, [y], rfl, y, [], rfl, rfl, q _ ⟨u, w, z, y, rfl, h3, h4, h5, h6⟩⟩
theorem wipe4 {σ : L2.St} {i j l m : Nat} {u v w x : Option V} : wipe (((((wipe σ [i, j, l, m]).set i u).set j v).set l w).set m x) [i, j, l, m] = wipe σ [i, j, l, m] := by
  show (((((((((((σ.set m none).set l none).set j none).set i none).set i u).set j v).set l w).set m x).set m none).set l none).set j none).set i none = (((σ.set m none).set l none).set j none).set i none
  apply List.ext_getElem?
  intro n
  simp only [List.getElem?_set, List.length_set]
  by_cases a : i = n
  · subst a; simp
  · by_cases b : j = n
    · subst b; simp [a]
    · by_cases c : l = n
      · subst c; simp [a, b]
      · by_cases d : m = n
        · subst d; simp [a, b, c]
        · simp [a, b, c, d]
end
/-! ### a list of one's own is walked: lent to the loop, taken back behind it -/
section
variable {K : PySem.W.Frag} {F H F' H' F0 H0 F1 H1 : Hp} {T : Type} [Rep T] [Obj T]
theorem own_lend {p : Addr} {x : T} (G : Gr F0 H0 F H) (o : Own K F H p x) (n0 : H0 p = none) : ∃ F', Gr F0 H0 F' H ∧ Ex F F' ∧ rp K F' (.ref p) x ∧ (∀ q, q ≠ p → F' q = F q) ∧ F' p = H p := by
  obtain ⟨⟨u, h1, h2⟩, h3⟩ := o
  refine ⟨upd F p u, ⟨G.ff.tr (Ex.nw h3), fun a w e => ?_, G.hh, fun b a1 a2 => ?_⟩, Ex.nw h3, Obj.rep upd_same (Obj.mo (Ex.nw h3) h2), fun q hq => upd_ne hq, by rw [upd_same, h1]⟩
  · by_cases z : a = p
    · subst z; rw [upd_same] at e; rw [h1]; exact e
    · rw [upd_ne z] at e; exact G.fh a w e
  · have : b ≠ p := fun z => by subst z; exact a2 n0
    rw [upd_ne this]; exact G.nw b a1 a2
theorem own_back {p : Addr} {x : T} (o : Own K F H p x) (n0 : F0 p = none) (e : Ex F F') (hp : F' p = H p) (e1 : Ex F' F1) (G : Gr F0 H0 F1 H1) : ∃ Fu, Gr F0 H0 Fu H1 ∧ Ex F Fu ∧ Own K Fu H1 p x ∧ TupEx F1 Fu ∧ (∀ q, q ≠ p → Fu q = F1 q) := by
  obtain ⟨⟨u, h1, h2⟩, h3⟩ := o
  have a1 : F1 p = some u := e1 _ _ (by rw [hp]; exact h1)
  have a2 : H1 p = some u := G.fh _ _ a1
  have aq : ∀ q, q ≠ p → th F1 [p] q = F1 q := fun q hq => by unfold th; rw [if_neg (by simpa using hq)]
  have ap : th F1 [p] p = none := by unfold th; rw [if_pos (by simp)]
  have ee : Ex F (th F1 [p]) := fun a w h => by
    have : a ≠ p := fun z => by subst z; rw [h3] at h; cases h
    rw [aq a this]; exact e1 _ _ (e _ _ h)
  refine ⟨th F1 [p], ⟨fun a w h => ?_, fun a w h => ?_, G.hh, fun b b1 b2 => ?_⟩, ee, ⟨⟨u, a2, Obj.mo ee h2⟩, ap⟩, ?_, aq⟩
  · have : a ≠ p := fun z => by subst z; rw [n0] at h; cases h
    rw [aq a this]; exact G.ff a w h
  · have : a ≠ p := fun z => by subst z; rw [ap] at h; cases h
    rw [aq a this] at h; exact G.fh a w h
  · by_cases z : b = p
    · subst z; exact ap
    · rw [aq b z]; exact G.nw b b1 b2
  · refine th_tup fun q m xs r => ?_
    rw [List.mem_singleton.mp m] at r
    have nt := Obj.nt h2
    rcases r with r | ⟨w, r⟩
    · rw [a1] at r; exact nt.1 xs (Option.some.inj r)
    · rw [a1] at r; exact nt.2 w xs (Option.some.inj r)
theorem own_fl {α : Type} [Rep α] [Flat α] {q : Addr} {x : List α} (o : Own K F H q x) (e : TupEx F F') (h : F' q = F q) : Own K F' H q x := by
  obtain ⟨⟨u, h1, vs, h2, h4⟩, h3⟩ := o
  exact ⟨⟨u, h1, vs, h2, paired_fl e h4⟩, by rw [h]; exact h3⟩
end
/-! ### trees -/
inductive Tr where
  | lf (n : Int)
  | nd (s : Int) (a b : Tr)
  deriving DecidableEq
def Tr.isN : Tr → Bool
  | .lf _ => false
  | .nd _ _ _ => true
def rTr (K : PySem.W.Frag) (H : Hp) : Tr → V → Prop
  | .lf n, v => v = .int n
  | .nd s a b, v => ∃ p w z, v = .ref p ∧ SqT K H p [.int s, w, z] ∧ rTr K H a w ∧ rTr K H b z
theorem rTr_mo {K : PySem.W.Frag} {H H' : Hp} (e : Ex H H') : ∀ {x : Tr} {v : V}, rTr K H x v → rTr K H' x v
  | .lf _, _, h => h
  | .nd _ _ _, _, ⟨p, w, z, h1, h2, h3, h4⟩ => ⟨p, w, z, h1, ex_t e h2, rTr_mo e h3, rTr_mo e h4⟩
instance : Rep Tr := ⟨fun K H v x => rTr K H x v, fun e h => rTr_mo e h⟩
theorem rTr_fl {K : PySem.W.Frag} {H H' : Hp} (e : TupEx H H') : ∀ {x : Tr} {v : V}, rTr K H x v → rTr K H' x v
  | .lf _, _, h => h
  | .nd _ _ _, _, ⟨p, w, z, h1, h2, h3, h4⟩ => ⟨p, w, z, h1, tup_t e h2, rTr_fl e h3, rTr_fl e h4⟩
instance : Flat Tr := ⟨fun e h => rTr_fl e h⟩
instance : NN Tr := ⟨fun {K F v x} h => by
  cases x with
  | lf n => rw [show v = .int n from h]; exact fun z => nomatch z
  | nd s a b => obtain ⟨p, w, z, h1, _⟩ := h; rw [h1]; exact fun z => nomatch z⟩
def trI : Tr → M Int
  | .lf n => .ok n
  | .nd _ _ _ => .bad
def trA : Tr → M Int
  | .nd s _ _ => .ok s
  | .lf _ => .bad
def trK : Tr → Int → M Tr
  | .nd s a b, i => if i = 0 then .ok (.lf s) else if i = 1 then .ok a else if i = 2 then .ok b else .bad
  | .lf _, _ => .bad
section
variable {ρ : Type} {ce : Ce} {E : XK} {K : PySem.W.Frag} {σ : L2.St} {F H F' H' F0 H0 : Hp} {te ta tb tc td : TE} {tt tu : TT}
theorem em_trl {m : M Int} (h : Ev ce E te σ F H (rv K) m) : Ev ce E te σ F H (rv K) (m.bind fun x => .ok (Tr.lf x)) := fun F1 H1 g1 Q q => by
  refine h F1 H1 g1 _ ?_
  cases m with
  | ok x => exact fun F2 H2 v g2 r => q F2 H2 v g2 r
  | er c => exact q
  | bad => exact q
theorem e_trl {x : Int} (h : Ev ce E te σ F H (rv K) (.ok x)) : Ev ce E te σ F H (rv K) (.ok (Tr.lf x)) := em_trl (m := .ok x) h
theorem em_trn {m : M (T3 Int Tr Tr)} (h : Ev ce E te σ F H (rv K) m) : Ev ce E te σ F H (rv K) (m.bind fun x => .ok (Tr.nd x.a x.b x.c)) := fun F1 H1 g1 Q q => by
  refine h F1 H1 g1 _ ?_
  cases m with
  | ok x =>
    intro F2 H2 v g2 ⟨a, u, w, z, h1, h2, h3, h4, h5⟩
    have h3' : u = .int x.a := h3
    exact q F2 H2 v g2 ⟨a, w, z, h1, by rw [← h3']; exact h2, h4, h5⟩
  | er c => exact q
  | bad => exact q
theorem e_trn {x : T3 Int Tr Tr} (h : Ev ce E te σ F H (rv K) (.ok x)) : Ev ce E te σ F H (rv K) (.ok (Tr.nd x.a x.b x.c)) := em_trn (m := .ok x) h
theorem em_trI {m : M Tr} (h : Ev ce E te σ F H (rv K) m) : Ev ce E te σ F H (rv K) (m.bind trI) := fun F1 H1 g1 Q q => by
  refine h F1 H1 g1 _ ?_
  cases m with
  | ok x =>
    cases x with
    | lf n => exact fun F2 H2 v g2 r => q F2 H2 v g2 r
    | nd s a b => exact q.elim
  | er c => exact q
  | bad => exact q
theorem o_trA {x : Tr} {i : Int} (hi : i = 0) : Op2 ce E K (rIxT K) (rv K) x i (trA x) := fun F1 H1 vx vy e rx ry Q q => by
  subst hi
  cases ry
  cases x with
  | lf n => exact q.elim
  | nd s a b =>
    obtain ⟨p, w, z, h1, h2, h3, h4⟩ := rx
    subst h1
    exact ⟨p, [.int s, w, z], 0, .int s, rfl, rfl, ex_t e h2, rfl, q F1 H1 _ (Gr.rf e) rfl⟩
theorem o_trK {x : Tr} {i : Int} : Op2 ce E K (rIxT K) (rv K) x i (trK x i) := fun F1 H1 vx vy e rx ry Q q => by
  cases ry
  cases x with
  | lf n => exact q.elim
  | nd s a b =>
    obtain ⟨p, w, z, h1, h2, h3, h4⟩ := rx
    subst h1
    by_cases c0 : i = 0
    · subst c0
      exact ⟨p, [.int s, w, z], 0, .int s, rfl, rfl, ex_t e h2, rfl, q F1 H1 _ (Gr.rf e) rfl⟩
    · by_cases c1 : i = 1
      · subst c1
        exact ⟨p, [.int s, w, z], 1, w, rfl, rfl, ex_t e h2, rfl, q F1 H1 _ (Gr.rf e) h3⟩
      · by_cases c2 : i = 2
        · subst c2
          exact ⟨p, [.int s, w, z], 2, z, rfl, rfl, ex_t e h2, rfl, q F1 H1 _ (Gr.rf e) h4⟩
        · rw [show trK (.nd s a b) i = .bad from by unfold trK; dsimp only; rw [if_neg c0, if_neg c1, if_neg c2]] at q
          exact q.elim
/-- one plain operand's place, that may fail -/
theorem em_ixm {α β γ : Type} [Rep α] [Rep β] [Rep γ] {r : R2} {m1 : M α} {y : β} {g : α → M γ} (ha : Ev ce E ta σ F H (rv K) m1) (hb : Ev ce E tb σ F H (rv K) (.ok y)) (hr : ∀ x, Op2 ce E K r (rv K) x y (g x)) : Ev ce E (tOp r ta tb) σ F H (rv K) (m1.bind g) := fun F1 H1 g1 Q q => by
  refine ha F1 H1 g1 _ ?_
  cases m1 with
  | ok x => exact fun F2 H2 vx g2 rx => hb F2 H2 (g1.tr g2) _ fun F3 H3 vy g3 ry => hr x F3 H3 vx vy g3.fh (Rep.mo g3.ff rx) ry Q (Post.mo (g2.tr g3) q)
  | er c => exact q
  | bad => exact q
theorem em_isiT {m : M Tr} {n : String} {b c : Bool} (ha : Ev ce E ta σ F H (rv K) m) (hn : PySem.W.kitOne K (.type "int") (.type n) = some c) (hb : PySem.W.kitOne K (.type "tuple") (.type n) = some b) :
    Ev ce E (tCB (rIsi K) (tCons ta (tCons (tC (.ty n)) tNil))) σ F H (rv K) (m.bind fun x => .ok (if x.isN then b else c)) := fun F1 H1 g1 Q q => by
  refine ha F1 H1 g1 _ ?_
  cases m with
  | ok x =>
    intro F2 H2 v g2 r
    cases x with
    | lf i => cases (show v = .int i from r); exact ⟨_, .ty n, _, _, c, rfl, .ty n, .base (.int i), hn, q F2 H2 _ g2 rfl⟩
    | nd s a d =>
      obtain ⟨p, w, z, h1, h2, h3, h4⟩ := r
      subst h1
      exact ⟨_, .ty n, _, _, b, rfl, .ty n, tyx_tup g2.fh h2, hb, q F2 H2 _ g2 rfl⟩
  | er c => exact q
  | bad => exact q
end
end Mw

set_option Elab.async false
set_option linter.all false
set_option maxRecDepth 100000
set_option maxHeartbeats 2000000
/-! Mw, part O: script + [..]. -/
namespace Mw
open PySem L2
open Rep (rp)
def rCatL (K : PySem.W.Frag) : R2 := fun x y H Q => ∃ l b xs zs, x = V.ref l ∧ y = V.ref b ∧ SqL K H l xs ∧ SqL K H b zs ∧ xs.length + zs.length ≤ sizeLine ∧ ∀ p, H p = none → Q (V.ref p) (upd H p (HO.lst (xs ++ zs)))
theorem op_catL {X : Cx} : OpR X (binaryOp .Add) (rCatL X.K) := by
  intro pins s σ H x y v u Q I rx ry h
  obtain ⟨l, b, xs, zs, rfl, rfl, h1, h2, hz, q⟩ := h
  cases rx
  cases ry
  obtain ⟨i1, r1, p1, l1⟩ := I.list h1
  obtain ⟨i2, r2, p2, l2⟩ := I.list h2
  obtain ⟨⟨c1, d1, a1, s1⟩, n1, g1, hc1, hd1, ha1⟩ := p1
  obtain ⟨⟨c2, d2, a2, s2⟩, n2, g2, hc2, hd2, ha2⟩ := p2
  dsimp only at hc1 hd1 ha1 hc2 hd2 ha2
  subst hc1 ha1 hc2 ha2
  have e1 := r1.length
  have e2 := r2.length
  refine concat_meets ⟨_, g1, rfl⟩ ⟨_, g2, rfl⟩ noFill_list_add seq_list_add PySem.F.slot_list_add PySem.F.entry_list_add (PySem.F.args_list_add_2 (Value.ref l) (Value.ref b)) (PyProof.Rows.list_addW l b i1.toArray i2.toArray n1 n2 d1 d2 s1 s2 (by simp; omega)) ⟨g1, g2, ?_⟩
  rw [List.append_toArray]
  exact ⟨V.ref s.heap.objs.size, upd H s.heap.objs.size (HO.lst (xs ++ zs)), I.lnew (r1.append r2) (by rw [List.length_append]; exact hz), rfl, q s.heap.objs.size I.fresh⟩
section
variable {ce : Ce} {E : XK} {K : PySem.W.Frag}
theorem o_catS {xs : Scr} {ys : List Int} : Op2 ce E K (rCatL K) (rn K) xs ys (catM xs.l ys) := fun F1 H1 vx vy e ⟨a, h1, h2⟩ ⟨b, ws, k1, k2, k3⟩ Q q => by
  unfold catM chk at q
  split at q
  · rename_i hc
    refine ⟨a, b, _, ws, h1, k1, ex_l e h2, SqL.of (e _ _ k2), ?_, fun p np => ?_⟩
    · rw [Paired.length k3, List.length_map, sizeLine_eq]; omega
    · exact q F1 _ _ (Gr.own e np) ⟨p, _, rfl, np, ex_back e np, upd_same, paired_app (rep_int xs.l) k3⟩
  · exact q.elim
end
/-- a loop by what is known behind each turn -/
theorem forM_by {α S τ : Type} {f : α → S → M (Ctl S τ)} {k : S → M τ} {P : M τ → Prop} (J : List α → S → Prop) {xs : List α} {s : S} (h0 : J [] s)
    (hs : ∀ p x s, (p ++ [x]) <+: xs → J p s → ∃ s', f x s = .ok (.nx s') ∧ J (p ++ [x]) s') (hk : ∀ s', J xs s' → P (k s')) : P (forM f k xs s) := by
  obtain ⟨s', h1, e⟩ := forM_ex (f := f) (k := k) J xs [] s h0 hs
  rw [e]
  exact hk s' h1
/-! ### a list of three unlike things -/
structure H3 (α β γ : Type) where
  a : α
  b : β
  c : γ
  deriving DecidableEq
instance {α β γ : Type} [Rep α] [Rep β] [Rep γ] : Rep (H3 α β γ) := ⟨fun K H v x => ∃ p u w z, v = .ref p ∧ H p = some (.lst [u, w, z]) ∧ rp K H u x.a ∧ rp K H w x.b ∧ rp K H z x.c, fun e ⟨p, u, w, z, h1, h2, h3, h4, h5⟩ => ⟨p, u, w, z, h1, e _ _ h2, Rep.mo e h3, Rep.mo e h4, Rep.mo e h5⟩⟩
instance {α β γ : Type} [Rep α] [Rep β] [Rep γ] [DecidableEq α] [DecidableEq β] [DecidableEq γ] [Dat α] [Dat β] [Dat γ] : Dat (H3 α β γ) where
  dat := fun x => .list [Dat.dat x.a, Dat.dat x.b, Dat.dat x.c]
  deep := max (Dat.deep α) (max (Dat.deep β) (Dat.deep γ)) + 1
  dp := fun {K H v x} ⟨a, u, w, z, h1, h2, h3, h4, h5⟩ => by subst h1; exact .lst (SqL.of h2) (.cons (Dat.dp h3) (.cons (Dat.dp h4) (.cons (Dat.dp h5) .nil)))
  cl := fun x => by simp [PyData.canLay0, PyData.canLayAll0, Dat.cl]
  de := fun x => by
    show max (PyData.depth _) (max (PyData.depth _) (max (PyData.depth _) 0)) + 1 ≤ _
    have h1 := Dat.de x.a
    have h2 := Dat.de x.b
    have h3 := Dat.de x.c
    omega
  eq := fun x y => by
    obtain ⟨x1, x2, x3⟩ := x
    obtain ⟨y1, y2, y3⟩ := y
    simp only [PyData.eqv, PyData.eqvAll, Dat.eq, Bool.and_true, H3.mk.injEq]
    simp
section
variable {α β γ : Type} [Rep α] [Rep β] [Rep γ] {ce : Ce} {E : XK} {K : PySem.W.Frag} {σ : L2.St} {F H : Hp} {ta tb tc : TE}
theorem em_h3 {m1 : M α} {m2 : M β} {m3 : M γ} (ha : Ev ce E ta σ F H (rv K) m1) (hb : Ev ce E tb σ F H (rv K) m2) (hc : Ev ce E tc σ F H (rv K) m3) : Ev ce E (tLst (tCons ta (tCons tb (tCons tc tNil)))) σ F H (rv K) (m1.bind fun x => m2.bind fun y => m3.bind fun z => .ok (H3.mk x y z)) := fun F1 H1 g1 Q q => by
  refine ha F1 H1 g1 _ ?_
  cases m1 with
  | ok x =>
    intro F2 H2 v2 g2 q2
    refine hb F2 H2 (g1.tr g2) _ ?_
    cases m2 with
    | ok y =>
      intro F3 H3 v3 g3 q3
      refine hc F3 H3 ((g1.tr g2).tr g3) _ ?_
      cases m3 with
      | ok z =>
        refine fun F4 H4 v4 g4 q4 => ⟨by show 3 ≤ sizeLine; decide, fun p np => ?_⟩
        have e := Ex.nw (o := .lst [v2, v3, v4]) (ex_back g4.fh np)
        exact q _ _ _ (((g2.tr g3).tr g4).tr (Gr.new g4.fh np)) ⟨p, v2, v3, v4, rfl, upd_same, Rep.mo ((g3.ff.tr g4.ff).tr e) q2, Rep.mo (g4.ff.tr e) q3, Rep.mo e q4⟩
      | er c => exact fun H' e => q H' ((g2.tr g3).hh.tr e)
      | bad => exact q
    | er c => exact fun H' e => q H' (g2.hh.tr e)
    | bad => exact q
  | er c => exact q
  | bad => exact q
theorem e_h3 {x : α} {y : β} {z : γ} (ha : Ev ce E ta σ F H (rv K) (.ok x)) (hb : Ev ce E tb σ F H (rv K) (.ok y)) (hc : Ev ce E tc σ F H (rv K) (.ok z)) : Ev ce E (tLst (tCons ta (tCons tb (tCons tc tNil)))) σ F H (rv K) (.ok (H3.mk x y z)) := em_h3 (m1 := .ok x) (m2 := .ok y) (m3 := .ok z) ha hb hc
theorem o_h3a {x : H3 α β γ} {i : Int} (hi : i = 0) : Op2 ce E K (rIxL K) (rv K) x i (.ok x.a) := fun F1 H1 vx vy e rx ry Q q => by
  obtain ⟨p, u, w, z, rfl, h2, h3, h4, h5⟩ := rx
  cases ry
  subst hi
  exact ⟨p, [u, w, z], 0, u, rfl, rfl, SqL.of (e _ _ h2), rfl, q F1 H1 u (Gr.rf e) h3⟩
theorem o_h3b {x : H3 α β γ} {i : Int} (hi : i = 1) : Op2 ce E K (rIxL K) (rv K) x i (.ok x.b) := fun F1 H1 vx vy e rx ry Q q => by
  obtain ⟨p, u, w, z, rfl, h2, h3, h4, h5⟩ := rx
  cases ry
  subst hi
  exact ⟨p, [u, w, z], 1, w, rfl, rfl, SqL.of (e _ _ h2), rfl, q F1 H1 w (Gr.rf e) h4⟩
theorem o_h3c {x : H3 α β γ} {i : Int} (hi : i = 2) : Op2 ce E K (rIxL K) (rv K) x i (.ok x.c) := fun F1 H1 vx vy e rx ry Q q => by
  obtain ⟨p, u, w, z, rfl, h2, h3, h4, h5⟩ := rx
  cases ry
  subst hi
  exact ⟨p, [u, w, z], 2, z, rfl, rfl, SqL.of (e _ _ h2), rfl, q F1 H1 z (Gr.rf e) h5⟩
end
end Mw

set_option Elab.async false
set_option linter.all false
set_option maxRecDepth 100000
set_option maxHeartbeats 2000000
/-! Mw, part P: tests over one's own lists; rows of ints and words; a parameter of one's own; the object with parts and rows. -/
namespace Mw
open PySem L2
open Rep (rp)
section
variable {ce : Ce} {E : XK} {K : PySem.W.Frag} {σ : L2.St} {F H : Hp} {tt : TT}
/-- a test that reads lists of one's own -/
theorem t_lend (A : List Addr) {m : M Bool} (hF : ∀ p ∈ A, F p = none) (hA : ∀ p ∈ A, ∃ o, H p = some o ∧ NoTup o) (h : EvT ce E tt σ (fz F H A) H m) : EvT ce E tt σ F H m := fun F1 H1 g Q q => by
  have hA' : ∀ p ∈ A, H p ≠ none := fun p m => by obtain ⟨o, e, _⟩ := hA p m; rw [e]; exact fun z => nomatch z
  have hF1 : ∀ p ∈ A, F1 p = none := fun p m => g.nw p (hF p m) (hA' p m)
  have hA1 : ∀ p ∈ A, H1 p ≠ none := fun p m => g.hh.ne (hA' p m)
  have gz : Gr (fz F H A) H (fz F1 H1 A) H1 := ⟨fun a o e => by
    unfold fz at e ⊢
    split
    · rename_i c; rw [if_pos c] at e; exact g.hh a o e
    · rename_i c; rw [if_neg c] at e; exact g.ff a o e, fz_h g.fh, g.hh, fun b h1 h2 => by
    unfold fz at h1 ⊢
    split
    · rename_i c; rw [if_pos c] at h1; exact absurd h1 h2
    · rename_i c; rw [if_neg c] at h1; exact g.nw b h1 h2⟩
  refine h (fz F1 H1 A) H1 gz Q ?_
  cases m with
  | ok r => exact fun F2 H2 g2 => q (th F2 A) H2 (gr_th hF1 hA1 g.fh g2)
  | er c => exact q
  | bad => exact q
end
/-! ### cells and rows -/
inductive Cl where
  | i (n : Int)
  | w (s : Wd)
  deriving DecidableEq
def rCl : Cl → V → Prop
  | .i n, v => v = .int n
  | .w s, v => v = .str s.s
instance : Rep Cl := ⟨fun _ _ v x => rCl x v, fun _ h => h⟩
instance : Flat Cl := ⟨fun _ h => h⟩
instance : NN Cl := ⟨fun {K F v x} h => by
  cases x with
  | i n => rw [show v = .int n from h]; exact fun z => nomatch z
  | w s => rw [show v = .str s.s from h]; exact fun z => nomatch z⟩
instance : Dat Cl where
  dat := fun x => match x with
    | .i n => .int n
    | .w s => .str s.s
  deep := 0
  dp := fun {K H v x} h => by
    cases x with
    | i n => rw [show v = .int n from h]; exact .int n
    | w s => rw [show v = .str s.s from h]; exact .str s.s
  cl := fun x => by
    cases x with
    | i n => rfl
    | w s => exact s.ok
  de := fun x => by cases x <;> exact Nat.le_refl _
  eq := fun x y => by
    rw [Bool.eq_iff_iff]
    cases x with
    | i n => cases y <;> simp [PyData.eqv]
    | w s =>
      cases y with
      | i n => simp [PyData.eqv]
      | w t =>
        obtain ⟨s, hs⟩ := s
        obtain ⟨t, ht⟩ := t
        simp [PyData.eqv]
structure Row where
  cs : List Cl
  deriving DecidableEq
instance : Rep Row := ⟨fun K H v x => ∃ a vs, v = .ref a ∧ SqT K H a vs ∧ Paired (rp K H) vs x.cs, fun e ⟨a, vs, h1, h2, h3⟩ => ⟨a, vs, h1, ex_t e h2, paired_mo e h3⟩⟩
instance : Flat Row := ⟨fun e ⟨a, vs, h1, h2, h3⟩ => ⟨a, vs, h1, tup_t e h2, paired_fl e h3⟩⟩
instance : NN Row := ⟨fun ⟨a, vs, h1, _⟩ => by subst h1; exact fun z => nomatch z⟩
instance : Dat Row where
  dat := fun x => .tuple (x.cs.map Dat.dat)
  deep := 1
  dp := fun {K H v x} ⟨a, vs, h1, h2, h3⟩ => by subst h1; exact .tup h2 (dpAll_of h3)
  cl := fun x => by simpa [PyData.canLay0] using clAll x.cs
  de := fun x => by
    show PyData.depthAll (x.cs.map Dat.dat) + 1 ≤ _
    exact Nat.succ_le_succ (deAll x.cs)
  eq := fun x y => by
    obtain ⟨x⟩ := x
    obtain ⟨y⟩ := y
    simpa [PyData.eqv] using eqAll x y
instance : NotN Row := ⟨fun x => ⟨by show PyData.eqv .none (.tuple _) = false; simp [PyData.eqv], by show PyData.eqv (.tuple _) .none = false; simp [PyData.eqv]⟩⟩
def clI : Cl → M Int
  | .i n => .ok n
  | .w _ => .bad
section
variable {α β γ ρ : Type} [Rep α] [Rep β] [Rep γ] {ce : Ce} {E : XK} {K : PySem.W.Frag} {σ : L2.St} {F H F' H' F0 H0 : Hp} {te ta tb tc td : TE} {tt tu : TT}
instance : Ty Row := ⟨"tuple", fun {K F H v x} e ⟨a, vs, h1, h2, _⟩ => by subst h1; exact tyx_tup e h2⟩
theorem em_clI {m : M Cl} (h : Ev ce E te σ F H (rv K) m) : Ev ce E te σ F H (rv K) (m.bind clI) := fun F1 H1 g1 Q q => by
  refine h F1 H1 g1 _ ?_
  cases m with
  | ok x =>
    cases x with
    | i n => exact fun F2 H2 v g2 r => q F2 H2 v g2 r
    | w s => exact q.elim
  | er c => exact q
  | bad => exact q
theorem em_cli {m : M Int} (h : Ev ce E te σ F H (rv K) m) : Ev ce E te σ F H (rv K) (m.bind fun x => .ok (Cl.i x)) := fun F1 H1 g1 Q q => by
  refine h F1 H1 g1 _ ?_
  cases m with
  | ok x => exact fun F2 H2 v g2 r => q F2 H2 v g2 r
  | er c => exact q
  | bad => exact q
theorem e_cli {x : Int} (h : Ev ce E te σ F H (rv K) (.ok x)) : Ev ce E te σ F H (rv K) (.ok (Cl.i x)) := em_cli (m := .ok x) h
theorem em_clw {m : M Wd} (h : Ev ce E te σ F H (rv K) m) : Ev ce E te σ F H (rv K) (m.bind fun x => .ok (Cl.w x)) := fun F1 H1 g1 Q q => by
  refine h F1 H1 g1 _ ?_
  cases m with
  | ok x => exact fun F2 H2 v g2 r => q F2 H2 v g2 r
  | er c => exact q
  | bad => exact q
theorem e_clw {x : Wd} (h : Ev ce E te σ F H (rv K) (.ok x)) : Ev ce E te σ F H (rv K) (.ok (Cl.w x)) := em_clw (m := .ok x) h
theorem o_rowix {xs : Row} {i : Int} : Op2 ce E K (rIxT K) (rv K) xs i (ixM xs.cs i) := fun F1 H1 vx vy e ⟨a, vs, h1, h2, h3⟩ ry Q q => by
  subst h1
  cases ry
  unfold ixM at q
  split at q
  · rename_i x hx
    obtain ⟨v, hv, rv'⟩ := atI_pair h3 hx
    exact ⟨a, vs, i, v, rfl, rfl, ex_t e h2, hv, q F1 H1 v (Gr.rf e) rv'⟩
  · exact q.elim
theorem a_lenR {x : Row} : OpA ce E (RC K R0) (rLenS K) (rv K) (x, ()) (.ok (x.cs.length : Int)) := fun F1 H1 vs e ⟨v, r, e1, ⟨a, us, h1, h2, h3⟩, e3⟩ Q q => by
  cases e3
  subst e1 h1
  refine ⟨a, _, rfl, .inr (ex_t e h2), ?_⟩
  rw [Paired.length h3]
  exact q F1 H1 _ (Gr.rf e) rfl
theorem em_row {ta : TA} {m : M (List Cl)} (ha : EvL ce E K ta σ F H m) : Ev ce E (tTup ta) σ F H (rv K) (m.bind fun x => chk (x.length ≤ 1000) (Row.mk x)) := fun F1 H1 g1 Q q => by
  refine ha F1 H1 g1 _ ?_
  cases m with
  | ok x =>
    have q' : Post ce (rv K) (chk (x.length ≤ 1000) (Row.mk x)) F1 H1 Q E := q
    unfold chk at q'
    intro F2 H2 vs g2 r2
    by_cases hx : x.length ≤ 1000
    · rw [if_pos hx] at q'
      refine ⟨Nat.le_of_lt (small1000 (by rw [Paired.length r2]; exact hx)), fun p np => ?_⟩
      have e := Ex.nw (o := .tup vs) (ex_back g2.fh np)
      exact q' _ _ _ (g2.tr (Gr.new g2.fh np)) ⟨p, vs, rfl, SqT.of upd_same, paired_mo e r2⟩
    · rw [if_neg hx] at q'
      exact q'.elim
  | er c => exact q
  | bad => exact q
end
/-! ### a parameter of one's own: the first one -/
def SpO (ce : Ce) (K : PySem.W.Frag) {α β ρ : Type} [Rep α] (R : Hp → List V → β → Prop) (md : Md ρ) (f : List α × β → M ρ) : Sp := fun vs H Q E => ∃ F H0 p us x y r, vs = .ref p :: r ∧ Ex F H0 ∧ H0 p = none ∧ H = upd H0 p (.lst us) ∧ Paired (rp K F) us x ∧ R F r y ∧ Post ce md (f (x, y)) F H0 Q E
def SpO0 (ce : Ce) (K : PySem.W.Frag) {α β ρ : Type} [Rep α] (R : Hp → List V → β → Prop) (md : Md ρ) (f : List α × β → M ρ) : Sp := fun vs H Q _ => ∃ F H0 p us x y r, vs = .ref p :: r ∧ Ex F H0 ∧ H0 p = none ∧ H = upd H0 p (.lst us) ∧ Paired (rp K F) us x ∧ R F r y ∧ Post ce md (f (x, y)) F H0 Q E0
section
variable {α β ρ : Type} [Rep α] {ce : Ce} {E : XK} {K : PySem.W.Frag} {σ : L2.St} {F H : Hp} {ta : TE} {tr : TA} {md : Md ρ}
theorem own_start {p : Addr} {us : List V} {x : List α} (e : Ex F H) (h : H p = none) (r : Paired (rp K F) us x) : Gr F H F (upd H p (.lst us)) ∧ Own K F (upd H p (.lst us)) p x :=
  ⟨Gr.own e h, ⟨⟨.lst us, upd_same, us, rfl, r⟩, ex_back e h⟩⟩
theorem callO [MdMo md] {m1 : M (List α)} {m2 : M β} {R : Hp → List V → β → Prop} {f : List α × β → M ρ} {Ec : XK} {P : List V → Hp → VK → Prop}
    (hP : ∀ F1 H1 p us x y r (Q : VK), Ex F1 H1 → H1 p = none → Paired (rp K F1) us x → R F1 r y → Post ce md (f (x, y)) F1 H1 Q E → P (.ref p :: r) (upd H1 p (.lst us)) Q)
    (ha : Ev ce E ta σ F H (rn K) m1) (hb : EvAM ce E tr σ F H m2 R) : ∀ F1 H1, Gr F H F1 H1 → ∀ Q : VK, Post ce md (m1.bind fun x => m2.bind fun y => f (x, y)) F1 H1 Q E → tCons ta tr σ H1 fun vs H2 => P vs H2 Q := fun F1 H1 g1 Q q => by
  refine ha F1 H1 g1 _ ?_
  cases m1 with
  | ok x =>
    rintro F2 H2 v g2 ⟨p, us, rfl, p1, p2, p3, p4⟩
    refine hb F2 H2 (g1.tr g2) _ ?_
    cases m2 with
    | ok y =>
      intro F3 H3 vs g3 r3
      have n3 : F3 p = none := g3.nw p p2 (by rw [p3]; exact fun z => nomatch z)
      have h3 : H3 p = some (.lst us) := g3.hh _ _ p3
      have eH : H3 = upd (th H3 [p]) p (.lst us) := by
        funext b
        by_cases z : b = p
        · subst z; rw [upd_same, h3]
        · rw [upd_ne z]; unfold th; rw [if_neg (by simpa using z)]
      have tp : th H3 [p] p = none := by unfold th; rw [if_pos (by simp)]
      have tq : ∀ b, b ≠ p → th H3 [p] b = H3 b := fun b z => by unfold th; rw [if_neg (by simpa using z)]
      have e3 : Ex F3 (th H3 [p]) := fun a o h => by
        have : a ≠ p := fun z => by subst z; rw [n3] at h; cases h
        rw [tq a this]; exact g3.fh a o h
      have gg : Gr F1 H1 F3 (th H3 [p]) := ⟨(g2.tr g3).ff, e3, fun a o h => by
        have : a ≠ p := fun z => by subst z; rw [p1] at h; cases h
        rw [tq a this]; exact (g2.tr g3).hh a o h, (g2.tr g3).nw⟩
      rw [eH]
      exact hP F3 (th H3 [p]) p us x y vs Q e3 tp (paired_mo g3.ff p4) r3 (Post.mo gg q)
    | er c => exact fun H' e => q H' (g2.hh.tr e)
    | bad => exact q
  | er c => exact q
  | bad => exact q
theorem em_callO0 [MdMo md] {m1 : M (List α)} {m2 : M β} {R : Hp → List V → β → Prop} {f : List α × β → M ρ} (ha : Ev ce E ta σ F H (rn K) m1) (hb : EvAM ce E tr σ F H m2 R) :
    Ev ce E (tCall (SpO0 ce K R md f) [] E0 (tCons ta tr)) σ F H md (m1.bind fun x => m2.bind fun y => (f (x, y)).ne) := fun F1 H1 g1 Q q =>
  callO (md := md) (f := fun a => (f a).ne) (P := fun vs H Q => SpO0 ce K R md f (vs ++ []) H Q E0) (Ec := E) (fun F1 H1 p us x y r Q e n pr rr q => by
    rw [List.append_nil]
    exact ⟨F1, H1, p, us, x, y, r, rfl, e, n, rfl, pr, rr, post_ne q⟩) ha hb F1 H1 g1 Q q
theorem em_callOX [MdMo md] {m1 : M (List α)} {m2 : M β} {R : Hp → List V → β → Prop} {f : List α × β → M ρ} (ha : Ev ce E ta σ F H (rn K) m1) (hb : EvAM ce E tr σ F H m2 R) :
    Ev ce E (tCall (SpO ce K R md f) [] E (tCons ta tr)) σ F H md (m1.bind fun x => m2.bind fun y => f (x, y)) := fun F1 H1 g1 Q q =>
  callO (md := md) (f := f) (P := fun vs H Q => SpO ce K R md f (vs ++ []) H Q E) (Ec := E) (fun F1 H1 p us x y r Q e n pr rr q => by
    rw [List.append_nil]
    exact ⟨F1, H1, p, us, x, y, r, rfl, e, n, rfl, pr, rr, q⟩) ha hb F1 H1 g1 Q q
end
/-! ### an object that is being made; the works -/
structure RawO where
  C : Addr
  dx : Addr
  fs : List (Str × V)
instance : Rep RawO := ⟨fun _ H v x => ∃ p, v = .ref p ∧ H p = some (.ins x.C x.dx x.fs), fun e ⟨p, h1, h2⟩ => ⟨p, h1, e _ _ h2⟩⟩
instance : Obj RawO where
  ho := fun _ _ o x => o = .ins x.C x.dx x.fs
  mo := fun _ h => h
  rep := fun {K H p o x} e h => ⟨p, rfl, by rw [e, h]⟩
  nt := fun {K H o x} h => by subst h; exact ⟨(fun _ z => nomatch z), (fun _ _ z => nomatch z)⟩
structure Wk where
  parts : Int
  rows : List Row
instance : Rep Wk := ⟨fun K H v x => ∃ a C dx fs u w, v = .ref a ∧ H a = some (.ins C dx fs) ∧ Cls K C ∧ NoAttr K C "parts" ∧ NoAttr K C "rows" ∧ fs.lookup ("parts" : Str) = some u ∧ fs.lookup ("rows" : Str) = some w ∧ rp K H u x.parts ∧ rp K H w x.rows,
  fun e ⟨a, C, dx, fs, u, w, h1, h2, h3, h4, h5, h6, h7, h8, h9⟩ => ⟨a, C, dx, fs, u, w, h1, e _ _ h2, h3, h4, h5, h6, h7, Rep.mo e h8, Rep.mo e h9⟩⟩
instance : NN Wk := ⟨fun ⟨a, _, _, _, _, _, h1, _⟩ => by subst h1; exact fun z => nomatch z⟩
section
variable {ρ τ : Type} [Rep ρ] {ce : Ce} {E : XK} {K : PySem.W.Frag} {σ : L2.St} {F H F0 H0 : Hp} {te ta : TE} {md : Md ρ} {D : Ends} {P : τ → Prop}
theorem em_wkp {m : M Wk} (ha : Ev ce E ta σ F H (rv K) m) : Ev ce E (tFld K ta "parts") σ F H (rv K) (m.bind fun x => .ok x.parts) := fun F1 H1 g1 Q q => by
  refine ha F1 H1 g1 _ ?_
  cases m with
  | ok x =>
    rintro F2 H2 v g2 ⟨a, C, dx, fs, u, w, h1, h2, h3, h4, h5, h6, h7, h8, h9⟩
    exact ⟨a, C, dx, fs, u, h1, g2.fh _ _ h2, h3, h4, h6, q F2 H2 u g2 h8⟩
  | er c => exact q
  | bad => exact q
theorem em_wkr {m : M Wk} (ha : Ev ce E ta σ F H (rv K) m) : Ev ce E (tFld K ta "rows") σ F H (rv K) (m.bind fun x => .ok x.rows) := fun F1 H1 g1 Q q => by
  refine ha F1 H1 g1 _ ?_
  cases m with
  | ok x =>
    rintro F2 H2 v g2 ⟨a, C, dx, fs, u, w, h1, h2, h3, h4, h5, h6, h7, h8, h9⟩
    exact ⟨a, C, dx, fs, w, h1, g2.fh _ _ h2, h3, h5, h7, q F2 H2 w g2 h9⟩
  | er c => exact q
  | bad => exact q
theorem e_wkp {x : Wk} (ha : Ev ce E ta σ F H (rv K) (.ok x)) : Ev ce E (tFld K ta "parts") σ F H (rv K) (.ok x.parts) := em_wkp (m := .ok x) ha
theorem e_wkr {x : Wk} (ha : Ev ce E ta σ F H (rv K) (.ok x)) : Ev ce E (tFld K ta "rows") σ F H (rv K) (.ok x.rows) := em_wkr (m := .ok x) ha
/-- self.f = e, in __init__: the object is one's own -/
theorem s_setf {α : Type} [Rep α] {i : Nat} {p : Addr} {o : RawO} {f : Str} {m1 : M α} {k : α → M τ} (hp : σ[i]? = some (some (.ref p))) (c : Cls K o.C) (na : NoAttr K o.C f) (hl : o.fs.length < 1000) (ow : Own K F H p o) (n0 : H0 p = none) (G : Gr F0 H0 F H)
    (q : Wp ce E H0 (m1.bind k) P) (h : Ev ce E te σ F H (rv K) m1)
    (cc : ∀ x F1 H1 v, Ex F F1 → Gr F0 H0 F1 H1 → rp K F1 v x → Own K F1 H1 p (RawO.mk o.C o.dx (putF f v o.fs)) → Wp ce E H0 (k x) P → D.nx σ H1) : sFld K (tVar i) te f D σ H := by
  show te σ H fun y H1 => tVar i σ H1 fun x H2 => _
  refine h.go G q fun x F1 H1 v g r w => ?_
  refine ⟨.ref p, hp, ?_⟩
  have o1 := ow.mo g
  obtain ⟨⟨u, h1, h2⟩, h3⟩ := o1
  have h2' : u = .ins o.C o.dx o.fs := h2
  subst h2'
  refine ⟨p, o.C, o.dx, o.fs, rfl, h1, c, na, hl, ?_⟩
  exact cc x F1 _ v g.ff (Gr.mut (G.tr g) n0 h3) r ⟨⟨_, upd_same, rfl⟩, h3⟩ w
theorem q_setf {t2 : TS} {α : Type} [Rep α] {i : Nat} {p : Addr} {o : RawO} {f : Str} {m1 : M α} {k : α → M τ} (hp : σ[i]? = some (some (.ref p))) (c : Cls K o.C) (na : NoAttr K o.C f) (hl : o.fs.length < 1000) (ow : Own K F H p o) (n0 : H0 p = none) (G : Gr F0 H0 F H)
    (q : Wp ce E H0 (m1.bind k) P) (h : Ev ce E te σ F H (rv K) m1)
    (cc : ∀ x F1 H1 v, Ex F F1 → Gr F0 H0 F1 H1 → rp K F1 v x → Own K F1 H1 p (RawO.mk o.C o.dx (putF f v o.fs)) → Wp ce E H0 (k x) P → t2 D σ H1) : tSeq (sFld K (tVar i) te f) t2 D σ H := s_setf (D := { D with nx := t2 D }) hp c na hl ow n0 G q h cc
/-- the promise of __init__ -/
def SpI (ce : Ce) (K : PySem.W.Frag) (C : Addr) {α : Type} (R : Hp → List V → α → Prop) (f : α → M Wk) : Sp := fun vs H Q E => ∃ F H0 p dx x r, vs = .ref p :: r ∧ Ex F H0 ∧ H0 p = none ∧ H0 dx = none ∧ dx ≠ p ∧ H = upd (upd H0 dx (.own p)) p (.ins C dx []) ∧ R F r x ∧ Post ce (rv K) (f x) F H0 (fun v H' => v = .ref p → Q .non H') E
theorem raw_start {C p dx : Addr} (e : Ex F H) (h : H p = none) (hd : H dx = none) (ne : dx ≠ p) : Gr F H F (upd (upd H dx (.own p)) p (.ins C dx [])) ∧ Own K F (upd (upd H dx (.own p)) p (.ins C dx [])) p (RawO.mk C dx []) :=
  ⟨(Gr.own e hd).tr (Gr.own (Gr.own e hd).fh (by rw [upd_ne ne.symm]; exact h)), ⟨⟨_, upd_same, rfl⟩, ex_back e h⟩⟩
/-- the object is whole -/
theorem wk_done {C dx p : Addr} {u w : V} {pa : Int} {rs : List Row} (G : Gr F0 H0 F H) (n0 : H0 p = none) (o : Own K F H p (RawO.mk C dx (putF "rows" w (putF "parts" u [])))) (c : Cls K C) (n1 : NoAttr K C "parts") (n2 : NoAttr K C "rows") (r1 : rp K F u pa) (r2 : rp K F w rs) :
    ∃ F', Gr F0 H0 F' H ∧ rp K F' (.ref p) (Wk.mk pa rs) := by
  obtain ⟨F', g, e, ⟨p', h1, h2⟩, _⟩ := own_fix G o n0
  cases h1
  refine ⟨F', g, p, C, dx, _, u, w, rfl, h2, c, n1, n2, ?_, ?_, Rep.mo e r1, Rep.mo e r2⟩
  · rw [lookup_putF, if_neg (by decide +kernel), lookup_putF, if_pos rfl]
  · rw [lookup_putF, if_pos rfl]
theorem em_makeX {α : Type} {C : Addr} {ta : TA} {m1 : M α} {R : Hp → List V → α → Prop} {f : α → M Wk} (ha : EvAM ce E ta σ F H m1 R) : Ev ce E (tMake C (SpI ce K C R f) [] E ta) σ F H (rv K) (m1.bind fun x => f x) := fun F1 H1 g1 Q q => by
  refine ha F1 H1 g1 _ ?_
  cases m1 with
  | ok x =>
    intro F2 H2 vs g2 r2 p dx np nd ne
    rw [List.append_nil]
    refine ⟨F2, H2, p, dx, x, vs, rfl, g2.fh, np, nd, ne, rfl, r2, ?_⟩
    have q' := Post.mo g2 q
    have q'' : Post ce (rv K) (f x) F2 H2 Q E := q'
    revert q''
    cases f x with
    | ok r => exact fun z F3 H3 v g3 r3 e => ⟨rfl, by rw [← e]; exact z F3 H3 v g3 r3⟩
    | er c => exact fun z => z
    | bad => exact fun z => z
  | er c => exact q
  | bad => exact q
end
def trLen : Tr → M Int
  | .nd _ _ _ => .ok 3
  | .lf _ => .bad
theorem a_lenT {ce : Ce} {E : XK} {K : PySem.W.Frag} {x : Tr} : OpA ce E (RC K R0) (rLenS K) (rv K) (x, ()) (trLen x) := fun F1 H1 vs e ⟨v, r, e1, h, e3⟩ Q q => by
  cases e3
  cases x with
  | lf n => exact q.elim
  | nd s a b =>
    obtain ⟨p, w, z, h1, h2, h3, h4⟩ := h
    subst e1 h1
    exact ⟨p, _, rfl, .inr (ex_t e h2), q F1 H1 _ (Gr.rf e) rfl⟩
end Mw

set_option Elab.async false
set_option linter.all false
set_option maxRecDepth 100000
set_option maxHeartbeats 2000000
/-! Mw, part Q: told borders or trees. -/
namespace Mw
open PySem L2
open Rep (rp)
/-- ("shut", a pair) or ("tree", a tree) -/
inductive Sh where
  | shut (p : Int × Int)
  | tree (t : Tr)
  deriving DecidableEq
def wShut : Wd := wd (Str.ofString "shut")
def wTree : Wd := wd (Str.ofString "tree")
instance : Rep Sh := ⟨fun K H v x => match x with
  | .shut p => rp K H v (wShut, p)
  | .tree t => rp K H v (wTree, t), fun {K H H' v x} e h => by
    cases x with
    | shut p => exact Rep.mo (x := (wShut, p)) e h
    | tree t => exact Rep.mo (x := (wTree, t)) e h⟩
instance : Flat Wd := ⟨fun _ h => h⟩
instance : Flat Sh := ⟨fun {K H H' v x} e h => by
    cases x with
    | shut p => exact Flat.fl (x := (wShut, p)) e h
    | tree t => exact Flat.fl (x := (wTree, t)) e h⟩
instance : NN Sh := ⟨fun {K F v x} h => by
    cases x with
    | shut p => obtain ⟨a, u, w, h1, _⟩ := h; rw [h1]; exact fun z => nomatch z
    | tree t => obtain ⟨a, u, w, h1, _⟩ := h; rw [h1]; exact fun z => nomatch z⟩
instance : Ty Sh := ⟨"tuple", fun {K F H v x} e h => by
    cases x with
    | shut p => obtain ⟨a, u, w, h1, h2, _⟩ := h; subst h1; exact tyx_tup e h2
    | tree t => obtain ⟨a, u, w, h1, h2, _⟩ := h; subst h1; exact tyx_tup e h2⟩
noncomputable def shS (x : Wd × (Int × Int)) : M Sh := if x.1 = wShut then .ok (.shut x.2) else .bad
noncomputable def shT (x : Wd × Tr) : M Sh := if x.1 = wTree then .ok (.tree x.2) else .bad
def shW : Sh → Wd
  | .shut _ => wShut
  | .tree _ => wTree
def shV : Sh → M Tr
  | .shut _ => .bad
  | .tree t => .ok t
def shNe : Sh → Sh → M Bool
  | .shut p, .shut q => .ok (!decide (p = q))
  | _, _ => .bad
section
variable {ρ : Type} {ce : Ce} {E : XK} {K : PySem.W.Frag} {σ : L2.St} {F H F' H' F0 H0 : Hp} {te ta tb tc td : TE} {tt tu : TT}
theorem em_shS {m : M (Wd × (Int × Int))} (h : Ev ce E te σ F H (rv K) m) : Ev ce E te σ F H (rv K) (m.bind shS) := fun F1 H1 g1 Q q => by
  refine h F1 H1 g1 _ ?_
  cases m with
  | ok x =>
    intro F2 H2 v g2 r
    have q' : Post ce (rv K) (shS x) F1 H1 Q E := q
    unfold shS at q'
    split at q'
    · rename_i c
      refine q' F2 H2 v g2 ?_
      show rp K F2 v (wShut, x.2)
      rw [← c]
      exact r
    · exact q'.elim
  | er c => exact q
  | bad => exact q
theorem em_shT {m : M (Wd × Tr)} (h : Ev ce E te σ F H (rv K) m) : Ev ce E te σ F H (rv K) (m.bind shT) := fun F1 H1 g1 Q q => by
  refine h F1 H1 g1 _ ?_
  cases m with
  | ok x =>
    intro F2 H2 v g2 r
    have q' : Post ce (rv K) (shT x) F1 H1 Q E := q
    unfold shT at q'
    split at q'
    · rename_i c
      refine q' F2 H2 v g2 ?_
      show rp K F2 v (wTree, x.2)
      rw [← c]
      exact r
    · exact q'.elim
  | er c => exact q
  | bad => exact q
theorem o_shA {x : Sh} {i : Int} (hi : i = 0) : Op2 ce E K (rIxT K) (rv K) x i (.ok (shW x)) := fun F1 H1 vx vy e rx ry Q q => by
  cases x with
  | shut p => exact o_fst (x := (wShut, p)) hi F1 H1 vx vy e rx ry Q q
  | tree t => exact o_fst (x := (wTree, t)) hi F1 H1 vx vy e rx ry Q q
theorem o_shB {x : Sh} {i : Int} (hi : i = 1) : Op2 ce E K (rIxT K) (rv K) x i (shV x) := fun F1 H1 vx vy e rx ry Q q => by
  cases x with
  | shut p => exact q.elim
  | tree t => exact o_snd (x := (wTree, t)) hi F1 H1 vx vy e rx ry Q q
theorem a_lenSh {x : Sh} : OpA ce E (RC K R0) (rLenS K) (rv K) (x, ()) (.ok (2 : Int)) := fun F1 H1 vs e ⟨v, r, e1, h, e3⟩ Q q => by
  cases x with
  | shut p => exact a_len2 (x := (wShut, p)) F1 H1 vs e ⟨v, r, e1, h, e3⟩ Q q
  | tree t => exact a_len2 (x := (wTree, t)) F1 H1 vs e ⟨v, r, e1, h, e3⟩ Q q
theorem o_shNe {x y : Sh} : Op2 ce E K (rNeD K) (rv K) x y (shNe x y) := fun F1 H1 vx vy e rx ry Q q => by
  cases x with
  | tree t => cases y <;> exact q.elim
  | shut p =>
    cases y with
    | tree t => exact q.elim
    | shut r =>
      have ee : decide (p = r) = decide ((wShut, p) = (wShut, r)) := by
        rw [Bool.eq_iff_iff]; simp
      have q' : Post ce (rv K) (.ok (!decide (p = r))) F1 H1 Q E := q
      rw [ee] at q'
      exact o_neD (x := (wShut, p)) (y := (wShut, r)) (by decide) F1 H1 vx vy e rx ry Q q'
noncomputable def shlM (x y : Int) : M Int := chk (CPow x y) (x * 2 ^ y.toNat)
theorem o_shl {x y : Int} : Op2 ce E K (rI CPow fun i j => .int (i * 2 ^ j.toNat)) (rv K) x y (shlM x y) := o_Ic fun _ => rfl
end
end Mw
/-! ### xs.count(y), xs.index(y), len(set(xs)) -/
namespace Mw
open PySem L2
open Rep (rp)
section
variable {ρ α β : Type} [Rep α] [Rep β] {ce : Ce} {E : XK} {K : PySem.W.Frag} {σ : L2.St} {F H F' H' F0 H0 : Hp} {te ta tb tc td : TE} {tt tu : TT} {md : Md ρ}
def OpB (ce : Ce) (E : XK) (K : PySem.W.Frag) (r : V → List V → Hp → VK → Prop) (md : Md ρ) (xs : List Int) (y : Int) (m : M ρ) : Prop :=
  ∀ F1 H1 p, Ex F1 H1 → F1 p = some (.lst (xs.map V.int)) → ∀ Q, Post ce md m F1 H1 Q E → r (.ref p) [.int y] H1 Q
theorem em_bmi [MdMo md] {r : V → List V → Hp → VK → Prop} {m1 : M (List Int)} {m2 : M Int} {g : List Int → Int → M ρ} (ha : Ev ce E ta σ F H (rv K) m1) (hb : Ev ce E tb σ F H (rv K) m2) (hr : ∀ x y, OpB ce E K r md x y (g x y)) :
    Ev ce E (tBM K "list" r ta (tCons tb tNil)) σ F H md (m1.bind fun x => m2.bind fun y => g x y) := fun F1 H1 g1 Q q => by
  refine ha F1 H1 g1 _ ?_
  cases m1 with
  | er c => exact q
  | bad => exact q
  | ok x =>
    rintro F2 H2 v g2 ⟨p, vs, rfl, h2, h3⟩
    have e3 := paired_int h3
    subst e3
    refine ⟨.inl ⟨rfl, _, SqL.of (g2.fh _ _ h2)⟩, hb F2 H2 (g1.tr g2) _ ?_⟩
    cases m2 with
    | er c => exact fun H' e => q H' (g2.hh.tr e)
    | bad => exact q
    | ok y =>
      intro F3 H3 w g3 r3
      cases (show w = .int y from r3)
      exact hr x y F3 H3 p g3.fh (g3.ff _ _ h2) Q (Post.mo (g2.tr g3) q)
theorem o_cnt {xs : List Int} {y : Int} : OpB ce E K (rCntI K) (rv K) xs y (.ok ((xs.count y : Nat) : Int)) := fun F1 H1 p e h Q q =>
  ⟨p, xs, y, rfl, rfl, SqL.of (e _ _ h), q F1 H1 _ (Gr.rf e) rfl⟩
noncomputable def idxM (xs : List Int) (y : Int) : M Int := chk (y ∈ xs) ((xs.idxOf y : Nat) : Int)
theorem eqV_int (a b : Int) : eqV (.int a) (.int b) = decide (a = b) := by
  show (a == b) = _
  rw [Bool.eq_iff_iff]; simp
theorem o_idx {xs : List Int} {y : Int} : OpB ce E K (rIndex K) (rv K) xs y (idxM xs y) := fun F1 H1 p e h Q q => by
  unfold idxM chk at q
  split at q
  · rename_i hy
    have hl := List.idxOf_lt_length_of_mem hy
    refine ⟨p, xs.map V.int, .int y, xs.idxOf y, .int y, rfl, rfl, SqL.of (e _ _ h), rfl, ?_, ?_, ?_, ?_, q F1 H1 _ (Gr.rf e) rfl⟩
    · rw [List.all_eq_true]
      intro v hv
      obtain ⟨k, _, rfl⟩ := List.mem_map.mp hv
      rfl
    · rw [List.getElem?_map, List.getElem?_eq_getElem hl, List.getElem_idxOf hl]; rfl
    · rw [eqV_int]; exact decide_eq_true rfl
    · intro m z hm hz
      rw [List.getElem?_map, List.getElem?_eq_getElem (Nat.lt_trans hm hl)] at hz
      cases Option.some.inj hz
      rw [eqV_int]
      refine decide_eq_false fun z => ?_
      have := List.not_of_lt_findIdx (p := fun k => k == y) (xs := xs) (i := m) hm
      rw [z] at this
      simp at this
  · exact q.elim
/-- the unlike ones, as they are met -/
def met (xs : List Int) : List Int := PyProof.Rows.firstMet (fun i => xs.getD i 0) xs.length
noncomputable def lenSet (xs : List Int) : M Int := chk (xs.length < 64) ((met xs).length : Int)
def tLS (K : PySem.W.Frag) (ta : TE) : TE := fun σ H Q => ta σ H fun x H1 => ∃ p ns, x = V.ref p ∧ SqL K H1 p (ns.map V.int) ∧ List.length ns < 64 ∧ Q (.int (met ns).length) H1
theorem pe_lenSetZ {X : Cx} {a : Expr} {ta : TE} {p1 p2 p3 p4 : Pos} (calm : X.calm = true) (g1 : Gl X "len") (n1 : X.mg "len" = none) (g2 : Gl X "set") (n2 : X.mg "set" = none) (h : PE X a ta)
    (hs : starEach [a] X.env = (false, eval a X.env) :: starEach [] X.env := by rfl) : PE X (.Call (.Name "len" p1) [.Call (.Name "set" p2) [a] [] p3] [] p4) (tLS X.K ta) where
  run := fun pins s σ H Q I q =>
    PyProof.Rows.Call_ (ld_blt I g1 n1 PySem.boot_len (PyProof.Rows.callWith_builtin1 (PyProof.Rows.args_cons (PyProof.Rows.Call_ (ld_blt I g2 n2 PyProof.Rows.boot_set (PyProof.Rows.callWith_type1
      (PyProof.Rows.args_cons (thn (h.run pins s σ H _ I q) fun v s1 ⟨x, H1, I1, r1, p, ns, ex, sq, lt, q1⟩ => PyProof.Rows.args_nil (by
        subst ex
        cases r1
        obtain ⟨its, vals, plain, _⟩ := I1.list sq
        have size : its.toArray.size = ns.length := by rw [List.size_toArray, ← vals.length, List.length_map]
        refine call_set_list (ns := ns) (I1.ok.hd calm) plain.isList (by simpa using vals.ints) (by unfold scanBound; omega) fun heap toks made kept => ?_
        rw [size] at made
        have le := PyProof.Rows.firstMet_length_le (fun i => ns.getD i 0) ns.length
        obtain ⟨o, es, ep, t, at_, exact_, data, _, _, _, fits, many⟩ := made
        have I2 : Inv X pins σ H1 { s1 with heap := heap, toks := toks } := I1.kept fun b u e => kept b u (Heap.lt_size e) e
        exact PyProof.Rows.args_nil (call_len_set at_ exact_ data fits (by omega) ⟨.int (met ns).length, H1, I2.tok _, ⟨_, by rw [many]; rfl⟩, q1⟩))) hs) hs rfl))) rfl) rfl rfl))
theorem em_lenSet {m : M (List Int)} (ha : Ev ce E ta σ F H (rv K) m) : Ev ce E (tLS K ta) σ F H (rv K) (m.bind lenSet) := fun F1 H1 g1 Q q => by
  refine ha F1 H1 g1 _ ?_
  cases m with
  | er c => exact q
  | bad => exact q
  | ok x =>
    rintro F2 H2 v g2 ⟨p, vs, rfl, h2, h3⟩
    have e3 := paired_int h3
    subst e3
    have q' : Post ce (rv K) (lenSet x) F1 H1 Q E := q
    unfold lenSet chk at q'
    split at q'
    · rename_i hl
      exact ⟨p, x, rfl, SqL.of (g2.fh _ _ h2), hl, q' F2 H2 _ g2 rfl⟩
    · exact q'.elim
end
end Mw

set_option Elab.async false
set_option linter.all false
set_option maxRecDepth 100000
set_option maxHeartbeats 2000000
/-! Mw, part R: told pairs whose list is new, and is changed later. -/
namespace Mw
open PySem L2
open Rep (rp)
section
variable {ρ α β τ : Type} [Rep α] [Rep β] {ce : Ce} {E : XK} {K : PySem.W.Frag} {σ : L2.St} {F H F' H' F0 H0 F1 H1 Fb Hb : Hp} {te ta tb tc td : TE} {tt tu : TT} {md : Md ρ} {D : Ends} {P : τ → Prop}
/-- None, or a pair whose second part is a list that was not there in H -/
def Nu1 (K : PySem.W.Frag) (F H : Hp) (v : V) (x : Option (α × List β)) : Prop := match x with
  | none => v = .non
  | some y => ∃ a u q vs, v = .ref a ∧ SqT K F a [u, .ref q] ∧ rp K F u y.1 ∧ F q = some (.lst vs) ∧ Paired (rp K F) vs y.2 ∧ H q = none
theorem Nu1.rp {v : V} {x : Option (α × List β)} (h : Nu1 K F H v x) : rp K F v x := by
  cases x with
  | none => exact h
  | some y =>
    obtain ⟨a, u, q, vs, h1, h2, h3, h4, h5, _⟩ := h
    exact ⟨⟨a, u, .ref q, h1, h2, h3, ⟨q, vs, rfl, h4, h5⟩⟩, by rw [h1]; exact fun z => nomatch z⟩
def rf1 (K : PySem.W.Frag) : Md (Option (α × List β)) := fun _ H F' _ v r => Nu1 K F' H v r
instance : MdMo (rf1 K (α := α) (β := β)) := ⟨fun {F H F1 H1 F2 H2 v r} g h => by
  cases r with
  | none => exact h
  | some y =>
    obtain ⟨a, u, q, vs, h1, h2, h3, h4, h5, h6⟩ := h
    exact ⟨a, u, q, vs, h1, h2, h3, h4, h5, ex_back g.hh h6⟩⟩
theorem Ev.fv {m : M (Option (α × List β))} (h : Ev ce E te σ F H (rf1 K) m) : Ev ce E te σ F H (rv K) m := fun F1 H1 g1 Q q => by
  refine h F1 H1 g1 _ ?_
  cases m with
  | ok x => exact fun F2 H2 v g2 r => q F2 H2 v g2 r.rp
  | er c => exact q
  | bad => exact q
/-- x = e, e tells such a pair -/
theorem s_asgF {i : Nat} {m1 : M (Option (α × List β))} {k : Option (α × List β) → M τ} (G : Gr F0 H0 F H) (q : Wp ce E H0 (m1.bind k) P) (h : Ev ce E te σ F H (rf1 K) m1)
    (c : ∀ x F1 H1 v, Gr F H F1 H1 → Nu1 K F1 H v x → Wp ce E H0 (k x) P → D.nx (σ.set i (some v)) H1) : tAsg te (gName i) D σ H := by
  refine h F H (Gr.rf G.fh) _ ?_
  cases m1 with
  | ok x => exact fun F1 H1 v g r => c x F1 H1 v g r q
  | er cc => exact fun H' e => q H' (G.hh.tr e)
  | bad => exact q
theorem q_asgF {t2 : TS} {i : Nat} {m1 : M (Option (α × List β))} {k : Option (α × List β) → M τ} (G : Gr F0 H0 F H) (q : Wp ce E H0 (m1.bind k) P) (h : Ev ce E te σ F H (rf1 K) m1)
    (c : ∀ x F1 H1 v, Gr F H F1 H1 → Nu1 K F1 H v x → Wp ce E H0 (k x) P → t2 D (σ.set i (some v)) H1) : tSeq (tAsg te (gName i)) t2 D σ H := s_asgF (D := { D with nx := t2 D }) G q h c
/-- return (e, x), x a list of one's own -/
theorem s_retF {i : Nat} {p : Addr} {xs : List β} {m1 : M α} {k : Option (α × List β) → M τ} (hp : σ[i]? = some (some (.ref p))) (o : Own K F H p xs) (n0 : H0 p = none) (G : Gr F0 H0 F H) (q : Wp ce E H0 (m1.bind fun x => k (some (x, xs))) P)
    (h : Ev ce E te σ F H (rv K) m1) (hD : ∀ r F1 H1 v, Gr F0 H0 F1 H1 → rf1 K F0 H0 F1 H1 v r → Wp ce E H0 (k r) P → D.rt v H1) : tRet (tTup (tCons te (tCons (tVar i) tNil))) D σ H := by
  refine h F H (Gr.rf G.fh) _ ?_
  cases m1 with
  | er cc => exact fun H' e => q H' (G.hh.tr e)
  | bad => exact q
  | ok x =>
    intro F2 H2 v g r
    refine ⟨.ref p, hp, by show 2 ≤ sizeLine; decide, fun a na => ?_⟩
    have G2 := G.tr g
    obtain ⟨F3, G3, e3, ⟨q', vs, ez, h1, h2⟩, _⟩ := own_fix G2 (o.mo g) n0
    cases ez
    have gn := Gr.new (p := a) (o := .tup [v, .ref p]) G3.fh na
    exact hD (some (x, xs)) _ _ _ (G3.tr gn) ⟨a, v, p, vs, rfl, SqT.of upd_same, Rep.mo gn.ff (Rep.mo e3 r), gn.ff _ _ h1, paired_mo gn.ff h2, n0⟩ q
/-- back to what stood ahead of the call -/
theorem gr_back {q : Addr} {u : HO} (Gb : Gr F0 H0 Fb Hb) (n : Hb q = none) (e : Ex Fb H) (G : Ex H0 H) : Gr F0 H0 Fb (upd H q u) where
  ff := Gb.ff
  fh := fun a o h => by
    have : a ≠ q := fun z => by subst z; rw [Gb.fh a o h] at n; cases n
    rw [upd_ne this]; exact e a o h
  hh := fun a o h => by
    have : a ≠ q := fun z => by subst z; rw [Gb.hh a o h] at n; cases n
    rw [upd_ne this]; exact G a o h
  nw := Gb.nw
/-- x[1].append(e) -/
theorem s_appF {i : Nat} {v : V} {x : Option (α × List β)} {m1 : M β} {k : M τ} (hp : σ[i]? = some (some v)) (nu : Nu1 K F1 Hb v x) (e1 : Ex F1 F) (Gb : Gr F0 H0 Fb Hb) (eb : Ex Fb F1) (G : Gr F0 H0 F H)
    (q : Wp ce E H0 ((getM x).bind fun y => m1.bind fun z => (appM y.2 z).bind fun _ => k) P) (h : Ev ce E te σ F H (rv K) m1)
    (c : ∀ H2, Gr F0 H0 Fb H2 → Wp ce E H0 k P → D.nx σ H2) : tDrop (tBM K "list" rAppend (tOp (rIxT K) (tVar i) (tC (.int 1))) (tCons te tNil)) D σ H := by
  cases x with
  | none => exact q.elim
  | some y =>
    obtain ⟨a, u, p, vs, rfl, h2, h3, h4, h5, h6⟩ := nu
    have hF : H p = some (.lst vs) := G.fh _ _ (e1 _ _ h4)
    refine ⟨.ref a, hp, a, [u, .ref p], 1, .ref p, rfl, rfl, ex_t (e1.tr G.fh) h2, rfl, .inl ⟨rfl, vs, SqL.of hF⟩, ?_⟩
    have q1 : Wp ce E H0 (m1.bind fun z => (appM y.2 z).bind fun _ => k) P := q
    refine h F H (Gr.rf G.fh) _ ?_
    cases m1 with
    | er cc => exact fun H' e => q1 H' (G.hh.tr e)
    | bad => exact q1
    | ok z =>
      intro F2 H2 w g r
      have q2 : Wp ce E H0 ((appM y.2 z).bind fun _ => k) P := q1
      unfold appM chk at q2
      split at q2
      · rename_i hl
        refine ⟨p, vs, w, rfl, rfl, g.hh _ _ hF, ?_, ?_⟩
        · rw [Paired.length h5, sizeLine_eq]; omega
        · exact c _ (gr_back Gb h6 (((eb.tr e1).tr g.ff).tr g.fh) (G.tr g).hh) q2
      · exact q2.elim
theorem q_appF {t2 : TS} {i : Nat} {v : V} {x : Option (α × List β)} {m1 : M β} {k : M τ} (hp : σ[i]? = some (some v)) (nu : Nu1 K F1 Hb v x) (e1 : Ex F1 F) (Gb : Gr F0 H0 Fb Hb) (eb : Ex Fb F1) (G : Gr F0 H0 F H)
    (q : Wp ce E H0 ((getM x).bind fun y => m1.bind fun z => (appM y.2 z).bind fun _ => k) P) (h : Ev ce E te σ F H (rv K) m1)
    (c : ∀ H2, Gr F0 H0 Fb H2 → Wp ce E H0 k P → t2 D σ H2) : tSeq (tDrop (tBM K "list" rAppend (tOp (rIxT K) (tVar i) (tC (.int 1))) (tCons te tNil))) t2 D σ H := s_appF (D := { D with nx := t2 D }) hp nu e1 Gb eb G q h c
/-- x.append(e): x was new when it was told, nothing leans on it but what is forgotten now -/
theorem s_appT {i : Nat} {p : Addr} {xs : List α} {m1 : M α} {k : List α → M τ} (hp : σ[i]? = some (some (.ref p))) (rx : rp K F (.ref p) xs) (n0 : H0 p = none) (e0 : Ex F0 H0) (G : Gr F0 H0 F H)
    (q : Wp ce E H0 (m1.bind fun x => (appM xs x).bind k) P) (h : Ev ce E te σ F H (rv K) m1)
    (c : ∀ ys Fu Hu, Gr F0 H0 Fu Hu → (∀ Fb, Ex Fb F → Fb p = none → Ex Fb Fu) → (∀ (γ : Type) [Rep γ] [Flat γ] (r : Addr) (z : List γ), r ≠ p → Own K F H r z → Own K Fu Hu r z) → Wp ce E H0 (k ys) P → D.nx σ Hu) :
    tDrop (tBM K "list" rAppend (tVar i) (tCons te tNil)) D σ H := by
  obtain ⟨a, vs, ea, h1, h2⟩ := rx
  cases ea
  refine ⟨.ref p, hp, .inl ⟨rfl, vs, SqL.of (G.fh _ _ h1)⟩, h F H (Gr.rf G.fh) _ ?_⟩
  cases m1 with
  | er cc => exact fun H' e => q H' (G.hh.tr e)
  | bad => exact q
  | ok x =>
    intro F1 H1 v g r
    have w' : Wp ce E H0 ((appM xs x).bind k) P := q
    unfold appM chk at w'
    split at w'
    · rename_i hl
      have l1 := g.ff _ _ h1
      have f0 : F0 p = none := ex_back e0 n0
      have aq : ∀ b, b ≠ p → th F1 [p] b = F1 b := fun b hb => by unfold th; rw [if_neg (by simpa using hb)]
      have ap : th F1 [p] p = none := by unfold th; rw [if_pos (by simp)]
      have G1 := G.tr g
      have te1 : TupEx F1 (th F1 [p]) := th_tup fun b m ys rd => by
        rw [List.mem_singleton.mp m] at rd
        rcases rd with rd | ⟨o, rd⟩ <;> (rw [l1] at rd; cases rd)
      refine ⟨p, vs, v, rfl, rfl, g.fh _ _ l1, by rw [Paired.length h2, sizeLine_eq]; omega, c (xs ++ [x]) (th F1 [p]) _ ⟨fun b o e => ?_, fun b o e => ?_, fun b o e => ?_, fun b b1 b2 => ?_⟩ (fun Fb eb nb b o e => ?_) (fun γ _ _ r z hr o => ?_) w'⟩
      · have : b ≠ p := fun z => by subst z; rw [f0] at e; cases e
        rw [aq b this]; exact G1.ff b o e
      · have : b ≠ p := fun z => by subst z; rw [ap] at e; cases e
        rw [aq b this] at e
        rw [upd_ne this]; exact G1.fh b o e
      · have : b ≠ p := fun z => by subst z; rw [n0] at e; cases e
        rw [upd_ne this]; exact G1.hh b o e
      · by_cases z : b = p
        · subst z; exact ap
        · rw [aq b z]; exact G1.nw b b1 b2
      · have : b ≠ p := fun z => by subst z; rw [nb] at e; cases e
        rw [aq b this]; exact g.ff b o (eb b o e)
      · exact (own_fl (o.mo g) te1 (aq r hr)).upd hr
    · exact w'.elim
theorem q_appT {t2 : TS} {i : Nat} {p : Addr} {xs : List α} {m1 : M α} {k : List α → M τ} (hp : σ[i]? = some (some (.ref p))) (rx : rp K F (.ref p) xs) (n0 : H0 p = none) (e0 : Ex F0 H0) (G : Gr F0 H0 F H)
    (q : Wp ce E H0 (m1.bind fun x => (appM xs x).bind k) P) (h : Ev ce E te σ F H (rv K) m1)
    (c : ∀ ys Fu Hu, Gr F0 H0 Fu Hu → (∀ Fb, Ex Fb F → Fb p = none → Ex Fb Fu) → (∀ (γ : Type) [Rep γ] [Flat γ] (r : Addr) (z : List γ), r ≠ p → Own K F H r z → Own K Fu Hu r z) → Wp ce E H0 (k ys) P → t2 D σ Hu) :
    tSeq (tDrop (tBM K "list" rAppend (tVar i) (tCons te tNil))) t2 D σ H := s_appT (D := { D with nx := t2 D }) hp rx n0 e0 G q h c
end
end Mw
/-! ### words.count(word) -/
namespace L2
open PySem PyProof.Rows
theorem cntU {x : V} : ∀ {xs : List V} {us : List Value}, Vals xs us → xs.all flatV = true → us.countP (eqU x) = xs.countP fun y => eqV y x
  | _, _, .nil, _ => rfl
  | y :: xs, u :: us, .cons r t, f => by
    rw [List.all_cons, Bool.and_eq_true] at f
    rw [List.countP_cons, List.countP_cons, eqU_of r f.1, cntU t f.2]
def rCntF (K : PySem.W.Frag) : V → List V → Hp → VK → Prop := fun x xs H Q => ∃ p ys y, x = V.ref p ∧ xs = [y] ∧ SqL K H p ys ∧ flatV y = true ∧ ys.all flatV = true ∧ Q (.int ((ys.countP fun z => eqV z y : Nat) : Int)) H
theorem mt_cntF {X : Cx} : MtR X "list.count" (rCntF X.K) := by
  intro pins s σ H x xs v us Q I rx rxs h
  obtain ⟨p, ys, y, rfl, rfl, sq, fy, fys, q⟩ := h
  cases rx
  obtain ⟨u, rfl, ru⟩ := rxs.one
  obtain ⟨its, vals, ⟨⟨cls, dict, data, slots⟩, n, at_, c1, dn, d1⟩, len⟩ := I.list sq
  simp only at c1 d1
  subst c1 d1
  have same : its.toArray.toList.countP (eqU y) = ys.countP fun z => eqV z y := cntU vals fys
  refine call_meets PySem.F.slot_list_count ⟨_, at_, rfl⟩ PySem.F.entry_list_count (PySem.F.args_list_count_2 _ _) (SeqAt.list_countAt p its.toArray n dict slots u (eqU y))
    ⟨at_, fun w hw => mem_eqAt ru fy vals fys w (by simpa using hw), .int ((ys.countP fun z => eqV z y : Nat) : Int), H, I.tok _, ⟨s.toks, ?_⟩, q⟩
  show Value.int ((its.toArray.toList.countP (eqU y) : Nat) : Int) s.toks = _
  rw [same]
end L2
namespace Mw
open PySem L2
open Rep (rp)
def clV : Cl → V
  | .i n => .int n
  | .w s => .str s.s
theorem paired_cl {K : PySem.W.Frag} {H : Hp} : ∀ {vs : List V} {xs : List Cl}, Paired (rp K H) vs xs → vs = xs.map clV
  | _, _, .nil => rfl
  | _, x :: _, .cons h t => by
    rw [List.map_cons, ← paired_cl t]
    refine congrArg (· :: _) ?_
    cases x with
    | i n => exact h
    | w s => exact h
theorem eqV_cl (x y : Cl) : eqV (clV x) (clV y) = decide (x = y) := by
  rw [Bool.eq_iff_iff, decide_eq_true_eq]
  cases x with
  | i n =>
    cases y with
    | i m => show (n == m) = true ↔ _; simp
    | w t => exact ⟨(fun z => nomatch z), (fun z => nomatch z)⟩
  | w s =>
    cases y with
    | i m => exact ⟨(fun z => nomatch z), (fun z => nomatch z)⟩
    | w t =>
      obtain ⟨s, hs⟩ := s
      obtain ⟨t, ht⟩ := t
      show (s == t) = true ↔ _
      simp
theorem flat_cl (x : Cl) : flatV (clV x) = true := by cases x <;> rfl
section
variable {ce : Ce} {E : XK} {K : PySem.W.Frag} {σ : L2.St} {F H : Hp} {ta tb : TE}
theorem em_cntC {m1 : M (List Cl)} {m2 : M Cl} (ha : Ev ce E ta σ F H (rv K) m1) (hb : Ev ce E tb σ F H (rv K) m2) :
    Ev ce E (tBM K "list" (rCntF K) ta (tCons tb tNil)) σ F H (rv K) (m1.bind fun x => m2.bind fun y => .ok ((List.count y x : Nat) : Int)) := fun F1 H1 g1 Q q => by
  refine ha F1 H1 g1 _ ?_
  cases m1 with
  | er c => exact q
  | bad => exact q
  | ok x =>
    rintro F2 H2 v g2 ⟨p, vs, rfl, h2, h3⟩
    have e3 := paired_cl h3
    subst e3
    refine ⟨.inl ⟨rfl, _, SqL.of (g2.fh _ _ h2)⟩, hb F2 H2 (g1.tr g2) _ ?_⟩
    cases m2 with
    | er c => exact fun H' e => q H' (g2.hh.tr e)
    | bad => exact q
    | ok y =>
      intro F3 H3 w g3 r3
      have ew : w = clV y := by
        cases y with
        | i n => exact r3
        | w s => exact r3
      subst ew
      refine ⟨p, x.map clV, clV y, rfl, rfl, SqL.of (g3.fh _ _ (g3.ff _ _ h2)), flat_cl y, List.all_eq_true.mpr fun z hz => ?_, ?_⟩
      · obtain ⟨c, _, rfl⟩ := List.mem_map.mp hz
        exact flat_cl c
      · have en : (x.map clV).countP (fun z => eqV z (clV y)) = List.count y x := by
          rw [List.countP_map]
          show x.countP (fun z => eqV (clV z) (clV y)) = x.countP (· == y)
          refine congrArg (fun f => x.countP f) (funext fun z => ?_)
          rw [eqV_cl]
          rw [Bool.eq_iff_iff]; simp
        rw [en]
        exact (Post.mo (g2.tr g3) q) F3 H3 _ (Gr.rf g3.fh) rfl
end
end Mw

set_option Elab.async false
set_option linter.all false
set_option maxRecDepth 100000
set_option maxHeartbeats 4000000
/-! Mw, part S: a set made of a list of ints, its members sorted. -/
namespace L2
open PySem PySem.Spec PyProof.Rows
/-- the set as it is made, with nothing in it -/
abbrev eSet (w : World) : Obj := { cls := .type "set", dict := none, data := .set #[] 0 (.fresh 0 0 (!w.params.followText "set-order")) }
section
variable {P : Program} {w : World} {A : Around} {E : Value → Shared → Prop} {s : Shared}
theorem eset_call {l : Addr} {xs : Array Value} (ns : List Int) {Q : Value → Shared → Prop} (none_ : A.handled = none) (isL : s.heap.IsList l xs) (allI : IntsAre xs.toList ns) (few : ns.length + 1 < scanBound)
    (fin : ∀ (heap : Heap) (toks c : Nat), SetR w heap s.heap.objs.size (fun j => decide (j ∈ ns)) c → c ≤ ns.length → (∀ b o, s.heap.get? b = some o → heap.get? b = some o) → Q (.ref s.heap.objs.size) { s with heap := heap, toks := toks }) :
    wpAny (model P w) A (call (.type "set") [.ref l]) Q E s := by
  obtain ⟨c, tl, m0⟩ := F.called_set.mro
  have m1 := F.called_set.made
  have m2 := F.called_set.sub
  have m3 := F.called_set.notType
  have m4 := F.called_set.canCreate
  have m5 := F.typeCall_set_1 (.ref l)
  have m6 := F.called_set.init.lookup
  have m7 := F.called_set.init.bind (.ref s.heap.objs.size)
  refine wpAny_call (codeAny_of_tree (show wpAny _ _ (callAny (.type "set") _) _ _ _ from wpAny_pure ⟨Code.quiet_builtin _ (by decide +kernel), codeAny_builtin F.entry_type_call ?_⟩))
  rw [Around.under_plain (weight_type_call_type "set" [.ref l] []) rfl]
  repeat (any_goals (first | assumption | wp_step))
  refine codeAny_mono (code_set_led1 (.ref l) (E := E) (Q₁ := fun v s1 => v = .ref s.heap.objs.size ∧ s1 = { s with heap := s.heap.push (eSet w) }) ⟨rfl, rfl⟩) fun r s1 hr => ?_
  match r, hr with
  | .error e, hr => exact hr
  | .ok (.ret v), hr =>
    obtain ⟨rfl, rfl⟩ := hr
    have ty : Shared.TypeIs { s with heap := s.heap.push (eSet w) } (.ref s.heap.objs.size) "set" := ⟨_, Heap.get?_push_size _ rfl, rfl⟩
    repeat (any_goals (first | assumption | wp_step))
    refine codeAny_mono (codeAny_call_builtin (R := wants (fun v s2 => v = .none ∧ Q (.ref s.heap.objs.size) s2) E) F.called_set.init.plain F.entry_set_init (check_set_init_1 ty ?_)) fun r2 s2 hr2 => ?_
    · have many : xs.size = ns.length := (Array.length_toList).symm.trans (IntsAre.length allI)
      have made : (s.heap.push (eSet w)).get? s.heap.objs.size = some (eSet w) := Heap.get?_push_size _ rfl
      obtain ⟨⟨cl, di, da, sl⟩, at_, c1, n1, d1⟩ := isL
      simp only at c1 d1
      subst c1 d1
      have lt : l < s.heap.objs.size := Heap.lt_size at_
      have at2 : (s.heap.push (eSet w)).get? l = some { cls := .type "list", dict := di, data := .seq xs n1, slots := sl } := Heap.get?_push_of_some _ at_
      have L2' : (s.heap.push (eSet w)).IsList l xs := ⟨_, at2, rfl, n1, rfl⟩
      have k1 := F.sub_list_set
      have k2 := F.sub_list_frozenset
      have k3 : (Value.type "list" == Value.type "dict") = false := by decide
      unfold Builtin.«set.__init__» noKeywords Builtin.Frozenset.updateFrom
      generalize ePI : pyIter = PI
      wp_walk
      subst ePI
      refine wpAny_pyIter_list L2' (wpAny_bind (wpAny_runValue ?_))
      have sz : (s.heap.push (eSet w)).objs.size = s.heap.objs.size + 1 := Heap.size_push ..
      have ap : l ≠ (s.heap.push (eSet w)).objs.size := by rw [sz]; exact Nat.ne_of_lt (Nat.lt_succ_of_lt lt)
      have fr : s.heap.objs.size ∉ [(s.heap.push (eSet w)).objs.size, l] := by rw [sz]; simp; exact fun z => absurd lt (by rw [z]; exact Nat.lt_irrefl _)
      have inH : A.in1.in1.in1.handled = none := by simp [none_]
      refine set_update_ints ((Walks.list inH _ l ap xs).toS) s.heap.objs.size fr ns many few (fun i v hv => ?_) (xs.size - 0) 0 _ (by omega) (Nat.zero_le _)
        ⟨⟨_, Heap.get?_push_size _ rfl, rfl, rfl⟩, L2'.push _⟩ ⟨0, Nat.le_refl 0, setR_new_at (Heap.get?_push_of_some _ made)⟩ (fun s' c mv le R1 => ?_)
      · have hi : i < ns.length := by rw [← many]; exact (Array.getElem?_eq_some_iff.mp hv).1
        obtain ⟨t, e⟩ := IntsAre.int_at allI i v (by rw [Array.getElem?_toList]; exact hv)
        exact ⟨ns[i], t, List.getElem?_eq_getElem hi, by rw [e, List.getD_eq_getElem?_getD, List.getElem?_eq_getElem hi] <;> rfl⟩
      · obtain ⟨heap, gens, drawn, toks, os⟩ := s'
        cases (mv.gens : gens = s.gens)
        cases (mv.drawn : drawn = s.drawn)
        cases (mv.os : os = s.os)
        show wpAny _ _ _ _ _ _
        refine wpAny_pure (show wpAny _ _ (ret Value.none) _ _ _ from wpAny_pure ⟨rfl, fin heap toks c R1 (by rw [← many]; exact le) fun b o e => ?_⟩)
        have bl : b < s.heap.objs.size := Heap.lt_size e
        exact mv.heap b o (by rw [sz]; simp; exact ⟨Nat.ne_of_lt bl, Nat.ne_of_lt (Nat.lt_succ_of_lt bl)⟩) (Heap.get?_push_of_some _ (Heap.get?_push_of_some _ e))
    · match r2, hr2 with
      | .error e, hr2 => exact hr2
      | .ok (.ret v2), hr2 =>
        obtain ⟨rfl, q⟩ := hr2
        repeat (any_goals (first | assumption | wp_step))
end
section
variable {X : Cx}
/-- set(xs), xs a list of ints -/
def rSetI (K : PySem.W.Frag) (w : World) : List V → Hp → VK → Prop := fun vs H Q => ∃ l ns, vs = [V.ref l] ∧ SqL K H l (ns.map V.int) ∧ List.length ns < 64 ∧ ∀ p c, H p = none → c ≤ ns.length → Q (.ref p) (upd H p (SetO w p (fun j => decide (j ∈ ns)) c))
theorem cr_setI (calm : X.calm = true) : CallR X (.type "set") (rSetI X.K X.w) := by
  intro pins s σ H vs us Q I r h
  obtain ⟨l, ns, rfl, sq, lt, q⟩ := h
  rw [Vals.ref1 r]
  obtain ⟨its, vals, plain, _⟩ := I.list sq
  have e := vals.length
  rw [List.length_map] at e
  refine eset_call ns (I.ok.hd calm) plain.isList (by simpa using vals.ints) (by unfold scanBound; omega) fun heap toks c R1 le k => ?_
  exact ⟨.ref _, upd H s.heap.objs.size (SetO X.w s.heap.objs.size (fun j => decide (j ∈ ns)) c), I.laid (t' := toks) k (Nat.le_refl _) (setO_new R1), rfl, q _ c (I.hok.fresh (Nat.le_refl _)) le⟩
end
end L2
namespace Mw
open PySem L2
open Rep (rp)
/-- each once -/
def once : List Int → List Int
  | [] => []
  | x :: r => if x ∈ once r then once r else x :: once r
theorem once_mem : ∀ {l : List Int} {x : Int}, x ∈ once l ↔ x ∈ l
  | [], x => Iff.rfl
  | y :: r, x => by
    unfold once
    split
    · rename_i h
      rw [once_mem, List.mem_cons]
      exact ⟨.inr, fun z => z.elim (fun e => e ▸ once_mem.mp h) id⟩
    · rw [List.mem_cons, List.mem_cons, once_mem]
theorem once_nd : ∀ l : List Int, (once l).Nodup
  | [] => List.nodup_nil
  | y :: r => by
    unfold once
    split
    · exact once_nd r
    · rename_i h
      exact List.nodup_cons.mpr ⟨h, once_nd r⟩
theorem once_len : ∀ l : List Int, (once l).length ≤ l.length
  | [] => Nat.le_refl 0
  | y :: r => by
    have := once_len r
    unfold once
    split
    · rw [List.length_cons]; omega
    · rw [List.length_cons, List.length_cons]; omega
/-- sorted(set(xs)) -/
def sortU (xs : List Int) : List Int := sortI (once xs)
theorem sortU_is {xs ns : List Int} (h : ns.Pairwise (· < ·)) (m : ∀ k, k ∈ ns ↔ k ∈ xs) : ns = sortU xs := by
  have nd : ns.Nodup := h.imp fun a => by intro z; omega
  have pm : ns.Perm (sortU xs) := by
    refine List.Perm.trans ?_ (sortI_perm _).symm
    rw [List.perm_ext_iff_of_nodup nd (once_nd xs)]
    exact fun k => (m k).trans once_mem.symm
  exact sorted_same pm (h.imp fun a => Int.le_of_lt a) (sortI_sorted _)
theorem sortU_lt (xs : List Int) : (sortU xs).Pairwise (· < ·) := L2.lt_of_le_nodup _ (sortI_sorted _) ((sortI_perm _).nodup_iff.mpr (once_nd xs))
theorem sortU_mem {xs : List Int} {x : Int} : x ∈ sortU xs ↔ x ∈ xs := ((sortI_perm _).mem_iff).trans once_mem
theorem sortU_len (xs : List Int) : (sortU xs).length ≤ xs.length := by
  unfold sortU
  rw [(sortI_perm _).length_eq]
  exact once_len xs
noncomputable def sortUM (xs : List Int) : M (List Int) := chk (xs.length < 64) (sortU xs)
section
variable {ce : Ce} {E : XK} {K : PySem.W.Frag} {wo : World} {σ : L2.St} {F H : Hp} {te : TE}
theorem em_sortU {m : M (List Int)} (h : Ev ce E te σ F H (rv K) m) : Ev ce E (tCB (rSortedSet wo) (tCons (tCB (rSetI K wo) (tCons te tNil)) tNil)) σ F H (rn K) (m.bind sortUM) := fun F1 H1 g1 Q q => by
  show te σ H1 _
  refine h F1 H1 g1 _ ?_
  cases m with
  | er c => exact q
  | bad => exact q
  | ok x =>
    rintro F2 H2 v g2 ⟨l, vs, rfl, h2, h3⟩
    cases paired_int h3
    have q' : Post ce (rn K) (sortUM x) F1 H1 Q E := q
    unfold sortUM chk at q'
    split at q'
    · rename_i lt
      refine ⟨l, x, rfl, SqL.of (g2.fh _ _ h2), lt, fun p c np le => ?_⟩
      have g3 := Gr.own (o := SetO wo p (fun j => decide (j ∈ x)) c) g2.fh np
      refine ⟨p, _, c, rfl, upd_same, by omega, fun ns r hs hm hl nr => ?_⟩
      have e := sortU_is hs fun k => (hm k).trans decide_eq_true_iff
      subst e
      have g4 := Gr.own (o := .lst ((sortU x).map V.int)) g3.fh nr
      exact q' F2 _ _ ((g2.tr g3).tr g4) ⟨r, _, rfl, ex_back (g2.tr g3).hh nr, ex_back g3.fh nr, upd_same, rep_int _⟩
    · exact q'.elim
end
end Mw

set_option Elab.async false
set_option linter.all false
set_option maxRecDepth 100000
set_option maxHeartbeats 4000000
noncomputable section
namespace Kx
open PySem L2 Mw
open Rep (rp)
def FUEL : Nat := 1000000
theorem pow_10_40 : (10 : Int) ^ (40 : Int).toNat = 10000000000000000000000000000000000000000 := by decide +kernel
theorem pow_10_60 : (10 : Int) ^ (60 : Int).toNat = 1000000000000000000000000000000000000000000000000000000000000 := by decide +kernel
/-! ### _law_cell_at -/
@[irreducible] def m_law_cell_at (a0_script : Scr) (a1_k : Int) : M Int :=
  ((M.ok (decide (a1_k < (a0_script.l.length : Int)))).bind fun b => if b then ((M.ok a0_script).bind fun x_9 => (M.ok a1_k).bind fun y_10 => ixS x_9 y_10) else (M.ok (0 : Int)))
/-! ### _law_size -/
@[irreducible] def m_law_size (a0_cell : Int) : M Int :=
  ((M.ok (a0_cell / (4 : Int))).bind fun rest_23 => ((M.ok (decide ((a0_cell % (4 : Int)) = (0 : Int)))).bind fun b => if b then (M.ok ((1 : Int) + (rest_23 % (1000000000000000000000000000000000000000000000000000000000000 : Int)))) else ((M.ok (decide ((a0_cell % (4 : Int)) = (1 : Int)))).bind fun b => if b then (M.ok ((1000000000000000000000000000000000000000000000000000000000000 : Int) - (rest_23 % (9 : Int)))) else (M.ok ((1 : Int) + (rest_23 % (40 : Int)))))))
/-! ### _law_form -/
@[irreducible] def m_law_form_b1 (a0_script : Scr) (uptos_161 : (List Int)) (x_187 : Int) (s_186 : ((List ((Option Int) × Int)) × Int)) : M (Ctl ((List ((Option Int) × Int)) × Int) (List ((Option Int) × Int))) :=
  (((((M.ok uptos_161).bind fun x_209 => (M.ok x_187).bind fun y_210 => ixM x_209 y_210).bind fun x_211 => .ok (some x_211)).bind fun x_212 => (M.ok s_186.2).bind fun x_213 => .ok (x_212, x_213)).bind fun x_220 => (appM s_186.1 x_220).bind fun form_214 => ((((M.ok (s_186.2 + (1 : Int))).bind fun x_223 => ((m_law_cell_at a0_script ((1 : Int) + x_187)).ne.bind fun x_221 => (M.ok (5 : Int)).bind fun y_222 => modM x_221 y_222).bind fun y_224 => .ok (x_223 + y_224)).bind fun x_225 => (M.ok (6 : Int)).bind fun y_226 => modM x_225 y_226).bind fun number_227 => (M.ok (.nx (form_214, number_227)))))
@[irreducible] def m_law_form (a0_script : Scr) : M (List ((Option Int) × Int)) :=
  ((((m_law_cell_at a0_script (0 : Int)).ne.bind fun x_140 => (M.ok (8 : Int)).bind fun y_141 => fdivM x_140 y_141).bind fun x_142 => (M.ok (6 : Int)).bind fun y_143 => modM x_142 y_143).bind fun many_144 => (((((M.ok many_144).bind rng1M).bind fun xs_160 => lcM (fun x_151 : Int => (M.ok true)) (fun x_151 : Int => ((((m_law_cell_at a0_script ((1 : Int) + x_151)).ne.bind fun x_154 => (M.ok (5 : Int)).bind fun y_155 => fdivM x_154 y_155).bind fun x_156 => (M.ok ()).bind fun y_157 => .ok (x_156, y_157)).bind fun a_158 => (m_law_size a_158.1).ne)) xs_160).bind sortUM).bind fun uptos_161 => ((((m_law_cell_at a0_script (0 : Int)).ne.bind fun x_167 => (M.ok (48 : Int)).bind fun y_168 => fdivM x_167 y_168).bind fun x_169 => (M.ok (6 : Int)).bind fun y_170 => modM x_169 y_170).bind fun number_171 => ((M.ok ([] : (List ((Option Int) × Int)))).bind fun form_177 => (((M.ok (List.length uptos_161 : Int)).bind rng1M).bind fun xs_244 => forM (m_law_form_b1 a0_script uptos_161) (fun s_237 => ((M.ok s_237.1).bind fun x_241 => (M.ok [((none : (Option Int)), s_237.2)]).bind fun y_242 => catM x_241 y_242)) xs_244 (form_177, number_171))))))
/-! ### good_row -/
@[irreducible] def m_good_row (a0_row : Row) (a1_many : Int) : M Bool :=
  ((andM (M.ok (decide ((a0_row.cs.length : Int) = (4 : Int)))) (((M.ok a0_row).bind fun x_288 => (M.ok (0 : Int)).bind fun y_289 => ixM x_288.cs y_289).bind fun x_290 => (M.ok (Cl.w (wd (Str.ofString "mesh")))).bind fun y_291 => .ok (decide (x_290 = y_291)))).bind fun b => if b then (andM ((M.ok (1 : Int)).bind fun x_297 => (((M.ok a0_row).bind fun x_295 => (M.ok (1 : Int)).bind fun y_296 => ixM x_295.cs y_296).bind clI).bind fun y_298 => if decide (x_297 ≤ y_298) then (M.ok (1000000000000000000000000000000000000000000000000000000000000)).bind fun z_299 => .ok (decide (y_298 ≤ z_299)) else .ok false) (andM ((M.ok (0 : Int)).bind fun x_302 => (((M.ok a0_row).bind fun x_300 => (M.ok (2 : Int)).bind fun y_301 => ixM x_300.cs y_301).bind clI).bind fun y_303 => if decide (x_302 ≤ y_303) then (M.ok a1_many).bind fun z_304 => .ok (decide (y_303 < z_304)) else .ok false) ((M.ok (0 : Int)).bind fun x_307 => (((M.ok a0_row).bind fun x_305 => (M.ok (3 : Int)).bind fun y_306 => ixM x_305.cs y_306).bind clI).bind fun y_308 => if decide (x_307 ≤ y_308) then (M.ok a1_many).bind fun z_309 => .ok (decide (y_308 < z_309)) else .ok false))) else ((andM (M.ok (decide ((a0_row.cs.length : Int) = (2 : Int)))) (((M.ok a0_row).bind fun x_310 => (M.ok (0 : Int)).bind fun y_311 => ixM x_310.cs y_311).bind fun x_312 => (M.ok (Cl.w (wd (Str.ofString "crush")))).bind fun y_313 => .ok (decide (x_312 = y_313)))).bind fun b => if b then ((M.ok (0 : Int)).bind fun x_319 => (((M.ok a0_row).bind fun x_317 => (M.ok (1 : Int)).bind fun y_318 => ixM x_317.cs y_318).bind clI).bind fun y_320 => if decide (x_319 ≤ y_320) then (M.ok a1_many).bind fun z_321 => .ok (decide (y_320 < z_321)) else .ok false) else (andM (M.ok (decide ((a0_row.cs.length : Int) = (2 : Int)))) (andM (((M.ok a0_row).bind fun x_322 => (M.ok (0 : Int)).bind fun y_323 => ixM x_322.cs y_323).bind fun x_324 => (M.ok (Cl.w (wd (Str.ofString "bin")))).bind fun y_325 => .ok (decide (x_324 = y_325))) ((M.ok (0 : Int)).bind fun x_328 => (((M.ok a0_row).bind fun x_326 => (M.ok (1 : Int)).bind fun y_327 => ixM x_326.cs y_327).bind clI).bind fun y_329 => if decide (x_328 ≤ y_329) then (M.ok (5)).bind fun z_330 => .ok (decide (y_329 ≤ z_330)) else .ok false)))))
/-! ### Works -/
@[irreducible] def m_Works_b1 (a2_rows : (List Row)) (x_336 : Row) (s_335 : Unit) : M (Ctl Unit Wk) :=
  ((notM (m_good_row x_336 (List.length a2_rows : Int)).ne).bind fun b => if b then (M.er ⟨"BadWorks"⟩) else (M.ok (.nx ())))
@[irreducible] def m_Works (a1_parts : Int) (a2_rows : (List Row)) : M Wk :=
  ((M.ok ((decide (a1_parts < (2 : Int))) || ((decide ((9) < a1_parts)) || ((decide ((List.length a2_rows : Int) < (1 : Int))) || (decide ((12) < (List.length a2_rows : Int))))))).bind fun b => if b then (M.er ⟨"BadWorks"⟩) else ((M.ok a2_rows).bind fun xs_383 => forM (m_Works_b1 a2_rows) (fun s_363 => ((M.ok a1_parts).bind fun parts_367 => ((M.ok a2_rows).bind fun rows_374 => (M.ok (Wk.mk parts_367 rows_374))))) xs_383 ()))
/-! ### good_form -/
@[irreducible] def m_good_form_b2 (a0_form : (List ((Option Int) × Int))) (x_564 : Int) (s_563 : Unit) : M (Ctl Unit Bool) :=
  ((orM ((((M.ok a0_form).bind fun x_584 => (M.ok x_564).bind fun y_585 => ixM x_584 y_585).bind fun x_586 => .ok x_586.2).bind fun x_587 => (M.ok (0 : Int)).bind fun y_588 => .ok (decide (x_587 < y_588))) (orM ((((M.ok a0_form).bind fun x_589 => (M.ok x_564).bind fun y_590 => ixM x_589 y_590).bind fun x_591 => .ok x_591.2).bind fun x_592 => (M.ok (5)).bind fun y_593 => .ok (decide (y_593 < x_592))) (andM (M.ok (decide ((0 : Int) < x_564))) ((((M.ok a0_form).bind fun x_594 => (M.ok x_564).bind fun y_595 => ixM x_594 y_595).bind fun x_596 => .ok x_596.2).bind fun x_600 => (((M.ok a0_form).bind fun x_597 => (M.ok (x_564 - (1 : Int))).bind fun y_598 => ixM x_597 y_598).bind fun x_599 => .ok x_599.2).bind fun y_601 => .ok (decide (x_600 = y_601)))))).bind fun b => if b then ((M.ok false).bind fun r_605 => .ok (.rt r_605)) else (M.ok (.nx ())))
@[irreducible] def m_good_form_b1  (x_518 : ((Option Int) × Int)) (s_517 : (Option Int)) : M (Ctl (Option Int) Bool) :=
  ((orM (M.ok (!Option.isSome x_518.1)) (orM (((M.ok x_518.1).bind getM).bind fun x_541 => ((M.ok s_517).bind getM).bind fun y_542 => .ok (decide (x_541 ≤ y_542))) (((M.ok x_518.1).bind getM).bind fun x_543 => (M.ok (1000000000000000000000000000000000000000000000000000000000000)).bind fun y_544 => .ok (decide (y_544 < x_543))))).bind fun b => if b then ((M.ok false).bind fun r_548 => .ok (.rt r_548)) else ((M.ok x_518.1).bind fun before_549 => (M.ok (.nx before_549))))
@[irreducible] def m_good_form (a0_form : (List ((Option Int) × Int))) : M Bool :=
  ((orM (M.ok (decide ((List.length a0_form : Int) < (1 : Int)))) (orM (M.ok (decide ((6) < (List.length a0_form : Int)))) ((((M.ok a0_form).bind fun x_500 => (M.ok (-(1 : Int))).bind fun y_501 => ixM x_500 y_501).bind fun x_502 => .ok x_502.1).bind fun x_503 => (M.ok ()).bind fun y_504 => .ok (Option.isSome x_503)))).bind fun b => if b then (M.ok false) else ((M.ok (some (0 : Int))).bind fun before_508 => ((M.ok (cut a0_form none (some (-(1 : Int))))).bind fun xs_615 => forM m_good_form_b1 (fun s_558 => (((M.ok (List.length a0_form : Int)).bind rng1M).bind fun xs_613 => forM (m_good_form_b2 a0_form) (fun s_608 => (M.ok true)) xs_613 ())) xs_615 before_508)))
/-! ### works_by -/
@[irreducible] def m_works_by_b1 (a0_form : (List ((Option Int) × Int))) (meshes_734 : Int) (x_750 : Int) (s_749 : (List Row)) : M (Ctl (List Row) Wk) :=
  ((M.ok (x_750 + (1 : Int))).bind fun beyond_771 => (M.bind ((M.ok (decide (beyond_771 = meshes_734))).bind fun b => if b then ((M.ok ((2 : Int) * meshes_734)).bind fun beyond_811 => (M.ok beyond_811)) else (M.ok beyond_771)) fun s_780 => ((((M.ok (Cl.w (wd (Str.ofString "mesh")))).bind fun x_798 => ((((((M.ok a0_form).bind fun x_788 => (M.ok x_750).bind fun y_789 => ixM x_788 y_789).bind fun x_790 => .ok x_790.1).bind getM).bind fun x_791 => .ok (Cl.i x_791)).bind fun x_796 => ((M.ok (Cl.i (meshes_734 + x_750))).bind fun x_794 => ((M.ok (Cl.i s_780)).bind fun x_792 => (M.ok ([] : List Cl)).bind fun y_793 => .ok (x_792 :: y_793)).bind fun y_795 => .ok (x_794 :: y_795)).bind fun y_797 => .ok (x_796 :: y_797)).bind fun y_799 => .ok (x_798 :: y_799)).bind fun x_800 => chk (x_800.length ≤ 1000) (Row.mk x_800)).bind fun x_807 => (appM s_749 x_807).bind fun rows_801 => (M.ok (.nx rows_801)))))
@[irreducible] def m_works_by (a0_form : (List ((Option Int) × Int))) (a1_parts : Int) : M Wk :=
  ((notM (m_good_form a0_form).ne).bind fun b => if b then (M.er ⟨"BadForm"⟩) else ((M.ok ((List.length a0_form : Int) - (1 : Int))).bind fun meshes_734 => ((M.ok ([] : (List Row))).bind fun rows_740 => (((M.ok meshes_734).bind rng1M).bind fun xs_845 => forM (m_works_by_b1 a0_form meshes_734) (fun s_820 => (((M.ok a1_parts).bind fun x_841 => (((M.ok s_820).bind fun x_837 => ((M.ok a0_form).bind fun xs_836 => lcM (fun x_825 : ((Option Int) × Int) => (M.ok true)) (fun x_825 : ((Option Int) × Int) => (((M.ok (Cl.w (wd (Str.ofString "bin")))).bind fun x_832 => ((M.ok (Cl.i x_825.2)).bind fun x_830 => (M.ok ([] : List Cl)).bind fun y_831 => .ok (x_830 :: y_831)).bind fun y_833 => .ok (x_832 :: y_833)).bind fun x_834 => chk (x_834.length ≤ 1000) (Row.mk x_834))) xs_836).bind fun y_838 => catM x_837 y_838).bind fun x_839 => (M.ok ()).bind fun y_840 => .ok (x_839, y_840)).bind fun y_842 => .ok (x_841, y_842)).bind fun a_843 => (m_Works a_843.1 a_843.2.1))) xs_845 rows_740))))
/-! ### _law_spoiled -/
@[irreducible] def m_law_spoiled (a0_form : (List ((Option Int) × Int))) (a1_cell : Int) : M (List ((Option Int) × Int)) :=
  (((M.ok (a1_cell / (16 : Int))).bind fun x_846 => (M.ok (List.length a0_form : Int)).bind fun y_847 => modM x_846 y_847).bind fun at_848 => ((((M.ok [((some (0 : Int)), (9 : Int))]).bind fun x_854 => (M.ok a0_form).bind fun y_855 => catM x_854 y_855).bind fun x_856 => (M.ok at_848).bind fun y_857 => ixM x_856 y_857).bind fun ahead_858 => (((M.ok a0_form).bind fun x_864 => (M.ok at_848).bind fun y_865 => ixM x_864 y_865).bind fun here_866 => ((M.ok (a1_cell % (9 : Int))).bind fun kind_872 => ((M.ok ((a1_cell / (256 : Int)) % (10000000000000000000000000000000000000000 : Int))).bind fun far_878 => ((M.ok ((decide (kind_872 = (8 : Int))) && (decide ((List.length a0_form : Int) = (1 : Int))))).bind fun b => if b then (M.ok [((some (7 : Int)), here_866.2), here_866]) else ((M.ok (decide (kind_872 = (8 : Int)))).bind fun b => if b then ((M.ok (if at_848 > (1 : Int) then at_848 else (1 : Int))).bind fun at_890 => (((M.ok (cut a0_form none (some at_890))).bind fun x_907 => ((((((M.ok a0_form).bind fun x_896 => (M.ok at_890).bind fun y_897 => ixM x_896 y_897).bind fun x_898 => .ok x_898.1).bind fun x_902 => (((M.ok a0_form).bind fun x_899 => (M.ok (at_890 - (1 : Int))).bind fun y_900 => ixM x_899 y_900).bind fun x_901 => .ok x_901.2).bind fun x_903 => .ok (x_902, x_903)).bind fun x_904 => (M.ok ([] : List ((Option Int) × Int))).bind fun y_905 => .ok (x_904 :: y_905)).bind fun x_906 => chk (x_906.length ≤ 1000) x_906).bind fun y_908 => catM x_907 y_908).bind fun x_909 => (M.ok (cut a0_form (some (at_890 + (1 : Int))) none)).bind fun y_910 => catM x_909 y_910)) else ((M.ok (decide (kind_872 = (0 : Int)))).bind fun b => if b then (((M.ok (cut a0_form none (some at_848))).bind fun x_914 => (M.ok [((some (((1000000000000000000000000000000000000000000000000000000000000 : Int) + (1 : Int)) + far_878)), here_866.2)]).bind fun y_915 => catM x_914 y_915).bind fun x_916 => (M.ok (cut a0_form (some at_848) none)).bind fun y_917 => catM x_916 y_917) else ((M.ok (decide (kind_872 = (1 : Int)))).bind fun b => if b then (((M.ok (cut a0_form none (some at_848))).bind fun x_929 => (((((((M.ok ahead_858.1).bind getM).bind fun x_921 => (M.ok (far_878 % (3 : Int))).bind fun y_922 => .ok (x_921 - y_922)).bind fun x_923 => .ok (some x_923)).bind fun x_924 => (M.ok here_866.2).bind fun x_925 => .ok (x_924, x_925)).bind fun x_926 => (M.ok ([] : List ((Option Int) × Int))).bind fun y_927 => .ok (x_926 :: y_927)).bind fun x_928 => chk (x_928.length ≤ 1000) x_928).bind fun y_930 => catM x_929 y_930).bind fun x_931 => (M.ok (cut a0_form (some at_848) none)).bind fun y_932 => catM x_931 y_932) else ((M.ok (decide (kind_872 = (2 : Int)))).bind fun b => if b then (((M.ok (cut a0_form none (some at_848))).bind fun x_943 => ((((M.ok here_866.1).bind fun x_938 => ((M.ok [((6 : Int) + far_878), ((-(1 : Int)) - far_878)]).bind fun x_936 => (M.ok ((a1_cell / (8 : Int)) % (2 : Int))).bind fun y_937 => ixM x_936 y_937).bind fun x_939 => .ok (x_938, x_939)).bind fun x_940 => (M.ok ([] : List ((Option Int) × Int))).bind fun y_941 => .ok (x_940 :: y_941)).bind fun x_942 => chk (x_942.length ≤ 1000) x_942).bind fun y_944 => catM x_943 y_944).bind fun x_945 => (M.ok (cut a0_form (some (at_848 + (1 : Int))) none)).bind fun y_946 => catM x_945 y_946) else ((M.ok (decide (kind_872 = (3 : Int)))).bind fun b => if b then ((M.ok (cut a0_form none (some (-(1 : Int))))).bind fun x_958 => ((((M.ok (some (1000000000000000000000000000000000000000000000000000000000000 : Int))).bind fun x_953 => (((M.ok a0_form).bind fun x_950 => (M.ok (-(1 : Int))).bind fun y_951 => ixM x_950 y_951).bind fun x_952 => .ok x_952.2).bind fun x_954 => .ok (x_953, x_954)).bind fun x_955 => (M.ok ([] : List ((Option Int) × Int))).bind fun y_956 => .ok (x_955 :: y_956)).bind fun x_957 => chk (x_957.length ≤ 1000) x_957).bind fun y_959 => catM x_958 y_959) else ((M.ok (decide (kind_872 = (4 : Int)))).bind fun b => if b then ((M.ok [((none : (Option Int)), ((here_866.2 + (1 : Int)) % (6 : Int)))]).bind fun x_963 => (M.ok a0_form).bind fun y_964 => catM x_963 y_964) else ((M.ok (decide (kind_872 = (5 : Int)))).bind fun b => if b then (((M.ok (cut a0_form none (some at_848))).bind fun x_968 => (M.ok [here_866]).bind fun y_969 => catM x_968 y_969).bind fun x_970 => (M.ok (cut a0_form (some at_848) none)).bind fun y_971 => catM x_970 y_971) else ((M.ok (decide (kind_872 = (6 : Int)))).bind fun b => if b then (M.ok ([] : (List ((Option Int) × Int)))) else ((((M.ok (6 : Int)).bind rng1M).bind fun xs_980 => lcM (fun x_976 : Int => (M.ok true)) (fun x_976 : Int => (M.ok ((some (x_976 + (1 : Int))), (x_976 % (2 : Int))))) xs_980).bind fun long_981 => ((M.ok long_981).bind fun x_987 => (M.ok [((none : (Option Int)), (0 : Int))]).bind fun y_988 => catM x_987 y_988))))))))))))))))
/-! ### pieces_of -/
@[irreducible] def m_pieces_of (a0_size : Int) (a1_parts : Int) : M (List (Int × Int)) :=
  ((((((M.ok a0_size).bind fun x_1058 => (M.ok a1_parts).bind fun y_1059 => fdivM x_1058 y_1059).bind fun x_1064 => ((M.ok a1_parts).bind fun x_1062 => ((M.ok a0_size).bind fun x_1060 => (M.ok a1_parts).bind fun y_1061 => modM x_1060 y_1061).bind fun y_1063 => .ok (x_1062 - y_1063)).bind fun x_1065 => .ok (x_1064, x_1065)).bind fun x_1076 => (((((M.ok a0_size).bind fun x_1066 => (M.ok a1_parts).bind fun y_1067 => fdivM x_1066 y_1067).bind fun x_1068 => (M.ok (1 : Int)).bind fun y_1069 => .ok (x_1068 + y_1069)).bind fun x_1072 => ((M.ok a0_size).bind fun x_1070 => (M.ok a1_parts).bind fun y_1071 => modM x_1070 y_1071).bind fun x_1073 => .ok (x_1072, x_1073)).bind fun x_1074 => (M.ok ([] : List (Int × Int))).bind fun y_1075 => .ok (x_1074 :: y_1075)).bind fun y_1077 => .ok (x_1076 :: y_1077)).bind fun x_1078 => chk (x_1078.length ≤ 1000) x_1078).bind fun pairs_1079 => ((M.ok pairs_1079).bind fun xs_1094 => lcM (fun x_1086 : (Int × Int) => (((M.ok x_1086.1).bind fun x_1089 => (M.ok x_1086.2).bind fun y_1090 => mulM x_1089 y_1090).bind fun x_1091 => (M.ok (0 : Int)).bind fun y_1092 => .ok (decide (y_1092 < x_1091)))) (fun x_1086 : (Int × Int) => (M.ok x_1086)) xs_1094))
/-! ### goes_on -/
@[irreducible] def m_goes_on (a0_works : Wk) (a1_row : Int) (a2_size : Int) : M (List (T3 Int Int Int)) :=
  (((M.ok a0_works.rows).bind fun x_1153 => (M.ok a1_row).bind fun y_1154 => ixM x_1153 y_1154).bind fun told_1155 => ((((M.ok told_1155).bind fun x_1161 => (M.ok (0 : Int)).bind fun y_1162 => ixM x_1161.cs y_1162).bind fun x_1163 => (M.ok (Cl.w (wd (Str.ofString "bin")))).bind fun y_1164 => .ok (decide (x_1163 = y_1164))).bind fun b => if b then (M.ok ([] : (List (T3 Int Int Int)))) else ((((M.ok told_1155).bind fun x_1168 => (M.ok (0 : Int)).bind fun y_1169 => ixM x_1168.cs y_1169).bind fun x_1170 => (M.ok (Cl.w (wd (Str.ofString "crush")))).bind fun y_1171 => .ok (decide (x_1170 = y_1171))).bind fun b => if b then ((m_pieces_of a2_size a0_works.parts).ne.bind fun xs_1187 => lcM (fun x_1176 : (Int × Int) => (M.ok true)) (fun x_1176 : (Int × Int) => ((((M.ok told_1155).bind fun x_1181 => (M.ok (1 : Int)).bind fun y_1182 => ixM x_1181.cs y_1182).bind clI).bind fun x_1183 => (M.ok x_1176.1).bind fun x_1184 => (M.ok x_1176.2).bind fun x_1185 => .ok (T3.mk x_1183 x_1184 x_1185))) xs_1187) else (((M.ok a2_size).bind fun x_1190 => (((M.ok told_1155).bind fun x_1188 => (M.ok (1 : Int)).bind fun y_1189 => ixM x_1188.cs y_1189).bind clI).bind fun y_1191 => .ok (decide (x_1190 ≤ y_1191))).bind fun b => if b then ((((((M.ok told_1155).bind fun x_1195 => (M.ok (2 : Int)).bind fun y_1196 => ixM x_1195.cs y_1196).bind clI).bind fun x_1197 => (M.ok a2_size).bind fun x_1198 => (M.ok (1 : Int)).bind fun x_1199 => .ok (T3.mk x_1197 x_1198 x_1199)).bind fun x_1200 => (M.ok ([] : List (T3 Int Int Int))).bind fun y_1201 => .ok (x_1200 :: y_1201)).bind fun x_1202 => chk (x_1202.length ≤ 1000) x_1202) else ((((((M.ok told_1155).bind fun x_1203 => (M.ok (3 : Int)).bind fun y_1204 => ixM x_1203.cs y_1204).bind clI).bind fun x_1205 => (M.ok a2_size).bind fun x_1206 => (M.ok (1 : Int)).bind fun x_1207 => .ok (T3.mk x_1205 x_1206 x_1207)).bind fun x_1208 => (M.ok ([] : List (T3 Int Int Int))).bind fun y_1209 => .ok (x_1208 :: y_1209)).bind fun x_1210 => chk (x_1210.length ≤ 1000) x_1210)))))
/-! ### bin_at -/
@[irreducible] def m_bin_at_b1 (a0_works : Wk) (a2_size : Int) (s_1261 : Int) : M (Ctl Int Int) :=
  ((((m_goes_on a0_works s_1261 a2_size).ne.bind fun x_1290 => (M.ok (0 : Int)).bind fun y_1291 => ixM x_1290 y_1291).bind fun x_1292 => .ok x_1292.a).bind fun row_1293 => (M.ok (.nx row_1293)))
@[irreducible] def m_bin_at_c1 (a0_works : Wk) (s_1261 : Int) : M Bool :=
  ((((M.ok a0_works.rows).bind fun x_1268 => (M.ok s_1261).bind fun y_1269 => ixM x_1268 y_1269).bind fun x_1270 => (M.ok (0 : Int)).bind fun y_1271 => ixM x_1270.cs y_1271).bind fun x_1272 => (M.ok (Cl.w (wd (Str.ofString "bin")))).bind fun y_1273 => .ok (!decide (x_1272 = y_1273)))
@[irreducible] def m_bin_at (a0_works : Wk) (a1_row : Int) (a2_size : Int) : M Int :=
  (whM (m_bin_at_c1 a0_works) (m_bin_at_b1 a0_works a2_size) (fun s_1302 => ((((M.ok a0_works.rows).bind fun x_1305 => (M.ok s_1302).bind fun y_1306 => ixM x_1305 y_1306).bind fun x_1307 => (M.ok (1 : Int)).bind fun y_1308 => ixM x_1307.cs y_1308).bind clI)) FUEL a1_row)
/-! ### sizes_looked -/
@[irreducible] def m_sizes_looked (a0_works : Wk) : M (List Int) :=
  (((M.ok a0_works.rows).bind fun xs_1351 => lcM (fun x_1341 : Row => (((M.ok x_1341).bind fun x_1344 => (M.ok (0 : Int)).bind fun y_1345 => ixM x_1344.cs y_1345).bind fun x_1346 => (M.ok (Cl.w (wd (Str.ofString "mesh")))).bind fun y_1347 => .ok (decide (x_1346 = y_1347)))) (fun x_1341 : Row => (((M.ok x_1341).bind fun x_1348 => (M.ok (1 : Int)).bind fun y_1349 => ixM x_1348.cs y_1349).bind clI)) xs_1351).bind fun openings_1352 => (((((M.ok [(1 : Int)]).bind fun x_1358 => (M.ok openings_1352).bind fun y_1359 => catM x_1358 y_1359).bind fun x_1366 => ((M.ok openings_1352).bind fun xs_1365 => lcM (fun x_1361 : Int => (M.ok true)) (fun x_1361 : Int => (M.ok (x_1361 + (1 : Int)))) xs_1365).bind fun y_1367 => catM x_1366 y_1367).bind fun x_1368 => (M.ok ()).bind fun y_1369 => .ok (x_1368, y_1369)).bind fun a_1370 => .ok (sortI a_1370.1)))
/-! ### whole_to -/
@[irreducible] def m_whole_to (a0_works : Wk) (a1_row : Int) (a2_size : Int) : M (Option Int) :=
  ((m_goes_on a0_works a1_row a2_size).ne.bind fun told_1393 => ((andM (M.ok (decide ((List.length told_1393 : Int) = (1 : Int)))) (andM ((((M.ok told_1393).bind fun x_1399 => (M.ok (0 : Int)).bind fun y_1400 => ixM x_1399 y_1400).bind fun x_1401 => .ok x_1401.b).bind fun x_1402 => (M.ok a2_size).bind fun y_1403 => .ok (decide (x_1402 = y_1403))) ((((M.ok told_1393).bind fun x_1404 => (M.ok (0 : Int)).bind fun y_1405 => ixM x_1404 y_1405).bind fun x_1406 => .ok x_1406.c).bind fun x_1407 => (M.ok (1 : Int)).bind fun y_1408 => .ok (decide (x_1407 = y_1408))))).bind fun b => if b then ((((M.ok told_1393).bind fun x_1412 => (M.ok (0 : Int)).bind fun y_1413 => ixM x_1412 y_1413).bind fun x_1414 => .ok x_1414.a).bind fun x_1415 => .ok (some x_1415)) else (M.ok (none : (Option Int)))))
/-! ### ring_from -/
@[irreducible] def m_ring_from_b1 (a0_works : Wk) (a2_size : Int) (s_1496 : ((List Int) × (Option Int))) : M (Ctl ((List Int) × (Option Int)) (List Int)) :=
  (((M.ok s_1496.2).bind getM).bind fun x_1530 => (appM s_1496.1 x_1530).bind fun way_1524 => ((((M.ok a0_works).bind fun x_1535 => (((M.ok s_1496.2).bind getM).bind fun x_1533 => ((M.ok a2_size).bind fun x_1531 => (M.ok ()).bind fun y_1532 => .ok (x_1531, y_1532)).bind fun y_1534 => .ok (x_1533, y_1534)).bind fun y_1536 => .ok (x_1535, y_1536)).bind fun a_1537 => (m_whole_to a_1537.1 a_1537.2.1 a_1537.2.2.1).ne).bind fun row_1538 => (M.ok (.nx (way_1524, row_1538)))))
@[irreducible] def m_ring_from_c1  (s_1496 : ((List Int) × (Option Int))) : M Bool :=
  (andM (M.ok (Option.isSome s_1496.2)) (((M.ok s_1496.2).bind getM).bind fun x_1504 => (M.ok s_1496.1).bind fun y_1505 => .ok (!decide (x_1504 ∈ y_1505))))
@[irreducible] def m_ring_from (a0_works : Wk) (a1_row : (Option Int)) (a2_size : Int) : M (List Int) :=
  ((M.ok ([] : (List Int))).bind fun way_1488 => (whM m_ring_from_c1 (m_ring_from_b1 a0_works a2_size) (fun s_1548 => ((M.ok (!Option.isSome s_1548.2)).bind fun b => if b then (M.ok ([] : (List Int))) else ((M.ok s_1548.1).bind fun x_1559 => (((M.ok s_1548.1).bind fun x_1554 => ((M.ok s_1548.2).bind getM).bind fun y_1555 => idxM x_1554 y_1555).bind fun x_1556 => .ok (some x_1556)).bind fun lo_1557 => (M.ok (none : Option Int)).bind fun hi_1558 => .ok (cut x_1559 lo_1557 hi_1558)))) FUEL (way_1488, a1_row)))
/-! ### ring_of -/
@[irreducible] def m_ring_of_b2 (a0_works : Wk) (x_1637 : Int) (x_1660 : Int) (s_1659 : Unit) : M (Ctl Unit (Ctl Unit (Option (Int × (List Int))))) :=
  ((m_ring_from a0_works (some x_1660) x_1637).ne.bind fun ring_1680 => ((M.ok (!decide (ring_1680 = ([] : List Int)))).bind fun b => if b then ((M.ok (some (x_1637, ring_1680))).bind fun r_1689 => .ok (.rt (.rt r_1689))) else (M.ok (.nx ()))))
@[irreducible] def m_ring_of_b1 (a0_works : Wk) (x_1637 : Int) (s_1636 : Unit) : M (Ctl Unit (Option (Int × (List Int)))) :=
  (((M.ok (List.length a0_works.rows : Int)).bind rng1M).bind fun xs_1697 => forM (m_ring_of_b2 a0_works x_1637) (fun s_1692 => (M.ok (.nx ()))) xs_1697 ())
@[irreducible] def m_ring_of (a0_works : Wk) : M (Option (Int × (List Int))) :=
  ((m_sizes_looked a0_works).ne.bind fun xs_1705 => forM (m_ring_of_b1 a0_works) (fun s_1700 => (M.ok (none : (Option (Int × (List Int)))))) xs_1705 ())
/-! ### form_of -/
@[irreducible] def m_form_of_b1 (a0_works : Wk) (a1_row : Int) (x_1875 : Int) (s_1874 : (List ((Option Int) × Int))) : M (Ctl (List ((Option Int) × Int)) (List ((Option Int) × Int))) :=
  ((m_bin_at a0_works a1_row x_1875).ne.bind fun found_1896 => (((M.ok found_1896).bind fun x_1905 => (((M.ok s_1874).bind fun x_1902 => (M.ok (0 : Int)).bind fun y_1903 => ixM x_1902 y_1903).bind fun x_1904 => .ok x_1904.2).bind fun y_1906 => .ok (!decide (x_1905 = y_1906))).bind fun b => if b then ((M.ok (0 : Int)).bind fun y_1917 => (M.ok ((some x_1875), found_1896)).bind fun x_1916 => (insM s_1874 y_1917 x_1916).bind fun form_1910 => (M.ok (.nx form_1910))) else (M.ok (.nx s_1874))))
@[irreducible] def m_form_of (a0_works : Wk) (a1_row : Int) : M (List ((Option Int) × Int)) :=
  ((((((M.ok a0_works.rows).bind fun xs_1827 => lcM (fun x_1819 : Row => (((M.ok x_1819).bind fun x_1822 => (M.ok (0 : Int)).bind fun y_1823 => ixM x_1822.cs y_1823).bind fun x_1824 => (M.ok (Cl.w (wd (Str.ofString "crush")))).bind fun y_1825 => .ok (decide (x_1824 = y_1825)))) (fun x_1819 : Row => (M.ok x_1819)) xs_1827).bind fun x_1828 => (M.ok ()).bind fun y_1829 => .ok (x_1828, y_1829)).bind fun a_1830 => .ok (List.length a_1830.1 : Int)).bind fun x_1831 => (M.ok (0 : Int)).bind fun y_1832 => .ok (decide (y_1832 < x_1831))).bind fun b => if b then (M.er ⟨"HasCrusher"⟩) else (((m_ring_of a0_works).ne.bind fun x_1836 => (M.ok ()).bind fun y_1837 => .ok (Option.isSome x_1836)).bind fun b => if b then (M.er ⟨"Stuck"⟩) else ((((M.ok a0_works.rows).bind fun xs_1852 => lcM (fun x_1842 : Row => (((M.ok x_1842).bind fun x_1845 => (M.ok (0 : Int)).bind fun y_1846 => ixM x_1845.cs y_1846).bind fun x_1847 => (M.ok (Cl.w (wd (Str.ofString "mesh")))).bind fun y_1848 => .ok (decide (x_1847 = y_1848)))) (fun x_1842 : Row => (((M.ok x_1842).bind fun x_1849 => (M.ok (1 : Int)).bind fun y_1850 => ixM x_1849.cs y_1850).bind clI)) xs_1852).bind sortUM).bind fun openings_1853 => ((m_bin_at a0_works a1_row ((1000000000000000000000000000000000000000000000000000000000000) + (1 : Int))).ne.bind fun last_1859 => ((M.ok [((none : (Option Int)), last_1859)]).bind fun form_1865 => (((M.ok openings_1853).bind fun x => .ok x.reverse).bind fun xs_1926 => forM (m_form_of_b1 a0_works a1_row) (fun s_1921 => (M.ok s_1921)) xs_1926 form_1865))))))
/-! ### _law_word -/
@[irreducible] def m_law_word (a0_form : (List ((Option Int) × Int))) : M Wd :=
  ((M.ok (wd (Str.ofString "made"))).bind fun word_2028 => (catchM ((m_works_by a0_form (2 : Int)).bind fun _ => (M.ok ())) (fun c => (if c.name = "BadForm" then ((M.ok (wd (Str.ofString "other"))).bind fun word_2057 => (M.bind ((M.ok (true && true)).bind fun b => if b then ((M.ok (wd (Str.ofString "refused"))).bind fun word_2085 => (M.ok word_2085)) else (M.ok word_2057)) fun s_2066 => ((M.ok (false || false)).bind fun b => if b then ((M.ok (wd (Str.ofString "other"))).bind fun word_2076 => (M.ok word_2076)) else (M.ok s_2066)))) else (if c.name = "BadWorks" then ((M.ok (wd (Str.ofString "other"))).bind fun word_2093 => (M.bind ((M.ok (false && true)).bind fun b => if b then ((M.ok (wd (Str.ofString "refused"))).bind fun word_2121 => (M.ok word_2121)) else (M.ok word_2093)) fun s_2102 => ((M.ok (true || false)).bind fun b => if b then ((M.ok (wd (Str.ofString "other"))).bind fun word_2112 => (M.ok word_2112)) else (M.ok s_2102)))) else M.bad))) (fun s_2034 => (M.ok word_2028))))
/-! ### _law_bin -/
@[irreducible] def m_law_bin_b1 (a0_rows : (List Row)) (a2_size : Int) (s_2208 : Int) : M (Ctl Int Int) :=
  ((((((((M.ok a0_rows).bind fun x_2245 => (M.ok s_2208).bind fun y_2246 => ixM x_2245 y_2246).bind fun x_2247 => (M.ok (3 : Int)).bind fun y_2248 => ixM x_2247.cs y_2248).bind clI).bind fun x_2255 => (((((M.ok a0_rows).bind fun x_2249 => (M.ok s_2208).bind fun y_2250 => ixM x_2249 y_2250).bind fun x_2251 => (M.ok (2 : Int)).bind fun y_2252 => ixM x_2251.cs y_2252).bind clI).bind fun x_2253 => (M.ok ([] : List Int)).bind fun y_2254 => .ok (x_2253 :: y_2254)).bind fun y_2256 => .ok (x_2255 :: y_2256)).bind fun x_2257 => chk (x_2257.length ≤ 1000) x_2257).bind fun x_2267 => ((((M.ok a2_size).bind fun x_2262 => ((((M.ok a0_rows).bind fun x_2258 => (M.ok s_2208).bind fun y_2259 => ixM x_2258 y_2259).bind fun x_2260 => (M.ok (1 : Int)).bind fun y_2261 => ixM x_2260.cs y_2261).bind clI).bind fun y_2263 => .ok (decide (x_2262 ≤ y_2263))).bind fun x_2264 => (M.ok ()).bind fun y_2265 => .ok (x_2264, y_2265)).bind fun a_2266 => .ok (if a_2266.1 then (1 : Int) else 0)).bind fun y_2268 => ixM x_2267 y_2268).bind fun row_2269 => (M.ok (.nx row_2269)))
@[irreducible] def m_law_bin_c1 (a0_rows : (List Row)) (s_2208 : Int) : M Bool :=
  ((((M.ok a0_rows).bind fun x_2215 => (M.ok s_2208).bind fun y_2216 => ixM x_2215 y_2216).bind fun x_2217 => (M.ok (0 : Int)).bind fun y_2218 => ixM x_2217.cs y_2218).bind fun x_2219 => (M.ok (Cl.w (wd (Str.ofString "mesh")))).bind fun y_2220 => .ok (decide (x_2219 = y_2220)))
@[irreducible] def m_law_bin (a0_rows : (List Row)) (a1_row : Int) (a2_size : Int) : M Int :=
  (whM (m_law_bin_c1 a0_rows) (m_law_bin_b1 a0_rows a2_size) (fun s_2278 => ((((M.ok a0_rows).bind fun x_2281 => (M.ok s_2278).bind fun y_2282 => ixM x_2281 y_2282).bind fun x_2283 => (M.ok (1 : Int)).bind fun y_2284 => ixM x_2283.cs y_2284).bind clI)) FUEL a1_row)
/-! ### law -/
@[irreducible] def m_law_b2 (form_2479 : (List ((Option Int) × Int))) (x_2631 : Int) (s_2630 : Unit) : M (Ctl Unit Bool) :=
  ((m_law_spoiled form_2479 x_2631).ne.bind fun spoiled_2651 => (((m_law_word spoiled_2651).ne.bind fun x_2657 => (M.ok (wd (Str.ofString "refused"))).bind fun y_2658 => .ok (!decide (x_2657 = y_2658))).bind fun b => if b then ((M.ok false).bind fun r_2662 => .ok (.rt r_2662)) else (M.ok (.nx ()))))
@[irreducible] def m_law_b1 (works_2501 : Wk) (x_2548 : ((Option Int) × Int)) (s_2547 : Int) : M (Ctl Int Bool) :=
  ((M.ok x_2548.1).bind fun high_2571 => (M.bind ((M.ok (!Option.isSome x_2548.1)).bind fun b => if b then ((M.ok (some (s_2547 + (1000000000000000000000000000000000000000000000000000000000000 : Int)))).bind fun high_2613 => (M.ok high_2613)) else (M.ok high_2571)) fun s_2580 => ((orM ((m_law_bin works_2501.rows (0 : Int) s_2547).ne.bind fun x_2587 => (M.ok x_2548.2).bind fun y_2588 => .ok (!decide (x_2587 = y_2588))) ((((M.ok works_2501.rows).bind fun x_2593 => ((M.ok (0 : Int)).bind fun x_2591 => (((M.ok s_2580).bind getM).bind fun x_2589 => (M.ok ()).bind fun y_2590 => .ok (x_2589, y_2590)).bind fun y_2592 => .ok (x_2591, y_2592)).bind fun y_2594 => .ok (x_2593, y_2594)).bind fun a_2595 => (m_law_bin a_2595.1 a_2595.2.1 a_2595.2.2.1).ne).bind fun x_2596 => (M.ok x_2548.2).bind fun y_2597 => .ok (!decide (x_2596 = y_2597)))).bind fun b => if b then ((M.ok false).bind fun r_2601 => .ok (.rt r_2601)) else ((((M.ok s_2580).bind getM).bind fun x_2602 => (M.ok (1 : Int)).bind fun y_2603 => .ok (x_2602 + y_2603)).bind fun low_2604 => (M.ok (.nx low_2604))))))
@[irreducible] def m_law (a0_script : Scr) : M Bool :=
  ((m_law_form a0_script).ne.bind fun form_2479 => ((M.ok form_2479).bind fun handed_2485 => (((M.ok (2 : Int)).bind fun x_2493 => ((m_law_cell_at a0_script (0 : Int)).ne.bind fun x_2491 => (M.ok (8 : Int)).bind fun y_2492 => modM x_2491 y_2492).bind fun y_2494 => .ok (x_2493 + y_2494)).bind fun parts_2495 => ((m_works_by handed_2485 parts_2495).bind fun works_2501 => ((orM (M.ok (!decide (works_2501.parts = parts_2495))) (orM (M.ok (!decide (handed_2485 = form_2479))) ((m_form_of works_2501 (0 : Int)).bind fun x_2507 => (M.ok form_2479).bind fun y_2508 => .ok (!decide (x_2507 = y_2508))))).bind fun b => if b then (M.ok false) else (((M.ok works_2501.rows).bind fun xs_2519 => lcM (fun x_2513 : Row => (M.ok true)) (fun x_2513 : Row => ((M.ok x_2513).bind fun x_2516 => (M.ok (0 : Int)).bind fun y_2517 => ixM x_2516.cs y_2517)) xs_2519).bind fun words_2520 => ((orM (((M.ok words_2520).bind fun x_2526 => (M.ok (Cl.w (wd (Str.ofString "mesh")))).bind fun y_2527 => .ok ((List.count y_2527 x_2526 : Nat) : Int)).bind fun x_2528 => (M.ok ((List.length form_2479 : Int) - (1 : Int))).bind fun y_2529 => .ok (!decide (x_2528 = y_2529))) (((M.ok words_2520).bind fun x_2530 => (M.ok (Cl.w (wd (Str.ofString "crush")))).bind fun y_2531 => .ok ((List.count y_2531 x_2530 : Nat) : Int)).bind fun x_2532 => (M.ok (0 : Int)).bind fun y_2533 => .ok (decide (y_2533 < x_2532)))).bind fun b => if b then (M.ok false) else ((M.ok (1 : Int)).bind fun low_2537 => ((M.ok form_2479).bind fun xs_2672 => forM (m_law_b1 works_2501) (fun s_2622 => (((M.ok [(0 : Int), (5 : Int), (8 : Int)]).bind fun x_2626 => (M.ok (cut a0_script.l none (some (40 : Int)))).bind fun y_2627 => catM x_2626 y_2627).bind fun xs_2670 => forM (m_law_b2 form_2479) (fun s_2665 => (M.ok (decide (handed_2485 = form_2479)))) xs_2670 ())) xs_2672 low_2537)))))))))
/-! ### the plain law -/
theorem ix_nat {α : Type} [Rep α] (xs : List α) (i : Int) (h0 : 0 ≤ i) (h1 : i < xs.length) : ∃ x ∈ xs, ixM xs i = .ok x := by
  have hl : i.toNat < xs.length := by omega
  refine ⟨xs[i.toNat], List.getElem_mem hl, ?_⟩
  have := ixM_of (xs := xs) (i := i.toNat) (List.getElem?_eq_getElem hl)
  rw [Int.toNat_of_nonneg h0] at this
  exact this
theorem ix_mod {α : Type} [Rep α] (xs : List α) (x n : Int) (hn : (xs.length : Int) = n) (h : 0 < n) : ∃ v ∈ xs, ixM xs (x % n) = .ok v := ix_nat xs (x % n) (Int.emod_nonneg x (by omega)) (by have := Int.emod_lt_of_pos x h; omega)
theorem small_of (x : Int) (h1 : 0 ≤ x) (h2 : x ≤ 10 ^ 200) : x.natAbs < 2 ^ 10000 := by
  have a : x.natAbs ≤ 10 ^ 200 := by
    have : ((10 : Int) ^ 200) = ((10 ^ 200 : Nat) : Int) := by norm_cast
    omega
  exact Nat.lt_of_le_of_lt a (by decide +kernel)
theorem cell_at_ok (ns : List Int) (k : Int) (hk : 0 ≤ k) : ∃ c, m_law_cell_at ⟨ns⟩ k = .ok c := by
  unfold m_law_cell_at
  simp only [M.ok_bind]
  by_cases hz : k < (ns.length : Int)
  · rw [if_pos (decide_eq_true hz)]
    obtain ⟨v, _, ev⟩ := ix_nat ns k hk hz
    exact ⟨v, ev⟩
  · rw [if_neg (by simpa using hz)]
    exact ⟨_, rfl⟩
theorem size_ok (c : Int) : ∃ v, m_law_size c = .ok v ∧ 1 ≤ v ∧ v ≤ (1000000000000000000000000000000000000000000000000000000000000 : Int) := by
  unfold m_law_size
  simp only [M.ok_bind]
  by_cases h : c % 4 = 0
  · rw [if_pos (decide_eq_true h)]
    exact ⟨_, rfl, by omega, by omega⟩
  · rw [if_neg (by simpa using h)]
    by_cases h2 : c % 4 = 1
    · rw [if_pos (decide_eq_true h2)]
      exact ⟨_, rfl, by omega, by omega⟩
    · rw [if_neg (by simpa using h2)]
      exact ⟨_, rfl, by omega, by omega⟩
/-! rows -/
def cM : Cl := Cl.w (wd (Str.ofString "mesh"))
def cC : Cl := Cl.w (wd (Str.ofString "crush"))
def cB : Cl := Cl.w (wd (Str.ofString "bin"))
theorem mb : decide (cM = cB) = false := by decide +kernel
theorem mc : decide (cM = cC) = false := by decide +kernel
theorem cb : decide (cC = cB) = false := by decide +kernel
theorem cm : decide (cC = cM) = false := by decide +kernel
theorem bm : decide (cB = cM) = false := by decide +kernel
theorem bc : decide (cB = cC) = false := by decide +kernel
inductive GR (n : Int) : Row → Prop
  | mesh (o a b : Int) : 1 ≤ o → o ≤ (1000000000000000000000000000000000000000000000000000000000000 : Int) → 0 ≤ a → a < n → 0 ≤ b → b < n → GR n ⟨[cM, .i o, .i a, .i b]⟩
  | crush (a : Int) : 0 ≤ a → a < n → GR n ⟨[cC, .i a]⟩
  | bin (b : Int) : 0 ≤ b → b ≤ 5 → GR n ⟨[cB, .i b]⟩
theorem ix0 {α : Type} [Rep α] (a : α) (r : List α) : ixM (a :: r) 0 = .ok a := ixM_of (i := 0) rfl
theorem ix1 {α : Type} [Rep α] (a b : α) (r : List α) : ixM (a :: b :: r) 1 = .ok b := ixM_of (i := 1) rfl
theorem ix2 {α : Type} [Rep α] (a b c : α) (r : List α) : ixM (a :: b :: c :: r) 2 = .ok c := ixM_of (i := 2) rfl
theorem ix3 {α : Type} [Rep α] (a b c d : α) (r : List α) : ixM (a :: b :: c :: d :: r) 3 = .ok d := ixM_of (i := 3) rfl
theorem good_is {n : Int} {r : Row} (g : GR n r) : m_good_row r n = .ok true := by
  unfold m_good_row
  cases g with
  | mesh o a b h1 h2 h3 h4 h5 h6 =>
    simp only [M.ok_bind, Mw.bind_assoc, Mw.andM, ix0, ix1, ix2, ix3, clI]
    have : decide (cM = Cl.w (wd (Str.ofString "mesh"))) = true := decide_eq_true rfl
    rw [this]
    have e4 : decide (((([cM, Cl.i o, Cl.i a, Cl.i b] : List Cl).length : Nat) : Int) = 4) = true := rfl
    rw [e4]
    simp only [if_true, M.ok_bind]
    rw [if_pos (decide_eq_true h1)]
    simp only [M.ok_bind, decide_eq_true h2, if_true]
    rw [if_pos (decide_eq_true h3)]
    simp only [M.ok_bind, decide_eq_true h4, if_true]
    rw [if_pos (decide_eq_true h5)]
    simp only [decide_eq_true h6]
  | crush a h1 h2 =>
    simp only [M.ok_bind, Mw.bind_assoc, Mw.andM, ix0, ix1, clI]
    have e4 : decide (((([cC, Cl.i a] : List Cl).length : Nat) : Int) = 4) = false := rfl
    have e2 : decide (((([cC, Cl.i a] : List Cl).length : Nat) : Int) = 2) = true := rfl
    have : decide (cC = Cl.w (wd (Str.ofString "crush"))) = true := decide_eq_true rfl
    rw [e4, e2, this]
    simp only [if_true, M.ok_bind, Bool.false_eq_true, if_false]
    rw [if_pos (decide_eq_true h1)]
    simp only [decide_eq_true h2]
  | bin b h1 h2 =>
    simp only [M.ok_bind, Mw.bind_assoc, Mw.andM, ix0, ix1, clI]
    have e4 : decide (((([cB, Cl.i b] : List Cl).length : Nat) : Int) = 4) = false := rfl
    have e2 : decide (((([cB, Cl.i b] : List Cl).length : Nat) : Int) = 2) = true := rfl
    have q1 : decide (cB = Cl.w (wd (Str.ofString "crush"))) = false := bc
    have q2 : decide (cB = Cl.w (wd (Str.ofString "bin"))) = true := decide_eq_true rfl
    rw [e4, e2, q1, q2]
    simp only [if_true, M.ok_bind, Bool.false_eq_true, if_false]
    rw [if_pos (decide_eq_true h1)]
    simp only [decide_eq_true h2]
theorem works_is (p : Int) (rs : List Row) (h1 : 2 ≤ p) (h2 : p ≤ 9) (l1 : 1 ≤ rs.length) (l2 : rs.length ≤ 12) (g : ∀ r ∈ rs, GR rs.length r) : m_Works p rs = .ok ⟨p, rs⟩ := by
  unfold m_Works
  simp only [M.ok_bind]
  rw [if_neg (by simp; omega)]
  rw [forM_all]
  intro r hr
  unfold m_Works_b1
  rw [good_is (g r hr)]
  rfl
/-! ### where a whole grain goes -/
def pcs (s p : Int) : List (Int × Int) := (if 0 < s / p then [(s / p, p - s % p)] else []) ++ (if 0 < s % p then [(s / p + 1, s % p)] else [])
theorem pieces_is (s p : Int) (hs : 1 ≤ s) (hs2 : s ≤ 10 ^ 100) (h1 : 2 ≤ p) (h2 : p ≤ 9) : m_pieces_of s p = .ok (pcs s p) := by
  have pn : p.natAbs < 2 ^ 8000 := Nat.lt_of_le_of_lt (show p.natAbs ≤ 9 by omega) (by decide +kernel)
  have q0 : 0 ≤ s / p := Int.ediv_nonneg (by omega) (by omega)
  have q1 : s / p ≤ s := Int.ediv_le_self p (by omega)
  have r0 := Int.emod_nonneg s (show p ≠ 0 by omega)
  have r1 := Int.emod_lt_of_pos s (show 0 < p by omega)
  unfold m_pieces_of pcs
  simp only [M.ok_bind, Mw.bind_assoc]
  rw [fdivM_ok (by omega) pn, modM_ok (by omega)]
  simp only [M.ok_bind]
  rw [chk_pos (by simp)]
  simp only [M.ok_bind]
  generalize s / p = q at q0 q1
  generalize s % p = r at r0 r1
  have bg : (10 : Int) ^ 100 + 20 ≤ 10 ^ 200 := by decide +kernel
  have sq : ∀ x : Int, 0 ≤ x → x ≤ s + 1 → x.natAbs < 2 ^ 10000 := fun x a b => small_of x a (by omega)
  rw [lcM_congr (c' := fun x => .ok (decide (0 < x.1 * x.2))) (e' := fun x => .ok x) (fun x hx => by
    simp only [List.mem_cons, List.not_mem_nil, or_false] at hx
    rcases hx with z | z <;> subst z
    · dsimp only
      rw [mulM_ok (sq q q0 (by omega)) (small_of _ (by omega) (by omega))]
      rfl
    · dsimp only
      rw [mulM_ok (sq (q + 1) (by omega) (by omega)) (small_of _ (by omega) (by omega))]
      rfl) (fun _ _ _ => rfl)]
  rw [lcM_ok (c := fun x : Int × Int => decide (0 < x.1 * x.2)) (e := fun x => x) (by simp), List.map_id']
  have a1 : decide (0 < q * (p - r)) = decide (0 < q) := by
    by_cases z : 0 < q
    · rw [decide_eq_true z, decide_eq_true (Int.mul_pos z (by omega))]
    · have : q = 0 := by omega
      subst this
      simp
  have a2 : decide (0 < (q + 1) * r) = decide (0 < r) := by
    by_cases z : 0 < r
    · rw [decide_eq_true z, decide_eq_true (Int.mul_pos (by omega) z)]
    · have : r = 0 := by omega
      subst this
      simp
  rw [List.filter_cons, List.filter_cons, List.filter_nil]
  dsimp only
  rw [a1, a2]
  by_cases z1 : 0 < q <;> by_cases z2 : 0 < r <;> simp [z1, z2]
def dR : Row := ⟨[]⟩
def nx (s : Int) (r : Row) : Option Int := match r.cs with
  | [_, .i o, .i a, .i b] => some (if s ≤ o then a else b)
  | [c, .i a] => if c = cC ∧ s = 1 then some a else none
  | _ => none
def fn (rs : List Row) (s i : Int) : Option Int := nx s (rs.getD i.toNat dR)
theorem nx_mesh (s o a b : Int) : nx s ⟨[cM, .i o, .i a, .i b]⟩ = some (if s ≤ o then a else b) := rfl
theorem nx_crush (s a : Int) : nx s ⟨[cC, .i a]⟩ = if s = 1 then some a else none := by
  show (if cC = cC ∧ s = 1 then some a else none) = _
  simp
theorem nx_bin (s b : Int) : nx s ⟨[cB, .i b]⟩ = none := by
  show (if cB = cC ∧ s = 1 then some b else none) = none
  rw [if_neg (fun z => absurd (decide_eq_true z.1) (by rw [show decide (cB = cC) = false from bc]; decide))]
theorem nx_rg {n s : Int} {r : Row} (g : GR n r) {t : Int} (h : nx s r = some t) : 0 ≤ t ∧ t < n := by
  cases g with
  | mesh o a b h1 h2 h3 h4 h5 h6 =>
    rw [nx_mesh] at h
    split at h <;> cases h <;> omega
  | crush a h1 h2 =>
    rw [nx_crush] at h
    split at h
    · cases h; omega
    · cases h
  | bin b h1 h2 => rw [nx_bin] at h; cases h
theorem ixR (rs : List Row) (p : Int) (h0 : 0 ≤ p) (h1 : p < rs.length) : ixM rs p = .ok (rs.getD p.toNat dR) ∧ rs.getD p.toNat dR ∈ rs := by
  have hl : p.toNat < rs.length := by omega
  have := ixM_of (xs := rs) (i := p.toNat) (List.getElem?_eq_getElem hl)
  rw [Int.toNat_of_nonneg h0] at this
  rw [this, List.getD_eq_getElem?_getD, List.getElem?_eq_getElem hl]
  exact ⟨rfl, List.getElem_mem hl⟩
theorem fn_rg {rs : List Row} (g : ∀ r ∈ rs, GR rs.length r) {s i t : Int} (h0 : 0 ≤ i) (h1 : i < rs.length) (h : fn rs s i = some t) : 0 ≤ t ∧ t < rs.length := nx_rg (g _ (ixR rs i h0 h1).2) h
theorem whole_to_is {rs : List Row} (g : ∀ r ∈ rs, GR rs.length r) (p s i : Int) (p1 : 2 ≤ p) (p2 : p ≤ 9) (s1 : 1 ≤ s) (s2 : s ≤ 10 ^ 100) (h0 : 0 ≤ i) (h1 : i < rs.length) : m_whole_to ⟨p, rs⟩ i s = .ok (fn rs s i) := by
  obtain ⟨e, m⟩ := ixR rs i h0 h1
  have gr := g _ m
  unfold m_whole_to m_goes_on fn
  simp only [M.ok_bind, Mw.bind_assoc, e]
  generalize rs.getD i.toNat dR = r at gr
  cases gr with
  | mesh o a b =>
    have q1 : decide (cM = Cl.w (wd (Str.ofString "bin"))) = false := mb
    have q2 : decide (cM = Cl.w (wd (Str.ofString "crush"))) = false := mc
    simp only [ix0, ix1, ix2, ix3, M.ok_bind, clI, q1, q2, Bool.false_eq_true, if_false]
    rw [nx_mesh]
    by_cases c : s ≤ o
    · rw [if_pos (decide_eq_true c), if_pos c, chk_pos (by simp)]
      simp only [ne_ok, M.ok_bind, ix0, decide_true, andM_t]
      rfl
    · rw [if_neg (by simpa using c), if_neg c, chk_pos (by simp)]
      simp only [ne_ok, M.ok_bind, ix0, decide_true, andM_t]
      rfl
  | bin b =>
    have q1 : decide (cB = Cl.w (wd (Str.ofString "bin"))) = true := decide_eq_true rfl
    simp only [ix0, M.ok_bind, q1, if_true, ne_ok]
    rw [nx_bin]
    rfl
  | crush a =>
    have q1 : decide (cC = Cl.w (wd (Str.ofString "bin"))) = false := cb
    have q2 : decide (cC = Cl.w (wd (Str.ofString "crush"))) = true := decide_eq_true rfl
    simp only [ix0, ix1, M.ok_bind, clI, q1, q2, Bool.false_eq_true, if_false, if_true]
    rw [pieces_is s p s1 s2 p1 p2]
    simp only [M.ok_bind, ne_ok]
    have d1 : s / p < s ∨ s = 0 := by
      rcases Int.lt_or_le (s / p) s with z | z
      · exact .inl z
      · have := Int.ediv_lt_self_of_pos_of_ne_one (x := s) (y := p) (by omega) (by omega)
        omega
    have d0 : 0 ≤ s / p := Int.ediv_nonneg (by omega) (by omega)
    have r0 := Int.emod_nonneg s (show p ≠ 0 by omega)
    have dm := Int.mul_ediv_add_emod s p
    rw [lcM_all (fun x : Int × Int => T3.mk a x.1 x.2) (by unfold pcs; split <;> split <;> simp), nx_crush]
    try simp only [M.ok_bind]
    unfold pcs
    generalize s / p = q at d1 d0 dm
    generalize s % p = r at r0 dm
    by_cases z1 : 0 < q
    · rw [if_pos z1]
      by_cases z2 : 0 < r
      · rw [if_pos z2]
        have : ¬ s = 1 := fun z => by
          have := Int.mul_le_mul_of_nonneg_left (show (1 : Int) ≤ q by omega) (show 0 ≤ p by omega)
          omega
        rw [if_neg this]
        rfl
      · rw [if_neg z2]
        have : ¬ s = 1 := fun z => by
          have := Int.mul_le_mul_of_nonneg_left (show (1 : Int) ≤ q by omega) (show 0 ≤ p by omega)
          omega
        rw [if_neg this]
        simp only [List.append_nil, List.map_cons, List.map_nil, ne_ok, M.ok_bind, List.length_singleton, ix0]
        have e1 : decide (((1 : Nat) : Int) = 1) = true := rfl
        rw [e1, andM_t, decide_eq_false (show ¬ q = s by omega), andM_f]
        rfl
    · have q0 : q = 0 := by omega
      subst q0
      rw [Int.mul_zero, Int.zero_add] at dm
      subst dm
      rw [if_neg (by omega), if_pos (by omega)]
      simp only [List.nil_append, List.map_cons, List.map_nil, ne_ok, M.ok_bind, List.length_singleton, ix0]
      have e1 : decide (((1 : Nat) : Int) = 1) = true := rfl
      rw [e1, andM_t]
      by_cases z : r = 1
      · subst z; rfl
      · rw [if_neg z, decide_eq_false (show ¬ ((0 : Int) + 1 = r) by omega), andM_f]
        rfl
/-! ### ways -/
theorem pigeon : ∀ (n : Nat) (l : List Int), l.Nodup → (∀ x ∈ l, 0 ≤ x ∧ x < n) → l.length ≤ n
  | 0, [], _, _ => Nat.le_refl 0
  | 0, x :: l, _, h => by have := h x List.mem_cons_self; omega
  | n + 1, l, nd, h => by
    have := pigeon n (l.erase (n : Int)) (nd.erase _) fun x hx => by
      have hx' := (nd.mem_erase_iff).mp hx
      have := h x hx'.2
      have h1 := hx'.1
      omega
    have e := List.length_erase (a := (n : Int)) (l := l)
    split at e <;> omega
structure Way (f : Int → Option Int) (n : Nat) (way : List Int) (row : Option Int) : Prop where
  nd : way.Nodup
  rg : ∀ x ∈ way, 0 ≤ x ∧ x < n
  lk : ∀ i (h : i + 1 < way.length), f way[i] = some way[i + 1]
  la : ∀ x, way.getLast? = some x → f x = row
  rr : ∀ x, row = some x → 0 ≤ x ∧ x < n
theorem Way.len {f : Int → Option Int} {n : Nat} {way : List Int} {row : Option Int} (h : Way f n way row) : way.length ≤ n := pigeon n way h.nd h.rg
theorem Way.push {f : Int → Option Int} {n : Nat} {way : List Int} {r : Int} (h : Way f n way (some r)) (hf : ∀ x t : Int, 0 ≤ x → x < n → f x = some t → 0 ≤ t ∧ t < n) (hr : r ∉ way) : Way f n (way ++ [r]) (f r) where
  nd := List.nodup_append.mpr ⟨h.nd, (by simp), fun x hx y hy => by
    rw [List.mem_singleton.mp hy]
    exact fun z => hr (z ▸ hx)⟩
  rg := fun x hx => by
    rcases List.mem_append.mp hx with z | z
    · exact h.rg x z
    · rw [List.mem_singleton.mp z]; exact h.rr r rfl
  lk := fun i hi => by
    rw [List.length_append, List.length_singleton] at hi
    by_cases z : i + 1 < way.length
    · rw [List.getElem_append_left (by omega), List.getElem_append_left z]
      exact h.lk i z
    · have e : i + 1 = way.length := by omega
      rw [List.getElem_append_left (by omega), List.getElem_append_right (by omega)]
      have hl : way.getLast? = some way[i] := by
        rw [List.getLast?_eq_getElem?, show way.length - 1 = i by omega, List.getElem?_eq_getElem]
      have := h.la _ hl
      rw [this]
      simp
  la := fun x hx => by
    rw [List.getLast?_append] at hx
    simp at hx
    rw [hx]
  rr := fun x hx => hf r x (h.rr r rfl).1 (h.rr r rfl).2 hx
theorem way_go {f : Int → Option Int} {n : Nat} {τ : Type} {c : List Int × Option Int → M Bool} {b : List Int × Option Int → M (Ctl (List Int × Option Int) τ)} {k : List Int × Option Int → M τ} (hn : n ≤ 1000)
    (hf : ∀ x t : Int, 0 ≤ x → x < n → f x = some t → 0 ≤ t ∧ t < n) (hc : ∀ (w : List Int) (r : Int), c (w, some r) = .ok (!decide (r ∈ w))) (hc0 : ∀ w, c (w, none) = .ok false)
    (hb : ∀ (w : List Int) (r : Int), w.length ≤ 1000 → 0 ≤ r → r < n → b (w, some r) = .ok (.nx (w ++ [r], f r))) : ∀ (fu : Nat) (way : List Int) (row : Option Int), Way f n way row → n - way.length < fu →
    ∃ way' row', whM c b k fu (way, row) = k (way', row') ∧ Way f n way' row' ∧ way <+: way' ∧ (row' = none ∨ ∃ r ∈ way', row' = some r) ∧ (way = [] → row = way'.head? ∨ row = none)
  | 0, _, _, _, h => absurd h (Nat.not_lt_zero _)
  | fu + 1, way, row, W, h => by
    unfold whM
    cases row with
    | none =>
      rw [hc0]
      exact ⟨way, none, rfl, W, List.prefix_rfl, .inl rfl, fun _ => .inr rfl⟩
    | some r =>
      rw [hc]
      simp only [M.ok_bind]
      have wl := W.len
      by_cases z : r ∈ way
      · rw [decide_eq_true z]
        exact ⟨way, some r, rfl, W, List.prefix_rfl, .inr ⟨r, z, rfl⟩, fun q => by subst q; cases z⟩
      · rw [decide_eq_false z]
        simp only [Bool.not_false, if_true]
        have hr := W.rr r rfl
        rw [hb way r (by omega) hr.1 hr.2]
        simp only [M.ok_bind]
        have W2 := W.push hf z
        have wl2 := W2.len
        rw [List.length_append, List.length_singleton] at wl2
        obtain ⟨way', row', e, W', p, o, _⟩ := way_go hn hf hc hc0 hb fu (way ++ [r]) (f r) W2 (by rw [List.length_append, List.length_singleton]; omega)
        refine ⟨way', row', e, W', (List.prefix_append _ _).trans p, o, fun q => .inl ?_⟩
        subst q
        obtain ⟨t, ht⟩ := p
        rw [← ht]
        rfl
theorem way_nil {f : Int → Option Int} {n : Nat} {r : Int} (h0 : 0 ≤ r) (h1 : r < n) : Way f n [] (some r) where
  nd := List.nodup_nil
  rg := fun x hx => by cases hx
  lk := fun i h => by simp at h
  la := fun x hx => by simp at hx
  rr := fun x hx => by cases hx; exact ⟨h0, h1⟩
/-! ### rings -/
structure Rg (f : Int → Option Int) (n : Nat) (ring : List Int) : Prop where
  ne : ring ≠ []
  nd : ring.Nodup
  rg : ∀ x ∈ ring, 0 ≤ x ∧ x < n
  lk : ∀ k (h : k < ring.length), f ring[k] = ring[(k + 1) % ring.length]?
theorem Way.ring {f : Int → Option Int} {n : Nat} {way : List Int} {r : Int} (W : Way f n way (some r)) (h : r ∈ way) : Rg f n (way.drop (way.idxOf r)) := by
  have hl := List.idxOf_lt_length_of_mem h
  have ll : (way.drop (way.idxOf r)).length = way.length - way.idxOf r := List.length_drop
  refine ⟨fun z => ?_, W.nd.sublist (List.drop_sublist _ _), fun x hx => W.rg x (List.mem_of_mem_drop hx), fun k hk => ?_⟩
  · rw [z] at ll; simp at ll; omega
  · rw [List.getElem_drop]
    rw [ll] at hk ⊢
    by_cases z : k + 1 < way.length - way.idxOf r
    · rw [Nat.mod_eq_of_lt z, W.lk (way.idxOf r + k) (by omega), List.getElem?_drop, List.getElem?_eq_getElem (by omega)]
      congr 1
    · have e : k + 1 = way.length - way.idxOf r := by omega
      rw [e, Nat.mod_self, List.getElem?_drop, Nat.add_zero, List.getElem?_eq_getElem hl, List.getElem_idxOf hl]
      refine W.la _ ?_
      rw [List.getLast?_eq_getElem?, ← List.getElem?_eq_getElem]
      congr 1
      omega
theorem forM_stop {α τ : Type} {f : α → Unit → M (Ctl Unit τ)} {k : Unit → M τ} {p : α → Bool} {r : τ} : ∀ (xs : List α), (∀ x ∈ xs, f x () = .ok (if p x = true then .nx () else .rt r)) → forM f k xs () = if xs.all p = true then k () else .ok r
  | [], _ => rfl
  | x :: xs, h => by
    rw [forM_cons, h x List.mem_cons_self, List.all_cons]
    by_cases c : p x = true
    · rw [if_pos c, c, Bool.true_and]
      exact forM_stop xs fun y hy => h y (List.mem_cons_of_mem _ hy)
    · rw [if_neg c, Bool.eq_false_iff.mpr c, Bool.false_and]
      rfl
theorem mem_rng {a b x : Int} (h : x ∈ rng a b) : a ≤ x ∧ x < b := by
  unfold rng at h
  obtain ⟨k, hk, rfl⟩ := List.mem_map.mp h
  have := List.mem_range.mp hk
  omega
theorem rng_mem {b x : Int} (h0 : 0 ≤ x) (h1 : x < b) : x ∈ rng 0 b := by
  unfold rng
  exact List.mem_map.mpr ⟨x.toNat, List.mem_range.mpr (by omega), by omega⟩
theorem ixI (l : List Int) (p : Int) (h0 : 0 ≤ p) (h1 : p < l.length) : ixM l p = .ok (l.getD p.toNat 0) ∧ l.getD p.toNat 0 ∈ l := by
  have hl : p.toNat < l.length := by omega
  have := ixM_of (xs := l) (i := p.toNat) (List.getElem?_eq_getElem hl)
  rw [Int.toNat_of_nonneg h0] at this
  rw [this, List.getD_eq_getElem?_getD, List.getElem?_eq_getElem hl]
  exact ⟨rfl, List.getElem_mem hl⟩
def okE (n : Nat) (ring : List Int) (x : Int) : Bool := decide (0 ≤ x) && (decide (x < n) && decide (ring.count x ≤ 1))
def lkE (f : Int → Option Int) (ring : List Int) (k : Int) : Bool := decide (f (ring.getD k.toNat 0) = some (ring.getD ((k + 1) % ring.length).toNat 0))
def isRg (f : Int → Option Int) (n : Nat) (ring : List Int) : Bool := !ring.isEmpty && (ring.all (okE n ring) && (rng 0 ring.length).all (lkE f ring))
theorem all_rng {p : Int → Bool} (l : List Int) : ((rng 0 (l.length : Int)).all fun k => p (l.getD k.toNat 0)) = l.all p := by
  rw [Bool.eq_iff_iff, List.all_eq_true, List.all_eq_true]
  constructor
  · intro h x hx
    obtain ⟨i, hi, rfl⟩ := List.getElem_of_mem hx
    have := h (i : Int) (rng_mem (by omega) (by omega))
    rw [Int.toNat_natCast, List.getD_eq_getElem?_getD, List.getElem?_eq_getElem hi] at this
    exact this
  · intro h k hk
    have := mem_rng hk
    exact h _ (ixI l k (by omega) (by omega)).2
theorem okE_iff {n : Nat} {ring : List Int} : ring.all (okE n ring) = true ↔ ring.Nodup ∧ ∀ x ∈ ring, 0 ≤ x ∧ x < n := by
  rw [List.all_eq_true]
  constructor
  · intro h
    refine ⟨List.nodup_iff_count.mpr fun x => ?_, fun x hx => ?_⟩
    · by_cases z : x ∈ ring
      · have := h x z
        unfold okE at this
        simp only [Bool.and_eq_true, decide_eq_true_eq] at this
        exact this.2.2
      · rw [List.count_eq_zero_of_not_mem z]; omega
    · have := h x hx
      unfold okE at this
      simp only [Bool.and_eq_true, decide_eq_true_eq] at this
      exact ⟨this.1, this.2.1⟩
  · intro h x hx
    unfold okE
    simp only [Bool.and_eq_true, decide_eq_true_eq]
    exact ⟨(h.2 x hx).1, (h.2 x hx).2, List.nodup_iff_count.mp h.1 x⟩
theorem Rg.is {f : Int → Option Int} {n : Nat} {ring : List Int} (h : Rg f n ring) : isRg f n ring = true := by
  unfold isRg
  have hp : 0 < ring.length := List.length_pos_iff.mpr h.ne
  rw [Bool.and_eq_true, Bool.and_eq_true]
  refine ⟨by simpa using h.ne, okE_iff.mpr ⟨h.nd, h.rg⟩, List.all_eq_true.mpr fun k hk => ?_⟩
  have hb := mem_rng hk
  unfold lkE
  refine decide_eq_true ?_
  have hl : k.toNat < ring.length := by omega
  have hk2 := h.lk k.toNat hl
  rw [List.getD_eq_getElem?_getD, List.getElem?_eq_getElem hl]
  show f ring[k.toNat] = _
  rw [hk2]
  have hm : (k.toNat + 1) % ring.length < ring.length := Nat.mod_lt _ hp
  have e : ((k + 1) % (ring.length : Int)).toNat = (k.toNat + 1) % ring.length := by
    have : k + 1 = ((k.toNat + 1 : Nat) : Int) := by omega
    rw [this, ← Int.natCast_emod, Int.toNat_natCast]
  rw [e, List.getElem?_eq_getElem hm, List.getD_eq_getElem?_getD, List.getElem?_eq_getElem hm]
  rfl
/-! ### rings found -/
def isM (r : Row) : Bool := match r.cs with
  | x :: _ => decide (x = cM)
  | [] => false
def opn (r : Row) : Int := match r.cs with
  | _ :: .i o :: _ => o
  | _ => 1
def SZ (rs : List Row) : List Int := sortI ([1] ++ (rs.filter isM).map opn ++ ((rs.filter isM).map opn).map (· + 1))
theorem isM_opn {n : Int} {r : Row} (g : GR n r) (h : isM r = true) : 1 ≤ opn r ∧ opn r ≤ (1000000000000000000000000000000000000000000000000000000000000 : Int) := by
  cases g with
  | mesh o a b q1 q2 => exact ⟨q1, q2⟩
  | crush a => exact absurd (h.symm.trans cm) (by decide)
  | bin b => exact absurd (h.symm.trans bm) (by decide)
theorem SZ_mem {rs : List Row} {x : Int} : x ∈ SZ rs ↔ x = 1 ∨ ∃ r ∈ rs, isM r = true ∧ (x = opn r ∨ x = opn r + 1) := by
  unfold SZ
  rw [(sortI_perm _).mem_iff, List.mem_append, List.mem_append, List.mem_singleton, List.mem_map]
  constructor
  · rintro ((h | ⟨r, hr, h⟩) | h)
    · exact .inl h
    · obtain ⟨h1, h2⟩ := List.mem_filter.mp hr
      exact .inr ⟨r, h1, h2, .inl h.symm⟩
    · obtain ⟨y, hy, h⟩ := List.mem_map.mp h
      obtain ⟨r, hr, e⟩ := List.mem_map.mp hy
      obtain ⟨h1, h2⟩ := List.mem_filter.mp hr
      exact .inr ⟨r, h1, h2, .inr (by rw [← h, ← e])⟩
  · rintro (h | ⟨r, h1, h2, h | h⟩)
    · exact .inl (.inl h)
    · exact .inl (.inr ⟨r, List.mem_filter.mpr ⟨h1, h2⟩, h.symm⟩)
    · exact .inr (List.mem_map.mpr ⟨opn r, List.mem_map.mpr ⟨r, List.mem_filter.mpr ⟨h1, h2⟩, rfl⟩, h.symm⟩)
theorem SZ_bd {rs : List Row} (g : ∀ r ∈ rs, GR rs.length r) {x : Int} (h : x ∈ SZ rs) : 1 ≤ x ∧ x ≤ 10 ^ 100 := by
  have bg : (1000000000000000000000000000000000000000000000000000000000000 : Int) + 20 ≤ 10 ^ 100 := by decide +kernel
  rcases SZ_mem.mp h with h | ⟨r, h1, h2, h⟩
  · subst h; exact ⟨by omega, by omega⟩
  · have := isM_opn (g r h1) h2
    rcases h with h | h <;> omega
theorem looked_is {rs : List Row} (g : ∀ r ∈ rs, GR rs.length r) (hl : rs.length ≤ 12) (p : Int) : m_sizes_looked ⟨p, rs⟩ = .ok (SZ rs) := by
  unfold m_sizes_looked
  simp only [M.ok_bind, Mw.bind_assoc]
  rw [lcM_congr (c' := fun r => .ok (isM r)) (e' := fun r => .ok (opn r)) (fun r hr => by
    cases g r hr <;> (simp only [ix0, M.ok_bind]; rfl)) (fun r hr _ => by
    cases g r hr <;> (simp only [ix1, M.ok_bind, clI]; rfl))]
  rw [lcM_ok (c := isM) (e := opn) (by omega)]
  simp only [M.ok_bind]
  have fl := List.length_filter_le isM rs
  have ml : ((rs.filter isM).map opn).length ≤ 12 := by rw [List.length_map]; omega
  rw [catM_ok (by simp; omega)]
  simp only [M.ok_bind]
  rw [lcM_all (fun x : Int => x + 1) (by omega)]
  simp only [M.ok_bind]
  rw [catM_ok (by simp; omega)]
  rfl
def it (f : Int → Option Int) : Nat → Int → Option Int
  | 0, r => some r
  | m + 1, r => (it f m r).bind f
theorem it_none {f : Int → Option Int} {r : Int} {m : Nat} (h : it f m r = none) : ∀ k, it f (m + k) r = none
  | 0 => h
  | k + 1 => by
    show (it f (m + k) r).bind f = none
    rw [it_none h k]; rfl
theorem it_way {f : Int → Option Int} {n : Nat} {way : List Int} {row : Option Int} {r : Int} (W : Way f n way row) (h : way.head? = some r) : (∀ i (hi : i < way.length), it f i r = some way[i]) ∧ it f way.length r = row := by
  have h1 : ∀ i (hi : i < way.length), it f i r = some way[i] := fun i => by
    induction i with
    | zero =>
      intro hi
      rw [List.head?_eq_getElem?, List.getElem?_eq_getElem hi] at h
      exact h.symm
    | succ i ih =>
      intro hi
      show (it f i r).bind f = _
      rw [ih (by omega)]
      exact W.lk i hi
  refine ⟨h1, ?_⟩
  obtain ⟨m, e⟩ : ∃ m, way.length = m + 1 := by
    cases way with
    | nil => cases h
    | cons a l => exact ⟨l.length, rfl⟩
  rw [e]
  show (it f m r).bind f = row
  rw [h1 m (by omega)]
  refine W.la _ ?_
  rw [List.getLast?_eq_getElem?, show way.length - 1 = m by omega, List.getElem?_eq_getElem]
theorem it_ring {f : Int → Option Int} {n : Nat} {way : List Int} {t r : Int} (W : Way f n way (some t)) (ht : t ∈ way) (h : way.head? = some r) : ∀ m, ∃ x ∈ way, it f m r = some x
  | 0 => by
    obtain ⟨l, e⟩ : ∃ l, way = r :: l := by
      cases way with
      | nil => cases h
      | cons a l => cases h; exact ⟨l, rfl⟩
    exact ⟨r, by rw [e]; exact List.mem_cons_self, rfl⟩
  | m + 1 => by
    obtain ⟨x, hx, e⟩ := it_ring W ht h m
    obtain ⟨i, hi, rfl⟩ := List.getElem_of_mem hx
    show ∃ y ∈ way, (it f m r).bind f = some y
    rw [e]
    show ∃ y ∈ way, f way[i] = some y
    by_cases z : i + 1 < way.length
    · exact ⟨_, List.getElem_mem z, W.lk i z⟩
    · refine ⟨t, ht, W.la _ ?_⟩
      rw [List.getLast?_eq_getElem?, show way.length - 1 = i by omega, List.getElem?_eq_getElem]
theorem ring_from_is {rs : List Row} (g : ∀ r ∈ rs, GR rs.length r) (hl : rs.length ≤ 12) (p s r : Int) (p1 : 2 ≤ p) (p2 : p ≤ 9) (s1 : 1 ≤ s) (s2 : s ≤ 10 ^ 100) (h0 : 0 ≤ r) (h1 : r < rs.length) :
    ∃ l, m_ring_from ⟨p, rs⟩ (some r) s = .ok l ∧ ((l = [] ∧ it (fn rs s) rs.length r = none) ∨ (Rg (fn rs s) rs.length l ∧ l.length ≤ 12 ∧ it (fn rs s) rs.length r ≠ none)) := by
  unfold m_ring_from
  simp only [M.ok_bind]
  obtain ⟨w, row, e, W, _, o, hd⟩ := way_go (f := fn rs s) (n := rs.length) (c := m_ring_from_c1) (b := m_ring_from_b1 ⟨p, rs⟩ s) (k := fun s_1052 => ((M.ok (!Option.isSome s_1052.2)).bind fun b => if b then (M.ok ([] : (List Int))) else ((M.ok s_1052.1).bind fun x_1063 => (((M.ok s_1052.1).bind fun x_1058 => ((M.ok s_1052.2).bind getM).bind fun y_1059 => idxM x_1058 y_1059).bind fun x_1060 => .ok (some x_1060)).bind fun lo_1061 => (M.ok (none : Option Int)).bind fun hi_1062 => .ok (cut x_1063 lo_1061 hi_1062)))) (by omega)
    (fun x t a1 a2 e => fn_rg g a1 a2 e) (fun w r => by unfold m_ring_from_c1; rfl) (fun w => by unfold m_ring_from_c1; rfl)
    (fun w r hw a1 a2 => by
      unfold m_ring_from_b1
      simp only [M.ok_bind, Mw.bind_assoc, getM]
      rw [appM_ok (by omega), whole_to_is g p s r p1 p2 s1 s2 a1 a2]
      rfl) FUEL [] (some r) (way_nil h0 h1) (by unfold FUEL; omega)
  simp only [M.ok_bind] at e
  rw [e]
  have wl := W.len
  have hd' : w.head? = some r := by
    rcases hd rfl with z | z
    · exact z.symm
    · cases z
  rcases o with o | ⟨t, ht, o⟩
  · subst o
    refine ⟨[], rfl, .inl ⟨rfl, ?_⟩⟩
    have := it_none (it_way W hd').2 (rs.length - w.length)
    rw [show w.length + (rs.length - w.length) = rs.length by omega] at this
    exact this
  · subst o
    rw [if_neg (by simp)]
    simp only [getM, M.ok_bind]
    rw [show idxM w t = .ok ((w.idxOf t : Nat) : Int) from chk_pos ht _]
    simp only [M.ok_bind]
    have il := List.idxOf_lt_length_of_mem ht
    rw [cut_drop w (Nat.le_of_lt il)]
    refine ⟨_, rfl, .inr ⟨W.ring ht, by rw [List.length_drop]; omega, ?_⟩⟩
    obtain ⟨x, _, ex⟩ := it_ring W ht hd' rs.length
    rw [ex]
    exact fun z => nomatch z
theorem forM_hit {α τ : Type} {f : α → Unit → M (Ctl Unit τ)} {k : Unit → M τ} {Q : τ → Prop} {N : α → Prop} : ∀ (xs : List α), (∀ x ∈ xs, (f x () = .ok (.nx ()) ∧ N x) ∨ ∃ r, f x () = .ok (.rt r) ∧ Q r) → (forM f k xs () = k () ∧ ∀ x ∈ xs, N x) ∨ ∃ r, forM f k xs () = .ok r ∧ Q r
  | [], _ => .inl ⟨rfl, fun _ z => nomatch z⟩
  | x :: xs, h => by
    rw [forM_cons]
    rcases h x List.mem_cons_self with ⟨e, n⟩ | ⟨r, e, q⟩
    · rw [e]
      simp only [M.ok_bind]
      rcases forM_hit (k := k) xs fun y hy => h y (List.mem_cons_of_mem _ hy) with ⟨e2, n2⟩ | ⟨r, e2, q2⟩
      · refine .inl ⟨e2, fun y hy => ?_⟩
        rcases List.mem_cons.mp hy with z | z
        · rw [z]; exact n
        · exact n2 y z
      · exact .inr ⟨r, e2, q2⟩
    · rw [e]
      exact .inr ⟨r, rfl, q⟩
def NoRing (rs : List Row) (s : Int) : Prop := ∀ r : Int, 0 ≤ r → r < rs.length → it (fn rs s) rs.length r = none
def TheRing (rs : List Row) (o : Option (Int × List Int)) : Prop := ∃ s l, o = some (s, l) ∧ s ∈ SZ rs ∧ Rg (fn rs s) rs.length l ∧ l.length ≤ 12 ∧ ¬ NoRing rs s
theorem ring_of_is {rs : List Row} (g : ∀ r ∈ rs, GR rs.length r) (hl : rs.length ≤ 12) (p : Int) (p1 : 2 ≤ p) (p2 : p ≤ 9) : (m_ring_of ⟨p, rs⟩ = .ok none ∧ ∀ s ∈ SZ rs, NoRing rs s) ∨ ∃ o, m_ring_of ⟨p, rs⟩ = .ok o ∧ TheRing rs o := by
  unfold m_ring_of
  rw [looked_is g hl]
  simp only [M.ok_bind, ne_ok]
  refine forM_hit _ fun s hs => ?_
  obtain ⟨s1, s2⟩ := SZ_bd g hs
  unfold m_ring_of_b1
  simp only [M.ok_bind]
  rw [rng1M_ok (by omega)]
  simp only [M.ok_bind]
  rcases forM_hit (f := m_ring_of_b2 ⟨p, rs⟩ s) (k := fun _ => M.ok (.nx ())) (Q := fun c => ∃ o, c = .rt o ∧ TheRing rs o) (N := fun r => it (fn rs s) rs.length r = none) (rng 0 (rs.length : Int)) fun r hr => by
    have hb := mem_rng hr
    obtain ⟨l, el, h⟩ := ring_from_is g hl p s r p1 p2 s1 s2 (by omega) (by omega)
    unfold m_ring_of_b2
    rw [el]
    simp only [M.ok_bind, ne_ok]
    rcases h with ⟨z, h⟩ | ⟨R, ll, h⟩
    · subst z
      exact .inl ⟨rfl, h⟩
    · rw [if_pos (by have := R.ne; simpa using this)]
      exact .inr ⟨_, rfl, _, rfl, s, l, rfl, hs, R, ll, fun z => h (z r (by omega) (by omega))⟩ with ⟨e, n⟩ | ⟨c, e, o, ec, T⟩
  · rw [e]
    exact .inl ⟨rfl, fun r h0 h1 => n r (rng_mem h0 h1)⟩
  · rw [e, ec]
    exact .inr ⟨o, rfl, T⟩
def goR (rs : List Row) (s : Int) : Bool := !(rng 0 (rs.length : Int)).all fun r => !(it (fn rs s) rs.length r).isSome
theorem goR_iff {rs : List Row} {s : Int} : goR rs s = false ↔ NoRing rs s := by
  unfold goR NoRing
  rw [Bool.not_eq_false', List.all_eq_true]
  constructor
  · intro h r h0 h1
    have := h r (rng_mem h0 h1)
    simpa using this
  · intro h r hr
    have hb := mem_rng hr
    rw [h r (by omega) (by omega)]
    rfl
/-! ### forms -/
def isC (r : Row) : Bool := match r.cs with
  | x :: _ => decide (x = cC)
  | [] => false
def NC (rs : List Row) : Prop := ∀ r ∈ rs, isC r = false
def bn (r : Row) : Int := match r.cs with
  | [_, .i b] => b
  | _ => 0
theorem fn_none {rs : List Row} (g : ∀ r ∈ rs, GR rs.length r) (nc : NC rs) {s i : Int} (h0 : 0 ≤ i) (h1 : i < rs.length) (h : fn rs s i = none) : ∃ b, rs.getD i.toNat dR = ⟨[cB, .i b]⟩ ∧ 0 ≤ b ∧ b ≤ 5 := by
  obtain ⟨e, m⟩ := ixR rs i h0 h1
  have gr := g _ m
  have c := nc _ m
  unfold fn at h
  generalize rs.getD i.toNat dR = r at gr c h
  cases gr with
  | mesh o a b => rw [nx_mesh] at h; cases h
  | crush a => exact absurd (c.symm.trans (decide_eq_true rfl)) (by decide)
  | bin b q1 q2 => exact ⟨b, rfl, q1, q2⟩
theorem fn_some {rs : List Row} (g : ∀ r ∈ rs, GR rs.length r) (nc : NC rs) {s i t : Int} (h0 : 0 ≤ i) (h1 : i < rs.length) (h : fn rs s i = some t) : ∃ o a b, rs.getD i.toNat dR = ⟨[cM, .i o, .i a, .i b]⟩ ∧ t = if s ≤ o then a else b := by
  obtain ⟨e, m⟩ := ixR rs i h0 h1
  have gr := g _ m
  have c := nc _ m
  unfold fn at h
  generalize rs.getD i.toNat dR = r at gr c h
  cases gr with
  | mesh o a b => rw [nx_mesh] at h; exact ⟨o, a, b, rfl, (Option.some.inj h).symm⟩
  | crush a => exact absurd (c.symm.trans (decide_eq_true rfl)) (by decide)
  | bin b q1 q2 => rw [nx_bin] at h; cases h
theorem it_front (f : Int → Option Int) : ∀ (m : Nat) (r : Int), it f (m + 1) r = (f r).bind (it f m)
  | 0, r => by
    show (some r).bind f = _
    cases e : f r <;> simp [e, it]
  | m + 1, r => by
    show (it f (m + 1) r).bind f = _
    rw [it_front f m r]
    cases f r with
    | none => rfl
    | some t => rfl
def endr (f : Int → Option Int) : Nat → Int → Int
  | 0, r => r
  | m + 1, r => match f r with
    | none => r
    | some t => endr f m t
theorem loop_bin {f : Int → Option Int} {n : Nat} {τ : Type} {c : Int → M Bool} {b : Int → M (Ctl Int τ)} {k : Int → M τ} (hf : ∀ x t : Int, 0 ≤ x → x < n → f x = some t → 0 ≤ t ∧ t < n)
    (hc1 : ∀ i : Int, 0 ≤ i → i < n → f i = none → c i = .ok false) (hc2 : ∀ i t : Int, 0 ≤ i → i < n → f i = some t → c i = .ok true ∧ b i = .ok (.nx t)) : ∀ (m fu : Nat) (r : Int), 0 ≤ r → r < n → it f m r = none → m < fu →
    whM c b k fu r = k (endr f m r) ∧ (0 ≤ endr f m r ∧ endr f m r < n) ∧ f (endr f m r) = none
  | 0, _, r, _, _, h, _ => nomatch h
  | m + 1, 0, r, _, _, _, h => absurd h (Nat.not_lt_zero _)
  | m + 1, fu + 1, r, h0, h1, h, hm => by
    rw [it_front] at h
    unfold whM
    show _ = k (match f r with | none => r | some t => endr f m t) ∧ (0 ≤ (match f r with | none => r | some t => endr f m t) ∧ (match f r with | none => r | some t => endr f m t) < (n : Int)) ∧ f (match f r with | none => r | some t => endr f m t) = none
    cases e : f r with
    | none =>
      rw [hc1 r h0 h1 e]
      exact ⟨rfl, ⟨h0, h1⟩, e⟩
    | some t =>
      rw [e] at h
      obtain ⟨e1, e2⟩ := hc2 r t h0 h1 e
      obtain ⟨t0, t1⟩ := hf r t h0 h1 e
      rw [e1]
      simp only [M.ok_bind, if_true, e2]
      exact loop_bin hf hc1 hc2 m fu t t0 t1 h (by omega)
def BV (rs : List Row) (s r : Int) : Int := bn (rs.getD (endr (fn rs s) rs.length r).toNat dR)
theorem bin_at_is {rs : List Row} (g : ∀ r ∈ rs, GR rs.length r) (nc : NC rs) (hl : rs.length ≤ 12) (p : Int) {s r : Int} (nr : NoRing rs s) (h0 : 0 ≤ r) (h1 : r < rs.length) : m_bin_at ⟨p, rs⟩ r s = .ok (BV rs s r) := by
  unfold m_bin_at
  obtain ⟨e, ⟨r0, r1⟩, en⟩ := loop_bin (f := fn rs s) (n := rs.length) (c := m_bin_at_c1 ⟨p, rs⟩) (b := m_bin_at_b1 ⟨p, rs⟩ s)
    (k := fun s_1471 => ((((M.ok rs).bind fun x_1474 => (M.ok s_1471).bind fun y_1475 => ixM x_1474 y_1475).bind fun x_1476 => (M.ok (1 : Int)).bind fun y_1477 => ixM x_1476.cs y_1477).bind clI)) (fun x t a b e => fn_rg g a b e)
    (fun i a b e => by
      obtain ⟨bb, eb, _⟩ := fn_none g nc a b e
      unfold m_bin_at_c1
      simp only [M.ok_bind, (ixR rs i a b).1, eb, ix0]
      rw [show decide (cB = Cl.w (wd (Str.ofString "bin"))) = true from decide_eq_true rfl]
      rfl)
    (fun i t a b e => by
      obtain ⟨o, x, y, eb, et⟩ := fn_some g nc a b e
      unfold m_bin_at_c1 m_bin_at_b1 m_goes_on
      simp only [M.ok_bind, (ixR rs i a b).1, eb, ix0, ix1, ix2, ix3, clI]
      rw [show decide (cM = Cl.w (wd (Str.ofString "bin"))) = false from mb, show decide (cM = Cl.w (wd (Str.ofString "crush"))) = false from mc]
      refine ⟨rfl, ?_⟩
      simp only [Bool.false_eq_true, if_false]
      by_cases c : s ≤ o
      · rw [if_pos (decide_eq_true c), chk_pos (by simp), et, if_pos c]
        simp only [ne_ok, M.ok_bind, ix0]
      · rw [if_neg (by simpa using c), chk_pos (by simp), et, if_neg c]
        simp only [ne_ok, M.ok_bind, ix0]) rs.length FUEL r h0 h1 (nr r h0 h1) (by unfold FUEL; omega)
  obtain ⟨bb, eb, _⟩ := fn_none g nc r0 r1 en
  refine e.trans ?_
  simp only [M.ok_bind, (ixR rs _ r0 r1).1]
  unfold BV
  rw [eb]
  rfl
theorem law_bin_is {rs : List Row} (g : ∀ r ∈ rs, GR rs.length r) (nc : NC rs) (hl : rs.length ≤ 12) {s r : Int} (nr : NoRing rs s) (h0 : 0 ≤ r) (h1 : r < rs.length) : m_law_bin rs r s = .ok (BV rs s r) := by
  unfold m_law_bin
  obtain ⟨e, ⟨r0, r1⟩, en⟩ := loop_bin (f := fn rs s) (n := rs.length) (c := m_law_bin_c1 rs) (b := m_law_bin_b1 rs s)
    (k := fun s_1471 => ((((M.ok rs).bind fun x_1474 => (M.ok s_1471).bind fun y_1475 => ixM x_1474 y_1475).bind fun x_1476 => (M.ok (1 : Int)).bind fun y_1477 => ixM x_1476.cs y_1477).bind clI)) (fun x t a b e => fn_rg g a b e)
    (fun i a b e => by
      obtain ⟨bb, eb, _⟩ := fn_none g nc a b e
      unfold m_law_bin_c1
      simp only [M.ok_bind, (ixR rs i a b).1, eb, ix0]
      rw [show decide (cB = Cl.w (wd (Str.ofString "mesh"))) = false from bm])
    (fun i t a b e => by
      obtain ⟨o, x, y, eb, et⟩ := fn_some g nc a b e
      unfold m_law_bin_c1 m_law_bin_b1
      simp only [M.ok_bind, (ixR rs i a b).1, eb, ix0, ix1, ix2, ix3, clI]
      rw [show decide (cM = Cl.w (wd (Str.ofString "mesh"))) = true from decide_eq_true rfl]
      refine ⟨rfl, ?_⟩
      rw [chk_pos (by simp)]
      simp only [M.ok_bind]
      by_cases c : s ≤ o
      · rw [decide_eq_true c, if_pos rfl, et, if_pos c, ix1]; rfl
      · rw [decide_eq_false c, if_neg (by simp), et, if_neg c, ix0]; rfl) rs.length FUEL r h0 h1 (nr r h0 h1) (by unfold FUEL; omega)
  obtain ⟨bb, eb, _⟩ := fn_none g nc r0 r1 en
  refine e.trans ?_
  simp only [M.ok_bind, (ixR rs _ r0 r1).1]
  unfold BV
  rw [eb]
  rfl
theorem BV_bd {rs : List Row} (g : ∀ r ∈ rs, GR rs.length r) (nc : NC rs) {s r : Int} (nr : NoRing rs s) (h0 : 0 ≤ r) (h1 : r < rs.length) : 0 ≤ BV rs s r ∧ BV rs s r ≤ 5 := by
  obtain ⟨_, ⟨r0, r1⟩, en⟩ := loop_bin (τ := Unit) (f := fn rs s) (n := rs.length) (c := fun i => .ok (fn rs s i).isSome) (b := fun i => match fn rs s i with | some t => .ok (.nx t) | none => .bad) (k := fun _ => .ok ()) (fun x t a b e => fn_rg g a b e) (fun i a b e => by rw [e]; rfl) (fun i t a b e => by rw [e]; exact ⟨rfl, rfl⟩) rs.length (rs.length + 1) r h0 h1 (nr r h0 h1) (by omega)
  obtain ⟨bb, eb, b1, b2⟩ := fn_none g nc r0 r1 en
  unfold BV
  rw [eb]
  exact ⟨b1, b2⟩
def eqv (rs : List Row) (s t : Int) : Prop := ∀ r ∈ rs, isM r = true → (s ≤ opn r ↔ t ≤ opn r)
theorem fn_eqv {rs : List Row} (g : ∀ r ∈ rs, GR rs.length r) (nc : NC rs) {s t i : Int} (e : eqv rs s t) (h0 : 0 ≤ i) (h1 : i < rs.length) : fn rs s i = fn rs t i := by
  obtain ⟨_, m⟩ := ixR rs i h0 h1
  have gr := g _ m
  have c := nc _ m
  have ee := e _ m
  unfold fn
  generalize rs.getD i.toNat dR = r at gr c ee
  cases gr with
  | mesh o a b =>
    have k := ee (show isM ⟨[cM, .i o, .i a, .i b]⟩ = true from decide_eq_true rfl)
    have k' : s ≤ o ↔ t ≤ o := k
    rw [nx_mesh, nx_mesh]
    by_cases z : s ≤ o
    · rw [if_pos z, if_pos (k'.mp z)]
    · rw [if_neg z, if_neg fun y => z (k'.mpr y)]
  | crush a => exact absurd (c.symm.trans (decide_eq_true rfl)) (by decide)
  | bin b q1 q2 => rw [nx_bin, nx_bin]
theorem walk_congr {f f' : Int → Option Int} {n : Nat} (hf : ∀ x t : Int, 0 ≤ x → x < n → f x = some t → 0 ≤ t ∧ t < n) (e : ∀ i : Int, 0 ≤ i → i < n → f i = f' i) : ∀ (m : Nat) (r : Int), 0 ≤ r → r < n → it f m r = it f' m r ∧ endr f m r = endr f' m r
  | 0, r, _, _ => ⟨rfl, rfl⟩
  | m + 1, r, h0, h1 => by
    rw [it_front, it_front]
    show _ ∧ (match f r with | none => r | some t => endr f m t) = (match f' r with | none => r | some t => endr f' m t)
    rw [← e r h0 h1]
    cases er : f r with
    | none => exact ⟨rfl, rfl⟩
    | some t =>
      obtain ⟨t0, t1⟩ := hf r t h0 h1 er
      exact walk_congr hf e m t t0 t1
theorem NoRing.eqv {rs : List Row} (g : ∀ r ∈ rs, GR rs.length r) (nc : NC rs) {s t : Int} (e : eqv rs s t) (h : NoRing rs t) : NoRing rs s := fun r h0 h1 => by
  rw [(walk_congr (fun x t a b e => fn_rg g a b e) (fun i a b => fn_eqv g nc e a b) rs.length r h0 h1).1]
  exact h r h0 h1
theorem BV_eqv {rs : List Row} (g : ∀ r ∈ rs, GR rs.length r) (nc : NC rs) {s t r : Int} (e : eqv rs s t) (h0 : 0 ≤ r) (h1 : r < rs.length) : BV rs s r = BV rs t r := by
  unfold BV
  rw [(walk_congr (fun x t a b e => fn_rg g a b e) (fun i a b => fn_eqv g nc e a b) rs.length r h0 h1).2]
def osR (rs : List Row) : List Int := (rs.filter isM).map opn
theorem osR_mem {rs : List Row} {o : Int} : o ∈ osR rs ↔ ∃ r ∈ rs, isM r = true ∧ opn r = o := by
  unfold osR
  rw [List.mem_map]
  exact ⟨fun ⟨r, h, e⟩ => ⟨r, (List.mem_filter.mp h).1, (List.mem_filter.mp h).2, e⟩, fun ⟨r, h1, h2, e⟩ => ⟨r, List.mem_filter.mpr ⟨h1, h2⟩, e⟩⟩
theorem eqv_os {rs : List Row} {s t : Int} : eqv rs s t ↔ ∀ o ∈ osR rs, s ≤ o ↔ t ≤ o := by
  constructor
  · intro h o ho
    obtain ⟨r, h1, h2, e⟩ := osR_mem.mp ho
    rw [← e]; exact h r h1 h2
  · exact fun h r h1 h2 => h _ (osR_mem.mpr ⟨r, h1, h2, rfl⟩)
theorem rep_sz {rs : List Row} (g : ∀ r ∈ rs, GR rs.length r) {s : Int} (hs : 1 ≤ s) : ∃ t ∈ SZ rs, eqv rs s t := by
  by_cases z : (osR rs).filter (fun o => decide (o < s)) = []
  · refine ⟨1, SZ_mem.mpr (.inl rfl), eqv_os.mpr fun o ho => ?_⟩
    have := List.filter_eq_nil_iff.mp z o ho
    obtain ⟨r, h1, h2, e⟩ := osR_mem.mp ho
    have b := isM_opn (g r h1) h2
    rw [e] at b
    simp at this
    omega
  · obtain ⟨m1, m2⟩ := maxL_mem z
    obtain ⟨k1, k2⟩ := List.mem_filter.mp m1
    have k2' := of_decide_eq_true k2
    obtain ⟨r, h1, h2, e⟩ := osR_mem.mp k1
    refine ⟨maxL ((osR rs).filter fun o => decide (o < s)) + 1, SZ_mem.mpr (.inr ⟨r, h1, h2, .inr (by rw [e])⟩), eqv_os.mpr fun o ho => ?_⟩
    by_cases c : o < s
    · have := m2 o (List.mem_filter.mpr ⟨ho, decide_eq_true c⟩)
      omega
    · omega
theorem noring_all {rs : List Row} (g : ∀ r ∈ rs, GR rs.length r) (nc : NC rs) (h : ∀ s ∈ SZ rs, NoRing rs s) {s : Int} (hs : 1 ≤ s) : NoRing rs s := by
  obtain ⟨t, ht, e⟩ := rep_sz g hs
  exact NoRing.eqv g nc e (h t ht)
/-! the form that is told -/
abbrev FM := List (Option Int × Int)
def hdv (l : Int) : List (Int × Int) → Int
  | [] => l
  | q :: _ => q.2
def toF (l : Int) (ps : List (Int × Int)) : FM := (ps.map fun q => (some q.1, q.2)) ++ [(none, l)]
def FP (v : Int → Int) (l : Int) : List Int → List (Int × Int)
  | [] => []
  | o :: r => if v o = hdv l (FP v l r) then FP v l r else (o, v o) :: FP v l r
def fb (l : Int) : List (Int × Int) → Int → Int
  | [], _ => l
  | q :: r, s => if s ≤ q.1 then q.2 else fb l r s
def NU (l : Int) : List (Int × Int) → Prop
  | [] => True
  | q :: r => q.2 ≠ hdv l r ∧ NU l r
theorem FP_sub {v : Int → Int} {l : Int} : ∀ (r : List Int), ∀ q ∈ FP v l r, q.1 ∈ r ∧ q.2 = v q.1
  | [], q, h => nomatch h
  | o :: r, q, h => by
    unfold FP at h
    split at h
    · exact ⟨List.mem_cons_of_mem _ (FP_sub r q h).1, (FP_sub r q h).2⟩
    · rcases List.mem_cons.mp h with z | z
      · rw [z]; exact ⟨List.mem_cons_self, rfl⟩
      · exact ⟨List.mem_cons_of_mem _ (FP_sub r q z).1, (FP_sub r q z).2⟩
theorem FP_len {v : Int → Int} {l : Int} : ∀ (r : List Int), (FP v l r).length ≤ r.length
  | [] => Nat.le_refl 0
  | o :: r => by
    have := FP_len (v := v) (l := l) r
    unfold FP
    split
    · rw [List.length_cons]; omega
    · rw [List.length_cons, List.length_cons]; omega
theorem FP_lt {v : Int → Int} {l : Int} : ∀ (r : List Int), r.Pairwise (· < ·) → ((FP v l r).map (·.1)).Pairwise (· < ·)
  | [], _ => List.Pairwise.nil
  | o :: r, h => by
    obtain ⟨h1, h2⟩ := List.pairwise_cons.mp h
    unfold FP
    split
    · exact FP_lt r h2
    · rw [List.map_cons]
      refine List.pairwise_cons.mpr ⟨fun x hx => ?_, FP_lt r h2⟩
      obtain ⟨q, hq, rfl⟩ := List.mem_map.mp hx
      exact h1 _ (FP_sub r q hq).1
theorem FP_nu {v : Int → Int} {l : Int} : ∀ (r : List Int), NU l (FP v l r)
  | [] => True.intro
  | o :: r => by
    unfold FP
    split
    · exact FP_nu r
    · rename_i h
      exact ⟨h, FP_nu r⟩
theorem fb_hd {l s : Int} : ∀ {ps : List (Int × Int)}, (∀ q ∈ ps, s ≤ q.1) → fb l ps s = hdv l ps
  | [], _ => rfl
  | q :: r, h => if_pos (h q List.mem_cons_self)
theorem fb_go {v : Int → Int} {l W : Int} {O : List Int} (hv : ∀ s t : Int, 1 ≤ s → 1 ≤ t → (∀ o ∈ O, s ≤ o ↔ t ≤ o) → v s = v t) (hl : l = v W) (hW : 1 ≤ W ∧ ∀ o ∈ O, o < W) (hO : O.Pairwise (· < ·)) (h1 : ∀ o ∈ O, 1 ≤ o) :
    ∀ (r pre : List Int), O = pre ++ r → ∀ s : Int, 1 ≤ s → (∀ o ∈ pre, o < s) → fb l (FP v l r) s = v s
  | [], pre, e, s, hs, hp => by
    show l = v s
    rw [hl]
    refine hv W s hW.1 hs fun o ho => ?_
    have a := hW.2 o ho
    have b := hp o (by rw [e, List.append_nil] at ho; exact ho)
    omega
  | o :: r, pre, e, s, hs, hp => by
    have hO2 := hO
    rw [e, List.pairwise_append] at hO2
    obtain ⟨_, p2, p3⟩ := hO2
    obtain ⟨p4, p5⟩ := List.pairwise_cons.mp p2
    have ho1 := h1 o (by rw [e]; exact List.mem_append_right _ List.mem_cons_self)
    by_cases c : s ≤ o
    · have ev : v s = v o := hv s o hs ho1 fun x hx => by
        rw [e] at hx
        rcases List.mem_append.mp hx with z | z
        · have := hp x z
          have := p3 x z o List.mem_cons_self
          omega
        · rcases List.mem_cons.mp z with z | z
          · omega
          · have := p4 x z
            omega
      have hle : ∀ q ∈ FP v l r, s ≤ q.1 := fun q hq => by
        have := p4 _ (FP_sub r q hq).1
        omega
      unfold FP
      split
      · rename_i z
        rw [fb_hd hle, ← z, ev]
      · show (if s ≤ o then v o else _) = _
        rw [if_pos c, ev]
    · have ih := fb_go hv hl hW hO h1 r (pre ++ [o]) (by rw [e]; simp) s hs fun x hx => by
        rcases List.mem_append.mp hx with z | z
        · exact hp x z
        · rw [List.mem_singleton.mp z]; omega
      unfold FP
      split
      · exact ih
      · show (if s ≤ o then v o else _) = _
        rw [if_neg c]
        exact ih
def W1 : Int := 1000000000000000000000000000000000000000000000000000000000000 + 1
def PS (rs : List Row) (r : Int) : List (Int × Int) := FP (fun s => BV rs s r) (BV rs W1 r) (sortU (osR rs))
def FO (rs : List Row) (r : Int) : FM := toF (BV rs W1 r) (PS rs r)
theorem osR_bd {rs : List Row} (g : ∀ r ∈ rs, GR rs.length r) {o : Int} (h : o ∈ osR rs) : 1 ≤ o ∧ o ≤ (1000000000000000000000000000000000000000000000000000000000000 : Int) := by
  obtain ⟨r, h1, h2, e⟩ := osR_mem.mp h
  rw [← e]
  exact isM_opn (g r h1) h2
theorem fb_is {rs : List Row} (g : ∀ r ∈ rs, GR rs.length r) (nc : NC rs) {r s : Int} (h0 : 0 ≤ r) (h1 : r < rs.length) (hs : 1 ≤ s) : fb (BV rs W1 r) (PS rs r) s = BV rs s r := by
  unfold PS
  refine fb_go (v := fun s => BV rs s r) (W := W1) (O := sortU (osR rs)) (fun a b _ _ h => BV_eqv g nc (eqv_os.mpr fun o ho => h o (sortU_mem.mpr ho)) h0 h1) rfl ⟨by unfold W1; omega, fun o ho => ?_⟩ (sortU_lt _) (fun o ho => (osR_bd g (sortU_mem.mp ho)).1) _ [] rfl s hs fun _ z => nomatch z
  have := (osR_bd g (sortU_mem.mp ho)).2
  unfold W1
  omega
theorem os_lc {rs : List Row} (g : ∀ r ∈ rs, GR rs.length r) (hl : rs.length ≤ 12) : lcM (fun x : Row => (ixM x.cs 0).bind fun x => M.ok (decide (x = Cl.w (wd (Str.ofString "mesh"))))) (fun x : Row => (ixM x.cs 1).bind clI) rs = .ok (osR rs) := by
  rw [lcM_congr (c' := fun r => .ok (isM r)) (e' := fun r => .ok (opn r)) (fun r hr => by
    cases g r hr <;> (simp only [ix0, M.ok_bind]; rfl)) (fun r hr _ => by
    cases g r hr <;> (simp only [ix1, M.ok_bind, clI]; rfl))]
  exact lcM_ok isM opn (by omega)
theorem cr_lc {rs : List Row} (g : ∀ r ∈ rs, GR rs.length r) (hl : rs.length ≤ 12) : lcM (fun x : Row => (ixM x.cs 0).bind fun x => M.ok (decide (x = Cl.w (wd (Str.ofString "crush"))))) (fun x : Row => M.ok x) rs = .ok (rs.filter isC) := by
  rw [lcM_congr (c' := fun r => .ok (isC r)) (e' := fun r => .ok r) (fun r hr => by
    cases g r hr <;> (simp only [ix0, M.ok_bind]; rfl)) (fun r hr _ => rfl)]
  rw [lcM_ok isC (fun r => r) (by omega), List.map_id']
theorem osR_len {rs : List Row} (hl : rs.length ≤ 12) : (osR rs).length ≤ 12 := by
  unfold osR
  rw [List.length_map]
  have := List.length_filter_le isM rs
  omega
theorem form_go {v : Int → Int} {l : Int} {τ : Type} {f : Int → FM → M (Ctl FM τ)} {k : FM → M τ} : ∀ (r : List Int), r.length ≤ 1000 → (∀ o ∈ r, ∀ ps : List (Int × Int), ps.length ≤ 1000 → f o (toF l ps) = if v o = hdv l ps then .ok (.nx (toF l ps)) else .ok (.nx (toF l ((o, v o) :: ps)))) → forM f k r.reverse (toF l []) = k (toF l (FP v l r)) := by
  intro r
  have key : ∀ (xs : List Int) (acc : List Int), acc.length + xs.length ≤ 1000 → (∀ o ∈ xs, ∀ ps : List (Int × Int), ps.length ≤ 1000 → f o (toF l ps) = if v o = hdv l ps then .ok (.nx (toF l ps)) else .ok (.nx (toF l ((o, v o) :: ps)))) → forM f k xs (toF l (FP v l acc)) = k (toF l (FP v l (xs.reverse ++ acc))) := fun xs => by
    induction xs with
    | nil => exact fun acc _ _ => rfl
    | cons o os ih =>
      intro acc hl h
      rw [List.length_cons] at hl
      have fl := FP_len (v := v) (l := l) acc
      rw [forM_cons, h o List.mem_cons_self _ (by omega)]
      have e2 : FP v l (o :: acc) = if v o = hdv l (FP v l acc) then FP v l acc else (o, v o) :: FP v l acc := rfl
      have := ih (o :: acc) (by rw [List.length_cons]; omega) fun x hx => h x (List.mem_cons_of_mem _ hx)
      rw [List.reverse_cons, List.append_assoc]
      show _ = k (toF l (FP v l (os.reverse ++ (o :: acc))))
      rw [← this, e2]
      split <;> rfl
  intro hl h
  have := key r.reverse [] (by simpa using hl) fun o ho => h o (List.mem_reverse.mp ho)
  rw [List.reverse_reverse, List.append_nil] at this
  exact this
theorem form_of_is {rs : List Row} (g : ∀ r ∈ rs, GR rs.length r) (nc : NC rs) (hl : rs.length ≤ 12) (p : Int) (p1 : 2 ≤ p) (p2 : p ≤ 9) (nr : ∀ s ∈ SZ rs, NoRing rs s) {r : Int} (h0 : 0 ≤ r) (h1 : r < rs.length) : m_form_of ⟨p, rs⟩ r = .ok (FO rs r) := by
  have NR : ∀ s : Int, 1 ≤ s → NoRing rs s := fun s hs => noring_all g nc nr hs
  unfold m_form_of
  simp only [M.ok_bind, Mw.bind_assoc]
  rw [cr_lc g hl]
  have ec : rs.filter isC = [] := List.filter_eq_nil_iff.mpr fun r hr => by rw [nc r hr]; decide
  rw [ec]
  simp only [M.ok_bind]
  rw [if_neg (by simp)]
  rcases ring_of_is g hl p p1 p2 with ⟨e, _⟩ | ⟨o, e, s, ring, eo, hs, _, _, nn⟩
  · rw [e]
    simp only [M.ok_bind, ne_ok]
    rw [if_neg (by simp), os_lc g hl]
    simp only [M.ok_bind]
    rw [show sortUM (osR rs) = .ok (sortU (osR rs)) from chk_pos (by have := osR_len hl; omega) _]
    simp only [M.ok_bind]
    have eb := bin_at_is g nc hl p (NR W1 (by unfold W1; omega)) h0 h1
    unfold W1 at eb
    rw [eb]
    simp only [M.ok_bind, ne_ok]
    have sl := sortU_len (osR rs)
    have ol := osR_len (rs := rs) hl
    refine (form_go (v := fun s => BV rs s r) (l := BV rs W1 r) (f := m_form_of_b1 ⟨p, rs⟩ r) (k := fun s => M.ok s) (sortU (osR rs)) (by omega) fun o ho ps hps => ?_)
    have b := (osR_bd g (sortU_mem.mp ho)).1
    unfold m_form_of_b1
    rw [bin_at_is g nc hl p (NR o b) h0 h1]
    simp only [M.ok_bind, ne_ok]
    have eh : (ixM (toF (BV rs W1 r) ps) 0).bind (fun x => M.ok x.2) = .ok (hdv (BV rs W1 r) ps) := by
      cases ps with
      | nil => rfl
      | cons q t =>
        show (ixM ((some q.1, q.2) :: _) 0).bind _ = _
        rw [ix0]
        rfl
    rw [show (ixM (toF (BV rs W1 r) ps) 0).bind (fun x_2073 => M.ok x_2073.2) = .ok (hdv (BV rs W1 r) ps) from eh]
    simp only [M.ok_bind]
    by_cases c : BV rs o r = hdv (BV rs W1 r) ps
    · rw [if_pos c, decide_eq_true c]
      rfl
    · rw [if_neg c, decide_eq_false c, Bool.not_false, if_pos rfl]
      unfold insM
      rw [chk_pos (by
        refine ⟨?_, by decide, by decide⟩
        unfold toF
        rw [List.length_append, List.length_map, List.length_singleton]
        omega)]
      rfl
  · exact absurd (nr s hs) nn
theorem form_er {rs : List Row} (g : ∀ r ∈ rs, GR rs.length r) (hl : rs.length ≤ 12) (p : Int) (p1 : 2 ≤ p) (p2 : p ≤ 9) {r : Int} : ((∃ x ∈ rs, isC x = true) → m_form_of ⟨p, rs⟩ r = .er ⟨"HasCrusher"⟩) ∧ (NC rs → (∃ s ∈ SZ rs, ¬ NoRing rs s) → m_form_of ⟨p, rs⟩ r = .er ⟨"Stuck"⟩) := by
  unfold m_form_of
  simp only [M.ok_bind, Mw.bind_assoc]
  rw [cr_lc g hl]
  simp only [M.ok_bind]
  constructor
  · rintro ⟨x, hx, cx⟩
    have : 0 < (rs.filter isC).length := List.length_pos_iff.mpr fun z => List.filter_eq_nil_iff.mp z x hx cx
    rw [if_pos (decide_eq_true (by omega))]
  · intro nc ⟨s, hs, nn⟩
    have ec : rs.filter isC = [] := List.filter_eq_nil_iff.mpr fun r hr => by rw [nc r hr]; decide
    rw [ec, if_neg (by simp)]
    rcases ring_of_is g hl p p1 p2 with ⟨e, n⟩ | ⟨o, e, s', ring, eo, _⟩
    · exact absurd (n s hs) nn
    · rw [e, eo]
      rfl
theorem cut_last {α : Type} (xs : List α) (m : α) : cut (xs ++ [m]) none (some (-1)) = xs := by
  unfold cut HT.sIx
  simp
  rw [show (-1 + ((xs.length : Int) + 1)).toNat = xs.length by omega]
  simp
def GW60 : Int := 1000000000000000000000000000000000000000000000000000000000000
structure GF (l : Int) (ps : List (Int × Int)) : Prop where
  len : ps.length ≤ 5
  lt : (ps.map (·.1)).Pairwise (· < ·)
  bd : ∀ q ∈ ps, (1 ≤ q.1 ∧ q.1 ≤ GW60) ∧ 0 ≤ q.2 ∧ q.2 ≤ 5
  l0 : 0 ≤ l ∧ l ≤ 5
  nu : NU l ps
theorem NU_snoc {l l' u : Int} : ∀ {ps : List (Int × Int)}, NU l ps → l ≠ l' → NU l' (ps ++ [(u, l)])
  | [], _, h => ⟨h, True.intro⟩
  | q :: r, h, hl => by
    refine ⟨?_, NU_snoc h.2 hl⟩
    have e : hdv l' (r ++ [(u, l)]) = hdv l r := by cases r <;> rfl
    show q.2 ≠ hdv l' (r ++ [(u, l)])
    rw [e]
    exact h.1
abbrev sm (q : Int × Int) : Option Int × Int := (some q.1, q.2)
theorem form_ok (ns : List Int) : ∃ l ps, m_law_form ⟨ns⟩ = .ok (toF l ps) ∧ GF l ps := by
  obtain ⟨c0, ec⟩ := cell_at_ok ns 0 (by omega)
  unfold m_law_form
  simp only [M.ok_bind, Mw.bind_assoc, ec, ne_ok]
  rw [fdivM_ok (by omega) (by decide +kernel)]
  simp only [M.ok_bind]
  rw [modM_ok (by omega)]
  simp only [M.ok_bind]
  have m0 := Int.emod_nonneg (c0 / 8) (show (6 : Int) ≠ 0 by omega)
  have m1 := Int.emod_lt_of_pos (c0 / 8) (show (0 : Int) < 6 by omega)
  generalize c0 / 8 % 6 = n at m0 m1
  rw [rng1M_ok (by omega)]
  simp only [M.ok_bind]
  obtain ⟨ys, e, yl, q⟩ := lcM_ex (e := fun x : Int => (m_law_cell_at ⟨ns⟩ (1 + x)).ne.bind fun x => (fdivM x 5).bind fun x => (m_law_size x).ne) (Q := fun _ r => 1 ≤ r ∧ r ≤ GW60) (xs := rng 0 n) (by rw [rng_len]; omega) fun x hx => by
    have hb := mem_rng hx
    obtain ⟨v, ev⟩ := cell_at_ok ns (1 + x) (by omega)
    obtain ⟨r, er, r1, r2⟩ := size_ok (v / 5)
    exact ⟨r, by simp only [ev, ne_ok, M.ok_bind]; rw [fdivM_ok (by omega) (by decide +kernel)]; simp only [M.ok_bind, er, ne_ok], r1, r2⟩
  rw [e]
  simp only [M.ok_bind]
  rw [rng_len] at yl
  rw [show sortUM ys = .ok (sortU ys) from chk_pos (by omega) _]
  simp only [M.ok_bind]
  rw [fdivM_ok (by omega) (by decide +kernel)]
  simp only [M.ok_bind]
  rw [modM_ok (by omega)]
  simp only [M.ok_bind]
  have sl := sortU_len ys
  have ub : ∀ u ∈ sortU ys, 1 ≤ u ∧ u ≤ GW60 := fun u hu => by
    obtain ⟨x, _, h⟩ := q u (sortU_mem.mp hu)
    exact h
  have ult := sortU_lt ys
  generalize sortU ys = us at sl ub ult
  rw [rng1M_ok (by omega)]
  simp only [M.ok_bind]
  refine forM_by (f := m_law_form_b1 ⟨ns⟩ us) (P := fun m : M FM => ∃ l ps, m = .ok (toF l ps) ∧ GF l ps) (s := (([] : FM), c0 / 48 % 6)) (fun pre (s : FM × Int) => ∃ ps : List (Int × Int), s.1 = ps.map sm ∧ ps.map (·.1) = us.take pre.length ∧ NU s.2 ps ∧ (∀ x ∈ ps, 0 ≤ x.2 ∧ x.2 ≤ 5) ∧ 0 ≤ s.2 ∧ s.2 ≤ 5) ⟨[], rfl, by simp, True.intro, (fun x hx => nomatch hx), by show 0 ≤ c0 / 48 % 6; omega, by show c0 / 48 % 6 ≤ 5; omega⟩ (fun pre x s hp ⟨ps, h1, h2, h3, h4, h5, h6⟩ => ?_) fun s ⟨ps, h1, h2, h3, h4, h5, h6⟩ => ?_
  · obtain ⟨hx, hlt⟩ := rng_pre hp
    obtain ⟨f, nn⟩ := s
    obtain ⟨c, ecc⟩ := cell_at_ok ns (1 + x) (by omega)
    have ei := ixM_of (xs := us) (i := pre.length) (List.getElem?_eq_getElem hlt)
    have pl : ps.length = pre.length := by
      have := congrArg List.length h2
      rw [List.length_map, List.length_take] at this
      omega
    unfold m_law_form_b1
    subst hx
    simp only [M.ok_bind, Mw.bind_assoc, ei, ecc, ne_ok]
    rw [appM_ok (by rw [show f = ps.map sm from h1, List.length_map]; omega)]
    simp only [M.ok_bind]
    rw [modM_ok (by omega)]
    simp only [M.ok_bind]
    rw [modM_ok (by omega)]
    simp only [M.ok_bind]
    have n0 : 0 ≤ nn := h5
    have n5 : nn ≤ 5 := h6
    refine ⟨_, rfl, ps ++ [(us[pre.length], nn)], ?_, ?_, NU_snoc h3 (by show nn ≠ (nn + 1 + c % 5) % 6; omega), fun y hy => ?_, by show 0 ≤ (nn + 1 + c % 5) % 6; omega, by show (nn + 1 + c % 5) % 6 ≤ 5; omega⟩
    · show f ++ [(some us[pre.length], nn)] = _
      rw [show f = ps.map sm from h1, List.map_append]
      rfl
    · rw [List.map_append, h2, List.length_append, List.length_singleton, List.take_add_one, List.getElem?_eq_getElem hlt]
      rfl
    · rcases List.mem_append.mp hy with z | z
      · exact h4 y z
      · rw [List.mem_singleton.mp z]; exact ⟨n0, n5⟩
  · obtain ⟨f, nn⟩ := s
    have e1 : f = ps.map sm := h1
    rw [rng_len, show ((us.length : Int) - 0).toNat = us.length by omega, List.take_length] at h2
    have pl : ps.length = us.length := by rw [← h2, List.length_map]
    dsimp only
    rw [e1, catM_ok (by rw [List.length_map]; simp; omega)]
    refine ⟨nn, ps, rfl, by omega, by rw [h2]; exact ult, fun x hx => ⟨ub x.1 (by rw [← h2]; exact List.mem_map_of_mem hx), h4 x hx⟩, ⟨h5, h6⟩, h3⟩
/-! what is a form -/
def upOk : Int → FM → Bool
  | _, [] => true
  | b, x :: r => match x.1 with
    | none => false
    | some u => if u ≤ b ∨ GW60 < u then false else upOk u r
theorem upOk_all : ∀ {b : Int} {L : FM}, upOk b L = true → (∀ x ∈ L, ∃ u, x.1 = some u ∧ b < u ∧ u ≤ GW60) ∧ L.Pairwise fun x y => ∀ u v, x.1 = some u → y.1 = some v → u < v
  | _, [], _ => ⟨(fun _ z => nomatch z), List.Pairwise.nil⟩
  | b, x :: r, h => by
    unfold upOk at h
    split at h
    · cases h
    · rename_i u hu
      split at h
      · cases h
      · rename_i hn
        obtain ⟨i1, i2⟩ := upOk_all h
        refine ⟨fun y hy => ?_, List.pairwise_cons.mpr ⟨fun y hy a c ha hc => ?_, i2⟩⟩
        · rcases List.mem_cons.mp hy with z | z
          · rw [z]; exact ⟨u, hu, by omega, by omega⟩
          · obtain ⟨v, e1, e2, e3⟩ := i1 y z
            exact ⟨v, e1, by omega, e3⟩
        · obtain ⟨v, e1, e2, e3⟩ := i1 y hy
          rw [hu] at ha
          rw [e1] at hc
          cases ha
          cases hc
          exact e2
def pk (S : FM) (k : Int) : Bool := decide (0 ≤ (S.getD k.toNat (none, 0)).2) && (decide ((S.getD k.toNat (none, 0)).2 ≤ 5) && (decide (k ≤ 0) || !decide ((S.getD k.toNat (none, 0)).2 = (S.getD (k.toNat - 1) (none, 0)).2)))
theorem ixF (S : FM) (p : Int) (h0 : 0 ≤ p) (h1 : p < S.length) : ixM S p = .ok (S.getD p.toNat (none, 0)) := by
  have hl : p.toNat < S.length := by omega
  have := ixM_of (xs := S) (i := p.toNat) (List.getElem?_eq_getElem hl)
  rw [Int.toNat_of_nonneg h0] at this
  rw [this, List.getD_eq_getElem?_getD, List.getElem?_eq_getElem hl]
  rfl
theorem up_go {k : Option Int → M Bool} (hk : ∀ a b, k a = k b) : ∀ (xs : FM) (b : Int), forM m_good_form_b1 k xs (some b) = if upOk b xs = true then k none else .ok false
  | [], b => by rw [forM_nil]; exact hk _ _
  | x :: r, b => by
    rw [forM_cons]
    unfold m_good_form_b1
    obtain ⟨o, n⟩ := x
    cases o with
    | none => rfl
    | some u =>
      have eu : upOk b ((some u, n) :: r) = if u ≤ b ∨ GW60 < u then false else upOk u r := rfl
      rw [eu]
      simp only [M.ok_bind, Mw.bind_assoc, Option.isSome_some, Bool.not_true, orM_f, getM]
      by_cases c1 : u ≤ b
      · rw [decide_eq_true c1, orM_t, if_pos (Or.inl c1 : u ≤ b ∨ GW60 < u)]; rfl
      · rw [decide_eq_false c1, orM_f]
        by_cases c2 : GW60 < u
        · have c2' : (1000000000000000000000000000000000000000000000000000000000000 : Int) < u := c2
          rw [decide_eq_true c2', if_pos (Or.inr c2 : u ≤ b ∨ GW60 < u)]; rfl
        · have c2' : ¬ (1000000000000000000000000000000000000000000000000000000000000 : Int) < u := c2
          rw [decide_eq_false c2', if_neg (by omega : ¬ (u ≤ b ∨ GW60 < u))]
          simp only [M.ok_bind, Bool.false_eq_true, if_false]
          have := up_go hk r u
          unfold m_good_form_b1 at this
          exact this
theorem forM_stop' {α τ : Type} {f : α → Unit → M (Ctl Unit τ)} {k : Unit → M τ} {p : α → Bool} {r : τ} (xs : List α) (h : ∀ x ∈ xs, f x () = .ok (if p x = true then .nx () else .rt r)) : forM f k xs () = if xs.all p = true then k () else .ok r := forM_stop xs h
theorem good_nil : m_good_form [] = .ok false := by
  unfold m_good_form
  rfl
theorem good_form_is (ini : FM) (x : Option Int × Int) (hl : ini.length ≤ 100) : m_good_form (ini ++ [x]) = .ok (decide (ini.length ≤ 5) && (!x.1.isSome && (upOk 0 ini && (rng 0 ((ini ++ [x]).length : Int)).all (pk (ini ++ [x]))))) := by
  have len : (ini ++ [x]).length = ini.length + 1 := by simp
  unfold m_good_form
  simp only [M.ok_bind, Mw.bind_assoc]
  rw [decide_eq_false (by omega : ¬ (((ini ++ [x]).length : Int) < 1)), orM_f, ixM_last ini x]
  simp only [M.ok_bind]
  by_cases c1 : ini.length ≤ 5
  · rw [decide_eq_false (by omega : ¬ ((6 : Int) < ((ini ++ [x]).length : Int))), orM_f, decide_eq_true c1, Bool.true_and]
    cases x.1.isSome with
    | true => rfl
    | false =>
      simp only [M.ok_bind, Bool.false_eq_true, if_false, Bool.not_false, Bool.true_and]
      rw [cut_last, up_go (k := fun _ => (rng1M ((ini ++ [x]).length : Int)).bind fun xs_613 => forM (m_good_form_b2 (ini ++ [x])) (fun s_608 => (M.ok true)) xs_613 ()) (fun _ _ => rfl)]
      cases upOk 0 ini with
      | false => rfl
      | true =>
        rw [if_pos rfl, rng1M_ok (by omega), Bool.true_and]
        simp only [M.ok_bind]
        rw [forM_stop' (p := pk (ini ++ [x])) (r := false) _ (fun k hk => by
          have hb := mem_rng hk
          unfold m_good_form_b2
          simp only [M.ok_bind, Mw.bind_assoc, ixF (ini ++ [x]) k (by omega) (by omega)]
          unfold pk
          generalize hn : (ini ++ [x]).getD k.toNat (none, 0) = y
          by_cases q1 : y.2 < 0
          · rw [decide_eq_true q1, orM_t, decide_eq_false (by omega : ¬ (0 ≤ y.2))]; rfl
          · rw [decide_eq_false q1, orM_f, decide_eq_true (by omega : 0 ≤ y.2)]
            by_cases q2 : 5 < y.2
            · rw [decide_eq_true q2, orM_t, decide_eq_false (by omega : ¬ (y.2 ≤ 5))]; rfl
            · rw [decide_eq_false q2, orM_f, decide_eq_true (by omega : y.2 ≤ 5)]
              by_cases q3 : 0 < k
              · rw [decide_eq_true q3, andM_t, ixF (ini ++ [x]) (k - 1) (by omega) (by omega), show (k - 1).toNat = k.toNat - 1 by omega, decide_eq_false (by omega : ¬ k ≤ 0)]
                simp only [M.ok_bind]
                cases decide (y.2 = ((ini ++ [x]).getD (k.toNat - 1) (none, 0)).2) <;> rfl
              · rw [decide_eq_false q3, andM_f, decide_eq_true (by omega : k ≤ 0)]; rfl)]
        cases (rng 0 ((ini ++ [x]).length : Int)).all (pk (ini ++ [x])) <;> rfl
  · rw [decide_eq_true (by omega : (6 : Int) < ((ini ++ [x]).length : Int)), orM_t, decide_eq_false c1]
    rfl
theorem NU_at {l : Int} : ∀ {ps : List (Int × Int)}, NU l ps → ∀ k, k < ps.length → ∃ a b, (toF l ps)[k]? = some a ∧ (toF l ps)[k + 1]? = some b ∧ a.2 ≠ b.2
  | [], _, k, h => absurd h (Nat.not_lt_zero _)
  | q :: r, h, 0, _ => by
    cases r with
    | nil => exact ⟨_, _, rfl, rfl, h.1⟩
    | cons q' r' => exact ⟨_, _, rfl, rfl, h.1⟩
  | q :: r, h, k + 1, hk => by
    rw [List.length_cons] at hk
    exact NU_at h.2 k (by omega)
theorem toF_len (l : Int) (ps : List (Int × Int)) : (toF l ps).length = ps.length + 1 := by unfold toF; simp
theorem toF_mem {l : Int} {ps : List (Int × Int)} (g : GF l ps) {x : Option Int × Int} (h : x ∈ toF l ps) : 0 ≤ x.2 ∧ x.2 ≤ 5 := by
  unfold toF at h
  rcases List.mem_append.mp h with z | z
  · obtain ⟨q, hq, rfl⟩ := List.mem_map.mp z
    exact (g.bd q hq).2
  · rw [List.mem_singleton.mp z]; exact g.l0
theorem upOk_ps : ∀ {b : Int} {ps : List (Int × Int)}, (ps.map (·.1)).Pairwise (· < ·) → (∀ q ∈ ps, b < q.1 ∧ q.1 ≤ GW60) → upOk b (ps.map sm) = true
  | _, [], _, _ => rfl
  | b, q :: r, h, hb => by
    rw [List.map_cons] at h
    obtain ⟨h1, h2⟩ := List.pairwise_cons.mp h
    have := hb q List.mem_cons_self
    show (if q.1 ≤ b ∨ GW60 < q.1 then false else upOk q.1 (r.map sm)) = true
    rw [if_neg (by omega)]
    exact upOk_ps h2 fun y hy => ⟨h1 y.1 (List.mem_map_of_mem hy), (hb y (List.mem_cons_of_mem _ hy)).2⟩
theorem GF.good {l : Int} {ps : List (Int × Int)} (g : GF l ps) : m_good_form (toF l ps) = .ok true := by
  have gl := g.len
  have e := good_form_is (ps.map sm) (none, l) (by rw [List.length_map]; omega)
  refine e.trans ?_
  rw [upOk_ps g.lt fun q hq => ⟨by have := (g.bd q hq).1; omega, (g.bd q hq).1.2⟩, decide_eq_true (by rw [List.length_map]; omega)]
  have : (rng 0 ((ps.map sm ++ [(none, l)]).length : Int)).all (pk (ps.map sm ++ [(none, l)])) = true := by
    rw [List.all_eq_true]
    intro k hk
    have hb := mem_rng hk
    have hL : (toF l ps).length = ps.length + 1 := toF_len l ps
    have hb2 : k < ((toF l ps).length : Int) := hb.2
    show pk (toF l ps) k = true
    unfold pk
    have hkl : k.toNat < (toF l ps).length := by omega
    have em : (toF l ps).getD k.toNat (none, 0) ∈ toF l ps := by
      rw [List.getD_eq_getElem?_getD, List.getElem?_eq_getElem hkl]
      exact List.getElem_mem hkl
    obtain ⟨b0, b5⟩ := toF_mem g em
    rw [decide_eq_true b0, decide_eq_true b5, Bool.true_and, Bool.true_and]
    by_cases z : k ≤ 0
    · rw [decide_eq_true z]; rfl
    · obtain ⟨a, b, ea, eb, ne⟩ := NU_at g.nu (k.toNat - 1) (by omega)
      rw [show k.toNat - 1 + 1 = k.toNat by omega] at eb
      rw [List.getD_eq_getElem?_getD, eb, List.getD_eq_getElem?_getD, ea]
      show (decide (k ≤ 0) || !decide (b.2 = a.2)) = true
      rw [decide_eq_false (show ¬ b.2 = a.2 from fun z => ne z.symm)]
      simp
  rw [this]
  rfl
/-! what is spoiled -/
theorem bad_up {ini : FM} {x : Option Int × Int} (hl : ini.length ≤ 100) (h : upOk 0 ini = false) : m_good_form (ini ++ [x]) = .ok false := by
  rw [good_form_is ini x hl, h]
  cases decide (ini.length ≤ 5) <;> cases x.1.isSome <;> rfl
theorem bad_pk {S : FM} (hl : S.length ≤ 100) (hn : S ≠ []) {k : Nat} (hk : k < S.length) (h : pk S (k : Int) = false) : m_good_form S = .ok false := by
  obtain ⟨ini, x, e⟩ : ∃ ini x, S = ini ++ [x] := by
    rcases List.eq_nil_or_concat S with z | ⟨xs, x, z⟩
    · exact absurd z hn
    · exact ⟨xs, x, by rw [z, List.concat_eq_append]⟩
  subst e
  rw [good_form_is ini x (by simp at hl; omega)]
  have : (rng 0 ((ini ++ [x]).length : Int)).all (pk (ini ++ [x])) = false := by
    rw [Bool.eq_false_iff]
    intro z
    have := List.all_eq_true.mp z (k : Int) (rng_mem (by omega) (by omega))
    rw [h] at this
    cases this
  rw [this]
  cases decide (ini.length ≤ 5) <;> cases x.1.isSome <;> cases upOk 0 ini <;> rfl
theorem pk_same {S : FM} {k : Nat} {a b : Option Int × Int} (ha : S[k]? = some a) (hb : S[k + 1]? = some b) (h : a.2 = b.2) : pk S ((k + 1 : Nat) : Int) = false := by
  unfold pk
  rw [Int.toNat_natCast, Nat.add_sub_cancel, List.getD_eq_getElem?_getD, hb, List.getD_eq_getElem?_getD, ha, decide_eq_false (by omega : ¬ (((k + 1 : Nat) : Int) ≤ 0))]
  show (decide (0 ≤ b.2) && (decide (b.2 ≤ 5) && (false || !decide (b.2 = a.2)))) = false
  rw [decide_eq_true h.symm]
  simp
theorem pk_odd {S : FM} {k : Nat} {a : Option Int × Int} (ha : S[k]? = some a) (h : a.2 < 0 ∨ 5 < a.2) : pk S (k : Int) = false := by
  unfold pk
  rw [Int.toNat_natCast, List.getD_eq_getElem?_getD, ha]
  show (decide (0 ≤ a.2) && (decide (a.2 ≤ 5) && _)) = false
  rcases h with z | z
  · rw [decide_eq_false (by omega : ¬ 0 ≤ a.2)]; rfl
  · rw [decide_eq_false (by omega : ¬ a.2 ≤ 5)]; simp
theorem spoiled_ok {l : Int} {ps : List (Int × Int)} (g : GF l ps) (c : Int) : ∃ S, m_law_spoiled (toF l ps) c = .ok S ∧ m_good_form S = .ok false := by
  have gl := g.len
  have fl := toF_len l ps
  have at0 := Int.emod_nonneg (c / 16) (show ((toF l ps).length : Int) ≠ 0 by omega)
  have at1 := Int.emod_lt_of_pos (c / 16) (show (0 : Int) < (toF l ps).length by omega)
  unfold m_law_spoiled
  simp only [M.ok_bind, Mw.bind_assoc]
  rw [modM_ok (by omega)]
  simp only [M.ok_bind]
  obtain ⟨i, hi⟩ : ∃ i : Nat, c / 16 % ((toF l ps).length : Int) = (i : Int) := ⟨(c / 16 % ((toF l ps).length : Int)).toNat, by omega⟩
  rw [hi]
  have hil : i < (toF l ps).length := by omega
  have f0 : 0 ≤ c / 256 % (10000000000000000000000000000000000000000 : Int) := by omega
  generalize c / 256 % (10000000000000000000000000000000000000000 : Int) = far at f0
  rw [catM_ok (by simp; omega)]
  simp only [M.ok_bind]
  obtain ⟨here, eh⟩ : ∃ y, (toF l ps)[i]? = some y := ⟨_, List.getElem?_eq_getElem hil⟩
  obtain ⟨ah, ea⟩ : ∃ y, ([((some (0 : Int)), (9 : Int))] ++ toF l ps)[i]? = some y := ⟨_, List.getElem?_eq_getElem (by simp; omega)⟩
  rw [ixM_of ea, ixM_of eh]
  simp only [M.ok_bind]
  have hd : (toF l ps).drop i = here :: (toF l ps).drop (i + 1) := by
    rw [List.drop_eq_getElem_cons hil]
    rw [List.getElem?_eq_getElem hil] at eh
    rw [Option.some.inj eh]
  have ct : cut (toF l ps) none (some (i : Int)) = (toF l ps).take i := cut_take _ (by omega)
  have cd : cut (toF l ps) (some (i : Int)) none = (toF l ps).drop i := cut_drop _ (by omega)
  have cd1 : cut (toF l ps) (some ((i : Int) + 1)) none = (toF l ps).drop (i + 1) := cut_drop (toF l ps) (i := i + 1) (by omega)
  have tl : ((toF l ps).take i).length = i := by rw [List.length_take]; omega
  have dl : ((toF l ps).drop (i + 1)).length = (toF l ps).length - (i + 1) := List.length_drop
  have g1 : ∀ (A B : FM) (x : Option Int × Int), A.length = i → (A ++ [x] ++ B)[i]? = some x := fun A B x e => by
    rw [List.append_assoc, List.getElem?_append_right (by omega), e, Nat.sub_self]; rfl
  by_cases k8 : c % 9 = 8
  · by_cases k1 : ((toF l ps).length : Int) = 1
    · rw [decide_eq_true k8, decide_eq_true k1, Bool.and_self, if_pos rfl]
      have i0 : i = 0 := by omega
      exact ⟨_, rfl, bad_pk (by simp) (by simp) (k := 1) (by simp) (pk_same (k := 0) rfl rfl rfl)⟩
    · rw [decide_eq_true k8, decide_eq_false k1, Bool.and_false, if_neg (by simp), if_pos rfl]
      obtain ⟨j, hj⟩ : ∃ j : Nat, (if (i : Int) > 1 then (i : Int) else 1) = ((j + 1 : Nat) : Int) := ⟨((if (i : Int) > 1 then (i : Int) else 1) - 1).toNat, by split <;> omega⟩
      have hjl : j + 1 < (toF l ps).length := by split at hj <;> omega
      rw [hj]
      obtain ⟨a, ea1⟩ : ∃ y, (toF l ps)[j + 1]? = some y := ⟨_, List.getElem?_eq_getElem hjl⟩
      obtain ⟨b, eb1⟩ : ∃ y, (toF l ps)[j]? = some y := ⟨_, List.getElem?_eq_getElem (by omega)⟩
      rw [ixM_of ea1, show (((j + 1 : Nat) : Int) - 1) = (j : Int) by omega, ixM_of eb1]
      simp only [M.ok_bind]
      rw [chk_pos (by simp)]
      simp only [M.ok_bind]
      rw [cut_take (toF l ps) (by omega), show (((j + 1 : Nat) : Int) + 1) = ((j + 2 : Nat) : Int) by omega, cut_drop (toF l ps) (by omega), catM_ok (by simp; omega)]
      simp only [M.ok_bind]
      rw [catM_ok (by simp; omega)]
      have hL : ((toF l ps).take (j + 1) ++ [(a.1, b.2)] ++ (toF l ps).drop (j + 2)).length = (toF l ps).length := by simp; omega
      refine ⟨_, rfl, bad_pk (by omega) (fun z => by rw [z] at hL; simp at hL; omega) (k := j + 1) (by omega) (pk_same (k := j) (a := b) (b := (a.1, b.2)) ?_ ?_ rfl)⟩
      · rw [List.append_assoc, List.getElem?_append_left (by rw [List.length_take]; omega), List.getElem?_take, if_pos (by omega)]
        exact eb1
      · rw [List.append_assoc, List.getElem?_append_right (by rw [List.length_take]; omega), List.length_take, show j + 1 - min (j + 1) (toF l ps).length = 0 by omega]
        rfl
  rw [decide_eq_false k8, Bool.false_and, if_neg (by simp), if_neg (by simp)]
  have put : ∀ x : Option Int × Int, upOk 0 ((toF l ps).take i ++ [x] ++ (here :: (toF l ps).drop (i + 1)).dropLast) = false → m_good_form ((toF l ps).take i ++ [x] ++ (toF l ps).drop i) = .ok false := fun x h => by
    have e : (toF l ps).take i ++ [x] ++ (toF l ps).drop i = ((toF l ps).take i ++ [x] ++ (here :: (toF l ps).drop (i + 1)).dropLast) ++ [(here :: (toF l ps).drop (i + 1)).getLast (by simp)] := by
      rw [hd, List.append_assoc _ _ [_], List.dropLast_concat_getLast]
    rw [e]
    exact bad_up (by simp; omega) h
  by_cases k0 : c % 9 = 0
  · rw [if_pos (decide_eq_true k0), ct, cd, catM_ok (by simp; omega)]
    simp only [M.ok_bind]
    rw [catM_ok (by simp; omega)]
    refine ⟨_, rfl, put _ ?_⟩
    · refine Bool.eq_false_iff.mpr fun q => ?_
      obtain ⟨u, e1, _, e3⟩ := (upOk_all q).1 (some (1000000000000000000000000000000000000000000000000000000000000 + 1 + far), here.2) (List.mem_append_left _ (List.mem_append_right _ List.mem_cons_self))
      cases Option.some.inj e1
      unfold GW60 at e3
      omega
  rw [if_neg (by simpa using k0)]
  by_cases k1 : c % 9 = 1
  · rw [if_pos (decide_eq_true k1)]
    obtain ⟨a, ea1⟩ : ∃ a, ah.1 = some a := by
      cases i with
      | zero => exact ⟨0, by have e : some ((some (0 : Int)), (9 : Int)) = some ah := ea; rw [← Option.some.inj e]⟩
      | succ i =>
        have e : (toF l ps)[i]? = some ah := ea
        unfold toF at e
        rw [List.getElem?_append_left (by rw [List.length_map]; omega), List.getElem?_map] at e
        obtain ⟨q, hq, e⟩ := Option.map_eq_some_iff.mp e
        exact ⟨q.1, by rw [← e]⟩
    rw [ea1]
    simp only [getM, M.ok_bind]
    rw [chk_pos (by simp)]
    simp only [M.ok_bind]
    rw [ct, cd, catM_ok (by simp; omega)]
    simp only [M.ok_bind]
    rw [catM_ok (by simp; omega)]
    refine ⟨_, rfl, put _ ?_⟩
    · refine Bool.eq_false_iff.mpr fun q => ?_
      have qq := upOk_all q
      cases i with
      | zero =>
        have e : some ((some (0 : Int)), (9 : Int)) = some ah := ea
        rw [← Option.some.inj e] at ea1
        cases Option.some.inj ea1
        obtain ⟨u, e1, e2, _⟩ := qq.1 (some (0 - far % 3), here.2) (List.mem_append_left _ (List.mem_append_right _ List.mem_cons_self))
        cases Option.some.inj e1
        omega
      | succ i =>
        have e : (toF l ps)[i]? = some ah := ea
        have hm : ah ∈ (toF l ps).take (i + 1) := List.mem_iff_getElem?.mpr ⟨i, by rw [List.getElem?_take, if_pos (by omega)]; exact e⟩
        have p1 := (List.pairwise_append.mp (List.pairwise_append.mp qq.2).1).2.2 ah hm (some (a - far % 3), here.2) List.mem_cons_self a (a - far % 3) ea1 rfl
        omega
  rw [if_neg (by simpa using k1)]
  by_cases k2 : c % 9 = 2
  · rw [if_pos (decide_eq_true k2)]
    obtain ⟨v, ev, hv⟩ : ∃ v, ixM [(6 : Int) + far, (-(1 : Int)) - far] (c / 8 % 2) = .ok v ∧ (v < 0 ∨ 5 < v) := by
      rcases (by omega : c / 8 % 2 = 0 ∨ c / 8 % 2 = 1) with z | z <;> rw [z]
      · exact ⟨6 + far, ix0 _ _, .inr (by omega)⟩
      · exact ⟨-1 - far, ix1 _ _ _, .inl (by omega)⟩
    rw [ev]
    simp only [M.ok_bind]
    rw [chk_pos (by simp)]
    simp only [M.ok_bind]
    rw [ct, cd1, catM_ok (by simp; omega)]
    simp only [M.ok_bind]
    rw [catM_ok (by simp; omega)]
    have hL : ((toF l ps).take i ++ [(here.1, v)] ++ (toF l ps).drop (i + 1)).length = (toF l ps).length := by simp; omega
    exact ⟨_, rfl, bad_pk (by omega) (fun z => by rw [z] at hL; simp at hL; omega) (k := i) (by omega) (pk_odd (g1 _ _ _ tl) hv)⟩
  rw [if_neg (by simpa using k2)]
  by_cases k3 : c % 9 = 3
  · rw [if_pos (decide_eq_true k3)]
    rw [show ixM (toF l ps) (-1) = .ok (none, l) from ixM_last _ _]
    simp only [M.ok_bind]
    rw [chk_pos (by simp)]
    simp only [M.ok_bind]
    rw [show cut (toF l ps) none (some (-1)) = ps.map sm from cut_last _ _, catM_ok (by simp; omega)]
    refine ⟨_, rfl, ?_⟩
    rw [good_form_is _ _ (by rw [List.length_map]; omega)]
    simp
  rw [if_neg (by simpa using k3)]
  by_cases k4 : c % 9 = 4
  · rw [if_pos (decide_eq_true k4), catM_ok (by simp; omega)]
    refine ⟨_, rfl, ?_⟩
    have e : [((none : Option Int), (here.2 + 1) % 6)] ++ toF l ps = ((none, (here.2 + 1) % 6) :: ps.map sm) ++ [(none, l)] := rfl
    rw [e]
    exact bad_up (by simp; omega) rfl
  rw [if_neg (by simpa using k4)]
  by_cases k5 : c % 9 = 5
  · rw [if_pos (decide_eq_true k5), ct, cd, catM_ok (by simp; omega)]
    simp only [M.ok_bind]
    rw [catM_ok (by simp; omega)]
    have hL : ((toF l ps).take i ++ [here] ++ (toF l ps).drop i).length = (toF l ps).length + 1 := by simp; omega
    refine ⟨_, rfl, bad_pk (by omega) (fun z => by rw [z] at hL; simp at hL) (k := i + 1) (by omega) (pk_same (k := i) (a := here) (b := here) (g1 _ _ _ tl) ?_ rfl)⟩
    rw [hd, List.getElem?_append_right (by simp; omega)]
    have : i + 1 - ((toF l ps).take i ++ [here]).length = 0 := by simp; omega
    rw [this]
    rfl
  rw [if_neg (by simpa using k5)]
  by_cases k6 : c % 9 = 6
  · rw [if_pos (decide_eq_true k6)]
    exact ⟨_, rfl, good_nil⟩
  rw [if_neg (by simpa using k6), rng1M_ok (by omega)]
  simp only [M.ok_bind]
  rw [lcM_all (fun x : Int => ((some (x + 1) : Option Int), x % 2)) (by rw [rng_len]; omega)]
  simp only [M.ok_bind]
  rw [catM_ok (by rw [List.length_map, rng_len]; simp)]
  refine ⟨_, rfl, ?_⟩
  rw [good_form_is _ _ (by rw [List.length_map, rng_len]; omega), decide_eq_false (by rw [List.length_map, rng_len]; omega)]
  rfl
/-! the works of a form -/
def mrow (m : Nat) (q : Int × Int) (k : Nat) : Row := ⟨[cM, .i q.1, .i ((m + k : Nat) : Int), .i (if k + 1 = m then ((2 * m : Nat) : Int) else ((k + 1 : Nat) : Int))]⟩
def WB (l : Int) (ps : List (Int × Int)) : List Row := (List.range ps.length).map (fun k => mrow ps.length (ps.getD k (0, 0)) k) ++ ((toF l ps).map fun x => (⟨[cB, .i x.2]⟩ : Row))
theorem WB_len (l : Int) (ps : List (Int × Int)) : (WB l ps).length = 2 * ps.length + 1 := by
  unfold WB
  rw [List.length_append, List.length_map, List.length_range, List.length_map, toF_len]
  omega
theorem WB_mesh {l : Int} {ps : List (Int × Int)} {k : Nat} (h : k < ps.length) : (WB l ps)[k]? = some (mrow ps.length ps[k] k) := by
  unfold WB
  rw [List.getElem?_append_left (by rw [List.length_map, List.length_range]; exact h), List.getElem?_map, List.getElem?_range h]
  show some (mrow ps.length (ps.getD k (0, 0)) k) = _
  rw [List.getD_eq_getElem?_getD, List.getElem?_eq_getElem h]
  rfl
theorem WB_bin {l : Int} {ps : List (Int × Int)} {k : Nat} {x : Option Int × Int} (h : (toF l ps)[k]? = some x) : (WB l ps)[ps.length + k]? = some ⟨[cB, .i x.2]⟩ := by
  unfold WB
  rw [List.getElem?_append_right (by rw [List.length_map, List.length_range]; omega), List.length_map, List.length_range, List.getElem?_map, show ps.length + k - ps.length = k by omega, h]
  rfl
theorem WB_g {l : Int} {ps : List (Int × Int)} (g : GF l ps) : ∀ r ∈ WB l ps, GR (WB l ps).length r ∧ isC r = false := fun r hr => by
  rw [WB_len]
  unfold WB at hr
  rcases List.mem_append.mp hr with z | z
  · obtain ⟨k, hk, rfl⟩ := List.mem_map.mp z
    have hk' := List.mem_range.mp hk
    have hq : ps.getD k (0, 0) ∈ ps := by
      rw [List.getD_eq_getElem?_getD, List.getElem?_eq_getElem hk']
      exact List.getElem_mem hk'
    have b := (g.bd _ hq).1
    refine ⟨.mesh _ _ _ b.1 b.2 (by omega) (by omega) ?_ ?_, mc⟩ <;> split <;> omega
  · obtain ⟨x, hx, rfl⟩ := List.mem_map.mp z
    have b := toF_mem g hx
    exact ⟨.bin _ b.1 b.2, bc⟩
theorem getD_of {rs : List Row} {k : Nat} {r : Row} (h : rs[k]? = some r) : rs.getD (k : Int).toNat dR = r := by
  rw [Int.toNat_natCast, List.getD_eq_getElem?_getD, h]
  rfl
def stR (m k : Nat) : Int := if k = m then ((2 * m : Nat) : Int) else (k : Int)
theorem bin_stay {f : Int → Option Int} {r : Int} (h : f r = none) : ∀ e, 1 ≤ e → it f e r = none ∧ endr f e r = r
  | 0, z => absurd z (by omega)
  | e + 1, _ => by
    rw [it_front, h]
    refine ⟨rfl, ?_⟩
    show (match f r with | none => r | some t => endr f e t) = r
    rw [h]
theorem WB_walk {l : Int} {ps : List (Int × Int)} (s : Int) : ∀ (j k : Nat), j + k = ps.length → ∀ e, j + 1 ≤ e → it (fn (WB l ps) s) e (stR ps.length k) = none ∧ bn ((WB l ps).getD (endr (fn (WB l ps) s) e (stR ps.length k)).toNat dR) = fb l (ps.drop k) s
  | 0, k, hk, e, he => by
    have ek : k = ps.length := by omega
    subst ek
    have h2 : (WB l ps)[ps.length + ps.length]? = some ⟨[cB, .i l]⟩ := WB_bin (x := (none, l)) (by unfold toF; rw [List.getElem?_append_right (by simp)]; simp)
    have es : stR ps.length ps.length = ((ps.length + ps.length : Nat) : Int) := by unfold stR; rw [if_pos rfl]; omega
    rw [es]
    have hf : fn (WB l ps) s ((ps.length + ps.length : Nat) : Int) = none := by
      unfold fn
      rw [getD_of h2, nx_bin]
    obtain ⟨a, b⟩ := bin_stay hf e (by omega)
    rw [a, b, getD_of h2, List.drop_length]
    exact ⟨rfl, rfl⟩
  | j + 1, k, hk, e, he => by
    have hkl : k < ps.length := by omega
    have es : stR ps.length k = (k : Int) := by unfold stR; rw [if_neg (by omega)]
    have hf : fn (WB l ps) s (k : Int) = some (if s ≤ ps[k].1 then ((ps.length + k : Nat) : Int) else (if k + 1 = ps.length then ((2 * ps.length : Nat) : Int) else ((k + 1 : Nat) : Int))) := by
      unfold fn
      rw [getD_of (WB_mesh hkl)]
      exact nx_mesh _ _ _ _
    obtain ⟨e, rfl⟩ : ∃ e', e = e' + 1 := ⟨e - 1, by omega⟩
    rw [es, it_front, hf]
    have en : endr (fn (WB l ps) s) (e + 1) (k : Int) = endr (fn (WB l ps) s) e (if s ≤ ps[k].1 then ((ps.length + k : Nat) : Int) else (if k + 1 = ps.length then ((2 * ps.length : Nat) : Int) else ((k + 1 : Nat) : Int))) := by
      show (match fn (WB l ps) s (k : Int) with | none => (k : Int) | some t => endr (fn (WB l ps) s) e t) = _
      rw [hf]
    rw [en, List.drop_eq_getElem_cons hkl]
    show it _ e _ = none ∧ bn _ = (if s ≤ ps[k].1 then ps[k].2 else fb l (ps.drop (k + 1)) s)
    by_cases c : s ≤ ps[k].1
    · rw [if_pos c, if_pos c]
      have h2 : (WB l ps)[ps.length + k]? = some ⟨[cB, .i ps[k].2]⟩ := WB_bin (x := (some ps[k].1, ps[k].2)) (by unfold toF; rw [List.getElem?_append_left (by simpa using hkl), List.getElem?_map, List.getElem?_eq_getElem hkl]; rfl)
      have hf2 : fn (WB l ps) s ((ps.length + k : Nat) : Int) = none := by
        unfold fn
        rw [getD_of h2, nx_bin]
      obtain ⟨a, b⟩ := bin_stay hf2 e (by omega)
      rw [a, b, getD_of h2]
      exact ⟨rfl, rfl⟩
    · rw [if_neg c, if_neg c]
      have := WB_walk (l := l) (ps := ps) s j (k + 1) (by omega) e (by omega)
      exact this
theorem WB_nr (l : Int) (ps : List (Int × Int)) (s : Int) : NoRing (WB l ps) s := fun r h0 h1 => by
  rw [WB_len] at h1 ⊢
  obtain ⟨i, rfl⟩ : ∃ i : Nat, r = (i : Int) := ⟨r.toNat, by omega⟩
  by_cases c : i < ps.length
  · have := (WB_walk (l := l) (ps := ps) s (ps.length - i) i (by omega) (2 * ps.length + 1) (by omega)).1
    unfold stR at this
    rw [if_neg (by omega)] at this
    exact this
  · obtain ⟨x, hx⟩ : ∃ x, (toF l ps)[i - ps.length]? = some x := ⟨_, List.getElem?_eq_getElem (by rw [toF_len]; omega)⟩
    have h2 := WB_bin hx
    rw [show ps.length + (i - ps.length) = i by omega] at h2
    have hf2 : fn (WB l ps) s (i : Int) = none := by
      unfold fn
      rw [getD_of h2, nx_bin]
    exact (bin_stay hf2 _ (by omega)).1
theorem WB_BV (l : Int) (ps : List (Int × Int)) (s : Int) : BV (WB l ps) s 0 = fb l ps s := by
  have := (WB_walk (l := l) (ps := ps) s ps.length 0 (by omega) (2 * ps.length + 1) (by omega)).2
  unfold BV
  rw [WB_len]
  have e0 : stR ps.length 0 = 0 := by unfold stR; split <;> omega
  rw [e0, List.drop_zero] at this
  exact this
theorem osR_app (a b : List Row) : osR (a ++ b) = osR a ++ osR b := by
  unfold osR
  rw [List.filter_append, List.map_append]
theorem WB_os (l : Int) (ps : List (Int × Int)) : osR (WB l ps) = ps.map (·.1) := by
  unfold WB
  rw [osR_app]
  have h2 : ∀ F : FM, osR (F.map fun x => (⟨[cB, .i x.2]⟩ : Row)) = [] := fun F => by
    unfold osR
    rw [List.filter_eq_nil_iff.mpr fun r hr => by
      obtain ⟨x, _, rfl⟩ := List.mem_map.mp hr
      rw [show isM ⟨[cB, .i x.2]⟩ = false from bm]
      decide]
    rfl
  rw [h2, List.append_nil]
  unfold osR
  rw [List.filter_eq_self.mpr fun r hr => by
    obtain ⟨k, _, rfl⟩ := List.mem_map.mp hr
    exact decide_eq_true rfl, List.map_map]
  apply List.ext_getElem?
  intro i
  rw [List.getElem?_map, List.getElem?_map]
  by_cases c : i < ps.length
  · rw [List.getElem?_range c, List.getElem?_eq_getElem c]
    show some (ps.getD i (0, 0)).1 = _
    rw [List.getD_eq_getElem?_getD, List.getElem?_eq_getElem c]
    rfl
  · rw [List.getElem?_eq_none (by simpa using c), List.getElem?_eq_none (by omega)]
    rfl
theorem fb_at {l : Int} : ∀ {ps : List (Int × Int)} {pre : List (Int × Int)} {q : Int × Int}, ((pre ++ q :: ps).map (·.1)).Pairwise (· < ·) → fb l (pre ++ q :: ps) q.1 = q.2
  | ps, [], q, _ => if_pos (Int.le_refl _)
  | ps, p :: pre, q, h => by
    rw [List.cons_append, List.map_cons] at h
    obtain ⟨h1, h2⟩ := List.pairwise_cons.mp h
    have := h1 q.1 (List.mem_map_of_mem (List.mem_append_right _ List.mem_cons_self))
    show (if q.1 ≤ p.1 then p.2 else fb l (pre ++ q :: ps) q.1) = q.2
    rw [if_neg (by omega)]
    exact fb_at h2
theorem FP_back {l : Int} {ps : List (Int × Int)} (lt : (ps.map (·.1)).Pairwise (· < ·)) : ∀ (r pre : List (Int × Int)), ps = pre ++ r → NU l r → FP (fun s => fb l ps s) l (r.map (·.1)) = r
  | [], _, _, _ => rfl
  | q :: r, pre, e, nu => by
    have ih := FP_back lt r (pre ++ [q]) (by rw [e]; simp) nu.2
    show (if fb l ps q.1 = hdv l (FP (fun s => fb l ps s) l (r.map (·.1))) then _ else (q.1, fb l ps q.1) :: FP (fun s => fb l ps s) l (r.map (·.1))) = q :: r
    have ev : fb l ps q.1 = q.2 := by rw [e] at lt ⊢; exact fb_at lt
    rw [ih, ev, if_neg nu.1]
theorem WB_form {l : Int} {ps : List (Int × Int)} (g : GF l ps) (p : Int) (p1 : 2 ≤ p) (p2 : p ≤ 9) : m_form_of ⟨p, WB l ps⟩ 0 = .ok (toF l ps) := by
  have gl := g.len
  have wl := WB_len l ps
  rw [form_of_is (fun r hr => (WB_g g r hr).1) (fun r hr => (WB_g g r hr).2) (by omega) p p1 p2 (fun s _ => WB_nr l ps s) (by omega) (by omega)]
  congr 1
  unfold FO PS
  have ev : (fun s => BV (WB l ps) s 0) = fun s => fb l ps s := funext fun s => WB_BV l ps s
  have el : BV (WB l ps) W1 0 = l := by
    rw [WB_BV]
    have : ∀ r : List (Int × Int), (∀ q ∈ r, q.1 ≤ GW60) → fb l r W1 = l := fun r => by
      induction r with
      | nil => exact fun _ => rfl
      | cons q r ih =>
        intro h
        have := h q List.mem_cons_self
        show (if W1 ≤ q.1 then q.2 else fb l r W1) = l
        unfold GW60 at this
        rw [if_neg (by unfold W1; omega)]
        exact ih fun x hx => h x (List.mem_cons_of_mem _ hx)
    exact this ps fun q hq => (g.bd q hq).1.2
  have es : sortU (ps.map (·.1)) = ps.map (·.1) := (sortU_is g.lt fun k => Iff.rfl).symm
  rw [ev, el, WB_os, es, FP_back g.lt ps [] rfl g.nu]
theorem works_by_is {l : Int} {ps : List (Int × Int)} (g : GF l ps) (p : Int) (p1 : 2 ≤ p) (p2 : p ≤ 9) : m_works_by (toF l ps) p = .ok ⟨p, WB l ps⟩ := by
  have gl := g.len
  have fl := toF_len l ps
  have wl := WB_len l ps
  unfold m_works_by
  rw [g.good]
  simp only [M.ok_bind, Mw.bind_assoc, ne_ok, notM_ok, Bool.not_true, Bool.false_eq_true, if_false]
  rw [show (((toF l ps).length : Int) - 1) = (ps.length : Int) by omega, rng1M_ok (by omega)]
  simp only [M.ok_bind]
  refine forM_by (f := m_works_by_b1 (toF l ps) (ps.length : Int)) (P := fun m : M Wk => m = .ok ⟨p, WB l ps⟩) (s := ([] : List Row)) (fun pre (s : List Row) => s = (List.range pre.length).map (fun k => mrow ps.length (ps.getD k (0, 0)) k)) rfl (fun pre x s hp hs => ?_) fun s hs => ?_
  · obtain ⟨hx, hlt⟩ := rng_pre hp
    have ei : ixM (toF l ps) (pre.length : Int) = .ok (some ps[pre.length].1, ps[pre.length].2) := ixM_of (by unfold toF; rw [List.getElem?_append_left (by simpa using hlt), List.getElem?_map, List.getElem?_eq_getElem hlt]; rfl)
    unfold m_works_by_b1
    subst hx
    simp only [M.ok_bind, Mw.bind_assoc, ei, getM]
    have sl : s.length = pre.length := by rw [hs]; simp
    have fin : ∀ z : Int, z = (if pre.length + 1 = ps.length then ((2 * ps.length : Nat) : Int) else ((pre.length + 1 : Nat) : Int)) → ∃ s', ((chk (([Cl.w (wd (Str.ofString "mesh")), Cl.i ps[pre.length].1, Cl.i ((ps.length : Int) + (pre.length : Int)), Cl.i z]).length ≤ 1000) (Row.mk [Cl.w (wd (Str.ofString "mesh")), Cl.i ps[pre.length].1, Cl.i ((ps.length : Int) + (pre.length : Int)), Cl.i z])).bind fun x => (appM s x).bind fun rows => (M.ok (Ctl.nx rows) : M (Ctl (List Row) Wk))) = .ok (.nx s') ∧ s' = (List.range (pre ++ [(pre.length : Int)]).length).map (fun k => mrow ps.length (ps.getD k (0, 0)) k) := fun z hz => by
      rw [chk_pos (by simp)]
      simp only [M.ok_bind]
      rw [appM_ok (by omega)]
      refine ⟨_, rfl, ?_⟩
      rw [List.length_append, List.length_singleton, List.range_succ, List.map_append, ← hs]
      congr 1
      show [_] = [mrow ps.length (ps.getD pre.length (0, 0)) pre.length]
      rw [List.getD_eq_getElem?_getD, List.getElem?_eq_getElem hlt]
      unfold mrow
      rw [hz]
      rfl
    by_cases c : (pre.length : Int) + 1 = (ps.length : Int)
    · rw [if_pos (decide_eq_true c)]
      exact fin _ (by rw [if_pos (by omega)]; omega)
    · rw [if_neg (by simpa using c)]
      exact fin _ (by rw [if_neg (by omega)]; omega)
  · rw [rng_len, show ((ps.length : Int) - 0).toNat = ps.length by omega] at hs
    rw [lcM_congr (c' := fun _ => .ok true) (e' := fun x : Option Int × Int => .ok (⟨[cB, .i x.2]⟩ : Row)) (fun _ _ => rfl) (fun x _ _ => by
      rw [chk_pos (by simp)]
      rfl)]
    rw [lcM_all (fun x : Option Int × Int => (⟨[cB, .i x.2]⟩ : Row)) (by omega)]
    simp only [M.ok_bind]
    rw [catM_ok (by rw [hs]; simp; omega)]
    simp only [M.ok_bind]
    have ew : s ++ (toF l ps).map (fun x => (⟨[cB, .i x.2]⟩ : Row)) = WB l ps := by rw [hs]; rfl
    rw [ew]
    exact works_is p _ p1 p2 (by omega) (by omega) fun r hr => (WB_g g r hr).1
theorem word_is {S : FM} (h : m_good_form S = .ok false) : m_law_word S = .ok (wd (Str.ofString "refused")) := by
  unfold m_law_word m_works_by
  rw [h]
  simp only [M.ok_bind, ne_ok, notM_ok, Bool.not_false, if_true, M.er_bind]
  unfold catchM
  dsimp only
  rw [if_pos rfl]
  rfl
theorem WB_cells {l : Int} {ps : List (Int × Int)} (g : GF l ps) : lcM (fun x_2513 : Row => (M.ok true)) (fun x_2513 : Row => (ixM x_2513.cs 0)) (WB l ps) = .ok (List.replicate ps.length cM ++ List.replicate (ps.length + 1) cB) := by
  have wl := WB_len l ps
  have gl := g.len
  rw [lcM_congr (c' := fun _ => .ok true) (e' := fun r : Row => .ok (r.cs.headD cB)) (fun _ _ => rfl) (fun r hr _ => by
    rcases (WB_g g r hr).1 with _ | _ | _ <;> exact ix0 _ _)]
  rw [lcM_all (fun r : Row => r.cs.headD cB) (by omega)]
  congr 1
  unfold WB
  rw [List.map_append, List.map_map, List.map_map]
  congr 1
  · rw [show ((fun r : Row => r.cs.headD cB) ∘ fun k => mrow ps.length (ps.getD k (0, 0)) k) = fun _ => cM from rfl, List.map_const', List.length_range]
  · rw [show ((fun r : Row => r.cs.headD cB) ∘ fun x : Option Int × Int => (⟨[cB, .i x.2]⟩ : Row)) = fun _ => cB from rfl, List.map_const', toF_len]
theorem law_go {l : Int} {ps : List (Int × Int)} (g : GF l ps) (p : Int) {k : Int → M Bool} (hk : ∀ x, k x = .ok true) : ∀ (r pre : List (Int × Int)) (low : Int), ps = pre ++ r → 1 ≤ low → (∀ q ∈ pre, q.1 < low) → (∀ q ∈ r, low ≤ q.1) → forM (m_law_b1 ⟨p, WB l ps⟩) k (toF l r) low = .ok true := by
  have gl := g.len
  have wl := WB_len l ps
  have bin : ∀ s, m_law_bin (WB l ps) 0 s = .ok (fb l ps s) := fun s => by
    rw [law_bin_is (fun r hr => (WB_g g r hr).1) (fun r hr => (WB_g g r hr).2) (by omega) (WB_nr l ps s) (by omega) (by omega), WB_BV]
  have skip : ∀ (pre r : List (Int × Int)) (s : Int), (∀ q ∈ pre, q.1 < s) → fb l (pre ++ r) s = fb l r s := fun pre r s => by
    induction pre with
    | nil => exact fun _ => rfl
    | cons q pre ih =>
      intro h
      have := h q List.mem_cons_self
      show (if s ≤ q.1 then q.2 else fb l (pre ++ r) s) = _
      rw [if_neg (by omega)]
      exact ih fun x hx => h x (List.mem_cons_of_mem _ hx)
  intro r
  induction r with
  | nil =>
    intro pre low e hl hp _
    show forM _ _ [((none : Option Int), l)] low = _
    rw [forM_cons]
    unfold m_law_b1
    simp only [M.ok_bind, Mw.bind_assoc, Option.isSome_none, Bool.not_false, if_true, getM, bin, ne_ok]
    have f1 : ∀ s, low ≤ s → fb l ps s = l := fun s hs => by
      rw [e, skip pre [] s fun q hq => by have := hp q hq; omega]
      rfl
    rw [f1 low (by omega), f1 _ (by omega)]
    simp only [decide_true, Bool.not_true, orM_f, Bool.false_eq_true, if_false, M.ok_bind]
    exact hk _
  | cons q r ih =>
    intro pre low e hl hp hr
    have hq := hr q List.mem_cons_self
    have f1 : ∀ s, low ≤ s → s ≤ q.1 → fb l ps s = q.2 := fun s hs hs2 => by
      rw [e, skip pre (q :: r) s fun y hy => by have := hp y hy; omega]
      exact if_pos hs2
    have one : m_law_b1 ⟨p, WB l ps⟩ (some q.1, q.2) low = .ok (.nx (q.1 + 1)) := by
      unfold m_law_b1
      simp only [M.ok_bind, Mw.bind_assoc, Option.isSome_some, Bool.not_true, Bool.false_eq_true, if_false, getM, bin, ne_ok]
      rw [f1 low (by omega) hq, f1 q.1 hq (Int.le_refl _)]
      simp only [decide_true, Bool.not_true, orM_f, Bool.false_eq_true, if_false, M.ok_bind]
    show forM _ _ ((some q.1, q.2) :: toF l r) low = _
    rw [forM_cons, one]
    simp only [M.ok_bind]
    have lt := g.lt
    rw [e, List.map_append, List.pairwise_append, List.map_cons] at lt
    obtain ⟨_, l2, l3⟩ := lt
    obtain ⟨l4, _⟩ := List.pairwise_cons.mp l2
    exact ih (pre ++ [q]) (q.1 + 1) (by rw [e]; simp) (by omega) (fun y hy => by
      rcases List.mem_append.mp hy with z | z
      · have := l3 y.1 (List.mem_map_of_mem z) q.1 List.mem_cons_self
        omega
      · rw [List.mem_singleton.mp z]; omega) (fun y hy => by
      have := l4 y.1 (List.mem_map_of_mem hy)
      omega)
theorem law_true (ns : List Int) (h : ns.length ≤ 63) : m_law ⟨ns⟩ = .ok true := by
  obtain ⟨c0, ec⟩ := cell_at_ok ns 0 (by omega)
  obtain ⟨l, ps, ef, g⟩ := form_ok ns
  have gl := g.len
  have fl := toF_len l ps
  unfold m_law
  simp only [M.ok_bind, Mw.bind_assoc, ec, ef, ne_ok]
  rw [modM_ok (by omega)]
  simp only [M.ok_bind]
  rw [works_by_is g _ (by omega) (by omega)]
  simp only [M.ok_bind, decide_true, Bool.not_true, orM_f]
  rw [WB_form g _ (by omega) (by omega)]
  simp only [M.ok_bind, decide_true, Bool.not_true, Bool.false_eq_true, if_false]
  rw [WB_cells g]
  simp only [M.ok_bind]
  have c1 : List.count (Cl.w (wd (Str.ofString "mesh"))) (List.replicate ps.length cM ++ List.replicate (ps.length + 1) cB) = ps.length := by
    rw [List.count_append, List.count_replicate, List.count_replicate, if_pos (by show (cM == cM) = true; simp), if_neg (by
      rw [beq_iff_eq]
      intro z
      have : decide (cB = cM) = true := decide_eq_true z
      rw [bm] at this
      cases this)]
    rfl
  have c2 : List.count (Cl.w (wd (Str.ofString "crush"))) (List.replicate ps.length cM ++ List.replicate (ps.length + 1) cB) = 0 := by
    rw [List.count_append, List.count_replicate, List.count_replicate, if_neg (by
      rw [beq_iff_eq]
      intro z
      have : decide (cM = cC) = true := decide_eq_true z
      rw [mc] at this
      cases this), if_neg (by
      rw [beq_iff_eq]
      intro z
      have : decide (cB = cC) = true := decide_eq_true z
      rw [bc] at this
      cases this)]
  rw [c1, c2, decide_eq_true (by omega : (ps.length : Int) = ((toF l ps).length : Int) - 1)]
  simp only [Bool.not_true, orM_f, M.ok_bind]
  rw [if_neg (by simp)]
  refine law_go g _ (fun x => ?_) ps [] 1 rfl (by omega) (fun _ z => nomatch z) (fun q hq => (g.bd q hq).1.1)
  have cl := cut_len ns none (some 40)
  rw [catM_ok (by simp; omega)]
  simp only [M.ok_bind]
  rw [forM_all fun y _ => by
    obtain ⟨S, eS, hS⟩ := spoiled_ok g y
    unfold m_law_b2
    rw [eS]
    simp only [M.ok_bind, ne_ok, word_is hS]
    simp]

def topS (i : Nat) : Stmt := PySem.Challenge.pw_meshworks_k26_whole_forms_there_and_back.main.body.getD i (.Pass ⟨0, 0, 0, 0⟩)
section
variable {P : Program} {w : World} {K : PySem.W.Frag} {mg : Str → Option Value} {base : Heap} {ce : Ce}
/-! ### _law_cell_at -/
abbrev s_law_cell_at : Stmt := topS 28
abbrev N_law_cell_at : List Str := ["script", "k"]
theorem sc_law_cell_at : FnScope N_law_cell_at ["script", "k"] (defScope s_law_cell_at) := ⟨rfl, rfl, rfl, by decide +kernel, rfl, by decide +kernel, by decide +kernel⟩
abbrev sp_law_cell_at (K : PySem.W.Frag) (ce : Ce) : Sp := SpF0 ce (RC K (α := Scr) (RC K (α := Int) R0)) (rv K (ρ := Int)) (fun a : (Scr × Int × Unit) => m_law_cell_at a.1 a.2.1)
theorem ok_law_cell_at {f : Addr} {fd : FuncData} (FF : Fun K "_law_cell_at" "_law_cell_at" s_law_cell_at f fd) (z_len : mg "len" = none) : FnOk P w K mg base CX0 1 f fd ["script", "k"] (sp_law_cell_at K ce) := by
  refine FF.ok sc_law_cell_at (fun vs H0 Q E h => ?_) (fun cdv A outer s H0 vs Q E hr h => ?_)
  · obtain ⟨F0, ⟨a0_script, a1_k, _⟩, e0, ⟨v0, _, rfl, r0, ⟨v1, _, rfl, r1, rfl⟩⟩, w⟩ := h
    rfl
  · obtain ⟨F0, ⟨a0_script, a1_k, _⟩, e0, ⟨v0, _, rfl, r0, ⟨v1, _, rfl, r1, rfl⟩⟩, w⟩ := h
    have w := wp_post w
    have G := Gr.rf e0
    have nd := sc_law_cell_at.nd
    have hQ : ∀ r F1 H1 v, Gr F0 H0 F1 H1 → (rv K (ρ := Int)) F0 H0 F1 H1 v r → Fin (rv K (ρ := Int)) F0 H0 Q r → Q v H1 := fun r F1 H1 v g m p => p F1 H1 v g m
    refine ⟨_, (pss_cons (ps_if (pt_cmpR op_lt (pv 1) (pe_callB (r := rLenS K) call_len_seq (by rfl) z_len (by decide +kernel) (pa_cons (pv 0) pa_nil)) (nomark _)) (pss_one (ps_ret (pe_ix (r := rIxL K) ix_list (pv 0) (pv 1) (fun _ _ => rfl)))) pss_nil)
      (pss_one (ps_ret pe_int))), ?_⟩
    have w := show Wp ce E0 H0 (m_law_cell_at a0_script a1_k) _ from w
    unfold m_law_cell_at at w
    refine q_if2 G w (t_of (e2 (em_var rfl r1) (e_cb (e_cons (em_var rfl r0) ea_nil) a_lenS) o_lt)) (fun F_6 H_7 g_8 w => ?_) (fun F_6 H_7 g_8 w => ?_)
    · have G := G.tr g_8
      have r0 := Rep.mo (K := K) g_8.ff r0
      have r1 := Rep.mo (K := K) g_8.ff r1
      exact s_ret0 G w (em_op (em_var rfl r0) (em_var rfl r1) fun _ _ => o_ixS) fun r F1 H1 v g m p => hQ r F1 H1 v g m p
    · have G := G.tr g_8
      have r0 := Rep.mo (K := K) g_8.ff r0
      have r1 := Rep.mo (K := K) g_8.ff r1
      refine s_next ?_
      refine s_nx ?_
      exact s_ret0 G w em_int fun r F1 H1 v g m p => hQ r F1 H1 v g m p
/-! ### _law_size -/
abbrev s_law_size : Stmt := topS 29
abbrev N_law_size : List Str := ["cell", "rest"]
theorem sc_law_size : FnScope N_law_size ["cell"] (defScope s_law_size) := ⟨rfl, rfl, rfl, by decide +kernel, rfl, by decide +kernel, by decide +kernel⟩
abbrev sp_law_size (K : PySem.W.Frag) (ce : Ce) : Sp := SpF0 ce (RC K (α := Int) R0) (rv K (ρ := Int)) (fun a : (Int × Unit) => m_law_size a.1)
theorem ok_law_size {f : Addr} {fd : FuncData} (FF : Fun K "_law_size" "_law_size" s_law_size f fd) : FnOk P w K mg base CX0 1 f fd ["cell"] (sp_law_size K ce) := by
  refine FF.ok sc_law_size (fun vs H0 Q E h => ?_) (fun cdv A outer s H0 vs Q E hr h => ?_)
  · obtain ⟨F0, ⟨a0_cell, _⟩, e0, ⟨v0, _, rfl, r0, rfl⟩, w⟩ := h
    rfl
  · obtain ⟨F0, ⟨a0_cell, _⟩, e0, ⟨v0, _, rfl, r0, rfl⟩, w⟩ := h
    have w := wp_post w
    have G := Gr.rf e0
    have nd := sc_law_size.nd
    have hQ : ∀ r F1 H1 v, Gr F0 H0 F1 H1 → (rv K (ρ := Int)) F0 H0 F1 H1 v r → Fin (rv K (ρ := Int)) F0 H0 Q r → Q v H1 := fun r F1 H1 v g m p => p F1 H1 v g m
    refine ⟨_, (pss_cons (ps_set (i := 1) nd rfl (by first | exact Or.inl rfl | exact Or.inr rfl) (pe_op op_fdiv (pv 0) pe_int))
      (pss_cons (ps_if (pt_cmpR op_eq (pe_op op_mod (pv 0) pe_int) pe_int (nomark _)) (pss_one (ps_ret (pe_op op_add pe_int (pe_op op_mod (pv 1) (pe_op op_pow pe_int pe_int))))) pss_nil)
      (pss_cons (ps_if (pt_cmpR op_eq (pe_op op_mod (pv 0) pe_int) pe_int (nomark _)) (pss_one (ps_ret (pe_op op_sub (pe_op op_pow pe_int pe_int) (pe_op op_mod (pv 1) pe_int)))) pss_nil)
      (pss_one (ps_ret (pe_op op_add pe_int (pe_op op_mod (pv 1) pe_int))))))), ?_⟩
    have w := show Wp ce E0 H0 (m_law_size a0_cell) _ from w
    unfold m_law_size at w
    refine q_asg (K := K) G w (e2 (em_var rfl r0) em_int (o_fdiv ⟨by decide, by decide⟩)) fun rest_23 F_24 H_25 v_27 g_26 r_28 w => ?_
    have G := G.tr g_26
    have r0 := Rep.mo (K := K) g_26.ff r0
    refine q_if2 G w (t_of (e2 (e2 (em_var rfl r0) em_int (o_mod (by decide))) em_int o_eqI)) (fun F_29 H_30 g_31 w => ?_) (fun F_29 H_30 g_31 w => ?_)
    · have G := G.tr g_31
      have r0 := Rep.mo (K := K) g_31.ff r0
      have r_28 := Rep.mo (K := K) g_31.ff r_28
      exact s_ret0 G w (e2 em_int (e2 (em_var rfl r_28) (e_is (e2 em_int em_int (o_pow (by decide))) pow_10_60) (o_mod (by decide))) o_add) fun r F1 H1 v g m p => hQ r F1 H1 v g m p
    · have G := G.tr g_31
      have r0 := Rep.mo (K := K) g_31.ff r0
      have r_28 := Rep.mo (K := K) g_31.ff r_28
      refine s_next ?_
      refine s_nx ?_
      refine q_if2 G w (t_of (e2 (e2 (em_var rfl r0) em_int (o_mod (by decide))) em_int o_eqI)) (fun F_32 H_33 g_34 w => ?_) (fun F_32 H_33 g_34 w => ?_)
      · have G := G.tr g_34
        have r0 := Rep.mo (K := K) g_34.ff r0
        have r_28 := Rep.mo (K := K) g_34.ff r_28
        exact s_ret0 G w (e2 (e_is (e2 em_int em_int (o_pow (by decide))) pow_10_60) (e2 (em_var rfl r_28) em_int (o_mod (by decide))) o_sub) fun r F1 H1 v g m p => hQ r F1 H1 v g m p
      · have G := G.tr g_34
        have r0 := Rep.mo (K := K) g_34.ff r0
        have r_28 := Rep.mo (K := K) g_34.ff r_28
        refine s_next ?_
        refine s_nx ?_
        exact s_ret0 G w (e2 em_int (e2 (em_var rfl r_28) em_int (o_mod (by decide))) o_add) fun r F1 H1 v g m p => hQ r F1 H1 v g m p
/-! ### _law_form -/
abbrev s_law_form : Stmt := topS 30
abbrev N_law_form : List Str := ["script", "many", "uptos", "k", "number", "form"]
theorem sc_law_form : FnScope N_law_form ["script"] (defScope s_law_form) := ⟨rfl, rfl, rfl, by decide +kernel, rfl, by decide +kernel, by decide +kernel⟩
abbrev sp_law_form (K : PySem.W.Frag) (ce : Ce) : Sp := SpF0 ce (RC K (α := Scr) R0) (rn K (α := ((Option Int) × Int))) (fun a : (Scr × Unit) => m_law_form a.1)
theorem ok_law_form {f : Addr} {fd : FuncData} (FF : Fun K "_law_form" "_law_form" s_law_form f fd) {a__law_cell_at : Addr} {d__law_cell_at : FuncData} (G__law_cell_at : FnOk P w K mg base CX0 1 a__law_cell_at d__law_cell_at ["script", "k"] (sp_law_cell_at K ce)) (mg__law_cell_at : mg "_law_cell_at" = some (.ref a__law_cell_at)) (k__law_cell_at : PySem.W.keepIn K (.ref a__law_cell_at) = true) (b__law_cell_at : Binds K d__law_cell_at ["script", "k"] []) {a__law_size : Addr} {d__law_size : FuncData} (G__law_size : FnOk P w K mg base CX0 1 a__law_size d__law_size ["cell"] (sp_law_size K ce)) (mg__law_size : mg "_law_size" = some (.ref a__law_size)) (k__law_size : PySem.W.keepIn K (.ref a__law_size) = true) (b__law_size : Binds K d__law_size ["cell"] []) (z_len : mg "len" = none) (z_range : mg "range" = none) (z_set : mg "set" = none) (z_sorted : mg "sorted" = none) : FnOk P w K mg base CX0 2 f fd ["script"] (sp_law_form K ce) := by
  refine FF.ok sc_law_form (fun vs H0 Q E h => ?_) (fun cdv A outer s H0 vs Q E hr h => ?_)
  · obtain ⟨F0, ⟨a0_script, _⟩, e0, ⟨v0, _, rfl, r0, rfl⟩, w⟩ := h
    rfl
  · obtain ⟨F0, ⟨a0_script, _⟩, e0, ⟨v0, _, rfl, r0, rfl⟩, w⟩ := h
    have w := wp_post w
    have G := Gr.rf e0
    have nd := sc_law_form.nd
    have hQ : ∀ r F1 H1 v, Gr F0 H0 F1 H1 → (rn K (α := ((Option Int) × Int))) F0 H0 F1 H1 v r → Fin (rn K (α := ((Option Int) × Int))) F0 H0 Q r → Q v H1 := fun r F1 H1 v g m p => p F1 H1 v g m
    refine ⟨_, (pss_cons (ps_set (i := 1) nd rfl (by first | exact Or.inl rfl | exact Or.inr rfl) (pe_op op_mod (pe_op op_fdivW (pe_call G__law_cell_at (hr.mono (by decide)) rfl mg__law_cell_at k__law_cell_at b__law_cell_at .nil pass0 (pa_cons (pv 0) (pa_cons pe_int pa_nil))) pe_int) pe_int))
      (pss_cons (ps_set (i := 2) nd rfl (by first | exact Or.inl rfl | exact Or.inr rfl) (pe_callB (r := rSortedSet _) (cr_sortedSet rfl) (by rfl) z_sorted (by decide +kernel) (pa_cons (pe_callTy (r := rSetI K _) (cr_setI rfl) (by rfl) z_set (by decide +kernel) (pa_cons (pe_lc (own := [("k", 3)]) (g := (gName 3)) (by rfl) nd (pi_range1 rfl z_range (pa_cons (pv 1) pa_nil)) (blkOk_by (own := [("k", 3)]) (N := N_law_form) (sc := defScope s_law_form) (by decide +kernel)) (fun _ _ _ _ _ => (pg_name (i := 3) nd rfl (by first | exact Or.inl rfl | exact Or.inr rfl))) (fun _ _ _ _ _ => pts_nil) (fun _ _ _ _ _ => (pe_call G__law_size (hr.mono (by decide)) rfl mg__law_size k__law_size b__law_size .nil pass0 (pa_cons (pe_op op_fdivW (pe_call G__law_cell_at (hr.mono (by decide)) rfl mg__law_cell_at k__law_cell_at b__law_cell_at .nil pass0 (pa_cons (pv 0) (pa_cons (pe_op op_add pe_int (pv 3)) pa_nil))) pe_int) pa_nil)))) pa_nil)) pa_nil)))
      (pss_cons (ps_set (i := 4) nd rfl (by first | exact Or.inl rfl | exact Or.inr rfl) (pe_op op_mod (pe_op op_fdivW (pe_call G__law_cell_at (hr.mono (by decide)) rfl mg__law_cell_at k__law_cell_at b__law_cell_at .nil pass0 (pa_cons (pv 0) (pa_cons pe_int pa_nil))) pe_int) pe_int))
      (pss_cons (ps_set (i := 5) nd rfl (by first | exact Or.inl rfl | exact Or.inr rfl) (pe_lst pa_nil))
      (pss_cons (ps_for (by first | exact PassesOwn.never | exact passes_of rfl) rfl (pi_range1 rfl z_range (pa_cons (pe_callB (r := rLenS K) call_len_seq (by rfl) z_len (by decide +kernel) (pa_cons (pv 2) pa_nil)) pa_nil)) (pg_name (i := 3) nd rfl (by first | exact Or.inl rfl | exact Or.inr rfl)) (pss_cons (ps_expr (pe_bm PySem.F.plainAttrs_list PySem.F.slot_list_append PySem.F.type_list_append mt_append (pv 5) (pa_cons (pe_tup (pa_cons (pe_ix (r := rIxL K) ix_list (pv 2) (pv 3) (fun _ _ => rfl)) (pa_cons (pv 4) pa_nil))) pa_nil)))
      (pss_one (ps_set (i := 4) nd rfl (by first | exact Or.inl rfl | exact Or.inr rfl) (pe_op op_mod (pe_op op_add (pe_op op_add (pv 4) pe_int) (pe_op op_mod (pe_call G__law_cell_at (hr.mono (by decide)) rfl mg__law_cell_at k__law_cell_at b__law_cell_at .nil pass0 (pa_cons (pv 0) (pa_cons (pe_op op_add pe_int (pv 3)) pa_nil))) pe_int)) pe_int)))))
      (pss_one (ps_ret (pe_op op_cat (pv 5) (pe_lst (pa_cons (pe_tup (pa_cons pe_non (pa_cons (pv 4) pa_nil))) pa_nil)))))))))), ?_⟩
    have w := show Wp ce E0 H0 (m_law_form a0_script) _ from w
    unfold m_law_form at w
    refine q_asg (K := K) G w (em_op (em_op (e_call0 (f := (fun a : (Scr × Int × Unit) => m_law_cell_at a.1 a.2.1)) (x := (a0_script, (0 : Int), ())) (e_cons (em_var rfl r0) (e_cons em_int ea_nil))) em_int fun _ _ => o_fdivM) em_int fun _ _ => o_modM) fun many_144 F_145 H_146 v_148 g_147 r_149 w => ?_
    have G := G.tr g_147
    have r0 := Rep.mo (K := K) g_147.ff r0
    refine q_asg (K := K) G w (Ev.nv (em_sortU (Ev.nv (em_lc (c := (fun x_151 : Int => (M.ok true))) (e := (fun x_151 : Int => ((((m_law_cell_at a0_script ((1 : Int) + x_151)).ne.bind fun x_154 => (M.ok (5 : Int)).bind fun y_155 => fdivM x_154 y_155).bind fun x_156 => (M.ok ()).bind fun y_157 => .ok (x_156, y_157)).bind fun a_158 => (m_law_size a_158.1).ne))) (ei_rng1 (em_var rfl r_149)) (tg_name (K := K)) (fun _ _ _ ⟨_, h, _⟩ => by rw [h]; exact wipe1) (fun x_151 _ _ _ g_150 ⟨v_152, h_159, r_153⟩ => by subst h_159; exact t_yes) (fun x_151 _ _ _ g_150 ⟨v_152, h_159, r_153⟩ => by subst h_159; exact (em_call0 (f := (fun a : (Int × Unit) => m_law_size a.1)) (ea_cons (em_op (e_call0 (f := (fun a : (Scr × Int × Unit) => m_law_cell_at a.1 a.2.1)) (x := (a0_script, ((1 : Int) + x_151), ())) (e_cons (em_var rfl (Rep.mo g_150.ff r0)) (e_cons (e2 em_int (em_var rfl r_153) o_add) ea_nil))) em_int fun _ _ => o_fdivM) ea_nil))))))) fun uptos_161 F_162 H_163 v_165 g_164 r_166 w => ?_
    have G := G.tr g_164
    have r0 := Rep.mo (K := K) g_164.ff r0
    have r_149 := Rep.mo (K := K) g_164.ff r_149
    refine q_asg (K := K) G w (em_op (em_op (e_call0 (f := (fun a : (Scr × Int × Unit) => m_law_cell_at a.1 a.2.1)) (x := (a0_script, (0 : Int), ())) (e_cons (em_var rfl r0) (e_cons em_int ea_nil))) em_int fun _ _ => o_fdivM) em_int fun _ _ => o_modM) fun number_171 F_172 H_173 v_175 g_174 r_176 w => ?_
    have G := G.tr g_174
    have r0 := Rep.mo (K := K) g_174.ff r0
    have r_149 := Rep.mo (K := K) g_174.ff r_149
    have r_166 := Rep.mo (K := K) g_174.ff r_166
    refine q_asgN (K := K) G w (e_lst (el_nil (α := ((Option Int) × Int))) (by decide)) fun form_177 F_178 H_179 p_181 g_180 n_182 o_183 w => ?_
    have n0p_181 := ex_back G.hh n_182
    have G := G.tr g_180
    have r0 := Rep.mo (K := K) g_180.ff r0
    have r_149 := Rep.mo (K := K) g_180.ff r_149
    have r_166 := Rep.mo (K := K) g_180.ff r_166
    have r_176 := Rep.mo (K := K) g_180.ff r_176
    refine q_for (S := ((List ((Option Int) × Int)) × Int)) (fun s F' H' σ' => ∃ (v_184 : V) (z_185 : Option V), σ' = [some v0, some v_148, some v_165, z_185, some v_184, some (.ref p_181)] ∧ Gr F0 H0 F' H' ∧ Ex F_178 F' ∧ Own K (T := (List ((Option Int) × Int))) F' H' p_181 s.1 ∧ rp (α := Int) K F' v_184 s.2) G (ei_rng1 (e_cb (e_cons (em_var rfl r_166) ea_nil) a_len)) (tg_name (K := K)) w (fun _ _ g_243 => ⟨_, _, rfl, G.tr g_243, g_243.ff, o_183.mo g_243, Rep.mo (K := K) g_243.ff r_176⟩) (fun _ _ _ _ ⟨_, _, _, G, _⟩ => G) ?_ ?_
    · rintro x_187 s_186 F_188 H_189 _ ⟨v_184, z_185, hs_190, G, e_191, o_192, r_193⟩ F_194 H_195 σ_196 g_197 ⟨v_205, h_207, r_206⟩ D_202 P_203 hrt_204 hN_198 hC_199 hB_200 hP_201 w
      subst hs_190
      subst h_207
      have r0 := Rep.mo (K := K) e_191 r0
      have r_149 := Rep.mo (K := K) e_191 r_149
      have r_166 := Rep.mo (K := K) e_191 r_166
      have G := G.tr g_197
      have r0 := Rep.mo (K := K) g_197.ff r0
      have r_149 := Rep.mo (K := K) g_197.ff r_149
      have r_166 := Rep.mo (K := K) g_197.ff r_166
      have r_193 := Rep.mo (K := K) g_197.ff r_193
      have o_192 := o_192.mo g_197
      have e_191 := Ex.tr e_191 g_197.ff
      have e_208 := Ex.rf F_194
      have hQ : ∀ r F1 H1 v, Gr F0 H0 F1 H1 → (rn K (α := ((Option Int) × Int))) F0 H0 F1 H1 v r → P_203 (.rt r) → D_202.rt v H1 := fun r F1 H1 v g m p => by rw [hrt_204]; exact hQ r F1 H1 v g m (hP_201 _ p)
      unfold m_law_form_b1 at w
      refine q_app rfl o_192 n0p_181 G w (em_tup2 (em_some (em_op (em_var rfl r_166) (em_var rfl r_206) fun _ _ => o_ixL)) (em_var rfl r_193)) fun form_214 F_215 H_216 e_217 G o_218 hO_219 w => ?_
      have r0 := Rep.mo (K := K) e_217 r0
      have r_149 := Rep.mo (K := K) e_217 r_149
      have r_166 := Rep.mo (K := K) e_217 r_166
      have r_193 := Rep.mo (K := K) e_217 r_193
      have r_206 := Rep.mo (K := K) e_217 r_206
      have e_191 := Ex.tr e_191 e_217
      have e_208 := Ex.tr e_208 e_217
      refine s_asg (K := K) G w (em_op (em_op (e2 (em_var rfl r_193) em_int o_add) (em_op (e_call0 (f := (fun a : (Scr × Int × Unit) => m_law_cell_at a.1 a.2.1)) (x := (a0_script, ((1 : Int) + x_187), ())) (e_cons (em_var rfl r0) (e_cons (e2 em_int (em_var rfl r_206) o_add) ea_nil))) em_int fun _ _ => o_modM) fun _ _ => o_add) em_int fun _ _ => o_modM) fun number_227 F_228 H_229 v_231 g_230 r_232 w => ?_
      have G := G.tr g_230
      have r0 := Rep.mo (K := K) g_230.ff r0
      have r_149 := Rep.mo (K := K) g_230.ff r_149
      have r_166 := Rep.mo (K := K) g_230.ff r_166
      have o_218 := o_218.mo g_230
      have r_206 := Rep.mo (K := K) g_230.ff r_206
      have e_191 := Ex.tr e_191 g_230.ff
      have e_208 := Ex.tr e_208 g_230.ff
      exact hN_198 _ w _ _ _ e_208 ⟨_, _, rfl, G, e_191, o_218, r_232⟩
    · rintro s_237 F_238 H_239 _ e_240 ⟨v_184, z_185, hs_233, G, e_234, o_235, r_236⟩ w
      subst hs_233
      have r0 := Rep.mo (K := K) e_234 r0
      have r_149 := Rep.mo (K := K) e_234 r_149
      have r_166 := Rep.mo (K := K) e_234 r_166
      have GA := gr_fz (A := [p_181]) G (own1 n0p_181)
      exact s_retN0 GA w (em_op (em_var rfl (o_235.lent G.fh (by simp))) (Ev.nv (e_lst (e_lcons (e_tup2 (em_none (α := Int)) (em_var rfl (Rep.mo (fz_ex G.fh) r_236))) (el_nil (α := ((Option Int) × Int)))) (by simp))) fun _ _ => o_cat) fun r F1 H1 v g m p => hQ r F1 H1 v g m p
/-! ### good_row -/
abbrev s_good_row : Stmt := topS 12
abbrev N_good_row : List Str := ["row", "many"]
theorem sc_good_row : FnScope N_good_row ["row", "many"] (defScope s_good_row) := ⟨rfl, rfl, rfl, by decide +kernel, rfl, by decide +kernel, by decide +kernel⟩
abbrev sp_good_row (K : PySem.W.Frag) (ce : Ce) : Sp := SpF0 ce (RC K (α := Row) (RC K (α := Int) R0)) (rv K (ρ := Bool)) (fun a : (Row × Int × Unit) => m_good_row a.1 a.2.1)
theorem ok_good_row {f : Addr} {fd : FuncData} (FF : Fun K "good_row" "good_row" s_good_row f fd) {t_MOST_BIN : Tok} (c_MOST_BIN : mg "MOST_BIN" = some (.int 5 t_MOST_BIN)) {t_WIDEST : Tok} (c_WIDEST : mg "WIDEST" = some (.int 1000000000000000000000000000000000000000000000000000000000000 t_WIDEST)) (z_len : mg "len" = none) : FnOk P w K mg base CX0 1 f fd ["row", "many"] (sp_good_row K ce) := by
  refine FF.ok sc_good_row (fun vs H0 Q E h => ?_) (fun cdv A outer s H0 vs Q E hr h => ?_)
  · obtain ⟨F0, ⟨a0_row, a1_many, _⟩, e0, ⟨v0, _, rfl, r0, ⟨v1, _, rfl, r1, rfl⟩⟩, w⟩ := h
    rfl
  · obtain ⟨F0, ⟨a0_row, a1_many, _⟩, e0, ⟨v0, _, rfl, r0, ⟨v1, _, rfl, r1, rfl⟩⟩, w⟩ := h
    have w := wp_post w
    have G := Gr.rf e0
    have nd := sc_good_row.nd
    have hQ : ∀ r F1 H1 v, Gr F0 H0 F1 H1 → (rv K (ρ := Bool)) F0 H0 F1 H1 v r → Fin (rv K (ρ := Bool)) F0 H0 Q r → Q v H1 := fun r F1 H1 v g m p => p F1 H1 v g m
    refine ⟨_, (pss_cons (ps_if (PW.pt (pw_and (pt_cmpR op_eq (pe_callB (r := rLenS K) call_len_seq (by rfl) z_len (by decide +kernel) (pa_cons (pv 0) pa_nil)) pe_int (nomark _)) (pw_and1 (pt_cmpR (r := rEqD K) (op_eqD hr.units) (pe_ix (r := rIxT K) ix_tup (pv 0) pe_int (fun _ _ => rfl)) pe_str (nomark _))))) (pss_one (ps_ret (pe_and (pe_chain op_le op_le pe_int (pe_ix (r := rIxT K) ix_tup (pv 0) pe_int (fun _ _ => rfl)) (pe_glob (v := .int 1000000000000000000000000000000000000000000000000000000000000) rfl c_WIDEST ⟨_, rfl⟩)) (pe_and (pe_chain op_le op_lt pe_int (pe_ix (r := rIxT K) ix_tup (pv 0) pe_int (fun _ _ => rfl)) (pv 1)) (pe_one (pe_chain op_le op_lt pe_int (pe_ix (r := rIxT K) ix_tup (pv 0) pe_int (fun _ _ => rfl)) (pv 1))))))) pss_nil)
      (pss_cons (ps_if (PW.pt (pw_and (pt_cmpR op_eq (pe_callB (r := rLenS K) call_len_seq (by rfl) z_len (by decide +kernel) (pa_cons (pv 0) pa_nil)) pe_int (nomark _)) (pw_and1 (pt_cmpR (r := rEqD K) (op_eqD hr.units) (pe_ix (r := rIxT K) ix_tup (pv 0) pe_int (fun _ _ => rfl)) pe_str (nomark _))))) (pss_one (ps_ret (pe_chain op_le op_lt pe_int (pe_ix (r := rIxT K) ix_tup (pv 0) pe_int (fun _ _ => rfl)) (pv 1)))) pss_nil)
      (pss_one (ps_ret (pe_and (pe_cmpR op_eq (pe_callB (r := rLenS K) call_len_seq (by rfl) z_len (by decide +kernel) (pa_cons (pv 0) pa_nil)) pe_int (nomark _)) (pe_and (pe_cmpR (r := rEqD K) (op_eqD hr.units) (pe_ix (r := rIxT K) ix_tup (pv 0) pe_int (fun _ _ => rfl)) pe_str (nomark _)) (pe_one (pe_chain op_le op_le pe_int (pe_ix (r := rIxT K) ix_tup (pv 0) pe_int (fun _ _ => rfl)) (pe_glob (v := .int 5) rfl c_MOST_BIN ⟨_, rfl⟩))))))))), ?_⟩
    have w := show Wp ce E0 H0 (m_good_row a0_row a1_many) _ from w
    unfold m_good_row at w
    refine q_if2 G w (tm_and (t_of (e2 (e_cb (e_cons (em_var rfl r0) ea_nil) a_lenR) em_int o_eqI)) (t_of (em_op (em_op (em_var rfl r0) em_int fun _ _ => o_rowix) (e_clw (em_wd (by decide +kernel))) fun _ _ => (o_eqD (by decide))))) (fun F_292 H_293 g_294 w => ?_) (fun F_292 H_293 g_294 w => ?_)
    · have G := G.tr g_294
      have r0 := Rep.mo (K := K) g_294.ff r0
      have r1 := Rep.mo (K := K) g_294.ff r1
      exact s_ret0 G w (em_andV (em_chain (p := fun a b => decide (a ≤ b)) (p' := fun a b => decide (a ≤ b)) em_int (em_clI (em_op (em_var rfl r0) em_int fun _ _ => o_rowix)) em_int (fun _ _ => o_le) (fun _ _ => o_le)) (em_andV (em_chain (p := fun a b => decide (a ≤ b)) (p' := fun a b => decide (a < b)) em_int (em_clI (em_op (em_var rfl r0) em_int fun _ _ => o_rowix)) (em_var rfl r1) (fun _ _ => o_le) (fun _ _ => o_lt)) (em_chain (p := fun a b => decide (a ≤ b)) (p' := fun a b => decide (a < b)) em_int (em_clI (em_op (em_var rfl r0) em_int fun _ _ => o_rowix)) (em_var rfl r1) (fun _ _ => o_le) (fun _ _ => o_lt)))) fun r F1 H1 v g m p => hQ r F1 H1 v g m p
    · have G := G.tr g_294
      have r0 := Rep.mo (K := K) g_294.ff r0
      have r1 := Rep.mo (K := K) g_294.ff r1
      refine s_next ?_
      refine s_nx ?_
      refine q_if2 G w (tm_and (t_of (e2 (e_cb (e_cons (em_var rfl r0) ea_nil) a_lenR) em_int o_eqI)) (t_of (em_op (em_op (em_var rfl r0) em_int fun _ _ => o_rowix) (e_clw (em_wd (by decide +kernel))) fun _ _ => (o_eqD (by decide))))) (fun F_314 H_315 g_316 w => ?_) (fun F_314 H_315 g_316 w => ?_)
      · have G := G.tr g_316
        have r0 := Rep.mo (K := K) g_316.ff r0
        have r1 := Rep.mo (K := K) g_316.ff r1
        exact s_ret0 G w (em_chain (p := fun a b => decide (a ≤ b)) (p' := fun a b => decide (a < b)) em_int (em_clI (em_op (em_var rfl r0) em_int fun _ _ => o_rowix)) (em_var rfl r1) (fun _ _ => o_le) (fun _ _ => o_lt)) fun r F1 H1 v g m p => hQ r F1 H1 v g m p
      · have G := G.tr g_316
        have r0 := Rep.mo (K := K) g_316.ff r0
        have r1 := Rep.mo (K := K) g_316.ff r1
        refine s_next ?_
        refine s_nx ?_
        exact s_ret0 G w (em_andV (e2 (e_cb (e_cons (em_var rfl r0) ea_nil) a_lenR) em_int o_eqI) (em_andV (em_op (em_op (em_var rfl r0) em_int fun _ _ => o_rowix) (e_clw (em_wd (by decide +kernel))) fun _ _ => (o_eqD (by decide))) (em_chain (p := fun a b => decide (a ≤ b)) (p' := fun a b => decide (a ≤ b)) em_int (em_clI (em_op (em_var rfl r0) em_int fun _ _ => o_rowix)) em_int (fun _ _ => o_le) (fun _ _ => o_le)))) fun r F1 H1 v g m p => hQ r F1 H1 v g m p
/-! ### Works -/
abbrev s_Works : Stmt := inClass (topS 13) 0
abbrev N_Works : List Str := ["self", "parts", "rows", "row"]
theorem sc_Works : FnScope N_Works ["self", "parts", "rows"] (defScope s_Works) := ⟨rfl, rfl, rfl, by decide +kernel, rfl, by decide +kernel, by decide +kernel⟩
abbrev sp_Works (K : PySem.W.Frag) (ce : Ce) : Sp := SpI ce K (ce "Works") (RC K (α := Int) (RC K (α := (List Row)) R0)) (fun a : (Int × (List Row) × Unit) => m_Works a.1 a.2.1)
theorem ok_Works {f : Addr} {fd : FuncData} (FF : Fun K "__init__" "Works.__init__" s_Works f fd) (cls_Works : Cls K (ce "Works")) {t_MOST_PARTS : Tok} (c_MOST_PARTS : mg "MOST_PARTS" = some (.int 9 t_MOST_PARTS)) {t_MOST_ROWS : Tok} (c_MOST_ROWS : mg "MOST_ROWS" = some (.int 12 t_MOST_ROWS)) (x_BadWorks : ErrC K mg (ce "BadWorks") "BadWorks") {a_good_row : Addr} {d_good_row : FuncData} (G_good_row : FnOk P w K mg base CX0 1 a_good_row d_good_row ["row", "many"] (sp_good_row K ce)) (mg_good_row : mg "good_row" = some (.ref a_good_row)) (k_good_row : PySem.W.keepIn K (.ref a_good_row) = true) (b_good_row : Binds K d_good_row ["row", "many"] []) (na_Works_parts : NoAttr K (ce "Works") "parts") (na_Works_rows : NoAttr K (ce "Works") "rows") (z_len : mg "len" = none) (z_list : mg "list" = none) : FnOk P w K mg base (L2.CX P w) 2 f fd ["self", "parts", "rows"] (sp_Works K ce) := by
  refine FF.okX sc_Works (fun vs H0 Q E h => ?_) (fun cdv A outer s Hs vs Q E hr h => ?_)
  · obtain ⟨F0, H0, p0, dx0, ⟨a1_parts, a2_rows, _⟩, _, rfl, e0, np0, nd0, ne0, rfl, ⟨v1, _, rfl, r1, ⟨v2, _, rfl, r2, rfl⟩⟩, w⟩ := h
    rfl
  · obtain ⟨F0, H0, p0, dx0, ⟨a1_parts, a2_rows, _⟩, _, rfl, e0, np0, nd0, ne0, rfl, ⟨v1, _, rfl, r1, ⟨v2, _, rfl, r2, rfl⟩⟩, w⟩ := h
    have w := wp_post w
    obtain ⟨G, o_0⟩ := raw_start (K := K) (C := ce "Works") e0 np0 nd0 ne0
    have nd := sc_Works.nd
    have hQ : ∀ r F1 H1 v, Gr F0 H0 F1 H1 → (rv K (ρ := Wk)) F0 H0 F1 H1 v r → Fin (rv K (ρ := Wk)) F0 H0 (fun v H' => v = .ref p0 → Q .non H') r → (v = .ref p0 → Q .non H1) := fun r F1 H1 v g m p => p F1 H1 v g m
    refine ⟨_, (pss_cons (ps_if (PW.pt (pw_or (pt_cmpR op_lt (pv 1) pe_int (nomark _)) (pw_or (pt_cmpR op_gt (pv 1) (pe_glob (v := .int 9) rfl c_MOST_PARTS ⟨_, rfl⟩) (nomark _)) (pw_or (pt_cmpR op_lt (pe_callB (r := rLenS K) call_len_seq (by rfl) z_len (by decide +kernel) (pa_cons (pv 2) pa_nil)) pe_int (nomark _)) (pw_or1 (pt_cmpR op_gt (pe_callB (r := rLenS K) call_len_seq (by rfl) z_len (by decide +kernel) (pa_cons (pv 2) pa_nil)) (pe_glob (v := .int 12) rfl c_MOST_ROWS ⟨_, rfl⟩) (nomark _))))))) (pss_one (ps_raise rfl (takes_of rfl rfl rfl rfl) (pmk_own PySem.F.excBase_ValueError x_BadWorks.x x_BadWorks.g x_BadWorks.k (raises_own x_BadWorks.b x_BadWorks.t) rfl))) pss_nil)
      (pss_cons (ps_for (by first | exact PassesOwn.never | exact passes_of rfl) rfl (pi_list (pv 2)) (pg_name (i := 3) nd rfl (by first | exact Or.inl rfl | exact Or.inr rfl)) (pss_one (ps_if (pt_not (pt_val (pe_call G_good_row (hr.mono (by decide)) rfl mg_good_row k_good_row b_good_row .nil pass0 (pa_cons (pv 3) (pa_cons (pe_callB (r := rLenS K) call_len_seq (by rfl) z_len (by decide +kernel) (pa_cons (pv 2) pa_nil)) pa_nil))))) (pss_one (ps_raise rfl (takes_of rfl rfl rfl rfl) (pmk_own PySem.F.excBase_ValueError x_BadWorks.x x_BadWorks.g x_BadWorks.k (raises_own x_BadWorks.b x_BadWorks.t) rfl))) pss_nil)))
      (pss_cons (ps_fld (pv 0) (pv 1) rfl)
      (pss_one (ps_fld (pv 0) (pe_callTy (r := rListS K) call_list_of (by rfl) z_list (by decide +kernel) (pa_cons (pv 2) pa_nil)) rfl))))), ?_⟩
    have w := show Wp ce E H0 (m_Works a1_parts a2_rows) _ from w
    unfold m_Works at w
    refine q_if2 G w (t_or (t_of (e2 (em_var rfl r1) em_int o_lt)) (t_or (t_of (e2 (em_var rfl r1) em_int o_gt)) (t_or (t_of (e2 (e_cb (e_cons (em_var rfl r2) ea_nil) a_len) em_int o_lt)) (t_of (e2 (e_cb (e_cons (em_var rfl r2) ea_nil) a_len) em_int o_gt))))) (fun F_331 H_332 g_333 w => ?_) (fun F_331 H_332 g_333 w => ?_)
    · have G := G.tr g_333
      have o_0 := o_0.mo g_333
      have r1 := Rep.mo (K := K) g_333.ff r1
      have r2 := Rep.mo (K := K) g_333.ff r2
      exact w _ G.hh
    · have G := G.tr g_333
      have o_0 := o_0.mo g_333
      have r1 := Rep.mo (K := K) g_333.ff r1
      have r2 := Rep.mo (K := K) g_333.ff r2
      refine s_next ?_
      refine s_nx ?_
      refine q_for (S := Unit) (fun s F' H' σ' => ∃ (z_334 : Option V), σ' = [some (.ref p0), some v1, some v2, z_334] ∧ Gr F0 H0 F' H' ∧ Ex F_331 F' ∧ Own K (T := RawO) F' H' p0 (RawO.mk (ce "Works") dx0 [])) G (ei_list (em_var rfl r2)) (tg_name (K := K)) w (fun _ _ g_382 => ⟨_, rfl, G.tr g_382, g_382.ff, o_0.mo g_382⟩) (fun _ _ _ _ ⟨_, _, G, _⟩ => G) ?_ ?_
      · rintro x_336 s_335 F_337 H_338 _ ⟨z_334, hs_339, G, e_340, o_341⟩ F_342 H_343 σ_344 g_345 ⟨v_353, h_355, r_354⟩ D_350 P_351 hrt_352 hN_346 hC_347 hB_348 hP_349 w
        subst hs_339
        subst h_355
        have r1 := Rep.mo (K := K) e_340 r1
        have r2 := Rep.mo (K := K) e_340 r2
        have G := G.tr g_345
        have o_341 := o_341.mo g_345
        have r1 := Rep.mo (K := K) g_345.ff r1
        have r2 := Rep.mo (K := K) g_345.ff r2
        have e_340 := Ex.tr e_340 g_345.ff
        have e_356 := Ex.rf F_342
        unfold m_Works_b1 at w
        refine s_if2 G w (tm_not (t_B (e_call0 (f := (fun a : (Row × Int × Unit) => m_good_row a.1 a.2.1)) (x := (x_336, (List.length a2_rows : Int), ())) (e_cons (em_var rfl r_354) (e_cons (e_cb (e_cons (em_var rfl r2) ea_nil) a_len) ea_nil))))) (fun F_357 H_358 g_359 w => ?_) (fun F_357 H_358 g_359 w => ?_)
        · have G := G.tr g_359
          have o_341 := o_341.mo g_359
          have r1 := Rep.mo (K := K) g_359.ff r1
          have r2 := Rep.mo (K := K) g_359.ff r2
          have r_354 := Rep.mo (K := K) g_359.ff r_354
          have e_340 := Ex.tr e_340 g_359.ff
          have e_356 := Ex.tr e_356 g_359.ff
          exact w _ G.hh
        · have G := G.tr g_359
          have o_341 := o_341.mo g_359
          have r1 := Rep.mo (K := K) g_359.ff r1
          have r2 := Rep.mo (K := K) g_359.ff r2
          have r_354 := Rep.mo (K := K) g_359.ff r_354
          have e_340 := Ex.tr e_340 g_359.ff
          have e_356 := Ex.tr e_356 g_359.ff
          refine s_next ?_
          exact hN_346 _ w _ _ _ e_356 ⟨_, rfl, G, e_340, o_341⟩
      · rintro s_363 F_364 H_365 _ e_366 ⟨z_334, hs_360, G, e_361, o_362⟩ w
        subst hs_360
        have r1 := Rep.mo (K := K) e_361 r1
        have r2 := Rep.mo (K := K) e_361 r2
        refine q_setf (K := K) rfl cls_Works na_Works_parts (by show 0 < 1000; decide) o_362 np0 G w (em_var rfl r1) fun parts_367 F_368 H_369 v_370 e_371 G r_372 o_373 w => ?_
        have r1 := Rep.mo (K := K) e_371 r1
        have r2 := Rep.mo (K := K) e_371 r2
        refine s_setf (K := K) rfl cls_Works na_Works_rows (by show 1 < 1000; decide) o_373 np0 G w (Ev.nv (e_cb (e_cons (em_var rfl r2) ea_nil) a_list)) fun rows_374 F_375 H_376 v_377 e_378 G r_379 o_380 w => ?_
        have r1 := Rep.mo (K := K) e_378 r1
        have r2 := Rep.mo (K := K) e_378 r2
        have r_372 := Rep.mo (K := K) e_378 r_372
        obtain ⟨F_381, G, r⟩ := wk_done G np0 o_380 cls_Works na_Works_parts na_Works_rows r_372 r_379
        exact hQ _ _ _ _ G r w rfl
/-! ### good_form -/
abbrev s_good_form : Stmt := topS 25
abbrev N_good_form : List Str := ["form", "before", "upto", "number", "k"]
theorem sc_good_form : FnScope N_good_form ["form"] (defScope s_good_form) := ⟨rfl, rfl, rfl, by decide +kernel, rfl, by decide +kernel, by decide +kernel⟩
abbrev sp_good_form (K : PySem.W.Frag) (ce : Ce) : Sp := SpF0 ce (RC K (α := (List ((Option Int) × Int))) R0) (rv K (ρ := Bool)) (fun a : ((List ((Option Int) × Int)) × Unit) => m_good_form a.1)
theorem ok_good_form {f : Addr} {fd : FuncData} (FF : Fun K "good_form" "good_form" s_good_form f fd) {t_MOST_BIN : Tok} (c_MOST_BIN : mg "MOST_BIN" = some (.int 5 t_MOST_BIN)) {t_MOST_PAIRS : Tok} (c_MOST_PAIRS : mg "MOST_PAIRS" = some (.int 6 t_MOST_PAIRS)) {t_WIDEST : Tok} (c_WIDEST : mg "WIDEST" = some (.int 1000000000000000000000000000000000000000000000000000000000000 t_WIDEST)) (z_len : mg "len" = none) (z_range : mg "range" = none) : FnOk P w K mg base CX0 1 f fd ["form"] (sp_good_form K ce) := by
  refine FF.ok sc_good_form (fun vs H0 Q E h => ?_) (fun cdv A outer s H0 vs Q E hr h => ?_)
  · obtain ⟨F0, ⟨a0_form, _⟩, e0, ⟨v0, _, rfl, r0, rfl⟩, w⟩ := h
    rfl
  · obtain ⟨F0, ⟨a0_form, _⟩, e0, ⟨v0, _, rfl, r0, rfl⟩, w⟩ := h
    have w := wp_post w
    have G := Gr.rf e0
    have nd := sc_good_form.nd
    have hQ : ∀ r F1 H1 v, Gr F0 H0 F1 H1 → (rv K (ρ := Bool)) F0 H0 F1 H1 v r → Fin (rv K (ρ := Bool)) F0 H0 Q r → Q v H1 := fun r F1 H1 v g m p => p F1 H1 v g m
    refine ⟨_, (pss_cons (ps_if (PW.pt (pw_or (pt_cmpR op_lt (pe_callB (r := rLenS K) call_len_seq (by rfl) z_len (by decide +kernel) (pa_cons (pv 0) pa_nil)) pe_int (nomark _)) (pw_or (pt_cmpR op_gt (pe_callB (r := rLenS K) call_len_seq (by rfl) z_len (by decide +kernel) (pa_cons (pv 0) pa_nil)) (pe_glob (v := .int 6) rfl c_MOST_PAIRS ⟨_, rfl⟩) (nomark _)) (pw_or1 (pt_cmpR op_notN (pe_ix (r := rIxT K) ix_tup (pe_ix (r := rIxL K) ix_list (pv 0) (pe_un un_neg pe_int) (fun _ _ => rfl)) pe_int (fun _ _ => rfl)) pe_non (nomark _)))))) (pss_one (ps_ret pe_bl)) pss_nil)
      (pss_cons (ps_set (i := 1) nd rfl (by first | exact Or.inl rfl | exact Or.inr rfl) pe_int)
      (pss_cons (ps_for (by first | exact PassesOwn.never | exact passes_of rfl) rfl (pi_list (pe_slice (r := rSlL K) sl_list (pv 0) po_none (po_some (pe_un un_neg pe_int)))) (pg_tup rfl (pgs_cons (pg_name (i := 2) nd rfl (by first | exact Or.inl rfl | exact Or.inr rfl)) (pgs_cons (pg_name (i := 3) nd rfl (by first | exact Or.inl rfl | exact Or.inr rfl)) pgs_nil))) (pss_cons (ps_if (PW.pt (pw_or (pt_cmpR op_isN (pv 2) pe_non (nomark _)) (pw_or (pt_cmpR op_le (pv 2) (pv 1) (nomark _)) (pw_or1 (pt_cmpR op_gt (pv 2) (pe_glob (v := .int 1000000000000000000000000000000000000000000000000000000000000) rfl c_WIDEST ⟨_, rfl⟩) (nomark _)))))) (pss_one (ps_ret pe_bl)) pss_nil)
      (pss_one (ps_set (i := 1) nd rfl (by first | exact Or.inl rfl | exact Or.inr rfl) (pv 2)))))
      (pss_cons (ps_for (by first | exact PassesOwn.never | exact passes_of rfl) rfl (pi_range1 rfl z_range (pa_cons (pe_callB (r := rLenS K) call_len_seq (by rfl) z_len (by decide +kernel) (pa_cons (pv 0) pa_nil)) pa_nil)) (pg_name (i := 4) nd rfl (by first | exact Or.inl rfl | exact Or.inr rfl)) (pss_one (ps_if (PW.pt (pw_or (pt_cmpR op_lt (pe_ix (r := rIxT K) ix_tup (pe_ix (r := rIxL K) ix_list (pv 0) (pv 4) (fun _ _ => rfl)) pe_int (fun _ _ => rfl)) pe_int (nomark _)) (pw_or (pt_cmpR op_gt (pe_ix (r := rIxT K) ix_tup (pe_ix (r := rIxL K) ix_list (pv 0) (pv 4) (fun _ _ => rfl)) pe_int (fun _ _ => rfl)) (pe_glob (v := .int 5) rfl c_MOST_BIN ⟨_, rfl⟩) (nomark _)) (pw_or1 (PW.pt (pw_and (pt_cmpR op_gt (pv 4) pe_int (nomark _)) (pw_and1 (pt_cmpR op_eq (pe_ix (r := rIxT K) ix_tup (pe_ix (r := rIxL K) ix_list (pv 0) (pv 4) (fun _ _ => rfl)) pe_int (fun _ _ => rfl)) (pe_ix (r := rIxT K) ix_tup (pe_ix (r := rIxL K) ix_list (pv 0) (pe_op op_sub (pv 4) pe_int) (fun _ _ => rfl)) pe_int (fun _ _ => rfl)) (nomark _))))))))) (pss_one (ps_ret pe_bl)) pss_nil)))
      (pss_one (ps_ret pe_bl)))))), ?_⟩
    have w := show Wp ce E0 H0 (m_good_form a0_form) _ from w
    unfold m_good_form at w
    refine q_if2 G w (tm_or (t_of (e2 (e_cb (e_cons (em_var rfl r0) ea_nil) a_len) em_int o_lt)) (tm_or (t_of (e2 (e_cb (e_cons (em_var rfl r0) ea_nil) a_len) em_int o_gt)) (t_of (em_op (em_ix (em_op (em_var rfl r0) (e_neg em_int) fun _ _ => o_ixL) em_int fun _ => o_fst rfl) em_unit fun _ _ => o_notN)))) (fun F_505 H_506 g_507 w => ?_) (fun F_505 H_506 g_507 w => ?_)
    · have G := G.tr g_507
      have r0 := Rep.mo (K := K) g_507.ff r0
      exact s_ret0 G w em_bl fun r F1 H1 v g m p => hQ r F1 H1 v g m p
    · have G := G.tr g_507
      have r0 := Rep.mo (K := K) g_507.ff r0
      refine s_next ?_
      refine s_nx ?_
      refine q_asg (K := K) G w (e_some em_int) fun before_508 F_509 H_510 v_512 g_511 r_513 w => ?_
      have G := G.tr g_511
      have r0 := Rep.mo (K := K) g_511.ff r0
      refine q_for (S := (Option Int)) (fun s F' H' σ' => ∃ (v_514 : V) (z_515 : Option V) (z_516 : Option V), σ' = [some v0, some v_514, z_515, z_516, none] ∧ Gr F0 H0 F' H' ∧ Ex F_509 F' ∧ rp (α := (Option Int)) K F' v_514 s) G (ei_list (Ev.nv (e_sl (em_var rfl r0) eo_none (eo_some' (K := K) (e_neg em_int))))) (tg_tup2 (K := K)) w (fun _ _ g_614 => ⟨_, _, _, rfl, G.tr g_614, g_614.ff, Rep.mo (K := K) g_614.ff r_513⟩) (fun _ _ _ _ ⟨_, _, _, _, G, _⟩ => G) ?_ ?_
      · rintro x_518 s_517 F_519 H_520 _ ⟨v_514, z_515, z_516, hs_521, G, e_522, r_523⟩ F_524 H_525 σ_526 g_527 ⟨v_535, v_537, h_539, r_536, r_538⟩ D_532 P_533 hrt_534 hN_528 hC_529 hB_530 hP_531 w
        subst hs_521
        subst h_539
        have r0 := Rep.mo (K := K) e_522 r0
        have G := G.tr g_527
        have r0 := Rep.mo (K := K) g_527.ff r0
        have r_523 := Rep.mo (K := K) g_527.ff r_523
        have e_522 := Ex.tr e_522 g_527.ff
        have e_540 := Ex.rf F_524
        have hQ : ∀ r F1 H1 v, Gr F0 H0 F1 H1 → (rv K (ρ := Bool)) F0 H0 F1 H1 v r → P_533 (.rt r) → D_532.rt v H1 := fun r F1 H1 v g m p => by rw [hrt_534]; exact hQ r F1 H1 v g m (hP_531 _ p)
        unfold m_good_form_b1 at w
        refine q_if2 G w (tm_or (t_of (e2 (em_var rfl r_536) em_unit o_isN)) (tm_or (t_of (em_op (em_get (em_var rfl r_536)) (em_get (em_var rfl r_523)) fun _ _ => o_le)) (t_of (em_op (em_get (em_var rfl r_536)) em_int fun _ _ => o_gt)))) (fun F_545 H_546 g_547 w => ?_) (fun F_545 H_546 g_547 w => ?_)
        · have G := G.tr g_547
          have r0 := Rep.mo (K := K) g_547.ff r0
          have r_523 := Rep.mo (K := K) g_547.ff r_523
          have r_536 := Rep.mo (K := K) g_547.ff r_536
          have r_538 := Rep.mo (K := K) g_547.ff r_538
          have e_522 := Ex.tr e_522 g_547.ff
          have e_540 := Ex.tr e_540 g_547.ff
          exact s_ret G w em_bl fun r F1 H1 v g m p => hQ r F1 H1 v g m p
        · have G := G.tr g_547
          have r0 := Rep.mo (K := K) g_547.ff r0
          have r_523 := Rep.mo (K := K) g_547.ff r_523
          have r_536 := Rep.mo (K := K) g_547.ff r_536
          have r_538 := Rep.mo (K := K) g_547.ff r_538
          have e_522 := Ex.tr e_522 g_547.ff
          have e_540 := Ex.tr e_540 g_547.ff
          refine s_next ?_
          refine s_nx ?_
          refine s_asg (K := K) G w (em_var rfl r_536) fun before_549 F_550 H_551 v_553 g_552 r_554 w => ?_
          have G := G.tr g_552
          have r0 := Rep.mo (K := K) g_552.ff r0
          have r_536 := Rep.mo (K := K) g_552.ff r_536
          have r_538 := Rep.mo (K := K) g_552.ff r_538
          have e_522 := Ex.tr e_522 g_552.ff
          have e_540 := Ex.tr e_540 g_552.ff
          exact hN_528 _ w _ _ _ e_540 ⟨_, _, _, rfl, G, e_522, r_554⟩
      · rintro s_558 F_559 H_560 _ e_561 ⟨v_514, z_515, z_516, hs_555, G, e_556, r_557⟩ w
        subst hs_555
        have r0 := Rep.mo (K := K) e_556 r0
        refine q_for (S := Unit) (fun s F' H' σ' => ∃ (z_562 : Option V), σ' = [some v0, some v_514, z_515, z_516, z_562] ∧ Gr F0 H0 F' H' ∧ Ex F_559 F') G (ei_rng1 (e_cb (e_cons (em_var rfl r0) ea_nil) a_len)) (tg_name (K := K)) w (fun _ _ g_612 => ⟨_, rfl, G.tr g_612, g_612.ff⟩) (fun _ _ _ _ ⟨_, _, G, _⟩ => G) ?_ ?_
        · rintro x_564 s_563 F_565 H_566 _ ⟨z_562, hs_567, G, e_568⟩ F_569 H_570 σ_571 g_572 ⟨v_580, h_582, r_581⟩ D_577 P_578 hrt_579 hN_573 hC_574 hB_575 hP_576 w
          subst hs_567
          subst h_582
          have r0 := Rep.mo (K := K) e_568 r0
          have r_557 := Rep.mo (K := K) e_568 r_557
          have G := G.tr g_572
          have r0 := Rep.mo (K := K) g_572.ff r0
          have r_557 := Rep.mo (K := K) g_572.ff r_557
          have e_568 := Ex.tr e_568 g_572.ff
          have e_583 := Ex.rf F_569
          have hQ : ∀ r F1 H1 v, Gr F0 H0 F1 H1 → (rv K (ρ := Bool)) F0 H0 F1 H1 v r → P_578 (.rt r) → D_577.rt v H1 := fun r F1 H1 v g m p => by rw [hrt_579]; exact hQ r F1 H1 v g m (hP_576 _ p)
          unfold m_good_form_b2 at w
          refine s_if2 G w (tm_or (t_of (em_op (em_ix (em_op (em_var rfl r0) (em_var rfl r_581) fun _ _ => o_ixL) em_int fun _ => o_snd rfl) em_int fun _ _ => o_lt)) (tm_or (t_of (em_op (em_ix (em_op (em_var rfl r0) (em_var rfl r_581) fun _ _ => o_ixL) em_int fun _ => o_snd rfl) em_int fun _ _ => o_gt)) (tm_and (t_of (e2 (em_var rfl r_581) em_int o_gt)) (t_of (em_op (em_ix (em_op (em_var rfl r0) (em_var rfl r_581) fun _ _ => o_ixL) em_int fun _ => o_snd rfl) (em_ix (em_op (em_var rfl r0) (e2 (em_var rfl r_581) em_int o_sub) fun _ _ => o_ixL) em_int fun _ => o_snd rfl) fun _ _ => o_eqI))))) (fun F_602 H_603 g_604 w => ?_) (fun F_602 H_603 g_604 w => ?_)
          · have G := G.tr g_604
            have r0 := Rep.mo (K := K) g_604.ff r0
            have r_557 := Rep.mo (K := K) g_604.ff r_557
            have r_581 := Rep.mo (K := K) g_604.ff r_581
            have e_568 := Ex.tr e_568 g_604.ff
            have e_583 := Ex.tr e_583 g_604.ff
            exact s_ret G w em_bl fun r F1 H1 v g m p => hQ r F1 H1 v g m p
          · have G := G.tr g_604
            have r0 := Rep.mo (K := K) g_604.ff r0
            have r_557 := Rep.mo (K := K) g_604.ff r_557
            have r_581 := Rep.mo (K := K) g_604.ff r_581
            have e_568 := Ex.tr e_568 g_604.ff
            have e_583 := Ex.tr e_583 g_604.ff
            refine s_next ?_
            exact hN_573 _ w _ _ _ e_583 ⟨_, rfl, G, e_568⟩
        · rintro s_608 F_609 H_610 _ e_611 ⟨z_562, hs_606, G, e_607⟩ w
          subst hs_606
          have r0 := Rep.mo (K := K) e_607 r0
          have r_557 := Rep.mo (K := K) e_607 r_557
          exact s_ret0 G w em_bl fun r F1 H1 v g m p => hQ r F1 H1 v g m p
/-! ### works_by -/
abbrev s_works_by : Stmt := topS 26
abbrev N_works_by : List Str := ["form", "parts", "meshes", "rows", "k", "beyond", "upto", "number"]
theorem sc_works_by : FnScope N_works_by ["form", "parts"] (defScope s_works_by) := ⟨rfl, rfl, rfl, by decide +kernel, rfl, by decide +kernel, by decide +kernel⟩
abbrev sp_works_by (K : PySem.W.Frag) (ce : Ce) : Sp := SpF ce (RC K (α := (List ((Option Int) × Int))) (RC K (α := Int) R0)) (rv K (ρ := Wk)) (fun a : ((List ((Option Int) × Int)) × Int × Unit) => m_works_by a.1 a.2.1)
theorem ok_works_by {f : Addr} {fd : FuncData} (FF : Fun K "works_by" "works_by" s_works_by f fd) (x_BadForm : ErrC K mg (ce "BadForm") "BadForm") {a_good_form : Addr} {d_good_form : FuncData} (G_good_form : FnOk P w K mg base CX0 1 a_good_form d_good_form ["form"] (sp_good_form K ce)) (mg_good_form : mg "good_form" = some (.ref a_good_form)) (k_good_form : PySem.W.keepIn K (.ref a_good_form) = true) (b_good_form : Binds K d_good_form ["form"] []) {a_Works : Addr} {d_Works : FuncData} (M_Works : Mk K (ce "Works") a_Works) (G_Works : FnOk P w K mg base (L2.CX P w) 2 a_Works d_Works ["self", "parts", "rows"] (sp_Works K ce)) (mgc_Works : mg "Works" = some (.ref (ce "Works"))) (b_Works : Binds K d_Works ["self", "parts", "rows"] []) (z_len : mg "len" = none) (z_range : mg "range" = none) : FnOk P w K mg base (L2.CX P w) 4 f fd ["form", "parts"] (sp_works_by K ce) := by
  refine FF.okX sc_works_by (fun vs H0 Q E h => ?_) (fun cdv A outer s H0 vs Q E hr h => ?_)
  · obtain ⟨F0, ⟨a0_form, a1_parts, _⟩, e0, ⟨v0, _, rfl, r0, ⟨v1, _, rfl, r1, rfl⟩⟩, w⟩ := h
    rfl
  · obtain ⟨F0, ⟨a0_form, a1_parts, _⟩, e0, ⟨v0, _, rfl, r0, ⟨v1, _, rfl, r1, rfl⟩⟩, w⟩ := h
    have w := wp_post w
    have G := Gr.rf e0
    have nd := sc_works_by.nd
    have hQ : ∀ r F1 H1 v, Gr F0 H0 F1 H1 → (rv K (ρ := Wk)) F0 H0 F1 H1 v r → Fin (rv K (ρ := Wk)) F0 H0 Q r → Q v H1 := fun r F1 H1 v g m p => p F1 H1 v g m
    refine ⟨_, (pss_cons (ps_if (pt_not (pt_val (pe_call G_good_form (hr.mono (by decide)) rfl mg_good_form k_good_form b_good_form .nil pass0 (pa_cons (pv 0) pa_nil)))) (pss_one (ps_raise rfl (takes_of rfl rfl rfl rfl) (pmk_own PySem.F.excBase_ValueError x_BadForm.x x_BadForm.g x_BadForm.k (raises_own x_BadForm.b x_BadForm.t) rfl))) pss_nil)
      (pss_cons (ps_set (i := 2) nd rfl (by first | exact Or.inl rfl | exact Or.inr rfl) (pe_op op_sub (pe_callB (r := rLenS K) call_len_seq (by rfl) z_len (by decide +kernel) (pa_cons (pv 0) pa_nil)) pe_int))
      (pss_cons (ps_set (i := 3) nd rfl (by first | exact Or.inl rfl | exact Or.inr rfl) (pe_lst pa_nil))
      (pss_cons (ps_for (by first | exact PassesOwn.never | exact passes_of rfl) rfl (pi_range1 rfl z_range (pa_cons (pv 2) pa_nil)) (pg_name (i := 4) nd rfl (by first | exact Or.inl rfl | exact Or.inr rfl)) (pss_cons (ps_set (i := 5) nd rfl (by first | exact Or.inl rfl | exact Or.inr rfl) (pe_op op_add (pv 4) pe_int))
      (pss_cons (ps_if (pt_cmpR op_eq (pv 5) (pv 2) (nomark _)) (pss_one (ps_set (i := 5) nd rfl (by first | exact Or.inl rfl | exact Or.inr rfl) (pe_op op_mul pe_int (pv 2)))) pss_nil)
      (pss_one (ps_expr (pe_bm PySem.F.plainAttrs_list PySem.F.slot_list_append PySem.F.type_list_append mt_append (pv 3) (pa_cons (pe_tup (pa_cons pe_str (pa_cons (pe_ix (r := rIxT K) ix_tup (pe_ix (r := rIxL K) ix_list (pv 0) (pv 4) (fun _ _ => rfl)) pe_int (fun _ _ => rfl)) (pa_cons (pe_op op_add (pv 2) (pv 4)) (pa_cons (pv 5) pa_nil))))) pa_nil)))))))
      (pss_one (ps_ret (pe_make M_Works G_Works (hr.mono (by decide)) rfl mgc_Works b_Works .nil (passes_call (takes_of rfl rfl rfl rfl) (fun _ _ _ _ h => h)) (pa_cons (pv 1) (pa_cons (pe_op op_cat (pv 3) (pe_lc (own := [("upto", 6), ("number", 7)]) (g := (gTup K 2 (gCons (gName 6) (gCons (gName 7) gNil)))) (by rfl) nd (pi_list (pv 0)) (blkOk_by (own := [("upto", 6), ("number", 7)]) (N := N_works_by) (sc := defScope s_works_by) (by decide +kernel)) (fun _ _ _ _ _ => (pg_tup rfl (pgs_cons (pg_name (i := 6) nd rfl (by first | exact Or.inl rfl | exact Or.inr rfl)) (pgs_cons (pg_name (i := 7) nd rfl (by first | exact Or.inl rfl | exact Or.inr rfl)) pgs_nil)))) (fun _ _ _ _ _ => pts_nil) (fun _ _ _ _ _ => (pe_tup (pa_cons pe_str (pa_cons (pv 7) pa_nil)))))) pa_nil))))))))), ?_⟩
    have w := show Wp ce E H0 (m_works_by a0_form a1_parts) _ from w
    unfold m_works_by at w
    refine q_if2 G w (tm_not (t_B (e_call0 (f := (fun a : ((List ((Option Int) × Int)) × Unit) => m_good_form a.1)) (x := (a0_form, ())) (e_cons (em_var rfl r0) ea_nil)))) (fun F_731 H_732 g_733 w => ?_) (fun F_731 H_732 g_733 w => ?_)
    · have G := G.tr g_733
      have r0 := Rep.mo (K := K) g_733.ff r0
      have r1 := Rep.mo (K := K) g_733.ff r1
      exact w _ G.hh
    · have G := G.tr g_733
      have r0 := Rep.mo (K := K) g_733.ff r0
      have r1 := Rep.mo (K := K) g_733.ff r1
      refine s_next ?_
      refine s_nx ?_
      refine q_asg (K := K) G w (e2 (e_cb (e_cons (em_var rfl r0) ea_nil) a_len) em_int o_sub) fun meshes_734 F_735 H_736 v_738 g_737 r_739 w => ?_
      have G := G.tr g_737
      have r0 := Rep.mo (K := K) g_737.ff r0
      have r1 := Rep.mo (K := K) g_737.ff r1
      refine q_asgN (K := K) G w (e_lst (el_nil (α := Row)) (by decide)) fun rows_740 F_741 H_742 p_744 g_743 n_745 o_746 w => ?_
      have n0p_744 := ex_back G.hh n_745
      have G := G.tr g_743
      have r0 := Rep.mo (K := K) g_743.ff r0
      have r1 := Rep.mo (K := K) g_743.ff r1
      have r_739 := Rep.mo (K := K) g_743.ff r_739
      refine q_for (S := (List Row)) (fun s F' H' σ' => ∃ (z_747 : Option V) (z_748 : Option V), σ' = [some v0, some v1, some v_738, some (.ref p_744), z_747, z_748, none, none] ∧ Gr F0 H0 F' H' ∧ Ex F_741 F' ∧ Own K (T := (List Row)) F' H' p_744 s) G (ei_rng1 (em_var rfl r_739)) (tg_name (K := K)) w (fun _ _ g_844 => ⟨_, _, rfl, G.tr g_844, g_844.ff, o_746.mo g_844⟩) (fun _ _ _ _ ⟨_, _, _, G, _⟩ => G) ?_ ?_
      · rintro x_750 s_749 F_751 H_752 _ ⟨z_747, z_748, hs_753, G, e_754, o_755⟩ F_756 H_757 σ_758 g_759 ⟨v_767, h_769, r_768⟩ D_764 P_765 hrt_766 hN_760 hC_761 hB_762 hP_763 w
        subst hs_753
        subst h_769
        have r0 := Rep.mo (K := K) e_754 r0
        have r1 := Rep.mo (K := K) e_754 r1
        have r_739 := Rep.mo (K := K) e_754 r_739
        have G := G.tr g_759
        have r0 := Rep.mo (K := K) g_759.ff r0
        have r1 := Rep.mo (K := K) g_759.ff r1
        have r_739 := Rep.mo (K := K) g_759.ff r_739
        have o_755 := o_755.mo g_759
        have e_754 := Ex.tr e_754 g_759.ff
        have e_770 := Ex.rf F_756
        have hQ : ∀ r F1 H1 v, Gr F0 H0 F1 H1 → (rv K (ρ := Wk)) F0 H0 F1 H1 v r → P_765 (.rt r) → D_764.rt v H1 := fun r F1 H1 v g m p => by rw [hrt_766]; exact hQ r F1 H1 v g m (hP_763 _ p)
        unfold m_works_by_b1 at w
        refine q_asg (K := K) G w (e2 (em_var rfl r_768) em_int o_add) fun beyond_771 F_772 H_773 v_775 g_774 r_776 w => ?_
        have G := G.tr g_774
        have r0 := Rep.mo (K := K) g_774.ff r0
        have r1 := Rep.mo (K := K) g_774.ff r1
        have r_739 := Rep.mo (K := K) g_774.ff r_739
        have o_755 := o_755.mo g_774
        have r_768 := Rep.mo (K := K) g_774.ff r_768
        have e_754 := Ex.tr e_754 g_774.ff
        have e_770 := Ex.tr e_770 g_774.ff
        refine q_join (W := Int) (fun s F' H' σ' => ∃ (v_781 : V), σ' = [some v0, some v1, some v_738, some (.ref p_744), some v_767, some v_781, none, none] ∧ Gr F0 H0 F' H' ∧ Ex F_772 F' ∧ rp (α := Int) K F' v_781 s ∧ Own K (T := (List Row)) F' H' p_744 s_749) w ?_ ?_
        · rintro s_780 F_786 H_787 σs_780 ⟨v_781, hs_782, G, e_783, r_784, o_785⟩ w
          subst hs_782
          have r0 := Rep.mo (K := K) e_783 r0
          have r1 := Rep.mo (K := K) e_783 r1
          have r_739 := Rep.mo (K := K) e_783 r_739
          have r_768 := Rep.mo (K := K) e_783 r_768
          have e_754 := Ex.tr e_754 e_783
          have e_770 := Ex.tr e_770 e_783
          refine s_app rfl o_785 n0p_744 G w (em_row (el_cons (e_clw (em_wd (by decide +kernel))) (el_cons (em_cli (em_get (em_ix (em_op (em_var rfl r0) (em_var rfl r_768) fun _ _ => o_ixL) em_int fun _ => o_fst rfl))) (el_cons (e_cli (e2 (em_var rfl r_739) (em_var rfl r_768) o_add)) (el_cons (e_cli (em_var rfl r_784)) (el_nil (α := Cl))))))) fun rows_801 F_802 H_803 e_804 G o_805 hO_806 w => ?_
          have r0 := Rep.mo (K := K) e_804 r0
          have r1 := Rep.mo (K := K) e_804 r1
          have r_739 := Rep.mo (K := K) e_804 r_739
          have r_768 := Rep.mo (K := K) e_804 r_768
          have r_784 := Rep.mo (K := K) e_804 r_784
          have e_754 := Ex.tr e_754 e_804
          have e_770 := Ex.tr e_770 e_804
          exact hN_760 _ w _ _ _ e_770 ⟨_, _, rfl, G, e_754, o_805⟩
        · intro P_809 hk_808 w
          refine s_if2 G w (t_of (e2 (em_var rfl r_776) (em_var rfl r_739) o_eqI)) (fun F_777 H_778 g_779 w => ?_) (fun F_777 H_778 g_779 w => ?_)
          · have e_810 : Ex F_772 F_777 := g_779.ff
            have G := G.tr g_779
            have r0 := Rep.mo (K := K) g_779.ff r0
            have r1 := Rep.mo (K := K) g_779.ff r1
            have r_739 := Rep.mo (K := K) g_779.ff r_739
            have o_755 := o_755.mo g_779
            have r_768 := Rep.mo (K := K) g_779.ff r_768
            have r_776 := Rep.mo (K := K) g_779.ff r_776
            have e_754 := Ex.tr e_754 g_779.ff
            have e_770 := Ex.tr e_770 g_779.ff
            refine s_asg (K := K) G w (e2 em_int (em_var rfl r_739) (o_mulL (.inl ⟨by decide, by decide⟩))) fun beyond_811 F_812 H_813 v_815 g_814 r_816 w => ?_
            have G := G.tr g_814
            have r0 := Rep.mo (K := K) g_814.ff r0
            have r1 := Rep.mo (K := K) g_814.ff r1
            have r_739 := Rep.mo (K := K) g_814.ff r_739
            have o_755 := o_755.mo g_814
            have r_768 := Rep.mo (K := K) g_814.ff r_768
            have e_754 := Ex.tr e_754 g_814.ff
            have e_770 := Ex.tr e_770 g_814.ff
            have e_810 := Ex.tr e_810 g_814.ff
            exact hk_808 _ w _ _ _ ⟨_, rfl, G, e_810, r_816, o_755⟩
          · have e_810 : Ex F_772 F_777 := g_779.ff
            have G := G.tr g_779
            have r0 := Rep.mo (K := K) g_779.ff r0
            have r1 := Rep.mo (K := K) g_779.ff r1
            have r_739 := Rep.mo (K := K) g_779.ff r_739
            have o_755 := o_755.mo g_779
            have r_768 := Rep.mo (K := K) g_779.ff r_768
            have r_776 := Rep.mo (K := K) g_779.ff r_776
            have e_754 := Ex.tr e_754 g_779.ff
            have e_770 := Ex.tr e_770 g_779.ff
            refine s_next ?_
            exact hk_808 _ w _ _ _ ⟨_, rfl, G, e_810, r_776, o_755⟩
      · rintro s_820 F_821 H_822 _ e_823 ⟨z_747, z_748, hs_817, G, e_818, o_819⟩ w
        subst hs_817
        have r0 := Rep.mo (K := K) e_818 r0
        have r1 := Rep.mo (K := K) e_818 r1
        have r_739 := Rep.mo (K := K) e_818 r_739
        have GA := gr_fz (A := [p_744]) G (own1 n0p_744)
        exact s_ret0 GA w (em_makeX (f := (fun a : (Int × (List Row) × Unit) => m_Works a.1 a.2.1)) (ea_cons (em_var rfl (Rep.mo (fz_ex G.fh) r1)) (ea_cons (Ev.nv (em_op (em_var rfl (o_819.lent G.fh (by simp))) (Ev.nv (em_lc (c := (fun x_825 : ((Option Int) × Int) => (M.ok true))) (e := (fun x_825 : ((Option Int) × Int) => (((M.ok (Cl.w (wd (Str.ofString "bin")))).bind fun x_832 => ((M.ok (Cl.i x_825.2)).bind fun x_830 => (M.ok ([] : List Cl)).bind fun y_831 => .ok (x_830 :: y_831)).bind fun y_833 => .ok (x_832 :: y_833)).bind fun x_834 => chk (x_834.length ≤ 1000) (Row.mk x_834)))) (ei_list (em_var rfl (Rep.mo (fz_ex G.fh) r0))) (tg_tup2 (K := K)) (fun _ _ _ ⟨_, _, h, _⟩ => by rw [h]; exact wipe2) (fun x_825 _ _ _ g_824 ⟨v_826, v_828, h_835, r_827, r_829⟩ => by subst h_835; exact t_yes) (fun x_825 _ _ _ g_824 ⟨v_826, v_828, h_835, r_827, r_829⟩ => by subst h_835; exact (em_row (el_cons (e_clw (em_wd (by decide +kernel))) (el_cons (e_cli (em_var rfl r_829)) (el_nil (α := Cl)))))))) fun _ _ => o_cat)) ea_nil))) fun r F1 H1 v g m p => hQ r F1 H1 v g m p
/-! ### _law_spoiled -/
abbrev s_law_spoiled : Stmt := topS 31
abbrev N_law_spoiled : List Str := ["form", "cell", "at", "ahead", "here", "kind", "far", "long", "k"]
theorem sc_law_spoiled : FnScope N_law_spoiled ["form", "cell"] (defScope s_law_spoiled) := ⟨rfl, rfl, rfl, by decide +kernel, rfl, by decide +kernel, by decide +kernel⟩
abbrev sp_law_spoiled (K : PySem.W.Frag) (ce : Ce) : Sp := SpF0 ce (RC K (α := (List ((Option Int) × Int))) (RC K (α := Int) R0)) (rv K (ρ := (List ((Option Int) × Int)))) (fun a : ((List ((Option Int) × Int)) × Int × Unit) => m_law_spoiled a.1 a.2.1)
theorem ok_law_spoiled {f : Addr} {fd : FuncData} (FF : Fun K "_law_spoiled" "_law_spoiled" s_law_spoiled f fd) (z_len : mg "len" = none) (z_max : mg "max" = none) (z_range : mg "range" = none) : FnOk P w K mg base CX0 1 f fd ["form", "cell"] (sp_law_spoiled K ce) := by
  refine FF.ok sc_law_spoiled (fun vs H0 Q E h => ?_) (fun cdv A outer s H0 vs Q E hr h => ?_)
  · obtain ⟨F0, ⟨a0_form, a1_cell, _⟩, e0, ⟨v0, _, rfl, r0, ⟨v1, _, rfl, r1, rfl⟩⟩, w⟩ := h
    rfl
  · obtain ⟨F0, ⟨a0_form, a1_cell, _⟩, e0, ⟨v0, _, rfl, r0, ⟨v1, _, rfl, r1, rfl⟩⟩, w⟩ := h
    have w := wp_post w
    have G := Gr.rf e0
    have nd := sc_law_spoiled.nd
    have hQ : ∀ r F1 H1 v, Gr F0 H0 F1 H1 → (rv K (ρ := (List ((Option Int) × Int)))) F0 H0 F1 H1 v r → Fin (rv K (ρ := (List ((Option Int) × Int)))) F0 H0 Q r → Q v H1 := fun r F1 H1 v g m p => p F1 H1 v g m
    refine ⟨_, (pss_cons (ps_set (i := 2) nd rfl (by first | exact Or.inl rfl | exact Or.inr rfl) (pe_op op_mod (pe_op op_fdiv (pv 1) pe_int) (pe_callB (r := rLenS K) call_len_seq (by rfl) z_len (by decide +kernel) (pa_cons (pv 0) pa_nil))))
      (pss_cons (ps_set (i := 3) nd rfl (by first | exact Or.inl rfl | exact Or.inr rfl) (pe_ix (r := rIxL K) ix_list (pe_op op_cat (pe_lst (pa_cons (pe_tup (pa_cons pe_int (pa_cons pe_int pa_nil))) pa_nil)) (pv 0)) (pv 2) (fun _ _ => rfl)))
      (pss_cons (ps_set (i := 4) nd rfl (by first | exact Or.inl rfl | exact Or.inr rfl) (pe_ix (r := rIxL K) ix_list (pv 0) (pv 2) (fun _ _ => rfl)))
      (pss_cons (ps_set (i := 5) nd rfl (by first | exact Or.inl rfl | exact Or.inr rfl) (pe_op op_mod (pv 1) pe_int))
      (pss_cons (ps_set (i := 6) nd rfl (by first | exact Or.inl rfl | exact Or.inr rfl) (pe_op op_mod (pe_op op_fdiv (pv 1) pe_int) (pe_op op_pow pe_int pe_int)))
      (pss_cons (ps_if (PW.pt (pw_and (pt_cmpR op_eq (pv 5) pe_int (nomark _)) (pw_and1 (pt_cmpR op_eq (pe_callB (r := rLenS K) call_len_seq (by rfl) z_len (by decide +kernel) (pa_cons (pv 0) pa_nil)) pe_int (nomark _))))) (pss_one (ps_ret (pe_lst (pa_cons (pe_tup (pa_cons pe_int (pa_cons (pe_ix (r := rIxT K) ix_tup (pv 4) pe_int (fun _ _ => rfl)) pa_nil))) (pa_cons (pv 4) pa_nil))))) pss_nil)
      (pss_cons (ps_if (pt_cmpR op_eq (pv 5) pe_int (nomark _)) (pss_cons (ps_set (i := 2) nd rfl (by first | exact Or.inl rfl | exact Or.inr rfl) (pe_callB (call_max2 rfl) (by rfl) z_max (by decide +kernel) (pa_cons pe_int (pa_cons (pv 2) pa_nil))))
      (pss_one (ps_ret (pe_op op_cat (pe_op op_cat (pe_slice (r := rSlL K) sl_list (pv 0) po_none (po_some (pv 2))) (pe_lst (pa_cons (pe_tup (pa_cons (pe_ix (r := rIxT K) ix_tup (pe_ix (r := rIxL K) ix_list (pv 0) (pv 2) (fun _ _ => rfl)) pe_int (fun _ _ => rfl)) (pa_cons (pe_ix (r := rIxT K) ix_tup (pe_ix (r := rIxL K) ix_list (pv 0) (pe_op op_sub (pv 2) pe_int) (fun _ _ => rfl)) pe_int (fun _ _ => rfl)) pa_nil))) pa_nil))) (pe_slice (r := rSlL K) sl_list (pv 0) (po_some (pe_op op_add (pv 2) pe_int)) po_none))))) pss_nil)
      (pss_cons (ps_if (pt_cmpR op_eq (pv 5) pe_int (nomark _)) (pss_one (ps_ret (pe_op op_cat (pe_op op_cat (pe_slice (r := rSlL K) sl_list (pv 0) po_none (po_some (pv 2))) (pe_lst (pa_cons (pe_tup (pa_cons (pe_op op_add (pe_op op_add (pe_op op_pow pe_int pe_int) pe_int) (pv 6)) (pa_cons (pe_ix (r := rIxT K) ix_tup (pv 4) pe_int (fun _ _ => rfl)) pa_nil))) pa_nil))) (pe_slice (r := rSlL K) sl_list (pv 0) (po_some (pv 2)) po_none)))) pss_nil)
      (pss_cons (ps_if (pt_cmpR op_eq (pv 5) pe_int (nomark _)) (pss_one (ps_ret (pe_op op_cat (pe_op op_cat (pe_slice (r := rSlL K) sl_list (pv 0) po_none (po_some (pv 2))) (pe_lst (pa_cons (pe_tup (pa_cons (pe_op op_sub (pe_ix (r := rIxT K) ix_tup (pv 3) pe_int (fun _ _ => rfl)) (pe_op op_mod (pv 6) pe_int)) (pa_cons (pe_ix (r := rIxT K) ix_tup (pv 4) pe_int (fun _ _ => rfl)) pa_nil))) pa_nil))) (pe_slice (r := rSlL K) sl_list (pv 0) (po_some (pv 2)) po_none)))) pss_nil)
      (pss_cons (ps_if (pt_cmpR op_eq (pv 5) pe_int (nomark _)) (pss_one (ps_ret (pe_op op_cat (pe_op op_cat (pe_slice (r := rSlL K) sl_list (pv 0) po_none (po_some (pv 2))) (pe_lst (pa_cons (pe_tup (pa_cons (pe_ix (r := rIxT K) ix_tup (pv 4) pe_int (fun _ _ => rfl)) (pa_cons (pe_ix (r := rIxL K) ix_list (pe_lst (pa_cons (pe_op op_add pe_int (pv 6)) (pa_cons (pe_op op_sub (pe_un un_neg pe_int) (pv 6)) pa_nil))) (pe_op op_mod (pe_op op_fdiv (pv 1) pe_int) pe_int) (fun _ _ => rfl)) pa_nil))) pa_nil))) (pe_slice (r := rSlL K) sl_list (pv 0) (po_some (pe_op op_add (pv 2) pe_int)) po_none)))) pss_nil)
      (pss_cons (ps_if (pt_cmpR op_eq (pv 5) pe_int (nomark _)) (pss_one (ps_ret (pe_op op_cat (pe_slice (r := rSlL K) sl_list (pv 0) po_none (po_some (pe_un un_neg pe_int))) (pe_lst (pa_cons (pe_tup (pa_cons (pe_op op_pow pe_int pe_int) (pa_cons (pe_ix (r := rIxT K) ix_tup (pe_ix (r := rIxL K) ix_list (pv 0) (pe_un un_neg pe_int) (fun _ _ => rfl)) pe_int (fun _ _ => rfl)) pa_nil))) pa_nil))))) pss_nil)
      (pss_cons (ps_if (pt_cmpR op_eq (pv 5) pe_int (nomark _)) (pss_one (ps_ret (pe_op op_cat (pe_lst (pa_cons (pe_tup (pa_cons pe_non (pa_cons (pe_op op_mod (pe_op op_add (pe_ix (r := rIxT K) ix_tup (pv 4) pe_int (fun _ _ => rfl)) pe_int) pe_int) pa_nil))) pa_nil)) (pv 0)))) pss_nil)
      (pss_cons (ps_if (pt_cmpR op_eq (pv 5) pe_int (nomark _)) (pss_one (ps_ret (pe_op op_cat (pe_op op_cat (pe_slice (r := rSlL K) sl_list (pv 0) po_none (po_some (pv 2))) (pe_lst (pa_cons (pv 4) pa_nil))) (pe_slice (r := rSlL K) sl_list (pv 0) (po_some (pv 2)) po_none)))) pss_nil)
      (pss_cons (ps_if (pt_cmpR op_eq (pv 5) pe_int (nomark _)) (pss_one (ps_ret (pe_lst pa_nil))) pss_nil)
      (pss_cons (by first | exact (ps_setLc (i := 7) (own := [("k", 8)]) (g := (gName 8)) (by rfl) nd rfl rfl (sw_true rfl rfl rfl (by decide +kernel)) (pi_range1 rfl z_range (pa_cons pe_int pa_nil)) (blkOk_by (own := [("k", 8)]) (N := N_law_spoiled) (sc := defScope s_law_spoiled) (by decide +kernel)) (fun _ _ _ _ _ => (pg_name (i := 8) nd rfl (by first | exact Or.inl rfl | exact Or.inr rfl))) (fun _ _ _ _ _ => pts_nil) (fun _ _ _ _ _ => (pe_tup (pa_cons (pe_op op_add (pv 8) pe_int) (pa_cons (pe_op op_mod (pv 8) pe_int) pa_nil))))) | exact (ps_set (i := 7) nd rfl (by first | exact Or.inl rfl | exact Or.inr rfl) (pe_lc (own := [("k", 8)]) (g := (gName 8)) (by rfl) nd (pi_range1 rfl z_range (pa_cons pe_int pa_nil)) (blkOk_by (own := [("k", 8)]) (N := N_law_spoiled) (sc := defScope s_law_spoiled) (by decide +kernel)) (fun _ _ _ _ _ => (pg_name (i := 8) nd rfl (by first | exact Or.inl rfl | exact Or.inr rfl))) (fun _ _ _ _ _ => pts_nil) (fun _ _ _ _ _ => (pe_tup (pa_cons (pe_op op_add (pv 8) pe_int) (pa_cons (pe_op op_mod (pv 8) pe_int) pa_nil)))))))
      (pss_one (ps_ret (pe_op op_cat (pv 7) (pe_lst (pa_cons (pe_tup (pa_cons pe_non (pa_cons pe_int pa_nil))) pa_nil)))))))))))))))))))), ?_⟩
    have w := show Wp ce E0 H0 (m_law_spoiled a0_form a1_cell) _ from w
    unfold m_law_spoiled at w
    refine q_asg (K := K) G w (em_op (e2 (em_var rfl r1) em_int (o_fdiv ⟨by decide, by decide⟩)) (e_cb (e_cons (em_var rfl r0) ea_nil) a_len) fun _ _ => o_modM) fun at_848 F_849 H_850 v_852 g_851 r_853 w => ?_
    have G := G.tr g_851
    have r0 := Rep.mo (K := K) g_851.ff r0
    have r1 := Rep.mo (K := K) g_851.ff r1
    refine q_asg (K := K) G w (em_op (Ev.nv (em_op (Ev.nv (e_lst (e_lcons (e_tup2 (e_some em_int) em_int) (el_nil (α := ((Option Int) × Int)))) (by simp))) (em_var rfl r0) fun _ _ => o_cat)) (em_var rfl r_853) fun _ _ => o_ixL) fun ahead_858 F_859 H_860 v_862 g_861 r_863 w => ?_
    have G := G.tr g_861
    have r0 := Rep.mo (K := K) g_861.ff r0
    have r1 := Rep.mo (K := K) g_861.ff r1
    have r_853 := Rep.mo (K := K) g_861.ff r_853
    refine q_asg (K := K) G w (em_op (em_var rfl r0) (em_var rfl r_853) fun _ _ => o_ixL) fun here_866 F_867 H_868 v_870 g_869 r_871 w => ?_
    have G := G.tr g_869
    have r0 := Rep.mo (K := K) g_869.ff r0
    have r1 := Rep.mo (K := K) g_869.ff r1
    have r_853 := Rep.mo (K := K) g_869.ff r_853
    have r_863 := Rep.mo (K := K) g_869.ff r_863
    refine q_asg (K := K) G w (e2 (em_var rfl r1) em_int (o_mod (by decide))) fun kind_872 F_873 H_874 v_876 g_875 r_877 w => ?_
    have G := G.tr g_875
    have r0 := Rep.mo (K := K) g_875.ff r0
    have r1 := Rep.mo (K := K) g_875.ff r1
    have r_853 := Rep.mo (K := K) g_875.ff r_853
    have r_863 := Rep.mo (K := K) g_875.ff r_863
    have r_871 := Rep.mo (K := K) g_875.ff r_871
    refine q_asg (K := K) G w (e2 (e2 (em_var rfl r1) em_int (o_fdiv ⟨by decide, by decide⟩)) (e_is (e2 em_int em_int (o_pow (by decide))) pow_10_40) (o_mod (by decide))) fun far_878 F_879 H_880 v_882 g_881 r_883 w => ?_
    have G := G.tr g_881
    have r0 := Rep.mo (K := K) g_881.ff r0
    have r1 := Rep.mo (K := K) g_881.ff r1
    have r_853 := Rep.mo (K := K) g_881.ff r_853
    have r_863 := Rep.mo (K := K) g_881.ff r_863
    have r_871 := Rep.mo (K := K) g_881.ff r_871
    have r_877 := Rep.mo (K := K) g_881.ff r_877
    refine q_if2 G w (t_and (t_of (e2 (em_var rfl r_877) em_int o_eqI)) (t_of (e2 (e_cb (e_cons (em_var rfl r0) ea_nil) a_len) em_int o_eqI))) (fun F_884 H_885 g_886 w => ?_) (fun F_884 H_885 g_886 w => ?_)
    · have G := G.tr g_886
      have r0 := Rep.mo (K := K) g_886.ff r0
      have r1 := Rep.mo (K := K) g_886.ff r1
      have r_853 := Rep.mo (K := K) g_886.ff r_853
      have r_863 := Rep.mo (K := K) g_886.ff r_863
      have r_871 := Rep.mo (K := K) g_886.ff r_871
      have r_877 := Rep.mo (K := K) g_886.ff r_877
      have r_883 := Rep.mo (K := K) g_886.ff r_883
      exact s_ret0 G w (Ev.nv (e_lst (e_lcons (e_tup2 (e_some em_int) (e2 (em_var rfl r_871) em_int (o_snd rfl))) (e_lcons (em_var rfl r_871) (el_nil (α := ((Option Int) × Int))))) (by simp))) fun r F1 H1 v g m p => hQ r F1 H1 v g m p
    · have G := G.tr g_886
      have r0 := Rep.mo (K := K) g_886.ff r0
      have r1 := Rep.mo (K := K) g_886.ff r1
      have r_853 := Rep.mo (K := K) g_886.ff r_853
      have r_863 := Rep.mo (K := K) g_886.ff r_863
      have r_871 := Rep.mo (K := K) g_886.ff r_871
      have r_877 := Rep.mo (K := K) g_886.ff r_877
      have r_883 := Rep.mo (K := K) g_886.ff r_883
      refine s_next ?_
      refine s_nx ?_
      refine q_if2 G w (t_of (e2 (em_var rfl r_877) em_int o_eqI)) (fun F_887 H_888 g_889 w => ?_) (fun F_887 H_888 g_889 w => ?_)
      · have G := G.tr g_889
        have r0 := Rep.mo (K := K) g_889.ff r0
        have r1 := Rep.mo (K := K) g_889.ff r1
        have r_853 := Rep.mo (K := K) g_889.ff r_853
        have r_863 := Rep.mo (K := K) g_889.ff r_863
        have r_871 := Rep.mo (K := K) g_889.ff r_871
        have r_877 := Rep.mo (K := K) g_889.ff r_877
        have r_883 := Rep.mo (K := K) g_889.ff r_883
        refine q_asg (K := K) G w (e_cb (e_cons em_int (e_cons (em_var rfl r_853) ea_nil)) a_max2) fun at_890 F_891 H_892 v_894 g_893 r_895 w => ?_
        have G := G.tr g_893
        have r0 := Rep.mo (K := K) g_893.ff r0
        have r1 := Rep.mo (K := K) g_893.ff r1
        have r_863 := Rep.mo (K := K) g_893.ff r_863
        have r_871 := Rep.mo (K := K) g_893.ff r_871
        have r_877 := Rep.mo (K := K) g_893.ff r_877
        have r_883 := Rep.mo (K := K) g_893.ff r_883
        exact s_ret0 G w (Ev.nv (em_op (Ev.nv (em_op (Ev.nv (e_sl (em_var rfl r0) eo_none (eo_some' (K := K) (em_var rfl r_895)))) (Ev.nv (em_lst' (el_cons (em_tup2 (em_ix (em_op (em_var rfl r0) (em_var rfl r_895) fun _ _ => o_ixL) em_int fun _ => o_fst rfl) (em_ix (em_op (em_var rfl r0) (e2 (em_var rfl r_895) em_int o_sub) fun _ _ => o_ixL) em_int fun _ => o_snd rfl)) (el_nil (α := ((Option Int) × Int)))))) fun _ _ => o_cat)) (Ev.nv (e_sl (em_var rfl r0) (eo_some' (K := K) (e2 (em_var rfl r_895) em_int o_add)) eo_none)) fun _ _ => o_cat)) fun r F1 H1 v g m p => hQ r F1 H1 v g m p
      · have G := G.tr g_889
        have r0 := Rep.mo (K := K) g_889.ff r0
        have r1 := Rep.mo (K := K) g_889.ff r1
        have r_853 := Rep.mo (K := K) g_889.ff r_853
        have r_863 := Rep.mo (K := K) g_889.ff r_863
        have r_871 := Rep.mo (K := K) g_889.ff r_871
        have r_877 := Rep.mo (K := K) g_889.ff r_877
        have r_883 := Rep.mo (K := K) g_889.ff r_883
        refine s_next ?_
        refine s_nx ?_
        refine q_if2 G w (t_of (e2 (em_var rfl r_877) em_int o_eqI)) (fun F_911 H_912 g_913 w => ?_) (fun F_911 H_912 g_913 w => ?_)
        · have G := G.tr g_913
          have r0 := Rep.mo (K := K) g_913.ff r0
          have r1 := Rep.mo (K := K) g_913.ff r1
          have r_853 := Rep.mo (K := K) g_913.ff r_853
          have r_863 := Rep.mo (K := K) g_913.ff r_863
          have r_871 := Rep.mo (K := K) g_913.ff r_871
          have r_877 := Rep.mo (K := K) g_913.ff r_877
          have r_883 := Rep.mo (K := K) g_913.ff r_883
          exact s_ret0 G w (Ev.nv (em_op (Ev.nv (em_op (Ev.nv (e_sl (em_var rfl r0) eo_none (eo_some' (K := K) (em_var rfl r_853)))) (Ev.nv (e_lst (e_lcons (e_tup2 (e_some (e2 (e2 (e_is (e2 em_int em_int (o_pow (by decide))) pow_10_60) em_int o_add) (em_var rfl r_883) o_add)) (e2 (em_var rfl r_871) em_int (o_snd rfl))) (el_nil (α := ((Option Int) × Int)))) (by simp))) fun _ _ => o_cat)) (Ev.nv (e_sl (em_var rfl r0) (eo_some' (K := K) (em_var rfl r_853)) eo_none)) fun _ _ => o_cat)) fun r F1 H1 v g m p => hQ r F1 H1 v g m p
        · have G := G.tr g_913
          have r0 := Rep.mo (K := K) g_913.ff r0
          have r1 := Rep.mo (K := K) g_913.ff r1
          have r_853 := Rep.mo (K := K) g_913.ff r_853
          have r_863 := Rep.mo (K := K) g_913.ff r_863
          have r_871 := Rep.mo (K := K) g_913.ff r_871
          have r_877 := Rep.mo (K := K) g_913.ff r_877
          have r_883 := Rep.mo (K := K) g_913.ff r_883
          refine s_next ?_
          refine s_nx ?_
          refine q_if2 G w (t_of (e2 (em_var rfl r_877) em_int o_eqI)) (fun F_918 H_919 g_920 w => ?_) (fun F_918 H_919 g_920 w => ?_)
          · have G := G.tr g_920
            have r0 := Rep.mo (K := K) g_920.ff r0
            have r1 := Rep.mo (K := K) g_920.ff r1
            have r_853 := Rep.mo (K := K) g_920.ff r_853
            have r_863 := Rep.mo (K := K) g_920.ff r_863
            have r_871 := Rep.mo (K := K) g_920.ff r_871
            have r_877 := Rep.mo (K := K) g_920.ff r_877
            have r_883 := Rep.mo (K := K) g_920.ff r_883
            exact s_ret0 G w (Ev.nv (em_op (Ev.nv (em_op (Ev.nv (e_sl (em_var rfl r0) eo_none (eo_some' (K := K) (em_var rfl r_853)))) (Ev.nv (em_lst' (el_cons (em_tup2 (em_some (em_op (em_get (e2 (em_var rfl r_863) em_int (o_fst rfl))) (e2 (em_var rfl r_883) em_int (o_mod (by decide))) fun _ _ => o_sub)) (e2 (em_var rfl r_871) em_int (o_snd rfl))) (el_nil (α := ((Option Int) × Int)))))) fun _ _ => o_cat)) (Ev.nv (e_sl (em_var rfl r0) (eo_some' (K := K) (em_var rfl r_853)) eo_none)) fun _ _ => o_cat)) fun r F1 H1 v g m p => hQ r F1 H1 v g m p
          · have G := G.tr g_920
            have r0 := Rep.mo (K := K) g_920.ff r0
            have r1 := Rep.mo (K := K) g_920.ff r1
            have r_853 := Rep.mo (K := K) g_920.ff r_853
            have r_863 := Rep.mo (K := K) g_920.ff r_863
            have r_871 := Rep.mo (K := K) g_920.ff r_871
            have r_877 := Rep.mo (K := K) g_920.ff r_877
            have r_883 := Rep.mo (K := K) g_920.ff r_883
            refine s_next ?_
            refine s_nx ?_
            refine q_if2 G w (t_of (e2 (em_var rfl r_877) em_int o_eqI)) (fun F_933 H_934 g_935 w => ?_) (fun F_933 H_934 g_935 w => ?_)
            · have G := G.tr g_935
              have r0 := Rep.mo (K := K) g_935.ff r0
              have r1 := Rep.mo (K := K) g_935.ff r1
              have r_853 := Rep.mo (K := K) g_935.ff r_853
              have r_863 := Rep.mo (K := K) g_935.ff r_863
              have r_871 := Rep.mo (K := K) g_935.ff r_871
              have r_877 := Rep.mo (K := K) g_935.ff r_877
              have r_883 := Rep.mo (K := K) g_935.ff r_883
              exact s_ret0 G w (Ev.nv (em_op (Ev.nv (em_op (Ev.nv (e_sl (em_var rfl r0) eo_none (eo_some' (K := K) (em_var rfl r_853)))) (Ev.nv (em_lst' (el_cons (em_tup2 (e2 (em_var rfl r_871) em_int (o_fst rfl)) (em_op (Ev.nv (e_lst (e_lcons (e2 em_int (em_var rfl r_883) o_add) (e_lcons (e2 (e_neg em_int) (em_var rfl r_883) o_sub) (el_nil (α := Int)))) (by simp))) (e2 (e2 (em_var rfl r1) em_int (o_fdiv ⟨by decide, by decide⟩)) em_int (o_mod (by decide))) fun _ _ => o_ixL)) (el_nil (α := ((Option Int) × Int)))))) fun _ _ => o_cat)) (Ev.nv (e_sl (em_var rfl r0) (eo_some' (K := K) (e2 (em_var rfl r_853) em_int o_add)) eo_none)) fun _ _ => o_cat)) fun r F1 H1 v g m p => hQ r F1 H1 v g m p
            · have G := G.tr g_935
              have r0 := Rep.mo (K := K) g_935.ff r0
              have r1 := Rep.mo (K := K) g_935.ff r1
              have r_853 := Rep.mo (K := K) g_935.ff r_853
              have r_863 := Rep.mo (K := K) g_935.ff r_863
              have r_871 := Rep.mo (K := K) g_935.ff r_871
              have r_877 := Rep.mo (K := K) g_935.ff r_877
              have r_883 := Rep.mo (K := K) g_935.ff r_883
              refine s_next ?_
              refine s_nx ?_
              refine q_if2 G w (t_of (e2 (em_var rfl r_877) em_int o_eqI)) (fun F_947 H_948 g_949 w => ?_) (fun F_947 H_948 g_949 w => ?_)
              · have G := G.tr g_949
                have r0 := Rep.mo (K := K) g_949.ff r0
                have r1 := Rep.mo (K := K) g_949.ff r1
                have r_853 := Rep.mo (K := K) g_949.ff r_853
                have r_863 := Rep.mo (K := K) g_949.ff r_863
                have r_871 := Rep.mo (K := K) g_949.ff r_871
                have r_877 := Rep.mo (K := K) g_949.ff r_877
                have r_883 := Rep.mo (K := K) g_949.ff r_883
                exact s_ret0 G w (Ev.nv (em_op (Ev.nv (e_sl (em_var rfl r0) eo_none (eo_some' (K := K) (e_neg em_int)))) (Ev.nv (em_lst' (el_cons (em_tup2 (e_some (e_is (e2 em_int em_int (o_pow (by decide))) pow_10_60)) (em_ix (em_op (em_var rfl r0) (e_neg em_int) fun _ _ => o_ixL) em_int fun _ => o_snd rfl)) (el_nil (α := ((Option Int) × Int)))))) fun _ _ => o_cat)) fun r F1 H1 v g m p => hQ r F1 H1 v g m p
              · have G := G.tr g_949
                have r0 := Rep.mo (K := K) g_949.ff r0
                have r1 := Rep.mo (K := K) g_949.ff r1
                have r_853 := Rep.mo (K := K) g_949.ff r_853
                have r_863 := Rep.mo (K := K) g_949.ff r_863
                have r_871 := Rep.mo (K := K) g_949.ff r_871
                have r_877 := Rep.mo (K := K) g_949.ff r_877
                have r_883 := Rep.mo (K := K) g_949.ff r_883
                refine s_next ?_
                refine s_nx ?_
                refine q_if2 G w (t_of (e2 (em_var rfl r_877) em_int o_eqI)) (fun F_960 H_961 g_962 w => ?_) (fun F_960 H_961 g_962 w => ?_)
                · have G := G.tr g_962
                  have r0 := Rep.mo (K := K) g_962.ff r0
                  have r1 := Rep.mo (K := K) g_962.ff r1
                  have r_853 := Rep.mo (K := K) g_962.ff r_853
                  have r_863 := Rep.mo (K := K) g_962.ff r_863
                  have r_871 := Rep.mo (K := K) g_962.ff r_871
                  have r_877 := Rep.mo (K := K) g_962.ff r_877
                  have r_883 := Rep.mo (K := K) g_962.ff r_883
                  exact s_ret0 G w (Ev.nv (em_op (Ev.nv (e_lst (e_lcons (e_tup2 (em_none (α := Int)) (e2 (e2 (e2 (em_var rfl r_871) em_int (o_snd rfl)) em_int o_add) em_int (o_mod (by decide)))) (el_nil (α := ((Option Int) × Int)))) (by simp))) (em_var rfl r0) fun _ _ => o_cat)) fun r F1 H1 v g m p => hQ r F1 H1 v g m p
                · have G := G.tr g_962
                  have r0 := Rep.mo (K := K) g_962.ff r0
                  have r1 := Rep.mo (K := K) g_962.ff r1
                  have r_853 := Rep.mo (K := K) g_962.ff r_853
                  have r_863 := Rep.mo (K := K) g_962.ff r_863
                  have r_871 := Rep.mo (K := K) g_962.ff r_871
                  have r_877 := Rep.mo (K := K) g_962.ff r_877
                  have r_883 := Rep.mo (K := K) g_962.ff r_883
                  refine s_next ?_
                  refine s_nx ?_
                  refine q_if2 G w (t_of (e2 (em_var rfl r_877) em_int o_eqI)) (fun F_965 H_966 g_967 w => ?_) (fun F_965 H_966 g_967 w => ?_)
                  · have G := G.tr g_967
                    have r0 := Rep.mo (K := K) g_967.ff r0
                    have r1 := Rep.mo (K := K) g_967.ff r1
                    have r_853 := Rep.mo (K := K) g_967.ff r_853
                    have r_863 := Rep.mo (K := K) g_967.ff r_863
                    have r_871 := Rep.mo (K := K) g_967.ff r_871
                    have r_877 := Rep.mo (K := K) g_967.ff r_877
                    have r_883 := Rep.mo (K := K) g_967.ff r_883
                    exact s_ret0 G w (Ev.nv (em_op (Ev.nv (em_op (Ev.nv (e_sl (em_var rfl r0) eo_none (eo_some' (K := K) (em_var rfl r_853)))) (Ev.nv (e_lst (e_lcons (em_var rfl r_871) (el_nil (α := ((Option Int) × Int)))) (by simp))) fun _ _ => o_cat)) (Ev.nv (e_sl (em_var rfl r0) (eo_some' (K := K) (em_var rfl r_853)) eo_none)) fun _ _ => o_cat)) fun r F1 H1 v g m p => hQ r F1 H1 v g m p
                  · have G := G.tr g_967
                    have r0 := Rep.mo (K := K) g_967.ff r0
                    have r1 := Rep.mo (K := K) g_967.ff r1
                    have r_853 := Rep.mo (K := K) g_967.ff r_853
                    have r_863 := Rep.mo (K := K) g_967.ff r_863
                    have r_871 := Rep.mo (K := K) g_967.ff r_871
                    have r_877 := Rep.mo (K := K) g_967.ff r_877
                    have r_883 := Rep.mo (K := K) g_967.ff r_883
                    refine s_next ?_
                    refine s_nx ?_
                    refine q_if2 G w (t_of (e2 (em_var rfl r_877) em_int o_eqI)) (fun F_972 H_973 g_974 w => ?_) (fun F_972 H_973 g_974 w => ?_)
                    · have G := G.tr g_974
                      have r0 := Rep.mo (K := K) g_974.ff r0
                      have r1 := Rep.mo (K := K) g_974.ff r1
                      have r_853 := Rep.mo (K := K) g_974.ff r_853
                      have r_863 := Rep.mo (K := K) g_974.ff r_863
                      have r_871 := Rep.mo (K := K) g_974.ff r_871
                      have r_877 := Rep.mo (K := K) g_974.ff r_877
                      have r_883 := Rep.mo (K := K) g_974.ff r_883
                      exact s_ret0 G w (Ev.nv (e_lst (el_nil (α := ((Option Int) × Int))) (by decide))) fun r F1 H1 v g m p => hQ r F1 H1 v g m p
                    · have G := G.tr g_974
                      have r0 := Rep.mo (K := K) g_974.ff r0
                      have r1 := Rep.mo (K := K) g_974.ff r1
                      have r_853 := Rep.mo (K := K) g_974.ff r_853
                      have r_863 := Rep.mo (K := K) g_974.ff r_863
                      have r_871 := Rep.mo (K := K) g_974.ff r_871
                      have r_877 := Rep.mo (K := K) g_974.ff r_877
                      have r_883 := Rep.mo (K := K) g_974.ff r_883
                      refine s_next ?_
                      refine s_nx ?_
                      refine q_asg (K := K) G w (Ev.nv (em_lc (c := (fun x_976 : Int => (M.ok true))) (e := (fun x_976 : Int => (M.ok ((some (x_976 + (1 : Int))), (x_976 % (2 : Int)))))) (ei_rng1 em_int) (tg_name (K := K)) (fun _ _ _ ⟨_, h, _⟩ => by rw [h]; exact wipe1) (fun x_976 _ _ _ g_975 ⟨v_977, h_979, r_978⟩ => by subst h_979; exact t_yes) (fun x_976 _ _ _ g_975 ⟨v_977, h_979, r_978⟩ => by subst h_979; exact (e_tup2 (e_some (e2 (em_var rfl r_978) em_int o_add)) (e2 (em_var rfl r_978) em_int (o_mod (by decide))))))) fun long_981 F_982 H_983 v_985 g_984 r_986 w => ?_
                      have G := G.tr g_984
                      have r0 := Rep.mo (K := K) g_984.ff r0
                      have r1 := Rep.mo (K := K) g_984.ff r1
                      have r_853 := Rep.mo (K := K) g_984.ff r_853
                      have r_863 := Rep.mo (K := K) g_984.ff r_863
                      have r_871 := Rep.mo (K := K) g_984.ff r_871
                      have r_877 := Rep.mo (K := K) g_984.ff r_877
                      have r_883 := Rep.mo (K := K) g_984.ff r_883
                      exact s_ret0 G w (Ev.nv (em_op (em_var rfl r_986) (Ev.nv (e_lst (e_lcons (e_tup2 (em_none (α := Int)) em_int) (el_nil (α := ((Option Int) × Int)))) (by simp))) fun _ _ => o_cat)) fun r F1 H1 v g m p => hQ r F1 H1 v g m p
/-! ### pieces_of -/
abbrev s_pieces_of : Stmt := topS 14
abbrev N_pieces_of : List Str := ["size", "parts", "pairs", "pair"]
theorem sc_pieces_of : FnScope N_pieces_of ["size", "parts"] (defScope s_pieces_of) := ⟨rfl, rfl, rfl, by decide +kernel, rfl, by decide +kernel, by decide +kernel⟩
abbrev sp_pieces_of (K : PySem.W.Frag) (ce : Ce) : Sp := SpF0 ce (RC K (α := Int) (RC K (α := Int) R0)) (rn K (α := (Int × Int))) (fun a : (Int × Int × Unit) => m_pieces_of a.1 a.2.1)
theorem ok_pieces_of {f : Addr} {fd : FuncData} (FF : Fun K "pieces_of" "pieces_of" s_pieces_of f fd) : FnOk P w K mg base CX0 1 f fd ["size", "parts"] (sp_pieces_of K ce) := by
  refine FF.ok sc_pieces_of (fun vs H0 Q E h => ?_) (fun cdv A outer s H0 vs Q E hr h => ?_)
  · obtain ⟨F0, ⟨a0_size, a1_parts, _⟩, e0, ⟨v0, _, rfl, r0, ⟨v1, _, rfl, r1, rfl⟩⟩, w⟩ := h
    rfl
  · obtain ⟨F0, ⟨a0_size, a1_parts, _⟩, e0, ⟨v0, _, rfl, r0, ⟨v1, _, rfl, r1, rfl⟩⟩, w⟩ := h
    have w := wp_post w
    have G := Gr.rf e0
    have nd := sc_pieces_of.nd
    have hQ : ∀ r F1 H1 v, Gr F0 H0 F1 H1 → (rn K (α := (Int × Int))) F0 H0 F1 H1 v r → Fin (rn K (α := (Int × Int))) F0 H0 Q r → Q v H1 := fun r F1 H1 v g m p => p F1 H1 v g m
    refine ⟨_, (pss_cons (ps_set (i := 2) nd rfl (by first | exact Or.inl rfl | exact Or.inr rfl) (pe_lst (pa_cons (pe_tup (pa_cons (pe_op op_fdivW (pv 0) (pv 1)) (pa_cons (pe_op op_sub (pv 1) (pe_op op_mod (pv 0) (pv 1))) pa_nil))) (pa_cons (pe_tup (pa_cons (pe_op op_add (pe_op op_fdivW (pv 0) (pv 1)) pe_int) (pa_cons (pe_op op_mod (pv 0) (pv 1)) pa_nil))) pa_nil))))
      (pss_one (ps_ret (pe_lc (own := [("pair", 3)]) (g := (gName 3)) (by rfl) nd (pi_list (pv 2)) (blkOk_by (own := [("pair", 3)]) (N := N_pieces_of) (sc := defScope s_pieces_of) (by decide +kernel)) (fun _ _ _ _ _ => (pg_name (i := 3) nd rfl (by first | exact Or.inl rfl | exact Or.inr rfl))) (fun _ _ _ _ _ => (pts_one (pt_cmpR op_gt (pe_op op_mulW (pe_ix (r := rIxT K) ix_tup (pv 3) pe_int (fun _ _ => rfl)) (pe_ix (r := rIxT K) ix_tup (pv 3) pe_int (fun _ _ => rfl))) pe_int (nomark _)))) (fun _ _ _ _ _ => (pv 3)))))), ?_⟩
    have w := show Wp ce E0 H0 (m_pieces_of a0_size a1_parts) _ from w
    unfold m_pieces_of at w
    refine q_asg (K := K) G w (Ev.nv (em_lst' (el_cons (em_tup2 (em_op (em_var rfl r0) (em_var rfl r1) fun _ _ => o_fdivM) (em_op (em_var rfl r1) (em_op (em_var rfl r0) (em_var rfl r1) fun _ _ => o_modM) fun _ _ => o_sub)) (el_cons (em_tup2 (em_op (em_op (em_var rfl r0) (em_var rfl r1) fun _ _ => o_fdivM) em_int fun _ _ => o_add) (em_op (em_var rfl r0) (em_var rfl r1) fun _ _ => o_modM)) (el_nil (α := (Int × Int))))))) fun pairs_1079 F_1080 H_1081 v_1083 g_1082 r_1084 w => ?_
    have G := G.tr g_1082
    have r0 := Rep.mo (K := K) g_1082.ff r0
    have r1 := Rep.mo (K := K) g_1082.ff r1
    exact s_retN0 G w (em_lc (c := (fun x_1086 : (Int × Int) => (((M.ok x_1086.1).bind fun x_1089 => (M.ok x_1086.2).bind fun y_1090 => mulM x_1089 y_1090).bind fun x_1091 => (M.ok (0 : Int)).bind fun y_1092 => .ok (decide (y_1092 < x_1091))))) (e := (fun x_1086 : (Int × Int) => (M.ok x_1086))) (ei_list (em_var rfl r_1084)) (tg_name (K := K)) (fun _ _ _ ⟨_, h, _⟩ => by rw [h]; exact wipe1) (fun x_1086 _ _ _ g_1085 ⟨v_1087, h_1093, r_1088⟩ => by subst h_1093; exact (t_of (em_op (em_op (e2 (em_var rfl r_1088) em_int (o_fst rfl)) (e2 (em_var rfl r_1088) em_int (o_snd rfl)) fun _ _ => o_mul) em_int fun _ _ => o_gt))) (fun x_1086 _ _ _ g_1085 ⟨v_1087, h_1093, r_1088⟩ => by subst h_1093; exact (em_var rfl r_1088))) fun r F1 H1 v g m p => hQ r F1 H1 v g m p
/-! ### goes_on -/
abbrev s_goes_on : Stmt := topS 15
abbrev N_goes_on : List Str := ["works", "row", "size", "told", "piece", "many"]
theorem sc_goes_on : FnScope N_goes_on ["works", "row", "size"] (defScope s_goes_on) := ⟨rfl, rfl, rfl, by decide +kernel, rfl, by decide +kernel, by decide +kernel⟩
abbrev sp_goes_on (K : PySem.W.Frag) (ce : Ce) : Sp := SpF0 ce (RC K (α := Wk) (RC K (α := Int) (RC K (α := Int) R0))) (rn K (α := (T3 Int Int Int))) (fun a : (Wk × Int × Int × Unit) => m_goes_on a.1 a.2.1 a.2.2.1)
theorem ok_goes_on {f : Addr} {fd : FuncData} (FF : Fun K "goes_on" "goes_on" s_goes_on f fd) {a_pieces_of : Addr} {d_pieces_of : FuncData} (G_pieces_of : FnOk P w K mg base CX0 1 a_pieces_of d_pieces_of ["size", "parts"] (sp_pieces_of K ce)) (mg_pieces_of : mg "pieces_of" = some (.ref a_pieces_of)) (k_pieces_of : PySem.W.keepIn K (.ref a_pieces_of) = true) (b_pieces_of : Binds K d_pieces_of ["size", "parts"] []) : FnOk P w K mg base CX0 2 f fd ["works", "row", "size"] (sp_goes_on K ce) := by
  refine FF.ok sc_goes_on (fun vs H0 Q E h => ?_) (fun cdv A outer s H0 vs Q E hr h => ?_)
  · obtain ⟨F0, ⟨a0_works, a1_row, a2_size, _⟩, e0, ⟨v0, _, rfl, r0, ⟨v1, _, rfl, r1, ⟨v2, _, rfl, r2, rfl⟩⟩⟩, w⟩ := h
    rfl
  · obtain ⟨F0, ⟨a0_works, a1_row, a2_size, _⟩, e0, ⟨v0, _, rfl, r0, ⟨v1, _, rfl, r1, ⟨v2, _, rfl, r2, rfl⟩⟩⟩, w⟩ := h
    have w := wp_post w
    have G := Gr.rf e0
    have nd := sc_goes_on.nd
    have hQ : ∀ r F1 H1 v, Gr F0 H0 F1 H1 → (rn K (α := (T3 Int Int Int))) F0 H0 F1 H1 v r → Fin (rn K (α := (T3 Int Int Int))) F0 H0 Q r → Q v H1 := fun r F1 H1 v g m p => p F1 H1 v g m
    refine ⟨_, (pss_cons (ps_set (i := 3) nd rfl (by first | exact Or.inl rfl | exact Or.inr rfl) (pe_ix (r := rIxL K) ix_list (pe_fld (pv 0) rfl) (pv 1) (fun _ _ => rfl)))
      (pss_cons (ps_if (pt_cmpR (r := rEqD K) (op_eqD hr.units) (pe_ix (r := rIxT K) ix_tup (pv 3) pe_int (fun _ _ => rfl)) pe_str (nomark _)) (pss_one (ps_ret (pe_lst pa_nil))) pss_nil)
      (pss_cons (ps_if (pt_cmpR (r := rEqD K) (op_eqD hr.units) (pe_ix (r := rIxT K) ix_tup (pv 3) pe_int (fun _ _ => rfl)) pe_str (nomark _)) (pss_one (ps_ret (pe_lc (own := [("piece", 4), ("many", 5)]) (g := (gTup K 2 (gCons (gName 4) (gCons (gName 5) gNil)))) (by rfl) nd (pi_list (pe_call G_pieces_of (hr.mono (by decide)) rfl mg_pieces_of k_pieces_of b_pieces_of .nil pass0 (pa_cons (pv 2) (pa_cons (pe_fld (pv 0) rfl) pa_nil)))) (blkOk_by (own := [("piece", 4), ("many", 5)]) (N := N_goes_on) (sc := defScope s_goes_on) (by decide +kernel)) (fun _ _ _ _ _ => (pg_tup rfl (pgs_cons (pg_name (i := 4) nd rfl (by first | exact Or.inl rfl | exact Or.inr rfl)) (pgs_cons (pg_name (i := 5) nd rfl (by first | exact Or.inl rfl | exact Or.inr rfl)) pgs_nil)))) (fun _ _ _ _ _ => pts_nil) (fun _ _ _ _ _ => (pe_tup (pa_cons (pe_ix (r := rIxT K) ix_tup (pv 3) pe_int (fun _ _ => rfl)) (pa_cons (pv 4) (pa_cons (pv 5) pa_nil)))))))) pss_nil)
      (pss_cons (ps_if (pt_cmpR op_le (pv 2) (pe_ix (r := rIxT K) ix_tup (pv 3) pe_int (fun _ _ => rfl)) (nomark _)) (pss_one (ps_ret (pe_lst (pa_cons (pe_tup (pa_cons (pe_ix (r := rIxT K) ix_tup (pv 3) pe_int (fun _ _ => rfl)) (pa_cons (pv 2) (pa_cons pe_int pa_nil)))) pa_nil)))) pss_nil)
      (pss_one (ps_ret (pe_lst (pa_cons (pe_tup (pa_cons (pe_ix (r := rIxT K) ix_tup (pv 3) pe_int (fun _ _ => rfl)) (pa_cons (pv 2) (pa_cons pe_int pa_nil)))) pa_nil)))))))), ?_⟩
    have w := show Wp ce E0 H0 (m_goes_on a0_works a1_row a2_size) _ from w
    unfold m_goes_on at w
    refine q_asg (K := K) G w (em_op (e_wkr (em_var rfl r0)) (em_var rfl r1) fun _ _ => o_ixL) fun told_1155 F_1156 H_1157 v_1159 g_1158 r_1160 w => ?_
    have G := G.tr g_1158
    have r0 := Rep.mo (K := K) g_1158.ff r0
    have r1 := Rep.mo (K := K) g_1158.ff r1
    have r2 := Rep.mo (K := K) g_1158.ff r2
    refine q_if2 G w (t_of (em_op (em_op (em_var rfl r_1160) em_int fun _ _ => o_rowix) (e_clw (em_wd (by decide +kernel))) fun _ _ => (o_eqD (by decide)))) (fun F_1165 H_1166 g_1167 w => ?_) (fun F_1165 H_1166 g_1167 w => ?_)
    · have G := G.tr g_1167
      have r0 := Rep.mo (K := K) g_1167.ff r0
      have r1 := Rep.mo (K := K) g_1167.ff r1
      have r2 := Rep.mo (K := K) g_1167.ff r2
      have r_1160 := Rep.mo (K := K) g_1167.ff r_1160
      exact s_retN0 G w (e_lst (el_nil (α := (T3 Int Int Int))) (by decide)) fun r F1 H1 v g m p => hQ r F1 H1 v g m p
    · have G := G.tr g_1167
      have r0 := Rep.mo (K := K) g_1167.ff r0
      have r1 := Rep.mo (K := K) g_1167.ff r1
      have r2 := Rep.mo (K := K) g_1167.ff r2
      have r_1160 := Rep.mo (K := K) g_1167.ff r_1160
      refine s_next ?_
      refine s_nx ?_
      refine q_if2 G w (t_of (em_op (em_op (em_var rfl r_1160) em_int fun _ _ => o_rowix) (e_clw (em_wd (by decide +kernel))) fun _ _ => (o_eqD (by decide)))) (fun F_1172 H_1173 g_1174 w => ?_) (fun F_1172 H_1173 g_1174 w => ?_)
      · have G := G.tr g_1174
        have r0 := Rep.mo (K := K) g_1174.ff r0
        have r1 := Rep.mo (K := K) g_1174.ff r1
        have r2 := Rep.mo (K := K) g_1174.ff r2
        have r_1160 := Rep.mo (K := K) g_1174.ff r_1160
        exact s_retN0 G w (em_lc (c := (fun x_1176 : (Int × Int) => (M.ok true))) (e := (fun x_1176 : (Int × Int) => ((((M.ok told_1155).bind fun x_1181 => (M.ok (1 : Int)).bind fun y_1182 => ixM x_1181.cs y_1182).bind clI).bind fun x_1183 => (M.ok x_1176.1).bind fun x_1184 => (M.ok x_1176.2).bind fun x_1185 => .ok (T3.mk x_1183 x_1184 x_1185)))) (ei_list (Ev.nv (e_call0 (f := (fun a : (Int × Int × Unit) => m_pieces_of a.1 a.2.1)) (x := (a2_size, a0_works.parts, ())) (e_cons (em_var rfl r2) (e_cons (e_wkp (em_var rfl r0)) ea_nil))))) (tg_tup2 (K := K)) (fun _ _ _ ⟨_, _, h, _⟩ => by rw [h]; exact wipe2) (fun x_1176 _ _ _ g_1175 ⟨v_1177, v_1179, h_1186, r_1178, r_1180⟩ => by subst h_1186; exact t_yes) (fun x_1176 _ _ _ g_1175 ⟨v_1177, v_1179, h_1186, r_1178, r_1180⟩ => by subst h_1186; exact (em_tup3 (em_clI (em_op (em_var rfl (Rep.mo g_1175.ff r_1160)) em_int fun _ _ => o_rowix)) (em_var rfl r_1178) (em_var rfl r_1180)))) fun r F1 H1 v g m p => hQ r F1 H1 v g m p
      · have G := G.tr g_1174
        have r0 := Rep.mo (K := K) g_1174.ff r0
        have r1 := Rep.mo (K := K) g_1174.ff r1
        have r2 := Rep.mo (K := K) g_1174.ff r2
        have r_1160 := Rep.mo (K := K) g_1174.ff r_1160
        refine s_next ?_
        refine s_nx ?_
        refine q_if2 G w (t_of (em_op (em_var rfl r2) (em_clI (em_op (em_var rfl r_1160) em_int fun _ _ => o_rowix)) fun _ _ => o_le)) (fun F_1192 H_1193 g_1194 w => ?_) (fun F_1192 H_1193 g_1194 w => ?_)
        · have G := G.tr g_1194
          have r0 := Rep.mo (K := K) g_1194.ff r0
          have r1 := Rep.mo (K := K) g_1194.ff r1
          have r2 := Rep.mo (K := K) g_1194.ff r2
          have r_1160 := Rep.mo (K := K) g_1194.ff r_1160
          exact s_retN0 G w (em_lst' (el_cons (em_tup3 (em_clI (em_op (em_var rfl r_1160) em_int fun _ _ => o_rowix)) (em_var rfl r2) em_int) (el_nil (α := (T3 Int Int Int))))) fun r F1 H1 v g m p => hQ r F1 H1 v g m p
        · have G := G.tr g_1194
          have r0 := Rep.mo (K := K) g_1194.ff r0
          have r1 := Rep.mo (K := K) g_1194.ff r1
          have r2 := Rep.mo (K := K) g_1194.ff r2
          have r_1160 := Rep.mo (K := K) g_1194.ff r_1160
          refine s_next ?_
          refine s_nx ?_
          exact s_retN0 G w (em_lst' (el_cons (em_tup3 (em_clI (em_op (em_var rfl r_1160) em_int fun _ _ => o_rowix)) (em_var rfl r2) em_int) (el_nil (α := (T3 Int Int Int))))) fun r F1 H1 v g m p => hQ r F1 H1 v g m p
/-! ### bin_at -/
abbrev s_bin_at : Stmt := topS 23
abbrev N_bin_at : List Str := ["works", "row", "size"]
theorem sc_bin_at : FnScope N_bin_at ["works", "row", "size"] (defScope s_bin_at) := ⟨rfl, rfl, rfl, by decide +kernel, rfl, by decide +kernel, by decide +kernel⟩
abbrev sp_bin_at (K : PySem.W.Frag) (ce : Ce) : Sp := SpF0 ce (RC K (α := Wk) (RC K (α := Int) (RC K (α := Int) R0))) (rv K (ρ := Int)) (fun a : (Wk × Int × Int × Unit) => m_bin_at a.1 a.2.1 a.2.2.1)
theorem ok_bin_at {f : Addr} {fd : FuncData} (FF : Fun K "bin_at" "bin_at" s_bin_at f fd) {a_goes_on : Addr} {d_goes_on : FuncData} (G_goes_on : FnOk P w K mg base CX0 2 a_goes_on d_goes_on ["works", "row", "size"] (sp_goes_on K ce)) (mg_goes_on : mg "goes_on" = some (.ref a_goes_on)) (k_goes_on : PySem.W.keepIn K (.ref a_goes_on) = true) (b_goes_on : Binds K d_goes_on ["works", "row", "size"] []) : FnOk P w K mg base CX0 3 f fd ["works", "row", "size"] (sp_bin_at K ce) := by
  refine FF.ok sc_bin_at (fun vs H0 Q E h => ?_) (fun cdv A outer s H0 vs Q E hr h => ?_)
  · obtain ⟨F0, ⟨a0_works, a1_row, a2_size, _⟩, e0, ⟨v0, _, rfl, r0, ⟨v1, _, rfl, r1, ⟨v2, _, rfl, r2, rfl⟩⟩⟩, w⟩ := h
    rfl
  · obtain ⟨F0, ⟨a0_works, a1_row, a2_size, _⟩, e0, ⟨v0, _, rfl, r0, ⟨v1, _, rfl, r1, ⟨v2, _, rfl, r2, rfl⟩⟩⟩, w⟩ := h
    have w := wp_post w
    have G := Gr.rf e0
    have nd := sc_bin_at.nd
    have hQ : ∀ r F1 H1 v, Gr F0 H0 F1 H1 → (rv K (ρ := Int)) F0 H0 F1 H1 v r → Fin (rv K (ρ := Int)) F0 H0 Q r → Q v H1 := fun r F1 H1 v g m p => p F1 H1 v g m
    refine ⟨_, (pss_cons (ps_while (by first | exact PassesOwn.never | exact passes_of rfl) (pt_cmpR (r := rNeD K) (op_neD hr.units) (pe_ix (r := rIxT K) ix_tup (pe_ix (r := rIxL K) ix_list (pe_fld (pv 0) rfl) (pv 1) (fun _ _ => rfl)) pe_int (fun _ _ => rfl)) pe_str (nomark _)) (pss_one (ps_set (i := 1) nd rfl (by first | exact Or.inl rfl | exact Or.inr rfl) (pe_ix (r := rIxT K) ix_tup (pe_ix (r := rIxL K) ix_list (pe_call G_goes_on (hr.mono (by decide)) rfl mg_goes_on k_goes_on b_goes_on .nil pass0 (pa_cons (pv 0) (pa_cons (pv 1) (pa_cons (pv 2) pa_nil)))) pe_int (fun _ _ => rfl)) pe_int (fun _ _ => rfl)))))
      (pss_one (ps_ret (pe_ix (r := rIxT K) ix_tup (pe_ix (r := rIxL K) ix_list (pe_fld (pv 0) rfl) (pv 1) (fun _ _ => rfl)) pe_int (fun _ _ => rfl))))), ?_⟩
    have w := show Wp ce E0 H0 (m_bin_at a0_works a1_row a2_size) _ from w
    unfold m_bin_at at w
    refine q_while (S := Int) (fun s F' H' σ' => ∃ (v_1260 : V), σ' = [some v0, some v_1260, some v2] ∧ Gr F0 H0 F' H' ∧ Ex F0 F' ∧ rp (α := Int) K F' v_1260 s) ⟨_, rfl, G, Ex.rf _, r1⟩ (fun _ _ _ _ ⟨_, _, G, _⟩ => G) w ?_ ?_ ?_ ?_
    · rintro s_1261 F_1262 H_1263 _ ⟨v_1260, hs_1265, G, e_1266, r_1267⟩
      subst hs_1265
      have r0 := Rep.mo (K := K) e_1266 r0
      have r2 := Rep.mo (K := K) e_1266 r2
      unfold m_bin_at_c1
      exact (t_of (em_op (em_op (em_op (e_wkr (em_var rfl r0)) (em_var rfl r_1267) fun _ _ => o_ixL) em_int fun _ _ => o_rowix) (e_clw (em_wd (by decide +kernel))) fun _ _ => (o_neD (by decide))))
    · rintro s_1261 _ _ _ _ _ ⟨v_1260, hs_1274, G, e_1275, r_1276⟩ g_1277
      subst hs_1274
      exact ⟨_, rfl, G.tr g_1277, Ex.tr e_1275 g_1277.ff, Rep.mo (K := K) g_1277.ff r_1276⟩
    · rintro s_1261 F_1278 H_1279 _ ⟨v_1260, hs_1280, G, e_1281, r_1282⟩ D_1287 P_1288 hrt_1289 hN_1283 hC_1284 hB_1285 hP_1286 w
      subst hs_1280
      have r0 := Rep.mo (K := K) e_1281 r0
      have r2 := Rep.mo (K := K) e_1281 r2
      have hQ : ∀ r F1 H1 v, Gr F0 H0 F1 H1 → (rv K (ρ := Int)) F0 H0 F1 H1 v r → P_1288 (.rt r) → D_1287.rt v H1 := fun r F1 H1 v g m p => by rw [hrt_1289]; exact hQ r F1 H1 v g m (hP_1286 _ p)
      unfold m_bin_at_b1 at w
      refine s_asg (K := K) G w (em_ix (em_op (Ev.nv (e_call0 (f := (fun a : (Wk × Int × Int × Unit) => m_goes_on a.1 a.2.1 a.2.2.1)) (x := (a0_works, s_1261, a2_size, ())) (e_cons (em_var rfl r0) (e_cons (em_var rfl r_1282) (e_cons (em_var rfl r2) ea_nil))))) em_int fun _ _ => o_ixL) em_int fun _ => o_a3 rfl) fun row_1293 F_1294 H_1295 v_1297 g_1296 r_1298 w => ?_
      have G := G.tr g_1296
      have r0 := Rep.mo (K := K) g_1296.ff r0
      have r2 := Rep.mo (K := K) g_1296.ff r2
      have e_1281 := Ex.tr e_1281 g_1296.ff
      exact hN_1283 _ w _ _ _ ⟨_, rfl, G, e_1281, r_1298⟩
    · rintro s_1302 F_1303 H_1304 _ ⟨v_1260, hs_1299, G, e_1300, r_1301⟩ w
      subst hs_1299
      have r0 := Rep.mo (K := K) e_1300 r0
      have r2 := Rep.mo (K := K) e_1300 r2
      exact s_ret0 G w (em_clI (em_op (em_op (e_wkr (em_var rfl r0)) (em_var rfl r_1301) fun _ _ => o_ixL) em_int fun _ _ => o_rowix)) fun r F1 H1 v g m p => hQ r F1 H1 v g m p
/-! ### sizes_looked -/
abbrev s_sizes_looked : Stmt := topS 19
abbrev N_sizes_looked : List Str := ["works", "openings", "row", "opening"]
theorem sc_sizes_looked : FnScope N_sizes_looked ["works"] (defScope s_sizes_looked) := ⟨rfl, rfl, rfl, by decide +kernel, rfl, by decide +kernel, by decide +kernel⟩
abbrev sp_sizes_looked (K : PySem.W.Frag) (ce : Ce) : Sp := SpF0 ce (RC K (α := Wk) R0) (rn K (α := Int)) (fun a : (Wk × Unit) => m_sizes_looked a.1)
theorem ok_sizes_looked {f : Addr} {fd : FuncData} (FF : Fun K "sizes_looked" "sizes_looked" s_sizes_looked f fd) (z_sorted : mg "sorted" = none) : FnOk P w K mg base CX0 1 f fd ["works"] (sp_sizes_looked K ce) := by
  refine FF.ok sc_sizes_looked (fun vs H0 Q E h => ?_) (fun cdv A outer s H0 vs Q E hr h => ?_)
  · obtain ⟨F0, ⟨a0_works, _⟩, e0, ⟨v0, _, rfl, r0, rfl⟩, w⟩ := h
    rfl
  · obtain ⟨F0, ⟨a0_works, _⟩, e0, ⟨v0, _, rfl, r0, rfl⟩, w⟩ := h
    have w := wp_post w
    have G := Gr.rf e0
    have nd := sc_sizes_looked.nd
    have hQ : ∀ r F1 H1 v, Gr F0 H0 F1 H1 → (rn K (α := Int)) F0 H0 F1 H1 v r → Fin (rn K (α := Int)) F0 H0 Q r → Q v H1 := fun r F1 H1 v g m p => p F1 H1 v g m
    refine ⟨_, (pss_cons (by first | exact (ps_setLc (i := 1) (own := [("row", 2)]) (g := (gName 2)) (by rfl) nd rfl rfl (sw_true rfl rfl rfl (by decide +kernel)) (pi_list (pe_fld (pv 0) rfl)) (blkOk_by (own := [("row", 2)]) (N := N_sizes_looked) (sc := defScope s_sizes_looked) (by decide +kernel)) (fun _ _ _ _ _ => (pg_name (i := 2) nd rfl (by first | exact Or.inl rfl | exact Or.inr rfl))) (fun _ _ _ _ _ => (pts_one (pt_cmpR (r := rEqD K) (op_eqD hr.units) (pe_ix (r := rIxT K) ix_tup (pv 2) pe_int (fun _ _ => rfl)) pe_str (nomark _)))) (fun _ _ _ _ _ => (pe_ix (r := rIxT K) ix_tup (pv 2) pe_int (fun _ _ => rfl)))) | exact (ps_set (i := 1) nd rfl (by first | exact Or.inl rfl | exact Or.inr rfl) (pe_lc (own := [("row", 2)]) (g := (gName 2)) (by rfl) nd (pi_list (pe_fld (pv 0) rfl)) (blkOk_by (own := [("row", 2)]) (N := N_sizes_looked) (sc := defScope s_sizes_looked) (by decide +kernel)) (fun _ _ _ _ _ => (pg_name (i := 2) nd rfl (by first | exact Or.inl rfl | exact Or.inr rfl))) (fun _ _ _ _ _ => (pts_one (pt_cmpR (r := rEqD K) (op_eqD hr.units) (pe_ix (r := rIxT K) ix_tup (pv 2) pe_int (fun _ _ => rfl)) pe_str (nomark _)))) (fun _ _ _ _ _ => (pe_ix (r := rIxT K) ix_tup (pv 2) pe_int (fun _ _ => rfl))))))
      (pss_one (ps_ret (pe_callB (r := rSortedI K) cr_sortedI (by rfl) z_sorted (by decide +kernel) (pa_cons (pe_op op_cat (pe_op op_cat (pe_lst (pa_cons pe_int pa_nil)) (pv 1)) (pe_lc (own := [("opening", 3)]) (g := (gName 3)) (by rfl) nd (pi_list (pv 1)) (blkOk_by (own := [("opening", 3)]) (N := N_sizes_looked) (sc := defScope s_sizes_looked) (by decide +kernel)) (fun _ _ _ _ _ => (pg_name (i := 3) nd rfl (by first | exact Or.inl rfl | exact Or.inr rfl))) (fun _ _ _ _ _ => pts_nil) (fun _ _ _ _ _ => (pe_op op_add (pv 3) pe_int)))) pa_nil))))), ?_⟩
    have w := show Wp ce E0 H0 (m_sizes_looked a0_works) _ from w
    unfold m_sizes_looked at w
    refine q_asg (K := K) G w (Ev.nv (em_lc (c := (fun x_1341 : Row => (((M.ok x_1341).bind fun x_1344 => (M.ok (0 : Int)).bind fun y_1345 => ixM x_1344.cs y_1345).bind fun x_1346 => (M.ok (Cl.w (wd (Str.ofString "mesh")))).bind fun y_1347 => .ok (decide (x_1346 = y_1347))))) (e := (fun x_1341 : Row => (((M.ok x_1341).bind fun x_1348 => (M.ok (1 : Int)).bind fun y_1349 => ixM x_1348.cs y_1349).bind clI))) (ei_list (e_wkr (em_var rfl r0))) (tg_name (K := K)) (fun _ _ _ ⟨_, h, _⟩ => by rw [h]; exact wipe1) (fun x_1341 _ _ _ g_1340 ⟨v_1342, h_1350, r_1343⟩ => by subst h_1350; exact (t_of (em_op (em_op (em_var rfl r_1343) em_int fun _ _ => o_rowix) (e_clw (em_wd (by decide +kernel))) fun _ _ => (o_eqD (by decide))))) (fun x_1341 _ _ _ g_1340 ⟨v_1342, h_1350, r_1343⟩ => by subst h_1350; exact (em_clI (em_op (em_var rfl r_1343) em_int fun _ _ => o_rowix))))) fun openings_1352 F_1353 H_1354 v_1356 g_1355 r_1357 w => ?_
    have G := G.tr g_1355
    have r0 := Rep.mo (K := K) g_1355.ff r0
    exact s_retN0 G w (em_cb (ea_cons (Ev.nv (em_op (Ev.nv (em_op (Ev.nv (e_lst (e_lcons em_int (el_nil (α := Int))) (by simp))) (em_var rfl r_1357) fun _ _ => o_cat)) (Ev.nv (em_lc (c := (fun x_1361 : Int => (M.ok true))) (e := (fun x_1361 : Int => (M.ok (x_1361 + (1 : Int))))) (ei_list (em_var rfl r_1357)) (tg_name (K := K)) (fun _ _ _ ⟨_, h, _⟩ => by rw [h]; exact wipe1) (fun x_1361 _ _ _ g_1360 ⟨v_1362, h_1364, r_1363⟩ => by subst h_1364; exact t_yes) (fun x_1361 _ _ _ g_1360 ⟨v_1362, h_1364, r_1363⟩ => by subst h_1364; exact (e2 (em_var rfl r_1363) em_int o_add)))) fun _ _ => o_cat)) ea_nil) fun _ => a_sorted) fun r F1 H1 v g m p => hQ r F1 H1 v g m p
/-! ### whole_to -/
abbrev s_whole_to : Stmt := topS 17
abbrev N_whole_to : List Str := ["works", "row", "size", "told"]
theorem sc_whole_to : FnScope N_whole_to ["works", "row", "size"] (defScope s_whole_to) := ⟨rfl, rfl, rfl, by decide +kernel, rfl, by decide +kernel, by decide +kernel⟩
abbrev sp_whole_to (K : PySem.W.Frag) (ce : Ce) : Sp := SpF0 ce (RC K (α := Wk) (RC K (α := Int) (RC K (α := Int) R0))) (rv K (ρ := (Option Int))) (fun a : (Wk × Int × Int × Unit) => m_whole_to a.1 a.2.1 a.2.2.1)
theorem ok_whole_to {f : Addr} {fd : FuncData} (FF : Fun K "whole_to" "whole_to" s_whole_to f fd) {a_goes_on : Addr} {d_goes_on : FuncData} (G_goes_on : FnOk P w K mg base CX0 2 a_goes_on d_goes_on ["works", "row", "size"] (sp_goes_on K ce)) (mg_goes_on : mg "goes_on" = some (.ref a_goes_on)) (k_goes_on : PySem.W.keepIn K (.ref a_goes_on) = true) (b_goes_on : Binds K d_goes_on ["works", "row", "size"] []) (z_len : mg "len" = none) : FnOk P w K mg base CX0 3 f fd ["works", "row", "size"] (sp_whole_to K ce) := by
  refine FF.ok sc_whole_to (fun vs H0 Q E h => ?_) (fun cdv A outer s H0 vs Q E hr h => ?_)
  · obtain ⟨F0, ⟨a0_works, a1_row, a2_size, _⟩, e0, ⟨v0, _, rfl, r0, ⟨v1, _, rfl, r1, ⟨v2, _, rfl, r2, rfl⟩⟩⟩, w⟩ := h
    rfl
  · obtain ⟨F0, ⟨a0_works, a1_row, a2_size, _⟩, e0, ⟨v0, _, rfl, r0, ⟨v1, _, rfl, r1, ⟨v2, _, rfl, r2, rfl⟩⟩⟩, w⟩ := h
    have w := wp_post w
    have G := Gr.rf e0
    have nd := sc_whole_to.nd
    have hQ : ∀ r F1 H1 v, Gr F0 H0 F1 H1 → (rv K (ρ := (Option Int))) F0 H0 F1 H1 v r → Fin (rv K (ρ := (Option Int))) F0 H0 Q r → Q v H1 := fun r F1 H1 v g m p => p F1 H1 v g m
    refine ⟨_, (pss_cons (ps_set (i := 3) nd rfl (by first | exact Or.inl rfl | exact Or.inr rfl) (pe_call G_goes_on (hr.mono (by decide)) rfl mg_goes_on k_goes_on b_goes_on .nil pass0 (pa_cons (pv 0) (pa_cons (pv 1) (pa_cons (pv 2) pa_nil)))))
      (pss_cons (ps_if (PW.pt (pw_and (pt_cmpR op_eq (pe_callB (r := rLenS K) call_len_seq (by rfl) z_len (by decide +kernel) (pa_cons (pv 3) pa_nil)) pe_int (nomark _)) (pw_and (pt_cmpR op_eq (pe_ix (r := rIxT K) ix_tup (pe_ix (r := rIxL K) ix_list (pv 3) pe_int (fun _ _ => rfl)) pe_int (fun _ _ => rfl)) (pv 2) (nomark _)) (pw_and1 (pt_cmpR op_eq (pe_ix (r := rIxT K) ix_tup (pe_ix (r := rIxL K) ix_list (pv 3) pe_int (fun _ _ => rfl)) pe_int (fun _ _ => rfl)) pe_int (nomark _)))))) (pss_one (ps_ret (pe_ix (r := rIxT K) ix_tup (pe_ix (r := rIxL K) ix_list (pv 3) pe_int (fun _ _ => rfl)) pe_int (fun _ _ => rfl)))) pss_nil)
      (pss_one (ps_ret pe_non)))), ?_⟩
    have w := show Wp ce E0 H0 (m_whole_to a0_works a1_row a2_size) _ from w
    unfold m_whole_to at w
    refine q_asg (K := K) G w (Ev.nv (e_call0 (f := (fun a : (Wk × Int × Int × Unit) => m_goes_on a.1 a.2.1 a.2.2.1)) (x := (a0_works, a1_row, a2_size, ())) (e_cons (em_var rfl r0) (e_cons (em_var rfl r1) (e_cons (em_var rfl r2) ea_nil))))) fun told_1393 F_1394 H_1395 v_1397 g_1396 r_1398 w => ?_
    have G := G.tr g_1396
    have r0 := Rep.mo (K := K) g_1396.ff r0
    have r1 := Rep.mo (K := K) g_1396.ff r1
    have r2 := Rep.mo (K := K) g_1396.ff r2
    refine q_if2 G w (tm_and (t_of (e2 (e_cb (e_cons (em_var rfl r_1398) ea_nil) a_len) em_int o_eqI)) (tm_and (t_of (em_op (em_ix (em_op (em_var rfl r_1398) em_int fun _ _ => o_ixL) em_int fun _ => o_b3 rfl) (em_var rfl r2) fun _ _ => o_eqI)) (t_of (em_op (em_ix (em_op (em_var rfl r_1398) em_int fun _ _ => o_ixL) em_int fun _ => o_c3 rfl) em_int fun _ _ => o_eqI)))) (fun F_1409 H_1410 g_1411 w => ?_) (fun F_1409 H_1410 g_1411 w => ?_)
    · have G := G.tr g_1411
      have r0 := Rep.mo (K := K) g_1411.ff r0
      have r1 := Rep.mo (K := K) g_1411.ff r1
      have r2 := Rep.mo (K := K) g_1411.ff r2
      have r_1398 := Rep.mo (K := K) g_1411.ff r_1398
      exact s_ret0 G w (em_some (em_ix (em_op (em_var rfl r_1398) em_int fun _ _ => o_ixL) em_int fun _ => o_a3 rfl)) fun r F1 H1 v g m p => hQ r F1 H1 v g m p
    · have G := G.tr g_1411
      have r0 := Rep.mo (K := K) g_1411.ff r0
      have r1 := Rep.mo (K := K) g_1411.ff r1
      have r2 := Rep.mo (K := K) g_1411.ff r2
      have r_1398 := Rep.mo (K := K) g_1411.ff r_1398
      refine s_next ?_
      refine s_nx ?_
      exact s_ret0 G w (em_none (α := Int)) fun r F1 H1 v g m p => hQ r F1 H1 v g m p
/-! ### ring_from -/
abbrev s_ring_from : Stmt := topS 18
abbrev N_ring_from : List Str := ["works", "row", "size", "way"]
theorem sc_ring_from : FnScope N_ring_from ["works", "row", "size"] (defScope s_ring_from) := ⟨rfl, rfl, rfl, by decide +kernel, rfl, by decide +kernel, by decide +kernel⟩
abbrev sp_ring_from (K : PySem.W.Frag) (ce : Ce) : Sp := SpF0 ce (RC K (α := Wk) (RC K (α := (Option Int)) (RC K (α := Int) R0))) (rn K (α := Int)) (fun a : (Wk × (Option Int) × Int × Unit) => m_ring_from a.1 a.2.1 a.2.2.1)
theorem ok_ring_from {f : Addr} {fd : FuncData} (FF : Fun K "ring_from" "ring_from" s_ring_from f fd) {a_whole_to : Addr} {d_whole_to : FuncData} (G_whole_to : FnOk P w K mg base CX0 3 a_whole_to d_whole_to ["works", "row", "size"] (sp_whole_to K ce)) (mg_whole_to : mg "whole_to" = some (.ref a_whole_to)) (k_whole_to : PySem.W.keepIn K (.ref a_whole_to) = true) (b_whole_to : Binds K d_whole_to ["works", "row", "size"] []) : FnOk P w K mg base CX0 4 f fd ["works", "row", "size"] (sp_ring_from K ce) := by
  refine FF.ok sc_ring_from (fun vs H0 Q E h => ?_) (fun cdv A outer s H0 vs Q E hr h => ?_)
  · obtain ⟨F0, ⟨a0_works, a1_row, a2_size, _⟩, e0, ⟨v0, _, rfl, r0, ⟨v1, _, rfl, r1, ⟨v2, _, rfl, r2, rfl⟩⟩⟩, w⟩ := h
    rfl
  · obtain ⟨F0, ⟨a0_works, a1_row, a2_size, _⟩, e0, ⟨v0, _, rfl, r0, ⟨v1, _, rfl, r1, ⟨v2, _, rfl, r2, rfl⟩⟩⟩, w⟩ := h
    have w := wp_post w
    have G := Gr.rf e0
    have nd := sc_ring_from.nd
    have hQ : ∀ r F1 H1 v, Gr F0 H0 F1 H1 → (rn K (α := Int)) F0 H0 F1 H1 v r → Fin (rn K (α := Int)) F0 H0 Q r → Q v H1 := fun r F1 H1 v g m p => p F1 H1 v g m
    refine ⟨_, (pss_cons (ps_set (i := 3) nd rfl (by first | exact Or.inl rfl | exact Or.inr rfl) (pe_lst pa_nil))
      (pss_cons (ps_while (by first | exact PassesOwn.never | exact passes_of rfl) (PW.pt (pw_and (pt_cmpR op_notN (pv 1) pe_non (nomark _)) (pw_and1 (pt_cmpR (r := rIn K true) op_notIn_seq (pv 1) (pv 3) (by first | exact nomark _ | rfl | with_unfolding_all rfl))))) (pss_cons (ps_expr (pe_bm PySem.F.plainAttrs_list PySem.F.slot_list_append PySem.F.type_list_append mt_append (pv 3) (pa_cons (pv 1) pa_nil)))
      (pss_one (ps_set (i := 1) nd rfl (by first | exact Or.inl rfl | exact Or.inr rfl) (pe_call G_whole_to (hr.mono (by decide)) rfl mg_whole_to k_whole_to b_whole_to .nil pass0 (pa_cons (pv 0) (pa_cons (pv 1) (pa_cons (pv 2) pa_nil))))))))
      (pss_cons (ps_if (pt_cmpR op_isN (pv 1) pe_non (nomark _)) (pss_one (ps_ret (pe_lst pa_nil))) pss_nil)
      (pss_one (ps_ret (pe_slice (r := rSlL K) sl_list (pv 3) (po_some (pe_bm (r := rIndex K) PySem.F.plainAttrs_list PySem.F.slot_list_index PySem.F.type_list_index mt_index (pv 3) (pa_cons (pv 1) pa_nil))) po_none)))))), ?_⟩
    have w := show Wp ce E0 H0 (m_ring_from a0_works a1_row a2_size) _ from w
    unfold m_ring_from at w
    refine q_asgN (K := K) G w (e_lst (el_nil (α := Int)) (by decide)) fun way_1488 F_1489 H_1490 p_1492 g_1491 n_1493 o_1494 w => ?_
    have n0p_1492 := ex_back G.hh n_1493
    have G := G.tr g_1491
    have r0 := Rep.mo (K := K) g_1491.ff r0
    have r1 := Rep.mo (K := K) g_1491.ff r1
    have r2 := Rep.mo (K := K) g_1491.ff r2
    refine q_while (S := ((List Int) × (Option Int))) (fun s F' H' σ' => ∃ (v_1495 : V), σ' = [some v0, some v_1495, some v2, some (.ref p_1492)] ∧ Gr F0 H0 F' H' ∧ Ex F_1489 F' ∧ Own K (T := (List Int)) F' H' p_1492 s.1 ∧ rp (α := (Option Int)) K F' v_1495 s.2) ⟨_, rfl, G, Ex.rf _, o_1494, r1⟩ (fun _ _ _ _ ⟨_, _, G, _⟩ => G) w ?_ ?_ ?_ ?_
    · rintro s_1496 F_1497 H_1498 _ ⟨v_1495, hs_1500, G, e_1501, o_1502, r_1503⟩
      subst hs_1500
      have r0 := Rep.mo (K := K) e_1501 r0
      have r2 := Rep.mo (K := K) e_1501 r2
      unfold m_ring_from_c1
      exact t_lend [p_1492] (own1 o_1502.f) (own1 o_1502.ls) (tm_and (t_of (e2 (em_var rfl (Rep.mo (fz_ex G.fh) r_1503)) em_unit o_notN)) (t_of (em_op (em_get (em_var rfl (Rep.mo (fz_ex G.fh) r_1503))) (em_var rfl (o_1502.lent G.fh (by simp))) fun _ _ => o_notIn)))
    · rintro s_1496 _ _ _ _ _ ⟨v_1495, hs_1506, G, e_1507, o_1508, r_1509⟩ g_1510
      subst hs_1506
      exact ⟨_, rfl, G.tr g_1510, Ex.tr e_1507 g_1510.ff, o_1508.mo g_1510, Rep.mo (K := K) g_1510.ff r_1509⟩
    · rintro s_1496 F_1511 H_1512 _ ⟨v_1495, hs_1513, G, e_1514, o_1515, r_1516⟩ D_1521 P_1522 hrt_1523 hN_1517 hC_1518 hB_1519 hP_1520 w
      subst hs_1513
      have r0 := Rep.mo (K := K) e_1514 r0
      have r2 := Rep.mo (K := K) e_1514 r2
      have hQ : ∀ r F1 H1 v, Gr F0 H0 F1 H1 → (rn K (α := Int)) F0 H0 F1 H1 v r → P_1522 (.rt r) → D_1521.rt v H1 := fun r F1 H1 v g m p => by rw [hrt_1523]; exact hQ r F1 H1 v g m (hP_1520 _ p)
      unfold m_ring_from_b1 at w
      refine q_app rfl o_1515 n0p_1492 G w (em_get (em_var rfl r_1516)) fun way_1524 F_1525 H_1526 e_1527 G o_1528 hO_1529 w => ?_
      have r0 := Rep.mo (K := K) e_1527 r0
      have r_1516 := Rep.mo (K := K) e_1527 r_1516
      have r2 := Rep.mo (K := K) e_1527 r2
      have e_1514 := Ex.tr e_1514 e_1527
      refine s_asg (K := K) G w (em_call0 (f := (fun a : (Wk × Int × Int × Unit) => m_whole_to a.1 a.2.1 a.2.2.1)) (ea_cons (em_var rfl r0) (ea_cons (em_get (em_var rfl r_1516)) (ea_cons (em_var rfl r2) ea_nil)))) fun row_1538 F_1539 H_1540 v_1542 g_1541 r_1543 w => ?_
      have G := G.tr g_1541
      have r0 := Rep.mo (K := K) g_1541.ff r0
      have r2 := Rep.mo (K := K) g_1541.ff r2
      have o_1528 := o_1528.mo g_1541
      have e_1514 := Ex.tr e_1514 g_1541.ff
      exact hN_1517 _ w _ _ _ ⟨_, rfl, G, e_1514, o_1528, r_1543⟩
    · rintro s_1548 F_1549 H_1550 _ ⟨v_1495, hs_1544, G, e_1545, o_1546, r_1547⟩ w
      subst hs_1544
      have r0 := Rep.mo (K := K) e_1545 r0
      have r2 := Rep.mo (K := K) e_1545 r2
      refine q_if2 G w (t_of (e2 (em_var rfl r_1547) em_unit o_isN)) (fun F_1551 H_1552 g_1553 w => ?_) (fun F_1551 H_1552 g_1553 w => ?_)
      · have G := G.tr g_1553
        have r0 := Rep.mo (K := K) g_1553.ff r0
        have r_1547 := Rep.mo (K := K) g_1553.ff r_1547
        have r2 := Rep.mo (K := K) g_1553.ff r2
        have o_1546 := o_1546.mo g_1553
        exact s_retN0 G w (e_lst (el_nil (α := Int)) (by decide)) fun r F1 H1 v g m p => hQ r F1 H1 v g m p
      · have G := G.tr g_1553
        have r0 := Rep.mo (K := K) g_1553.ff r0
        have r_1547 := Rep.mo (K := K) g_1553.ff r_1547
        have r2 := Rep.mo (K := K) g_1553.ff r2
        have o_1546 := o_1546.mo g_1553
        refine s_next ?_
        refine s_nx ?_
        have GA := gr_fz (A := [p_1492]) G (own1 n0p_1492)
        exact s_retN0 GA w (em_sl (em_var rfl (o_1546.lent G.fh (by simp))) (eo_some (K := K) (em_bmi (em_var rfl (o_1546.lent G.fh (by simp))) (em_get (em_var rfl (Rep.mo (fz_ex G.fh) r_1547))) fun _ _ => o_idx)) eo_none) fun r F1 H1 v g m p => hQ r F1 H1 v g m p
/-! ### ring_of -/
abbrev s_ring_of : Stmt := topS 20
abbrev N_ring_of : List Str := ["works", "size", "row", "ring"]
theorem sc_ring_of : FnScope N_ring_of ["works"] (defScope s_ring_of) := ⟨rfl, rfl, rfl, by decide +kernel, rfl, by decide +kernel, by decide +kernel⟩
abbrev sp_ring_of (K : PySem.W.Frag) (ce : Ce) : Sp := SpF0 ce (RC K (α := Wk) R0) (rv K (ρ := (Option (Int × (List Int))))) (fun a : (Wk × Unit) => m_ring_of a.1)
theorem ok_ring_of {f : Addr} {fd : FuncData} (FF : Fun K "ring_of" "ring_of" s_ring_of f fd) {a_ring_from : Addr} {d_ring_from : FuncData} (G_ring_from : FnOk P w K mg base CX0 4 a_ring_from d_ring_from ["works", "row", "size"] (sp_ring_from K ce)) (mg_ring_from : mg "ring_from" = some (.ref a_ring_from)) (k_ring_from : PySem.W.keepIn K (.ref a_ring_from) = true) (b_ring_from : Binds K d_ring_from ["works", "row", "size"] []) {a_sizes_looked : Addr} {d_sizes_looked : FuncData} (G_sizes_looked : FnOk P w K mg base CX0 1 a_sizes_looked d_sizes_looked ["works"] (sp_sizes_looked K ce)) (mg_sizes_looked : mg "sizes_looked" = some (.ref a_sizes_looked)) (k_sizes_looked : PySem.W.keepIn K (.ref a_sizes_looked) = true) (b_sizes_looked : Binds K d_sizes_looked ["works"] []) (z_len : mg "len" = none) (z_range : mg "range" = none) : FnOk P w K mg base CX0 5 f fd ["works"] (sp_ring_of K ce) := by
  refine FF.ok sc_ring_of (fun vs H0 Q E h => ?_) (fun cdv A outer s H0 vs Q E hr h => ?_)
  · obtain ⟨F0, ⟨a0_works, _⟩, e0, ⟨v0, _, rfl, r0, rfl⟩, w⟩ := h
    rfl
  · obtain ⟨F0, ⟨a0_works, _⟩, e0, ⟨v0, _, rfl, r0, rfl⟩, w⟩ := h
    have w := wp_post w
    have G := Gr.rf e0
    have nd := sc_ring_of.nd
    have hQ : ∀ r F1 H1 v, Gr F0 H0 F1 H1 → (rv K (ρ := (Option (Int × (List Int))))) F0 H0 F1 H1 v r → Fin (rv K (ρ := (Option (Int × (List Int))))) F0 H0 Q r → Q v H1 := fun r F1 H1 v g m p => p F1 H1 v g m
    refine ⟨_, (pss_cons (ps_for (by first | exact PassesOwn.never | exact passes_of rfl) rfl (pi_list (pe_call G_sizes_looked (hr.mono (by decide)) rfl mg_sizes_looked k_sizes_looked b_sizes_looked .nil pass0 (pa_cons (pv 0) pa_nil))) (pg_name (i := 1) nd rfl (by first | exact Or.inl rfl | exact Or.inr rfl)) (pss_one (ps_for (by first | exact PassesOwn.never | exact passes_of rfl) rfl (pi_range1 rfl z_range (pa_cons (pe_callB (r := rLenS K) call_len_seq (by rfl) z_len (by decide +kernel) (pa_cons (pe_fld (pv 0) rfl) pa_nil)) pa_nil)) (pg_name (i := 2) nd rfl (by first | exact Or.inl rfl | exact Or.inr rfl)) (pss_cons (ps_set (i := 3) nd rfl (by first | exact Or.inl rfl | exact Or.inr rfl) (pe_call G_ring_from (hr.mono (by decide)) rfl mg_ring_from k_ring_from b_ring_from .nil pass0 (pa_cons (pv 0) (pa_cons (pv 2) (pa_cons (pv 1) pa_nil)))))
      (pss_one (ps_if (pt_cmpR (r := rNeD K) (op_neD hr.units) (pv 3) (pe_lst pa_nil) (nomark _)) (pss_one (ps_ret (pe_tup (pa_cons (pv 1) (pa_cons (pv 3) pa_nil))))) pss_nil))))))
      (pss_one (ps_ret pe_non))), ?_⟩
    have w := show Wp ce E0 H0 (m_ring_of a0_works) _ from w
    unfold m_ring_of at w
    refine q_for (S := Unit) (fun s F' H' σ' => ∃ (z_1633 : Option V) (z_1634 : Option V) (z_1635 : Option V), σ' = [some v0, z_1633, z_1634, z_1635] ∧ Gr F0 H0 F' H' ∧ Ex F0 F') G (ei_list (Ev.nv (e_call0 (f := (fun a : (Wk × Unit) => m_sizes_looked a.1)) (x := (a0_works, ())) (e_cons (em_var rfl r0) ea_nil)))) (tg_name (K := K)) w (fun _ _ g_1704 => ⟨_, _, _, rfl, G.tr g_1704, g_1704.ff⟩) (fun _ _ _ _ ⟨_, _, _, _, G, _⟩ => G) ?_ ?_
    · rintro x_1637 s_1636 F_1638 H_1639 _ ⟨z_1633, z_1634, z_1635, hs_1640, G, e_1641⟩ F_1642 H_1643 σ_1644 g_1645 ⟨v_1653, h_1655, r_1654⟩ D_1650 P_1651 hrt_1652 hN_1646 hC_1647 hB_1648 hP_1649 w
      subst hs_1640
      subst h_1655
      have r0 := Rep.mo (K := K) e_1641 r0
      have G := G.tr g_1645
      have r0 := Rep.mo (K := K) g_1645.ff r0
      have e_1641 := Ex.tr e_1641 g_1645.ff
      have e_1656 := Ex.rf F_1642
      have hQ : ∀ r F1 H1 v, Gr F0 H0 F1 H1 → (rv K (ρ := (Option (Int × (List Int))))) F0 H0 F1 H1 v r → P_1651 (.rt r) → D_1650.rt v H1 := fun r F1 H1 v g m p => by rw [hrt_1652]; exact hQ r F1 H1 v g m (hP_1649 _ p)
      unfold m_ring_of_b1 at w
      refine s_for (S := Unit) (fun s F' H' σ' => ∃ (z_1657 : Option V) (z_1658 : Option V), σ' = [some v0, some v_1653, z_1657, z_1658] ∧ Gr F0 H0 F' H' ∧ Ex F_1642 F') G (ei_rng1 (e_cb (e_cons (e_wkr (em_var rfl r0)) ea_nil) a_len)) (tg_name (K := K)) w (fun _ _ g_1696 => ⟨_, _, rfl, G.tr g_1696, g_1696.ff⟩) (fun _ _ _ _ ⟨_, _, _, G, _⟩ => G) ?_ ?_
      · rintro x_1660 s_1659 F_1661 H_1662 _ ⟨z_1657, z_1658, hs_1663, G, e_1664⟩ F_1665 H_1666 σ_1667 g_1668 ⟨v_1676, h_1678, r_1677⟩ D_1673 P_1674 hrt_1675 hN_1669 hC_1670 hB_1671 hP_1672 w
        subst hs_1663
        subst h_1678
        have r0 := Rep.mo (K := K) e_1664 r0
        have r_1654 := Rep.mo (K := K) e_1664 r_1654
        have e_1641 := Ex.tr e_1641 e_1664
        have e_1656 := Ex.tr e_1656 e_1664
        have G := G.tr g_1668
        have r0 := Rep.mo (K := K) g_1668.ff r0
        have r_1654 := Rep.mo (K := K) g_1668.ff r_1654
        have e_1641 := Ex.tr e_1641 g_1668.ff
        have e_1656 := Ex.tr e_1656 g_1668.ff
        have e_1664 := Ex.tr e_1664 g_1668.ff
        have e_1679 := Ex.rf F_1665
        have hQ : ∀ r F1 H1 v, Gr F0 H0 F1 H1 → (rv K (ρ := (Option (Int × (List Int))))) F0 H0 F1 H1 v r → P_1674 (.rt (.rt r)) → D_1673.rt v H1 := fun r F1 H1 v g m p => by rw [hrt_1675]; exact hQ r F1 H1 v g m (hP_1672 _ p)
        unfold m_ring_of_b2 at w
        refine q_asg (K := K) G w (Ev.nv (e_call0 (f := (fun a : (Wk × (Option Int) × Int × Unit) => m_ring_from a.1 a.2.1 a.2.2.1)) (x := (a0_works, (some x_1660), x_1637, ())) (e_cons (em_var rfl r0) (e_cons (e_some (em_var rfl r_1677)) (e_cons (em_var rfl r_1654) ea_nil))))) fun ring_1680 F_1681 H_1682 v_1684 g_1683 r_1685 w => ?_
        have G := G.tr g_1683
        have r0 := Rep.mo (K := K) g_1683.ff r0
        have r_1654 := Rep.mo (K := K) g_1683.ff r_1654
        have r_1677 := Rep.mo (K := K) g_1683.ff r_1677
        have e_1641 := Ex.tr e_1641 g_1683.ff
        have e_1656 := Ex.tr e_1656 g_1683.ff
        have e_1664 := Ex.tr e_1664 g_1683.ff
        have e_1679 := Ex.tr e_1679 g_1683.ff
        refine s_if2 G w (t_of (e2 (em_var rfl r_1685) (Ev.nv (e_lst (el_nil (α := Int)) (by decide))) (o_neD (by decide)))) (fun F_1686 H_1687 g_1688 w => ?_) (fun F_1686 H_1687 g_1688 w => ?_)
        · have G := G.tr g_1688
          have r0 := Rep.mo (K := K) g_1688.ff r0
          have r_1654 := Rep.mo (K := K) g_1688.ff r_1654
          have r_1677 := Rep.mo (K := K) g_1688.ff r_1677
          have r_1685 := Rep.mo (K := K) g_1688.ff r_1685
          have e_1641 := Ex.tr e_1641 g_1688.ff
          have e_1656 := Ex.tr e_1656 g_1688.ff
          have e_1664 := Ex.tr e_1664 g_1688.ff
          have e_1679 := Ex.tr e_1679 g_1688.ff
          exact s_ret G w (e_some (e_tup2 (em_var rfl r_1654) (em_var rfl r_1685))) fun r F1 H1 v g m p => hQ r F1 H1 v g m p
        · have G := G.tr g_1688
          have r0 := Rep.mo (K := K) g_1688.ff r0
          have r_1654 := Rep.mo (K := K) g_1688.ff r_1654
          have r_1677 := Rep.mo (K := K) g_1688.ff r_1677
          have r_1685 := Rep.mo (K := K) g_1688.ff r_1685
          have e_1641 := Ex.tr e_1641 g_1688.ff
          have e_1656 := Ex.tr e_1656 g_1688.ff
          have e_1664 := Ex.tr e_1664 g_1688.ff
          have e_1679 := Ex.tr e_1679 g_1688.ff
          refine s_next ?_
          exact hN_1669 _ w _ _ _ e_1679 ⟨_, _, rfl, G, e_1664⟩
      · rintro s_1692 F_1693 H_1694 _ e_1695 ⟨z_1657, z_1658, hs_1690, G, e_1691⟩ w
        subst hs_1690
        have r0 := Rep.mo (K := K) e_1691 r0
        have r_1654 := Rep.mo (K := K) e_1691 r_1654
        have e_1641 := Ex.tr e_1641 e_1691
        have e_1656 := Ex.tr e_1656 e_1691
        exact hN_1646 _ w _ _ _ e_1656 ⟨_, _, _, rfl, G, e_1641⟩
    · rintro s_1700 F_1701 H_1702 _ e_1703 ⟨z_1633, z_1634, z_1635, hs_1698, G, e_1699⟩ w
      subst hs_1698
      have r0 := Rep.mo (K := K) e_1699 r0
      exact s_ret0 G w (em_none (α := (Int × (List Int)))) fun r F1 H1 v g m p => hQ r F1 H1 v g m p
/-! ### form_of -/
abbrev s_form_of : Stmt := topS 24
abbrev N_form_of : List Str := ["works", "row", "told", "openings", "last", "form", "opening", "found"]
theorem sc_form_of : FnScope N_form_of ["works", "row"] (defScope s_form_of) := ⟨rfl, rfl, rfl, by decide +kernel, rfl, by decide +kernel, by decide +kernel⟩
abbrev sp_form_of (K : PySem.W.Frag) (ce : Ce) : Sp := SpF ce (RC K (α := Wk) (RC K (α := Int) R0)) (rn K (α := ((Option Int) × Int))) (fun a : (Wk × Int × Unit) => m_form_of a.1 a.2.1)
theorem ok_form_of {f : Addr} {fd : FuncData} (FF : Fun K "form_of" "form_of" s_form_of f fd) {t_WIDEST : Tok} (c_WIDEST : mg "WIDEST" = some (.int 1000000000000000000000000000000000000000000000000000000000000 t_WIDEST)) (x_HasCrusher : ErrC K mg (ce "HasCrusher") "HasCrusher") (x_Stuck : ErrC K mg (ce "Stuck") "Stuck") {a_bin_at : Addr} {d_bin_at : FuncData} (G_bin_at : FnOk P w K mg base CX0 3 a_bin_at d_bin_at ["works", "row", "size"] (sp_bin_at K ce)) (mg_bin_at : mg "bin_at" = some (.ref a_bin_at)) (k_bin_at : PySem.W.keepIn K (.ref a_bin_at) = true) (b_bin_at : Binds K d_bin_at ["works", "row", "size"] []) {a_ring_of : Addr} {d_ring_of : FuncData} (G_ring_of : FnOk P w K mg base CX0 5 a_ring_of d_ring_of ["works"] (sp_ring_of K ce)) (mg_ring_of : mg "ring_of" = some (.ref a_ring_of)) (k_ring_of : PySem.W.keepIn K (.ref a_ring_of) = true) (b_ring_of : Binds K d_ring_of ["works"] []) (z_len : mg "len" = none) (z_reversed : mg "reversed" = none) (z_set : mg "set" = none) (z_sorted : mg "sorted" = none) : FnOk P w K mg base (L2.CX P w) 6 f fd ["works", "row"] (sp_form_of K ce) := by
  refine FF.okX sc_form_of (fun vs H0 Q E h => ?_) (fun cdv A outer s H0 vs Q E hr h => ?_)
  · obtain ⟨F0, ⟨a0_works, a1_row, _⟩, e0, ⟨v0, _, rfl, r0, ⟨v1, _, rfl, r1, rfl⟩⟩, w⟩ := h
    rfl
  · obtain ⟨F0, ⟨a0_works, a1_row, _⟩, e0, ⟨v0, _, rfl, r0, ⟨v1, _, rfl, r1, rfl⟩⟩, w⟩ := h
    have w := wp_post w
    have G := Gr.rf e0
    have nd := sc_form_of.nd
    have hQ : ∀ r F1 H1 v, Gr F0 H0 F1 H1 → (rn K (α := ((Option Int) × Int))) F0 H0 F1 H1 v r → Fin (rn K (α := ((Option Int) × Int))) F0 H0 Q r → Q v H1 := fun r F1 H1 v g m p => p F1 H1 v g m
    refine ⟨_, (pss_cons (ps_if (pt_cmpR op_gt (pe_callB (r := rLenS K) call_len_seq (by rfl) z_len (by decide +kernel) (pa_cons (pe_lc (own := [("told", 2)]) (g := (gName 2)) (by rfl) nd (pi_list (pe_fld (pv 0) rfl)) (blkOk_by (own := [("told", 2)]) (N := N_form_of) (sc := defScope s_form_of) (by decide +kernel)) (fun _ _ _ _ _ => (pg_name (i := 2) nd rfl (by first | exact Or.inl rfl | exact Or.inr rfl))) (fun _ _ _ _ _ => (pts_one (pt_cmpR (r := rEqD K) (op_eqD hr.units) (pe_ix (r := rIxT K) ix_tup (pv 2) pe_int (fun _ _ => rfl)) pe_str (nomark _)))) (fun _ _ _ _ _ => (pv 2))) pa_nil)) pe_int (nomark _)) (pss_one (ps_raise rfl (takes_of rfl rfl rfl rfl) (pmk_own PySem.F.excBase_ValueError x_HasCrusher.x x_HasCrusher.g x_HasCrusher.k (raises_own x_HasCrusher.b x_HasCrusher.t) rfl))) pss_nil)
      (pss_cons (ps_if (pt_cmpR op_notN (pe_call G_ring_of (hr.mono (by decide)) rfl mg_ring_of k_ring_of b_ring_of .nil pass0 (pa_cons (pv 0) pa_nil)) pe_non (nomark _)) (pss_one (ps_raise rfl (takes_of rfl rfl rfl rfl) (pmk_own PySem.F.excBase_ValueError x_Stuck.x x_Stuck.g x_Stuck.k (raises_own x_Stuck.b x_Stuck.t) rfl))) pss_nil)
      (pss_cons (ps_set (i := 3) nd rfl (by first | exact Or.inl rfl | exact Or.inr rfl) (pe_callB (r := rSortedSet _) (cr_sortedSet rfl) (by rfl) z_sorted (by decide +kernel) (pa_cons (pe_callTy (r := rSetI K _) (cr_setI rfl) (by rfl) z_set (by decide +kernel) (pa_cons (pe_lc (own := [("told", 2)]) (g := (gName 2)) (by rfl) nd (pi_list (pe_fld (pv 0) rfl)) (blkOk_by (own := [("told", 2)]) (N := N_form_of) (sc := defScope s_form_of) (by decide +kernel)) (fun _ _ _ _ _ => (pg_name (i := 2) nd rfl (by first | exact Or.inl rfl | exact Or.inr rfl))) (fun _ _ _ _ _ => (pts_one (pt_cmpR (r := rEqD K) (op_eqD hr.units) (pe_ix (r := rIxT K) ix_tup (pv 2) pe_int (fun _ _ => rfl)) pe_str (nomark _)))) (fun _ _ _ _ _ => (pe_ix (r := rIxT K) ix_tup (pv 2) pe_int (fun _ _ => rfl)))) pa_nil)) pa_nil)))
      (pss_cons (ps_set (i := 4) nd rfl (by first | exact Or.inl rfl | exact Or.inr rfl) (pe_call G_bin_at (hr.mono (by decide)) rfl mg_bin_at k_bin_at b_bin_at .nil pass0 (pa_cons (pv 0) (pa_cons (pv 1) (pa_cons (pe_op op_add (pe_glob (v := .int 1000000000000000000000000000000000000000000000000000000000000) rfl c_WIDEST ⟨_, rfl⟩) pe_int) pa_nil)))))
      (pss_cons (ps_set (i := 5) nd rfl (by first | exact Or.inl rfl | exact Or.inr rfl) (pe_lst (pa_cons (pe_tup (pa_cons pe_non (pa_cons (pv 4) pa_nil))) pa_nil)))
      (pss_cons (ps_for (by first | exact PassesOwn.never | exact passes_of rfl) rfl (pi_reversed (by rfl) z_reversed (pa_cons (pv 3) pa_nil)) (pg_name (i := 6) nd rfl (by first | exact Or.inl rfl | exact Or.inr rfl)) (pss_cons (ps_set (i := 7) nd rfl (by first | exact Or.inl rfl | exact Or.inr rfl) (pe_call G_bin_at (hr.mono (by decide)) rfl mg_bin_at k_bin_at b_bin_at .nil pass0 (pa_cons (pv 0) (pa_cons (pv 1) (pa_cons (pv 6) pa_nil)))))
      (pss_one (ps_if (pt_cmpR op_ne (pv 7) (pe_ix (r := rIxT K) ix_tup (pe_ix (r := rIxL K) ix_list (pv 5) pe_int (fun _ _ => rfl)) pe_int (fun _ _ => rfl)) (nomark _)) (pss_one (ps_expr (pe_bm (r := rIns) PySem.F.plainAttrs_list PySem.F.slot_list_insert PySem.F.type_list_insert mt_insert (pv 5) (pa_cons pe_int (pa_cons (pe_tup (pa_cons (pv 6) (pa_cons (pv 7) pa_nil))) pa_nil))))) pss_nil))))
      (pss_one (ps_ret (pv 5))))))))), ?_⟩
    have w := show Wp ce E H0 (m_form_of a0_works a1_row) _ from w
    unfold m_form_of at w
    refine q_if2 G w (t_of (em_op (em_cb (ea_cons (Ev.nv (em_lc (c := (fun x_1819 : Row => (((M.ok x_1819).bind fun x_1822 => (M.ok (0 : Int)).bind fun y_1823 => ixM x_1822.cs y_1823).bind fun x_1824 => (M.ok (Cl.w (wd (Str.ofString "crush")))).bind fun y_1825 => .ok (decide (x_1824 = y_1825))))) (e := (fun x_1819 : Row => (M.ok x_1819))) (ei_list (e_wkr (em_var rfl r0))) (tg_name (K := K)) (fun _ _ _ ⟨_, h, _⟩ => by rw [h]; exact wipe1) (fun x_1819 _ _ _ g_1818 ⟨v_1820, h_1826, r_1821⟩ => by subst h_1826; exact (t_of (em_op (em_op (em_var rfl r_1821) em_int fun _ _ => o_rowix) (e_clw (em_wd (by decide +kernel))) fun _ _ => (o_eqD (by decide))))) (fun x_1819 _ _ _ g_1818 ⟨v_1820, h_1826, r_1821⟩ => by subst h_1826; exact (em_var rfl r_1821)))) ea_nil) fun _ => a_len) em_int fun _ _ => o_gt)) (fun F_1833 H_1834 g_1835 w => ?_) (fun F_1833 H_1834 g_1835 w => ?_)
    · have G := G.tr g_1835
      have r0 := Rep.mo (K := K) g_1835.ff r0
      have r1 := Rep.mo (K := K) g_1835.ff r1
      exact w _ G.hh
    · have G := G.tr g_1835
      have r0 := Rep.mo (K := K) g_1835.ff r0
      have r1 := Rep.mo (K := K) g_1835.ff r1
      refine s_next ?_
      refine s_nx ?_
      refine q_if2 G w (t_of (em_op (e_call0 (f := (fun a : (Wk × Unit) => m_ring_of a.1)) (x := (a0_works, ())) (e_cons (em_var rfl r0) ea_nil)) em_unit fun _ _ => o_notN)) (fun F_1838 H_1839 g_1840 w => ?_) (fun F_1838 H_1839 g_1840 w => ?_)
      · have G := G.tr g_1840
        have r0 := Rep.mo (K := K) g_1840.ff r0
        have r1 := Rep.mo (K := K) g_1840.ff r1
        exact w _ G.hh
      · have G := G.tr g_1840
        have r0 := Rep.mo (K := K) g_1840.ff r0
        have r1 := Rep.mo (K := K) g_1840.ff r1
        refine s_next ?_
        refine s_nx ?_
        refine q_asg (K := K) G w (Ev.nv (em_sortU (Ev.nv (em_lc (c := (fun x_1842 : Row => (((M.ok x_1842).bind fun x_1845 => (M.ok (0 : Int)).bind fun y_1846 => ixM x_1845.cs y_1846).bind fun x_1847 => (M.ok (Cl.w (wd (Str.ofString "mesh")))).bind fun y_1848 => .ok (decide (x_1847 = y_1848))))) (e := (fun x_1842 : Row => (((M.ok x_1842).bind fun x_1849 => (M.ok (1 : Int)).bind fun y_1850 => ixM x_1849.cs y_1850).bind clI))) (ei_list (e_wkr (em_var rfl r0))) (tg_name (K := K)) (fun _ _ _ ⟨_, h, _⟩ => by rw [h]; exact wipe1) (fun x_1842 _ _ _ g_1841 ⟨v_1843, h_1851, r_1844⟩ => by subst h_1851; exact (t_of (em_op (em_op (em_var rfl r_1844) em_int fun _ _ => o_rowix) (e_clw (em_wd (by decide +kernel))) fun _ _ => (o_eqD (by decide))))) (fun x_1842 _ _ _ g_1841 ⟨v_1843, h_1851, r_1844⟩ => by subst h_1851; exact (em_clI (em_op (em_var rfl r_1844) em_int fun _ _ => o_rowix))))))) fun openings_1853 F_1854 H_1855 v_1857 g_1856 r_1858 w => ?_
        have G := G.tr g_1856
        have r0 := Rep.mo (K := K) g_1856.ff r0
        have r1 := Rep.mo (K := K) g_1856.ff r1
        refine q_asg (K := K) G w (e_call0 (f := (fun a : (Wk × Int × Int × Unit) => m_bin_at a.1 a.2.1 a.2.2.1)) (x := (a0_works, a1_row, ((1000000000000000000000000000000000000000000000000000000000000) + (1 : Int)), ())) (e_cons (em_var rfl r0) (e_cons (em_var rfl r1) (e_cons (e2 em_int em_int o_add) ea_nil)))) fun last_1859 F_1860 H_1861 v_1863 g_1862 r_1864 w => ?_
        have G := G.tr g_1862
        have r0 := Rep.mo (K := K) g_1862.ff r0
        have r1 := Rep.mo (K := K) g_1862.ff r1
        have r_1858 := Rep.mo (K := K) g_1862.ff r_1858
        refine q_asgN (K := K) G w (e_lst (e_lcons (e_tup2 (em_none (α := Int)) (em_var rfl r_1864)) (el_nil (α := ((Option Int) × Int)))) (by simp)) fun form_1865 F_1866 H_1867 p_1869 g_1868 n_1870 o_1871 w => ?_
        have n0p_1869 := ex_back G.hh n_1870
        have G := G.tr g_1868
        have r0 := Rep.mo (K := K) g_1868.ff r0
        have r1 := Rep.mo (K := K) g_1868.ff r1
        have r_1858 := Rep.mo (K := K) g_1868.ff r_1858
        have r_1864 := Rep.mo (K := K) g_1868.ff r_1864
        refine q_for (S := (List ((Option Int) × Int))) (fun s F' H' σ' => ∃ (z_1872 : Option V) (z_1873 : Option V), σ' = [some v0, some v1, none, some v_1857, some v_1863, some (.ref p_1869), z_1872, z_1873] ∧ Gr F0 H0 F' H' ∧ Ex F_1866 F' ∧ Own K (T := (List ((Option Int) × Int))) F' H' p_1869 s) G (ei_rev (em_var rfl r_1858)) (tg_name (K := K)) w (fun _ _ g_1925 => ⟨_, _, rfl, G.tr g_1925, g_1925.ff, o_1871.mo g_1925⟩) (fun _ _ _ _ ⟨_, _, _, G, _⟩ => G) ?_ ?_
        · rintro x_1875 s_1874 F_1876 H_1877 _ ⟨z_1872, z_1873, hs_1878, G, e_1879, o_1880⟩ F_1881 H_1882 σ_1883 g_1884 ⟨v_1892, h_1894, r_1893⟩ D_1889 P_1890 hrt_1891 hN_1885 hC_1886 hB_1887 hP_1888 w
          subst hs_1878
          subst h_1894
          have r0 := Rep.mo (K := K) e_1879 r0
          have r1 := Rep.mo (K := K) e_1879 r1
          have r_1858 := Rep.mo (K := K) e_1879 r_1858
          have r_1864 := Rep.mo (K := K) e_1879 r_1864
          have G := G.tr g_1884
          have r0 := Rep.mo (K := K) g_1884.ff r0
          have r1 := Rep.mo (K := K) g_1884.ff r1
          have r_1858 := Rep.mo (K := K) g_1884.ff r_1858
          have r_1864 := Rep.mo (K := K) g_1884.ff r_1864
          have o_1880 := o_1880.mo g_1884
          have e_1879 := Ex.tr e_1879 g_1884.ff
          have e_1895 := Ex.rf F_1881
          have hQ : ∀ r F1 H1 v, Gr F0 H0 F1 H1 → (rn K (α := ((Option Int) × Int))) F0 H0 F1 H1 v r → P_1890 (.rt r) → D_1889.rt v H1 := fun r F1 H1 v g m p => by rw [hrt_1891]; exact hQ r F1 H1 v g m (hP_1888 _ p)
          unfold m_form_of_b1 at w
          refine q_asg (K := K) G w (e_call0 (f := (fun a : (Wk × Int × Int × Unit) => m_bin_at a.1 a.2.1 a.2.2.1)) (x := (a0_works, a1_row, x_1875, ())) (e_cons (em_var rfl r0) (e_cons (em_var rfl r1) (e_cons (em_var rfl r_1893) ea_nil)))) fun found_1896 F_1897 H_1898 v_1900 g_1899 r_1901 w => ?_
          have G := G.tr g_1899
          have r0 := Rep.mo (K := K) g_1899.ff r0
          have r1 := Rep.mo (K := K) g_1899.ff r1
          have r_1858 := Rep.mo (K := K) g_1899.ff r_1858
          have r_1864 := Rep.mo (K := K) g_1899.ff r_1864
          have o_1880 := o_1880.mo g_1899
          have r_1893 := Rep.mo (K := K) g_1899.ff r_1893
          have e_1879 := Ex.tr e_1879 g_1899.ff
          have e_1895 := Ex.tr e_1895 g_1899.ff
          refine s_if2A [p_1869] G w (own1 o_1880.f) (own1 o_1880.ls) (t_of (em_op (em_var rfl (Rep.mo (fz_ex G.fh) r_1901)) (em_ix (em_op (em_var rfl (o_1880.lent G.fh (by simp))) em_int fun _ _ => o_ixL) em_int fun _ => o_snd rfl) fun _ _ => o_neI)) (fun F_1907 H_1908 g_1909 w => ?_) (fun F_1907 H_1908 g_1909 w => ?_)
          · have G := G.tr g_1909
            have r0 := Rep.mo (K := K) g_1909.ff r0
            have r1 := Rep.mo (K := K) g_1909.ff r1
            have r_1858 := Rep.mo (K := K) g_1909.ff r_1858
            have r_1864 := Rep.mo (K := K) g_1909.ff r_1864
            have o_1880 := o_1880.mo g_1909
            have r_1893 := Rep.mo (K := K) g_1909.ff r_1893
            have r_1901 := Rep.mo (K := K) g_1909.ff r_1901
            have e_1879 := Ex.tr e_1879 g_1909.ff
            have e_1895 := Ex.tr e_1895 g_1909.ff
            refine s_insl [] rfl o_1880 n0p_1869 G w (fun _ m => nomatch m) (fun _ m => nomatch m) em_int (e_tup2 (e_some (em_var rfl (Rep.mo (fz_ex G.fh) r_1893))) (em_var rfl (Rep.mo (fz_ex G.fh) r_1901))) fun form_1910 F_1911 H_1912 e_1913 G o_1914 hO_1915 w => ?_
            have r0 := Rep.mo (K := K) e_1913 r0
            have r1 := Rep.mo (K := K) e_1913 r1
            have r_1858 := Rep.mo (K := K) e_1913 r_1858
            have r_1864 := Rep.mo (K := K) e_1913 r_1864
            have r_1893 := Rep.mo (K := K) e_1913 r_1893
            have r_1901 := Rep.mo (K := K) e_1913 r_1901
            have e_1879 := Ex.tr e_1879 e_1913
            have e_1895 := Ex.tr e_1895 e_1913
            exact hN_1885 _ w _ _ _ e_1895 ⟨_, _, rfl, G, e_1879, o_1914⟩
          · have G := G.tr g_1909
            have r0 := Rep.mo (K := K) g_1909.ff r0
            have r1 := Rep.mo (K := K) g_1909.ff r1
            have r_1858 := Rep.mo (K := K) g_1909.ff r_1858
            have r_1864 := Rep.mo (K := K) g_1909.ff r_1864
            have o_1880 := o_1880.mo g_1909
            have r_1893 := Rep.mo (K := K) g_1909.ff r_1893
            have r_1901 := Rep.mo (K := K) g_1909.ff r_1901
            have e_1879 := Ex.tr e_1879 g_1909.ff
            have e_1895 := Ex.tr e_1895 g_1909.ff
            refine s_next ?_
            exact hN_1885 _ w _ _ _ e_1895 ⟨_, _, rfl, G, e_1879, o_1880⟩
        · rintro s_1921 F_1922 H_1923 _ e_1924 ⟨z_1872, z_1873, hs_1918, G, e_1919, o_1920⟩ w
          subst hs_1918
          have r0 := Rep.mo (K := K) e_1919 r0
          have r1 := Rep.mo (K := K) e_1919 r1
          have r_1858 := Rep.mo (K := K) e_1919 r_1858
          have r_1864 := Rep.mo (K := K) e_1919 r_1864
          exact ⟨_, rfl, hQ _ _ _ _ G (rn_own o_1920 n0p_1869) w⟩
/-! ### _law_word -/
abbrev s_law_word : Stmt := topS 32
abbrev N_law_word : List Str := ["form", "word", "e"]
theorem sc_law_word : FnScope N_law_word ["form"] (defScope s_law_word) := ⟨rfl, rfl, rfl, by decide +kernel, rfl, by decide +kernel, by decide +kernel⟩
abbrev sp_law_word (K : PySem.W.Frag) (ce : Ce) : Sp := SpF0 ce (RC K (α := (List ((Option Int) × Int))) R0) (rv K (ρ := Wd)) (fun a : ((List ((Option Int) × Int)) × Unit) => m_law_word a.1)
theorem ok_law_word {f : Addr} {fd : FuncData} (FF : Fun K "_law_word" "_law_word" s_law_word f fd) (mc_BadCurve : mg "BadCurve" = some (.ref (ce "BadCurve"))) (mc_BadForm : mg "BadForm" = some (.ref (ce "BadForm"))) (mc_BadWorks : mg "BadWorks" = some (.ref (ce "BadWorks"))) (mc_MeshError : mg "MeshError" = some (.ref (ce "MeshError"))) {a_works_by : Addr} {d_works_by : FuncData} (G_works_by : FnOk P w K mg base (L2.CX P w) 4 a_works_by d_works_by ["form", "parts"] (sp_works_by K ce)) (mg_works_by : mg "works_by" = some (.ref a_works_by)) (k_works_by : PySem.W.keepIn K (.ref a_works_by) = true) (b_works_by : Binds K d_works_by ["form", "parts"] []) (ki_BadForm_BadCurve : PySem.W.kitOne K (.ref (ce "BadForm")) (.ref (ce "BadCurve")) = some false) (ki_BadForm_BadForm : PySem.W.kitOne K (.ref (ce "BadForm")) (.ref (ce "BadForm")) = some true) (ki_BadForm_BadWorks : PySem.W.kitOne K (.ref (ce "BadForm")) (.ref (ce "BadWorks")) = some false) (ki_BadForm_ValueError : PySem.W.kitOne K (.ref (ce "BadForm")) (.type "ValueError") = some true) (ki_BadWorks_BadCurve : PySem.W.kitOne K (.ref (ce "BadWorks")) (.ref (ce "BadCurve")) = some false) (ki_BadWorks_BadForm : PySem.W.kitOne K (.ref (ce "BadWorks")) (.ref (ce "BadForm")) = some false) (ki_BadWorks_BadWorks : PySem.W.kitOne K (.ref (ce "BadWorks")) (.ref (ce "BadWorks")) = some true) (ki_BadWorks_ValueError : PySem.W.kitOne K (.ref (ce "BadWorks")) (.type "ValueError") = some true) (xc_BadForm : ExcC K (ce "BadForm")) (xc_BadWorks : ExcC K (ce "BadWorks")) (xm_BadForm_MeshError : PySem.W.exmOne K (.ref (ce "BadForm")) (.ref (ce "MeshError")) = some true) (xm_BadWorks_MeshError : PySem.W.exmOne K (.ref (ce "BadWorks")) (.ref (ce "MeshError")) = some true) (z_ValueError : mg "ValueError" = none) (z_isinstance : mg "isinstance" = none) : FnOk P w K mg base CX0 5 f fd ["form"] (sp_law_word K ce) := by
  refine FF.ok sc_law_word (fun vs H0 Q E h => ?_) (fun cdv A outer s H0 vs Q E hr h => ?_)
  · obtain ⟨F0, ⟨a0_form, _⟩, e0, ⟨v0, _, rfl, r0, rfl⟩, w⟩ := h
    rfl
  · obtain ⟨F0, ⟨a0_form, _⟩, e0, ⟨v0, _, rfl, r0, rfl⟩, w⟩ := h
    have w := wp_post w
    have G := Gr.rf e0
    have nd := sc_law_word.nd
    have hQ : ∀ r F1 H1 v, Gr F0 H0 F1 H1 → (rv K (ρ := Wd)) F0 H0 F1 H1 v r → Fin (rv K (ρ := Wd)) F0 H0 Q r → Q v H1 := fun r F1 H1 v g m p => p F1 H1 v g m
    refine ⟨_, (pss_cons (ps_set (i := 1) nd rfl (by first | exact Or.inl rfl | exact Or.inr rfl) pe_str)
      (pss_cons (ps_tryA (i := 2) rfl rfl nd rfl rfl ⟨rfl, by decide, .inl mc_MeshError⟩ takes0 (fun W pn xe tk _ => (pss_one (ps_expr (pe_callS G_works_by (hr.mono (by decide)) rfl mg_works_by k_works_by b_works_by (fun σ => passAt tk σ) (pa_cons (pv 0) (pa_cons pe_int pa_nil)))))) (suite_by fun C a oe pn xc hz hf => (pss_cons (ps_set (i := 1) nd rfl (by first | exact Or.inl rfl | exact Or.inr rfl) pe_str)
      (pss_cons (ps_if (PW.pt (pw_and (pt_val (pe_callB (r := rIsE K C a) (call_isE xc hz hf) (by rfl) z_isinstance (by decide +kernel) (pa_cons (pv 2) (pa_cons (pe_glob (v := .ref (ce "BadForm")) rfl mc_BadForm rfl) pa_nil)))) (pw_and1 (pt_val (pe_callB (r := rIsE K C a) (call_isE xc hz hf) (by rfl) z_isinstance (by decide +kernel) (pa_cons (pv 2) (pa_cons (pe_bltn (v := .ty "ValueError") (by rfl) z_ValueError (by decide +kernel) rfl) pa_nil))))))) (pss_one (ps_set (i := 1) nd rfl (by first | exact Or.inl rfl | exact Or.inr rfl) pe_str)) pss_nil)
      (pss_one (ps_if (PW.pt (pw_or (pt_val (pe_callB (r := rIsE K C a) (call_isE xc hz hf) (by rfl) z_isinstance (by decide +kernel) (pa_cons (pv 2) (pa_cons (pe_glob (v := .ref (ce "BadWorks")) rfl mc_BadWorks rfl) pa_nil)))) (pw_or1 (pt_val (pe_callB (r := rIsE K C a) (call_isE xc hz hf) (by rfl) z_isinstance (by decide +kernel) (pa_cons (pv 2) (pa_cons (pe_glob (v := .ref (ce "BadCurve")) rfl mc_BadCurve rfl) pa_nil))))))) (pss_one (ps_set (i := 1) nd rfl (by first | exact Or.inl rfl | exact Or.inr rfl) pe_str)) pss_nil))))))
      (pss_one (ps_ret (pv 1))))), ?_⟩
    have w := show Wp ce E0 H0 (m_law_word a0_form) _ from w
    unfold m_law_word at w
    refine q_asg (K := K) G w (em_wd (by decide +kernel)) fun word_2028 F_2029 H_2030 v_2032 g_2031 r_2033 w => ?_
    have G := G.tr g_2031
    have r0 := Rep.mo (K := K) g_2031.ff r0
    refine q_tryAs (α := Unit) (fun z : Unit => [some v0, some v_2032, none]) (fun s F' H' σ' => σ' = [some v0, some v_2032, none] ∧ Gr F0 H0 F' H' ∧ Ex F_2029 F') w ?_ ?_ ?_
    · rintro ⟨c_2052⟩ H_2053 z_2054 e_2051 w
      by_cases h_2127 : c_2052 = "BadForm"
      · subst h_2127
        replace w := wp_pos rfl w
        have G := G.er e_2051
        refine was_yes xm_BadForm_MeshError xc_BadForm fun a_2055 n_2056 => ?_
        refine q_asg (K := K) G w (em_wd (by decide +kernel)) fun word_2057 F_2058 H_2059 v_2061 g_2060 r_2062 w => ?_
        have G := G.tr g_2060
        have r0 := Rep.mo (K := K) g_2060.ff r0
        refine q_join (W := Wd) (fun s F' H' σ' => ∃ (v_2067 : V), σ' = [some v0, some v_2067, some (.ref a_2055)] ∧ Gr F0 H0 F' H' ∧ Ex F_2058 F' ∧ rp (α := Wd) K F' v_2067 s) w ?_ ?_
        · rintro s_2066 F_2071 H_2072 σs_2066 ⟨v_2067, hs_2068, G, e_2069, r_2070⟩ w
          subst hs_2068
          have r0 := Rep.mo (K := K) e_2069 r0
          refine s_if2 G w (t_or (t_B (e_isE (b := false) rfl (fun _ h => h) ki_BadForm_BadWorks)) (t_B (e_isE (b := false) rfl (fun _ h => h) ki_BadForm_BadCurve))) (fun F_2073 H_2074 g_2075 w => ?_) (fun F_2073 H_2074 g_2075 w => ?_)
          · have G := G.tr g_2075
            have r0 := Rep.mo (K := K) g_2075.ff r0
            have r_2070 := Rep.mo (K := K) g_2075.ff r_2070
            refine s_asg (K := K) G w (em_wd (by decide +kernel)) fun word_2076 F_2077 H_2078 v_2080 g_2079 r_2081 w => ?_
            have G := G.tr g_2079
            have r0 := Rep.mo (K := K) g_2079.ff r0
            refine s_nx ?_
            exact s_ret0 G w (em_var rfl r_2081) fun r F1 H1 v g m p => hQ r F1 H1 v g m p
          · have G := G.tr g_2075
            have r0 := Rep.mo (K := K) g_2075.ff r0
            have r_2070 := Rep.mo (K := K) g_2075.ff r_2070
            refine s_next ?_
            refine s_nx ?_
            exact s_ret0 G w (em_var rfl r_2070) fun r F1 H1 v g m p => hQ r F1 H1 v g m p
        · intro P_2083 hk_2082 w
          refine s_if2 G w (t_and (t_B (e_isE (b := true) rfl (fun _ h => h) ki_BadForm_BadForm)) (t_B (e_isE (b := true) rfl (fun _ h => h) ki_BadForm_ValueError))) (fun F_2063 H_2064 g_2065 w => ?_) (fun F_2063 H_2064 g_2065 w => ?_)
          · have e_2084 : Ex F_2058 F_2063 := g_2065.ff
            have G := G.tr g_2065
            have r0 := Rep.mo (K := K) g_2065.ff r0
            have r_2062 := Rep.mo (K := K) g_2065.ff r_2062
            refine s_asg (K := K) G w (em_wd (by decide +kernel)) fun word_2085 F_2086 H_2087 v_2089 g_2088 r_2090 w => ?_
            have G := G.tr g_2088
            have r0 := Rep.mo (K := K) g_2088.ff r0
            have e_2084 := Ex.tr e_2084 g_2088.ff
            exact hk_2082 _ w _ _ _ ⟨_, rfl, G, e_2084, r_2090⟩
          · have e_2084 : Ex F_2058 F_2063 := g_2065.ff
            have G := G.tr g_2065
            have r0 := Rep.mo (K := K) g_2065.ff r0
            have r_2062 := Rep.mo (K := K) g_2065.ff r_2062
            refine s_next ?_
            exact hk_2082 _ w _ _ _ ⟨_, rfl, G, e_2084, r_2062⟩
      · replace w := wp_neg h_2127 w
        by_cases h_2128 : c_2052 = "BadWorks"
        · subst h_2128
          replace w := wp_pos rfl w
          have G := G.er e_2051
          refine was_yes xm_BadWorks_MeshError xc_BadWorks fun a_2091 n_2092 => ?_
          refine q_asg (K := K) G w (em_wd (by decide +kernel)) fun word_2093 F_2094 H_2095 v_2097 g_2096 r_2098 w => ?_
          have G := G.tr g_2096
          have r0 := Rep.mo (K := K) g_2096.ff r0
          refine q_join (W := Wd) (fun s F' H' σ' => ∃ (v_2103 : V), σ' = [some v0, some v_2103, some (.ref a_2091)] ∧ Gr F0 H0 F' H' ∧ Ex F_2094 F' ∧ rp (α := Wd) K F' v_2103 s) w ?_ ?_
          · rintro s_2102 F_2107 H_2108 σs_2102 ⟨v_2103, hs_2104, G, e_2105, r_2106⟩ w
            subst hs_2104
            have r0 := Rep.mo (K := K) e_2105 r0
            refine s_if2 G w (t_or (t_B (e_isE (b := true) rfl (fun _ h => h) ki_BadWorks_BadWorks)) (t_B (e_isE (b := false) rfl (fun _ h => h) ki_BadWorks_BadCurve))) (fun F_2109 H_2110 g_2111 w => ?_) (fun F_2109 H_2110 g_2111 w => ?_)
            · have G := G.tr g_2111
              have r0 := Rep.mo (K := K) g_2111.ff r0
              have r_2106 := Rep.mo (K := K) g_2111.ff r_2106
              refine s_asg (K := K) G w (em_wd (by decide +kernel)) fun word_2112 F_2113 H_2114 v_2116 g_2115 r_2117 w => ?_
              have G := G.tr g_2115
              have r0 := Rep.mo (K := K) g_2115.ff r0
              refine s_nx ?_
              exact s_ret0 G w (em_var rfl r_2117) fun r F1 H1 v g m p => hQ r F1 H1 v g m p
            · have G := G.tr g_2111
              have r0 := Rep.mo (K := K) g_2111.ff r0
              have r_2106 := Rep.mo (K := K) g_2111.ff r_2106
              refine s_next ?_
              refine s_nx ?_
              exact s_ret0 G w (em_var rfl r_2106) fun r F1 H1 v g m p => hQ r F1 H1 v g m p
          · intro P_2119 hk_2118 w
            refine s_if2 G w (t_and (t_B (e_isE (b := false) rfl (fun _ h => h) ki_BadWorks_BadForm)) (t_B (e_isE (b := true) rfl (fun _ h => h) ki_BadWorks_ValueError))) (fun F_2099 H_2100 g_2101 w => ?_) (fun F_2099 H_2100 g_2101 w => ?_)
            · have e_2120 : Ex F_2094 F_2099 := g_2101.ff
              have G := G.tr g_2101
              have r0 := Rep.mo (K := K) g_2101.ff r0
              have r_2098 := Rep.mo (K := K) g_2101.ff r_2098
              refine s_asg (K := K) G w (em_wd (by decide +kernel)) fun word_2121 F_2122 H_2123 v_2125 g_2124 r_2126 w => ?_
              have G := G.tr g_2124
              have r0 := Rep.mo (K := K) g_2124.ff r0
              have e_2120 := Ex.tr e_2120 g_2124.ff
              exact hk_2118 _ w _ _ _ ⟨_, rfl, G, e_2120, r_2126⟩
            · have e_2120 : Ex F_2094 F_2099 := g_2101.ff
              have G := G.tr g_2101
              have r0 := Rep.mo (K := K) g_2101.ff r0
              have r_2098 := Rep.mo (K := K) g_2101.ff r_2098
              refine s_next ?_
              exact hk_2118 _ w _ _ _ ⟨_, rfl, G, e_2120, r_2098⟩
        · replace w := wp_neg h_2128 w
          exact w.elim
    · rintro s_2034 F_2044 H_2045 σs_2034 ⟨hs_2042, G, e_2043⟩ w
      subst hs_2042
      have r0 := Rep.mo (K := K) e_2043 r0
      have r_2033 := Rep.mo (K := K) e_2043 r_2033
      exact s_ret0 G w (em_var rfl r_2033) fun r F1 H1 v g m p => hQ r F1 H1 v g m p
    · intro E_2040 P_2041 hE_2035 hP_2036 hk_2037 w
      have Gt_2038 := G
      have G := Gr.rf G.fh
      have e_2046 := Ex.rf F_2029
      refine s_drop G w (e_callU (fun _ _ _ h => hE_2035 _ _ _ h (())) (f := (fun a : ((List ((Option Int) × Int)) × Int × Unit) => m_works_by a.1 a.2.1)) (x := (a0_form, (2 : Int), ())) (e_cons (em_var rfl r0) (e_cons em_int ea_nil))) fun x_2047 F_2048 H_2049 g_2050 w => ?_
      have G := G.tr g_2050
      have r0 := Rep.mo (K := K) g_2050.ff r0
      have r_2033 := Rep.mo (K := K) g_2050.ff r_2033
      have e_2046 := Ex.tr e_2046 g_2050.ff
      exact hk_2037 _ w _ _ _ ⟨rfl, Gt_2038.tr G, e_2046⟩
/-! ### _law_bin -/
abbrev s_law_bin : Stmt := topS 33
abbrev N_law_bin : List Str := ["rows", "row", "size"]
theorem sc_law_bin : FnScope N_law_bin ["rows", "row", "size"] (defScope s_law_bin) := ⟨rfl, rfl, rfl, by decide +kernel, rfl, by decide +kernel, by decide +kernel⟩
abbrev sp_law_bin (K : PySem.W.Frag) (ce : Ce) : Sp := SpF0 ce (RC K (α := (List Row)) (RC K (α := Int) (RC K (α := Int) R0))) (rv K (ρ := Int)) (fun a : ((List Row) × Int × Int × Unit) => m_law_bin a.1 a.2.1 a.2.2.1)
theorem ok_law_bin {f : Addr} {fd : FuncData} (FF : Fun K "_law_bin" "_law_bin" s_law_bin f fd) (z_int : mg "int" = none) : FnOk P w K mg base CX0 1 f fd ["rows", "row", "size"] (sp_law_bin K ce) := by
  refine FF.ok sc_law_bin (fun vs H0 Q E h => ?_) (fun cdv A outer s H0 vs Q E hr h => ?_)
  · obtain ⟨F0, ⟨a0_rows, a1_row, a2_size, _⟩, e0, ⟨v0, _, rfl, r0, ⟨v1, _, rfl, r1, ⟨v2, _, rfl, r2, rfl⟩⟩⟩, w⟩ := h
    rfl
  · obtain ⟨F0, ⟨a0_rows, a1_row, a2_size, _⟩, e0, ⟨v0, _, rfl, r0, ⟨v1, _, rfl, r1, ⟨v2, _, rfl, r2, rfl⟩⟩⟩, w⟩ := h
    have w := wp_post w
    have G := Gr.rf e0
    have nd := sc_law_bin.nd
    have hQ : ∀ r F1 H1 v, Gr F0 H0 F1 H1 → (rv K (ρ := Int)) F0 H0 F1 H1 v r → Fin (rv K (ρ := Int)) F0 H0 Q r → Q v H1 := fun r F1 H1 v g m p => p F1 H1 v g m
    refine ⟨_, (pss_cons (ps_while (by first | exact PassesOwn.never | exact passes_of rfl) (pt_cmpR (r := rEqD K) (op_eqD hr.units) (pe_ix (r := rIxT K) ix_tup (pe_ix (r := rIxL K) ix_list (pv 0) (pv 1) (fun _ _ => rfl)) pe_int (fun _ _ => rfl)) pe_str (nomark _)) (pss_one (ps_set (i := 1) nd rfl (by first | exact Or.inl rfl | exact Or.inr rfl) (pe_ix (r := rIxL K) ix_list (pe_lst (pa_cons (pe_ix (r := rIxT K) ix_tup (pe_ix (r := rIxL K) ix_list (pv 0) (pv 1) (fun _ _ => rfl)) pe_int (fun _ _ => rfl)) (pa_cons (pe_ix (r := rIxT K) ix_tup (pe_ix (r := rIxL K) ix_list (pv 0) (pv 1) (fun _ _ => rfl)) pe_int (fun _ _ => rfl)) pa_nil))) (pe_callTy call_int1 (by rfl) z_int (by decide +kernel) (pa_cons (pe_cmpR op_le (pv 2) (pe_ix (r := rIxT K) ix_tup (pe_ix (r := rIxL K) ix_list (pv 0) (pv 1) (fun _ _ => rfl)) pe_int (fun _ _ => rfl)) (nomark _)) pa_nil)) (fun _ _ => rfl)))))
      (pss_one (ps_ret (pe_ix (r := rIxT K) ix_tup (pe_ix (r := rIxL K) ix_list (pv 0) (pv 1) (fun _ _ => rfl)) pe_int (fun _ _ => rfl))))), ?_⟩
    have w := show Wp ce E0 H0 (m_law_bin a0_rows a1_row a2_size) _ from w
    unfold m_law_bin at w
    refine q_while (S := Int) (fun s F' H' σ' => ∃ (v_2207 : V), σ' = [some v0, some v_2207, some v2] ∧ Gr F0 H0 F' H' ∧ Ex F0 F' ∧ rp (α := Int) K F' v_2207 s) ⟨_, rfl, G, Ex.rf _, r1⟩ (fun _ _ _ _ ⟨_, _, G, _⟩ => G) w ?_ ?_ ?_ ?_
    · rintro s_2208 F_2209 H_2210 _ ⟨v_2207, hs_2212, G, e_2213, r_2214⟩
      subst hs_2212
      have r0 := Rep.mo (K := K) e_2213 r0
      have r2 := Rep.mo (K := K) e_2213 r2
      unfold m_law_bin_c1
      exact (t_of (em_op (em_op (em_op (em_var rfl r0) (em_var rfl r_2214) fun _ _ => o_ixL) em_int fun _ _ => o_rowix) (e_clw (em_wd (by decide +kernel))) fun _ _ => (o_eqD (by decide))))
    · rintro s_2208 _ _ _ _ _ ⟨v_2207, hs_2221, G, e_2222, r_2223⟩ g_2224
      subst hs_2221
      exact ⟨_, rfl, G.tr g_2224, Ex.tr e_2222 g_2224.ff, Rep.mo (K := K) g_2224.ff r_2223⟩
    · rintro s_2208 F_2225 H_2226 _ ⟨v_2207, hs_2227, G, e_2228, r_2229⟩ D_2234 P_2235 hrt_2236 hN_2230 hC_2231 hB_2232 hP_2233 w
      subst hs_2227
      have r0 := Rep.mo (K := K) e_2228 r0
      have r2 := Rep.mo (K := K) e_2228 r2
      have hQ : ∀ r F1 H1 v, Gr F0 H0 F1 H1 → (rv K (ρ := Int)) F0 H0 F1 H1 v r → P_2235 (.rt r) → D_2234.rt v H1 := fun r F1 H1 v g m p => by rw [hrt_2236]; exact hQ r F1 H1 v g m (hP_2233 _ p)
      unfold m_law_bin_b1 at w
      refine s_asg (K := K) G w (em_op (Ev.nv (em_lst' (el_cons (em_clI (em_op (em_op (em_var rfl r0) (em_var rfl r_2229) fun _ _ => o_ixL) em_int fun _ _ => o_rowix)) (el_cons (em_clI (em_op (em_op (em_var rfl r0) (em_var rfl r_2229) fun _ _ => o_ixL) em_int fun _ _ => o_rowix)) (el_nil (α := Int)))))) (em_cb (ea_cons (em_op (em_var rfl r2) (em_clI (em_op (em_op (em_var rfl r0) (em_var rfl r_2229) fun _ _ => o_ixL) em_int fun _ _ => o_rowix)) fun _ _ => o_le) ea_nil) fun _ => a_intB) fun _ _ => o_ixL) fun row_2269 F_2270 H_2271 v_2273 g_2272 r_2274 w => ?_
      have G := G.tr g_2272
      have r0 := Rep.mo (K := K) g_2272.ff r0
      have r2 := Rep.mo (K := K) g_2272.ff r2
      have e_2228 := Ex.tr e_2228 g_2272.ff
      exact hN_2230 _ w _ _ _ ⟨_, rfl, G, e_2228, r_2274⟩
    · rintro s_2278 F_2279 H_2280 _ ⟨v_2207, hs_2275, G, e_2276, r_2277⟩ w
      subst hs_2275
      have r0 := Rep.mo (K := K) e_2276 r0
      have r2 := Rep.mo (K := K) e_2276 r2
      exact s_ret0 G w (em_clI (em_op (em_op (em_var rfl r0) (em_var rfl r_2277) fun _ _ => o_ixL) em_int fun _ _ => o_rowix)) fun r F1 H1 v g m p => hQ r F1 H1 v g m p
/-! ### law -/
abbrev s_law : Stmt := topS 34
abbrev N_law : List Str := ["script", "form", "handed", "parts", "works", "words", "told", "low", "upto", "number", "high", "cell", "spoiled"]
theorem sc_law : FnScope N_law ["script"] (defScope s_law) := ⟨rfl, rfl, rfl, by decide +kernel, rfl, by decide +kernel, by decide +kernel⟩
abbrev sp_law (K : PySem.W.Frag) (ce : Ce) : Sp := SpF ce (RC K (α := Scr) R0) (rv K (ρ := Bool)) (fun a : (Scr × Unit) => m_law a.1)
theorem ok_law {f : Addr} {fd : FuncData} (FF : Fun K "law" "law" s_law f fd) {a__law_bin : Addr} {d__law_bin : FuncData} (G__law_bin : FnOk P w K mg base CX0 1 a__law_bin d__law_bin ["rows", "row", "size"] (sp_law_bin K ce)) (mg__law_bin : mg "_law_bin" = some (.ref a__law_bin)) (k__law_bin : PySem.W.keepIn K (.ref a__law_bin) = true) (b__law_bin : Binds K d__law_bin ["rows", "row", "size"] []) {a__law_cell_at : Addr} {d__law_cell_at : FuncData} (G__law_cell_at : FnOk P w K mg base CX0 1 a__law_cell_at d__law_cell_at ["script", "k"] (sp_law_cell_at K ce)) (mg__law_cell_at : mg "_law_cell_at" = some (.ref a__law_cell_at)) (k__law_cell_at : PySem.W.keepIn K (.ref a__law_cell_at) = true) (b__law_cell_at : Binds K d__law_cell_at ["script", "k"] []) {a__law_form : Addr} {d__law_form : FuncData} (G__law_form : FnOk P w K mg base CX0 2 a__law_form d__law_form ["script"] (sp_law_form K ce)) (mg__law_form : mg "_law_form" = some (.ref a__law_form)) (k__law_form : PySem.W.keepIn K (.ref a__law_form) = true) (b__law_form : Binds K d__law_form ["script"] []) {a__law_spoiled : Addr} {d__law_spoiled : FuncData} (G__law_spoiled : FnOk P w K mg base CX0 1 a__law_spoiled d__law_spoiled ["form", "cell"] (sp_law_spoiled K ce)) (mg__law_spoiled : mg "_law_spoiled" = some (.ref a__law_spoiled)) (k__law_spoiled : PySem.W.keepIn K (.ref a__law_spoiled) = true) (b__law_spoiled : Binds K d__law_spoiled ["form", "cell"] []) {a__law_word : Addr} {d__law_word : FuncData} (G__law_word : FnOk P w K mg base CX0 5 a__law_word d__law_word ["form"] (sp_law_word K ce)) (mg__law_word : mg "_law_word" = some (.ref a__law_word)) (k__law_word : PySem.W.keepIn K (.ref a__law_word) = true) (b__law_word : Binds K d__law_word ["form"] []) {a_form_of : Addr} {d_form_of : FuncData} (G_form_of : FnOk P w K mg base (L2.CX P w) 6 a_form_of d_form_of ["works", "row"] (sp_form_of K ce)) (mg_form_of : mg "form_of" = some (.ref a_form_of)) (k_form_of : PySem.W.keepIn K (.ref a_form_of) = true) (b_form_of : Binds K d_form_of ["works", "row"] []) {a_works_by : Addr} {d_works_by : FuncData} (G_works_by : FnOk P w K mg base (L2.CX P w) 4 a_works_by d_works_by ["form", "parts"] (sp_works_by K ce)) (mg_works_by : mg "works_by" = some (.ref a_works_by)) (k_works_by : PySem.W.keepIn K (.ref a_works_by) = true) (b_works_by : Binds K d_works_by ["form", "parts"] []) (z_len : mg "len" = none) (z_list : mg "list" = none) : FnOk P w K mg base (L2.CX P w) 7 f fd ["script"] (sp_law K ce) := by
  refine FF.okX sc_law (fun vs H0 Q E h => ?_) (fun cdv A outer s H0 vs Q E hr h => ?_)
  · obtain ⟨F0, ⟨a0_script, _⟩, e0, ⟨v0, _, rfl, r0, rfl⟩, w⟩ := h
    rfl
  · obtain ⟨F0, ⟨a0_script, _⟩, e0, ⟨v0, _, rfl, r0, rfl⟩, w⟩ := h
    have w := wp_post w
    have G := Gr.rf e0
    have nd := sc_law.nd
    have hQ : ∀ r F1 H1 v, Gr F0 H0 F1 H1 → (rv K (ρ := Bool)) F0 H0 F1 H1 v r → Fin (rv K (ρ := Bool)) F0 H0 Q r → Q v H1 := fun r F1 H1 v g m p => p F1 H1 v g m
    refine ⟨_, (pss_cons (ps_set (i := 1) nd rfl (by first | exact Or.inl rfl | exact Or.inr rfl) (pe_call G__law_form (hr.mono (by decide)) rfl mg__law_form k__law_form b__law_form .nil pass0 (pa_cons (pv 0) pa_nil)))
      (pss_cons (ps_set (i := 2) nd rfl (by first | exact Or.inl rfl | exact Or.inr rfl) (pe_callTy (r := rListS K) call_list_of (by rfl) z_list (by decide +kernel) (pa_cons (pv 1) pa_nil)))
      (pss_cons (ps_set (i := 3) nd rfl (by first | exact Or.inl rfl | exact Or.inr rfl) (pe_op op_add pe_int (pe_op op_mod (pe_call G__law_cell_at (hr.mono (by decide)) rfl mg__law_cell_at k__law_cell_at b__law_cell_at .nil pass0 (pa_cons (pv 0) (pa_cons pe_int pa_nil))) pe_int)))
      (pss_cons (ps_set (i := 4) nd rfl (by first | exact Or.inl rfl | exact Or.inr rfl) (pe_call G_works_by (hr.mono (by decide)) rfl mg_works_by k_works_by b_works_by .nil (passes_call (takes_of rfl rfl rfl rfl) (fun _ _ _ _ h => h)) (pa_cons (pv 2) (pa_cons (pv 3) pa_nil))))
      (pss_cons (ps_if (PW.pt (pw_or (pt_cmpR op_ne (pe_fld (pv 4) rfl) (pv 3) (nomark _)) (pw_or (pt_cmpR (r := rNeD K) (op_neD hr.units) (pv 2) (pv 1) (nomark _)) (pw_or1 (pt_cmpR (r := rNeD K) (op_neD hr.units) (pe_call G_form_of (hr.mono (by decide)) rfl mg_form_of k_form_of b_form_of .nil (passes_call (takes_of rfl rfl rfl rfl) (fun _ _ _ _ h => h)) (pa_cons (pv 4) (pa_cons pe_int pa_nil))) (pv 1) (nomark _)))))) (pss_one (ps_ret pe_bl)) pss_nil)
      (pss_cons (by first | exact (ps_setLc (i := 5) (own := [("told", 6)]) (g := (gName 6)) (by rfl) nd rfl rfl (sw_true rfl rfl rfl (by decide +kernel)) (pi_list (pe_fld (pv 4) rfl)) (blkOk_by (own := [("told", 6)]) (N := N_law) (sc := defScope s_law) (by decide +kernel)) (fun _ _ _ _ _ => (pg_name (i := 6) nd rfl (by first | exact Or.inl rfl | exact Or.inr rfl))) (fun _ _ _ _ _ => pts_nil) (fun _ _ _ _ _ => (pe_ix (r := rIxT K) ix_tup (pv 6) pe_int (fun _ _ => rfl)))) | exact (ps_set (i := 5) nd rfl (by first | exact Or.inl rfl | exact Or.inr rfl) (pe_lc (own := [("told", 6)]) (g := (gName 6)) (by rfl) nd (pi_list (pe_fld (pv 4) rfl)) (blkOk_by (own := [("told", 6)]) (N := N_law) (sc := defScope s_law) (by decide +kernel)) (fun _ _ _ _ _ => (pg_name (i := 6) nd rfl (by first | exact Or.inl rfl | exact Or.inr rfl))) (fun _ _ _ _ _ => pts_nil) (fun _ _ _ _ _ => (pe_ix (r := rIxT K) ix_tup (pv 6) pe_int (fun _ _ => rfl))))))
      (pss_cons (ps_if (PW.pt (pw_or (pt_cmpR op_ne (pe_bm (r := rCntF K) PySem.F.plainAttrs_list PySem.F.slot_list_count PySem.F.type_list_count mt_cntF (pv 5) (pa_cons pe_str pa_nil)) (pe_op op_sub (pe_callB (r := rLenS K) call_len_seq (by rfl) z_len (by decide +kernel) (pa_cons (pv 1) pa_nil)) pe_int) (nomark _)) (pw_or1 (pt_cmpR op_gt (pe_bm (r := rCntF K) PySem.F.plainAttrs_list PySem.F.slot_list_count PySem.F.type_list_count mt_cntF (pv 5) (pa_cons pe_str pa_nil)) pe_int (nomark _))))) (pss_one (ps_ret pe_bl)) pss_nil)
      (pss_cons (ps_set (i := 7) nd rfl (by first | exact Or.inl rfl | exact Or.inr rfl) pe_int)
      (pss_cons (ps_for (by first | exact PassesOwn.never | exact passes_of rfl) rfl (pi_list (pv 1)) (pg_tup rfl (pgs_cons (pg_name (i := 8) nd rfl (by first | exact Or.inl rfl | exact Or.inr rfl)) (pgs_cons (pg_name (i := 9) nd rfl (by first | exact Or.inl rfl | exact Or.inr rfl)) pgs_nil))) (pss_cons (ps_set (i := 10) nd rfl (by first | exact Or.inl rfl | exact Or.inr rfl) (pv 8))
      (pss_cons (ps_if (pt_cmpR op_isN (pv 8) pe_non (nomark _)) (pss_one (ps_set (i := 10) nd rfl (by first | exact Or.inl rfl | exact Or.inr rfl) (pe_op op_add (pv 7) (pe_op op_pow pe_int pe_int)))) pss_nil)
      (pss_cons (ps_if (PW.pt (pw_or (pt_cmpR op_ne (pe_call G__law_bin (hr.mono (by decide)) rfl mg__law_bin k__law_bin b__law_bin .nil pass0 (pa_cons (pe_fld (pv 4) rfl) (pa_cons pe_int (pa_cons (pv 7) pa_nil)))) (pv 9) (nomark _)) (pw_or1 (pt_cmpR op_ne (pe_call G__law_bin (hr.mono (by decide)) rfl mg__law_bin k__law_bin b__law_bin .nil pass0 (pa_cons (pe_fld (pv 4) rfl) (pa_cons pe_int (pa_cons (pv 10) pa_nil)))) (pv 9) (nomark _))))) (pss_one (ps_ret pe_bl)) pss_nil)
      (pss_one (ps_set (i := 7) nd rfl (by first | exact Or.inl rfl | exact Or.inr rfl) (pe_op op_add (pv 10) pe_int)))))))
      (pss_cons (ps_for (by first | exact PassesOwn.never | exact passes_of rfl) rfl (pi_list (pe_op op_cat (pe_lst (pa_cons pe_int (pa_cons pe_int (pa_cons pe_int pa_nil)))) (pe_slice (r := rSlL K) sl_list (pv 0) po_none (po_some pe_int)))) (pg_name (i := 11) nd rfl (by first | exact Or.inl rfl | exact Or.inr rfl)) (pss_cons (ps_set (i := 12) nd rfl (by first | exact Or.inl rfl | exact Or.inr rfl) (pe_call G__law_spoiled (hr.mono (by decide)) rfl mg__law_spoiled k__law_spoiled b__law_spoiled .nil pass0 (pa_cons (pv 1) (pa_cons (pv 11) pa_nil))))
      (pss_one (ps_if (pt_cmpR op_ne (pe_call G__law_word (hr.mono (by decide)) rfl mg__law_word k__law_word b__law_word .nil pass0 (pa_cons (pe_callTy (r := rListS K) call_list_of (by rfl) z_list (by decide +kernel) (pa_cons (pv 12) pa_nil)) pa_nil)) pe_str (nomark _)) (pss_one (ps_ret pe_bl)) pss_nil))))
      (pss_one (ps_ret (pe_cmpR (r := rEqD K) (op_eqD hr.units) (pv 2) (pv 1) (nomark _)))))))))))))), ?_⟩
    have w := show Wp ce E H0 (m_law a0_script) _ from w
    unfold m_law at w
    refine q_asg (K := K) G w (Ev.nv (e_call0 (f := (fun a : (Scr × Unit) => m_law_form a.1)) (x := (a0_script, ())) (e_cons (em_var rfl r0) ea_nil))) fun form_2479 F_2480 H_2481 v_2483 g_2482 r_2484 w => ?_
    have G := G.tr g_2482
    have r0 := Rep.mo (K := K) g_2482.ff r0
    refine q_asg (K := K) G w (Ev.nv (e_cb (e_cons (em_var rfl r_2484) ea_nil) a_list)) fun handed_2485 F_2486 H_2487 v_2489 g_2488 r_2490 w => ?_
    have G := G.tr g_2488
    have r0 := Rep.mo (K := K) g_2488.ff r0
    have r_2484 := Rep.mo (K := K) g_2488.ff r_2484
    refine q_asg (K := K) G w (em_op em_int (em_op (e_call0 (f := (fun a : (Scr × Int × Unit) => m_law_cell_at a.1 a.2.1)) (x := (a0_script, (0 : Int), ())) (e_cons (em_var rfl r0) (e_cons em_int ea_nil))) em_int fun _ _ => o_modM) fun _ _ => o_add) fun parts_2495 F_2496 H_2497 v_2499 g_2498 r_2500 w => ?_
    have G := G.tr g_2498
    have r0 := Rep.mo (K := K) g_2498.ff r0
    have r_2484 := Rep.mo (K := K) g_2498.ff r_2484
    have r_2490 := Rep.mo (K := K) g_2498.ff r_2490
    refine q_asg (K := K) G w (e_callX (f := (fun a : ((List ((Option Int) × Int)) × Int × Unit) => m_works_by a.1 a.2.1)) (x := (handed_2485, parts_2495, ())) (e_cons (em_var rfl r_2490) (e_cons (em_var rfl r_2500) ea_nil))) fun works_2501 F_2502 H_2503 v_2505 g_2504 r_2506 w => ?_
    have G := G.tr g_2504
    have r0 := Rep.mo (K := K) g_2504.ff r0
    have r_2484 := Rep.mo (K := K) g_2504.ff r_2484
    have r_2490 := Rep.mo (K := K) g_2504.ff r_2490
    have r_2500 := Rep.mo (K := K) g_2504.ff r_2500
    refine q_if2 G w (tm_or (t_of (e2 (e_wkp (em_var rfl r_2506)) (em_var rfl r_2500) o_neI)) (tm_or (t_of (e2 (em_var rfl r_2490) (em_var rfl r_2484) (o_neD (by decide)))) (t_of (em_op (Ev.nv (e_callX (f := (fun a : (Wk × Int × Unit) => m_form_of a.1 a.2.1)) (x := (works_2501, (0 : Int), ())) (e_cons (em_var rfl r_2506) (e_cons em_int ea_nil)))) (em_var rfl r_2484) fun _ _ => (o_neD (by decide)))))) (fun F_2509 H_2510 g_2511 w => ?_) (fun F_2509 H_2510 g_2511 w => ?_)
    · have G := G.tr g_2511
      have r0 := Rep.mo (K := K) g_2511.ff r0
      have r_2484 := Rep.mo (K := K) g_2511.ff r_2484
      have r_2490 := Rep.mo (K := K) g_2511.ff r_2490
      have r_2500 := Rep.mo (K := K) g_2511.ff r_2500
      have r_2506 := Rep.mo (K := K) g_2511.ff r_2506
      exact s_ret0 G w em_bl fun r F1 H1 v g m p => hQ r F1 H1 v g m p
    · have G := G.tr g_2511
      have r0 := Rep.mo (K := K) g_2511.ff r0
      have r_2484 := Rep.mo (K := K) g_2511.ff r_2484
      have r_2490 := Rep.mo (K := K) g_2511.ff r_2490
      have r_2500 := Rep.mo (K := K) g_2511.ff r_2500
      have r_2506 := Rep.mo (K := K) g_2511.ff r_2506
      refine s_next ?_
      refine s_nx ?_
      refine q_asg (K := K) G w (Ev.nv (em_lc (c := (fun x_2513 : Row => (M.ok true))) (e := (fun x_2513 : Row => ((M.ok x_2513).bind fun x_2516 => (M.ok (0 : Int)).bind fun y_2517 => ixM x_2516.cs y_2517))) (ei_list (e_wkr (em_var rfl r_2506))) (tg_name (K := K)) (fun _ _ _ ⟨_, h, _⟩ => by rw [h]; exact wipe1) (fun x_2513 _ _ _ g_2512 ⟨v_2514, h_2518, r_2515⟩ => by subst h_2518; exact t_yes) (fun x_2513 _ _ _ g_2512 ⟨v_2514, h_2518, r_2515⟩ => by subst h_2518; exact (em_op (em_var rfl r_2515) em_int fun _ _ => o_rowix)))) fun words_2520 F_2521 H_2522 v_2524 g_2523 r_2525 w => ?_
      have G := G.tr g_2523
      have r0 := Rep.mo (K := K) g_2523.ff r0
      have r_2484 := Rep.mo (K := K) g_2523.ff r_2484
      have r_2490 := Rep.mo (K := K) g_2523.ff r_2490
      have r_2500 := Rep.mo (K := K) g_2523.ff r_2500
      have r_2506 := Rep.mo (K := K) g_2523.ff r_2506
      refine q_if2 G w (tm_or (t_of (em_op (em_cntC (em_var rfl r_2525) (e_clw (em_wd (by decide +kernel)))) (e2 (e_cb (e_cons (em_var rfl r_2484) ea_nil) a_len) em_int o_sub) fun _ _ => o_neI)) (t_of (em_op (em_cntC (em_var rfl r_2525) (e_clw (em_wd (by decide +kernel)))) em_int fun _ _ => o_gt))) (fun F_2534 H_2535 g_2536 w => ?_) (fun F_2534 H_2535 g_2536 w => ?_)
      · have G := G.tr g_2536
        have r0 := Rep.mo (K := K) g_2536.ff r0
        have r_2484 := Rep.mo (K := K) g_2536.ff r_2484
        have r_2490 := Rep.mo (K := K) g_2536.ff r_2490
        have r_2500 := Rep.mo (K := K) g_2536.ff r_2500
        have r_2506 := Rep.mo (K := K) g_2536.ff r_2506
        have r_2525 := Rep.mo (K := K) g_2536.ff r_2525
        exact s_ret0 G w em_bl fun r F1 H1 v g m p => hQ r F1 H1 v g m p
      · have G := G.tr g_2536
        have r0 := Rep.mo (K := K) g_2536.ff r0
        have r_2484 := Rep.mo (K := K) g_2536.ff r_2484
        have r_2490 := Rep.mo (K := K) g_2536.ff r_2490
        have r_2500 := Rep.mo (K := K) g_2536.ff r_2500
        have r_2506 := Rep.mo (K := K) g_2536.ff r_2506
        have r_2525 := Rep.mo (K := K) g_2536.ff r_2525
        refine s_next ?_
        refine s_nx ?_
        refine q_asg (K := K) G w em_int fun low_2537 F_2538 H_2539 v_2541 g_2540 r_2542 w => ?_
        have G := G.tr g_2540
        have r0 := Rep.mo (K := K) g_2540.ff r0
        have r_2484 := Rep.mo (K := K) g_2540.ff r_2484
        have r_2490 := Rep.mo (K := K) g_2540.ff r_2490
        have r_2500 := Rep.mo (K := K) g_2540.ff r_2500
        have r_2506 := Rep.mo (K := K) g_2540.ff r_2506
        have r_2525 := Rep.mo (K := K) g_2540.ff r_2525
        refine q_for (S := Int) (fun s F' H' σ' => ∃ (v_2543 : V) (z_2544 : Option V) (z_2545 : Option V) (z_2546 : Option V), σ' = [some v0, some v_2483, some v_2489, some v_2499, some v_2505, some v_2524, none, some v_2543, z_2544, z_2545, z_2546, none, none] ∧ Gr F0 H0 F' H' ∧ Ex F_2538 F' ∧ rp (α := Int) K F' v_2543 s) G (ei_list (em_var rfl r_2484)) (tg_tup2 (K := K)) w (fun _ _ g_2671 => ⟨_, _, _, _, rfl, G.tr g_2671, g_2671.ff, Rep.mo (K := K) g_2671.ff r_2542⟩) (fun _ _ _ _ ⟨_, _, _, _, _, G, _⟩ => G) ?_ ?_
        · rintro x_2548 s_2547 F_2549 H_2550 _ ⟨v_2543, z_2544, z_2545, z_2546, hs_2551, G, e_2552, r_2553⟩ F_2554 H_2555 σ_2556 g_2557 ⟨v_2565, v_2567, h_2569, r_2566, r_2568⟩ D_2562 P_2563 hrt_2564 hN_2558 hC_2559 hB_2560 hP_2561 w
          subst hs_2551
          subst h_2569
          have r0 := Rep.mo (K := K) e_2552 r0
          have r_2484 := Rep.mo (K := K) e_2552 r_2484
          have r_2490 := Rep.mo (K := K) e_2552 r_2490
          have r_2500 := Rep.mo (K := K) e_2552 r_2500
          have r_2506 := Rep.mo (K := K) e_2552 r_2506
          have r_2525 := Rep.mo (K := K) e_2552 r_2525
          have G := G.tr g_2557
          have r0 := Rep.mo (K := K) g_2557.ff r0
          have r_2484 := Rep.mo (K := K) g_2557.ff r_2484
          have r_2490 := Rep.mo (K := K) g_2557.ff r_2490
          have r_2500 := Rep.mo (K := K) g_2557.ff r_2500
          have r_2506 := Rep.mo (K := K) g_2557.ff r_2506
          have r_2525 := Rep.mo (K := K) g_2557.ff r_2525
          have r_2553 := Rep.mo (K := K) g_2557.ff r_2553
          have e_2552 := Ex.tr e_2552 g_2557.ff
          have e_2570 := Ex.rf F_2554
          have hQ : ∀ r F1 H1 v, Gr F0 H0 F1 H1 → (rv K (ρ := Bool)) F0 H0 F1 H1 v r → P_2563 (.rt r) → D_2562.rt v H1 := fun r F1 H1 v g m p => by rw [hrt_2564]; exact hQ r F1 H1 v g m (hP_2561 _ p)
          unfold m_law_b1 at w
          refine q_asg (K := K) G w (em_var rfl r_2566) fun high_2571 F_2572 H_2573 v_2575 g_2574 r_2576 w => ?_
          have G := G.tr g_2574
          have r0 := Rep.mo (K := K) g_2574.ff r0
          have r_2484 := Rep.mo (K := K) g_2574.ff r_2484
          have r_2490 := Rep.mo (K := K) g_2574.ff r_2490
          have r_2500 := Rep.mo (K := K) g_2574.ff r_2500
          have r_2506 := Rep.mo (K := K) g_2574.ff r_2506
          have r_2525 := Rep.mo (K := K) g_2574.ff r_2525
          have r_2553 := Rep.mo (K := K) g_2574.ff r_2553
          have r_2566 := Rep.mo (K := K) g_2574.ff r_2566
          have r_2568 := Rep.mo (K := K) g_2574.ff r_2568
          have e_2552 := Ex.tr e_2552 g_2574.ff
          have e_2570 := Ex.tr e_2570 g_2574.ff
          refine q_join (W := (Option Int)) (fun s F' H' σ' => ∃ (v_2581 : V), σ' = [some v0, some v_2483, some v_2489, some v_2499, some v_2505, some v_2524, none, some v_2543, some v_2565, some v_2567, some v_2581, none, none] ∧ Gr F0 H0 F' H' ∧ Ex F_2572 F' ∧ rp (α := (Option Int)) K F' v_2581 s) w ?_ ?_
          · rintro s_2580 F_2585 H_2586 σs_2580 ⟨v_2581, hs_2582, G, e_2583, r_2584⟩ w
            subst hs_2582
            have r0 := Rep.mo (K := K) e_2583 r0
            have r_2484 := Rep.mo (K := K) e_2583 r_2484
            have r_2490 := Rep.mo (K := K) e_2583 r_2490
            have r_2500 := Rep.mo (K := K) e_2583 r_2500
            have r_2506 := Rep.mo (K := K) e_2583 r_2506
            have r_2525 := Rep.mo (K := K) e_2583 r_2525
            have r_2553 := Rep.mo (K := K) e_2583 r_2553
            have r_2566 := Rep.mo (K := K) e_2583 r_2566
            have r_2568 := Rep.mo (K := K) e_2583 r_2568
            have e_2552 := Ex.tr e_2552 e_2583
            have e_2570 := Ex.tr e_2570 e_2583
            refine q_if2 G w (tm_or (t_of (em_op (e_call0 (f := (fun a : ((List Row) × Int × Int × Unit) => m_law_bin a.1 a.2.1 a.2.2.1)) (x := (works_2501.rows, (0 : Int), s_2547, ())) (e_cons (e_wkr (em_var rfl r_2506)) (e_cons em_int (e_cons (em_var rfl r_2553) ea_nil)))) (em_var rfl r_2568) fun _ _ => o_neI)) (t_of (em_op (em_call0 (f := (fun a : ((List Row) × Int × Int × Unit) => m_law_bin a.1 a.2.1 a.2.2.1)) (ea_cons (e_wkr (em_var rfl r_2506)) (ea_cons em_int (ea_cons (em_get (em_var rfl r_2584)) ea_nil)))) (em_var rfl r_2568) fun _ _ => o_neI))) (fun F_2598 H_2599 g_2600 w => ?_) (fun F_2598 H_2599 g_2600 w => ?_)
            · have G := G.tr g_2600
              have r0 := Rep.mo (K := K) g_2600.ff r0
              have r_2484 := Rep.mo (K := K) g_2600.ff r_2484
              have r_2490 := Rep.mo (K := K) g_2600.ff r_2490
              have r_2500 := Rep.mo (K := K) g_2600.ff r_2500
              have r_2506 := Rep.mo (K := K) g_2600.ff r_2506
              have r_2525 := Rep.mo (K := K) g_2600.ff r_2525
              have r_2553 := Rep.mo (K := K) g_2600.ff r_2553
              have r_2566 := Rep.mo (K := K) g_2600.ff r_2566
              have r_2568 := Rep.mo (K := K) g_2600.ff r_2568
              have r_2584 := Rep.mo (K := K) g_2600.ff r_2584
              have e_2552 := Ex.tr e_2552 g_2600.ff
              have e_2570 := Ex.tr e_2570 g_2600.ff
              exact s_ret G w em_bl fun r F1 H1 v g m p => hQ r F1 H1 v g m p
            · have G := G.tr g_2600
              have r0 := Rep.mo (K := K) g_2600.ff r0
              have r_2484 := Rep.mo (K := K) g_2600.ff r_2484
              have r_2490 := Rep.mo (K := K) g_2600.ff r_2490
              have r_2500 := Rep.mo (K := K) g_2600.ff r_2500
              have r_2506 := Rep.mo (K := K) g_2600.ff r_2506
              have r_2525 := Rep.mo (K := K) g_2600.ff r_2525
              have r_2553 := Rep.mo (K := K) g_2600.ff r_2553
              have r_2566 := Rep.mo (K := K) g_2600.ff r_2566
              have r_2568 := Rep.mo (K := K) g_2600.ff r_2568
              have r_2584 := Rep.mo (K := K) g_2600.ff r_2584
              have e_2552 := Ex.tr e_2552 g_2600.ff
              have e_2570 := Ex.tr e_2570 g_2600.ff
              refine s_next ?_
              refine s_nx ?_
              refine s_asg (K := K) G w (em_op (em_get (em_var rfl r_2584)) em_int fun _ _ => o_add) fun low_2604 F_2605 H_2606 v_2608 g_2607 r_2609 w => ?_
              have G := G.tr g_2607
              have r0 := Rep.mo (K := K) g_2607.ff r0
              have r_2484 := Rep.mo (K := K) g_2607.ff r_2484
              have r_2490 := Rep.mo (K := K) g_2607.ff r_2490
              have r_2500 := Rep.mo (K := K) g_2607.ff r_2500
              have r_2506 := Rep.mo (K := K) g_2607.ff r_2506
              have r_2525 := Rep.mo (K := K) g_2607.ff r_2525
              have r_2566 := Rep.mo (K := K) g_2607.ff r_2566
              have r_2568 := Rep.mo (K := K) g_2607.ff r_2568
              have r_2584 := Rep.mo (K := K) g_2607.ff r_2584
              have e_2552 := Ex.tr e_2552 g_2607.ff
              have e_2570 := Ex.tr e_2570 g_2607.ff
              exact hN_2558 _ w _ _ _ e_2570 ⟨_, _, _, _, rfl, G, e_2552, r_2609⟩
          · intro P_2611 hk_2610 w
            refine s_if2 G w (t_of (e2 (em_var rfl r_2566) em_unit o_isN)) (fun F_2577 H_2578 g_2579 w => ?_) (fun F_2577 H_2578 g_2579 w => ?_)
            · have e_2612 : Ex F_2572 F_2577 := g_2579.ff
              have G := G.tr g_2579
              have r0 := Rep.mo (K := K) g_2579.ff r0
              have r_2484 := Rep.mo (K := K) g_2579.ff r_2484
              have r_2490 := Rep.mo (K := K) g_2579.ff r_2490
              have r_2500 := Rep.mo (K := K) g_2579.ff r_2500
              have r_2506 := Rep.mo (K := K) g_2579.ff r_2506
              have r_2525 := Rep.mo (K := K) g_2579.ff r_2525
              have r_2553 := Rep.mo (K := K) g_2579.ff r_2553
              have r_2566 := Rep.mo (K := K) g_2579.ff r_2566
              have r_2568 := Rep.mo (K := K) g_2579.ff r_2568
              have r_2576 := Rep.mo (K := K) g_2579.ff r_2576
              have e_2552 := Ex.tr e_2552 g_2579.ff
              have e_2570 := Ex.tr e_2570 g_2579.ff
              refine s_asg (K := K) G w (e_some (e2 (em_var rfl r_2553) (e_is (e2 em_int em_int (o_pow (by decide))) pow_10_60) o_add)) fun high_2613 F_2614 H_2615 v_2617 g_2616 r_2618 w => ?_
              have G := G.tr g_2616
              have r0 := Rep.mo (K := K) g_2616.ff r0
              have r_2484 := Rep.mo (K := K) g_2616.ff r_2484
              have r_2490 := Rep.mo (K := K) g_2616.ff r_2490
              have r_2500 := Rep.mo (K := K) g_2616.ff r_2500
              have r_2506 := Rep.mo (K := K) g_2616.ff r_2506
              have r_2525 := Rep.mo (K := K) g_2616.ff r_2525
              have r_2553 := Rep.mo (K := K) g_2616.ff r_2553
              have r_2566 := Rep.mo (K := K) g_2616.ff r_2566
              have r_2568 := Rep.mo (K := K) g_2616.ff r_2568
              have e_2552 := Ex.tr e_2552 g_2616.ff
              have e_2570 := Ex.tr e_2570 g_2616.ff
              have e_2612 := Ex.tr e_2612 g_2616.ff
              exact hk_2610 _ w _ _ _ ⟨_, rfl, G, e_2612, r_2618⟩
            · have e_2612 : Ex F_2572 F_2577 := g_2579.ff
              have G := G.tr g_2579
              have r0 := Rep.mo (K := K) g_2579.ff r0
              have r_2484 := Rep.mo (K := K) g_2579.ff r_2484
              have r_2490 := Rep.mo (K := K) g_2579.ff r_2490
              have r_2500 := Rep.mo (K := K) g_2579.ff r_2500
              have r_2506 := Rep.mo (K := K) g_2579.ff r_2506
              have r_2525 := Rep.mo (K := K) g_2579.ff r_2525
              have r_2553 := Rep.mo (K := K) g_2579.ff r_2553
              have r_2566 := Rep.mo (K := K) g_2579.ff r_2566
              have r_2568 := Rep.mo (K := K) g_2579.ff r_2568
              have r_2576 := Rep.mo (K := K) g_2579.ff r_2576
              have e_2552 := Ex.tr e_2552 g_2579.ff
              have e_2570 := Ex.tr e_2570 g_2579.ff
              refine s_next ?_
              exact hk_2610 _ w _ _ _ ⟨_, rfl, G, e_2612, r_2576⟩
        · rintro s_2622 F_2623 H_2624 _ e_2625 ⟨v_2543, z_2544, z_2545, z_2546, hs_2619, G, e_2620, r_2621⟩ w
          subst hs_2619
          have r0 := Rep.mo (K := K) e_2620 r0
          have r_2484 := Rep.mo (K := K) e_2620 r_2484
          have r_2490 := Rep.mo (K := K) e_2620 r_2490
          have r_2500 := Rep.mo (K := K) e_2620 r_2500
          have r_2506 := Rep.mo (K := K) e_2620 r_2506
          have r_2525 := Rep.mo (K := K) e_2620 r_2525
          refine q_for (S := Unit) (fun s F' H' σ' => ∃ (z_2628 : Option V) (z_2629 : Option V), σ' = [some v0, some v_2483, some v_2489, some v_2499, some v_2505, some v_2524, none, some v_2543, z_2544, z_2545, z_2546, z_2628, z_2629] ∧ Gr F0 H0 F' H' ∧ Ex F_2623 F') G (ei_list (Ev.nv (em_op (Ev.nv (e_lst (e_lcons em_int (e_lcons em_int (e_lcons em_int (el_nil (α := Int))))) (by simp))) (Ev.nv (e_slS (em_var rfl r0) eo_none (eo_some' (K := K) em_int))) fun _ _ => o_cat))) (tg_name (K := K)) w (fun _ _ g_2669 => ⟨_, _, rfl, G.tr g_2669, g_2669.ff⟩) (fun _ _ _ _ ⟨_, _, _, G, _⟩ => G) ?_ ?_
          · rintro x_2631 s_2630 F_2632 H_2633 _ ⟨z_2628, z_2629, hs_2634, G, e_2635⟩ F_2636 H_2637 σ_2638 g_2639 ⟨v_2647, h_2649, r_2648⟩ D_2644 P_2645 hrt_2646 hN_2640 hC_2641 hB_2642 hP_2643 w
            subst hs_2634
            subst h_2649
            have r0 := Rep.mo (K := K) e_2635 r0
            have r_2484 := Rep.mo (K := K) e_2635 r_2484
            have r_2490 := Rep.mo (K := K) e_2635 r_2490
            have r_2500 := Rep.mo (K := K) e_2635 r_2500
            have r_2506 := Rep.mo (K := K) e_2635 r_2506
            have r_2525 := Rep.mo (K := K) e_2635 r_2525
            have r_2621 := Rep.mo (K := K) e_2635 r_2621
            have G := G.tr g_2639
            have r0 := Rep.mo (K := K) g_2639.ff r0
            have r_2484 := Rep.mo (K := K) g_2639.ff r_2484
            have r_2490 := Rep.mo (K := K) g_2639.ff r_2490
            have r_2500 := Rep.mo (K := K) g_2639.ff r_2500
            have r_2506 := Rep.mo (K := K) g_2639.ff r_2506
            have r_2525 := Rep.mo (K := K) g_2639.ff r_2525
            have r_2621 := Rep.mo (K := K) g_2639.ff r_2621
            have e_2635 := Ex.tr e_2635 g_2639.ff
            have e_2650 := Ex.rf F_2636
            have hQ : ∀ r F1 H1 v, Gr F0 H0 F1 H1 → (rv K (ρ := Bool)) F0 H0 F1 H1 v r → P_2645 (.rt r) → D_2644.rt v H1 := fun r F1 H1 v g m p => by rw [hrt_2646]; exact hQ r F1 H1 v g m (hP_2643 _ p)
            unfold m_law_b2 at w
            refine q_asg (K := K) G w (e_call0 (f := (fun a : ((List ((Option Int) × Int)) × Int × Unit) => m_law_spoiled a.1 a.2.1)) (x := (form_2479, x_2631, ())) (e_cons (em_var rfl r_2484) (e_cons (em_var rfl r_2648) ea_nil))) fun spoiled_2651 F_2652 H_2653 v_2655 g_2654 r_2656 w => ?_
            have G := G.tr g_2654
            have r0 := Rep.mo (K := K) g_2654.ff r0
            have r_2484 := Rep.mo (K := K) g_2654.ff r_2484
            have r_2490 := Rep.mo (K := K) g_2654.ff r_2490
            have r_2500 := Rep.mo (K := K) g_2654.ff r_2500
            have r_2506 := Rep.mo (K := K) g_2654.ff r_2506
            have r_2525 := Rep.mo (K := K) g_2654.ff r_2525
            have r_2621 := Rep.mo (K := K) g_2654.ff r_2621
            have r_2648 := Rep.mo (K := K) g_2654.ff r_2648
            have e_2635 := Ex.tr e_2635 g_2654.ff
            have e_2650 := Ex.tr e_2650 g_2654.ff
            refine s_if2 G w (t_of (em_op (e_call0 (f := (fun a : ((List ((Option Int) × Int)) × Unit) => m_law_word a.1)) (x := (spoiled_2651, ())) (e_cons (Ev.nv (e_cb (e_cons (em_var rfl r_2656) ea_nil) a_list)) ea_nil)) (em_wd (by decide +kernel)) fun _ _ => o_neW)) (fun F_2659 H_2660 g_2661 w => ?_) (fun F_2659 H_2660 g_2661 w => ?_)
            · have G := G.tr g_2661
              have r0 := Rep.mo (K := K) g_2661.ff r0
              have r_2484 := Rep.mo (K := K) g_2661.ff r_2484
              have r_2490 := Rep.mo (K := K) g_2661.ff r_2490
              have r_2500 := Rep.mo (K := K) g_2661.ff r_2500
              have r_2506 := Rep.mo (K := K) g_2661.ff r_2506
              have r_2525 := Rep.mo (K := K) g_2661.ff r_2525
              have r_2621 := Rep.mo (K := K) g_2661.ff r_2621
              have r_2648 := Rep.mo (K := K) g_2661.ff r_2648
              have r_2656 := Rep.mo (K := K) g_2661.ff r_2656
              have e_2635 := Ex.tr e_2635 g_2661.ff
              have e_2650 := Ex.tr e_2650 g_2661.ff
              exact s_ret G w em_bl fun r F1 H1 v g m p => hQ r F1 H1 v g m p
            · have G := G.tr g_2661
              have r0 := Rep.mo (K := K) g_2661.ff r0
              have r_2484 := Rep.mo (K := K) g_2661.ff r_2484
              have r_2490 := Rep.mo (K := K) g_2661.ff r_2490
              have r_2500 := Rep.mo (K := K) g_2661.ff r_2500
              have r_2506 := Rep.mo (K := K) g_2661.ff r_2506
              have r_2525 := Rep.mo (K := K) g_2661.ff r_2525
              have r_2621 := Rep.mo (K := K) g_2661.ff r_2621
              have r_2648 := Rep.mo (K := K) g_2661.ff r_2648
              have r_2656 := Rep.mo (K := K) g_2661.ff r_2656
              have e_2635 := Ex.tr e_2635 g_2661.ff
              have e_2650 := Ex.tr e_2650 g_2661.ff
              refine s_next ?_
              exact hN_2640 _ w _ _ _ e_2650 ⟨_, _, rfl, G, e_2635⟩
          · rintro s_2665 F_2666 H_2667 _ e_2668 ⟨z_2628, z_2629, hs_2663, G, e_2664⟩ w
            subst hs_2663
            have r0 := Rep.mo (K := K) e_2664 r0
            have r_2484 := Rep.mo (K := K) e_2664 r_2484
            have r_2490 := Rep.mo (K := K) e_2664 r_2490
            have r_2500 := Rep.mo (K := K) e_2664 r_2500
            have r_2506 := Rep.mo (K := K) e_2664 r_2506
            have r_2525 := Rep.mo (K := K) e_2664 r_2525
            have r_2621 := Rep.mo (K := K) e_2664 r_2621
            exact s_ret0 G w (e2 (em_var rfl r_2490) (em_var rfl r_2484) (o_eqD (by decide))) fun r F1 H1 v g m p => hQ r F1 H1 v g m p
end
def spLaw (K : PySem.W.Frag) : Sp := fun vs H Q _ => ∃ (a : Addr) (ns : List Int), vs = [.ref a] ∧ SqL K H a (ns.map V.int) ∧ ns.length ≤ 63 ∧ ∀ H', Q (.bl true) H'
theorem law_of {P : Program} {w : World} {K : PySem.W.Frag} {mg : Str → Option Value} {base : Heap} {ce : Ce} {k : Nat} {f : Addr} {fd : FuncData} (F : FnOk P w K mg base (L2.CX P w) k f fd ["script"] (sp_law K ce)) : FnOk P w K mg base CX0 k f fd ["script"] (spLaw K) :=
  fn_quiet F fun vs H Q E ⟨a, ns, h1, h2, h3, h4⟩ => ⟨H, (⟨ns⟩, ()), Ex.rf _, ⟨.ref a, [], h1, ⟨a, rfl, h2⟩, rfl⟩, by
    show Post ce (rv K) (m_law ⟨ns⟩) H H Q E0
    rw [law_true ns h3]
    intro F' H' v g r
    cases r
    exact h4 H'⟩
theorem all_mk {l : PySem.W.OpenLaw} {w : World} {K : PySem.W.Frag} {h : Heap} {mg : Str → Option Value} {fa f0 f1 f2 f3 f4 f5 f6 f7 f8 f9 f10 f11 f12 f13 f14 f15 f16 f17 f18 C_BadForm C_BadWorks C_HasCrusher C_Stuck C_BadCurve C_MeshError C_Works : Addr} {t_MOST_BIN : Tok} {t_MOST_PAIRS : Tok} {t_MOST_PARTS : Tok} {t_MOST_ROWS : Tok} {t_WIDEST : Tok} (X : K.In h) (G : h.Ns mainGlobals mg) (hfa : mg "law" = some (.ref fa))
    {od0 an0 : Option Addr} {sl0 : Array (Option Value)} {oc0 kV0 dc0 pm0 cd0 ct0 : Value}
    {od1 an1 : Option Addr} {sl1 : Array (Option Value)} {oc1 kV1 dc1 pm1 cd1 ct1 : Value}
    {od2 an2 : Option Addr} {sl2 : Array (Option Value)} {oc2 kV2 dc2 pm2 cd2 ct2 : Value}
    {od3 an3 : Option Addr} {sl3 : Array (Option Value)} {oc3 kV3 dc3 pm3 cd3 ct3 : Value}
    {od4 an4 : Option Addr} {sl4 : Array (Option Value)} {oc4 kV4 dc4 pm4 cd4 ct4 : Value}
    {od5 an5 : Option Addr} {sl5 : Array (Option Value)} {oc5 kV5 dc5 pm5 cd5 ct5 : Value}
    {od6 an6 : Option Addr} {sl6 : Array (Option Value)} {oc6 kV6 dc6 pm6 cd6 ct6 : Value}
    {od7 an7 : Option Addr} {sl7 : Array (Option Value)} {oc7 kV7 dc7 pm7 cd7 ct7 : Value}
    {od8 an8 : Option Addr} {sl8 : Array (Option Value)} {oc8 kV8 dc8 pm8 cd8 ct8 : Value}
    {od9 an9 : Option Addr} {sl9 : Array (Option Value)} {oc9 kV9 dc9 pm9 cd9 ct9 : Value}
    {od10 an10 : Option Addr} {sl10 : Array (Option Value)} {oc10 kV10 dc10 pm10 cd10 ct10 : Value}
    {od11 an11 : Option Addr} {sl11 : Array (Option Value)} {oc11 kV11 dc11 pm11 cd11 ct11 : Value}
    {od12 an12 : Option Addr} {sl12 : Array (Option Value)} {oc12 kV12 dc12 pm12 cd12 ct12 : Value}
    {od13 an13 : Option Addr} {sl13 : Array (Option Value)} {oc13 kV13 dc13 pm13 cd13 ct13 : Value}
    {od14 an14 : Option Addr} {sl14 : Array (Option Value)} {oc14 kV14 dc14 pm14 cd14 ct14 : Value}
    {od15 an15 : Option Addr} {sl15 : Array (Option Value)} {oc15 kV15 dc15 pm15 cd15 ct15 : Value}
    {od16 an16 : Option Addr} {sl16 : Array (Option Value)} {oc16 kV16 dc16 pm16 cd16 ct16 : Value}
    {od17 an17 : Option Addr} {sl17 : Array (Option Value)} {oc17 kV17 dc17 pm17 cd17 ct17 : Value}
    {od18 an18 : Option Addr} {sl18 : Array (Option Value)} {oc18 kV18 dc18 pm18 cd18 ct18 : Value}
    (a0 : PySem.W.nsIn K mainGlobals "_law_cell_at" = some (some (.ref f0))) (l0 : K.lookup f0 = some ⟨oc0, od0, .func (PySem.W.fnOf "_law_cell_at" "_law_cell_at" (defArgs s_law_cell_at) (defBody s_law_cell_at) (defScope s_law_cell_at) .none kV0 dc0 pm0 an0 cd0 ct0), sl0⟩) (c0 : PySem.W.codeIn K cd0 "_law_cell_at" = true) (k0 : PySem.W.keepIn K (.ref f0) = true)
    (a1 : PySem.W.nsIn K mainGlobals "_law_size" = some (some (.ref f1))) (l1 : K.lookup f1 = some ⟨oc1, od1, .func (PySem.W.fnOf "_law_size" "_law_size" (defArgs s_law_size) (defBody s_law_size) (defScope s_law_size) .none kV1 dc1 pm1 an1 cd1 ct1), sl1⟩) (c1 : PySem.W.codeIn K cd1 "_law_size" = true) (k1 : PySem.W.keepIn K (.ref f1) = true)
    (a2 : PySem.W.nsIn K mainGlobals "_law_form" = some (some (.ref f2))) (l2 : K.lookup f2 = some ⟨oc2, od2, .func (PySem.W.fnOf "_law_form" "_law_form" (defArgs s_law_form) (defBody s_law_form) (defScope s_law_form) .none kV2 dc2 pm2 an2 cd2 ct2), sl2⟩) (c2 : PySem.W.codeIn K cd2 "_law_form" = true) (k2 : PySem.W.keepIn K (.ref f2) = true)
    (a3 : PySem.W.nsIn K mainGlobals "good_row" = some (some (.ref f3))) (l3 : K.lookup f3 = some ⟨oc3, od3, .func (PySem.W.fnOf "good_row" "good_row" (defArgs s_good_row) (defBody s_good_row) (defScope s_good_row) .none kV3 dc3 pm3 an3 cd3 ct3), sl3⟩) (c3 : PySem.W.codeIn K cd3 "good_row" = true) (k3 : PySem.W.keepIn K (.ref f3) = true)
    (a4 : PySem.W.findIn K (.ref C_Works) "__init__" = some (some (.ref f4))) (i4 : PySem.W.isFn K (.ref f4) = true) (l4 : K.lookup f4 = some ⟨oc4, od4, .func (PySem.W.fnOf "__init__" "Works.__init__" (defArgs s_Works) (defBody s_Works) (defScope s_Works) .none kV4 dc4 pm4 an4 cd4 ct4), sl4⟩) (c4 : PySem.W.codeIn K cd4 "Works.__init__" = true) (k4 : PySem.W.keepIn K (.ref f4) = true)
    (a5 : PySem.W.nsIn K mainGlobals "good_form" = some (some (.ref f5))) (l5 : K.lookup f5 = some ⟨oc5, od5, .func (PySem.W.fnOf "good_form" "good_form" (defArgs s_good_form) (defBody s_good_form) (defScope s_good_form) .none kV5 dc5 pm5 an5 cd5 ct5), sl5⟩) (c5 : PySem.W.codeIn K cd5 "good_form" = true) (k5 : PySem.W.keepIn K (.ref f5) = true)
    (a6 : PySem.W.nsIn K mainGlobals "works_by" = some (some (.ref f6))) (l6 : K.lookup f6 = some ⟨oc6, od6, .func (PySem.W.fnOf "works_by" "works_by" (defArgs s_works_by) (defBody s_works_by) (defScope s_works_by) .none kV6 dc6 pm6 an6 cd6 ct6), sl6⟩) (c6 : PySem.W.codeIn K cd6 "works_by" = true) (k6 : PySem.W.keepIn K (.ref f6) = true)
    (a7 : PySem.W.nsIn K mainGlobals "_law_spoiled" = some (some (.ref f7))) (l7 : K.lookup f7 = some ⟨oc7, od7, .func (PySem.W.fnOf "_law_spoiled" "_law_spoiled" (defArgs s_law_spoiled) (defBody s_law_spoiled) (defScope s_law_spoiled) .none kV7 dc7 pm7 an7 cd7 ct7), sl7⟩) (c7 : PySem.W.codeIn K cd7 "_law_spoiled" = true) (k7 : PySem.W.keepIn K (.ref f7) = true)
    (a8 : PySem.W.nsIn K mainGlobals "pieces_of" = some (some (.ref f8))) (l8 : K.lookup f8 = some ⟨oc8, od8, .func (PySem.W.fnOf "pieces_of" "pieces_of" (defArgs s_pieces_of) (defBody s_pieces_of) (defScope s_pieces_of) .none kV8 dc8 pm8 an8 cd8 ct8), sl8⟩) (c8 : PySem.W.codeIn K cd8 "pieces_of" = true) (k8 : PySem.W.keepIn K (.ref f8) = true)
    (a9 : PySem.W.nsIn K mainGlobals "goes_on" = some (some (.ref f9))) (l9 : K.lookup f9 = some ⟨oc9, od9, .func (PySem.W.fnOf "goes_on" "goes_on" (defArgs s_goes_on) (defBody s_goes_on) (defScope s_goes_on) .none kV9 dc9 pm9 an9 cd9 ct9), sl9⟩) (c9 : PySem.W.codeIn K cd9 "goes_on" = true) (k9 : PySem.W.keepIn K (.ref f9) = true)
    (a10 : PySem.W.nsIn K mainGlobals "bin_at" = some (some (.ref f10))) (l10 : K.lookup f10 = some ⟨oc10, od10, .func (PySem.W.fnOf "bin_at" "bin_at" (defArgs s_bin_at) (defBody s_bin_at) (defScope s_bin_at) .none kV10 dc10 pm10 an10 cd10 ct10), sl10⟩) (c10 : PySem.W.codeIn K cd10 "bin_at" = true) (k10 : PySem.W.keepIn K (.ref f10) = true)
    (a11 : PySem.W.nsIn K mainGlobals "sizes_looked" = some (some (.ref f11))) (l11 : K.lookup f11 = some ⟨oc11, od11, .func (PySem.W.fnOf "sizes_looked" "sizes_looked" (defArgs s_sizes_looked) (defBody s_sizes_looked) (defScope s_sizes_looked) .none kV11 dc11 pm11 an11 cd11 ct11), sl11⟩) (c11 : PySem.W.codeIn K cd11 "sizes_looked" = true) (k11 : PySem.W.keepIn K (.ref f11) = true)
    (a12 : PySem.W.nsIn K mainGlobals "whole_to" = some (some (.ref f12))) (l12 : K.lookup f12 = some ⟨oc12, od12, .func (PySem.W.fnOf "whole_to" "whole_to" (defArgs s_whole_to) (defBody s_whole_to) (defScope s_whole_to) .none kV12 dc12 pm12 an12 cd12 ct12), sl12⟩) (c12 : PySem.W.codeIn K cd12 "whole_to" = true) (k12 : PySem.W.keepIn K (.ref f12) = true)
    (a13 : PySem.W.nsIn K mainGlobals "ring_from" = some (some (.ref f13))) (l13 : K.lookup f13 = some ⟨oc13, od13, .func (PySem.W.fnOf "ring_from" "ring_from" (defArgs s_ring_from) (defBody s_ring_from) (defScope s_ring_from) .none kV13 dc13 pm13 an13 cd13 ct13), sl13⟩) (c13 : PySem.W.codeIn K cd13 "ring_from" = true) (k13 : PySem.W.keepIn K (.ref f13) = true)
    (a14 : PySem.W.nsIn K mainGlobals "ring_of" = some (some (.ref f14))) (l14 : K.lookup f14 = some ⟨oc14, od14, .func (PySem.W.fnOf "ring_of" "ring_of" (defArgs s_ring_of) (defBody s_ring_of) (defScope s_ring_of) .none kV14 dc14 pm14 an14 cd14 ct14), sl14⟩) (c14 : PySem.W.codeIn K cd14 "ring_of" = true) (k14 : PySem.W.keepIn K (.ref f14) = true)
    (a15 : PySem.W.nsIn K mainGlobals "form_of" = some (some (.ref f15))) (l15 : K.lookup f15 = some ⟨oc15, od15, .func (PySem.W.fnOf "form_of" "form_of" (defArgs s_form_of) (defBody s_form_of) (defScope s_form_of) .none kV15 dc15 pm15 an15 cd15 ct15), sl15⟩) (c15 : PySem.W.codeIn K cd15 "form_of" = true) (k15 : PySem.W.keepIn K (.ref f15) = true)
    (a16 : PySem.W.nsIn K mainGlobals "_law_word" = some (some (.ref f16))) (l16 : K.lookup f16 = some ⟨oc16, od16, .func (PySem.W.fnOf "_law_word" "_law_word" (defArgs s_law_word) (defBody s_law_word) (defScope s_law_word) .none kV16 dc16 pm16 an16 cd16 ct16), sl16⟩) (c16 : PySem.W.codeIn K cd16 "_law_word" = true) (k16 : PySem.W.keepIn K (.ref f16) = true)
    (a17 : PySem.W.nsIn K mainGlobals "_law_bin" = some (some (.ref f17))) (l17 : K.lookup f17 = some ⟨oc17, od17, .func (PySem.W.fnOf "_law_bin" "_law_bin" (defArgs s_law_bin) (defBody s_law_bin) (defScope s_law_bin) .none kV17 dc17 pm17 an17 cd17 ct17), sl17⟩) (c17 : PySem.W.codeIn K cd17 "_law_bin" = true) (k17 : PySem.W.keepIn K (.ref f17) = true)
    (a18 : PySem.W.nsIn K mainGlobals "law" = some (some (.ref f18))) (l18 : K.lookup f18 = some ⟨oc18, od18, .func (PySem.W.fnOf "law" "law" (defArgs s_law) (defBody s_law) (defScope s_law) .none kV18 dc18 pm18 an18 cd18 ct18), sl18⟩) (c18 : PySem.W.codeIn K cd18 "law" = true) (k18 : PySem.W.keepIn K (.ref f18) = true)
    (ea_BadForm : PySem.W.nsIn K mainGlobals "BadForm" = some (some (.ref C_BadForm))) (ex_BadForm : PySem.W.excIn K C_BadForm [.type "ValueError", .type "Exception", .type "BaseException", .type "object"] "ValueError.__new__" = true) (ek_BadForm : PySem.W.keepIn K (.ref C_BadForm) = true) (eb_BadForm : PySem.W.subIn K (.ref C_BadForm) (.type "BaseException") = some true) (et_BadForm : PySem.W.typeIn K (.ref C_BadForm) = some (.type "type"))
    (ea_BadWorks : PySem.W.nsIn K mainGlobals "BadWorks" = some (some (.ref C_BadWorks))) (ex_BadWorks : PySem.W.excIn K C_BadWorks [.type "ValueError", .type "Exception", .type "BaseException", .type "object"] "ValueError.__new__" = true) (ek_BadWorks : PySem.W.keepIn K (.ref C_BadWorks) = true) (eb_BadWorks : PySem.W.subIn K (.ref C_BadWorks) (.type "BaseException") = some true) (et_BadWorks : PySem.W.typeIn K (.ref C_BadWorks) = some (.type "type"))
    (ea_HasCrusher : PySem.W.nsIn K mainGlobals "HasCrusher" = some (some (.ref C_HasCrusher))) (ex_HasCrusher : PySem.W.excIn K C_HasCrusher [.type "ValueError", .type "Exception", .type "BaseException", .type "object"] "ValueError.__new__" = true) (ek_HasCrusher : PySem.W.keepIn K (.ref C_HasCrusher) = true) (eb_HasCrusher : PySem.W.subIn K (.ref C_HasCrusher) (.type "BaseException") = some true) (et_HasCrusher : PySem.W.typeIn K (.ref C_HasCrusher) = some (.type "type"))
    (ea_Stuck : PySem.W.nsIn K mainGlobals "Stuck" = some (some (.ref C_Stuck))) (ex_Stuck : PySem.W.excIn K C_Stuck [.type "ValueError", .type "Exception", .type "BaseException", .type "object"] "ValueError.__new__" = true) (ek_Stuck : PySem.W.keepIn K (.ref C_Stuck) = true) (eb_Stuck : PySem.W.subIn K (.ref C_Stuck) (.type "BaseException") = some true) (et_Stuck : PySem.W.typeIn K (.ref C_Stuck) = some (.type "type"))
    (n_MOST_BIN : PySem.W.nsIn K mainGlobals "MOST_BIN" = some (some (.int 5 t_MOST_BIN)))
    (n_MOST_PAIRS : PySem.W.nsIn K mainGlobals "MOST_PAIRS" = some (some (.int 6 t_MOST_PAIRS)))
    (n_MOST_PARTS : PySem.W.nsIn K mainGlobals "MOST_PARTS" = some (some (.int 9 t_MOST_PARTS)))
    (n_MOST_ROWS : PySem.W.nsIn K mainGlobals "MOST_ROWS" = some (some (.int 12 t_MOST_ROWS)))
    (n_WIDEST : PySem.W.nsIn K mainGlobals "WIDEST" = some (some (.int 1000000000000000000000000000000000000000000000000000000000000 t_WIDEST)))
    (z_ValueError : PySem.W.nsIn K mainGlobals "ValueError" = some none)
    (z_int : PySem.W.nsIn K mainGlobals "int" = some none)
    (z_isinstance : PySem.W.nsIn K mainGlobals "isinstance" = some none)
    (z_len : PySem.W.nsIn K mainGlobals "len" = some none)
    (z_list : PySem.W.nsIn K mainGlobals "list" = some none)
    (z_max : PySem.W.nsIn K mainGlobals "max" = some none)
    (z_range : PySem.W.nsIn K mainGlobals "range" = some none)
    (z_reversed : PySem.W.nsIn K mainGlobals "reversed" = some none)
    (z_set : PySem.W.nsIn K mainGlobals "set" = some none)
    (z_sorted : PySem.W.nsIn K mainGlobals "sorted" = some none)
    (ea_BadCurve : PySem.W.nsIn K mainGlobals "BadCurve" = some (some (.ref C_BadCurve)))
    (ea_MeshError : PySem.W.nsIn K mainGlobals "MeshError" = some (some (.ref C_MeshError)))
    (ea_Works : PySem.W.nsIn K mainGlobals "Works" = some (some (.ref C_Works)))
    (pg_Works : PySem.W.plainGet K C_Works Str.empty = true) (hd_Works : PySem.W.hasDictIn K C_Works = true) (po_Works : PySem.W.plainOver K C_Works = true) (sa_Works : PySem.W.findIn K (.ref C_Works) "__setattr__" = some (some (.builtin "object.__setattr__"))) (mk_Works : PySem.W.makesIn K C_Works = true) (kc_Works : PySem.W.keepIn K (.ref C_Works) = true)
    (hi_BadForm_BadCurve : PySem.W.kitOne K (.ref C_BadForm) (.ref C_BadCurve) = some false)
    (hi_BadForm_BadForm : PySem.W.kitOne K (.ref C_BadForm) (.ref C_BadForm) = some true)
    (hi_BadForm_BadWorks : PySem.W.kitOne K (.ref C_BadForm) (.ref C_BadWorks) = some false)
    (hi_BadForm_ValueError : PySem.W.kitOne K (.ref C_BadForm) (.type "ValueError") = some true)
    (hi_BadWorks_BadCurve : PySem.W.kitOne K (.ref C_BadWorks) (.ref C_BadCurve) = some false)
    (hi_BadWorks_BadForm : PySem.W.kitOne K (.ref C_BadWorks) (.ref C_BadForm) = some false)
    (hi_BadWorks_BadWorks : PySem.W.kitOne K (.ref C_BadWorks) (.ref C_BadWorks) = some true)
    (hi_BadWorks_ValueError : PySem.W.kitOne K (.ref C_BadWorks) (.type "ValueError") = some true)
    (hn_Works_parts : PySem.W.findIn K (.ref C_Works) "parts" = some none)
    (hn_Works_rows : PySem.W.findIn K (.ref C_Works) "rows" = some none)
    (xq0_BadForm : PySem.W.findIn K (.ref C_BadForm) "__getattribute__" = some (some (.builtin "BaseException.__getattribute__")))
    (xq1_BadForm : PySem.W.findIn K (.ref C_BadForm) "__getattr__" = some none)
    (xq2_BadForm : PySem.W.subIn K (.ref C_BadForm) (.type "BaseException") = some true)
    (xq3_BadForm : PySem.W.hasDictIn K C_BadForm = true)
    (xq4_BadForm : PySem.W.findIn K (.ref C_BadForm) "__class__" = some (some (.builtin "object.__class__")))
    (xq5_BadForm : PySem.W.mroIn K C_BadForm (.type "object") = some true)
    (xq0_BadWorks : PySem.W.findIn K (.ref C_BadWorks) "__getattribute__" = some (some (.builtin "BaseException.__getattribute__")))
    (xq1_BadWorks : PySem.W.findIn K (.ref C_BadWorks) "__getattr__" = some none)
    (xq2_BadWorks : PySem.W.subIn K (.ref C_BadWorks) (.type "BaseException") = some true)
    (xq3_BadWorks : PySem.W.hasDictIn K C_BadWorks = true)
    (xq4_BadWorks : PySem.W.findIn K (.ref C_BadWorks) "__class__" = some (some (.builtin "object.__class__")))
    (xq5_BadWorks : PySem.W.mroIn K C_BadWorks (.type "object") = some true)
    (hm_BadForm_MeshError : PySem.W.exmOne K (.ref C_BadForm) (.ref C_MeshError) = some true)
    (hm_BadWorks_MeshError : PySem.W.exmOne K (.ref C_BadWorks) (.ref C_MeshError) = some true)
    (xqA : PySem.W.specialIn K (.builtin "object.__class__") "__get__" = some (some (.builtin "getset_descriptor.__get__"))) (xqB : PySem.W.takesIn K (.builtin "object.__class__") = some true) :
    ∃ fd : FuncData, (∀ (s : Shared) (v : Value), BindsTo s fd ⟨[v], []⟩ [("script", v)]) ∧ ∀ base : Heap, K.In base → base.Ns mainGlobals mg → FnOk l.prog w K mg base CX0 7 fa fd ["script"] (spLaw K) := by
  have e := hfa.symm.trans (PySem.W.mg_of X G a18)
  cases e
  let ce : Ce := fun n => if n = "Works" then C_Works else (fun n => if n = "MeshError" then C_MeshError else (fun n => if n = "BadCurve" then C_BadCurve else (fun n => if n = "Stuck" then C_Stuck else (fun n => if n = "HasCrusher" then C_HasCrusher else (fun n => if n = "BadWorks" then C_BadWorks else (fun n => if n = "BadForm" then C_BadForm else (fun _ => 0) n) n) n) n) n) n) n
  have x_BadForm : ErrC K mg (ce "BadForm") "BadForm" := by
    rw [show ce "BadForm" = C_BadForm from by simp [ce]]
    exact ⟨PySem.W.mg_of X G ea_BadForm, ex_BadForm, ek_BadForm, eb_BadForm, et_BadForm⟩
  have x_BadWorks : ErrC K mg (ce "BadWorks") "BadWorks" := by
    rw [show ce "BadWorks" = C_BadWorks from by simp [ce]]
    exact ⟨PySem.W.mg_of X G ea_BadWorks, ex_BadWorks, ek_BadWorks, eb_BadWorks, et_BadWorks⟩
  have x_HasCrusher : ErrC K mg (ce "HasCrusher") "HasCrusher" := by
    rw [show ce "HasCrusher" = C_HasCrusher from by simp [ce]]
    exact ⟨PySem.W.mg_of X G ea_HasCrusher, ex_HasCrusher, ek_HasCrusher, eb_HasCrusher, et_HasCrusher⟩
  have x_Stuck : ErrC K mg (ce "Stuck") "Stuck" := by
    rw [show ce "Stuck" = C_Stuck from by simp [ce]]
    exact ⟨PySem.W.mg_of X G ea_Stuck, ex_Stuck, ek_Stuck, eb_Stuck, et_Stuck⟩
  have cls_Works : Cls K (ce "Works") := by
    rw [show ce "Works" = C_Works from by simp [ce]]
    exact ⟨pg_Works, hd_Works, po_Works, sa_Works⟩
  have mgc_Works : mg "Works" = some (.ref (ce "Works")) := by
    rw [show ce "Works" = C_Works from by simp [ce]]
    exact PySem.W.mg_of X G ea_Works
  have M_Works : Mk K (ce "Works") f4 := by
    rw [show ce "Works" = C_Works from by simp [ce]]
    exact ⟨mk_Works, a4, i4, kc_Works⟩
  have mc_BadCurve : mg "BadCurve" = some (.ref (ce "BadCurve")) := by
    rw [show ce "BadCurve" = C_BadCurve from by simp [ce]]
    exact PySem.W.mg_of X G ea_BadCurve
  have mc_BadForm : mg "BadForm" = some (.ref (ce "BadForm")) := by
    rw [show ce "BadForm" = C_BadForm from by simp [ce]]
    exact PySem.W.mg_of X G ea_BadForm
  have mc_BadWorks : mg "BadWorks" = some (.ref (ce "BadWorks")) := by
    rw [show ce "BadWorks" = C_BadWorks from by simp [ce]]
    exact PySem.W.mg_of X G ea_BadWorks
  have mc_MeshError : mg "MeshError" = some (.ref (ce "MeshError")) := by
    rw [show ce "MeshError" = C_MeshError from by simp [ce]]
    exact PySem.W.mg_of X G ea_MeshError
  have ki_BadForm_BadCurve : PySem.W.kitOne K (.ref (ce "BadForm")) (.ref (ce "BadCurve")) = some false := by
    rw [show ce "BadForm" = C_BadForm from by simp [ce], show ce "BadCurve" = C_BadCurve from by simp [ce]]
    exact hi_BadForm_BadCurve
  have ki_BadForm_BadForm : PySem.W.kitOne K (.ref (ce "BadForm")) (.ref (ce "BadForm")) = some true := by
    rw [show ce "BadForm" = C_BadForm from by simp [ce]]
    exact hi_BadForm_BadForm
  have ki_BadForm_BadWorks : PySem.W.kitOne K (.ref (ce "BadForm")) (.ref (ce "BadWorks")) = some false := by
    rw [show ce "BadForm" = C_BadForm from by simp [ce], show ce "BadWorks" = C_BadWorks from by simp [ce]]
    exact hi_BadForm_BadWorks
  have ki_BadForm_ValueError : PySem.W.kitOne K (.ref (ce "BadForm")) (.type "ValueError") = some true := by
    rw [show ce "BadForm" = C_BadForm from by simp [ce]]
    exact hi_BadForm_ValueError
  have ki_BadWorks_BadCurve : PySem.W.kitOne K (.ref (ce "BadWorks")) (.ref (ce "BadCurve")) = some false := by
    rw [show ce "BadWorks" = C_BadWorks from by simp [ce], show ce "BadCurve" = C_BadCurve from by simp [ce]]
    exact hi_BadWorks_BadCurve
  have ki_BadWorks_BadForm : PySem.W.kitOne K (.ref (ce "BadWorks")) (.ref (ce "BadForm")) = some false := by
    rw [show ce "BadWorks" = C_BadWorks from by simp [ce], show ce "BadForm" = C_BadForm from by simp [ce]]
    exact hi_BadWorks_BadForm
  have ki_BadWorks_BadWorks : PySem.W.kitOne K (.ref (ce "BadWorks")) (.ref (ce "BadWorks")) = some true := by
    rw [show ce "BadWorks" = C_BadWorks from by simp [ce]]
    exact hi_BadWorks_BadWorks
  have ki_BadWorks_ValueError : PySem.W.kitOne K (.ref (ce "BadWorks")) (.type "ValueError") = some true := by
    rw [show ce "BadWorks" = C_BadWorks from by simp [ce]]
    exact hi_BadWorks_ValueError
  have na_Works_parts : NoAttr K (ce "Works") "parts" := by
    rw [show ce "Works" = C_Works from by simp [ce]]
    exact hn_Works_parts
  have na_Works_rows : NoAttr K (ce "Works") "rows" := by
    rw [show ce "Works" = C_Works from by simp [ce]]
    exact hn_Works_rows
  have xc_BadForm : ExcC K (ce "BadForm") := by
    rw [show ce "BadForm" = C_BadForm from by simp [ce]]
    exact ⟨xq0_BadForm, xq1_BadForm, xq2_BadForm, xq3_BadForm, xq4_BadForm, xqA, xqB, xq5_BadForm⟩
  have xc_BadWorks : ExcC K (ce "BadWorks") := by
    rw [show ce "BadWorks" = C_BadWorks from by simp [ce]]
    exact ⟨xq0_BadWorks, xq1_BadWorks, xq2_BadWorks, xq3_BadWorks, xq4_BadWorks, xqA, xqB, xq5_BadWorks⟩
  have xm_BadForm_MeshError : PySem.W.exmOne K (.ref (ce "BadForm")) (.ref (ce "MeshError")) = some true := by
    rw [show ce "BadForm" = C_BadForm from by simp [ce], show ce "MeshError" = C_MeshError from by simp [ce]]
    exact hm_BadForm_MeshError
  have xm_BadWorks_MeshError : PySem.W.exmOne K (.ref (ce "BadWorks")) (.ref (ce "MeshError")) = some true := by
    rw [show ce "BadWorks" = C_BadWorks from by simp [ce], show ce "MeshError" = C_MeshError from by simp [ce]]
    exact hm_BadWorks_MeshError
  have c_MOST_BIN := PySem.W.mg_of X G n_MOST_BIN
  have c_MOST_PAIRS := PySem.W.mg_of X G n_MOST_PAIRS
  have c_MOST_PARTS := PySem.W.mg_of X G n_MOST_PARTS
  have c_MOST_ROWS := PySem.W.mg_of X G n_MOST_ROWS
  have c_WIDEST := PySem.W.mg_of X G n_WIDEST
  have z_ValueError := PySem.W.mg_none_of X G z_ValueError
  have z_int := PySem.W.mg_none_of X G z_int
  have z_isinstance := PySem.W.mg_none_of X G z_isinstance
  have z_len := PySem.W.mg_none_of X G z_len
  have z_list := PySem.W.mg_none_of X G z_list
  have z_max := PySem.W.mg_none_of X G z_max
  have z_range := PySem.W.mg_none_of X G z_range
  have z_reversed := PySem.W.mg_none_of X G z_reversed
  have z_set := PySem.W.mg_none_of X G z_set
  have z_sorted := PySem.W.mg_none_of X G z_sorted
  have F0 := fun_mk (st := s_law_cell_at) l0 c0 k0
  have b__law_cell_at := F0.binds (ps := ["script", "k"]) fun _ _ _ _ _ _ us hl => match us, hl with | [_, _], _ => rfl
  have mg__law_cell_at := PySem.W.mg_of X G a0
  have F1 := fun_mk (st := s_law_size) l1 c1 k1
  have b__law_size := F1.binds (ps := ["cell"]) fun _ _ _ _ _ _ us hl => match us, hl with | [_], _ => rfl
  have mg__law_size := PySem.W.mg_of X G a1
  have F2 := fun_mk (st := s_law_form) l2 c2 k2
  have b__law_form := F2.binds (ps := ["script"]) fun _ _ _ _ _ _ us hl => match us, hl with | [_], _ => rfl
  have mg__law_form := PySem.W.mg_of X G a2
  have F3 := fun_mk (st := s_good_row) l3 c3 k3
  have b_good_row := F3.binds (ps := ["row", "many"]) fun _ _ _ _ _ _ us hl => match us, hl with | [_, _], _ => rfl
  have mg_good_row := PySem.W.mg_of X G a3
  have F4 := fun_mk (st := s_Works) l4 c4 k4
  have b_Works := F4.binds (ps := ["self", "parts", "rows"]) fun _ _ _ _ _ _ us hl => match us, hl with | [_, _, _], _ => rfl
  have F5 := fun_mk (st := s_good_form) l5 c5 k5
  have b_good_form := F5.binds (ps := ["form"]) fun _ _ _ _ _ _ us hl => match us, hl with | [_], _ => rfl
  have mg_good_form := PySem.W.mg_of X G a5
  have F6 := fun_mk (st := s_works_by) l6 c6 k6
  have b_works_by := F6.binds (ps := ["form", "parts"]) fun _ _ _ _ _ _ us hl => match us, hl with | [_, _], _ => rfl
  have mg_works_by := PySem.W.mg_of X G a6
  have F7 := fun_mk (st := s_law_spoiled) l7 c7 k7
  have b__law_spoiled := F7.binds (ps := ["form", "cell"]) fun _ _ _ _ _ _ us hl => match us, hl with | [_, _], _ => rfl
  have mg__law_spoiled := PySem.W.mg_of X G a7
  have F8 := fun_mk (st := s_pieces_of) l8 c8 k8
  have b_pieces_of := F8.binds (ps := ["size", "parts"]) fun _ _ _ _ _ _ us hl => match us, hl with | [_, _], _ => rfl
  have mg_pieces_of := PySem.W.mg_of X G a8
  have F9 := fun_mk (st := s_goes_on) l9 c9 k9
  have b_goes_on := F9.binds (ps := ["works", "row", "size"]) fun _ _ _ _ _ _ us hl => match us, hl with | [_, _, _], _ => rfl
  have mg_goes_on := PySem.W.mg_of X G a9
  have F10 := fun_mk (st := s_bin_at) l10 c10 k10
  have b_bin_at := F10.binds (ps := ["works", "row", "size"]) fun _ _ _ _ _ _ us hl => match us, hl with | [_, _, _], _ => rfl
  have mg_bin_at := PySem.W.mg_of X G a10
  have F11 := fun_mk (st := s_sizes_looked) l11 c11 k11
  have b_sizes_looked := F11.binds (ps := ["works"]) fun _ _ _ _ _ _ us hl => match us, hl with | [_], _ => rfl
  have mg_sizes_looked := PySem.W.mg_of X G a11
  have F12 := fun_mk (st := s_whole_to) l12 c12 k12
  have b_whole_to := F12.binds (ps := ["works", "row", "size"]) fun _ _ _ _ _ _ us hl => match us, hl with | [_, _, _], _ => rfl
  have mg_whole_to := PySem.W.mg_of X G a12
  have F13 := fun_mk (st := s_ring_from) l13 c13 k13
  have b_ring_from := F13.binds (ps := ["works", "row", "size"]) fun _ _ _ _ _ _ us hl => match us, hl with | [_, _, _], _ => rfl
  have mg_ring_from := PySem.W.mg_of X G a13
  have F14 := fun_mk (st := s_ring_of) l14 c14 k14
  have b_ring_of := F14.binds (ps := ["works"]) fun _ _ _ _ _ _ us hl => match us, hl with | [_], _ => rfl
  have mg_ring_of := PySem.W.mg_of X G a14
  have F15 := fun_mk (st := s_form_of) l15 c15 k15
  have b_form_of := F15.binds (ps := ["works", "row"]) fun _ _ _ _ _ _ us hl => match us, hl with | [_, _], _ => rfl
  have mg_form_of := PySem.W.mg_of X G a15
  have F16 := fun_mk (st := s_law_word) l16 c16 k16
  have b__law_word := F16.binds (ps := ["form"]) fun _ _ _ _ _ _ us hl => match us, hl with | [_], _ => rfl
  have mg__law_word := PySem.W.mg_of X G a16
  have F17 := fun_mk (st := s_law_bin) l17 c17 k17
  have b__law_bin := F17.binds (ps := ["rows", "row", "size"]) fun _ _ _ _ _ _ us hl => match us, hl with | [_, _, _], _ => rfl
  have mg__law_bin := PySem.W.mg_of X G a17
  have F18 := fun_mk (st := s_law) l18 c18 k18
  refine ⟨PySem.W.fnOf "law" "law" (defArgs s_law) (defBody s_law) (defScope s_law) .none kV18 dc18 pm18 an18 cd18 ct18, fun s v => .of_eq rfl, fun base _ _ => ?_⟩
  have G__law_cell_at := ok_law_cell_at (P := l.prog) (w := w) (mg := mg) (base := base) (ce := ce) F0 z_len
  have G__law_size := ok_law_size (P := l.prog) (w := w) (mg := mg) (base := base) (ce := ce) F1
  have G__law_form := ok_law_form (P := l.prog) (w := w) (mg := mg) (base := base) (ce := ce) F2 G__law_cell_at mg__law_cell_at k0 b__law_cell_at G__law_size mg__law_size k1 b__law_size z_len z_range z_set z_sorted
  have G_good_row := ok_good_row (P := l.prog) (w := w) (mg := mg) (base := base) (ce := ce) F3 c_MOST_BIN c_WIDEST z_len
  have G_Works := ok_Works (P := l.prog) (w := w) (mg := mg) (base := base) (ce := ce) F4 cls_Works c_MOST_PARTS c_MOST_ROWS x_BadWorks G_good_row mg_good_row k3 b_good_row na_Works_parts na_Works_rows z_len z_list
  have G_good_form := ok_good_form (P := l.prog) (w := w) (mg := mg) (base := base) (ce := ce) F5 c_MOST_BIN c_MOST_PAIRS c_WIDEST z_len z_range
  have G_works_by := ok_works_by (P := l.prog) (w := w) (mg := mg) (base := base) (ce := ce) F6 x_BadForm G_good_form mg_good_form k5 b_good_form M_Works G_Works mgc_Works b_Works z_len z_range
  have G__law_spoiled := ok_law_spoiled (P := l.prog) (w := w) (mg := mg) (base := base) (ce := ce) F7 z_len z_max z_range
  have G_pieces_of := ok_pieces_of (P := l.prog) (w := w) (mg := mg) (base := base) (ce := ce) F8
  have G_goes_on := ok_goes_on (P := l.prog) (w := w) (mg := mg) (base := base) (ce := ce) F9 G_pieces_of mg_pieces_of k8 b_pieces_of
  have G_bin_at := ok_bin_at (P := l.prog) (w := w) (mg := mg) (base := base) (ce := ce) F10 G_goes_on mg_goes_on k9 b_goes_on
  have G_sizes_looked := ok_sizes_looked (P := l.prog) (w := w) (mg := mg) (base := base) (ce := ce) F11 z_sorted
  have G_whole_to := ok_whole_to (P := l.prog) (w := w) (mg := mg) (base := base) (ce := ce) F12 G_goes_on mg_goes_on k9 b_goes_on z_len
  have G_ring_from := ok_ring_from (P := l.prog) (w := w) (mg := mg) (base := base) (ce := ce) F13 G_whole_to mg_whole_to k12 b_whole_to
  have G_ring_of := ok_ring_of (P := l.prog) (w := w) (mg := mg) (base := base) (ce := ce) F14 G_ring_from mg_ring_from k13 b_ring_from G_sizes_looked mg_sizes_looked k11 b_sizes_looked z_len z_range
  have G_form_of := ok_form_of (P := l.prog) (w := w) (mg := mg) (base := base) (ce := ce) F15 c_WIDEST x_HasCrusher x_Stuck G_bin_at mg_bin_at k10 b_bin_at G_ring_of mg_ring_of k14 b_ring_of z_len z_reversed z_set z_sorted
  have G__law_word := ok_law_word (P := l.prog) (w := w) (mg := mg) (base := base) (ce := ce) F16 mc_BadCurve mc_BadForm mc_BadWorks mc_MeshError G_works_by mg_works_by k6 b_works_by ki_BadForm_BadCurve ki_BadForm_BadForm ki_BadForm_BadWorks ki_BadForm_ValueError ki_BadWorks_BadCurve ki_BadWorks_BadForm ki_BadWorks_BadWorks ki_BadWorks_ValueError xc_BadForm xc_BadWorks xm_BadForm_MeshError xm_BadWorks_MeshError z_ValueError z_isinstance
  have G__law_bin := ok_law_bin (P := l.prog) (w := w) (mg := mg) (base := base) (ce := ce) F17 z_int
  exact law_of (ok_law (mg := mg) (ce := ce) F18 G__law_bin mg__law_bin k17 b__law_bin G__law_cell_at mg__law_cell_at k0 b__law_cell_at G__law_form mg__law_form k2 b__law_form G__law_spoiled mg__law_spoiled k7 b__law_spoiled G__law_word mg__law_word k16 b__law_word G_form_of mg_form_of k15 b_form_of G_works_by mg_works_by k6 b_works_by z_len z_list)
end Kx
open PySem PySem.W PyProof.Rows L2 Mw
set_option maxRecDepth 100000 in
set_option maxHeartbeats 0 in
theorem PySem.Challenge.cw_meshworks_k26_whole_forms_there_and_back_holds : PySem.Challenge.rw_meshworks_k26_whole_forms_there_and_back.Holds := by
  w_on; o_law; k_head; (case hw => w_witness2)
  k_fill
  refine L2.walk_of (l := PySem.Challenge.rw_meshworks_k26_whole_forms_there_and_back) (n := 63) (k := 7) (x := "script") (CX := fun _ => L2.CX0) (sp := fun w => Kx.spLaw _) rfl (by decide) rfl ⟨rfl, by decide, by decide⟩ (fun w h Y => PySem.W.kIn_of Y) ?F (fun _ _ a ns hl _ hS => ⟨a, ns, rfl, hS, hl, fun _ => rfl⟩) (fun _ _ _ _ _ h => h)
  case F =>
    intro w mg fa h KX G hmg
    refine' Kx.all_mk KX G hmg ?a0 ?l0 ?c0 ?k0 ?a1 ?l1 ?c1 ?k1 ?a2 ?l2 ?c2 ?k2 ?a3 ?l3 ?c3 ?k3 ?a4 ?i4 ?l4 ?c4 ?k4 ?a5 ?l5 ?c5 ?k5 ?a6 ?l6 ?c6 ?k6 ?a7 ?l7 ?c7 ?k7 ?a8 ?l8 ?c8 ?k8 ?a9 ?l9 ?c9 ?k9 ?a10 ?l10 ?c10 ?k10 ?a11 ?l11 ?c11 ?k11 ?a12 ?l12 ?c12 ?k12 ?a13 ?l13 ?c13 ?k13 ?a14 ?l14 ?c14 ?k14 ?a15 ?l15 ?c15 ?k15 ?a16 ?l16 ?c16 ?k16 ?a17 ?l17 ?c17 ?k17 ?a18 ?l18 ?c18 ?k18 ?ea_BadForm ?ex_BadForm ?ek_BadForm ?eb_BadForm ?et_BadForm ?ea_BadWorks ?ex_BadWorks ?ek_BadWorks ?eb_BadWorks ?et_BadWorks ?ea_HasCrusher ?ex_HasCrusher ?ek_HasCrusher ?eb_HasCrusher ?et_HasCrusher ?ea_Stuck ?ex_Stuck ?ek_Stuck ?eb_Stuck ?et_Stuck ?n_MOST_BIN ?n_MOST_PAIRS ?n_MOST_PARTS ?n_MOST_ROWS ?n_WIDEST ?z_ValueError ?z_int ?z_isinstance ?z_len ?z_list ?z_max ?z_range ?z_reversed ?z_set ?z_sorted ?ea_BadCurve ?ea_MeshError ?ea_Works ?pg_Works ?hd_Works ?po_Works ?sa_Works ?mk_Works ?kc_Works ?hi_BadForm_BadCurve ?hi_BadForm_BadForm ?hi_BadForm_BadWorks ?hi_BadForm_ValueError ?hi_BadWorks_BadCurve ?hi_BadWorks_BadForm ?hi_BadWorks_BadWorks ?hi_BadWorks_ValueError ?hn_Works_parts ?hn_Works_rows ?xq0_BadForm ?xq1_BadForm ?xq2_BadForm ?xq3_BadForm ?xq4_BadForm ?xq5_BadForm ?xq0_BadWorks ?xq1_BadWorks ?xq2_BadWorks ?xq3_BadWorks ?xq4_BadWorks ?xq5_BadWorks ?hm_BadForm_MeshError ?hm_BadWorks_MeshError ?xqA ?xqB
    (case ea_BadForm => k_is)
    (case ea_BadWorks => k_is)
    (case ea_HasCrusher => k_is)
    (case ea_Stuck => k_is)
    (case ea_BadCurve => k_is)
    (case ea_MeshError => k_is)
    (case ea_Works => k_is)
    (case a0 => k_is)
    (case l0 => k_is)
    (case c0 => k_is)
    (case k0 => k_is)
    (case a1 => k_is)
    (case l1 => k_is)
    (case c1 => k_is)
    (case k1 => k_is)
    (case a2 => k_is)
    (case l2 => k_is)
    (case c2 => k_is)
    (case k2 => k_is)
    (case a3 => k_is)
    (case l3 => k_is)
    (case c3 => k_is)
    (case k3 => k_is)
    (case a4 => k_is)
    (case i4 => k_is)
    (case l4 => k_is)
    (case c4 => k_is)
    (case k4 => k_is)
    (case a5 => k_is)
    (case l5 => k_is)
    (case c5 => k_is)
    (case k5 => k_is)
    (case a6 => k_is)
    (case l6 => k_is)
    (case c6 => k_is)
    (case k6 => k_is)
    (case a7 => k_is)
    (case l7 => k_is)
    (case c7 => k_is)
    (case k7 => k_is)
    (case a8 => k_is)
    (case l8 => k_is)
    (case c8 => k_is)
    (case k8 => k_is)
    (case a9 => k_is)
    (case l9 => k_is)
    (case c9 => k_is)
    (case k9 => k_is)
    (case a10 => k_is)
    (case l10 => k_is)
    (case c10 => k_is)
    (case k10 => k_is)
    (case a11 => k_is)
    (case l11 => k_is)
    (case c11 => k_is)
    (case k11 => k_is)
    (case a12 => k_is)
    (case l12 => k_is)
    (case c12 => k_is)
    (case k12 => k_is)
    (case a13 => k_is)
    (case l13 => k_is)
    (case c13 => k_is)
    (case k13 => k_is)
    (case a14 => k_is)
    (case l14 => k_is)
    (case c14 => k_is)
    (case k14 => k_is)
    (case a15 => k_is)
    (case l15 => k_is)
    (case c15 => k_is)
    (case k15 => k_is)
    (case a16 => k_is)
    (case l16 => k_is)
    (case c16 => k_is)
    (case k16 => k_is)
    (case a17 => k_is)
    (case l17 => k_is)
    (case c17 => k_is)
    (case k17 => k_is)
    (case a18 => k_is)
    (case l18 => k_is)
    (case c18 => k_is)
    (case k18 => k_is)
    (case ex_BadForm => k_exc)
    (case ek_BadForm => k_is)
    (case eb_BadForm => k_is)
    (case et_BadForm => k_is)
    (case ex_BadWorks => k_exc)
    (case ek_BadWorks => k_is)
    (case eb_BadWorks => k_is)
    (case et_BadWorks => k_is)
    (case ex_HasCrusher => k_exc)
    (case ek_HasCrusher => k_is)
    (case eb_HasCrusher => k_is)
    (case et_HasCrusher => k_is)
    (case ex_Stuck => k_exc)
    (case ek_Stuck => k_is)
    (case eb_Stuck => k_is)
    (case et_Stuck => k_is)
    (case n_MOST_BIN => k_is)
    (case n_MOST_PAIRS => k_is)
    (case n_MOST_PARTS => k_is)
    (case n_MOST_ROWS => k_is)
    (case n_WIDEST => k_is)
    (case z_ValueError => k_is)
    (case z_int => k_is)
    (case z_isinstance => k_is)
    (case z_len => k_is)
    (case z_list => k_is)
    (case z_max => k_is)
    (case z_range => k_is)
    (case z_reversed => k_is)
    (case z_set => k_is)
    (case z_sorted => k_is)
    (case pg_Works => k_is)
    (case hd_Works => k_is)
    (case po_Works => k_is)
    (case sa_Works => k_is)
    (case mk_Works => k_is)
    (case kc_Works => k_is)
    (case hi_BadForm_BadCurve => exact (kit_own (by k_is) (by k_is) (by k_is) (by decide)))
    (case hi_BadForm_BadForm => exact (kit_own (by k_is) (by k_is) (by k_is) (by decide)))
    (case hi_BadForm_BadWorks => exact (kit_own (by k_is) (by k_is) (by k_is) (by decide)))
    (case hi_BadForm_ValueError => exact (kit_bt (by decide +kernel) (by k_is)))
    (case hi_BadWorks_BadCurve => exact (kit_own (by k_is) (by k_is) (by k_is) (by decide)))
    (case hi_BadWorks_BadForm => exact (kit_own (by k_is) (by k_is) (by k_is) (by decide)))
    (case hi_BadWorks_BadWorks => exact (kit_own (by k_is) (by k_is) (by k_is) (by decide)))
    (case hi_BadWorks_ValueError => exact (kit_bt (by decide +kernel) (by k_is)))
    (case hn_Works_parts => k_is)
    (case hn_Works_rows => k_is)
    (case xq0_BadForm => k_is)
    (case xq1_BadForm => k_is)
    (case xq2_BadForm => k_is)
    (case xq3_BadForm => k_is)
    (case xq4_BadForm => k_is)
    (case xq5_BadForm => k_is)
    (case xq0_BadWorks => k_is)
    (case xq1_BadWorks => k_is)
    (case xq2_BadWorks => k_is)
    (case xq3_BadWorks => k_is)
    (case xq4_BadWorks => k_is)
    (case xq5_BadWorks => k_is)
    (case hm_BadForm_MeshError => exact PySem.W.exm_ref (by k_is) (by k_is) (by k_is) (by k_is))
    (case hm_BadWorks_MeshError => exact PySem.W.exm_ref (by k_is) (by k_is) (by k_is) (by k_is))
    (case xqA => k_is)
    (case xqB => k_is)
