import PyProof.Rows.All
import Wide.All
import OpenK.AllK
import Wide.FinOn
import HandS.ForMost
import HandS.ForExc
import HandS.Wide
import HandS.SortInts
import HandS.SortRule
import HandS.IsInst
import HandS.ExcIs
import HandS.Flow
import HandS.Style
import HandS.Conv
import HandS.More
import HandS.Evl
import HandS.ForDict
import HandS.Strs
import HandS.SetFor
import HandS.TupSets
import KE.KDictDisplayH
import PyProof.Rows.TupDisplay
import PySem.Challenge.RW_meshworks_k42_whole_far_sizes
set_option Elab.async false
set_option linter.all false
set_option maxRecDepth 100000
set_option maxHeartbeats 2000000
/-! Mw, part A: data by their types, what represents them; the monad of the mirrors; what an expression tells. -/
namespace Mw
open PySem L2
abbrev Ex (H H' : Hp) : Prop := ∀ a o, H a = some o → H' a = some o
theorem Ex.rf (H : Hp) : Ex H H := fun _ _ h => h
theorem Ex.tr {H H1 H2 : Hp} (a : Ex H H1) (b : Ex H1 H2) : Ex H H2 := fun x o h => b x o (a x o h)
theorem Ex.nw {H : Hp} {p : Addr} {o : HO} (h : H p = none) : Ex H (upd H p o) := fun a u e => by
  rw [upd_ne (ne_of_none e h)]
  exact e
theorem ex_rd {H H' : Hp} {a : Addr} {u : HO} (e : Ex H H') (h : Rd H a u) : Rd H' a u := by
  rcases h with h | ⟨o, h⟩
  · exact Or.inl (e a _ h)
  · exact Or.inr ⟨o, e a _ h⟩
theorem ex_l {K : PySem.W.Frag} {H H' : Hp} {a : Addr} {xs : List V} (e : Ex H H') (h : SqL K H a xs) : SqL K H' a xs := by
  rcases h with h | h
  · exact Or.inl (ex_rd e h)
  · exact Or.inr h
theorem ex_t {K : PySem.W.Frag} {H H' : Hp} {a : Addr} {xs : List V} (e : Ex H H') (h : SqT K H a xs) : SqT K H' a xs := by
  rcases h with h | h
  · exact Or.inl (ex_rd e h)
  · exact Or.inr h

/-! ### what the frame may lean on (F), and all that is tracked (H): both grow -/
structure Gr (F H F' H' : Hp) : Prop where
  ff : Ex F F'
  fh : Ex F' H'
  hh : Ex H H'
  nw : ∀ b, F b = none → H b ≠ none → F' b = none
theorem Gr.rf {F H : Hp} (h : Ex F H) : Gr F H F H := ⟨Ex.rf _, h, Ex.rf _, fun _ a _ => a⟩
theorem Ex.ne {H H' : Hp} (h : Ex H H') {b : Addr} (n : H b ≠ none) : H' b ≠ none := by
  cases e : H b with
  | none => exact absurd e n
  | some o => rw [h b o e]; exact fun z => by cases z
theorem Gr.tr {F H F1 H1 F2 H2 : Hp} (a : Gr F H F1 H1) (b : Gr F1 H1 F2 H2) : Gr F H F2 H2 :=
  ⟨a.ff.tr b.ff, b.fh, a.hh.tr b.hh, fun c h1 h2 => b.nw c (a.nw c h1 h2) (a.hh.ne h2)⟩
/-- a new object that all may lean on -/
theorem Gr.new {F H : Hp} {p : Addr} {o : HO} (h : Ex F H) (n : H p = none) : Gr F H (upd F p o) (upd H p o) where
  ff := fun a u e => by
    have : a ≠ p := fun z => by subst z; rw [h a u e] at n; cases n
    rw [upd_ne this]; exact e
  fh := fun a u e => by
    by_cases z : a = p
    · subst z; rw [upd_same] at e ⊢; exact e
    · rw [upd_ne z] at e ⊢; exact h a u e
  hh := Ex.nw n
  nw := fun b h1 h2 => by
    have : b ≠ p := fun z => by subst z; exact h2 n
    rw [upd_ne this]; exact h1
/-- a new object of one's own -/
theorem Gr.own {F H : Hp} {p : Addr} {o : HO} (h : Ex F H) (n : H p = none) : Gr F H F (upd H p o) where
  ff := Ex.rf _
  fh := fun a u e => by
    have : a ≠ p := fun z => by subst z; rw [h a u e] at n; cases n
    rw [upd_ne this]; exact h a u e
  hh := Ex.nw n
  nw := fun b h1 _ => h1
/-- one's own object is changed -/
theorem Gr.mut {F0 H0 F H : Hp} {p : Addr} {o : HO} (g : Gr F0 H0 F H) (n0 : H0 p = none) (nf : F p = none) : Gr F0 H0 F (upd H p o) where
  ff := g.ff
  fh := fun a u e => by
    have : a ≠ p := fun z => by subst z; rw [e] at nf; cases nf
    rw [upd_ne this]; exact g.fh a u e
  hh := fun a u e => by
    have : a ≠ p := fun z => by subst z; rw [e] at n0; cases n0
    rw [upd_ne this]; exact g.hh a u e
  nw := g.nw
theorem ex_back {H H' : Hp} {p : Addr} (e : Ex H H') (h : H' p = none) : H p = none := by
  cases h1 : H p with
  | none => rfl
  | some o => rw [e p o h1] at h; cases h

/-! ### data -/
class Rep (α : Type) where
  rp : PySem.W.Frag → Hp → V → α → Prop
  mo : ∀ {K : PySem.W.Frag} {H H' : Hp} {v : V} {x : α}, Ex H H' → rp K H v x → rp K H' v x
open Rep (rp)
theorem paired_mo {α : Type} [Rep α] {K : PySem.W.Frag} {H H' : Hp} (e : Ex H H') : ∀ {vs : List V} {xs : List α}, Paired (rp K H) vs xs → Paired (rp K H') vs xs
  | _, _, .nil => .nil
  | _, _, .cons h t => .cons (Rep.mo e h) (paired_mo e t)
structure T3 (α β γ : Type) where
  a : α
  b : β
  c : γ
  deriving DecidableEq
structure T4 (α β γ δ : Type) where
  a : α
  b : β
  c : γ
  d : δ
  deriving DecidableEq
instance : Rep Int := ⟨fun _ _ v x => v = .int x, fun _ h => h⟩
instance : Rep Bool := ⟨fun _ _ v x => v = .bl x, fun _ h => h⟩
instance : Rep Str := ⟨fun _ _ v x => v = .str x, fun _ h => h⟩
instance : Rep Unit := ⟨fun _ _ v _ => v = .non, fun _ h => h⟩
instance {α : Type} [Rep α] : Rep (Option α) := ⟨fun K H v x => match x with
  | none => v = .non
  | some y => rp K H v y ∧ v ≠ .non, fun {K H H' v x} e h => by
    cases x with
    | none => exact h
    | some y => exact ⟨Rep.mo e h.1, h.2⟩⟩
instance {α β : Type} [Rep α] [Rep β] : Rep (α × β) := ⟨fun K H v x => ∃ a u w, v = .ref a ∧ SqT K H a [u, w] ∧ rp K H u x.1 ∧ rp K H w x.2,
  fun e ⟨a, u, w, h1, h2, h3, h4⟩ => ⟨a, u, w, h1, ex_t e h2, Rep.mo e h3, Rep.mo e h4⟩⟩
instance {α β γ : Type} [Rep α] [Rep β] [Rep γ] : Rep (T3 α β γ) := ⟨fun K H v x => ∃ a u w z, v = .ref a ∧ SqT K H a [u, w, z] ∧ rp K H u x.a ∧ rp K H w x.b ∧ rp K H z x.c,
  fun e ⟨a, u, w, z, h1, h2, h3, h4, h5⟩ => ⟨a, u, w, z, h1, ex_t e h2, Rep.mo e h3, Rep.mo e h4, Rep.mo e h5⟩⟩
instance {α β γ δ : Type} [Rep α] [Rep β] [Rep γ] [Rep δ] : Rep (T4 α β γ δ) := ⟨fun K H v x => ∃ a u w z y, v = .ref a ∧ SqT K H a [u, w, z, y] ∧ rp K H u x.a ∧ rp K H w x.b ∧ rp K H z x.c ∧ rp K H y x.d,
  fun e ⟨a, u, w, z, y, h1, h2, h3, h4, h5, h6⟩ => ⟨a, u, w, z, y, h1, ex_t e h2, Rep.mo e h3, Rep.mo e h4, Rep.mo e h5, Rep.mo e h6⟩⟩
instance {α : Type} [Rep α] : Rep (List α) := ⟨fun K H v x => ∃ a vs, v = .ref a ∧ H a = some (.lst vs) ∧ Paired (rp K H) vs x,
  fun e ⟨a, vs, h1, h2, h3⟩ => ⟨a, vs, h1, e _ _ h2, paired_mo e h3⟩⟩
/-- the script: read alone -/
structure Scr where
  l : List Int
instance : Rep Scr := ⟨fun K H v x => ∃ a, v = .ref a ∧ SqL K H a (x.l.map V.int), fun e ⟨a, h1, h2⟩ => ⟨a, h1, ex_l e h2⟩⟩
theorem paired_map {α β : Type} {F : α → β → Prop} {f : β → α} (h : ∀ b, F (f b) b) : ∀ xs : List β, Paired F (xs.map f) xs
  | [] => .nil
  | x :: r => .cons (h x) (paired_map h r)
theorem paired_int {K : PySem.W.Frag} {H : Hp} : ∀ {vs : List V} {xs : List Int}, Paired (rp K H) vs xs → vs = xs.map V.int
  | _, _, .nil => rfl
  | _, _, .cons h t => by
    rw [List.map_cons, ← paired_int t]
    exact congrArg (· :: _) h
theorem paired_bl {K : PySem.W.Frag} {H : Hp} : ∀ {vs : List V} {xs : List Bool}, Paired (rp K H) vs xs → vs = xs.map V.bl
  | _, _, .nil => rfl
  | _, _, .cons h t => by
    rw [List.map_cons, ← paired_bl t]
    exact congrArg (· :: _) h
theorem rep_int {K : PySem.W.Frag} {H : Hp} (xs : List Int) : Paired (rp K H) (xs.map V.int) xs := paired_map (F := rp K H) (f := V.int) (fun _ => rfl) xs
theorem paired_get {α β : Type} {F : α → β → Prop} : ∀ {vs : List α} {xs : List β} {i : Nat} {x : β}, Paired F vs xs → xs[i]? = some x → ∃ v, vs[i]? = some v ∧ F v x
  | _, _, _, _, .nil, e => by simp at e
  | _, _, 0, _, .cons r _, e => by simp at e; subst e; exact ⟨_, rfl, r⟩
  | _, _, i + 1, x, .cons _ t, e => by
    obtain ⟨u, h1, h2⟩ := paired_get (i := i) (x := x) t (by simpa using e)
    exact ⟨u, by simpa using h1, h2⟩
theorem paired_get' {α β : Type} {F : α → β → Prop} : ∀ {vs : List α} {xs : List β} {i : Nat} {v : α}, Paired F vs xs → vs[i]? = some v → ∃ x, xs[i]? = some x ∧ F v x
  | _, _, _, _, .nil, e => by simp at e
  | _, _, 0, _, .cons r _, e => by simp at e; subst e; exact ⟨_, rfl, r⟩
  | _, _, i + 1, x, .cons _ t, e => by
    obtain ⟨u, h1, h2⟩ := paired_get' (i := i) (v := x) t (by simpa using e)
    exact ⟨u, by simpa using h1, h2⟩
theorem paired_app {α β : Type} {F : α → β → Prop} : ∀ {vs ws : List α} {xs ys : List β}, Paired F vs xs → Paired F ws ys → Paired F (vs ++ ws) (xs ++ ys)
  | _, _, _, _, .nil, s => s
  | _, _, _, _, .cons r t, s => .cons r (paired_app t s)
theorem paired_take {α β : Type} {F : α → β → Prop} : ∀ {vs : List α} {xs : List β} (n : Nat), Paired F vs xs → Paired F (vs.take n) (xs.take n)
  | _, _, 0, _ => .nil
  | _, _, _ + 1, .nil => .nil
  | _, _, n + 1, .cons r t => .cons r (paired_take n t)
theorem paired_drop {α β : Type} {F : α → β → Prop} : ∀ {vs : List α} {xs : List β} (n : Nat), Paired F vs xs → Paired F (vs.drop n) (xs.drop n)
  | _, _, 0, r => r
  | _, _, _ + 1, .nil => .nil
  | _, _, n + 1, .cons _ t => paired_drop n t
theorem paired_rev {α β : Type} {F : α → β → Prop} : ∀ {vs : List α} {xs : List β}, Paired F vs xs → Paired F vs.reverse xs.reverse
  | _, _, .nil => .nil
  | _, _, .cons r t => by
    rw [List.reverse_cons, List.reverse_cons]
    exact paired_app (paired_rev t) (.cons r .nil)
theorem paired_set {α β : Type} {F : α → β → Prop} {v : α} {x : β} (r : F v x) : ∀ {vs : List α} {xs : List β} (i : Nat), Paired F vs xs → Paired F (vs.set i v) (xs.set i x)
  | _, _, _, .nil => .nil
  | _, _, 0, .cons _ t => .cons r t
  | _, _, i + 1, .cons q t => .cons q (paired_set r i t)
theorem paired_rep {α β : Type} {F : α → β → Prop} {v : α} {x : β} (r : F v x) : ∀ n : Nat, Paired F (List.replicate n v) (List.replicate n x)
  | 0 => .nil
  | n + 1 => .cons r (paired_rep r n)

/-! ### data that lean on no list -/
def TupEx (F F' : Hp) : Prop := ∀ a xs, (Rd F a (.tup xs) → Rd F' a (.tup xs)) ∧ (F a = some (.tup xs) → F' a = some (.tup xs))
class Flat (α : Type) [Rep α] : Prop where
  fl : ∀ {K : PySem.W.Frag} {F F' : Hp} {v : V} {x : α}, TupEx F F' → rp K F v x → rp K F' v x
theorem tup_t {K : PySem.W.Frag} {H H' : Hp} {a : Addr} {xs : List V} (e : TupEx H H') (h : SqT K H a xs) : SqT K H' a xs := by
  rcases h with h | h
  · exact Or.inl ((e a xs).1 h)
  · exact Or.inr h
instance : Flat Int := ⟨fun _ h => h⟩
instance : Flat Bool := ⟨fun _ h => h⟩
instance : Flat Str := ⟨fun _ h => h⟩
instance : Flat Unit := ⟨fun _ h => h⟩
instance {α : Type} [Rep α] [Flat α] : Flat (Option α) := ⟨fun {K F F' v x} e h => by
  cases x with
  | none => exact h
  | some y => exact ⟨Flat.fl e h.1, h.2⟩⟩
instance {α β : Type} [Rep α] [Rep β] [Flat α] [Flat β] : Flat (α × β) := ⟨fun e ⟨a, u, w, h1, h2, h3, h4⟩ => ⟨a, u, w, h1, tup_t e h2, Flat.fl e h3, Flat.fl e h4⟩⟩
instance {α β γ : Type} [Rep α] [Rep β] [Rep γ] [Flat α] [Flat β] [Flat γ] : Flat (T3 α β γ) := ⟨fun e ⟨a, u, w, z, h1, h2, h3, h4, h5⟩ => ⟨a, u, w, z, h1, tup_t e h2, Flat.fl e h3, Flat.fl e h4, Flat.fl e h5⟩⟩
instance {α β γ δ : Type} [Rep α] [Rep β] [Rep γ] [Rep δ] [Flat α] [Flat β] [Flat γ] [Flat δ] : Flat (T4 α β γ δ) := ⟨fun e ⟨a, u, w, z, y, h1, h2, h3, h4, h5, h6⟩ => ⟨a, u, w, z, y, h1, tup_t e h2, Flat.fl e h3, Flat.fl e h4, Flat.fl e h5, Flat.fl e h6⟩⟩
theorem paired_fl {α : Type} [Rep α] [Flat α] {K : PySem.W.Frag} {F F' : Hp} (e : TupEx F F') : ∀ {vs : List V} {xs : List α}, Paired (rp K F) vs xs → Paired (rp K F') vs xs
  | _, _, .nil => .nil
  | _, _, .cons h t => .cons (Flat.fl e h) (paired_fl e t)

/-! ### the mirrors' monad -/
structure Err where
  name : String
  deriving DecidableEq
inductive M (α : Type) where
  | ok (a : α)
  | er (c : Err)
  | bad
  deriving DecidableEq
def M.bind {α β : Type} : M α → (α → M β) → M β
  | .ok a, f => f a
  | .er c, _ => .er c
  | .bad, _ => .bad
@[simp] theorem M.ok_bind {α β : Type} (a : α) (f : α → M β) : (M.ok a).bind f = f a := (rfl)
@[simp] theorem M.er_bind {α β : Type} (c : Err) (f : α → M β) : (M.er c : M α).bind f = .er c := (rfl)
@[simp] theorem M.bad_bind {α β : Type} (f : α → M β) : (M.bad : M α).bind f = .bad := (rfl)

/-! ### what comes of a run -/
abbrev Md (ρ : Type) := Hp → Hp → Hp → Hp → V → ρ → Prop
/-- any value that represents it -/
def rv (K : PySem.W.Frag) {ρ : Type} [Rep ρ] : Md ρ := fun _ _ F' _ v r => rp K F' v r
/-- a new list of one's own -/
def rn (K : PySem.W.Frag) {α : Type} [Rep α] : Md (List α) := fun _ H F' H' v r => ∃ p vs, v = .ref p ∧ H p = none ∧ F' p = none ∧ H' p = some (.lst vs) ∧ Paired (rp K F') vs r
/-- the classes of errors by their names -/
abbrev Ce := String → Addr
def Post {ρ : Type} (ce : Ce) (md : Md ρ) (m : M ρ) (F H : Hp) (Q : VK) (E : XK) : Prop :=
  match m with
  | .ok r => ∀ F' H' v, Gr F H F' H' → md F H F' H' v r → Q v H'
  | .er c => ∀ H', Ex H H' → E (.ref (ce c.name)) none H'
  | .bad => False
class MdMo {ρ : Type} (md : Md ρ) : Prop where
  mo : ∀ {F H F1 H1 F2 H2 v r}, Gr F H F1 H1 → md F1 H1 F2 H2 v r → md F H F2 H2 v r
instance {K : PySem.W.Frag} {ρ : Type} [Rep ρ] : MdMo (rv K (ρ := ρ)) := ⟨fun _ h => h⟩
instance {K : PySem.W.Frag} {α : Type} [Rep α] : MdMo (rn K (α := α)) := ⟨fun g ⟨p, vs, h1, h2, h3⟩ => ⟨p, vs, h1, ex_back g.hh h2, h3⟩⟩
theorem Post.mo {ρ : Type} {ce : Ce} {md : Md ρ} [MdMo md] {m : M ρ} {F H F1 H1 : Hp} {Q : VK} {E : XK} (g : Gr F H F1 H1) (h : Post ce md m F H Q E) : Post ce md m F1 H1 Q E := by
  cases m with
  | ok r => exact fun F' H' v g' hm => h F' H' v (g.tr g') (MdMo.mo g hm)
  | er c => exact fun H' e => h H' (g.hh.tr e)
  | bad => exact h
/-- what an expression tells, whatever has been done meanwhile -/
def Ev {ρ : Type} (ce : Ce) (E : XK) (te : TE) (σ : L2.St) (F H : Hp) (md : Md ρ) (m : M ρ) : Prop := ∀ F1 H1, Gr F H F1 H1 → ∀ Q : VK, Post ce md m F1 H1 Q E → te σ H1 Q
/-- a test -/
def PostT (ce : Ce) (m : M Bool) (F H : Hp) (Q : Bool → Hp → Prop) (E : XK) : Prop :=
  match m with
  | .ok r => ∀ F' H', Gr F H F' H' → Q r H'
  | .er c => ∀ H', Ex H H' → E (.ref (ce c.name)) none H'
  | .bad => False
def EvT (ce : Ce) (E : XK) (tt : TT) (σ : L2.St) (F H : Hp) (m : M Bool) : Prop := ∀ F1 H1, Gr F H F1 H1 → ∀ Q : Bool → Hp → Prop, PostT ce m F1 H1 Q E → tt σ H1 Q
theorem PostT.mo {ce : Ce} {m : M Bool} {F H F1 H1 : Hp} {Q : Bool → Hp → Prop} {E : XK} (g : Gr F H F1 H1) (h : PostT ce m F H Q E) : PostT ce m F1 H1 Q E := by
  cases m with
  | ok r => exact fun F' H' g' => h F' H' (g.tr g')
  | er c => exact fun H' e => h H' (g.hh.tr e)
  | bad => exact h
section
variable {ρ α β γ : Type} [Rep α] [Rep β] [Rep γ] {ce : Ce} {E : XK} {K : PySem.W.Frag} {σ : L2.St} {F H F' H' : Hp} {te ta tb tc : TE} {tt tu : TT} {md : Md ρ} {m : M ρ}
theorem Ev.mo (g : Gr F H F' H') (h : Ev ce E te σ F H md m) : Ev ce E te σ F' H' md m := fun F1 H1 g1 Q q => h F1 H1 (g.tr g1) Q q
theorem EvT.mo {m : M Bool} (g : Gr F H F' H') (h : EvT ce E tt σ F H m) : EvT ce E tt σ F' H' m := fun F1 H1 g1 Q q => h F1 H1 (g.tr g1) Q q
/-- run a part, then what follows (F0, H0: the entry) -/
theorem Ev.run {m1 : M α} {k : α → M ρ} {Q Q' : VK} {F0 H0 : Hp} (h : Ev ce E ta σ F H (rv K) m1) (G : Gr F0 H0 F H) (q : Post ce md (m1.bind k) F0 H0 Q E)
    (c : ∀ x F1 H1 v, m1 = .ok x → Gr F H F1 H1 → rp K F1 v x → Post ce md (k x) F0 H0 Q E → Q' v H1) : ta σ H Q' := by
  refine h F H (Gr.rf G.fh) Q' ?_
  cases m1 with
  | ok x => exact fun F1 H1 v g r => c x F1 H1 v rfl g r q
  | er cc => exact fun H' e => q H' (G.hh.tr e)
  | bad => exact q
theorem Ev.runN {m1 : M (List α)} {k : List α → M ρ} {Q Q' : VK} {F0 H0 : Hp} (h : Ev ce E ta σ F H (rn K) m1) (G : Gr F0 H0 F H) (q : Post ce md (m1.bind k) F0 H0 Q E)
    (c : ∀ x F1 H1 p vs, m1 = .ok x → Gr F H F1 H1 → H p = none → F1 p = none → H1 p = some (.lst vs) → Paired (rp K F1) vs x → Post ce md (k x) F0 H0 Q E → Q' (.ref p) H1) : ta σ H Q' := by
  refine h F H (Gr.rf G.fh) Q' ?_
  cases m1 with
  | ok x =>
    rintro F1 H1 v g ⟨p, vs, rfl, h1, h2, h3, h4⟩
    exact c x F1 H1 p vs rfl g h1 h2 h3 h4 q
  | er cc => exact fun H' e => q H' (G.hh.tr e)
  | bad => exact q
theorem EvT.run {m1 : M Bool} {k : Bool → M ρ} {Q : VK} {Q' : Bool → Hp → Prop} {F0 H0 : Hp} (h : EvT ce E tt σ F H m1) (G : Gr F0 H0 F H) (q : Post ce md (m1.bind k) F0 H0 Q E)
    (c : ∀ x F1 H1, m1 = .ok x → Gr F H F1 H1 → Post ce md (k x) F0 H0 Q E → Q' x H1) : tt σ H Q' := by
  refine h F H (Gr.rf G.fh) Q' ?_
  cases m1 with
  | ok x => exact fun F1 H1 g => c x F1 H1 rfl g q
  | er cc => exact fun H' e => q H' (G.hh.tr e)
  | bad => exact q
/-- a new list may be leant on -/
theorem Ev.nv {m : M (List α)} (h : Ev ce E te σ F H (rn K) m) : Ev ce E te σ F H (rv K) m := by
  intro F1 H1 g Q q
  refine h F1 H1 g Q ?_
  cases m with
  | ok x =>
    rintro F2 H2 v g2 ⟨p, vs, rfl, h1, h2, h3, h4⟩
    refine q (upd F2 p (.lst vs)) H2 (.ref p) ⟨g2.ff.tr (Ex.nw h2), ?_, g2.hh, fun b a1 a2 => ?_⟩ ⟨p, vs, rfl, upd_same, paired_mo (Ex.nw h2) h4⟩
    · intro a u e
      by_cases z : a = p
      · subst z; rw [upd_same] at e; rw [h3]; exact e
      · rw [upd_ne z] at e; exact g2.fh a u e
    · have : b ≠ p := fun z => by subst z; exact a2 h1
      rw [upd_ne this]; exact g2.nw b a1 a2
  | er c => exact q
  | bad => exact q
/-! ### names, constants, operators -/
theorem em_var {i : Nat} {v : V} {x : α} (h : σ[i]? = some (some v)) (r : rp K F v x) : Ev ce E (tVar i) σ F H (rv K) (.ok x) :=
  fun F1 H1 g Q q => ⟨v, h, q F1 H1 v (Gr.rf g.fh) (Rep.mo g.ff r)⟩
theorem em_int {i : Int} : Ev ce E (tC (.int i)) σ F H (rv K) (.ok i) := fun F1 H1 g Q q => q F1 H1 _ (Gr.rf g.fh) rfl
theorem em_bl {b : Bool} : Ev ce E (tC (.bl b)) σ F H (rv K) (.ok b) := fun F1 H1 g Q q => q F1 H1 _ (Gr.rf g.fh) rfl
theorem em_str {s : Str} : Ev ce E (tC (.str s)) σ F H (rv K) (.ok s) := fun F1 H1 g Q q => q F1 H1 _ (Gr.rf g.fh) rfl
theorem em_unit : Ev ce E (tC .non) σ F H (rv K) (.ok ()) := fun F1 H1 g Q q => q F1 H1 _ (Gr.rf g.fh) rfl
theorem em_none : Ev ce E (tC .non) σ F H (rv K) (.ok (none : Option α)) := fun F1 H1 g Q q => q F1 H1 _ (Gr.rf g.fh) rfl
def Op1 (ce : Ce) (E : XK) (K : PySem.W.Frag) (r : V → Hp → VK → Prop) (md : Md ρ) (x : α) (m : M ρ) : Prop := ∀ F1 H1 vx, Ex F1 H1 → rp K F1 vx x → ∀ Q, Post ce md m F1 H1 Q E → r vx H1 Q
def Op2 (ce : Ce) (E : XK) (K : PySem.W.Frag) (r : R2) (md : Md ρ) (x : α) (y : β) (m : M ρ) : Prop := ∀ F1 H1 vx vy, Ex F1 H1 → rp K F1 vx x → rp K F1 vy y → ∀ Q, Post ce md m F1 H1 Q E → r vx vy H1 Q
theorem em_op [MdMo md] {r : R2} {m1 : M α} {m2 : M β} {g : α → β → M ρ} (ha : Ev ce E ta σ F H (rv K) m1) (hb : Ev ce E tb σ F H (rv K) m2) (hr : ∀ x y, Op2 ce E K r md x y (g x y)) :
    Ev ce E (tOp r ta tb) σ F H md (m1.bind fun x => m2.bind fun y => g x y) := by
  intro F1 H1 g1 Q q
  refine ha F1 H1 g1 _ ?_
  cases m1 with
  | ok x =>
    intro F2 H2 vx g2 rx
    refine hb F2 H2 (g1.tr g2) _ ?_
    cases m2 with
    | ok y => exact fun F3 H3 vy g3 ry => hr x y F3 H3 vx vy g3.fh (Rep.mo g3.ff rx) ry Q (Post.mo (g2.tr g3) q)
    | er c => exact fun H' e => q H' (g2.hh.tr e)
    | bad => exact q
  | er c => exact q
  | bad => exact q
theorem em_un [MdMo md] {r : V → Hp → VK → Prop} {m1 : M α} {g : α → M ρ} (ha : Ev ce E ta σ F H (rv K) m1) (hr : ∀ x, Op1 ce E K r md x (g x)) :
    Ev ce E (tUn r ta) σ F H md (m1.bind g) := by
  intro F1 H1 g1 Q q
  refine ha F1 H1 g1 _ ?_
  cases m1 with
  | ok x => exact fun F2 H2 vx g2 rx => hr x F2 H2 vx g2.fh rx Q (Post.mo g2 q)
  | er c => exact q
  | bad => exact q
theorem o_I0 {x y : Int} {g : Int → Int → V} {z : α} (h : ∀ F, rp K F (g x y) z) : Op2 ce E K (rI0 g) (rv K) x y (.ok z) := fun F1 H1 vx vy e rx ry Q q => by
  cases rx; cases ry
  exact ⟨x, y, rfl, rfl, q F1 H1 _ (Gr.rf e) (h F1)⟩
theorem o_I {C : Int → Int → Prop} {x y : Int} {g : Int → Int → V} {z : α} (hc : C x y) (h : ∀ F, rp K F (g x y) z) : Op2 ce E K (rI C g) (rv K) x y (.ok z) := fun F1 H1 vx vy e rx ry Q q => by
  cases rx; cases ry
  exact ⟨x, y, rfl, rfl, hc, q F1 H1 _ (Gr.rf e) (h F1)⟩
/-- (decided classically: so that no kernel sets out to reckon the test) -/
noncomputable def chk {α : Type} (c : Prop) (x : α) : M α := @ite _ c (Classical.propDecidable c) (.ok x) .bad
theorem o_Ic {C : Int → Int → Prop} [∀ i j, Decidable (C i j)] {x y : Int} {g : Int → Int → V} {z : α} (h : ∀ F, rp K F (g x y) z) : Op2 ce E K (rI C g) (rv K) x y (chk (C x y) z) := fun F1 H1 vx vy e rx ry Q q => by
  unfold chk at q
  split at q
  · rename_i hc
    exact o_I hc h F1 H1 vx vy e rx ry Q q
  · exact q.elim
end
end Mw

set_option Elab.async false
set_option linter.all false
set_option maxRecDepth 100000
set_option maxHeartbeats 2000000
/-! Mw, part B: the readings of expressions. -/
namespace Mw
open PySem L2
open Rep (rp)
/-! ### numbers with bounds -/
def CDivZ (_ j : Int) : Prop := j ≠ 0 ∧ j.natAbs.log2 < 9000
instance : ∀ i j, Decidable (CMulW i j) := fun i j => by unfold CMulW; infer_instance
instance : ∀ i j, Decidable (CDivW i j) := fun i j => by unfold CDivW; infer_instance
instance : ∀ i j, Decidable (CDivZ i j) := fun i j => by unfold CDivZ; infer_instance
instance : ∀ i j, Decidable (CPow i j) := fun i j => by unfold CPow; infer_instance
section
variable {X : Cx}
theorem op_fdivZ : OpR X (binaryOp .FloorDiv) (rI CDivZ fun i j => .int (i.fdiv j)) := by
  intro pins s σ H x y v u Q I rx ry h
  obtain ⟨i, j, rfl, rfl, hc, q⟩ := h
  obtain ⟨t, rfl⟩ := rx
  obtain ⟨t', rfl⟩ := ry
  exact PyProof.Rows.floordiv_int hc.1 ⟨.int _, H, I.tok _, ⟨_, rfl⟩, q⟩ (.inl (PyProof.noPylong_of_log2 hc.2))
end
noncomputable def mulM (x y : Int) : M Int := chk (CMulW x y) (x * y)
noncomputable def fdivM (x y : Int) : M Int := chk (CDivW x y) (x / y)
noncomputable def fdivZ (x y : Int) : M Int := chk (CDivZ x y) (x.fdiv y)
noncomputable def modM (x y : Int) : M Int := chk (0 < y) (x % y)
noncomputable def powM (x y : Int) : M Int := chk (CPow x y) (x ^ y.toNat)
section
variable {ρ α β γ δ : Type} [Rep α] [Rep β] [Rep γ] [Rep δ] {ce : Ce} {E : XK} {K : PySem.W.Frag} {σ : L2.St} {F H F' H' : Hp} {te ta tb tc td : TE} {tt tu : TT} {md : Md ρ} {m : M ρ}
theorem o_add {x y : Int} : Op2 ce E K (rI0 fun i j => .int (i + j)) (rv K) x y (.ok (x + y)) := o_I0 fun _ => rfl
theorem o_sub {x y : Int} : Op2 ce E K (rI0 fun i j => .int (i - j)) (rv K) x y (.ok (x - y)) := o_I0 fun _ => rfl
theorem o_mul {x y : Int} : Op2 ce E K (rI CMulW fun i j => .int (i * j)) (rv K) x y (mulM x y) := o_Ic fun _ => rfl
theorem o_fdivM {x y : Int} : Op2 ce E K (rI CDivW fun i j => .int (i / j)) (rv K) x y (fdivM x y) := o_Ic fun _ => rfl
theorem o_fdivZ {x y : Int} : Op2 ce E K (rI CDivZ fun i j => .int (i.fdiv j)) (rv K) x y (fdivZ x y) := o_Ic fun _ => rfl
theorem o_modM {x y : Int} : Op2 ce E K (rI (fun _ j => 0 < j) fun i j => .int (i % j)) (rv K) x y (modM x y) := o_Ic fun _ => rfl
theorem o_powM {x y : Int} : Op2 ce E K (rI CPow fun i j => .int (i ^ j.toNat)) (rv K) x y (powM x y) := o_Ic fun _ => rfl
theorem o_lt {x y : Int} : Op2 ce E K (rI0 fun i j => .bl (decide (i < j))) (rv K) x y (.ok (decide (x < y))) := o_I0 fun _ => rfl
theorem o_le {x y : Int} : Op2 ce E K (rI0 fun i j => .bl (decide (i ≤ j))) (rv K) x y (.ok (decide (x ≤ y))) := o_I0 fun _ => rfl
theorem o_gt {x y : Int} : Op2 ce E K (rI0 fun i j => .bl (decide (j < i))) (rv K) x y (.ok (decide (y < x))) := o_I0 fun _ => rfl
theorem o_ge {x y : Int} : Op2 ce E K (rI0 fun i j => .bl (decide (j ≤ i))) (rv K) x y (.ok (decide (y ≤ x))) := o_I0 fun _ => rfl
/-- both sides plain: one rule for the operators on ints -/
theorem e2 {r : R2} {x : α} {y : β} {z : ρ} [MdMo md] (ha : Ev ce E ta σ F H (rv K) (.ok x)) (hb : Ev ce E tb σ F H (rv K) (.ok y)) (hr : Op2 ce E K r md x y (.ok z)) : Ev ce E (tOp r ta tb) σ F H md (.ok z) := by
  intro F1 H1 g1 Q q
  refine ha F1 H1 g1 _ fun F2 H2 vx g2 rx => hb F2 H2 (g1.tr g2) _ fun F3 H3 vy g3 ry => ?_
  exact hr F3 H3 vx vy g3.fh (Rep.mo g3.ff rx) ry Q (Post.mo (m := .ok z) (g2.tr g3) q)
theorem e_neg {x : Int} (ha : Ev ce E ta σ F H (rv K) (.ok x)) : Ev ce E (tUn (rU fun i => .int (-i)) ta) σ F H (rv K) (.ok (-x)) := by
  intro F1 H1 g1 Q q
  refine ha F1 H1 g1 _ fun F2 H2 vx g2 rx => ?_
  cases rx
  exact ⟨x, rfl, q F2 H2 _ g2 rfl⟩
theorem o_neg {x : Int} : Op1 ce E K (rU fun i => .int (-i)) (rv K) x (.ok (-x)) := fun F1 H1 vx e rx Q q => by
  cases rx
  exact ⟨x, rfl, q F1 H1 _ (Gr.rf e) rfl⟩
/-- a product, one factor written: below 2 ^ 64 -/
theorem o_mulL {x y : Int} (h : CMul x y) : Op2 ce E K (rI CMul fun i j => .int (i * j)) (rv K) x y (.ok (x * y)) := o_I h fun _ => rfl
theorem o_fdiv {x y : Int} (h : CDiv x y) : Op2 ce E K (rI CDiv fun i j => .int (i / j)) (rv K) x y (.ok (x / y)) := o_I h fun _ => rfl
theorem o_fdivW {x y : Int} (h : CDivW x y) : Op2 ce E K (rI CDivW fun i j => .int (i / j)) (rv K) x y (.ok (x / y)) := o_I h fun _ => rfl
theorem o_mod {x y : Int} (h : 0 < y) : Op2 ce E K (rI (fun _ j => 0 < j) fun i j => .int (i % j)) (rv K) x y (.ok (x % y)) := o_I h fun _ => rfl
theorem o_pow {x y : Int} (h : CPow x y) : Op2 ce E K (rI CPow fun i j => .int (i ^ j.toNat)) (rv K) x y (.ok (x ^ y.toNat)) := o_I h fun _ => rfl
/-- what is told in other words -/
theorem e_is {x y : ρ} (h : Ev ce E te σ F H md (.ok x)) (e : x = y) : Ev ce E te σ F H md (.ok y) := by rw [← e]; exact h
theorem em_is {m m' : M ρ} (h : Ev ce E te σ F H md m) (e : m = m') : Ev ce E te σ F H md m' := by rw [← e]; exact h

/-! ### tests -/
theorem t_of {m : M Bool} (h : Ev ce E te σ F H (rv K) m) : EvT ce E (tTest te) σ F H m := fun F1 H1 g1 Q q => by
  refine h F1 H1 g1 _ ?_
  cases m with
  | ok b => exact fun F2 H2 v g2 r => ⟨b, r, q F2 H2 g2⟩
  | er c => exact q
  | bad => exact q
theorem t_B {m : M Bool} (h : Ev ce E te σ F H (rv K) m) : EvT ce E (tB te) σ F H m := fun F1 H1 g1 Q q => by
  refine h F1 H1 g1 _ ?_
  cases m with
  | ok b => exact fun F2 H2 v g2 r => ⟨b, r, q F2 H2 g2⟩
  | er c => exact q
  | bad => exact q
theorem t_and {a b : Bool} (ha : EvT ce E tt σ F H (.ok a)) (hb : EvT ce E tu σ F H (.ok b)) : EvT ce E (tAnd tt tu) σ F H (.ok (a && b)) := fun F1 H1 g1 Q q => by
  refine ha F1 H1 g1 _ fun F2 H2 g2 => ?_
  cases a with
  | true => exact hb F2 H2 (g1.tr g2) _ fun F3 H3 g3 => q F3 H3 (g2.tr g3)
  | false => exact q F2 H2 g2
theorem t_or {a b : Bool} (ha : EvT ce E tt σ F H (.ok a)) (hb : EvT ce E tu σ F H (.ok b)) : EvT ce E (tOr tt tu) σ F H (.ok (a || b)) := fun F1 H1 g1 Q q => by
  refine ha F1 H1 g1 _ fun F2 H2 g2 => ?_
  cases a with
  | false => exact hb F2 H2 (g1.tr g2) _ fun F3 H3 g3 => q F3 H3 (g2.tr g3)
  | true => exact q F2 H2 g2
def andM (m : M Bool) (k : M Bool) : M Bool := m.bind fun a => if a then k else .ok false
def orM (m : M Bool) (k : M Bool) : M Bool := m.bind fun a => if a then .ok true else k
def notM (m : M Bool) : M Bool := m.bind fun a => .ok (!a)
@[simp] theorem andM_t (k : M Bool) : andM (.ok true) k = k := rfl
@[simp] theorem andM_f (k : M Bool) : andM (.ok false) k = .ok false := rfl
@[simp] theorem orM_t (k : M Bool) : orM (.ok true) k = .ok true := rfl
@[simp] theorem orM_f (k : M Bool) : orM (.ok false) k = k := rfl
@[simp] theorem notM_ok (a : Bool) : notM (.ok a) = .ok (!a) := rfl
theorem tm_and {m k : M Bool} (ha : EvT ce E tt σ F H m) (hb : EvT ce E tu σ F H k) : EvT ce E (tAnd tt tu) σ F H (andM m k) := fun F1 H1 g1 Q q => by
  refine ha F1 H1 g1 _ ?_
  cases m with
  | ok a =>
    intro F2 H2 g2
    cases a with
    | true => exact hb F2 H2 (g1.tr g2) _ (PostT.mo g2 q)
    | false => exact q F2 H2 g2
  | er c => exact q
  | bad => exact q
theorem tm_or {m k : M Bool} (ha : EvT ce E tt σ F H m) (hb : EvT ce E tu σ F H k) : EvT ce E (tOr tt tu) σ F H (orM m k) := fun F1 H1 g1 Q q => by
  refine ha F1 H1 g1 _ ?_
  cases m with
  | ok a =>
    intro F2 H2 g2
    cases a with
    | false => exact hb F2 H2 (g1.tr g2) _ (PostT.mo g2 q)
    | true => exact q F2 H2 g2
  | er c => exact q
  | bad => exact q
theorem t_not {a : Bool} (ha : EvT ce E tt σ F H (.ok a)) : EvT ce E (tNot tt) σ F H (.ok (!a)) := fun F1 H1 g1 Q q => ha F1 H1 g1 _ fun F2 H2 g2 => q F2 H2 g2
theorem tm_not {m : M Bool} (ha : EvT ce E tt σ F H m) : EvT ce E (tNot tt) σ F H (notM m) := fun F1 H1 g1 Q q => by
  refine ha F1 H1 g1 _ ?_
  cases m with
  | ok a => exact fun F2 H2 g2 => q F2 H2 g2
  | er c => exact q
  | bad => exact q
theorem e_andV {a b : Bool} (ha : Ev ce E ta σ F H (rv K) (.ok a)) (hb : Ev ce E tb σ F H (rv K) (.ok b)) : Ev ce E (tAndV ta tb) σ F H (rv K) (.ok (a && b)) := fun F1 H1 g1 Q q => by
  refine ha F1 H1 g1 _ fun F2 H2 v g2 r => ⟨a, r, ?_⟩
  cases a with
  | true => exact hb F2 H2 (g1.tr g2) _ fun F3 H3 v' g3 => q F3 H3 v' (g2.tr g3)
  | false => exact q F2 H2 _ g2 rfl
theorem e_orV {a b : Bool} (ha : Ev ce E ta σ F H (rv K) (.ok a)) (hb : Ev ce E tb σ F H (rv K) (.ok b)) : Ev ce E (tOrV ta tb) σ F H (rv K) (.ok (a || b)) := fun F1 H1 g1 Q q => by
  refine ha F1 H1 g1 _ fun F2 H2 v g2 r => ⟨a, r, ?_⟩
  cases a with
  | false => exact hb F2 H2 (g1.tr g2) _ fun F3 H3 v' g3 => q F3 H3 v' (g2.tr g3)
  | true => exact q F2 H2 _ g2 rfl
theorem em_andV {m k : M Bool} (ha : Ev ce E ta σ F H (rv K) m) (hb : Ev ce E tb σ F H (rv K) k) : Ev ce E (tAndV ta tb) σ F H (rv K) (andM m k) := fun F1 H1 g1 Q q => by
  refine ha F1 H1 g1 _ ?_
  cases m with
  | ok a =>
    refine fun F2 H2 v g2 r => ⟨a, r, ?_⟩
    cases a with
    | true => exact hb F2 H2 (g1.tr g2) _ (Post.mo g2 q)
    | false => exact q F2 H2 _ g2 rfl
  | er c => exact q
  | bad => exact q
theorem em_orV {m k : M Bool} (ha : Ev ce E ta σ F H (rv K) m) (hb : Ev ce E tb σ F H (rv K) k) : Ev ce E (tOrV ta tb) σ F H (rv K) (orM m k) := fun F1 H1 g1 Q q => by
  refine ha F1 H1 g1 _ ?_
  cases m with
  | ok a =>
    refine fun F2 H2 v g2 r => ⟨a, r, ?_⟩
    cases a with
    | false => exact hb F2 H2 (g1.tr g2) _ (Post.mo g2 q)
    | true => exact q F2 H2 _ g2 rfl
  | er c => exact q
  | bad => exact q
theorem e_notV {a : Bool} (ha : Ev ce E ta σ F H (rv K) (.ok a)) : Ev ce E (tNotV ta) σ F H (rv K) (.ok (!a)) := fun F1 H1 g1 Q q => ha F1 H1 g1 _ fun F2 H2 v g2 r => ⟨a, r, q F2 H2 _ g2 rfl⟩
theorem em_notV {m : M Bool} (ha : Ev ce E ta σ F H (rv K) m) : Ev ce E (tNotV ta) σ F H (rv K) (notM m) := fun F1 H1 g1 Q q => by
  refine ha F1 H1 g1 _ ?_
  cases m with
  | ok a => exact fun F2 H2 v g2 r => ⟨a, r, q F2 H2 _ g2 rfl⟩
  | er c => exact q
  | bad => exact q
theorem em_if [MdMo md] {b : M Bool} {m k : M ρ} (h : EvT ce E tt σ F H b) (ha : Ev ce E ta σ F H md m) (hb : Ev ce E tb σ F H md k) : Ev ce E (tIf tt ta tb) σ F H md (b.bind fun c => if c then m else k) := fun F1 H1 g1 Q q => by
  refine h F1 H1 g1 _ ?_
  cases b with
  | ok b =>
    refine fun F2 H2 g2 => ?_
    cases b with
    | true => exact ha F2 H2 (g1.tr g2) _ (Post.mo g2 q)
    | false => exact hb F2 H2 (g1.tr g2) _ (Post.mo g2 q)
  | er c => exact q
  | bad => exact q
/-- x < y < z and its like -/
theorem em_chain {r r' : R2} {m1 : M α} {m2 : M β} {m3 : M γ} {p : α → β → Bool} {p' : β → γ → Bool} (ha : Ev ce E ta σ F H (rv K) m1) (hb : Ev ce E tb σ F H (rv K) m2) (hc : Ev ce E tc σ F H (rv K) m3)
    (h : ∀ x y, Op2 ce E K r (rv K) x y (.ok (p x y))) (h' : ∀ x y, Op2 ce E K r' (rv K) x y (.ok (p' x y))) :
    Ev ce E (tChain r r' ta tb tc) σ F H (rv K) (m1.bind fun x => m2.bind fun y => if p x y then m3.bind fun z => .ok (p' y z) else .ok false) := fun F1 H1 g1 Q q => by
  refine ha F1 H1 g1 _ ?_
  cases m1 with
  | ok x =>
    intro F2 H2 vx g2 rx
    refine hb F2 H2 (g1.tr g2) _ ?_
    cases m2 with
    | ok y =>
      intro F3 H3 vy g3 ry
      refine h x y F3 H3 vx vy g3.fh (Rep.mo g3.ff rx) ry _ fun F4 H4 v4 g4 r4 => ⟨p x y, r4, ?_⟩
      have q' : Post ce (rv K) (if p x y then m3.bind fun z => .ok (p' y z) else .ok false) F1 H1 Q E := q
      cases e : p x y with
      | true =>
        rw [e] at q'
        refine hc F4 H4 (((g1.tr g2).tr g3).tr g4) _ ?_
        cases m3 with
        | ok z => exact fun F5 H5 vz g5 rz => h' y z F5 H5 vy vz g5.fh (Rep.mo (g4.ff.tr g5.ff) ry) rz Q (Post.mo (m := .ok (p' y z)) (((g2.tr g3).tr g4).tr g5) q')
        | er c => exact fun H' e => q' H' (((g2.tr g3).tr g4).hh.tr e)
        | bad => exact q'
      | false =>
        rw [e] at q'
        exact q' F4 H4 _ ((g2.tr g3).tr g4) rfl
    | er c => exact fun H' e => q H' (g2.hh.tr e)
    | bad => exact q
  | er c => exact q
  | bad => exact q

/-! ### argument lists: what stands for each -/
/-- RA tells that the values stand for the data -/
inductive RA (K : PySem.W.Frag) (F : Hp) : List V → List ((V → Prop)) → Prop
/-- the arguments are told one by one: k runs with all of them -/
def EvA (ce : Ce) (E : XK) (ta : TA) (σ : L2.St) (F H : Hp) (R : Hp → List V → Prop) : Prop := ∀ F1 H1, Gr F H F1 H1 → ∀ Q : List V → Hp → Prop, (∀ F2 H2 vs, Gr F1 H1 F2 H2 → R F2 vs → Q vs H2) → ta σ H1 Q
/-- .. with effects -/
def EvAM (ce : Ce) (E : XK) (ta : TA) (σ : L2.St) (F H : Hp) (m : M α) (R : Hp → List V → α → Prop) : Prop := ∀ F1 H1, Gr F H F1 H1 → ∀ Q : List V → Hp → Prop,
  (match m with
    | .ok x => ∀ F2 H2 vs, Gr F1 H1 F2 H2 → R F2 vs x → Q vs H2
    | .er c => ∀ H', Ex H1 H' → E (.ref (ce c.name)) none H'
    | .bad => False) → ta σ H1 Q
def R0 : Hp → List V → Unit → Prop := fun _ vs _ => vs = []
def RC (K : PySem.W.Frag) {α β : Type} [Rep α] (R : Hp → List V → β → Prop) : Hp → List V → α × β → Prop := fun F vs x => ∃ v r, vs = v :: r ∧ rp K F v x.1 ∧ R F r x.2
class RMo {α : Type} (R : Hp → List V → α → Prop) : Prop where
  mo : ∀ {F F' vs x}, Ex F F' → R F vs x → R F' vs x
instance : RMo R0 := ⟨fun _ h => h⟩
instance {K : PySem.W.Frag} {α β : Type} [Rep α] {R : Hp → List V → β → Prop} [RMo R] : RMo (RC K (α := α) R) := ⟨fun e ⟨v, r, h1, h2, h3⟩ => ⟨v, r, h1, Rep.mo e h2, RMo.mo e h3⟩⟩
theorem ea_nil : EvAM ce E tNil σ F H (.ok ()) R0 := fun F1 H1 g1 Q q => q F1 H1 [] (Gr.rf g1.fh) rfl
theorem ea_cons {tr : TA} {m1 : M α} {m2 : M β} {R : Hp → List V → β → Prop} (ha : Ev ce E ta σ F H (rv K) m1) (hr : EvAM ce E tr σ F H m2 R) :
    EvAM ce E (tCons ta tr) σ F H (m1.bind fun x => m2.bind fun y => .ok (x, y)) (RC K R) := fun F1 H1 g1 Q q => by
  refine ha F1 H1 g1 _ ?_
  cases m1 with
  | ok x =>
    intro F2 H2 vx g2 rx
    refine hr F2 H2 (g1.tr g2) _ ?_
    cases m2 with
    | ok y => exact fun F3 H3 vs g3 r3 => q F3 H3 (vx :: vs) (g2.tr g3) ⟨vx, vs, rfl, Rep.mo g3.ff rx, r3⟩
    | er c => exact fun H' e => q H' (g2.hh.tr e)
    | bad => exact q
  | er c => exact q
  | bad => exact q
theorem e_cons {tr : TA} {x : α} {y : β} {R : Hp → List V → β → Prop} (ha : Ev ce E ta σ F H (rv K) (.ok x)) (hr : EvAM ce E tr σ F H (.ok y) R) : EvAM ce E (tCons ta tr) σ F H (.ok (x, y)) (RC K R) := ea_cons (m1 := .ok x) (m2 := .ok y) ha hr
/-- a call of values that are known: r what it asks, m what comes of it -/
def OpA (ce : Ce) (E : XK) (R : Hp → List V → α → Prop) (r : List V → Hp → VK → Prop) (md : Md ρ) (x : α) (m : M ρ) : Prop := ∀ F1 H1 vs, Ex F1 H1 → R F1 vs x → ∀ Q, Post ce md m F1 H1 Q E → r vs H1 Q
theorem em_cb [MdMo md] {ta : TA} {r : List V → Hp → VK → Prop} {m1 : M α} {R : Hp → List V → α → Prop} {g : α → M ρ} (ha : EvAM ce E ta σ F H m1 R) (hr : ∀ x, OpA ce E R r md x (g x)) : Ev ce E (tCB r ta) σ F H md (m1.bind g) := fun F1 H1 g1 Q q => by
  refine ha F1 H1 g1 _ ?_
  cases m1 with
  | ok x => exact fun F2 H2 vs g2 r2 => hr x F2 H2 vs g2.fh r2 Q (Post.mo g2 q)
  | er c => exact q
  | bad => exact q
theorem e_cb [MdMo md] {ta : TA} {r : List V → Hp → VK → Prop} {x : α} {R : Hp → List V → α → Prop} {z : ρ} (ha : EvAM ce E ta σ F H (.ok x) R) (hr : OpA ce E R r md x (.ok z)) : Ev ce E (tCB r ta) σ F H md (.ok z) := fun F1 H1 g1 Q q =>
  ha F1 H1 g1 _ fun F2 H2 vs g2 r2 => hr F2 H2 vs g2.fh r2 Q (Post.mo (m := .ok z) g2 q)
/-- a call of a def by its promise -/
def SpA (ce : Ce) (R : Hp → List V → α → Prop) (sp : Sp) (md : Md ρ) (x : α) (m : M ρ) : Prop := ∀ F1 H1 vs, Ex F1 H1 → R F1 vs x → ∀ Q (E : XK), Post ce md m F1 H1 Q E → sp vs H1 Q E
theorem em_call [MdMo md] {ta : TA} {sp : Sp} {m1 : M α} {R : Hp → List V → α → Prop} {g : α → M ρ} (ha : EvAM ce E ta σ F H m1 R) (hr : ∀ x, SpA ce R sp md x (g x)) : Ev ce E (tCall sp [] E ta) σ F H md (m1.bind g) := fun F1 H1 g1 Q q => by
  refine ha F1 H1 g1 _ ?_
  cases m1 with
  | ok x =>
    intro F2 H2 vs g2 r2
    show sp (vs ++ []) H2 Q E
    rw [List.append_nil]
    exact hr x F2 H2 vs g2.fh r2 Q E (Post.mo g2 q)
  | er c => exact q
  | bad => exact q
theorem e_call [MdMo md] {ta : TA} {sp : Sp} {x : α} {R : Hp → List V → α → Prop} {m : M ρ} (ha : EvAM ce E ta σ F H (.ok x) R) (hr : SpA ce R sp md x m) : Ev ce E (tCall sp [] E ta) σ F H md m := fun F1 H1 g1 Q q =>
  ha F1 H1 g1 _ fun F2 H2 vs g2 r2 => by
    show sp (vs ++ []) H2 Q E
    rw [List.append_nil]
    exact hr F2 H2 vs g2.fh r2 Q E (Post.mo g2 q)

/-! ### displays -/
theorem gr_new {o : HO} {p : Addr} (h : Ex F H) (n : H p = none) : F p = none := ex_back h n
theorem em_tup {ta : TA} {m1 : M α} {R : Hp → List V → α → Prop} [RMo R] {g : α → ρ} [Rep ρ] (ha : EvAM ce E ta σ F H m1 R) (hs : ∀ F vs x, R F vs x → vs.length ≤ sizeLine)
    (hg : ∀ F p vs x, R F vs x → F p = some (.tup vs) → rp K F (.ref p) (g x)) : Ev ce E (tTup ta) σ F H (rv K) (m1.bind fun x => .ok (g x)) := fun F1 H1 g1 Q q => by
  refine ha F1 H1 g1 _ ?_
  cases m1 with
  | ok x =>
    refine fun F2 H2 vs g2 r2 => ⟨hs F2 vs x r2, fun p np => ?_⟩
    refine q (upd F2 p (.tup vs)) _ _ (g2.tr (Gr.new g2.fh np)) (hg _ p vs x (RMo.mo (Ex.nw (ex_back g2.fh np)) r2) upd_same)
  | er c => exact q
  | bad => exact q
theorem r2_len {F : Hp} {vs : List V} {x : α × β × Unit} (h : RC K (RC K R0) F vs x) : vs.length ≤ sizeLine := by
  obtain ⟨v, r, rfl, _, v', r', rfl, _, rfl⟩ := h
  show 2 ≤ sizeLine
  decide
theorem em_tup2 {m1 : M α} {m2 : M β} (ha : Ev ce E ta σ F H (rv K) m1) (hb : Ev ce E tb σ F H (rv K) m2) : Ev ce E (tTup (tCons ta (tCons tb tNil))) σ F H (rv K) (m1.bind fun x => m2.bind fun y => .ok (x, y)) := fun F1 H1 g1 Q q => by
  refine ha F1 H1 g1 _ ?_
  cases m1 with
  | ok x =>
    intro F2 H2 v2 g2 q2
    refine hb F2 H2 (g1.tr g2) _ ?_
    cases m2 with
    | ok y =>
      refine fun F3 H3 v3 g3 q3 => ⟨by show 2 ≤ sizeLine; decide, fun p np => ?_⟩
      have e := Ex.nw (o := .tup [v2, v3]) (ex_back g3.fh np)
      exact q _ _ _ ((g2.tr g3).tr (Gr.new g3.fh np)) ⟨p, v2, v3, rfl, SqT.of upd_same, Rep.mo (g3.ff.tr e) q2, Rep.mo e q3⟩
    | er c => exact fun H' e => q H' (g2.hh.tr e)
    | bad => exact q
  | er c => exact q
  | bad => exact q
theorem em_tup3 {m1 : M α} {m2 : M β} {m3 : M γ} (ha : Ev ce E ta σ F H (rv K) m1) (hb : Ev ce E tb σ F H (rv K) m2) (hc : Ev ce E tc σ F H (rv K) m3) :
    Ev ce E (tTup (tCons ta (tCons tb (tCons tc tNil)))) σ F H (rv K) (m1.bind fun x => m2.bind fun y => m3.bind fun z => .ok (T3.mk x y z)) := fun F1 H1 g1 Q q => by
  refine ha F1 H1 g1 _ ?_
  cases m1 with
  | ok x =>
    intro F2 H2 v2 g2 q2
    refine hb F2 H2 (g1.tr g2) _ ?_
    cases m2 with
    | ok y =>
      intro F3 H3 v3 g3 q3
      refine hc F3 H3 ((g1.tr g2).tr g3) _ ?_
      cases m3 with
      | ok z =>
        refine fun F4 H4 v4 g4 q4 => ⟨by show 3 ≤ sizeLine; decide, fun p np => ?_⟩
        have e := Ex.nw (o := .tup [v2, v3, v4]) (ex_back g4.fh np)
        exact q _ _ _ (((g2.tr g3).tr g4).tr (Gr.new g4.fh np)) ⟨p, v2, v3, v4, rfl, SqT.of upd_same, Rep.mo ((g3.ff.tr g4.ff).tr e) q2, Rep.mo (g4.ff.tr e) q3, Rep.mo e q4⟩
      | er c => exact fun H' e => q H' ((g2.tr g3).hh.tr e)
      | bad => exact q
    | er c => exact fun H' e => q H' (g2.hh.tr e)
    | bad => exact q
  | er c => exact q
  | bad => exact q
/-- a written list: its items one by one -/
def EvL (ce : Ce) (E : XK) (K : PySem.W.Frag) (ta : TA) (σ : L2.St) (F H : Hp) (m : M (List α)) : Prop := EvAM ce E ta σ F H m (fun F vs x => Paired (rp K F) vs x)
theorem el_nil : EvL ce E K tNil σ F H (.ok ([] : List α)) := fun F1 H1 g1 Q q => q F1 H1 [] (Gr.rf g1.fh) .nil
theorem el_cons {tr : TA} {m1 : M α} {m2 : M (List α)} (ha : Ev ce E ta σ F H (rv K) m1) (hr : EvL ce E K tr σ F H m2) : EvL ce E K (tCons ta tr) σ F H (m1.bind fun x => m2.bind fun y => .ok (x :: y)) := fun F1 H1 g1 Q q => by
  refine ha F1 H1 g1 _ ?_
  cases m1 with
  | ok x =>
    intro F2 H2 vx g2 rx
    refine hr F2 H2 (g1.tr g2) _ ?_
    cases m2 with
    | ok y => exact fun F3 H3 vs g3 r3 => q F3 H3 (vx :: vs) (g2.tr g3) (.cons (Rep.mo g3.ff rx) r3)
    | er c => exact fun H' e => q H' (g2.hh.tr e)
    | bad => exact q
  | er c => exact q
  | bad => exact q
theorem em_lst {ta : TA} {m : M (List α)} (ha : EvL ce E K ta σ F H m) (hs : ∀ x, m = .ok x → x.length ≤ 1000) : Ev ce E (tLst ta) σ F H (rn K) m := fun F1 H1 g1 Q q => by
  refine ha F1 H1 g1 _ ?_
  cases m with
  | ok x =>
    refine fun F2 H2 vs g2 r2 => ⟨Nat.le_of_lt (small1000 (by rw [Paired.length r2]; exact hs x rfl)), fun p np => ?_⟩
    exact q F2 _ _ (g2.tr (Gr.own g2.fh np)) ⟨p, vs, rfl, ex_back g2.hh np, ex_back g2.fh np, upd_same, r2⟩
  | er c => exact q
  | bad => exact q

/-! ### places, lengths, slices -/
def ixM (xs : List α) (i : Int) : M α := match atI xs i with
  | some x => .ok x
  | none => .bad
theorem atI_pair {F : V → α → Prop} {vs : List V} {xs : List α} {i : Int} {x : α} (h : Paired F vs xs) (e : atI xs i = some x) : ∃ v, atI vs i = some v ∧ F v x := by
  unfold atI at e ⊢
  rw [Paired.length h]
  cases q : ixN xs.length i with
  | none => rw [q] at e; cases e
  | some j =>
    rw [q] at e
    exact paired_get h e
theorem o_ixL {xs : List α} {i : Int} : Op2 ce E K (rIxL K) (rv K) xs i (ixM xs i) := fun F1 H1 vx vy e rx ry Q q => by
  obtain ⟨a, vs, rfl, h2, h3⟩ := rx
  cases ry
  unfold ixM at q
  split at q
  · rename_i x hx
    obtain ⟨v, hv, rv'⟩ := atI_pair h3 hx
    exact ⟨a, vs, i, v, rfl, rfl, SqL.of (e _ _ h2), hv, q F1 H1 v (Gr.rf e) rv'⟩
  · exact q.elim
theorem o_ixS {xs : Scr} {i : Int} : Op2 ce E K (rIxL K) (rv K) xs i (ixM xs.l i) := fun F1 H1 vx vy e rx ry Q q => by
  obtain ⟨a, rfl, h2⟩ := rx
  cases ry
  unfold ixM at q
  split at q
  · rename_i x hx
    obtain ⟨v, hv, rv'⟩ := atI_pair (rep_int (K := K) (H := F1) xs.l) hx
    exact ⟨a, _, i, v, rfl, rfl, ex_l e h2, hv, q F1 H1 v (Gr.rf e) rv'⟩
  · exact q.elim
/-- places of tuples -/
theorem e_fst {x : α × β} (ha : Ev ce E ta σ F H (rv K) (.ok x)) : Ev ce E (tOp (rIxT K) ta (tC (.int 0))) σ F H (rv K) (.ok x.1) := fun F1 H1 g1 Q q => by
  refine ha F1 H1 g1 _ fun F2 H2 vx g2 ⟨a, u, w, e1, e2, e3, e4⟩ => ?_
  subst e1
  exact ⟨a, [u, w], 0, u, rfl, rfl, ex_t g2.fh e2, rfl, q F2 H2 u g2 e3⟩
theorem e_snd {x : α × β} (ha : Ev ce E ta σ F H (rv K) (.ok x)) : Ev ce E (tOp (rIxT K) ta (tC (.int 1))) σ F H (rv K) (.ok x.2) := fun F1 H1 g1 Q q => by
  refine ha F1 H1 g1 _ fun F2 H2 vx g2 ⟨a, u, w, e1, e2, e3, e4⟩ => ?_
  subst e1
  exact ⟨a, [u, w], 1, w, rfl, rfl, ex_t g2.fh e2, rfl, q F2 H2 w g2 e4⟩
theorem o_fst {x : α × β} {i : Int} (hi : i = 0) : Op2 ce E K (rIxT K) (rv K) x i (.ok x.1) := fun F1 H1 vx vy e ⟨a, u, w, e1, e2, e3, e4⟩ ry Q q => by
  subst e1 hi
  cases ry
  exact ⟨a, [u, w], 0, u, rfl, rfl, ex_t e e2, rfl, q F1 H1 u (Gr.rf e) e3⟩
theorem o_snd {x : α × β} {i : Int} (hi : i = 1) : Op2 ce E K (rIxT K) (rv K) x i (.ok x.2) := fun F1 H1 vx vy e ⟨a, u, w, e1, e2, e3, e4⟩ ry Q q => by
  subst e1 hi
  cases ry
  exact ⟨a, [u, w], 1, w, rfl, rfl, ex_t e e2, rfl, q F1 H1 w (Gr.rf e) e4⟩
theorem o_a3 {x : T3 α β γ} {i : Int} (hi : i = 0) : Op2 ce E K (rIxT K) (rv K) x i (.ok x.a) := fun F1 H1 vx vy e ⟨a, u, w, z, e1, e2, e3, e4, e5⟩ ry Q q => by
  subst e1 hi
  cases ry
  exact ⟨a, [u, w, z], 0, u, rfl, rfl, ex_t e e2, rfl, q F1 H1 u (Gr.rf e) e3⟩
theorem o_b3 {x : T3 α β γ} {i : Int} (hi : i = 1) : Op2 ce E K (rIxT K) (rv K) x i (.ok x.b) := fun F1 H1 vx vy e ⟨a, u, w, z, e1, e2, e3, e4, e5⟩ ry Q q => by
  subst e1 hi
  cases ry
  exact ⟨a, [u, w, z], 1, w, rfl, rfl, ex_t e e2, rfl, q F1 H1 w (Gr.rf e) e4⟩
theorem o_c3 {x : T3 α β γ} {i : Int} (hi : i = 2) : Op2 ce E K (rIxT K) (rv K) x i (.ok x.c) := fun F1 H1 vx vy e ⟨a, u, w, z, e1, e2, e3, e4, e5⟩ ry Q q => by
  subst e1 hi
  cases ry
  exact ⟨a, [u, w, z], 2, z, rfl, rfl, ex_t e e2, rfl, q F1 H1 z (Gr.rf e) e5⟩
/-- len -/
def rLenS (K : PySem.W.Frag) : List V → Hp → VK → Prop := fun xs H Q => ∃ p ys, xs = [.ref p] ∧ (SqL K H p ys ∨ SqT K H p ys) ∧ Q (.int ys.length) H
theorem a_len {xs : List α} : OpA ce E (RC K R0) (rLenS K) (rv K) (xs, ()) (.ok (xs.length : Int)) := fun F1 H1 vs e ⟨v, r, e1, ⟨a, us, h1, h2, h3⟩, e3⟩ Q q => by
  cases e3
  subst e1 h1
  refine ⟨a, us, rfl, .inl (SqL.of (e _ _ h2)), ?_⟩
  rw [Paired.length h3]
  exact q F1 H1 _ (Gr.rf e) rfl
theorem a_lenS {xs : Scr} : OpA ce E (RC K R0) (rLenS K) (rv K) (xs, ()) (.ok (xs.l.length : Int)) := fun F1 H1 vs e ⟨v, r, e1, ⟨a, h1, h2⟩, e3⟩ Q q => by
  cases e3
  subst e1 h1
  refine ⟨a, _, rfl, .inl (ex_l e h2), ?_⟩
  rw [List.length_map]
  exact q F1 H1 _ (Gr.rf e) rfl
theorem a_len2 {x : α × β} : OpA ce E (RC K R0) (rLenS K) (rv K) (x, ()) (.ok (2 : Int)) := fun F1 H1 vs e ⟨v, r, e1, ⟨a, u, w, h1, h2, h3, h4⟩, e3⟩ Q q => by
  cases e3
  subst e1 h1
  exact ⟨a, _, rfl, .inr (ex_t e h2), q F1 H1 _ (Gr.rf e) rfl⟩
theorem a_len3 {x : T3 α β γ} : OpA ce E (RC K R0) (rLenS K) (rv K) (x, ()) (.ok (3 : Int)) := fun F1 H1 vs e ⟨v, r, e1, ⟨a, u, w, z, h1, h2, h3, h4, h5⟩, e3⟩ Q q => by
  cases e3
  subst e1 h1
  exact ⟨a, _, rfl, .inr (ex_t e h2), q F1 H1 _ (Gr.rf e) rfl⟩
/-- list(xs): a new one -/
def rListS (K : PySem.W.Frag) : List V → Hp → VK → Prop := fun xs H Q => ∃ p ys, xs = [.ref p] ∧ (SqL K H p ys ∨ SqT K H p ys) ∧ ∀ l, H l = none → Q (.ref l) (upd H l (.lst ys))
theorem a_list {xs : List α} : OpA ce E (RC K R0) (rListS K) (rn K) (xs, ()) (.ok xs) := fun F1 H1 vs e ⟨v, r, e1, ⟨a, us, h1, h2, h3⟩, e3⟩ Q q => by
  cases e3
  subst e1 h1
  exact ⟨a, us, rfl, .inl (SqL.of (e _ _ h2)), fun l nl => q F1 _ _ (Gr.own e nl) ⟨l, us, rfl, nl, ex_back e nl, upd_same, h3⟩⟩
theorem a_listS {xs : Scr} : OpA ce E (RC K R0) (rListS K) (rn K) (xs, ()) (.ok xs.l) := fun F1 H1 vs e ⟨v, r, e1, ⟨a, h1, h2⟩, e3⟩ Q q => by
  cases e3
  subst e1 h1
  exact ⟨a, _, rfl, .inl (ex_l e h2), fun l nl => q F1 _ _ (Gr.own e nl) ⟨l, _, rfl, nl, ex_back e nl, upd_same, rep_int _⟩⟩
/-- abs, max, min, int of what is known -/
theorem a_abs {x : Int} : OpA ce E (RC K R0) (fun xs H Q => ∃ i, xs = [.int i] ∧ Q (.int (if i < 0 then -i else i)) H) (rv K) (x, ()) (.ok (if x < 0 then -x else x)) := fun F1 H1 vs e ⟨v, r, e1, h1, e3⟩ Q q => by
  cases e3
  cases h1
  subst e1
  exact ⟨x, rfl, q F1 H1 _ (Gr.rf e) rfl⟩
theorem a_max2 {x y : Int} : OpA ce E (RC K (RC K R0)) (fun xs H Q => ∃ i j, xs = [.int i, .int j] ∧ Q (.int (if j > i then j else i)) H) (rv K) (x, y, ()) (.ok (if y > x then y else x)) := fun F1 H1 vs e ⟨v, r, e1, h1, v', r', e2, h2, e3⟩ Q q => by
  cases e3
  cases h1
  cases h2
  subst e2
  subst e1
  exact ⟨x, y, rfl, q F1 H1 _ (Gr.rf e) rfl⟩
theorem a_min2 {x y : Int} : OpA ce E (RC K (RC K R0)) (fun xs H Q => ∃ i j, xs = [.int i, .int j] ∧ Q (.int (if j < i then j else i)) H) (rv K) (x, y, ()) (.ok (if y < x then y else x)) := fun F1 H1 vs e ⟨v, r, e1, h1, v', r', e2, h2, e3⟩ Q q => by
  cases e3
  cases h1
  cases h2
  subst e2
  subst e1
  exact ⟨x, y, rfl, q F1 H1 _ (Gr.rf e) rfl⟩
theorem a_intB {x : Bool} : OpA ce E (RC K R0) (fun xs H Q => (∃ i, xs = [.int i] ∧ Q (.int i) H) ∨ ∃ k, xs = [.bl k] ∧ Q (.int (if k then 1 else 0)) H) (rv K) (x, ()) (.ok (if x then (1 : Int) else 0)) := fun F1 H1 vs e ⟨v, r, e1, h1, e3⟩ Q q => by
  cases e3
  cases h1
  subst e1
  exact .inr ⟨x, rfl, q F1 H1 _ (Gr.rf e) rfl⟩
/-- sum of ints -/
theorem a_sum {xs : List Int} : OpA ce E (RC K R0) (rSum K) (rv K) (xs, ()) (.ok xs.sum) := fun F1 H1 vs e ⟨v, r, e1, ⟨a, us, h1, h2, h3⟩, e3⟩ Q q => by
  cases e3
  subst e1 h1
  have := paired_int h3
  subst this
  exact ⟨a, xs, rfl, SqL.of (e _ _ h2), q F1 H1 _ (Gr.rf e) rfl⟩
/-- the greatest, the least of a list of ints -/
def maxL : List Int → Int
  | [] => 0
  | [x] => x
  | x :: r => max x (maxL r)
def minL : List Int → Int
  | [] => 0
  | [x] => x
  | x :: r => min x (minL r)
theorem maxL_mem : ∀ {xs : List Int}, xs ≠ [] → maxL xs ∈ xs ∧ ∀ y ∈ xs, y ≤ maxL xs
  | [], h => absurd rfl h
  | [x], _ => ⟨List.mem_singleton.mpr rfl, fun y hy => by rw [List.mem_singleton.mp hy]; exact Int.le_refl _⟩
  | x :: y :: r, _ => by
    obtain ⟨h1, h2⟩ := maxL_mem (xs := y :: r) (by simp)
    show max x (maxL (y :: r)) ∈ _ ∧ ∀ z ∈ _, z ≤ max x (maxL (y :: r))
    refine ⟨?_, fun z hz => ?_⟩
    · by_cases c : x ≤ maxL (y :: r)
      · rw [Int.max_eq_right c]; exact List.mem_cons_of_mem _ h1
      · rw [Int.max_eq_left (by omega)]; exact List.mem_cons_self
    · rcases List.mem_cons.mp hz with rfl | hz
      · exact Int.le_max_left _ _
      · exact Int.le_trans (h2 z hz) (Int.le_max_right _ _)
theorem minL_mem : ∀ {xs : List Int}, xs ≠ [] → minL xs ∈ xs ∧ ∀ y ∈ xs, minL xs ≤ y
  | [], h => absurd rfl h
  | [x], _ => ⟨List.mem_singleton.mpr rfl, fun y hy => by rw [List.mem_singleton.mp hy]; exact Int.le_refl _⟩
  | x :: y :: r, _ => by
    obtain ⟨h1, h2⟩ := minL_mem (xs := y :: r) (by simp)
    show min x (minL (y :: r)) ∈ _ ∧ ∀ z ∈ _, min x (minL (y :: r)) ≤ z
    refine ⟨?_, fun z hz => ?_⟩
    · by_cases c : x ≤ minL (y :: r)
      · rw [Int.min_eq_left c]; exact List.mem_cons_self
      · rw [Int.min_eq_right (by omega)]; exact List.mem_cons_of_mem _ h1
    · rcases List.mem_cons.mp hz with rfl | hz
      · exact Int.min_le_left _ _
      · exact Int.le_trans (Int.min_le_right _ _) (h2 z hz)
noncomputable def maxM (xs : List Int) : M Int := chk (xs ≠ []) (maxL xs)
noncomputable def minM (xs : List Int) : M Int := chk (xs ≠ []) (minL xs)
theorem a_max {xs : List Int} : OpA ce E (RC K R0) (rMax K) (rv K) (xs, ()) (maxM xs) := fun F1 H1 vs e ⟨v, r, e1, ⟨a, us, h1, h2, h3⟩, e3⟩ Q q => by
  cases e3
  subst e1 h1
  have := paired_int h3
  subst this
  unfold maxM chk at q
  split at q
  · rename_i hne
    refine ⟨a, xs, rfl, SqL.of (e _ _ h2), List.length_pos_iff.mpr hne, fun m hm hle => ?_⟩
    obtain ⟨k1, k2⟩ := maxL_mem hne
    have : m = maxL xs := Int.le_antisymm (k2 m hm) (hle _ k1)
    subst this
    exact q F1 H1 _ (Gr.rf e) rfl
  · exact q.elim
theorem a_min {xs : List Int} : OpA ce E (RC K R0) (rMin K) (rv K) (xs, ()) (minM xs) := fun F1 H1 vs e ⟨v, r, e1, ⟨a, us, h1, h2, h3⟩, e3⟩ Q q => by
  cases e3
  subst e1 h1
  have := paired_int h3
  subst this
  unfold minM chk at q
  split at q
  · rename_i hne
    refine ⟨a, xs, rfl, SqL.of (e _ _ h2), List.length_pos_iff.mpr hne, fun m hm hle => ?_⟩
    obtain ⟨k1, k2⟩ := minL_mem hne
    have : m = minL xs := Int.le_antisymm (hle _ k1) (k2 m hm)
    subst this
    exact q F1 H1 _ (Gr.rf e) rfl
  · exact q.elim
end
end Mw

set_option Elab.async false
set_option linter.all false
set_option maxRecDepth 100000
set_option maxHeartbeats 2000000
/-! Mw, part C: slices, sums of lists, comparisons of data, sorts, comprehensions. -/
namespace Mw
open PySem L2
open Rep (rp)
/-! ### slices, list + list, list * int -/
def cut {α : Type} (xs : List α) (lo hi : Option Int) : List α := (xs.drop (HT.sIx xs.length 0 lo)).take (HT.sIx xs.length xs.length hi - HT.sIx xs.length 0 lo)
theorem cutV_is (xs : List V) (lo hi : Option Int) : cutV xs lo hi = cut xs lo hi := rfl
theorem paired_cut {α β : Type} {F : α → β → Prop} {vs : List α} {xs : List β} (h : Paired F vs xs) (lo hi : Option Int) : Paired F (cut vs lo hi) (cut xs lo hi) := by
  unfold cut
  rw [Paired.length h]
  exact paired_take _ (paired_drop _ h)
section
variable {ρ α β γ δ : Type} [Rep α] [Rep β] [Rep γ] [Rep δ] {ce : Ce} {E : XK} {K : PySem.W.Frag} {σ : L2.St} {F H F' H' : Hp} {te ta tb tc td : TE} {tt tu : TT} {md : Md ρ} {m : M ρ}
def EvO (ce : Ce) (E : XK) (to : TO) (σ : L2.St) (F H : Hp) (m : M (Option Int)) : Prop := ∀ F1 H1, Gr F H F1 H1 → ∀ Q : Option Int → Hp → Prop,
  (match m with
    | .ok x => ∀ F2 H2, Gr F1 H1 F2 H2 → Q x H2
    | .er c => ∀ H', Ex H1 H' → E (.ref (ce c.name)) none H'
    | .bad => False) → to σ H1 Q
theorem eo_none : EvO ce E tNoPart σ F H (.ok none) := fun F1 H1 g1 Q q => q F1 H1 (Gr.rf g1.fh)
theorem eo_some {m : M Int} (h : Ev ce E te σ F H (rv K) m) : EvO ce E (tPart te) σ F H (m.bind fun i => .ok (some i)) := fun F1 H1 g1 Q q => by
  refine h F1 H1 g1 _ ?_
  cases m with
  | ok i => exact fun F2 H2 v g2 r => ⟨i, r, q F2 H2 g2⟩
  | er c => exact q
  | bad => exact q
theorem eo_some' {i : Int} (h : Ev ce E te σ F H (rv K) (.ok i)) : EvO ce E (tPart te) σ F H (.ok (some i)) := eo_some (m := .ok i) h
theorem em_sl {tl th : TO} {m1 : M (List α)} {m2 m3 : M (Option Int)} (ha : Ev ce E ta σ F H (rv K) m1) (hl : EvO ce E tl σ F H m2) (hh : EvO ce E th σ F H m3) :
    Ev ce E (tSl (rSlL K) ta tl th) σ F H (rn K) (m1.bind fun x => m2.bind fun lo => m3.bind fun hi => .ok (cut x lo hi)) := fun F1 H1 g1 Q q => by
  refine ha F1 H1 g1 _ ?_
  cases m1 with
  | ok x =>
    rintro F2 H2 vx g2 ⟨a, vs, e1, e2, e3⟩
    refine hl F2 H2 (g1.tr g2) _ ?_
    cases m2 with
    | ok lo =>
      intro F3 H3 g3
      refine hh F3 H3 ((g1.tr g2).tr g3) _ ?_
      cases m3 with
      | ok hi =>
        intro F4 H4 g4
        refine ⟨a, vs, e1, SqL.of (g4.hh _ _ (g3.hh _ _ (g2.fh _ _ e2))), fun p np => ?_⟩
        exact q F4 _ _ (((g2.tr g3).tr g4).tr (Gr.own g4.fh np)) ⟨p, _, rfl, ex_back ((g2.hh.tr g3.hh).tr g4.hh) np, ex_back g4.fh np, upd_same, paired_cut (paired_mo (g3.ff.tr g4.ff) e3) lo hi⟩
      | er c => exact fun H' e => q H' ((g2.tr g3).hh.tr e)
      | bad => exact q
    | er c => exact fun H' e => q H' (g2.hh.tr e)
    | bad => exact q
  | er c => exact q
  | bad => exact q
/-- a slice of the script -/
theorem em_slS {tl th : TO} {x : Scr} {m2 m3 : M (Option Int)} (ha : Ev ce E ta σ F H (rv K) (.ok x)) (hl : EvO ce E tl σ F H m2) (hh : EvO ce E th σ F H m3) :
    Ev ce E (tSl (rSlL K) ta tl th) σ F H (rn K) (m2.bind fun lo => m3.bind fun hi => .ok (cut x.l lo hi)) := fun F1 H1 g1 Q q => by
  refine ha F1 H1 g1 _ ?_
  rintro F2 H2 vx g2 ⟨a, e1, e2⟩
  refine hl F2 H2 (g1.tr g2) _ ?_
  cases m2 with
  | ok lo =>
    intro F3 H3 g3
    refine hh F3 H3 ((g1.tr g2).tr g3) _ ?_
    cases m3 with
    | ok hi =>
      intro F4 H4 g4
      refine ⟨a, _, e1, ex_l ((g2.fh.tr g3.hh).tr g4.hh) e2, fun p np => ?_⟩
      exact q F4 _ _ (((g2.tr g3).tr g4).tr (Gr.own g4.fh np)) ⟨p, _, rfl, ex_back ((g2.hh.tr g3.hh).tr g4.hh) np, ex_back g4.fh np, upd_same, paired_cut (rep_int x.l) lo hi⟩
    | er c => exact fun H' e => q H' ((g2.tr g3).hh.tr e)
    | bad => exact q
  | er c => exact fun H' e => q H' (g2.hh.tr e)
  | bad => exact q
theorem em_rev {m1 : M (List α)} (ha : Ev ce E ta σ F H (rv K) m1) : Ev ce E (tRevL K ta) σ F H (rn K) (m1.bind fun x => .ok x.reverse) := fun F1 H1 g1 Q q => by
  refine ha F1 H1 g1 _ ?_
  cases m1 with
  | ok x =>
    rintro F2 H2 vx g2 ⟨a, vs, e1, e2, e3⟩
    refine ⟨a, vs, e1, SqL.of (g2.fh _ _ e2), fun p np => ?_⟩
    exact q F2 _ _ (g2.tr (Gr.own g2.fh np)) ⟨p, _, rfl, ex_back g2.hh np, ex_back g2.fh np, upd_same, paired_rev e3⟩
  | er c => exact q
  | bad => exact q
noncomputable def catM {α : Type} (xs ys : List α) : M (List α) := chk (xs.length + ys.length ≤ 16000000) (xs ++ ys)
theorem o_cat {xs ys : List α} : Op2 ce E K rCat (rn K) xs ys (catM xs ys) := fun F1 H1 vx vy e ⟨a, vs, h1, h2, h3⟩ ⟨b, ws, k1, k2, k3⟩ Q q => by
  unfold catM chk at q
  split at q
  · rename_i hc
    refine ⟨a, b, vs, ws, h1, k1, e _ _ h2, e _ _ k2, ?_, fun p np => ?_⟩
    · rw [Paired.length h3, Paired.length k3, sizeLine_eq]; omega
    · exact q F1 _ _ (Gr.own e np) ⟨p, _, rfl, np, ex_back e np, upd_same, paired_app h3 k3⟩
  · exact q.elim
theorem paired_flat {F : V → α → Prop} {vs : List V} {xs : List α} (h : Paired F vs xs) : ∀ n : Nat, Paired F (List.replicate n vs).flatten (List.replicate n xs).flatten
  | 0 => .nil
  | n + 1 => by
    rw [List.replicate_succ, List.replicate_succ, List.flatten_cons, List.flatten_cons]
    exact paired_app h (paired_flat h n)
noncomputable def repM {α : Type} (xs : List α) (k : Int) : M (List α) := chk (-(2 ^ 63) ≤ k ∧ k < 2 ^ 63 ∧ xs.length * k.toNat ≤ 16000000) (List.replicate k.toNat xs).flatten
theorem o_rep {xs : List α} {k : Int} : Op2 ce E K rRep (rn K) xs k (repM xs k) := fun F1 H1 vx vy e ⟨a, vs, h1, h2, h3⟩ ry Q q => by
  cases ry
  unfold repM chk at q
  split at q
  · rename_i hc
    refine ⟨a, k, vs, h1, rfl, e _ _ h2, hc.1, hc.2.1, ?_, fun p np => ?_⟩
    · rw [Paired.length h3, sizeLine_eq]; omega
    · exact q F1 _ _ (Gr.own e np) ⟨p, _, rfl, np, ex_back e np, upd_same, paired_flat h3 _⟩
  · exact q.elim

/-! ### == of data -/
class Dat (α : Type) [Rep α] [DecidableEq α] where
  dat : α → PyData
  deep : Nat
  dp : ∀ {K : PySem.W.Frag} {H : Hp} {v : V} {x : α}, rp K H v x → Dp K H v (dat x)
  cl : ∀ x, (dat x).canLay0 = true
  de : ∀ x, (dat x).depth ≤ deep
  eq : ∀ x y, PyData.eqv (dat x) (dat y) = decide (x = y)
end
instance : Dat Int := ⟨fun i => .int i, 0, fun {K H v x} h => by cases h; exact .int x, fun _ => rfl, fun _ => Nat.le_refl _, fun x y => by simp only [PyData.eqv]; rw [Bool.eq_iff_iff]; simp⟩
instance : Dat Bool := ⟨fun i => .bool i, 0, fun {K H v x} h => by cases h; exact .bl x, fun _ => rfl, fun _ => Nat.le_refl _, fun x y => by simp only [PyData.eqv]; rw [Bool.eq_iff_iff]; simp⟩
/-- what is told apart from None -/
class NotN (α : Type) [Rep α] [DecidableEq α] [Dat α] : Prop where
  nn : ∀ x : α, PyData.eqv .none (Dat.dat x) = false ∧ PyData.eqv (Dat.dat x) .none = false
instance : NotN Int := ⟨fun x => ⟨by show PyData.eqv .none (.int x) = false; simp [PyData.eqv], by show PyData.eqv (.int x) .none = false; simp [PyData.eqv]⟩⟩
instance : NotN Bool := ⟨fun x => ⟨by show PyData.eqv .none (.bool x) = false; simp [PyData.eqv], by show PyData.eqv (.bool x) .none = false; simp [PyData.eqv]⟩⟩
instance {α : Type} [Rep α] [DecidableEq α] [Dat α] [NotN α] : Dat (Option α) where
  dat := fun x => match x with
    | none => .none
    | some y => Dat.dat y
  deep := Dat.deep α
  dp := fun {K H v x} h => by
    cases x with
    | none => cases h; exact .non
    | some y => exact Dat.dp h.1
  cl := fun x => by cases x with
    | none => rfl
    | some y => exact Dat.cl y
  de := fun x => by cases x with
    | none => exact Nat.zero_le _
    | some y => exact Dat.de y
  eq := fun x y => by
    cases x with
    | none => cases y with
      | none => simp [PyData.eqv]
      | some b => simpa using (NotN.nn b).1
    | some a => cases y with
      | none => simpa using (NotN.nn a).2
      | some b => simpa using Dat.eq a b
theorem dpAll_of {α : Type} [Rep α] [DecidableEq α] [Dat α] {K : PySem.W.Frag} {H : Hp} : ∀ {vs : List V} {xs : List α}, Paired (rp K H) vs xs → DpAll K H vs (xs.map Dat.dat)
  | _, _, .nil => .nil
  | _, _, .cons h t => .cons (Dat.dp h) (dpAll_of t)
theorem clAll {α : Type} [Rep α] [DecidableEq α] [Dat α] : ∀ xs : List α, PyData.canLayAll0 (xs.map Dat.dat) = true
  | [] => by simp [PyData.canLayAll0]
  | x :: r => by simp [PyData.canLayAll0, Dat.cl x, clAll r]
theorem deAll {α : Type} [Rep α] [DecidableEq α] [Dat α] : ∀ xs : List α, PyData.depthAll (xs.map Dat.dat) ≤ Dat.deep α
  | [] => Nat.zero_le _
  | x :: r => by
    show max (PyData.depth (Dat.dat x)) (PyData.depthAll (r.map Dat.dat)) ≤ _
    exact Nat.max_le.mpr ⟨Dat.de x, deAll r⟩
theorem eqAll {α : Type} [Rep α] [DecidableEq α] [Dat α] : ∀ xs ys : List α, PyData.eqvAll (xs.map Dat.dat) (ys.map Dat.dat) = decide (xs = ys)
  | [], [] => by simp [PyData.eqvAll]
  | [], _ :: _ => by simp [PyData.eqvAll]
  | _ :: _, [] => by simp [PyData.eqvAll]
  | x :: r, y :: s => by
    simp only [List.map_cons, PyData.eqvAll, Dat.eq x y, eqAll r s, List.cons.injEq]
    simp
instance {α : Type} [Rep α] [DecidableEq α] [Dat α] : Dat (List α) where
  dat := fun xs => .list (xs.map Dat.dat)
  deep := Dat.deep α + 1
  dp := fun {K H v x} ⟨a, vs, h1, h2, h3⟩ => by subst h1; exact .lst (SqL.of h2) (dpAll_of h3)
  cl := fun xs => by simpa [PyData.canLay0] using clAll xs
  de := fun xs => by
    show PyData.depthAll (xs.map Dat.dat) + 1 ≤ _
    exact Nat.succ_le_succ (deAll xs)
  eq := fun xs ys => by simpa [PyData.eqv] using eqAll xs ys
instance {α : Type} [Rep α] [DecidableEq α] [Dat α] : NotN (List α) := ⟨fun x => ⟨by show PyData.eqv .none (.list _) = false; simp [PyData.eqv], by show PyData.eqv (.list _) .none = false; simp [PyData.eqv]⟩⟩
instance {α β : Type} [Rep α] [Rep β] [DecidableEq α] [DecidableEq β] [Dat α] [Dat β] : Dat (α × β) where
  dat := fun x => .tuple [Dat.dat x.1, Dat.dat x.2]
  deep := max (Dat.deep α) (Dat.deep β) + 1
  dp := fun {K H v x} ⟨a, u, w, h1, h2, h3, h4⟩ => by subst h1; exact .tup h2 (.cons (Dat.dp h3) (.cons (Dat.dp h4) .nil))
  cl := fun x => by simp [PyData.canLay0, PyData.canLayAll0, Dat.cl]
  de := fun x => by
    show max (PyData.depth _) (max (PyData.depth _) 0) + 1 ≤ _
    have h1 := Dat.de x.1
    have h2 := Dat.de x.2
    omega
  eq := fun x y => by
    obtain ⟨x1, x2⟩ := x
    obtain ⟨y1, y2⟩ := y
    simp only [PyData.eqv, PyData.eqvAll, Dat.eq, Bool.and_true, Prod.mk.injEq]
    simp
instance {α β : Type} [Rep α] [Rep β] [DecidableEq α] [DecidableEq β] [Dat α] [Dat β] : NotN (α × β) := ⟨fun x => ⟨by show PyData.eqv .none (.tuple _) = false; simp [PyData.eqv], by show PyData.eqv (.tuple _) .none = false; simp [PyData.eqv]⟩⟩
instance {α β γ : Type} [Rep α] [Rep β] [Rep γ] [DecidableEq α] [DecidableEq β] [DecidableEq γ] [Dat α] [Dat β] [Dat γ] : Dat (T3 α β γ) where
  dat := fun x => .tuple [Dat.dat x.a, Dat.dat x.b, Dat.dat x.c]
  deep := max (Dat.deep α) (max (Dat.deep β) (Dat.deep γ)) + 1
  dp := fun {K H v x} ⟨a, u, w, z, h1, h2, h3, h4, h5⟩ => by subst h1; exact .tup h2 (.cons (Dat.dp h3) (.cons (Dat.dp h4) (.cons (Dat.dp h5) .nil)))
  cl := fun x => by simp [PyData.canLay0, PyData.canLayAll0, Dat.cl]
  de := fun x => by
    show max (PyData.depth _) (max (PyData.depth _) (max (PyData.depth _) 0)) + 1 ≤ _
    have h1 := Dat.de x.a
    have h2 := Dat.de x.b
    have h3 := Dat.de x.c
    omega
  eq := fun x y => by
    obtain ⟨x1, x2, x3⟩ := x
    obtain ⟨y1, y2, y3⟩ := y
    simp only [PyData.eqv, PyData.eqvAll, Dat.eq, Bool.and_true, T3.mk.injEq]
    simp
instance {α β γ : Type} [Rep α] [Rep β] [Rep γ] [DecidableEq α] [DecidableEq β] [DecidableEq γ] [Dat α] [Dat β] [Dat γ] : NotN (T3 α β γ) := ⟨fun x => ⟨by show PyData.eqv .none (.tuple _) = false; simp [PyData.eqv], by show PyData.eqv (.tuple _) .none = false; simp [PyData.eqv]⟩⟩
section
variable {ρ α β γ δ : Type} [Rep α] [Rep β] [Rep γ] [Rep δ] {ce : Ce} {E : XK} {K : PySem.W.Frag} {σ : L2.St} {F H F' H' : Hp} {te ta tb tc td : TE} {tt tu : TT} {md : Md ρ} {m : M ρ}
theorem shaped_of [DecidableEq α] [Dat α] (h : Dat.deep α ≤ 64) (x : α) : SeqAt.shaped (Dat.dat x) = true := by
  unfold SeqAt.shaped
  rw [Dat.cl x]
  exact decide_eq_true (Nat.le_trans (Dat.de x) h)
theorem o_eqD [DecidableEq α] [Dat α] {x y : α} (h : Dat.deep α ≤ 64) : Op2 ce E K (rEqD K) (rv K) x y (.ok (decide (x = y))) := fun F1 H1 vx vy e rx ry Q q => by
  refine ⟨Dat.dat x, Dat.dat y, Dat.dp (Rep.mo e rx), Dat.dp (Rep.mo e ry), shaped_of h x, shaped_of h y, ?_⟩
  rw [Dat.eq]
  exact q F1 H1 _ (Gr.rf e) rfl
theorem o_neD [DecidableEq α] [Dat α] {x y : α} (h : Dat.deep α ≤ 64) : Op2 ce E K (rNeD K) (rv K) x y (.ok (!decide (x = y))) := fun F1 H1 vx vy e rx ry Q q => by
  refine ⟨Dat.dat x, Dat.dat y, Dat.dp (Rep.mo e rx), Dat.dp (Rep.mo e ry), shaped_of h x, shaped_of h y, ?_⟩
  rw [Dat.eq]
  exact q F1 H1 _ (Gr.rf e) rfl
/-- x == y where the one may be None -/
theorem o_eqDo [DecidableEq α] [Dat α] [NotN α] {x : Option α} {y : α} (h : Dat.deep α ≤ 64) : Op2 ce E K (rEqD K) (rv K) x y (.ok (decide (x = some y))) := fun F1 H1 vx vy e rx ry Q q => by
  refine ⟨Dat.dat x, Dat.dat y, Dat.dp (Rep.mo e rx), Dat.dp (Rep.mo e ry), shaped_of (α := Option α) h x, shaped_of h y, ?_⟩
  rw [show PyData.eqv (Dat.dat x) (Dat.dat y) = decide (x = some y) from Dat.eq x (some y)]
  exact q F1 H1 _ (Gr.rf e) rfl
theorem o_neDo [DecidableEq α] [Dat α] [NotN α] {x : Option α} {y : α} (h : Dat.deep α ≤ 64) : Op2 ce E K (rNeD K) (rv K) x y (.ok (!decide (x = some y))) := fun F1 H1 vx vy e rx ry Q q => by
  refine ⟨Dat.dat x, Dat.dat y, Dat.dp (Rep.mo e rx), Dat.dp (Rep.mo e ry), shaped_of (α := Option α) h x, shaped_of h y, ?_⟩
  rw [show PyData.eqv (Dat.dat x) (Dat.dat y) = decide (x = some y) from Dat.eq x (some y)]
  exact q F1 H1 _ (Gr.rf e) rfl
theorem o_eqI {x y : Int} : Op2 ce E K rEq (rv K) x y (.ok (decide (x = y))) := fun F1 H1 vx vy e rx ry Q q => by
  cases rx; cases ry
  refine ⟨rfl, ?_⟩
  have : decide (V.int x = V.int y) = decide (x = y) := by rw [Bool.eq_iff_iff]; simp
  rw [this]
  exact q F1 H1 _ (Gr.rf e) rfl
theorem o_neI {x y : Int} : Op2 ce E K rNe (rv K) x y (.ok (!decide (x = y))) := fun F1 H1 vx vy e rx ry Q q => by
  cases rx; cases ry
  refine ⟨rfl, ?_⟩
  have : decide (V.int x = V.int y) = decide (x = y) := by rw [Bool.eq_iff_iff]; simp
  rw [this]
  exact q F1 H1 _ (Gr.rf e) rfl
theorem o_eqB {x y : Bool} : Op2 ce E K rEq (rv K) x y (.ok (decide (x = y))) := fun F1 H1 vx vy e rx ry Q q => by
  cases rx; cases ry
  refine ⟨rfl, ?_⟩
  have : decide (V.bl x = V.bl y) = decide (x = y) := by rw [Bool.eq_iff_iff]; simp
  rw [this]
  exact q F1 H1 _ (Gr.rf e) rfl
theorem o_neB {x y : Bool} : Op2 ce E K rNe (rv K) x y (.ok (!decide (x = y))) := fun F1 H1 vx vy e rx ry Q q => by
  cases rx; cases ry
  refine ⟨rfl, ?_⟩
  have : decide (V.bl x = V.bl y) = decide (x = y) := by rw [Bool.eq_iff_iff]; simp
  rw [this]
  exact q F1 H1 _ (Gr.rf e) rfl
theorem o_eqS {x y : Str} : Op2 ce E K rEq (rv K) x y (.ok (decide (x = y))) := fun F1 H1 vx vy e rx ry Q q => by
  cases rx; cases ry
  refine ⟨rfl, ?_⟩
  have : decide (V.str x = V.str y) = decide (x = y) := by rw [Bool.eq_iff_iff]; simp
  rw [this]
  exact q F1 H1 _ (Gr.rf e) rfl
theorem o_neS {x y : Str} : Op2 ce E K rNe (rv K) x y (.ok (!decide (x = y))) := fun F1 H1 vx vy e rx ry Q q => by
  cases rx; cases ry
  refine ⟨rfl, ?_⟩
  have : decide (V.str x = V.str y) = decide (x = y) := by rw [Bool.eq_iff_iff]; simp
  rw [this]
  exact q F1 H1 _ (Gr.rf e) rfl
/-- x is None, x is not None -/
def rIsN : R2 := fun x y H Q => y = .non ∧ Q (.bl (decide (x = .non))) H
def rNotN : R2 := fun x y H Q => y = .non ∧ Q (.bl (!decide (x = .non))) H
theorem o_isN {x : Option α} : Op2 ce E K rIsN (rv K) x () (.ok (!x.isSome)) := fun F1 H1 vx vy e rx ry Q q => by
  cases ry
  refine ⟨rfl, ?_⟩
  have : decide (vx = V.non) = !x.isSome := by
    cases x with
    | none => cases rx; rfl
    | some y => exact decide_eq_false rx.2
  rw [this]
  exact q F1 H1 _ (Gr.rf e) rfl
theorem o_notN {x : Option α} : Op2 ce E K rNotN (rv K) x () (.ok x.isSome) := fun F1 H1 vx vy e rx ry Q q => by
  cases ry
  refine ⟨rfl, ?_⟩
  have : (!decide (vx = V.non)) = x.isSome := by
    cases x with
    | none => cases rx; rfl
    | some y => rw [decide_eq_false rx.2] <;> rfl
  rw [this]
  exact q F1 H1 _ (Gr.rf e) rfl
theorem o_isU {x : Unit} : Op2 ce E K rIsN (rv K) x () (.ok true) := fun F1 H1 vx vy e rx ry Q q => by
  cases ry; cases rx
  exact ⟨rfl, q F1 H1 _ (Gr.rf e) rfl⟩
theorem o_notU {x : Unit} : Op2 ce E K rNotN (rv K) x () (.ok false) := fun F1 H1 vx vy e rx ry Q q => by
  cases ry; cases rx
  exact ⟨rfl, q F1 H1 _ (Gr.rf e) rfl⟩
/-- a value that may be None -/
class NN (α : Type) [Rep α] : Prop where
  nn : ∀ {K : PySem.W.Frag} {H : Hp} {v : V} {x : α}, rp K H v x → v ≠ .non
instance : NN Int := ⟨fun h => by cases h; exact fun z => nomatch z⟩
instance : NN Bool := ⟨fun h => by cases h; exact fun z => nomatch z⟩
instance : NN Str := ⟨fun h => by cases h; exact fun z => nomatch z⟩
instance : NN (List α) := ⟨fun ⟨a, vs, h1, _⟩ => by subst h1; exact fun z => nomatch z⟩
instance : NN (α × β) := ⟨fun ⟨a, u, w, h1, _⟩ => by subst h1; exact fun z => nomatch z⟩
instance : NN (T3 α β γ) := ⟨fun ⟨a, u, w, z, h1, _⟩ => by subst h1; exact fun z => nomatch z⟩
instance : NN (T4 α β γ δ) := ⟨fun ⟨a, u, w, z, y, h1, _⟩ => by subst h1; exact fun z => nomatch z⟩
theorem em_some [NN α] {m : M α} (h : Ev ce E te σ F H (rv K) m) : Ev ce E te σ F H (rv K) (m.bind fun x => .ok (some x)) := fun F1 H1 g1 Q q => by
  refine h F1 H1 g1 _ ?_
  cases m with
  | ok x => exact fun F2 H2 v g2 r => q F2 H2 v g2 ⟨r, NN.nn r⟩
  | er c => exact q
  | bad => exact q
/-- what is not None -/
def getM {α : Type} (x : Option α) : M α := match x with
  | some y => .ok y
  | none => .bad
theorem em_get {m : M (Option α)} (h : Ev ce E te σ F H (rv K) m) : Ev ce E te σ F H (rv K) (m.bind getM) := fun F1 H1 g1 Q q => by
  refine h F1 H1 g1 _ ?_
  cases m with
  | ok x =>
    cases x with
    | none => exact q.elim
    | some y => exact fun F2 H2 v g2 r => q F2 H2 v g2 r.1
  | er c => exact q
  | bad => exact q

/-! ### in a list -/
theorem inV_int (x : Int) : ∀ xs : List Int, inV (.int x) (xs.map V.int) = decide (x ∈ xs)
  | [] => by simp [inV]
  | y :: r => by
    have ih := inV_int x r
    unfold inV at ih ⊢
    rw [List.map_cons, List.any_cons, ih]
    have : eqV (V.int y) (V.int x) = decide (x = y) := by
      show (y == x) = decide (x = y)
      rw [Bool.eq_iff_iff, beq_iff_eq, decide_eq_true_eq]
      exact ⟨Eq.symm, Eq.symm⟩
    rw [this, Bool.eq_iff_iff]
    simp
theorem flat_ints : ∀ xs : List Int, (xs.map V.int).all flatV = true
  | [] => rfl
  | _ :: r => by rw [List.map_cons, List.all_cons, flat_ints r] <;> rfl
theorem o_in {x : Int} {xs : List Int} : Op2 ce E K (rIn K false) (rv K) x xs (.ok (decide (x ∈ xs))) := fun F1 H1 vx vy e rx ⟨a, vs, h1, h2, h3⟩ Q q => by
  cases rx
  have := paired_int h3
  subst this
  subst h1
  refine ⟨a, _, rfl, .inl (SqL.of (e _ _ h2)), rfl, flat_ints _, ?_⟩
  show Q (V.bl (if false = true then _ else _)) H1
  rw [if_neg Bool.false_ne_true, inV_int]
  exact q F1 H1 _ (Gr.rf e) rfl
theorem o_notIn {x : Int} {xs : List Int} : Op2 ce E K (rIn K true) (rv K) x xs (.ok (!decide (x ∈ xs))) := fun F1 H1 vx vy e rx ⟨a, vs, h1, h2, h3⟩ Q q => by
  cases rx
  have := paired_int h3
  subst this
  subst h1
  refine ⟨a, _, rfl, .inl (SqL.of (e _ _ h2)), rfl, flat_ints _, ?_⟩
  show Q (V.bl (if true = true then _ else _)) H1
  rw [if_pos rfl, inV_int]
  exact q F1 H1 _ (Gr.rf e) rfl

/-! ### sorted ints -/
def insI (x : Int) : List Int → List Int
  | [] => [x]
  | y :: r => if x ≤ y then x :: y :: r else y :: insI x r
def sortI : List Int → List Int
  | [] => []
  | x :: r => insI x (sortI r)
theorem insI_perm (x : Int) : ∀ xs, (insI x xs).Perm (x :: xs)
  | [] => List.Perm.refl _
  | y :: r => by
    unfold insI
    split
    · exact List.Perm.refl _
    · exact (List.Perm.cons y (insI_perm x r)).trans (List.Perm.swap x y r)
theorem sortI_perm : ∀ xs, (sortI xs).Perm xs
  | [] => List.Perm.refl _
  | x :: r => (insI_perm x _).trans (List.Perm.cons x (sortI_perm r))
theorem insI_sorted (x : Int) : ∀ {xs : List Int}, xs.Pairwise (· ≤ ·) → (insI x xs).Pairwise (· ≤ ·)
  | [], _ => List.pairwise_singleton _ _
  | y :: r, h => by
    unfold insI
    have hy := List.pairwise_cons.mp h
    split
    · rename_i c
      refine List.pairwise_cons.mpr ⟨fun z hz => ?_, h⟩
      rcases List.mem_cons.mp hz with rfl | hz
      · exact c
      · exact Int.le_trans c (hy.1 z hz)
    · rename_i c
      refine List.pairwise_cons.mpr ⟨fun z hz => ?_, insI_sorted x hy.2⟩
      rcases List.mem_cons.mp ((insI_perm x r).mem_iff.mp hz) with rfl | hz
      · omega
      · exact hy.1 z hz
theorem sortI_sorted : ∀ xs : List Int, (sortI xs).Pairwise (· ≤ ·)
  | [] => List.Pairwise.nil
  | x :: r => insI_sorted x (sortI_sorted r)
theorem sorted_same : ∀ {xs ys : List Int}, xs.Perm ys → xs.Pairwise (· ≤ ·) → ys.Pairwise (· ≤ ·) → xs = ys
  | [], ys, p, _, _ => (List.Perm.nil_eq p)
  | x :: r, [], p, _, _ => absurd p.length_eq (by simp)
  | x :: r, y :: s, p, h1, h2 => by
    have a1 := List.pairwise_cons.mp h1
    have a2 := List.pairwise_cons.mp h2
    have e : x = y := by
      have m1 : x ∈ y :: s := p.mem_iff.mp List.mem_cons_self
      have m2 : y ∈ x :: r := p.mem_iff.mpr List.mem_cons_self
      rcases List.mem_cons.mp m1 with rfl | m1
      · rfl
      · rcases List.mem_cons.mp m2 with rfl | m2
        · rfl
        · have := a1.1 y m2
          have := a2.1 x m1
          omega
    subst e
    rw [sorted_same (List.Perm.cons_inv p) a1.2 a2.2]
theorem a_sorted {xs : List Int} : OpA ce E (RC K R0) (rSortedI K) (rn K) (xs, ()) (.ok (sortI xs)) := fun F1 H1 vs e ⟨v, r, e1, ⟨a, us, h1, h2, h3⟩, e3⟩ Q q => by
  cases e3
  subst e1 h1
  have := paired_int h3
  subst this
  refine ⟨a, xs, rfl, SqL.of (e _ _ h2), fun ns p hp hs np => ?_⟩
  have : ns = sortI xs := sorted_same (hp.trans (sortI_perm xs).symm) hs (sortI_sorted xs)
  subst this
  exact q F1 _ _ (Gr.own e np) ⟨p, _, rfl, np, ex_back e np, upd_same, rep_int _⟩

/-! ### isinstance, by the types -/
theorem a_isI {n : String} {b : Bool} {x : Int} (hb : PySem.W.kitOne K (.type "int") (.type n) = some b) : OpA ce E (fun F vs (x : Int) => vs = [.int x, .ty n]) (rIsi K) (rv K) x (.ok b) := fun F1 H1 vs e h Q q => by
  subst h
  exact ⟨.int x, .ty n, _, _, b, rfl, .ty n, .base (.int x), hb, q F1 H1 _ (Gr.rf e) rfl⟩
end
end Mw

set_option Elab.async false
set_option linter.all false
set_option maxRecDepth 100000
set_option maxHeartbeats 2000000
/-! Mw, part D: statements, loops, comprehensions, defs. -/
namespace Mw
open PySem L2
open Rep (rp)
/-! ### what is left to be done -/
def Wp {τ : Type} (ce : Ce) (E : XK) (H0 : Hp) (m : M τ) (P : τ → Prop) : Prop :=
  match m with
  | .ok r => P r
  | .er c => ∀ H', Ex H0 H' → E (.ref (ce c.name)) none H'
  | .bad => False
def Fin {ρ : Type} (md : Md ρ) (F0 H0 : Hp) (Q : VK) : ρ → Prop := fun r => ∀ F' H' v, Gr F0 H0 F' H' → md F0 H0 F' H' v r → Q v H'
theorem wp_post {ρ : Type} {ce : Ce} {md : Md ρ} {m : M ρ} {F H : Hp} {Q : VK} {E : XK} (h : Post ce md m F H Q E) : Wp ce E H m (Fin md F H Q) := by
  cases m with
  | ok r => exact h
  | er c => exact h
  | bad => exact h
inductive Ctl (S τ : Type) where
  | nx (s : S)
  | br (s : S)
  | rt (r : τ)
def forM {α S τ : Type} (f : α → S → M (Ctl S τ)) (k : S → M τ) : List α → S → M τ
  | [], s => k s
  | x :: r, s => (f x s).bind fun c => match c with
    | .nx s' => forM f k r s'
    | .br s' => k s'
    | .rt r => .ok r
def whM {S τ : Type} (c : S → M Bool) (f : S → M (Ctl S τ)) (k : S → M τ) : Nat → S → M τ
  | 0, _ => .bad
  | n + 1, s => (c s).bind fun b => if b then (f s).bind fun z => match z with
    | .nx s' => whM c f k n s'
    | .br s' => k s'
    | .rt r => .ok r else k s
theorem forM_nil {α S τ : Type} (f : α → S → M (Ctl S τ)) (k : S → M τ) (s : S) : forM f k [] s = k s := rfl
theorem forM_cons {α S τ : Type} (f : α → S → M (Ctl S τ)) (k : S → M τ) (x : α) (r : List α) (s : S) : forM f k (x :: r) s = (f x s).bind fun c => match c with
    | .nx s' => forM f k r s'
    | .br s' => k s'
    | .rt r => .ok r := rfl
/-! ### comprehensions -/
def M.ne {α : Type} : M α → M α
  | .ok a => .ok a
  | _ => .bad
@[simp] theorem ne_ok {α : Type} (a : α) : (M.ok a).ne = .ok a := (rfl)
def compM {α β : Type} (c : α → M Bool) (e : α → M β) : List α → M (List β)
  | [] => .ok []
  | x :: r => (c x).ne.bind fun b => if b then (e x).ne.bind fun y => (compM c e r).bind fun ys => .ok (y :: ys) else compM c e r
noncomputable def lcM {α β : Type} (c : α → M Bool) (e : α → M β) (xs : List α) : M (List β) := @ite _ (xs.length ≤ 16000000) (Classical.propDecidable _) (compM c e xs) .bad
theorem compM_ok {α β : Type} (c : α → Bool) (e : α → β) : ∀ xs : List α, compM (fun x => .ok (c x)) (fun x => .ok (e x)) xs = .ok ((xs.filter c).map e)
  | [] => rfl
  | x :: r => by
    show (if c x = true then ((compM _ _ r).bind fun ys => M.ok (e x :: ys)) else compM _ _ r) = _
    rw [compM_ok c e r, List.filter_cons]
    split
    · rfl
    · rfl
theorem compM_all {α β : Type} (e : α → β) : ∀ xs : List α, compM (fun _ => .ok true) (fun x => .ok (e x)) xs = .ok (xs.map e)
  | [] => rfl
  | x :: r => by
    show ((compM _ _ r).bind fun ys => M.ok (e x :: ys)) = _
    rw [compM_all e r]
    rfl
theorem compM_congr {α β : Type} {c c' : α → M Bool} {e e' : α → M β} : ∀ {xs : List α}, (∀ x ∈ xs, c x = c' x) → (∀ x ∈ xs, c x = .ok true → e x = e' x) → compM c e xs = compM c' e' xs
  | [], _, _ => rfl
  | x :: r, h1, h2 => by
    have ih := compM_congr (xs := r) (fun y hy => h1 y (List.mem_cons_of_mem _ hy)) (fun y hy => h2 y (List.mem_cons_of_mem _ hy))
    unfold compM
    rw [ih, ← h1 x List.mem_cons_self]
    have h2' := h2 x List.mem_cons_self
    cases q : c x with
    | ok b =>
      cases b with
      | true => rw [h2' q]
      | false => rfl
    | er _ => rfl
    | bad => rfl
/-! ### what is walked -/
def Sq (K : PySem.W.Frag) {α : Type} [Rep α] (F : Hp) (J : It) (xs : List α) : Prop := ∀ i H, Ex F H →
  (∀ x, xs[i]? = some x → J.go i H ∧ ∀ v H', J.yld i H v H' → ∀ F1, Ex F F1 → Ex F1 H → ∃ F2, Gr F1 H F2 H' ∧ rp K F2 v x) ∧ (xs.length ≤ i → J.stop i H)
def EvI (ce : Ce) (E : XK) (K : PySem.W.Frag) {α : Type} [Rep α] (wi : TI) (σ : L2.St) (F H : Hp) (m : M (List α)) : Prop := ∀ F1 H1, Gr F H F1 H1 → ∀ R : It → Hp → Prop,
  Wp ce E H1 m (fun xs => ∀ F2 H2 J, Gr F1 H1 F2 H2 → Sq K F2 J xs → R J H2) → wi σ H1 R
section
variable {ρ α β γ δ S τ : Type} [Rep α] [Rep β] [Rep γ] [Rep δ] {ce : Ce} {E : XK} {K : PySem.W.Frag} {σ : L2.St} {F H F' H' F0 H0 : Hp} {te ta tb tc td : TE} {tt tu : TT} {md : Md ρ} {m : M ρ} {D : Ends} {ts tw : TS} {g : TG} {wi : TI} {P : τ → Prop}
theorem sq_list {a : Addr} {vs : List V} {xs : List α} (h : SqL K F a vs) (p : Paired (rp K F) vs xs) : Sq K F (Itl K a) xs := fun i H e => by
  have hl := Paired.length p
  refine ⟨fun x hx => ?_, fun hi => ⟨vs, ex_l e h, by omega⟩⟩
  obtain ⟨v, hv, rv'⟩ := paired_get p hx
  refine ⟨⟨vs, v, ex_l e h, hv⟩, fun w H' ⟨e1, e2⟩ F1 f1 f2 => ?_⟩
  subst e1
  have : some v = some w := hv.symm.trans (e2 vs (ex_l e h))
  cases this
  exact ⟨F1, Gr.rf f2, Rep.mo f1 rv'⟩
theorem ei_list {m : M (List α)} (h : Ev ce E te σ F H (rv K) m) : EvI ce E K (iList K te) σ F H m := fun F1 H1 g1 R q => by
  refine h F1 H1 g1 _ ?_
  cases m with
  | ok xs =>
    rintro F2 H2 v g2 ⟨a, vs, rfl, h2, h3⟩
    exact ⟨a, rfl, ⟨vs, SqL.of (g2.fh _ _ h2)⟩, q F2 H2 _ g2 (sq_list (SqL.of h2) h3)⟩
  | er c => exact q
  | bad => exact q
theorem ei_scr {x : Scr} (h : Ev ce E te σ F H (rv K) (.ok x)) : EvI ce E K (iList K te) σ F H (.ok x.l) := fun F1 H1 g1 R q => by
  refine h F1 H1 g1 _ ?_
  rintro F2 H2 v g2 ⟨a, rfl, h2⟩
  exact ⟨a, rfl, ⟨_, ex_l g2.fh h2⟩, q F2 H2 _ g2 (sq_list h2 (rep_int _))⟩
/-- range -/
def rng (lo hi : Int) : List Int := (List.range (hi - lo).toNat).map fun (k : Nat) => lo + (k : Int)
theorem rng_len (lo hi : Int) : (rng lo hi).length = (hi - lo).toNat := by unfold rng; rw [List.length_map, List.length_range]
theorem rng_get (lo hi : Int) (i : Nat) (h : i < (hi - lo).toNat) : (rng lo hi)[i]? = some (lo + (i : Int)) := by
  unfold rng
  rw [List.getElem?_map, List.getElem?_range h]
  rfl
theorem sq_rng {lo hi : Int} : Sq K F (Itr lo (hi - lo).toNat) (rng lo hi) := fun i H e => by
  refine ⟨fun x hx => ?_, fun h => ?_⟩
  · have hi' : i < (hi - lo).toNat := by
      have := (List.getElem?_eq_some_iff.mp hx).1
      rw [rng_len] at this
      exact this
    rw [rng_get _ _ _ hi'] at hx
    cases hx
    refine ⟨hi', fun v H' ⟨e1, e2⟩ F1 f1 f2 => ?_⟩
    subst e1 e2
    exact ⟨F1, Gr.rf f2, rfl⟩
  · rw [rng_len] at h
    exact h
noncomputable def rng1M (hi : Int) : M (List Int) := chk (-(2 ^ 62) ≤ hi ∧ hi < 2 ^ 62) (rng 0 hi)
noncomputable def rng2M (lo hi : Int) : M (List Int) := chk (-(2 ^ 62) ≤ lo ∧ lo < 2 ^ 62 ∧ -(2 ^ 62) ≤ hi ∧ hi < 2 ^ 62) (rng lo hi)
theorem ei_rng1 {m : M Int} (h : Ev ce E ta σ F H (rv K) m) : EvI ce E K (iRng1 (tCons ta tNil)) σ F H (m.bind rng1M) := fun F1 H1 g1 R q => by
  refine h F1 H1 g1 _ ?_
  cases m with
  | ok n =>
    intro F2 H2 v g2 r
    cases r
    have q' : Wp ce E H1 (rng1M n) (fun xs => ∀ F2 H2 J, Gr F1 H1 F2 H2 → Sq K F2 J xs → R J H2) := q
    unfold rng1M chk at q'
    by_cases hc : -(2 ^ 62) ≤ n ∧ n < 2 ^ 62
    · rw [if_pos hc] at q'
      refine ⟨n, rfl, hc.1, hc.2, q' F2 H2 _ g2 ?_⟩
      have := sq_rng (K := K) (F := F2) (lo := 0) (hi := n)
      rw [Int.sub_zero] at this
      exact this
    · rw [if_neg hc] at q'
      exact q'.elim
  | er c => exact q
  | bad => exact q
theorem ei_rng2 {m m2 : M Int} (h : Ev ce E ta σ F H (rv K) m) (h2 : Ev ce E tb σ F H (rv K) m2) : EvI ce E K (iRng2 (tCons ta (tCons tb tNil))) σ F H (m.bind fun lo => m2.bind fun hi => rng2M lo hi) := fun F1 H1 g1 R q => by
  refine h F1 H1 g1 _ ?_
  cases m with
  | ok lo =>
    intro F2 H2 v g2 r
    cases r
    refine h2 F2 H2 (g1.tr g2) _ ?_
    cases m2 with
    | ok n =>
      intro F3 H3 v g3 r
      cases r
      have q' : Wp ce E H1 (rng2M lo n) (fun xs => ∀ F2 H2 J, Gr F1 H1 F2 H2 → Sq K F2 J xs → R J H2) := q
      unfold rng2M chk at q'
      by_cases hc : -(2 ^ 62) ≤ lo ∧ lo < 2 ^ 62 ∧ -(2 ^ 62) ≤ n ∧ n < 2 ^ 62
      · rw [if_pos hc] at q'
        exact ⟨lo, n, rfl, hc, q' F3 H3 _ (g2.tr g3) sq_rng⟩
      · rw [if_neg hc] at q'
        exact q'.elim
    | er c => exact fun H' e => q H' (g2.hh.tr e)
    | bad => exact q
  | er c => exact q
  | bad => exact q

/-! ### targets -/
/-- behind the target's store of what x is, from the slots σ0 -/
def Tg (K : PySem.W.Frag) {α : Type} [Rep α] (g : TG) (R : L2.St → Hp → L2.St → α → Prop) : Prop := ∀ σ0 F H v x, Ex F H → rp K F v x → ∀ Q : L2.St → Hp → Prop, (∀ σ2, R σ0 F σ2 x → Q σ2 H) → g v σ0 H Q
def RName (K : PySem.W.Frag) {α : Type} [Rep α] (i : Nat) : L2.St → Hp → L2.St → α → Prop := fun σ0 F σ2 x => ∃ v, σ2 = σ0.set i (some v) ∧ rp K F v x
def RTup2 (K : PySem.W.Frag) {α β : Type} [Rep α] [Rep β] (i j : Nat) : L2.St → Hp → L2.St → α × β → Prop := fun σ0 F σ2 x => ∃ u w, σ2 = (σ0.set i (some u)).set j (some w) ∧ rp K F u x.1 ∧ rp K F w x.2
def RTup3 (K : PySem.W.Frag) {α β γ : Type} [Rep α] [Rep β] [Rep γ] (i j l : Nat) : L2.St → Hp → L2.St → T3 α β γ → Prop := fun σ0 F σ2 x => ∃ u w z, σ2 = ((σ0.set i (some u)).set j (some w)).set l (some z) ∧ rp K F u x.a ∧ rp K F w x.b ∧ rp K F z x.c
theorem tg_name {i : Nat} : Tg K (α := α) (gName i) (RName K i) := fun σ0 F H v x e r Q q => q _ ⟨v, rfl, r⟩
theorem tg_tup2 {i j : Nat} : Tg K (α := α × β) (gTup K 2 (gCons (gName i) (gCons (gName j) gNil))) (RTup2 K i j) := fun σ0 F H v x e ⟨a, u, w, h1, h2, h3, h4⟩ Q q =>
  ⟨a, [u, w], h1, ex_t e h2, rfl, u, [w], rfl, w, [], rfl, rfl, q _ ⟨u, w, rfl, h3, h4⟩⟩
theorem tg_tup3 {i j l : Nat} : Tg K (α := T3 α β γ) (gTup K 3 (gCons (gName i) (gCons (gName j) (gCons (gName l) gNil)))) (RTup3 K i j l) := fun σ0 F H v x e ⟨a, u, w, z, h1, h2, h3, h4, h5⟩ Q q =>
  ⟨a, [u, w, z], h1, ex_t e h2, rfl, u, [w, z], rfl, w, [z], rfl, z, [], rfl, rfl, q _ ⟨u, w, z, rfl, h3, h4, h5⟩⟩
theorem set_set_ne {σ : L2.St} {i j : Nat} {a b : Option V} (h : i ≠ j) : (σ.set i a).set j b = (σ.set j b).set i a := List.set_comm _ _ h
theorem wipe1 {σ : L2.St} {i : Nat} {v : Option V} : wipe ((wipe σ [i]).set i v) [i] = wipe σ [i] := by
  show ((σ.set i none).set i v).set i none = σ.set i none
  rw [List.set_set, List.set_set]
theorem wipe2 {σ : L2.St} {i j : Nat} {v w : Option V} : wipe (((wipe σ [i, j]).set i v).set j w) [i, j] = wipe σ [i, j] := by
  show (((((σ.set j none).set i none).set i v).set j w).set j none).set i none = (σ.set j none).set i none
  apply List.ext_getElem?
  intro n
  simp only [List.getElem?_set, List.length_set]
  by_cases a : i = n
  · subst a; simp
  · by_cases b : j = n
    · subst b; simp [a]
    · simp [a, b]
theorem wipe3 {σ : L2.St} {i j l : Nat} {u v w : Option V} : wipe ((((wipe σ [i, j, l]).set i u).set j v).set l w) [i, j, l] = wipe σ [i, j, l] := by
  show ((((((((σ.set l none).set j none).set i none).set i u).set j v).set l w).set l none).set j none).set i none = ((σ.set l none).set j none).set i none
  apply List.ext_getElem?
  intro n
  simp only [List.getElem?_set, List.length_set]
  by_cases a : i = n
  · subst a; simp
  · by_cases b : j = n
    · subst b; simp [a]
    · by_cases c : l = n
      · subst c; simp [a, b]
      · simp [a, b, c]
/-- [e for x in xs if c] -/
theorem em_lc {vs : List Nat} {m : M (List α)} {c : α → M Bool} {e : α → M β} {R : L2.St → Hp → L2.St → α → Prop} (hi : EvI ce E K wi σ F H m) (hg : Tg K g R)
    (hw : ∀ F σ2 (x : α), R (wipe σ vs) F σ2 x → wipe σ2 vs = wipe σ vs)
    (hc : ∀ x F1 H1 σ2, Gr F H F1 H1 → R (wipe σ vs) F1 σ2 x → EvT ce E0 tt σ2 F1 H1 (c x)) (he : ∀ x F1 H1 σ2, Gr F H F1 H1 → R (wipe σ vs) F1 σ2 x → Ev ce E0 te σ2 F1 H1 (rv K) (e x)) :
    Ev ce E (tLc wi g tt te vs) σ F H (rn K) (m.bind fun xs => lcM c e xs) := fun F1 H1 g1 Q q => by
  refine hi F1 H1 g1 _ ?_
  cases m with
  | er c => exact q
  | bad => exact q
  | ok xs =>
    intro F2 H2 J g2 sq Dl nd
    have q' : Post ce (rn K) (lcM c e xs) F1 H1 Q E := q
    unfold lcM at q'
    have hlen : xs.length ≤ 16000000 := by
      by_cases hlen : xs.length ≤ 16000000
      · exact hlen
      · rw [if_neg hlen] at q'
        exact q'.elim
    rw [if_pos hlen] at q'
    have nf : F2 Dl = none := ex_back g2.fh nd
    have gD : Gr F2 H2 F2 (upd H2 Dl (.lst [])) := Gr.own g2.fh nd
    -- the word: done so far, and what is left
    refine ⟨fun i m H' => m = xs.length - i ∧ i ≤ xs.length ∧ ∃ F' acc ys, Gr F2 H2 F' H' ∧ F' Dl = none ∧ H' Dl = some (.lst acc) ∧ acc.length ≤ i ∧ Paired (rp K F') acc ys ∧
      Post ce (rn K) ((compM c e (xs.drop i)).bind fun zs => .ok (ys ++ zs)) F1 H1 Q E, ⟨xs.length, by omega, Nat.zero_le _, F2, [], [], gD, nf, upd_same, Nat.zero_le _, .nil, ?_⟩, ?_⟩
    · rw [List.drop_zero]
      have : (compM c e xs).bind (fun zs => M.ok ([] ++ zs)) = compM c e xs := by
        cases compM c e xs <;> rfl
      rw [this]
      exact q'
    · rintro i mm H3 ⟨rfl, hi3, F3, acc, ys, g3, nf3, h3, hl3, p3, q3⟩
      have e3 : Ex F2 H3 := g3.ff.tr g3.fh
      by_cases hlt : i < xs.length
      · obtain ⟨x, hx⟩ : ∃ x, xs[i]? = some x := ⟨xs[i], List.getElem?_eq_getElem hlt⟩
        obtain ⟨go, yl⟩ := (sq i H3 e3).1 x hx
        have hd : xs.drop i = x :: xs.drop (i + 1) := by
          rw [List.drop_eq_getElem_cons hlt]
          rw [List.getElem?_eq_getElem hlt] at hx
          cases hx
          rfl
        rw [hd] at q3
        refine .inr ⟨go, fun H' => ∃ F' acc ys, Gr F2 H2 F' H' ∧ F' Dl = none ∧ H' Dl = some (.lst acc) ∧ acc.length ≤ i + 1 ∧ Paired (rp K F') acc ys ∧
          Post ce (rn K) ((compM c e (xs.drop (i + 1))).bind fun zs => .ok (ys ++ zs)) F1 H1 Q E, fun H' h' => ⟨xs.length - (i + 1), by omega, rfl, hlt, h'⟩, fun v H4 hy => ?_⟩
        obtain ⟨F4, g4, r4⟩ := yl v H4 hy F3 g3.ff g3.fh
        have g24 := g3.tr g4
        have gF : Gr F H F4 H4 := (g1.tr g2).tr g24
        refine hg _ F4 H4 v x g4.fh r4 _ fun σ2 hr => ⟨hw F4 σ2 x hr, ?_⟩
        -- the test
        have nf4 : F4 Dl = none := g4.nw Dl nf3 (by rw [h3]; exact fun z => nomatch z)
        have h4 : H4 Dl = some (.lst acc) := g4.hh _ _ h3
        refine hc x F4 H4 σ2 gF hr F4 H4 (Gr.rf g4.fh) _ ?_
        cases qc : c x with
        | er cc => exact (by
            have q3' := q3
            unfold compM at q3'
            rw [qc] at q3'
            exact q3'.elim)
        | bad => exact (by
            have q3' := q3
            unfold compM at q3'
            rw [qc] at q3'
            exact q3'.elim)
        | ok b =>
          intro F5 H5 g5
          have nf5 : F5 Dl = none := g5.nw Dl nf4 (by rw [h4]; exact fun z => nomatch z)
          have h5 : H5 Dl = some (.lst acc) := g5.hh _ _ h4
          cases b with
          | false =>
            show ∃ F' acc ys, _
            refine ⟨F5, acc, ys, g24.tr g5, nf5, h5, by omega, paired_mo (g4.ff.tr g5.ff) p3, ?_⟩
            have q3' := q3
            unfold compM at q3'
            rw [qc] at q3'
            exact q3'
          | true =>
            show te σ2 H5 _
            refine he x F4 H4 σ2 gF hr F5 H5 g5 _ ?_
            cases qe : e x with
            | er cc => exact (by
                have q3' := q3
                unfold compM at q3'
                rw [qc, qe] at q3'
                exact q3'.elim)
            | bad => exact (by
                have q3' := q3
                unfold compM at q3'
                rw [qc, qe] at q3'
                exact q3'.elim)
            | ok y =>
              intro F6 H6 v6 g6 r6
              have nf6 : F6 Dl = none := g6.nw Dl nf5 (by rw [h5]; exact fun z => nomatch z)
              have h6 : H6 Dl = some (.lst acc) := g6.hh _ _ h5
              refine ⟨acc, h6, ?_, F6, acc ++ [v6], ys ++ [y], Gr.mut ((g24.tr g5).tr g6) nd nf6, nf6, upd_same, ?_, paired_app (paired_mo ((g4.ff.tr g5.ff).tr g6.ff) p3) (.cons r6 .nil), ?_⟩
              · rw [sizeLine_eq]; omega
              · rw [List.length_append]
                show acc.length + 1 ≤ i + 1
                omega
              · have q3' := q3
                unfold compM at q3'
                rw [qc, qe] at q3'
                have ea : ((compM c e (xs.drop (i + 1))).bind fun zs => M.ok ((ys ++ [y]) ++ zs)) = (((compM c e (xs.drop (i + 1))).bind fun ys' => M.ok (y :: ys')).bind fun zs => M.ok (ys ++ zs)) := by
                  cases compM c e (xs.drop (i + 1)) with
                  | ok zs => show M.ok _ = M.ok _; rw [List.append_assoc]; rfl
                  | er _ => rfl
                  | bad => rfl
                rw [ea]
                exact q3'
      · have ei : i = xs.length := by omega
        refine .inl ⟨(sq i H3 e3).2 (by omega), ?_⟩
        rw [ei, List.drop_length] at q3
        have q3' : Post ce (rn K) (.ok (ys ++ [])) F1 H1 Q E := q3
        rw [List.append_nil] at q3'
        exact q3' F3 H3 _ (g2.tr g3) ⟨Dl, acc, rfl, ex_back g2.hh nd, nf3, h3, p3⟩
end
end Mw

set_option Elab.async false
set_option linter.all false
set_option maxRecDepth 100000
set_option maxHeartbeats 2000000
/-! Mw, part E: statements. -/
namespace Mw
open PySem L2
open Rep (rp)
/-! ### one's own lists lent out, and taken back -/
def fz (F H : Hp) (A : List Addr) : Hp := fun b => if b ∈ A then H b else F b
def th (F : Hp) (A : List Addr) : Hp := fun b => if b ∈ A then none else F b
theorem fz_ex {F H : Hp} {A : List Addr} (h : Ex F H) : Ex F (fz F H A) := fun a o e => by
  unfold fz
  split
  · exact h a o e
  · exact e
theorem fz_h {F H : Hp} {A : List Addr} (h : Ex F H) : Ex (fz F H A) H := fun a o e => by
  unfold fz at e
  split at e
  · exact e
  · exact h a o e
theorem fz_at {F H : Hp} {A : List Addr} {p : Addr} {o : HO} (m : p ∈ A) (h : H p = some o) : fz F H A p = some o := by
  unfold fz
  rw [if_pos m]
  exact h
theorem th_at {F : Hp} {A : List Addr} {p : Addr} (m : p ∈ A) : th F A p = none := by
  unfold th
  rw [if_pos m]
/-- the run went on from what was lent; now it is one's own again -/
theorem gr_th {F H F1 H1 : Hp} {A : List Addr} (hF : ∀ p ∈ A, F p = none) (hA : ∀ p ∈ A, H p ≠ none) (e : Ex F H) (g : Gr (fz F H A) H F1 H1) : Gr F H (th F1 A) H1 where
  ff := fun a o h => by
    have : a ∉ A := fun m => by rw [hF a m] at h; cases h
    unfold th
    rw [if_neg this]
    exact g.ff a o (fz_ex e a o h)
  fh := fun a o h => by
    unfold th at h
    split at h
    · cases h
    · exact g.fh a o h
  hh := g.hh
  nw := fun b h1 h2 => by
    unfold th
    split
    · rfl
    · rename_i hb
      refine g.nw b ?_ h2
      unfold fz
      rw [if_neg hb]
      exact h1
theorem th_tup0 {F : Hp} {A : List Addr} (h : ∀ p ∈ A, ∀ xs, ¬ Rd F p (.tup xs)) {a : Addr} {xs : List V} (r : Rd F a (.tup xs)) : th F A a = F a := by
  unfold th
  rw [if_neg fun m => h a m xs r]
theorem th_tup {F : Hp} {A : List Addr} (h : ∀ p ∈ A, ∀ xs, ¬ Rd F p (.tup xs)) : TupEx F (th F A) := fun a xs => ⟨fun r => by
  rcases r with z | ⟨o, z⟩
  · exact .inl ((th_tup0 h (.inl z)).trans z)
  · exact .inr ⟨o, (th_tup0 h (.inr ⟨o, z⟩)).trans z⟩, fun z => (th_tup0 h (.inl z)).trans z⟩
/-- no tuple -/
def NoTup (o : HO) : Prop := (∀ xs, o ≠ .tup xs) ∧ ∀ u xs, o ≠ .frz u (.tup xs)
/-- data that stand for one object -/
class Obj (T : Type) [Rep T] where
  ho : PySem.W.Frag → Hp → HO → T → Prop
  mo : ∀ {K : PySem.W.Frag} {H H' : Hp} {o : HO} {x : T}, Ex H H' → ho K H o x → ho K H' o x
  rep : ∀ {K : PySem.W.Frag} {H : Hp} {p : Addr} {o : HO} {x : T}, H p = some o → ho K H o x → rp K H (.ref p) x
  nt : ∀ {K : PySem.W.Frag} {H : Hp} {o : HO} {x : T}, ho K H o x → NoTup o
instance {α : Type} [Rep α] : Obj (List α) where
  ho := fun K H o x => ∃ vs, o = .lst vs ∧ Paired (rp K H) vs x
  mo := fun e ⟨vs, h1, h2⟩ => ⟨vs, h1, paired_mo e h2⟩
  rep := fun {K H p o x} e ⟨vs, h1, h2⟩ => by subst h1; exact ⟨p, vs, rfl, e, h2⟩
  nt := fun {K H o x} ⟨vs, h1, _⟩ => by subst h1; exact ⟨(fun _ z => nomatch z), (fun _ _ z => nomatch z)⟩
/-- p is one's own, an object that stands for x -/
structure Own (K : PySem.W.Frag) {T : Type} [Rep T] [Obj T] (F H : Hp) (p : Addr) (x : T) : Prop where
  h : ∃ o, H p = some o ∧ Obj.ho K F o x
  f : F p = none
theorem th_of {F H F1 H1 : Hp} {A : List Addr} (hA : ∀ p ∈ A, ∃ o, H p = some o ∧ NoTup o) (g : Gr (fz F H A) H F1 H1) : TupEx F1 (th F1 A) := th_tup fun p m xs r' => by
  obtain ⟨o, e, n1, n2⟩ := hA p m
  have e1 : F1 p = some o := g.ff _ _ (fz_at m e)
  rcases r' with r' | ⟨u, r'⟩
  · rw [e1] at r'
    exact n1 xs (Option.some.inj r')
  · rw [e1] at r'
    exact n2 u xs (Option.some.inj r')
section
variable {ρ α β γ δ S τ : Type} [Rep α] [Rep β] [Rep γ] [Rep δ] {ce : Ce} {E : XK} {K : PySem.W.Frag} {σ : L2.St} {F H F' H' F0 H0 : Hp} {te ta tb tc td : TE} {tt tu : TT} {md : Md ρ} {m : M ρ} {D : Ends} {ts tw : TS} {g : TG} {wi : TI} {P : τ → Prop}
variable {T : Type} [Rep T] [Obj T]
theorem Own.mo {p : Addr} {x : T} (o : Own K F H p x) (g : Gr F H F' H') : Own K F' H' p x := by
  obtain ⟨⟨u, h1, h2⟩, h3⟩ := o
  exact ⟨⟨u, g.hh _ _ h1, Obj.mo g.ff h2⟩, g.nw p h3 (by rw [h1]; exact fun z => nomatch z)⟩
theorem Own.ne {p : Addr} {x : T} (o : Own K F H p x) : H p ≠ none := by
  obtain ⟨⟨u, h1, h2⟩, h3⟩ := o
  rw [h1]; exact fun z => nomatch z
theorem Own.upd {p q : Addr} {x : T} {u : HO} (o : Own K F H p x) (h : p ≠ q) : Own K F (upd H q u) p x := by
  obtain ⟨⟨w, h1, h2⟩, h3⟩ := o
  exact ⟨⟨w, by rw [upd_ne h]; exact h1, h2⟩, h3⟩
theorem Own.lent {p : Addr} {x : T} {A : List Addr} (o : Own K F H p x) (e : Ex F H) (m : p ∈ A) : rp K (fz F H A) (.ref p) x := by
  obtain ⟨⟨u, h1, h2⟩, h3⟩ := o
  exact Obj.rep (fz_at m h1) (Obj.mo (fz_ex e) h2)
theorem own_new {p : Addr} {vs : List V} {xs : List α} (h1 : F p = none) (h2 : H p = some (.lst vs)) (h3 : Paired (rp K F) vs xs) : Own K F H p xs := ⟨⟨_, h2, vs, rfl, h3⟩, h1⟩
theorem Own.lst {p : Addr} {xs : List α} (o : Own K F H p xs) : ∃ vs, H p = some (.lst vs) ∧ Paired (rp K F) vs xs := by
  obtain ⟨⟨u, h1, vs, h2, h3⟩, _⟩ := o
  subst h2
  exact ⟨vs, h1, h3⟩

/-! ### statements -/
theorem s_seq {t1 t2 : TS} (h : t1 { D with nx := t2 D } σ H) : tSeq t1 t2 D σ H := h
theorem Ev.go {m1 : M α} {k : α → M τ} {Q' : VK} (h : Ev ce E ta σ F H (rv K) m1) (G : Gr F0 H0 F H) (q : Wp ce E H0 (m1.bind k) P)
    (c : ∀ x F1 H1 v, Gr F H F1 H1 → rp K F1 v x → Wp ce E H0 (k x) P → Q' v H1) : ta σ H Q' := by
  refine h F H (Gr.rf G.fh) Q' ?_
  cases m1 with
  | ok x => exact fun F1 H1 v g r => c x F1 H1 v g r q
  | er cc => exact fun H' e => q H' (G.hh.tr e)
  | bad => exact q
theorem Ev.goN {m1 : M (List α)} {k : List α → M τ} {Q' : VK} (h : Ev ce E ta σ F H (rn K) m1) (G : Gr F0 H0 F H) (q : Wp ce E H0 (m1.bind k) P)
    (c : ∀ x F1 H1 p, Gr F H F1 H1 → H p = none → Own K F1 H1 p x → Wp ce E H0 (k x) P → Q' (.ref p) H1) : ta σ H Q' := by
  refine h F H (Gr.rf G.fh) Q' ?_
  cases m1 with
  | ok x =>
    rintro F1 H1 v g ⟨p, vs, rfl, h1, h2, h3, h4⟩
    exact c x F1 H1 p g h1 (own_new h2 h3 h4) q
  | er cc => exact fun H' e => q H' (G.hh.tr e)
  | bad => exact q
theorem EvT.go {m1 : M Bool} {k : Bool → M τ} {Q' : Bool → Hp → Prop} (h : EvT ce E tt σ F H m1) (G : Gr F0 H0 F H) (q : Wp ce E H0 (m1.bind k) P)
    (c : ∀ x F1 H1, Gr F H F1 H1 → Wp ce E H0 (k x) P → Q' x H1) : tt σ H Q' := by
  refine h F H (Gr.rf G.fh) Q' ?_
  cases m1 with
  | ok x => exact fun F1 H1 g => c x F1 H1 g q
  | er cc => exact fun H' e => q H' (G.hh.tr e)
  | bad => exact q
/-- x = e -/
theorem s_asg {i : Nat} {m1 : M α} {k : α → M τ} (G : Gr F0 H0 F H) (q : Wp ce E H0 (m1.bind k) P) (h : Ev ce E te σ F H (rv K) m1)
    (c : ∀ x F1 H1 v, Gr F H F1 H1 → rp K F1 v x → Wp ce E H0 (k x) P → D.nx (σ.set i (some v)) H1) : tAsg te (gName i) D σ H := h.go G q fun x F1 H1 v g r w => c x F1 H1 v g r w
/-- x = a new list of one's own -/
theorem s_asgN {i : Nat} {m1 : M (List α)} {k : List α → M τ} (G : Gr F0 H0 F H) (q : Wp ce E H0 (m1.bind k) P) (h : Ev ce E te σ F H (rn K) m1)
    (c : ∀ x F1 H1 p, Gr F H F1 H1 → H p = none → Own K F1 H1 p x → Wp ce E H0 (k x) P → D.nx (σ.set i (some (.ref p))) H1) : tAsg te (gName i) D σ H := h.goN G q fun x F1 H1 p g n o w => c x F1 H1 p g n o w
/-- x = e, where e reads lists of one's own -/
theorem s_asgA (A : List Addr) {i : Nat} {m1 : M α} {k : α → M τ} [Flat α] (G : Gr F0 H0 F H) (q : Wp ce E H0 (m1.bind k) P) (hF : ∀ p ∈ A, F p = none) (hA : ∀ p ∈ A, ∃ o, H p = some o ∧ NoTup o) (h0 : ∀ p ∈ A, H0 p = none)
    (h : Ev ce E te σ (fz F H A) H (rv K) m1) (c : ∀ x F1 H1 v, Gr F H F1 H1 → rp K F1 v x → Wp ce E H0 (k x) P → D.nx (σ.set i (some v)) H1) : tAsg te (gName i) D σ H := by
  refine h _ H (Gr.rf (fz_h G.fh)) _ ?_
  have hA' : ∀ p ∈ A, H p ≠ none := fun p m => by obtain ⟨o, e, _⟩ := hA p m; rw [e]; exact fun z => nomatch z
  cases m1 with
  | ok x =>
    intro F1 H1 v g r
    exact c x (th F1 A) H1 v (gr_th hF hA' G.fh g) (Flat.fl (th_of hA g) r) q
  | er cc => exact fun H' e => q H' (G.hh.tr e)
  | bad => exact q
/-- if, where the test reads lists of one's own -/
theorem s_ifA (A : List Addr) {m1 : M Bool} {k : Bool → M τ} (G : Gr F0 H0 F H) (q : Wp ce E H0 (m1.bind k) P) (hF : ∀ p ∈ A, F p = none) (hA : ∀ p ∈ A, ∃ o, H p = some o ∧ NoTup o)
    (h : EvT ce E tt σ (fz F H A) H m1) (h1 : ∀ F1 H1, Gr F H F1 H1 → Wp ce E H0 (k true) P → ts D σ H1) (h2 : ∀ F1 H1, Gr F H F1 H1 → Wp ce E H0 (k false) P → tw D σ H1) : tIfS tt ts tw D σ H := by
  refine h _ H (Gr.rf (fz_h G.fh)) _ ?_
  have hA' : ∀ p ∈ A, H p ≠ none := fun p m => by obtain ⟨o, e, _⟩ := hA p m; rw [e]; exact fun z => nomatch z
  cases m1 with
  | ok b =>
    intro F1 H1 g
    cases b with
    | true => exact h1 _ H1 (gr_th hF hA' G.fh g) q
    | false => exact h2 _ H1 (gr_th hF hA' G.fh g) q
  | er cc => exact fun H' e => q H' (G.hh.tr e)
  | bad => exact q
theorem s_if {m1 : M Bool} {k : Bool → M τ} (G : Gr F0 H0 F H) (q : Wp ce E H0 (m1.bind k) P) (h : EvT ce E tt σ F H m1)
    (h1 : ∀ F1 H1, Gr F H F1 H1 → Wp ce E H0 (k true) P → ts D σ H1) (h2 : ∀ F1 H1, Gr F H F1 H1 → Wp ce E H0 (k false) P → tw D σ H1) : tIfS tt ts tw D σ H :=
  h.go G q fun b F1 H1 g w => by
    cases b with
    | true => exact h1 F1 H1 g w
    | false => exact h2 F1 H1 g w
/-- what follows is shown once -/
theorem s_cut {t : TS} (I : L2.St → Hp → Prop) (h1 : ∀ σ1 H1, I σ1 H1 → D.nx σ1 H1) (h2 : (∀ σ1 H1, I σ1 H1 → D.nx σ1 H1) → t D σ H) : t D σ H := h2 h1
/-- return e -/
theorem s_ret {m1 : M ρ} {k : ρ → M τ} [Rep ρ] (G : Gr F0 H0 F H) (q : Wp ce E H0 (m1.bind k) P) (h : Ev ce E te σ F H (rv K) m1)
    (hD : ∀ r F1 H1 v, Gr F0 H0 F1 H1 → rp K F1 v r → Wp ce E H0 (k r) P → D.rt v H1) : tRet te D σ H := h.go G q fun x F1 H1 v g r w => hD x F1 H1 v (G.tr g) r w
theorem s_retN {m1 : M (List α)} {k : List α → M τ} (G : Gr F0 H0 F H) (q : Wp ce E H0 (m1.bind k) P) (h : Ev ce E te σ F H (rn K) m1)
    (hD : ∀ r F1 H1 v, Gr F0 H0 F1 H1 → rn K F0 H0 F1 H1 v r → Wp ce E H0 (k r) P → D.rt v H1) : tRet te D σ H := h.goN G q fun x F1 H1 p g n o w => by
  obtain ⟨vs, h1, h2⟩ := o.lst
  exact hD x F1 H1 _ (G.tr g) ⟨p, vs, rfl, ex_back G.hh n, o.f, h1, h2⟩ w
theorem s_ret0 {m1 : M τ} [Rep τ] (G : Gr F0 H0 F H) (q : Wp ce E H0 m1 P) (h : Ev ce E te σ F H (rv K) m1) (hD : ∀ r F1 H1 v, Gr F0 H0 F1 H1 → rp K F1 v r → P r → D.rt v H1) : tRet te D σ H := by
  refine h F H (Gr.rf G.fh) _ ?_
  cases m1 with
  | ok x => exact fun F1 H1 v g r => hD x F1 H1 v (G.tr g) r q
  | er cc => exact fun H' e => q H' (G.hh.tr e)
  | bad => exact q
theorem s_retN0 {m1 : M (List α)} {P : List α → Prop} (G : Gr F0 H0 F H) (q : Wp ce E H0 m1 P) (h : Ev ce E te σ F H (rn K) m1) (hD : ∀ r F1 H1 v, Gr F0 H0 F1 H1 → rn K F0 H0 F1 H1 v r → P r → D.rt v H1) : tRet te D σ H := by
  refine h F H (Gr.rf G.fh) _ ?_
  cases m1 with
  | ok x =>
    intro F1 H1 v g r
    exact hD x F1 H1 v (G.tr g) (MdMo.mo G r) q
  | er cc => exact fun H' e => q H' (G.hh.tr e)
  | bad => exact q
/-- the lent heap is reached from the entry, too -/
theorem gr_fz {A : List Addr} (G : Gr F0 H0 F H) (h0 : ∀ p ∈ A, H0 p = none) : Gr F0 H0 (fz F H A) H :=
  ⟨G.ff.tr (fz_ex G.fh), fz_h G.fh, G.hh, fun b h1 h2 => by
    unfold fz
    split
    · rename_i hm
      exact absurd (h0 b hm) h2
    · exact G.nw b h1 h2⟩
/-- return p, a list of one's own -/
theorem rn_own {p : Addr} {xs : List α} (o : Own K F H p xs) (h0 : H0 p = none) : rn K F0 H0 F H (.ref p) xs := by
  obtain ⟨vs, h1, h2⟩ := o.lst
  exact ⟨p, vs, rfl, h0, o.f, h1, h2⟩
/-- e, alone -/
theorem s_drop {m1 : M α} {k : α → M τ} (G : Gr F0 H0 F H) (q : Wp ce E H0 (m1.bind k) P) (h : Ev ce E te σ F H (rv K) m1)
    (c : ∀ x F1 H1, Gr F H F1 H1 → Wp ce E H0 (k x) P → D.nx σ H1) : tDrop te D σ H := h.go G q fun x F1 H1 v g r w => c x F1 H1 g w
theorem s_raise {c : Err} {cls : Value} (G : Gr F0 H0 F H) (q : Wp ce E H0 (.er c : M τ) P) (hc : cls = .ref (ce c.name)) : E cls none H := by
  subst hc
  exact q H G.hh
/-! ### one's own lists change -/
noncomputable def appM {α : Type} (xs : List α) (x : α) : M (List α) := chk (xs.length < 16000000) (xs ++ [x])
/-- xs.append(e) -/
theorem s_app {i : Nat} {p : Addr} {xs : List α} {m1 : M α} {k : List α → M τ} (hp : σ[i]? = some (some (.ref p))) (o : Own K F H p xs) (n0 : H0 p = none) (G : Gr F0 H0 F H)
    (q : Wp ce E H0 (m1.bind fun x => (appM xs x).bind k) P) (h : Ev ce E te σ F H (rv K) m1)
    (c : ∀ ys F1 H1, Ex F F1 → Gr F0 H0 F1 H1 → Own K F1 H1 p ys → (∀ (T : Type) [Rep T] [Obj T] (q : Addr) (z : T), q ≠ p → Own K F H q z → Own K F1 H1 q z) → Wp ce E H0 (k ys) P → D.nx σ H1) :
    tDrop (tBM K "list" rAppend (tVar i) (tCons te tNil)) D σ H := by
  obtain ⟨vs, h1, h2⟩ := o.lst
  have h3 := o.f
  refine ⟨.ref p, hp, .inl ⟨rfl, vs, SqL.of h1⟩, h.go G q fun x F1 H1 v g r w => ?_⟩
  have w' : Wp ce E H0 ((appM xs x).bind k) P := w
  unfold appM chk at w'
  split at w'
  · rename_i hl
    refine ⟨p, vs, v, rfl, rfl, g.hh _ _ h1, ?_, ?_⟩
    · rw [Paired.length h2, sizeLine_eq]; omega
    · have hf1 : F1 p = none := g.nw p h3 (by rw [h1]; exact fun z => nomatch z)
      exact c (xs ++ [x]) F1 _ g.ff (Gr.mut (G.tr g) n0 hf1) (own_new hf1 upd_same (paired_app (paired_mo g.ff h2) (.cons r .nil))) (fun T _ _ q z hq o => (o.mo g).upd hq) w'
  · exact w'.elim
/-- xs.append(e), e reads lists of one's own -/
theorem s_appA (A : List Addr) {i : Nat} {p : Addr} {xs : List α} {m1 : M α} {k : List α → M τ} [Flat α] (hp : σ[i]? = some (some (.ref p))) (o : Own K F H p xs) (n0 : H0 p = none) (G : Gr F0 H0 F H)
    (q : Wp ce E H0 (m1.bind fun x => (appM xs x).bind k) P) (hF : ∀ p ∈ A, F p = none) (hA : ∀ p ∈ A, ∃ o, H p = some o ∧ NoTup o) (h : Ev ce E te σ (fz F H A) H (rv K) m1)
    (c : ∀ ys F1 H1, Ex F F1 → Gr F0 H0 F1 H1 → Own K F1 H1 p ys → (∀ (T : Type) [Rep T] [Obj T] (q : Addr) (z : T), q ≠ p → Own K F H q z → Own K F1 H1 q z) → Wp ce E H0 (k ys) P → D.nx σ H1) :
    tDrop (tBM K "list" rAppend (tVar i) (tCons te tNil)) D σ H := by
  obtain ⟨vs, h1, h2⟩ := o.lst
  have h3 := o.f
  refine ⟨.ref p, hp, .inl ⟨rfl, vs, SqL.of h1⟩, ?_⟩
  have hA' : ∀ p ∈ A, H p ≠ none := fun p m => by obtain ⟨o, e, _⟩ := hA p m; rw [e]; exact fun z => nomatch z
  refine h _ H (Gr.rf (fz_h G.fh)) _ ?_
  cases m1 with
  | ok x =>
    intro F1 H1 v g0 r0
    have g := gr_th hF hA' G.fh g0
    have r : rp K (th F1 A) v x := Flat.fl (th_of hA g0) r0
    have w' : Wp ce E H0 ((appM xs x).bind k) P := q
    unfold appM chk at w'
    split at w'
    · rename_i hl
      refine ⟨p, vs, v, rfl, rfl, g.hh _ _ h1, ?_, ?_⟩
      · rw [Paired.length h2, sizeLine_eq]; omega
      · have hf1 : th F1 A p = none := g.nw p h3 (by rw [h1]; exact fun z => nomatch z)
        exact c (xs ++ [x]) _ _ g.ff (Gr.mut (G.tr g) n0 hf1) (own_new hf1 upd_same (paired_app (paired_mo g.ff h2) (.cons r .nil))) (fun T _ _ q z hq o => (o.mo g).upd hq) w'
    · exact w'.elim
  | er cc => exact fun H' e => q H' (G.hh.tr e)
  | bad => exact q
/-! ### loops -/
theorem s_for {f : α → S → M (Ctl S τ)} {k : S → M τ} {s0 : S} {m : M (List α)} {R : L2.St → Hp → L2.St → α → Prop} (I : S → Hp → Hp → L2.St → Prop) (G : Gr F0 H0 F H) (hi : EvI ce E K wi σ F H m) (hg : Tg K g R)
    (q : Wp ce E H0 (m.bind fun xs => forM f k xs s0) P) (h0 : ∀ F1 H1, Gr F H F1 H1 → I s0 F1 H1 σ) (hG : ∀ s F' H' σ', I s F' H' σ' → Gr F0 H0 F' H')
    (turn : ∀ x s F1 H1 σ1, I s F1 H1 σ1 → ∀ F2 H2 σ2, Gr F1 H1 F2 H2 → R σ1 F2 σ2 x → ∀ (D' : Ends) (P' : Ctl S τ → Prop), D'.rt = D.rt →
      (∀ s', P' (.nx s') → ∀ F3 H3 σ3, Ex F2 F3 → I s' F3 H3 σ3 → D'.nx σ3 H3) → (∀ s', P' (.nx s') → ∀ F3 H3 σ3, Ex F2 F3 → I s' F3 H3 σ3 → D'.ct σ3 H3) →
      (∀ s', P' (.br s') → ∀ F3 H3 σ3, Ex F2 F3 → I s' F3 H3 σ3 → D'.bk σ3 H3) → (∀ r, P' (.rt r) → P r) → Wp ce E H0 (f x s) P' → ts D' σ2 H2)
    (after : ∀ s F1 H1 σ1, Ex F F1 → I s F1 H1 σ1 → Wp ce E H0 (k s) P → D.nx σ1 H1) : tFor wi g ts D σ H := by
  refine hi F H (Gr.rf G.fh) _ ?_
  cases m with
  | er c => exact fun H' e => q H' (G.hh.tr e)
  | bad => exact q
  | ok xs =>
    intro F2 H2 J g2 sq
    have q' : Wp ce E H0 (forM f k xs s0) P := q
    refine ⟨fun i m σ' H' => m = xs.length - i ∧ i ≤ xs.length ∧ ∃ s F', Ex F2 F' ∧ I s F' H' σ' ∧ Wp ce E H0 (forM f k (xs.drop i) s) P, ⟨xs.length, by omega, Nat.zero_le _, s0, F2, Ex.rf _, h0 F2 H2 g2, q'⟩, ?_⟩
    rintro i mm σ' H' ⟨rfl, hi', s, F', f2, I', q2⟩
    have G' := hG s F' H' σ' I'
    by_cases hlt : i < xs.length
    · obtain ⟨x, hx⟩ : ∃ x, xs[i]? = some x := ⟨xs[i], List.getElem?_eq_getElem hlt⟩
      have hd : xs.drop i = x :: xs.drop (i + 1) := by
        rw [List.drop_eq_getElem_cons hlt]
        rw [List.getElem?_eq_getElem hlt] at hx
        cases hx
        rfl
      rw [hd, forM_cons] at q2
      obtain ⟨go, yl⟩ := (sq i H' (f2.tr G'.fh)).1 x hx
      refine .inr ⟨go, fun σ' H' => ∃ s F', Ex F2 F' ∧ I s F' H' σ' ∧ Wp ce E H0 (forM f k (xs.drop (i + 1)) s) P, fun σ' H' h => ⟨xs.length - (i + 1), by omega, rfl, hlt, h⟩, fun v H3 hy => ?_⟩
      obtain ⟨F3, g3, r3⟩ := yl v H3 hy F' f2 G'.fh
      refine hg σ' F3 H3 v x g3.fh r3 _ fun σ2 hr => ?_
      refine turn x s F' H' σ' I' F3 H3 σ2 g3 hr _ (fun c => match c with
        | .nx s' => Wp ce E H0 (forM f k (xs.drop (i + 1)) s') P
        | .br s' => Wp ce E H0 (k s') P
        | .rt r => P r) rfl (fun s' p F4 H4 σ4 f4 I4 => ⟨s', F4, (f2.tr g3.ff).tr f4, I4, p⟩) (fun s' p F4 H4 σ4 f4 I4 => ⟨s', F4, (f2.tr g3.ff).tr f4, I4, p⟩)
        (fun s' p F4 H4 σ4 f4 I4 => after s' F4 H4 σ4 (g2.ff.tr ((f2.tr g3.ff).tr f4)) I4 p) (fun r p => p) ?_
      cases qf : f x s with
      | ok c =>
        rw [qf] at q2
        cases c with
        | nx s' => exact q2
        | br s' => exact q2
        | rt r => exact q2
      | er c => rw [qf] at q2; exact q2
      | bad => rw [qf] at q2; exact q2
    · have ei : i = xs.length := by omega
      rw [ei, List.drop_length] at q2
      exact .inl ⟨(sq i H' (f2.tr G'.fh)).2 (by omega), after s F' H' σ' (g2.ff.tr f2) I' q2⟩
theorem s_while {c : S → M Bool} {f : S → M (Ctl S τ)} {k : S → M τ} {s0 : S} {n : Nat} (I : S → Hp → Hp → L2.St → Prop) (h0 : I s0 F H σ) (hG : ∀ s F' H' σ', I s F' H' σ' → Gr F0 H0 F' H')
    (q : Wp ce E H0 (whM c f k n s0) P) (hc : ∀ s F1 H1 σ1, I s F1 H1 σ1 → EvT ce E tt σ1 F1 H1 (c s)) (hI : ∀ s F1 H1 F2 H2 σ1, I s F1 H1 σ1 → Gr F1 H1 F2 H2 → I s F2 H2 σ1)
    (turn : ∀ s F1 H1 σ1, I s F1 H1 σ1 → ∀ (D' : Ends) (P' : Ctl S τ → Prop), D'.rt = D.rt →
      (∀ s', P' (.nx s') → ∀ F3 H3 σ3, I s' F3 H3 σ3 → D'.nx σ3 H3) → (∀ s', P' (.nx s') → ∀ F3 H3 σ3, I s' F3 H3 σ3 → D'.ct σ3 H3) →
      (∀ s', P' (.br s') → ∀ F3 H3 σ3, I s' F3 H3 σ3 → D'.bk σ3 H3) → (∀ r, P' (.rt r) → P r) → Wp ce E H0 (f s) P' → ts D' σ1 H1)
    (after : ∀ s F1 H1 σ1, I s F1 H1 σ1 → Wp ce E H0 (k s) P → D.nx σ1 H1) : tWhile tt ts D σ H := by
  refine ⟨fun m σ' H' => ∃ s F', I s F' H' σ' ∧ Wp ce E H0 (whM c f k m s) P, ⟨n, s0, F, h0, q⟩, ?_⟩
  rintro m σ' H' ⟨s, F', I', q'⟩
  have G' := hG s F' H' σ' I'
  cases m with
  | zero => exact False.elim q'
  | succ m =>
    unfold whM at q'
    refine (hc s F' H' σ' I').go G' q' fun b F1 H1 g w => ?_
    have I1 := hI s F' H' F1 H1 σ' I' g
    cases b with
    | false => exact after s F1 H1 σ' I1 w
    | true =>
      refine ⟨fun σ' H' => ∃ s F', I s F' H' σ' ∧ Wp ce E H0 (whM c f k m s) P, fun σ' H' h => ⟨m, Nat.lt_succ_self m, h⟩, ?_⟩
      refine turn s F1 H1 σ' I1 _ (fun c' => match c' with
        | .nx s' => Wp ce E H0 (whM c f k m s') P
        | .br s' => Wp ce E H0 (k s') P
        | .rt r => P r) rfl (fun s' p F4 H4 σ4 I4 => ⟨s', F4, I4, p⟩) (fun s' p F4 H4 σ4 I4 => ⟨s', F4, I4, p⟩) (fun s' p F4 H4 σ4 I4 => after s' F4 H4 σ4 I4 p) (fun r p => p) ?_
      have w' : Wp ce E H0 ((f s).bind fun z => match z with
        | .nx s' => whM c f k m s'
        | .br s' => k s'
        | .rt r => .ok r) P := w
      cases qf : f s with
      | ok z =>
        rw [qf] at w'
        cases z with
        | nx s' => exact w'
        | br s' => exact w'
        | rt r => exact w'
      | er c => rw [qf] at w'; exact w'
      | bad => rw [qf] at w'; exact w'
end
/-! ### defs -/
def SpF (ce : Ce) {α ρ : Type} (R : Hp → List V → α → Prop) (md : Md ρ) (f : α → M ρ) : Sp := fun vs H Q E => ∃ F x, Ex F H ∧ R F vs x ∧ Post ce md (f x) F H Q E
theorem spa {ce : Ce} {α ρ : Type} {R : Hp → List V → α → Prop} {md : Md ρ} {f : α → M ρ} (x : α) : SpA ce R (SpF ce R md f) md x (f x) := fun F1 H1 vs e r Q E q => ⟨F1, x, e, r, q⟩
end Mw

set_option Elab.async false
set_option linter.all false
set_option maxRecDepth 100000
set_option maxHeartbeats 2000000
/-! Mw, part F: calls of defs that raise nothing, isinstance, what else the printed walks use. -/
namespace Mw
open PySem L2
open Rep (rp)
@[simp] theorem bind_assoc {α β γ : Type} (m : M α) (f : α → M β) (g : β → M γ) : (m.bind f).bind g = m.bind fun x => (f x).bind g := by cases m <;> rfl
theorem wp_bind {τ α : Type} {ce : Ce} {E : XK} {H0 : Hp} {m : M α} {k : α → M τ} {P : τ → Prop} (h : Wp ce E H0 (m.bind k) P) : Wp ce E H0 m (fun x => Wp ce E H0 (k x) P) := by
  cases m with
  | ok x => exact h
  | er c => exact h
  | bad => exact h
/-- a def that raises nothing -/
def SpF0 (ce : Ce) {α ρ : Type} (R : Hp → List V → α → Prop) (md : Md ρ) (f : α → M ρ) : Sp := fun vs H Q _ => ∃ F x, Ex F H ∧ R F vs x ∧ Post ce md (f x) F H Q E0
theorem post_ne {ρ : Type} {ce : Ce} {md : Md ρ} {m : M ρ} {F H : Hp} {Q : VK} {E E' : XK} (h : Post ce md m.ne F H Q E) : Post ce md m F H Q E' := by
  cases m with
  | ok r => exact h
  | er c => exact h.elim
  | bad => exact h
section
variable {ρ α β γ δ W τ : Type} [Rep α] [Rep β] [Rep γ] [Rep δ] {ce : Ce} {E : XK} {K : PySem.W.Frag} {σ : L2.St} {F H F' H' F0 H0 : Hp} {te ta tb tc td : TE} {tt tu : TT} {md : Md ρ} {m : M ρ} {D : Ends} {ts tw : TS} {P : τ → Prop}
theorem e_call0 [MdMo md] {ta : TA} {x : α} {R : Hp → List V → α → Prop} {f : α → M ρ} (ha : EvAM ce E ta σ F H (.ok x) R) : Ev ce E (tCall (SpF0 ce R md f) [] E0 ta) σ F H md (f x).ne := fun F1 H1 g1 Q q =>
  ha F1 H1 g1 _ fun F2 H2 vs g2 r2 => by
    show SpF0 ce R md f (vs ++ []) H2 Q E0
    rw [List.append_nil]
    exact ⟨F2, x, g2.fh, r2, post_ne (Post.mo g2 q)⟩
theorem em_call0 [MdMo md] {ta : TA} {m1 : M α} {R : Hp → List V → α → Prop} {f : α → M ρ} (ha : EvAM ce E ta σ F H m1 R) : Ev ce E (tCall (SpF0 ce R md f) [] E0 ta) σ F H md (m1.bind fun x => (f x).ne) := fun F1 H1 g1 Q q => by
  refine ha F1 H1 g1 _ ?_
  cases m1 with
  | ok x =>
    intro F2 H2 vs g2 r2
    show SpF0 ce R md f (vs ++ []) H2 Q E0
    rw [List.append_nil]
    exact ⟨F2, x, g2.fh, r2, post_ne (Post.mo g2 q)⟩
  | er c => exact q
  | bad => exact q
theorem e_callX [MdMo md] {ta : TA} {x : α} {R : Hp → List V → α → Prop} {f : α → M ρ} (ha : EvAM ce E ta σ F H (.ok x) R) : Ev ce E (tCall (SpF ce R md f) [] E ta) σ F H md (f x) := e_call ha (spa x)
theorem em_callX [MdMo md] {ta : TA} {m1 : M α} {R : Hp → List V → α → Prop} {f : α → M ρ} (ha : EvAM ce E ta σ F H m1 R) : Ev ce E (tCall (SpF ce R md f) [] E ta) σ F H md (m1.bind fun x => f x) := em_call ha fun x => spa x
theorem e_some [NN α] {x : α} (h : Ev ce E te σ F H (rv K) (.ok x)) : Ev ce E te σ F H (rv K) (.ok (some x)) := em_some (m := .ok x) h
theorem e_neg' {x : Int} (ha : Ev ce E ta σ F H (rv K) (.ok x)) : Ev ce E (tUn (rU fun i => .int (-i)) ta) σ F H (rv K) (.ok (-x)) := e_neg ha
theorem em_neg {m1 : M Int} (ha : Ev ce E ta σ F H (rv K) m1) : Ev ce E (tUn (rU fun i => .int (-i)) ta) σ F H (rv K) (m1.bind fun x => .ok (-x)) := em_un ha fun x => o_neg
/-- x < y < z, plain -/
theorem e_chain {r r' : R2} {x : α} {y : β} {z : γ} {b b' : Bool} (ha : Ev ce E ta σ F H (rv K) (.ok x)) (hb : Ev ce E tb σ F H (rv K) (.ok y)) (hc : Ev ce E tc σ F H (rv K) (.ok z))
    (h : Op2 ce E K r (rv K) x y (.ok b)) (h' : Op2 ce E K r' (rv K) y z (.ok b')) : Ev ce E (tChain r r' ta tb tc) σ F H (rv K) (.ok (b && b')) := fun F1 H1 g1 Q q => by
  refine ha F1 H1 g1 _ fun F2 H2 vx g2 rx => hb F2 H2 (g1.tr g2) _ fun F3 H3 vy g3 ry => ?_
  refine h F3 H3 vx vy g3.fh (Rep.mo g3.ff rx) ry _ fun F4 H4 v4 g4 r4 => ⟨b, r4, ?_⟩
  cases b with
  | true => exact hc F4 H4 (((g1.tr g2).tr g3).tr g4) _ fun F5 H5 vz g5 rz => h' F5 H5 vy vz g5.fh (Rep.mo (g4.ff.tr g5.ff) ry) rz Q (Post.mo (m := .ok b') (((g2.tr g3).tr g4).tr g5) q)
  | false => exact q F4 H4 _ ((g2.tr g3).tr g4) rfl
theorem e_if {b : Bool} {x y : ρ} [MdMo md] (h : EvT ce E tt σ F H (.ok b)) (ha : Ev ce E ta σ F H md (.ok x)) (hb : Ev ce E tb σ F H md (.ok y)) : Ev ce E (tIf tt ta tb) σ F H md (.ok (if b then x else y)) := fun F1 H1 g1 Q q => by
  refine h F1 H1 g1 _ fun F2 H2 g2 => ?_
  cases b with
  | true => exact ha F2 H2 (g1.tr g2) _ (Post.mo (m := .ok x) g2 q)
  | false => exact hb F2 H2 (g1.tr g2) _ (Post.mo (m := .ok y) g2 q)
theorem e_tup2 {x : α} {y : β} (ha : Ev ce E ta σ F H (rv K) (.ok x)) (hb : Ev ce E tb σ F H (rv K) (.ok y)) : Ev ce E (tTup (tCons ta (tCons tb tNil))) σ F H (rv K) (.ok (x, y)) := em_tup2 (m1 := .ok x) (m2 := .ok y) ha hb
theorem e_tup3 {x : α} {y : β} {z : γ} (ha : Ev ce E ta σ F H (rv K) (.ok x)) (hb : Ev ce E tb σ F H (rv K) (.ok y)) (hc : Ev ce E tc σ F H (rv K) (.ok z)) : Ev ce E (tTup (tCons ta (tCons tb (tCons tc tNil)))) σ F H (rv K) (.ok (T3.mk x y z)) := em_tup3 (m1 := .ok x) (m2 := .ok y) (m3 := .ok z) ha hb hc
theorem e_lcons {tr : TA} {x : α} {y : List α} (ha : Ev ce E ta σ F H (rv K) (.ok x)) (hr : EvL ce E K tr σ F H (.ok y)) : EvL ce E K (tCons ta tr) σ F H (.ok (x :: y)) := el_cons (m1 := .ok x) (m2 := .ok y) ha hr
theorem e_lst {ta : TA} {x : List α} (ha : EvL ce E K ta σ F H (.ok x)) (hs : x.length ≤ 1000) : Ev ce E (tLst ta) σ F H (rn K) (.ok x) := em_lst ha fun y e => by cases e; exact hs
/-- a written list whose items are reckoned: its length is looked at -/
theorem em_lst' {ta : TA} {m : M (List α)} (ha : EvL ce E K ta σ F H m) : Ev ce E (tLst ta) σ F H (rn K) (m.bind fun x => chk (x.length ≤ 1000) x) := fun F1 H1 g1 Q q => by
  cases m with
  | ok x =>
    have q' : Post ce (rn K) (chk (x.length ≤ 1000) x) F1 H1 Q E := q
    unfold chk at q'
    by_cases hx : x.length ≤ 1000
    · rw [if_pos hx] at q'
      exact em_lst ha (fun y e => by cases e; exact hx) F1 H1 g1 Q q'
    · rw [if_neg hx] at q'
      exact q'.elim
  | er c => exact em_lst ha (fun y e => nomatch e) F1 H1 g1 Q q
  | bad => exact q.elim
theorem em_rev' {x : List α} (ha : Ev ce E ta σ F H (rv K) (.ok x)) : Ev ce E (tRevL K ta) σ F H (rn K) (.ok x.reverse) := em_rev (m1 := .ok x) ha
theorem e_sl {tl th : TO} {x : List α} {lo hi : Option Int} (ha : Ev ce E ta σ F H (rv K) (.ok x)) (hl : EvO ce E tl σ F H (.ok lo)) (hh : EvO ce E th σ F H (.ok hi)) : Ev ce E (tSl (rSlL K) ta tl th) σ F H (rn K) (.ok (cut x lo hi)) := em_sl (m1 := .ok x) (m2 := .ok lo) (m3 := .ok hi) ha hl hh
theorem e_slS {tl th : TO} {x : Scr} {lo hi : Option Int} (ha : Ev ce E ta σ F H (rv K) (.ok x)) (hl : EvO ce E tl σ F H (.ok lo)) (hh : EvO ce E th σ F H (.ok hi)) : Ev ce E (tSl (rSlL K) ta tl th) σ F H (rn K) (.ok (cut x.l lo hi)) := em_slS (m2 := .ok lo) (m3 := .ok hi) ha hl hh
/-! ### isinstance -/
class Ty (α : Type) [Rep α] where
  nm : String
  ty : ∀ {K : PySem.W.Frag} {F H : Hp} {v : V} {x : α}, Ex F H → rp K F v x → TyX K H v (.type nm)
instance : Ty Int := ⟨"int", fun {K F H v x} _ h => by cases h; exact .base (.int x)⟩
instance : Ty Bool := ⟨"bool", fun {K F H v x} _ h => by cases h; exact .base (.bl x)⟩
instance : Ty Str := ⟨"str", fun {K F H v x} _ h => by cases h; exact .base (.str x)⟩
instance : Ty Unit := ⟨"NoneType", fun {K F H v x} _ h => by cases h; exact .base .non⟩
instance : Ty (List α) := ⟨"list", fun {K F H v x} e ⟨a, vs, h1, h2, h3⟩ => by subst h1; exact .base (.lst (e _ _ h2))⟩
theorem tyx_tup {a : Addr} {xs : List V} (e : Ex F H) (h : SqT K F a xs) : TyX K H (.ref a) (.type "tuple") := by
  rcases h with (h | ⟨o, h⟩) | ⟨o, its, n, hk, hc, _⟩
  · exact .base (.tup (e _ _ h))
  · exact .fTuple (e _ _ h)
  · exact .kTuple hk hc
instance : Ty (α × β) := ⟨"tuple", fun {K F H v x} e ⟨a, u, w, h1, h2, _⟩ => by subst h1; exact tyx_tup e h2⟩
instance : Ty (T3 α β γ) := ⟨"tuple", fun {K F H v x} e ⟨a, u, w, z, h1, h2, _⟩ => by subst h1; exact tyx_tup e h2⟩
instance : Ty (T4 α β γ δ) := ⟨"tuple", fun {K F H v x} e ⟨a, u, w, z, y, h1, h2, _⟩ => by subst h1; exact tyx_tup e h2⟩
theorem e_isi [Ty α] {x : α} {n : String} {b : Bool} (ha : Ev ce E ta σ F H (rv K) (.ok x)) (hb : PySem.W.kitOne K (.type (Ty.nm α)) (.type n) = some b) : Ev ce E (tCB (rIsi K) (tCons ta (tCons (tC (.ty n)) tNil))) σ F H (rv K) (.ok b) := fun F1 H1 g1 Q q =>
  ha F1 H1 g1 _ fun F2 H2 v g2 r => ⟨v, .ty n, _, _, b, rfl, .ty n, Ty.ty g2.fh r, hb, q F2 H2 _ g2 rfl⟩
/-- isinstance(x, T) where x may be None -/
theorem e_isiO [Ty α] {x : Option α} {n : String} {b : Bool} (ha : Ev ce E ta σ F H (rv K) (.ok x)) (hn : PySem.W.kitOne K (.type "NoneType") (.type n) = some false) (hb : PySem.W.kitOne K (.type (Ty.nm α)) (.type n) = some b) :
    Ev ce E (tCB (rIsi K) (tCons ta (tCons (tC (.ty n)) tNil))) σ F H (rv K) (.ok (x.isSome && b)) := fun F1 H1 g1 Q q =>
  ha F1 H1 g1 _ fun F2 H2 v g2 r => by
    cases x with
    | none => cases r; exact ⟨_, .ty n, _, _, false, rfl, .ty n, .base .non, hn, q F2 H2 _ g2 rfl⟩
    | some y => exact ⟨v, .ty n, _, _, b, rfl, .ty n, Ty.ty g2.fh r.1, hb, q F2 H2 _ g2 rfl⟩
theorem em_isi [Ty α] {m : M α} {n : String} {b : Bool} (ha : Ev ce E ta σ F H (rv K) m) (hb : PySem.W.kitOne K (.type (Ty.nm α)) (.type n) = some b) : Ev ce E (tCB (rIsi K) (tCons ta (tCons (tC (.ty n)) tNil))) σ F H (rv K) (m.bind fun _ => .ok b) := fun F1 H1 g1 Q q => by
  refine ha F1 H1 g1 _ ?_
  cases m with
  | ok x => exact fun F2 H2 v g2 r => ⟨v, .ty n, _, _, b, rfl, .ty n, Ty.ty g2.fh r, hb, q F2 H2 _ g2 rfl⟩
  | er c => exact q
  | bad => exact q
theorem em_isiO [Ty α] {m : M (Option α)} {n : String} {b : Bool} (ha : Ev ce E ta σ F H (rv K) m) (hn : PySem.W.kitOne K (.type "NoneType") (.type n) = some false) (hb : PySem.W.kitOne K (.type (Ty.nm α)) (.type n) = some b) :
    Ev ce E (tCB (rIsi K) (tCons ta (tCons (tC (.ty n)) tNil))) σ F H (rv K) (m.bind fun x => .ok (x.isSome && b)) := fun F1 H1 g1 Q q => by
  refine ha F1 H1 g1 _ ?_
  cases m with
  | ok x =>
    intro F2 H2 v g2 r
    cases x with
    | none => cases r; exact ⟨_, .ty n, _, _, false, rfl, .ty n, .base .non, hn, q F2 H2 _ g2 rfl⟩
    | some y => exact ⟨v, .ty n, _, _, b, rfl, .ty n, Ty.ty g2.fh r.1, hb, q F2 H2 _ g2 rfl⟩
  | er c => exact q
  | bad => exact q
/-! ### ifs -/
theorem s_if2 {m1 : M Bool} {k1 k2 : M τ} (G : Gr F0 H0 F H) (q : Wp ce E H0 (m1.bind fun b => if b then k1 else k2) P) (h : EvT ce E tt σ F H m1)
    (h1 : ∀ F1 H1, Gr F H F1 H1 → Wp ce E H0 k1 P → ts D σ H1) (h2 : ∀ F1 H1, Gr F H F1 H1 → Wp ce E H0 k2 P → tw D σ H1) : tIfS tt ts tw D σ H := s_if G q h h1 h2
theorem s_if2A (A : List Addr) {m1 : M Bool} {k1 k2 : M τ} (G : Gr F0 H0 F H) (q : Wp ce E H0 (m1.bind fun b => if b then k1 else k2) P) (hF : ∀ p ∈ A, F p = none) (hA : ∀ p ∈ A, ∃ o, H p = some o ∧ NoTup o)
    (h : EvT ce E tt σ (fz F H A) H m1) (h1 : ∀ F1 H1, Gr F H F1 H1 → Wp ce E H0 k1 P → ts D σ H1) (h2 : ∀ F1 H1, Gr F H F1 H1 → Wp ce E H0 k2 P → tw D σ H1) : tIfS tt ts tw D σ H := s_ifA A G q hF hA h h1 h2
theorem s_join {t : TS} {m1 : M W} {k : W → M τ} (J : W → Hp → Hp → L2.St → Prop) (q : Wp ce E H0 (m1.bind k) P)
    (h1 : ∀ w F1 H1 σ1, J w F1 H1 σ1 → Wp ce E H0 (k w) P → D.nx σ1 H1)
    (h2 : ∀ (P' : W → Prop), (∀ w, P' w → ∀ F1 H1 σ1, J w F1 H1 σ1 → D.nx σ1 H1) → Wp ce E H0 m1 P' → t D σ H) : t D σ H :=
  h2 (fun w => Wp ce E H0 (k w) P) (fun w p F1 H1 σ1 j => h1 w F1 H1 σ1 j p) (wp_bind q)
theorem own1 {Pp : Addr → Prop} {p : Addr} (h : Pp p) : ∀ q ∈ [p], Pp q := fun q m => by rw [List.mem_singleton.mp m]; exact h
theorem own2 {Pp : Addr → Prop} {p p' : Addr} (h : Pp p) (h' : Pp p') : ∀ q ∈ [p, p'], Pp q := fun q m => by
  rcases List.mem_cons.mp m with rfl | m
  · exact h
  · rw [List.mem_singleton.mp m]; exact h'
theorem own3 {Pp : Addr → Prop} {p p' p'' : Addr} (h : Pp p) (h' : Pp p') (h'' : Pp p'') : ∀ q ∈ [p, p', p''], Pp q := fun q m => by
  rcases List.mem_cons.mp m with rfl | m
  · exact h
  · exact own2 h' h'' q m
variable {T : Type} [Rep T] [Obj T]
theorem Own.ls {p : Addr} {x : T} (o : Own K F H p x) : ∃ o, H p = some o ∧ NoTup o := let ⟨⟨u, h, h2⟩, _⟩ := o; ⟨u, h, Obj.nt h2⟩
/-- a list of one's own from now on stays as it is -/
theorem own_fix {p : Addr} {x : T} (G : Gr F0 H0 F H) (o : Own K F H p x) (n0 : H0 p = none) : ∃ F', Gr F0 H0 F' H ∧ Ex F F' ∧ rp K F' (.ref p) x ∧ ∀ q, q ≠ p → F' q = F q := by
  obtain ⟨⟨u, h1, h2⟩, h3⟩ := o
  refine ⟨upd F p u, ⟨G.ff.tr (Ex.nw h3), fun a w e => ?_, G.hh, fun b a1 a2 => ?_⟩, Ex.nw h3, Obj.rep upd_same (Obj.mo (Ex.nw h3) h2), fun q hq => upd_ne hq⟩
  · by_cases z : a = p
    · subst z; rw [upd_same] at e; rw [h1]; exact e
    · rw [upd_ne z] at e; exact G.fh a w e
  · have : b ≠ p := fun z => by subst z; exact a2 n0
    rw [upd_ne this]; exact G.nw b a1 a2
/-- x += e -/
theorem s_aug {i : Nat} {v : V} {a : Int} {f : Int → Int → Int} {m1 : M Int} {k : Int → M τ} (hv : σ[i]? = some (some v)) (r : rp K F v a) (G : Gr F0 H0 F H) (q : Wp ce E H0 (m1.bind fun y => k (f a y)) P) (h : Ev ce E te σ F H (rv K) m1)
    (c : ∀ x F1 H1 v, Gr F H F1 H1 → rp K F1 v x → Wp ce E H0 (k x) P → D.nx (σ.set i (some v)) H1) : tAug i te (ipI f) D σ H := by
  cases r
  exact ⟨.int a, hv, h.go G q fun x F1 H1 v g r w => by cases r; exact ⟨a, x, rfl, rfl, c (f a x) F1 H1 _ g rfl w⟩⟩
end
end Mw
namespace Mw
open PySem L2
/-- an error class of one's own over ValueError, as the top has written it -/
structure ErrC (K : PySem.W.Frag) (mg : Str → Option Value) (C : Addr) (nm : Str) : Prop where
  g : mg nm = some (.ref C)
  x : PySem.W.excIn K C [.type "ValueError", .type "Exception", .type "BaseException", .type "object"] "ValueError.__new__" = true
  k : PySem.W.keepIn K (.ref C) = true
  b : PySem.W.subIn K (.ref C) (.type "BaseException") = some true
  t : PySem.W.typeIn K (.ref C) = some (.type "type")
section
variable {ρ α β γ δ W τ : Type} [Rep α] [Rep β] [Rep γ] [Rep δ] {ce : Ce} {E : XK} {K : PySem.W.Frag} {σ : L2.St} {F H F' H' F0 H0 : Hp} {te ta tb tc td : TE} {tt tu : TT} {md : Md ρ} {m : M ρ} {D : Ends} {ts tw : TS} {P : τ → Prop}
theorem t_yes : EvT ce E tYes σ F H (.ok true) := fun F1 H1 g Q q => q F1 H1 (Gr.rf g.fh)
/-- one plain operand's place, of a reckoned thing -/
theorem em_ix {r : R2} {m1 : M α} {y : β} {g : α → γ} (ha : Ev ce E ta σ F H (rv K) m1) (hb : Ev ce E tb σ F H (rv K) (.ok y)) (hr : ∀ x, Op2 ce E K r (rv K) x y (.ok (g x))) : Ev ce E (tOp r ta tb) σ F H (rv K) (m1.bind fun x => .ok (g x)) := fun F1 H1 g1 Q q => by
  refine ha F1 H1 g1 _ ?_
  cases m1 with
  | ok x => exact fun F2 H2 vx g2 rx => hb F2 H2 (g1.tr g2) _ fun F3 H3 vy g3 ry => hr x F3 H3 vx vy g3.fh (Rep.mo g3.ff rx) ry Q (Post.mo (m := .ok (g x)) (g2.tr g3) q)
  | er c => exact q
  | bad => exact q
theorem em_cb1 [MdMo md] {ta : TA} {r : List V → Hp → VK → Prop} {x : α} {R : Hp → List V → α → Prop} {m : M ρ} (ha : EvAM ce E ta σ F H (.ok x) R) (hr : OpA ce E R r md x m) : Ev ce E (tCB r ta) σ F H md m := fun F1 H1 g1 Q q =>
  ha F1 H1 g1 _ fun F2 H2 vs g2 r2 => hr F2 H2 vs g2.fh r2 Q (Post.mo g2 q)
/-- a, b = e -/
theorem s_asgT {g : TG} {R : L2.St → Hp → L2.St → α → Prop} (hg : Tg K g R) {m1 : M α} {k : α → M τ} (G : Gr F0 H0 F H) (q : Wp ce E H0 (m1.bind k) P) (h : Ev ce E te σ F H (rv K) m1)
    (c : ∀ x F1 H1 σ1, Gr F H F1 H1 → R σ F1 σ1 x → Wp ce E H0 (k x) P → D.nx σ1 H1) : tAsg te g D σ H := h.go G q fun x F1 H1 v g r w => hg σ F1 H1 v x g.fh r _ fun σ2 hr => c x F1 H1 σ2 g hr w
/-- x = a new list, where e reads lists of one's own -/
theorem s_asgNA (A : List Addr) {i : Nat} {m1 : M (List α)} {k : List α → M τ} [Flat α] (G : Gr F0 H0 F H) (q : Wp ce E H0 (m1.bind k) P) (hF : ∀ p ∈ A, F p = none) (hA : ∀ p ∈ A, ∃ o, H p = some o ∧ NoTup o) (h0 : ∀ p ∈ A, H0 p = none)
    (h : Ev ce E te σ (fz F H A) H (rn K) m1) (c : ∀ x F1 H1 p, Gr F H F1 H1 → H p = none → Own K F1 H1 p x → Wp ce E H0 (k x) P → D.nx (σ.set i (some (.ref p))) H1) : tAsg te (gName i) D σ H := by
  refine h _ H (Gr.rf (fz_h G.fh)) _ ?_
  have hA' : ∀ p ∈ A, H p ≠ none := fun p m => by obtain ⟨o, e, _⟩ := hA p m; rw [e]; exact fun z => nomatch z
  cases m1 with
  | ok x =>
    rintro F1 H1 v g ⟨p, vs, rfl, h1, h2, h3, h4⟩
    refine c x (th F1 A) H1 p (gr_th hF hA' G.fh g) h1 (own_new ?_ h3 (paired_fl (th_of hA g) h4)) q
    · unfold th
      split
      · rfl
      · exact h2
  | er cc => exact fun H' e => q H' (G.hh.tr e)
  | bad => exact q
theorem Own.other {T : Type} [Rep T] [Obj T] {q : Addr} {x : T} (o : Own K F H q x) (e : Ex F F') (h : F' q = F q) : Own K F' H q x := by
  obtain ⟨⟨u, h1, h2⟩, h3⟩ := o
  exact ⟨⟨u, h1, Obj.mo e h2⟩, by rw [h]; exact h3⟩
end
end Mw
/-! ### the same with a rest -/
namespace Mw
open PySem L2
open Rep (rp)
section
variable {ρ α β γ δ S W τ : Type} [Rep α] [Rep β] [Rep γ] [Rep δ] {ce : Ce} {E : XK} {K : PySem.W.Frag} {σ : L2.St} {F H F' H' F0 H0 : Hp} {te ta tb tc td : TE} {tt tu : TT} {md : Md ρ} {m : M ρ} {D : Ends} {ts tw : TS} {g : TG} {wi : TI} {P : τ → Prop}
theorem s_next (h : D.nx σ H) : tNext D σ H := h
theorem s_nx {X : L2.St → Hp → Prop} {R : VK} {B C : L2.St → Hp → Prop} (h : X σ H) : (Ends.mk X R B C).nx σ H := h
theorem q_asg {t2 : TS} {i : Nat} {m1 : M α} {k : α → M τ} (G : Gr F0 H0 F H) (q : Wp ce E H0 (m1.bind k) P) (h : Ev ce E te σ F H (rv K) m1)
    (c : ∀ x F1 H1 v, Gr F H F1 H1 → rp K F1 v x → Wp ce E H0 (k x) P → t2 D (σ.set i (some v)) H1) : tSeq (tAsg te (gName i)) t2 D σ H := s_asg (D := { D with nx := t2 D }) G q h c
theorem q_asgN {t2 : TS} {i : Nat} {m1 : M (List α)} {k : List α → M τ} (G : Gr F0 H0 F H) (q : Wp ce E H0 (m1.bind k) P) (h : Ev ce E te σ F H (rn K) m1)
    (c : ∀ x F1 H1 p, Gr F H F1 H1 → H p = none → Own K F1 H1 p x → Wp ce E H0 (k x) P → t2 D (σ.set i (some (.ref p))) H1) : tSeq (tAsg te (gName i)) t2 D σ H := s_asgN (D := { D with nx := t2 D }) G q h c
theorem q_asgA {t2 : TS} (A : List Addr) {i : Nat} {m1 : M α} {k : α → M τ} [Flat α] (G : Gr F0 H0 F H) (q : Wp ce E H0 (m1.bind k) P) (hF : ∀ p ∈ A, F p = none) (hA : ∀ p ∈ A, ∃ o, H p = some o ∧ NoTup o) (h0 : ∀ p ∈ A, H0 p = none)
    (h : Ev ce E te σ (fz F H A) H (rv K) m1) (c : ∀ x F1 H1 v, Gr F H F1 H1 → rp K F1 v x → Wp ce E H0 (k x) P → t2 D (σ.set i (some v)) H1) : tSeq (tAsg te (gName i)) t2 D σ H := s_asgA (D := { D with nx := t2 D }) A G q hF hA h0 h c
theorem q_drop {t2 : TS} {m1 : M α} {k : α → M τ} (G : Gr F0 H0 F H) (q : Wp ce E H0 (m1.bind k) P) (h : Ev ce E te σ F H (rv K) m1)
    (c : ∀ x F1 H1, Gr F H F1 H1 → Wp ce E H0 (k x) P → t2 D σ H1) : tSeq (tDrop te) t2 D σ H := s_drop (D := { D with nx := t2 D }) G q h c
theorem q_app {t2 : TS} {i : Nat} {p : Addr} {xs : List α} {m1 : M α} {k : List α → M τ} (hp : σ[i]? = some (some (.ref p))) (o : Own K F H p xs) (n0 : H0 p = none) (G : Gr F0 H0 F H)
    (q : Wp ce E H0 (m1.bind fun x => (appM xs x).bind k) P) (h : Ev ce E te σ F H (rv K) m1)
    (c : ∀ ys F1 H1, Ex F F1 → Gr F0 H0 F1 H1 → Own K F1 H1 p ys → (∀ (T : Type) [Rep T] [Obj T] (q : Addr) (z : T), q ≠ p → Own K F H q z → Own K F1 H1 q z) → Wp ce E H0 (k ys) P → t2 D σ H1) : tSeq (tDrop (tBM K "list" rAppend (tVar i) (tCons te tNil))) t2 D σ H := s_app (D := { D with nx := t2 D }) hp o n0 G q h c
theorem q_appA {t2 : TS} (A : List Addr) {i : Nat} {p : Addr} {xs : List α} {m1 : M α} {k : List α → M τ} [Flat α] (hp : σ[i]? = some (some (.ref p))) (o : Own K F H p xs) (n0 : H0 p = none) (G : Gr F0 H0 F H)
    (q : Wp ce E H0 (m1.bind fun x => (appM xs x).bind k) P) (hF : ∀ p ∈ A, F p = none) (hA : ∀ p ∈ A, ∃ o, H p = some o ∧ NoTup o) (h : Ev ce E te σ (fz F H A) H (rv K) m1)
    (c : ∀ ys F1 H1, Ex F F1 → Gr F0 H0 F1 H1 → Own K F1 H1 p ys → (∀ (T : Type) [Rep T] [Obj T] (q : Addr) (z : T), q ≠ p → Own K F H q z → Own K F1 H1 q z) → Wp ce E H0 (k ys) P → t2 D σ H1) : tSeq (tDrop (tBM K "list" rAppend (tVar i) (tCons te tNil))) t2 D σ H := s_appA (D := { D with nx := t2 D }) A hp o n0 G q hF hA h c
theorem q_for {t2 : TS} {f : α → S → M (Ctl S τ)} {k : S → M τ} {s0 : S} {m : M (List α)} {R : L2.St → Hp → L2.St → α → Prop} (I : S → Hp → Hp → L2.St → Prop) (G : Gr F0 H0 F H) (hi : EvI ce E K wi σ F H m) (hg : Tg K g R)
    (q : Wp ce E H0 (m.bind fun xs => forM f k xs s0) P) (h0 : ∀ F1 H1, Gr F H F1 H1 → I s0 F1 H1 σ) (hG : ∀ s F' H' σ', I s F' H' σ' → Gr F0 H0 F' H')
    (turn : ∀ x s F1 H1 σ1, I s F1 H1 σ1 → ∀ F2 H2 σ2, Gr F1 H1 F2 H2 → R σ1 F2 σ2 x → ∀ (D' : Ends) (P' : Ctl S τ → Prop), D'.rt = D.rt →
      (∀ s', P' (.nx s') → ∀ F3 H3 σ3, Ex F2 F3 → I s' F3 H3 σ3 → D'.nx σ3 H3) → (∀ s', P' (.nx s') → ∀ F3 H3 σ3, Ex F2 F3 → I s' F3 H3 σ3 → D'.ct σ3 H3) →
      (∀ s', P' (.br s') → ∀ F3 H3 σ3, Ex F2 F3 → I s' F3 H3 σ3 → D'.bk σ3 H3) → (∀ r, P' (.rt r) → P r) → Wp ce E H0 (f x s) P' → ts D' σ2 H2)
    (after : ∀ s F1 H1 σ1, Ex F F1 → I s F1 H1 σ1 → Wp ce E H0 (k s) P → t2 D σ1 H1) : tSeq (tFor wi g ts) t2 D σ H := s_for (D := { D with nx := t2 D }) I G hi hg q h0 hG turn after
theorem q_while {t2 : TS} {c : S → M Bool} {f : S → M (Ctl S τ)} {k : S → M τ} {s0 : S} {n : Nat} (I : S → Hp → Hp → L2.St → Prop) (h0 : I s0 F H σ) (hG : ∀ s F' H' σ', I s F' H' σ' → Gr F0 H0 F' H')
    (q : Wp ce E H0 (whM c f k n s0) P) (hc : ∀ s F1 H1 σ1, I s F1 H1 σ1 → EvT ce E tt σ1 F1 H1 (c s)) (hI : ∀ s F1 H1 F2 H2 σ1, I s F1 H1 σ1 → Gr F1 H1 F2 H2 → I s F2 H2 σ1)
    (turn : ∀ s F1 H1 σ1, I s F1 H1 σ1 → ∀ (D' : Ends) (P' : Ctl S τ → Prop), D'.rt = D.rt →
      (∀ s', P' (.nx s') → ∀ F3 H3 σ3, I s' F3 H3 σ3 → D'.nx σ3 H3) → (∀ s', P' (.nx s') → ∀ F3 H3 σ3, I s' F3 H3 σ3 → D'.ct σ3 H3) →
      (∀ s', P' (.br s') → ∀ F3 H3 σ3, I s' F3 H3 σ3 → D'.bk σ3 H3) → (∀ r, P' (.rt r) → P r) → Wp ce E H0 (f s) P' → ts D' σ1 H1)
    (after : ∀ s F1 H1 σ1, I s F1 H1 σ1 → Wp ce E H0 (k s) P → t2 D σ1 H1) : tSeq (tWhile tt ts) t2 D σ H := s_while (D := { D with nx := t2 D }) I h0 hG q hc hI turn after
theorem q_asgNA {t2 : TS} (A : List Addr) {i : Nat} {m1 : M (List α)} {k : List α → M τ} [Flat α] (G : Gr F0 H0 F H) (q : Wp ce E H0 (m1.bind k) P) (hF : ∀ p ∈ A, F p = none) (hA : ∀ p ∈ A, ∃ o, H p = some o ∧ NoTup o) (h0 : ∀ p ∈ A, H0 p = none)
    (h : Ev ce E te σ (fz F H A) H (rn K) m1) (c : ∀ x F1 H1 p, Gr F H F1 H1 → H p = none → Own K F1 H1 p x → Wp ce E H0 (k x) P → t2 D (σ.set i (some (.ref p))) H1) : tSeq (tAsg te (gName i)) t2 D σ H := s_asgNA (D := { D with nx := t2 D }) A G q hF hA h0 h c
theorem q_asgT {t2 : TS} {g : TG} {R : L2.St → Hp → L2.St → α → Prop} (hg : Tg K g R) {m1 : M α} {k : α → M τ} (G : Gr F0 H0 F H) (q : Wp ce E H0 (m1.bind k) P) (h : Ev ce E te σ F H (rv K) m1)
    (c : ∀ x F1 H1 σ1, Gr F H F1 H1 → R σ F1 σ1 x → Wp ce E H0 (k x) P → t2 D σ1 H1) : tSeq (tAsg te g) t2 D σ H := s_asgT (D := { D with nx := t2 D }) hg G q h c
theorem q_if2 {t2 : TS} {m1 : M Bool} {k1 k2 : M τ} (G : Gr F0 H0 F H) (q : Wp ce E H0 (m1.bind fun b => if b then k1 else k2) P) (h : EvT ce E tt σ F H m1)
    (h1 : ∀ F1 H1, Gr F H F1 H1 → Wp ce E H0 k1 P → ts { D with nx := t2 D } σ H1) (h2 : ∀ F1 H1, Gr F H F1 H1 → Wp ce E H0 k2 P → tw { D with nx := t2 D } σ H1) : tSeq (tIfS tt ts tw) t2 D σ H := s_if2 (D := { D with nx := t2 D }) G q h h1 h2
theorem q_if2A {t2 : TS} (A : List Addr) {m1 : M Bool} {k1 k2 : M τ} (G : Gr F0 H0 F H) (q : Wp ce E H0 (m1.bind fun b => if b then k1 else k2) P) (hF : ∀ p ∈ A, F p = none) (hA : ∀ p ∈ A, ∃ o, H p = some o ∧ NoTup o)
    (h : EvT ce E tt σ (fz F H A) H m1) (h1 : ∀ F1 H1, Gr F H F1 H1 → Wp ce E H0 k1 P → ts { D with nx := t2 D } σ H1) (h2 : ∀ F1 H1, Gr F H F1 H1 → Wp ce E H0 k2 P → tw { D with nx := t2 D } σ H1) : tSeq (tIfS tt ts tw) t2 D σ H := s_if2A (D := { D with nx := t2 D }) A G q hF hA h h1 h2
theorem q_aug {t2 : TS} {i : Nat} {v : V} {a : Int} {f : Int → Int → Int} {m1 : M Int} {k : Int → M τ} (hv : σ[i]? = some (some v)) (r : rp K F v a) (G : Gr F0 H0 F H) (q : Wp ce E H0 (m1.bind fun y => k (f a y)) P) (h : Ev ce E te σ F H (rv K) m1)
    (c : ∀ x F1 H1 v, Gr F H F1 H1 → rp K F1 v x → Wp ce E H0 (k x) P → t2 D (σ.set i (some v)) H1) : tSeq (tAug i te (ipI f)) t2 D σ H := s_aug (D := { D with nx := t2 D }) hv r G q h c
theorem q_join {t2 : TS} {t : TS} {m1 : M W} {k : W → M τ} (J : W → Hp → Hp → L2.St → Prop) (q : Wp ce E H0 (m1.bind k) P)
    (h1 : ∀ w F1 H1 σ1, J w F1 H1 σ1 → Wp ce E H0 (k w) P → t2 D σ1 H1)
    (h2 : ∀ (P' : W → Prop), (∀ w, P' w → ∀ F1 H1 σ1, J w F1 H1 σ1 → t2 D σ1 H1) → Wp ce E H0 m1 P' → t { D with nx := t2 D } σ H) : tSeq (t) t2 D σ H := s_join (D := { D with nx := t2 D }) J q h1 h2
end
end Mw

set_option Elab.async false
set_option linter.all false
set_option maxRecDepth 100000
set_option maxHeartbeats 2000000
/-! Mw, part G: plain laws that serve several mirrors. -/
namespace Mw
open PySem L2
theorem chk_pos {α : Type} {c : Prop} (h : c) (x : α) : chk c x = .ok x := if_pos h
theorem mulM_ok {x y : Int} (hx : x.natAbs < 2 ^ 10000) (hy : y.natAbs < 2 ^ 10000) : mulM x y = .ok (x * y) := chk_pos (wide_mul hx hy (by decide) (by decide) (by decide)) _
theorem modM_ok {x y : Int} (h : 0 < y) : modM x y = .ok (x % y) := chk_pos h _
theorem fdivM_ok {x y : Int} (h : 0 < y) (hy : y.natAbs < 2 ^ 8000) : fdivM x y = .ok (x / y) := chk_pos (wide_div h hy (by decide) (by decide)) _
theorem fdivZ_ok {x y : Int} (h : y ≠ 0) (hy : y.natAbs < 2 ^ 8000) : fdivZ x y = .ok (x.fdiv y) := chk_pos ⟨h, Nat.lt_of_lt_of_le (PySem.Flt.log2_lt_of (by decide) hy) (by decide)⟩ _
theorem ixM_of {α : Type} [Rep α] {xs : List α} {i : Nat} {x : α} (h : xs[i]? = some x) : ixM xs (i : Int) = .ok x := by
  unfold ixM
  rw [atI_nat h]
theorem catM_ok {α : Type} {xs ys : List α} (h : xs.length + ys.length ≤ 16000000) : catM xs ys = .ok (xs ++ ys) := chk_pos h _
theorem appM_ok {α : Type} {xs : List α} {x : α} (h : xs.length < 16000000) : appM xs x = .ok (xs ++ [x]) := chk_pos h _
theorem rng1M_ok {n : Int} (h : -(2 ^ 62) ≤ n ∧ n < 2 ^ 62) : rng1M n = .ok (rng 0 n) := by
  unfold rng1M
  exact chk_pos h _
theorem lcM_ok {α β : Type} (c : α → Bool) (e : α → β) {xs : List α} (h : xs.length ≤ 16000000) : lcM (fun x => .ok (c x)) (fun x => .ok (e x)) xs = .ok ((xs.filter c).map e) := by
  unfold lcM
  rw [if_pos h, compM_ok]
theorem lcM_all {α β : Type} (e : α → β) {xs : List α} (h : xs.length ≤ 16000000) : lcM (fun _ => .ok true) (fun x => .ok (e x)) xs = .ok (xs.map e) := by
  unfold lcM
  rw [if_pos h, compM_all]
theorem lcM_congr {α β : Type} {c c' : α → M Bool} {e e' : α → M β} {xs : List α} (h1 : ∀ x ∈ xs, c x = c' x) (h2 : ∀ x ∈ xs, c x = .ok true → e x = e' x) : lcM c e xs = lcM c' e' xs := by
  unfold lcM
  rw [compM_congr h1 h2]
/-- a loop without a state that only looks -/
theorem forM_all {α τ : Type} {f : α → Unit → M (Ctl Unit τ)} {k : Unit → M τ} : ∀ {xs : List α}, (∀ x ∈ xs, f x () = .ok (.nx ())) → forM f k xs () = k ()
  | [], _ => rfl
  | x :: r, h => by
    rw [forM_cons, h x List.mem_cons_self]
    exact forM_all fun y hy => h y (List.mem_cons_of_mem _ hy)
/-- a loop that always goes on -/
theorem forM_fold {α S τ : Type} {f : α → S → M (Ctl S τ)} {k : S → M τ} {g : S → α → S} (I : S → Prop) : ∀ {xs : List α} {s : S}, I s → (∀ x ∈ xs, ∀ s, I s → f x s = .ok (.nx (g s x)) ∧ I (g s x)) → forM f k xs s = k (xs.foldl g s)
  | [], _, _, _ => rfl
  | x :: r, s, hs, h => by
    rw [forM_cons, (h x List.mem_cons_self s hs).1]
    exact forM_fold I (h x List.mem_cons_self s hs).2 fun y hy => h y (List.mem_cons_of_mem _ hy)
theorem gcd_step (a b : Int) (ha : 0 ≤ a) (hb : 0 ≤ b) : Int.gcd b (a % b) = Int.gcd a b := by
  obtain ⟨m, rfl⟩ := Int.eq_ofNat_of_zero_le ha
  obtain ⟨k, rfl⟩ := Int.eq_ofNat_of_zero_le hb
  show Nat.gcd k (m % k) = Nat.gcd m k
  rw [Nat.gcd_comm m k, Nat.gcd_rec k m, Nat.gcd_comm]
/-- a loop that always goes on: what is told of what it has met -/
theorem forM_ex {α S τ : Type} {f : α → S → M (Ctl S τ)} {k : S → M τ} (J : List α → S → Prop) : ∀ (xs pre : List α) (s : S), J pre s →
    (∀ p x s, (p ++ [x]) <+: (pre ++ xs) → J p s → ∃ s', f x s = .ok (.nx s') ∧ J (p ++ [x]) s') → ∃ s', J (pre ++ xs) s' ∧ forM f k xs s = k s'
  | [], pre, s, h, _ => ⟨s, by rw [List.append_nil]; exact h, rfl⟩
  | x :: r, pre, s, h, hs => by
    have e0 : pre ++ x :: r = (pre ++ [x]) ++ r := by simp
    obtain ⟨s', e1, h1⟩ := hs pre x s (by rw [e0]; exact List.prefix_append _ _) h
    obtain ⟨s2, h2, e2⟩ := forM_ex (k := k) J r (pre ++ [x]) s' h1 (by rw [← e0]; exact hs)
    rw [e0]
    exact ⟨s2, h2, by rw [forM_cons, e1]; exact e2⟩
theorem pre_mem {α : Type} {p xs : List α} {x : α} (h : (p ++ [x]) <+: xs) : x ∈ xs := h.subset (List.mem_append_right p (List.mem_singleton.mpr rfl))
theorem pre_len {α : Type} {p xs : List α} {x : α} (h : (p ++ [x]) <+: xs) : p.length < xs.length := by
  have := h.length_le
  simp at this
  omega
theorem cut_sub {α : Type} {xs : List α} {lo hi : Option Int} {x : α} (h : x ∈ cut xs lo hi) : x ∈ xs := List.mem_of_mem_drop (List.mem_of_mem_take h)
theorem cut_len {α : Type} (xs : List α) (lo hi : Option Int) : (cut xs lo hi).length ≤ xs.length := by
  unfold cut
  rw [List.length_take, List.length_drop]
  omega
theorem six_nat {n d : Nat} {i : Nat} (h : i ≤ n) : HT.sIx n d (some (i : Int)) = i := by
  unfold HT.sIx
  dsimp only
  split <;> omega
theorem cut_take {α : Type} (xs : List α) {i : Nat} (h : i ≤ xs.length) : cut xs none (some (i : Int)) = xs.take i := by
  unfold cut
  rw [six_nat h]
  rfl
theorem cut_drop {α : Type} (xs : List α) {i : Nat} (h : i ≤ xs.length) : cut xs (some (i : Int)) none = xs.drop i := by
  unfold cut
  rw [six_nat h]
  show (xs.drop i).take (xs.length - i) = _
  rw [List.take_of_length_le (by rw [List.length_drop]; omega)]
theorem compM_ex {α β : Type} {e : α → M β} {Q : α → β → Prop} : ∀ {xs : List α}, (∀ x ∈ xs, ∃ v, e x = .ok v ∧ Q x v) → ∃ ys, compM (fun _ => .ok true) e xs = .ok ys ∧ ys.length = xs.length ∧ ∀ y ∈ ys, ∃ x ∈ xs, Q x y
  | [], _ => ⟨[], rfl, rfl, fun _ z => nomatch z⟩
  | x :: r, h => by
    obtain ⟨v, ev, hv⟩ := h x List.mem_cons_self
    obtain ⟨ys, e1, e2, e3⟩ := compM_ex fun y hy => h y (List.mem_cons_of_mem x hy)
    refine ⟨v :: ys, ?_, by simp [e2], fun y hy => ?_⟩
    · unfold compM
      rw [ev, e1]
      rfl
    · rcases List.mem_cons.mp hy with z | z
      · exact ⟨x, List.mem_cons_self, z ▸ hv⟩
      · obtain ⟨w, hw, q⟩ := e3 y z
        exact ⟨w, List.mem_cons_of_mem _ hw, q⟩
theorem lcM_ex {α β : Type} {e : α → M β} {Q : α → β → Prop} {xs : List α} (hl : xs.length ≤ 16000000) (h : ∀ x ∈ xs, ∃ v, e x = .ok v ∧ Q x v) : ∃ ys, lcM (fun _ => .ok true) e xs = .ok ys ∧ ys.length = xs.length ∧ ∀ y ∈ ys, ∃ x ∈ xs, Q x y := by
  unfold lcM
  rw [if_pos hl]
  exact compM_ex h
theorem rng_pre {p : List Int} {x : Int} {n : Nat} (h : (p ++ [x]) <+: rng 0 (n : Int)) : x = (p.length : Int) ∧ p.length < n := by
  have hl := pre_len h
  have e : (rng 0 (n : Int)).length = n := by unfold rng; simp
  rw [e] at hl
  refine ⟨?_, hl⟩
  obtain ⟨t, ht⟩ := h
  have h2 : (rng 0 (n : Int))[p.length]? = some x := by rw [← ht]; simp
  unfold rng at h2
  rw [List.getElem?_map] at h2
  obtain ⟨j, hj, e2⟩ := Option.map_eq_some_iff.mp h2
  have hj2 : p.length < (List.range ((n : Int) - 0).toNat).length := (List.getElem?_eq_some_iff.mp hj).1
  rw [List.getElem?_range (by simpa using hl)] at hj
  cases hj
  rw [← e2]
  omega
theorem ixM_last {α : Type} [Rep α] (k : List α) (m : α) : ixM (k ++ [m]) (-1) = .ok m := by
  unfold ixM
  have : atI (k ++ [m]) (-1) = some m := by
    have e : ixN (k ++ [m]).length (-1) = some k.length := by
      unfold ixN
      rw [if_neg (by decide), List.length_append, List.length_singleton]
      rw [if_pos (by omega)]
      congr 1
      omega
    unfold atI
    rw [e]
    simp
  rw [this]
end Mw

set_option Elab.async false
set_option linter.all false
set_option maxRecDepth 100000
set_option maxHeartbeats 2000000
/-! Mw, part H: dicts whose keys are whole numbers. -/
namespace Mw
open PySem L2
open Rep (rp)
structure Dc (α : Type) where
  kvs : List (Int × α)
def dlook {α : Type} (k : Int) (d : List (Int × α)) : Option α := (d.find? fun p => decide (p.1 = k)).map (·.2)
def dput {α : Type} (d : List (Int × α)) (k : Int) (x : α) : List (Int × α) := if (d.any fun p => decide (p.1 = k)) = true then d.map (fun p => if p.1 = k then (p.1, x) else p) else d ++ [(k, x)]
def dmerge {α : Type} (d more : List (Int × α)) : List (Int × α) := more.foldl (fun a p => dput a p.1 p.2) d
abbrev DRel (K : PySem.W.Frag) {α : Type} [Rep α] (H : Hp) : List (Key × V) → List (Int × α) → Prop := Paired fun q p => q.1 = Sum.inl p.1 ∧ rp K H q.2 p.2
theorem drel_mo {K : PySem.W.Frag} {α : Type} [Rep α] {H H' : Hp} (e : Ex H H') : ∀ {vs : List (Key × V)} {d : List (Int × α)}, DRel K H vs d → DRel K H' vs d
  | _, _, .nil => .nil
  | _, _, .cons h t => .cons ⟨h.1, Rep.mo e h.2⟩ (drel_mo e t)
instance {α : Type} [Rep α] : Rep (Dc α) := ⟨fun K H v x => ∃ a vs, v = .ref a ∧ H a = some (.dK vs) ∧ DRel K H vs x.kvs, fun e ⟨a, vs, h1, h2, h3⟩ => ⟨a, vs, h1, e _ _ h2, drel_mo e h3⟩⟩
instance {α : Type} [Rep α] : Obj (Dc α) where
  ho := fun K H o x => ∃ vs, o = .dK vs ∧ DRel K H vs x.kvs
  mo := fun e ⟨vs, h1, h2⟩ => ⟨vs, h1, drel_mo e h2⟩
  rep := fun {K H p o x} e ⟨vs, h1, h2⟩ => by subst h1; exact ⟨p, vs, rfl, e, h2⟩
  nt := fun {K H o x} ⟨vs, h1, _⟩ => by subst h1; exact ⟨(fun _ z => nomatch z), (fun _ _ z => nomatch z)⟩
section
variable {K : PySem.W.Frag} {α : Type} [Rep α] {H : Hp}
theorem key_dec {q : Key × V} {p : Int × α} (h : q.1 = Sum.inl p.1) (k : Int) : decide (q.1 = Sum.inl k) = decide (p.1 = k) := by
  rw [h, key_ll, Bool.eq_iff_iff]
  simp
theorem drel_any (k : Int) : ∀ {vs : List (Key × V)} {d : List (Int × α)}, DRel K H vs d → (vs.any fun q => decide (q.1 = Sum.inl k)) = d.any fun p => decide (p.1 = k)
  | _, _, .nil => rfl
  | _, _, .cons h t => by
    rw [List.any_cons, List.any_cons, drel_any k t, key_dec h.1]
theorem drel_look (k : Int) : ∀ {vs : List (Key × V)} {d : List (Int × α)}, DRel K H vs d → (∀ x, dlook k d = some x → ∃ v, valV vs (Sum.inl k) = some v ∧ rp K H v x) ∧ (dlook k d = none → valV vs (Sum.inl k) = none)
  | _, _, .nil => ⟨(fun x e => nomatch e), (fun _ => rfl)⟩
  | _, _, .cons (a := q) (b := p) (l₁ := vs) (l₂ := d) h t => by
    by_cases e : p.1 = k
    · have e1 : q.1 = Sum.inl k := by rw [h.1, e]
      have e2 : dlook k (p :: d) = some p.2 := by unfold dlook; rw [List.find?_cons, decide_eq_true e] <;> rfl
      rw [e2, valV_pos e1]
      exact ⟨fun x z => ⟨q.2, rfl, by cases z; exact h.2⟩, fun z => nomatch z⟩
    · have e1 : ¬ q.1 = Sum.inl k := by rw [h.1]; exact fun z => e (Sum.inl.inj z)
      have e2 : dlook k (p :: d) = dlook k d := by unfold dlook; rw [List.find?_cons, decide_eq_false e]
      rw [e2, valV_neg e1]
      exact drel_look k t
theorem drel_map {k : Int} {v : V} {x : α} (r : rp K H v x) : ∀ {vs : List (Key × V)} {d : List (Int × α)}, DRel K H vs d → DRel K H (vs.map fun q => if q.1 = Sum.inl k then (q.1, v) else q) (d.map fun p => if p.1 = k then (p.1, x) else p)
  | _, _, .nil => .nil
  | _, _, .cons (a := q) (b := p) h t => by
    refine .cons ?_ (drel_map r t)
    by_cases e : p.1 = k
    · have e1 : q.1 = Sum.inl k := by rw [h.1, e]
      dsimp only
      rw [if_pos e, if_pos e1]
      exact ⟨h.1, r⟩
    · have e1 : ¬ q.1 = Sum.inl k := by rw [h.1]; exact fun z => e (Sum.inl.inj z)
      dsimp only
      rw [if_neg e, if_neg e1]
      exact h
theorem drel_put {k : Int} {v : V} {x : α} {vs : List (Key × V)} {d : List (Int × α)} (h : DRel K H vs d) (r : rp K H v x) : DRel K H (putK vs (Sum.inl k) v) (dput d k x) := by
  unfold putK dput
  rw [drel_any k h]
  split
  · exact drel_map r h
  · exact paired_app h (.cons ⟨rfl, r⟩ .nil)
theorem drel_merge : ∀ {ws : List (Key × V)} {e : List (Int × α)} {vs : List (Key × V)} {d : List (Int × α)}, DRel K H ws e → DRel K H vs d → DRel K H (mergeK vs ws) (dmerge d e)
  | _, _, _, _, .nil, h => h
  | _, _, _, _, .cons (a := q) (b := p) g t, h => by
    show DRel K H (mergeK (putK _ q.1 q.2) _) (dmerge (dput _ p.1 p.2) _)
    rw [g.1]
    exact drel_merge t (drel_put h g.2)
theorem drel_len {vs : List (Key × V)} {d : List (Int × α)} (h : DRel K H vs d) : vs.length = d.length := Paired.length h
theorem drel_keys : ∀ {vs : List (Key × V)} {d : List (Int × α)}, DRel K H vs d → vs.map (·.1) = (d.map (·.1)).map Sum.inl
  | _, _, .nil => rfl
  | _, _, .cons h t => by rw [List.map_cons, List.map_cons, List.map_cons, drel_keys t, h.1]
theorem drel_keyV : ∀ {vs : List (Key × V)} {d : List (Int × α)}, DRel K H vs d → (vs.map fun q => kV q.1) = (d.map (·.1)).map V.int
  | _, _, .nil => rfl
  | _, _, .cons h t => by rw [List.map_cons, List.map_cons, List.map_cons, drel_keyV t, h.1] <;> rfl
theorem pairs_split : ∀ {vs : List V} {xs : List (Int × α)}, Paired (rp K H) vs xs → ∃ ps ws, vs = ps.map V.ref ∧ Paired (fun p kv => SqT K H p [kV kv.1, kv.2]) ps ws ∧ DRel K H ws xs
  | _, _, .nil => ⟨[], [], rfl, .nil, .nil⟩
  | _, _, .cons (b := x) ⟨a, u, w, h1, h2, h3, h4⟩ t => by
    obtain ⟨ps, ws, e, p, d⟩ := pairs_split t
    cases h3
    subst h1 e
    exact ⟨a :: ps, (Sum.inl x.1, w) :: ws, rfl, .cons h2 p, .cons ⟨rfl, h4⟩ d⟩
end
/-- a new object of one's own -/
def ro (K : PySem.W.Frag) {T : Type} [Rep T] [Obj T] : Md T := fun _ H F' H' v r => ∃ p, v = .ref p ∧ H p = none ∧ Own K F' H' p r
instance {K : PySem.W.Frag} {T : Type} [Rep T] [Obj T] : MdMo (ro K (T := T)) := ⟨fun g ⟨p, h1, h2, h3⟩ => ⟨p, h1, ex_back g.hh h2, h3⟩⟩
section
variable {ρ α β γ δ S W τ T : Type} [Rep α] [Rep β] [Rep γ] [Rep δ] [Rep T] [Obj T] {ce : Ce} {E : XK} {K : PySem.W.Frag} {σ : L2.St} {F H F' H' F0 H0 : Hp} {te ta tb tc td ty tx : TE} {tt tu : TT} {md : Md ρ} {m : M ρ} {D : Ends} {ts tw : TS} {g : TG} {wi : TI} {P : τ → Prop}
/-- a new object may be leant on -/
theorem Ev.ov {m : M T} (h : Ev ce E te σ F H (ro K) m) : Ev ce E te σ F H (rv K) m := by
  intro F1 H1 g Q q
  refine h F1 H1 g Q ?_
  cases m with
  | ok x =>
    rintro F2 H2 v g2 ⟨p, rfl, h1, ⟨u, h3, h4⟩, h2⟩
    refine q (upd F2 p u) H2 (.ref p) ⟨g2.ff.tr (Ex.nw h2), ?_, g2.hh, fun b a1 a2 => ?_⟩ (Obj.rep upd_same (Obj.mo (Ex.nw h2) h4))
    · intro a w e
      by_cases z : a = p
      · subst z; rw [upd_same] at e; rw [h3]; exact e
      · rw [upd_ne z] at e; exact g2.fh a w e
    · have : b ≠ p := fun z => by subst z; exact a2 h1
      rw [upd_ne this]; exact g2.nw b a1 a2
  | er c => exact q
  | bad => exact q
/-- x = a new object of one's own -/
theorem s_asgO {i : Nat} {m1 : M T} {k : T → M τ} (G : Gr F0 H0 F H) (q : Wp ce E H0 (m1.bind k) P) (h : Ev ce E te σ F H (ro K) m1)
    (c : ∀ x F1 H1 p, Gr F H F1 H1 → H p = none → Own K F1 H1 p x → Wp ce E H0 (k x) P → D.nx (σ.set i (some (.ref p))) H1) : tAsg te (gName i) D σ H := by
  refine h F H (Gr.rf G.fh) _ ?_
  cases m1 with
  | ok x =>
    rintro F1 H1 v g ⟨p, rfl, h1, o⟩
    exact c x F1 H1 p g h1 o q
  | er cc => exact fun H' e => q H' (G.hh.tr e)
  | bad => exact q
theorem em_dnew : Ev ce E tDNewK σ F H (ro K) (.ok (⟨[]⟩ : Dc α)) := fun F1 H1 g1 Q q p np =>
  q F1 _ _ (Gr.own g1.fh np) ⟨p, rfl, np, ⟨_, upd_same, [], rfl, .nil⟩, ex_back g1.fh np⟩
theorem a_dictP {xs : List (Int × α)} : OpA ce E (RC K R0) (fun xs H Q => ∃ (a : Addr) (ps : List Addr) (kvs : List (Key × V)), xs = [.ref a] ∧ SqL K H a (ps.map V.ref) ∧ Paired (fun p kv => SqT K H p [kV kv.1, kv.2]) ps kvs ∧
    ∀ p, H p = none → Q (.ref p) (upd H p (.dK (mergeK [] kvs)))) (ro K) (xs, ()) (.ok (⟨dmerge [] xs⟩ : Dc α)) := fun F1 H1 vs e ⟨v, r, e1, ⟨a, us, h1, h2, h3⟩, e3⟩ Q q => by
  cases e3
  subst e1 h1
  obtain ⟨ps, ws, rfl, hp, hd⟩ := pairs_split h3
  refine ⟨a, ps, ws, rfl, SqL.of (e _ _ h2), Paired.mapP hp fun p kv h => ex_t e h, fun p np => ?_⟩
  exact q F1 _ _ (Gr.own e np) ⟨p, rfl, np, ⟨_, upd_same, _, rfl, drel_merge hd .nil⟩, ex_back e np⟩
theorem a_dictD {d : Dc α} : OpA ce E (RC K R0) (fun xs H Q => ∃ (a : Addr) (kvs : List (Key × V)), xs = [.ref a] ∧ Rd H a (.dK kvs) ∧ ∀ p, H p = none → Q (.ref p) (upd H p (.dK kvs))) (ro K) (d, ()) (.ok d) := fun F1 H1 vs e ⟨v, r, e1, ⟨a, us, h1, h2, h3⟩, e3⟩ Q q => by
  cases e3
  subst e1 h1
  exact ⟨a, us, rfl, .inl (e _ _ h2), fun p np => q F1 _ _ (Gr.own e np) ⟨p, rfl, np, ⟨_, upd_same, _, rfl, h3⟩, ex_back e np⟩⟩
theorem a_listD {d : Dc α} : OpA ce E (RC K R0) (fun xs H Q => ∃ (a : Addr) (kvs : List (Key × V)), xs = [.ref a] ∧ Rd H a (.dK kvs) ∧ ∀ p, H p = none → Q (.ref p) (upd H p (.lst (kvs.map fun kv => kV kv.1)))) (rn K) (d, ()) (.ok (d.kvs.map (·.1))) := fun F1 H1 vs e ⟨v, r, e1, ⟨a, us, h1, h2, h3⟩, e3⟩ Q q => by
  cases e3
  subst e1 h1
  refine ⟨a, us, rfl, .inl (e _ _ h2), fun p np => ?_⟩
  rw [drel_keyV h3]
  exact q F1 _ _ (Gr.own e np) ⟨p, _, rfl, np, ex_back e np, upd_same, rep_int _⟩
noncomputable def sortDM {α : Type} (d : Dc α) : M (List Int) := chk (d.kvs.length < 64) (sortI (d.kvs.map (·.1)))
theorem a_sortedD {d : Dc α} : OpA ce E (RC K R0) (fun xs H Q => ∃ (a : Addr) (kvs : List (Key × V)) (ks : List Int), xs = [.ref a] ∧ Rd H a (.dK kvs) ∧ kvs.map (·.1) = ks.map Sum.inl ∧ ks.length < 64 ∧
    ∀ (ys : List Int) (p : Addr), ys.Perm ks → ys.Pairwise (· ≤ ·) → H p = none → Q (.ref p) (upd H p (.lst (ys.map V.int)))) (rn K) (d, ()) (sortDM d) := fun F1 H1 vs e ⟨v, r, e1, ⟨a, us, h1, h2, h3⟩, e3⟩ Q q => by
  cases e3
  subst e1 h1
  unfold sortDM chk at q
  split at q
  · rename_i hl
    refine ⟨a, us, d.kvs.map (·.1), rfl, .inl (e _ _ h2), drel_keys h3, by rw [List.length_map]; exact hl, fun ys p hp hs np => ?_⟩
    have : ys = sortI (d.kvs.map (·.1)) := sorted_same (hp.trans (sortI_perm _).symm) hs (sortI_sorted _)
    subst this
    exact q F1 _ _ (Gr.own e np) ⟨p, _, rfl, np, ex_back e np, upd_same, rep_int _⟩
  · exact q.elim
theorem a_lenD {d : Dc α} : OpA ce E (RC K R0) (fun xs H Q => ∃ a kvs, xs = [V.ref a] ∧ H a = some (.dK kvs) ∧ Q (.int kvs.length) H) (rv K) (d, ()) (.ok (d.kvs.length : Int)) := fun F1 H1 vs e ⟨v, r, e1, ⟨a, us, h1, h2, h3⟩, e3⟩ Q q => by
  cases e3
  subst e1 h1
  refine ⟨a, us, rfl, e _ _ h2, ?_⟩
  rw [drel_len h3]
  exact q F1 H1 _ (Gr.rf e) rfl
def dgetM {α : Type} (d : Dc α) (k : Int) : M α := match dlook k d.kvs with
  | some x => .ok x
  | none => .bad
/-- d[k] -/
theorem em_dget {m1 : M (Dc α)} {m2 : M Int} (ha : Ev ce E td σ F H (rv K) m1) (hb : Ev ce E ty σ F H (rv K) m2) : Ev ce E (tDGet td ty) σ F H (rv K) (m1.bind fun d => m2.bind fun k => dgetM d k) := fun F1 H1 g1 Q q => by
  refine ha F1 H1 g1 _ ?_
  cases m1 with
  | ok d =>
    rintro F2 H2 vx g2 ⟨a, vs, e1, e2, e3⟩
    refine hb F2 H2 (g1.tr g2) _ ?_
    cases m2 with
    | ok k =>
      rintro F3 H3 vk g3 rfl
      have q' : Post ce (rv K) (dgetM d k) F1 H1 Q E := q
      unfold dgetM at q'
      split at q'
      · rename_i x hx
        obtain ⟨v, hv, r⟩ := (drel_look k (drel_mo g3.ff e3)).1 x hx
        refine ⟨a, v, e1, ?_, q' F3 H3 v (g2.tr g3) r⟩
        have := DGet.k (k := Sum.inl k) (g3.hh _ _ (g2.fh _ _ e2))
        rw [hv] at this
        exact this
      · exact q'.elim
    | er c => exact fun H' e => q H' (g2.hh.tr e)
    | bad => exact q
  | er c => exact q
  | bad => exact q
/-- d.get(k, x) -/
theorem em_dget2 {m1 : M (Dc α)} {m2 : M Int} {m3 : M α} (ha : Ev ce E td σ F H (rv K) m1) (hb : Ev ce E ty σ F H (rv K) m2) (hc : Ev ce E tx σ F H (rv K) m3) :
    Ev ce E (tDGet2 td ty tx) σ F H (rv K) (m1.bind fun d => m2.bind fun k => m3.bind fun x => .ok ((dlook k d.kvs).getD x)) := fun F1 H1 g1 Q q => by
  refine ha F1 H1 g1 _ ?_
  cases m1 with
  | ok d =>
    rintro F2 H2 vx g2 ⟨a, vs, e1, e2, e3⟩
    refine ⟨a, e1, .inl ⟨vs, .inl (g2.fh _ _ e2)⟩, hb F2 H2 (g1.tr g2) _ ?_⟩
    cases m2 with
    | ok k =>
      rintro F3 H3 vk g3 rfl
      refine hc F3 H3 ((g1.tr g2).tr g3) _ ?_
      cases m3 with
      | ok x =>
        intro F4 H4 v4 g4 r4
        refine ⟨_, DGet.k (k := Sum.inl k) (g4.hh _ _ (g3.hh _ _ (g2.fh _ _ e2))), ?_⟩
        have hl := drel_look k (drel_mo (g3.ff.tr g4.ff) e3)
        cases hd : dlook k d.kvs with
        | some y =>
          obtain ⟨v, hv, r⟩ := hl.1 y hd
          rw [hv]
          refine q F4 H4 v ((g2.tr g3).tr g4) ?_
          rw [hd]
          exact r
        | none =>
          rw [hl.2 hd]
          refine q F4 H4 v4 ((g2.tr g3).tr g4) ?_
          rw [hd]
          exact r4
      | er c => exact fun H' e => q H' ((g2.tr g3).hh.tr e)
      | bad => exact q
    | er c => exact fun H' e => q H' (g2.hh.tr e)
    | bad => exact q
  | er c => exact q
  | bad => exact q
/-- k in d, k not in d -/
theorem em_din {m1 : M (Dc α)} {m2 : M Int} (hb : Ev ce E ty σ F H (rv K) m2) (ha : Ev ce E td σ F H (rv K) m1) : Ev ce E (tDIn ty td) σ F H (rv K) (m2.bind fun k => m1.bind fun d => .ok (dlook k d.kvs).isSome) := fun F1 H1 g1 Q q => by
  refine hb F1 H1 g1 _ ?_
  cases m2 with
  | ok k =>
    rintro F2 H2 vk g2 rfl
    refine ha F2 H2 (g1.tr g2) _ ?_
    cases m1 with
    | ok d =>
      rintro F3 H3 vx g3 ⟨a, vs, e1, e2, e3⟩
      refine ⟨a, _, e1, DGet.k (k := Sum.inl k) (g3.fh _ _ e2), ?_⟩
      have hl := drel_look k e3
      refine q F3 H3 _ (g2.tr g3) ?_
      show V.bl _ = V.bl _
      cases hd : dlook k d.kvs with
      | some y =>
        obtain ⟨v, hv, r⟩ := hl.1 y hd
        rw [hv] <;> rfl
      | none => rw [hl.2 hd] <;> rfl
    | er c => exact fun H' e => q H' (g2.hh.tr e)
    | bad => exact q
  | er c => exact q
  | bad => exact q
theorem em_dnotin {m1 : M (Dc α)} {m2 : M Int} (hb : Ev ce E ty σ F H (rv K) m2) (ha : Ev ce E td σ F H (rv K) m1) : Ev ce E (tDNotIn ty td) σ F H (rv K) (m2.bind fun k => m1.bind fun d => .ok (!(dlook k d.kvs).isSome)) := fun F1 H1 g1 Q q => by
  refine hb F1 H1 g1 _ ?_
  cases m2 with
  | ok k =>
    rintro F2 H2 vk g2 rfl
    refine ha F2 H2 (g1.tr g2) _ ?_
    cases m1 with
    | ok d =>
      rintro F3 H3 vx g3 ⟨a, vs, e1, e2, e3⟩
      refine ⟨a, _, e1, DGet.k (k := Sum.inl k) (g3.fh _ _ e2), ?_⟩
      have hl := drel_look k e3
      refine q F3 H3 _ (g2.tr g3) ?_
      show V.bl _ = V.bl _
      cases hd : dlook k d.kvs with
      | some y =>
        obtain ⟨v, hv, r⟩ := hl.1 y hd
        rw [hv] <;> rfl
      | none => rw [hl.2 hd] <;> rfl
    | er c => exact fun H' e => q H' (g2.hh.tr e)
    | bad => exact q
  | er c => exact q
  | bad => exact q
noncomputable def dputM {α : Type} (d : Dc α) (k : Int) (x : α) : M (Dc α) := chk (d.kvs.length < 16000000) ⟨dput d.kvs k x⟩
/-- d[k] = e: the value first, then the key; both may read what is one's own -/
theorem s_dput (A : List Addr) {i : Nat} {p : Addr} {d : Dc α} {m1 : M α} {m2 : M Int} {k : Dc α → M τ} [Flat α] (hp : σ[i]? = some (some (.ref p))) (o : Own K F H p d) (n0 : H0 p = none) (G : Gr F0 H0 F H)
    (q : Wp ce E H0 (m1.bind fun x => m2.bind fun y => (dputM d y x).bind k) P) (hF : ∀ p ∈ A, F p = none) (hA : ∀ p ∈ A, ∃ o, H p = some o ∧ NoTup o) (h : Ev ce E te σ (fz F H A) H (rv K) m1) (hk : Ev ce E ty σ (fz F H A) H (rv K) m2)
    (c : ∀ d' F1 H1, Ex F F1 → Gr F0 H0 F1 H1 → Own K F1 H1 p d' → (∀ (T : Type) [Rep T] [Obj T] (q : Addr) (z : T), q ≠ p → Own K F H q z → Own K F1 H1 q z) → Wp ce E H0 (k d') P → D.nx σ H1) :
    sDPut (tVar i) ty te D σ H := by
  obtain ⟨⟨u, h1, vs, h2, h3⟩, hf⟩ := o
  subst h2
  have hA' : ∀ p ∈ A, H p ≠ none := fun p m => by obtain ⟨o, e, _⟩ := hA p m; rw [e]; exact fun z => nomatch z
  refine h _ H (Gr.rf (fz_h G.fh)) _ ?_
  cases m1 with
  | ok x =>
    intro F1 H1 v g0 r0
    refine ⟨.ref p, hp, hk F1 H1 g0 _ ?_⟩
    have q2 : Wp ce E H0 (m2.bind fun y => (dputM d y x).bind k) P := q
    cases m2 with
    | ok y =>
      rintro F2 H2 vy g1 rfl
      have gg := g0.tr g1
      have g := gr_th hF hA' G.fh gg
      have r : rp K (th F2 A) v x := Flat.fl (th_of hA gg) (Rep.mo g1.ff r0)
      have w' : Wp ce E H0 ((dputM d y x).bind k) P := q2
      unfold dputM chk at w'
      split at w'
      · rename_i hl
        refine ⟨p, _, rfl, DPut.k (k := Sum.inl y) (g.hh _ _ h1) ?_, ?_⟩
        · rw [drel_len h3, sizeLine_eq]; omega
        · have hf1 : th F2 A p = none := g.nw p hf (by rw [h1]; exact fun z => nomatch z)
          exact c _ _ _ g.ff (Gr.mut (G.tr g) n0 hf1) ⟨⟨_, upd_same, _, rfl, drel_put (drel_mo g.ff h3) r⟩, hf1⟩ (fun T _ _ q z hq o => (o.mo g).upd hq) w'
      · exact w'.elim
    | er cc => exact fun H' e => q2 H' ((G.hh.tr g0.hh).tr e)
    | bad => exact q2
  | er cc => exact fun H' e => q H' (G.hh.tr e)
  | bad => exact q
theorem q_asgO {t2 : TS} {i : Nat} {m1 : M T} {k : T → M τ} (G : Gr F0 H0 F H) (q : Wp ce E H0 (m1.bind k) P) (h : Ev ce E te σ F H (ro K) m1)
    (c : ∀ x F1 H1 p, Gr F H F1 H1 → H p = none → Own K F1 H1 p x → Wp ce E H0 (k x) P → t2 D (σ.set i (some (.ref p))) H1) : tSeq (tAsg te (gName i)) t2 D σ H := s_asgO (D := { D with nx := t2 D }) G q h c
theorem q_dput {t2 : TS} (A : List Addr) {i : Nat} {p : Addr} {d : Dc α} {m1 : M α} {m2 : M Int} {k : Dc α → M τ} [Flat α] (hp : σ[i]? = some (some (.ref p))) (o : Own K F H p d) (n0 : H0 p = none) (G : Gr F0 H0 F H)
    (q : Wp ce E H0 (m1.bind fun x => m2.bind fun y => (dputM d y x).bind k) P) (hF : ∀ p ∈ A, F p = none) (hA : ∀ p ∈ A, ∃ o, H p = some o ∧ NoTup o) (h : Ev ce E te σ (fz F H A) H (rv K) m1) (hk : Ev ce E ty σ (fz F H A) H (rv K) m2)
    (c : ∀ d' F1 H1, Ex F F1 → Gr F0 H0 F1 H1 → Own K F1 H1 p d' → (∀ (T : Type) [Rep T] [Obj T] (q : Addr) (z : T), q ≠ p → Own K F H q z → Own K F1 H1 q z) → Wp ce E H0 (k d') P → t2 D σ H1) :
    tSeq (sDPut (tVar i) ty te) t2 D σ H := s_dput (D := { D with nx := t2 D }) A hp o n0 G q hF hA h hk c
end
end Mw

set_option Elab.async false
set_option linter.all false
set_option maxRecDepth 100000
set_option maxHeartbeats 2000000
/-! Mw, part I: enumerate, zip, reversed; try and what a suite asks of the error. -/
namespace Mw
open PySem L2
open Rep (rp)
abbrev ixS (x : Scr) (i : Int) : M Int := ixM x.l i
def enumL {α : Type} (xs : List α) : List (Int × α) := xs.zipIdx.map fun p => ((p.2 : Int), p.1)
theorem enumL_get {α : Type} (xs : List α) (i : Nat) (p : Int × α) (h : (enumL xs)[i]? = some p) : p.1 = (i : Int) ∧ xs[i]? = some p.2 := by
  unfold enumL at h
  rw [List.getElem?_map, List.getElem?_zipIdx] at h
  cases e : xs[i]? with
  | none => rw [e] at h; cases h
  | some x =>
    rw [e] at h
    cases h
    exact ⟨by simp, rfl⟩
theorem enumL_len {α : Type} (xs : List α) : (enumL xs).length = xs.length := by unfold enumL; simp
theorem zip_get {α β : Type} (xs : List α) (ys : List β) (i : Nat) (p : α × β) (h : (xs.zip ys)[i]? = some p) : xs[i]? = some p.1 ∧ ys[i]? = some p.2 := by
  rw [List.getElem?_zip_eq_some] at h
  exact h
section
variable {ρ α β γ δ S τ : Type} [Rep α] [Rep β] [Rep γ] [Rep δ] {ce : Ce} {E : XK} {K : PySem.W.Frag} {σ : L2.St} {F H F' H' F0 H0 : Hp} {te ta tb tc td : TE} {tt tu : TT} {md : Md ρ} {m : M ρ} {D : Ends} {ts tw : TS} {g : TG} {wi : TI} {P : τ → Prop}
theorem ei_enum {m : M (List α)} (h : Ev ce E te σ F H (rv K) m) : EvI ce E K (iEnum K (tCons te tNil)) σ F H (m.bind fun x => .ok (enumL x)) := fun F1 H1 g1 R q => by
  refine h F1 H1 g1 _ ?_
  cases m with
  | ok xs =>
    rintro F2 H2 v g2 ⟨a, vs, rfl, h2, h3⟩
    refine ⟨a, vs, rfl, SqL.of (g2.fh _ _ h2), q F2 H2 _ g2 fun i H e => ?_⟩
    have hl := Paired.length h3
    refine ⟨fun x hx => ?_, fun hi => ⟨vs, SqL.of (e _ _ h2), by rw [enumL_len] at hi; omega⟩⟩
    obtain ⟨e1, e2⟩ := enumL_get xs i x hx
    obtain ⟨w, hw, rw'⟩ := paired_get h3 e2
    refine ⟨⟨vs, w, SqL.of (e _ _ h2), hw⟩, fun v H' ⟨T, y, ev, nT, eH, hy⟩ F1' f1 f2 => ?_⟩
    have : some w = some y := hw.symm.trans (hy vs (SqL.of (e _ _ h2)))
    cases this
    subst ev eH
    refine ⟨_, Gr.new f2 nT, T, .int (i : Nat), w, rfl, SqT.of upd_same, ?_, Rep.mo (f1.tr (Ex.nw (ex_back f2 nT))) rw'⟩
    show V.int _ = V.int _
    rw [e1]
  | er c => exact q
  | bad => exact q
theorem ei_zip {m : M (List α)} {m2 : M (List β)} (h : Ev ce E ta σ F H (rv K) m) (h' : Ev ce E tb σ F H (rv K) m2) : EvI ce E K (iZip K (tCons ta (tCons tb tNil))) σ F H (m.bind fun x => m2.bind fun y => .ok (x.zip y)) := fun F1 H1 g1 R q => by
  refine h F1 H1 g1 _ ?_
  cases m with
  | ok xs =>
    rintro F2 H2 v g2 ⟨a, vs, rfl, h2, h3⟩
    refine h' F2 H2 (g1.tr g2) _ ?_
    cases m2 with
    | ok ys =>
      rintro F3 H3 v g3 ⟨b, ws, rfl, k2, k3⟩
      have h2' := g3.ff _ _ h2
      refine ⟨a, b, vs, ws, rfl, SqL.of (g3.fh _ _ h2'), SqL.of (g3.fh _ _ k2), q F3 H3 _ (g2.tr g3) fun i H e => ?_⟩
      have hl := Paired.length h3
      have hl2 := Paired.length k3
      refine ⟨fun x hx => ?_, fun hi => ⟨vs, ws, SqL.of (e _ _ h2'), SqL.of (e _ _ k2), by rw [List.length_zip] at hi; omega⟩⟩
      obtain ⟨e1, e2⟩ := zip_get xs ys i x hx
      obtain ⟨w1, hw1, r1⟩ := paired_get h3 e1
      obtain ⟨w2, hw2, r2⟩ := paired_get k3 e2
      refine ⟨⟨vs, ws, w1, w2, SqL.of (e _ _ h2'), SqL.of (e _ _ k2), hw1, hw2⟩, fun v H' ⟨T, y1, y2, ev, nT, eH, hy1, hy2⟩ F1' f1 f2 => ?_⟩
      have z1 : some w1 = some y1 := hw1.symm.trans (hy1 vs (SqL.of (e _ _ h2')))
      have z2 : some w2 = some y2 := hw2.symm.trans (hy2 ws (SqL.of (e _ _ k2)))
      cases z1
      cases z2
      subst ev eH
      have ee := Ex.nw (o := .tup [w1, w2]) (ex_back f2 nT)
      exact ⟨_, Gr.new f2 nT, T, w1, w2, rfl, SqT.of upd_same, Rep.mo ((g3.ff.tr f1).tr ee) r1, Rep.mo (f1.tr ee) r2⟩
    | er c => exact fun H' e => q H' (g2.hh.tr e)
    | bad => exact q
  | er c => exact q
  | bad => exact q
theorem ei_rev {m : M (List α)} (h : Ev ce E te σ F H (rv K) m) : EvI ce E K (iRev K (tCons te tNil)) σ F H (m.bind fun x => .ok x.reverse) := fun F1 H1 g1 R q => by
  refine h F1 H1 g1 _ ?_
  cases m with
  | ok xs =>
    rintro F2 H2 v g2 ⟨a, vs, rfl, h2, h3⟩
    refine ⟨a, vs, rfl, SqL.of (g2.fh _ _ h2), q F2 H2 _ g2 fun i H e => ?_⟩
    have hl := Paired.length h3
    refine ⟨fun x hx => ?_, fun hi => by rw [List.length_reverse] at hi; show vs.length ≤ i; omega⟩
    have hi : i < xs.length := by
      have := (List.getElem?_eq_some_iff.mp hx).1
      rw [List.length_reverse] at this
      exact this
    rw [List.getElem?_reverse hi] at hx
    obtain ⟨w, hw, rw'⟩ := paired_get h3 hx
    have hw' : vs[vs.length - 1 - i]? = some w := by rw [hl]; exact hw
    refine ⟨⟨by omega, vs, w, SqL.of (e _ _ h2), hw'⟩, fun v H' ⟨eH, hy⟩ F1' f1 f2 => ?_⟩
    have : some w = some v := hw'.symm.trans (hy vs (SqL.of (e _ _ h2)))
    cases this
    subst eH
    exact ⟨_, Gr.rf f2, Rep.mo f1 rw'⟩
  | er c => exact q
  | bad => exact q

/-! ### try -/
def catchM {α τ : Type} (m : M α) (h : Err → M τ) (k : α → M τ) : M τ := match m with
  | .ok x => k x
  | .er c => h c
  | .bad => .bad
@[simp] theorem catch_ok {α τ : Type} (x : α) (h : Err → M τ) (k : α → M τ) : catchM (.ok x) h k = k x := rfl
@[simp] theorem catch_er {α τ : Type} (c : Err) (h : Err → M τ) (k : α → M τ) : catchM (.er c) h k = h c := rfl
theorem s_try {W : WX} {tb : WX → TS} {m : M α} {h : Err → M τ} {k : α → M τ} (q : Wp ce E H0 (catchM m h k) P) (hh : ∀ c H', Ex H H' → Wp ce E H0 (h c) P → W (.ref (ce c.name)) none σ H')
    (hb : ∀ P' : α → Prop, (∀ x, P' x → Wp ce E H0 (k x) P) → Wp ce (WE W σ) H m P' → tb W D σ H) : tb W D σ H := by
  refine hb (fun x => Wp ce E H0 (k x) P) (fun x p => p) ?_
  cases m with
  | ok x => exact q
  | er c => exact fun H' e => hh c H' e q
  | bad => exact q
/-- a call within a try's body -/
theorem e_callT [MdMo md] {W : WX} {ta : TA} {x : α} {R : Hp → List V → α → Prop} {f : α → M ρ} (ha : EvAM ce (WE W σ) ta σ F H (.ok x) R) : Ev ce (WE W σ) (tCallS (SpF ce R md f) (WE W) ta) σ F H md (f x) := fun F1 H1 g1 Q q =>
  ha F1 H1 g1 _ fun F2 H2 vs g2 r2 => ⟨F2, x, g2.fh, r2, Post.mo g2 q⟩
theorem em_callT [MdMo md] {W : WX} {ta : TA} {m1 : M α} {R : Hp → List V → α → Prop} {f : α → M ρ} (ha : EvAM ce (WE W σ) ta σ F H m1 R) : Ev ce (WE W σ) (tCallS (SpF ce R md f) (WE W) ta) σ F H md (m1.bind fun x => f x) := fun F1 H1 g1 Q q => by
  refine ha F1 H1 g1 _ ?_
  cases m1 with
  | ok x => exact fun F2 H2 vs g2 r2 => ⟨F2, x, g2.fh, r2, Post.mo g2 q⟩
  | er c => exact q
  | bad => exact q
/-- the suite's reading, for an error of a class C that isinstance may be asked of -/
def tsOf (K : PySem.W.Frag) (t1 : Addr → Addr → TS) : Addr → Value → Option Addr → TS := fun a cls d D σ H => ∃ C, cls = .ref C ∧ d = none ∧ ExcC K C ∧ t1 C a D σ H
theorem suite_by {X : Cx} {suite : List Stmt} {t1 : Addr → Addr → TS} (h : ∀ (C a : Addr) (oe : PySem.Obj) (pn : List (Addr × PySem.Obj)), ExcC X.K C → Zc (.ref C) none oe → (∃ vs, oe.data = .fields vs) → PSs (X.suite a ((a, oe) :: pn)) suite (t1 C a))
    (a : Addr) (oe : PySem.Obj) (cls : Value) (d : Option Addr) (pn : List (Addr × PySem.Obj)) (hz : Zc cls d oe) (hf : ∃ vs, oe.data = .fields vs) : PSs (X.suite a ((a, oe) :: pn)) suite (tsOf X.K t1 a cls d) := by
  refine ⟨fun pins s σ H D I hh => ?_⟩
  obtain ⟨C, rfl, rfl, ex, hh⟩ := hh
  exact (h C a oe pn ex hz hf).run pins s σ H D I hh
theorem e_isE {i : Nat} {C a : Addr} {c : V} {cv : Value} {b : Bool} (hs : σ[i]? = some (some (.ref a))) (hc : ∀ u, RelV c u → u = cv) (hk : PySem.W.kitOne K (.ref C) cv = some b) : Ev ce E (tCB (rIsE K C a) (tCons (tVar i) (tCons (tC c) tNil))) σ F H (rv K) (.ok b) := fun F1 H1 g1 Q q =>
  ⟨.ref a, hs, c, cv, b, rfl, hc, hk, q F1 H1 _ (Gr.rf g1.fh) rfl⟩
/-- isinstance(e, (c1, c2, ..)) -/
def rIsET (K : PySem.W.Frag) (D a : Addr) : List V → Hp → VK → Prop := fun xs H Q => ∃ (tp : Addr) (cs : List V) (us : List Value) (b : Bool), xs = [.ref a, .ref tp] ∧ H tp = some (.tup cs) ∧ Paired ClsV cs us ∧ PySem.W.kitAny K (.ref D) us = some b ∧ Q (.bl b) H
theorem call_isET {X : Cx} {a D : Addr} {oe : PySem.Obj} {pn : List (Addr × PySem.Obj)} (C : ExcC X.K D) (hz : Zc (.ref D) none oe) (hf : ∃ vs, oe.data = .fields vs) : CallR (X.suite a ((a, oe) :: pn)) (.builtin "isinstance") (rIsET X.K D a) := by
  intro pins s σ H xs us Q I r h
  obtain ⟨tp, cs, ws, b, rfl, hT, k, e, q⟩ := h
  obtain ⟨u1, u2, rfl, r1, r2⟩ := vals2 r
  cases (show u1 = Value.ref a from r1)
  cases (show u2 = Value.ref tp from r2)
  obtain ⟨hget, _⟩ := I.pin (a, oe) (List.mem_append.mpr (.inl List.mem_cons_self))
  obtain ⟨vs, hv⟩ := hf
  have J : PySem.W.InstAt s.heap a oe D none := by
    obtain ⟨oc, od, oda, osl⟩ := oe
    obtain ⟨h1, h2⟩ := hz
    dsimp only at h1 h2 hv
    subst h1 h2 hv
    exact ⟨hget, rfl, rfl, trivial⟩
  obtain ⟨_, its, rv, o, h1, h2, n, h3⟩ := (show ObjOk X.prog X.w H s.heap tp (.tup cs) from I.hok tp _ hT)
  have e3 := ClsV.all k rv
  subst e3
  obtain ⟨oc, od, dt, sl⟩ := o
  simp only at h2 h3
  subst h2 h3
  exact PySem.W.kia_tup (PySem.W.handS_kitx_exc C.hg C.hk C.hs C.hd C.ha C.hn C.ht C.hm) I.kIn J h1 e (fun z => nomatch z) fun tk => ⟨.bl b, H, I.kept (t' := tk) fun _ _ z => z, rfl, q⟩
theorem e_isE2 {i : Nat} {C a : Addr} {c c' : V} {cv cv' : Value} {b : Bool} (hs : σ[i]? = some (some (.ref a))) (h1 : ClsV c cv) (h2 : ClsV c' cv') (hk : PySem.W.kitAny K (.ref C) [cv, cv'] = some b) : Ev ce E (tCB (rIsET K C a) (tCons (tVar i) (tCons (tTup (tCons (tC c) (tCons (tC c') tNil))) tNil))) σ F H (rv K) (.ok b) := fun F1 H1 g1 Q q =>
  ⟨.ref a, hs, by show 2 ≤ sizeLine; decide, fun tp np => ⟨tp, [c, c'], [cv, cv'], b, rfl, upd_same, .cons h1 (.cons h2 .nil), hk, q _ _ _ (Gr.new g1.fh np) rfl⟩⟩
theorem e_isE3 {i : Nat} {C a : Addr} {c c' c2 : V} {cv cv' cv2 : Value} {b : Bool} (hs : σ[i]? = some (some (.ref a))) (h1 : ClsV c cv) (h2 : ClsV c' cv') (h3 : ClsV c2 cv2) (hk : PySem.W.kitAny K (.ref C) [cv, cv', cv2] = some b) : Ev ce E (tCB (rIsET K C a) (tCons (tVar i) (tCons (tTup (tCons (tC c) (tCons (tC c') (tCons (tC c2) tNil)))) tNil))) σ F H (rv K) (.ok b) := fun F1 H1 g1 Q q =>
  ⟨.ref a, hs, by show 3 ≤ sizeLine; decide, fun tp np => ⟨tp, [c, c', c2], [cv, cv', cv2], b, rfl, upd_same, .cons h1 (.cons h2 (.cons h3 .nil)), hk, q _ _ _ (Gr.new g1.fh np) rfl⟩⟩
end
/-- a def that may raise, where what it computes raises nothing -/
theorem fn_quiet {P : Program} {w : World} {K : PySem.W.Frag} {mg : Str → Option Value} {base : Heap} {k : Nat} {f : Addr} {fd : FuncData} {ps : List Str} {sp sp' : Sp} (F : FnOk P w K mg base (L2.CX P w) k f fd ps sp)
    (h : ∀ vs H Q E, sp' vs H Q E → sp vs H Q E0) : FnOk P w K mg base CX0 k f fd ps sp' :=
  ⟨fun vs H Q E q => F.len vs H Q E0 (h _ _ _ _ q), fun A outer s H args us vs Q E hr he hb hv hs => codeAny_mono (F.run A outer s H args us vs Q E0 hr he hb hv (h _ _ _ _ hs)) fun r s' x => by
    cases r with
    | error e =>
      obtain ⟨_, _, _, _, _, _, _, _, _, _, _, _, z⟩ := x
      exact z.elim
    | ok v => cases v <;> exact x⟩
end Mw

set_option Elab.async false
set_option linter.all false
set_option maxRecDepth 100000
set_option maxHeartbeats 2000000
/-! Mw, part J: slices with a step. -/
namespace L2
open PySem PySem.Spec PyProof.Rows
/-- the items of xs[lo:hi:st] -/
def pickV {α : Type} (xs : List α) (lo hi : Option Int) (st : Int) : List α :=
  (sliceRange (PySem.sliceBounds lo hi (some st) xs.length).1 (PySem.sliceBounds lo hi (some st) xs.length).2.1 (PySem.sliceBounds lo hi (some st) xs.length).2.2).filterMap (xs[·]?)
def rSlP (K : PySem.W.Frag) (st : Int) : V → Option Int → Option Int → Hp → VK → Prop := fun x lo hi H Q => ∃ a xs, x = .ref a ∧ SqL K H a xs ∧ ∀ p, H p = none → Q (.ref p) (upd H p (.lst (pickV xs lo hi st)))
theorem vals_pick {xs : List V} {its : List Value} (r : Vals xs its) : ∀ l : List Nat, Vals (l.filterMap (xs[·]?)) (l.filterMap (its[·]?))
  | [] => .nil
  | i :: l => by
    rw [List.filterMap_cons, List.filterMap_cons]
    have h : (xs[i]? = none ∧ its[i]? = none) ∨ ∃ x v, xs[i]? = some x ∧ its[i]? = some v ∧ RelV x v := by
      induction r generalizing i with
      | nil => exact .inl ⟨rfl, rfl⟩
      | cons h t ih =>
        cases i with
        | zero => exact .inr ⟨_, _, rfl, rfl, h⟩
        | succ j => exact ih j
    rcases h with ⟨h1, h2⟩ | ⟨x, v, h1, h2, h3⟩
    · rw [h1, h2]; exact vals_pick r l
    · rw [h1, h2]; exact .cons h3 (vals_pick r l)
section
variable {X : Cx} {e : Expr} {lo hi : Option Expr} {te : TE} {tl th : TO}
theorem pe_sliceS {st : Int} {k : Nat} {p1 p3 pos : Pos} (h0 : st ≠ 0) (he : PE X e te) (hl : PO X lo tl) (hu : PO X hi th) : PE X (.Subscript e (.Slice lo hi (some (.Constant (.int st) k p1)) p3) pos) (tSl (rSlP X.K st) te tl th) := by
  refine ⟨fun pins s σ H Q I h => ?_⟩
  refine Subscript_ (thn (he.run pins s σ H _ I h) fun v s1 ⟨x, H1, I1, r1, q1⟩ => ?_)
  have hst : PO X (some (.Constant (.int st) k p1)) (tPart (tC (.int st))) := po_some pe_int
  refine wpAny_Slice (thn (hl.run pins s1 σ H1 _ I1 q1) fun vl s2 ⟨l, H2, I2, pl, q2⟩ => thn (hu.run pins s2 σ H2 _ I2 q2) fun vu s3 ⟨u, H3, I3, pu, q3⟩ => ?_)
  obtain ⟨a, xs, ex, hx, q⟩ := q3
  subst ex
  cases r1
  refine thn (hst.run pins s3 σ H3 (fun o H4 => o = some st ∧ H4 = H3) I3 ⟨st, rfl, rfl, rfl⟩) fun vs s4 ⟨o, H4, I4, ps, eo, e4⟩ => ?_
  subst eo e4
  have I5 : Inv X pins σ H4 { s4 with heap := s4.heap.push { cls := .type "slice", data := .fields #[vl, vu, vs] } } := I4.kept (t' := s4.toks) fun b ob q => Heap.get?_push_of_some _ q
  obtain ⟨its, r, ht, hz⟩ := I5.list hx
  have hlen := r.length
  show wpAny (model X.prog X.w) X.A (subscriptTail e (.Slice lo hi (some (.Constant (.int st) k p1)) p3) (.ref a) (.ref s4.heap.objs.size)) (EP X pins σ Q) X.xe { s4 with heap := s4.heap.push { cls := .type "slice", data := .fields #[vl, vu, vs] } }
  refine tail_any (ops := [.ref a, .ref s4.heap.objs.size]) ht.isList.typeIs (PySem.slot_list_getitem.lookup) ?_ (by with_unfolding_all rfl)
  refine wpAny_getItem_list_slice ht.isList (Heap.IsSliceOf.new _ vl vu vs) pl pu ps (fun z => h0 (Option.some.inj z)) ?_ (by rw [List.size_toArray]; omega)
  have e1 : slicePick its.toArray l u (some st) = (pickV its l u st).toArray := by
    unfold slicePick pickV
    simp
  rw [e1]
  have r2 : Vals (pickV xs l u st) (pickV its l u st) := by
    unfold pickV
    rw [hlen]
    exact vals_pick r _
  have hle : (pickV xs l u st).length ≤ sizeLine := by
    have := slicePick_size_le its.toArray l u (some st)
    rw [e1, List.size_toArray, List.size_toArray, ← r2.length] at this
    omega
  exact ⟨.ref _, _, I5.laid (t' := s4.toks) (o := .lst (pickV xs l u st)) (fun b ob q => Heap.get?_push_of_some _ q) (Nat.le_refl _) ⟨hle, _, 0, r2, Heap.get?_push_size _ rfl⟩, rfl, q _ (I5.hok.fresh (Nat.le_refl _))⟩
end
end L2
namespace Mw
open PySem L2
open Rep (rp)
theorem paired_pick {α β : Type} {F : α → β → Prop} {vs : List α} {xs : List β} (r : Paired F vs xs) (lo hi : Option Int) (st : Int) : Paired F (pickV vs lo hi st) (pickV xs lo hi st) := by
  unfold pickV
  rw [Paired.length r]
  have go : ∀ l : List Nat, Paired F (l.filterMap (vs[·]?)) (l.filterMap (xs[·]?)) := by
    intro l
    induction l with
    | nil => exact .nil
    | cons i l ih =>
      rw [List.filterMap_cons, List.filterMap_cons]
      cases e : xs[i]? with
      | some x =>
        obtain ⟨w, hw, rw'⟩ := paired_get r e
        rw [hw]
        exact .cons rw' ih
      | none =>
        have : vs[i]? = none := by
          rw [List.getElem?_eq_none_iff] at e ⊢
          have := Paired.length r
          omega
        rw [this]
        exact ih
  exact go _
section
variable {ρ α β γ δ S τ : Type} [Rep α] [Rep β] [Rep γ] [Rep δ] {ce : Ce} {E : XK} {K : PySem.W.Frag} {σ : L2.St} {F H F' H' F0 H0 : Hp} {te ta tb tc td : TE} {md : Md ρ} {m : M ρ}
theorem em_pk {tl th : TO} {st : Int} {m1 : M (List α)} {m2 m3 : M (Option Int)} (ha : Ev ce E ta σ F H (rv K) m1) (hl : EvO ce E tl σ F H m2) (hh : EvO ce E th σ F H m3) :
    Ev ce E (tSl (rSlP K st) ta tl th) σ F H (rn K) (m1.bind fun x => m2.bind fun lo => m3.bind fun hi => .ok (pickV x lo hi st)) := fun F1 H1 g1 Q q => by
  refine ha F1 H1 g1 _ ?_
  cases m1 with
  | ok x =>
    rintro F2 H2 vx g2 ⟨a, vs, e1, e2, e3⟩
    refine hl F2 H2 (g1.tr g2) _ ?_
    cases m2 with
    | ok lo =>
      intro F3 H3 g3
      refine hh F3 H3 ((g1.tr g2).tr g3) _ ?_
      cases m3 with
      | ok hi =>
        intro F4 H4 g4
        refine ⟨a, vs, e1, SqL.of (g4.hh _ _ (g3.hh _ _ (g2.fh _ _ e2))), fun p np => ?_⟩
        exact q F4 _ _ (((g2.tr g3).tr g4).tr (Gr.own g4.fh np)) ⟨p, _, rfl, ex_back ((g2.hh.tr g3.hh).tr g4.hh) np, ex_back g4.fh np, upd_same, paired_pick (paired_mo (g3.ff.tr g4.ff) e3) lo hi st⟩
      | er c => exact fun H' e => q H' ((g2.tr g3).hh.tr e)
      | bad => exact q
    | er c => exact fun H' e => q H' (g2.hh.tr e)
    | bad => exact q
  | er c => exact q
  | bad => exact q
theorem em_pkS {tl th : TO} {st : Int} {x : Scr} {m2 m3 : M (Option Int)} (ha : Ev ce E ta σ F H (rv K) (.ok x)) (hl : EvO ce E tl σ F H m2) (hh : EvO ce E th σ F H m3) :
    Ev ce E (tSl (rSlP K st) ta tl th) σ F H (rn K) (m2.bind fun lo => m3.bind fun hi => .ok (pickV x.l lo hi st)) := fun F1 H1 g1 Q q => by
  refine ha F1 H1 g1 _ ?_
  rintro F2 H2 vx g2 ⟨a, e1, e2⟩
  refine hl F2 H2 (g1.tr g2) _ ?_
  cases m2 with
  | ok lo =>
    intro F3 H3 g3
    refine hh F3 H3 ((g1.tr g2).tr g3) _ ?_
    cases m3 with
    | ok hi =>
      intro F4 H4 g4
      refine ⟨a, _, e1, ex_l ((g2.fh.tr g3.hh).tr g4.hh) e2, fun p np => ?_⟩
      exact q F4 _ _ (((g2.tr g3).tr g4).tr (Gr.own g4.fh np)) ⟨p, _, rfl, ex_back ((g2.hh.tr g3.hh).tr g4.hh) np, ex_back g4.fh np, upd_same, paired_pick (rep_int x.l) lo hi st⟩
    | er c => exact fun H' e => q H' ((g2.tr g3).hh.tr e)
    | bad => exact q
  | er c => exact fun H' e => q H' (g2.hh.tr e)
  | bad => exact q
theorem pick_sub {α : Type} {xs : List α} {lo hi : Option Int} {st : Int} {x : α} (h : x ∈ pickV xs lo hi st) : x ∈ xs := by
  unfold pickV at h
  obtain ⟨i, _, hi⟩ := List.mem_filterMap.mp h
  exact List.mem_of_getElem? hi
end
end Mw

set_option Elab.async false
set_option linter.all false
set_option maxRecDepth 100000
set_option maxHeartbeats 2000000
/-! Mw, part K: try, as statements of the walk. -/
namespace Mw
open PySem L2
open Rep (rp)
def tTryAs (tb : WX → TS) (K : PySem.W.Frag) (c : Value) (i : Nat) (ts : Addr → Value → Option Addr → TS) (Wout : WX) : TS := fun D σ H => tb (wAs K c i ts Wout D) D σ H
def tTryOn (tb : WX → TS) (K : PySem.W.Frag) (c : Value) (ts : Addr → Value → Option Addr → TS) (Wout : WX) : TS := fun D σ H => tb (wOnly K c ts Wout D) D σ H
section
variable {X : Cx} {x n : Str} {c : Value} {i : Nat} {body suite : List Stmt} {b₀ : Stmt} {np pos pos' : Pos} {tb : WX → TS} {ts : Addr → Value → Option Addr → TS} {Wout : WX}
theorem ps_tryA (hs : X.stack = X.env :: X.outer) (hf : X.env.frame = some X.env.locals) (hN : X.N.Nodup) (hi : X.N[i]? = some n) (hln : X.env.kindOf n = some .local) (hc : Names X x c) (tk : Takes X Wout)
    (hb : ∀ (W : WX) (pn : List (Addr × PySem.Obj)) (xe : Value → Shared → Prop), Takes (X.tr pn xe) W → PassesOwn (model X.prog X.w) X.A X.env xe → PSs (X.tr pn xe) body (tb W))
    (hsu : ∀ (a : Addr) (oe : PySem.Obj) (cls : Value) (d : Option Addr) (pn : List (Addr × PySem.Obj)), Zc cls d oe → (∃ vs, oe.data = .fields vs) → PSs (X.suite a ((a, oe) :: pn)) (b₀ :: suite) (ts a cls d)) :
    PS X (.Try body [.ExceptHandler (some (.Name x np)) (some n) (b₀ :: suite) pos'] [] [] pos) (tTryAs tb X.K c i ts Wout) := ps_try_as hs hf hN hi hln hc tk hb hsu
theorem ps_tryO (hs : X.stack = X.env :: X.outer) (hf : X.env.frame = some X.env.locals) (hc : Names X x c) (tk : Takes X Wout)
    (hb : ∀ (W : WX) (pn : List (Addr × PySem.Obj)) (xe : Value → Shared → Prop), Takes (X.tr pn xe) W → PassesOwn (model X.prog X.w) X.A X.env xe → PSs (X.tr pn xe) body (tb W))
    (hsu : ∀ (a : Addr) (oe : PySem.Obj) (cls : Value) (d : Option Addr) (pn : List (Addr × PySem.Obj)), Zc cls d oe → (∃ vs, oe.data = .fields vs) → PSs (X.suite a ((a, oe) :: pn)) (b₀ :: suite) (ts a cls d)) :
    PS X (.Try body [.ExceptHandler (some (.Name x np)) none (b₀ :: suite) pos'] [] [] pos) (tTryOn tb X.K c ts Wout) := ps_try_only hs hf hc tk hb hsu
end
section
variable {ρ α β S τ Z : Type} [Rep α] {ce : Ce} {E : XK} {K : PySem.W.Frag} {σ : L2.St} {F H F0 H0 : Hp} {md : Md ρ} {D : Ends} {P : τ → Prop} {tb : WX → TS} {t1 : Addr → Addr → TS} {ts : Addr → Value → Option Addr → TS} {cv : Value} {i : Nat} {Wout : WX}
theorem Gr.er {F H F' H' H2 : Hp} (g : Gr F H F' H') (e : Ex H' H2) : Gr F H F' H2 := ⟨g.ff, g.fh.tr e, g.hh.tr e, fun b a c => g.nw b a c⟩
theorem Own.er {T : Type} [Rep T] [Obj T] {H2 : Hp} {p : Addr} {x : T} (o : Own K F H p x) (e : Ex H H2) : Own K F H2 p x := by
  obtain ⟨⟨u, h1, h2⟩, f⟩ := o
  exact ⟨⟨u, e _ _ h1, h2⟩, f⟩
theorem rn_up {α : Type} [Rep α] {F F1 H1 : Hp} {v : V} {r : List α} (hh : Ex H0 H) (m : rn K F H F1 H1 v r) : rn K F0 H0 F1 H1 v r := by
  obtain ⟨p, vs, h1, h2, h3⟩ := m
  exact ⟨p, vs, h1, ex_back hh h2, h3⟩
theorem s_tryAs {α : Type} (sl : Z → L2.St) (J : α → Hp → Hp → L2.St → Prop) {m : M α} {h : Err → M τ} {k : α → M τ} (q : Wp ce E H0 (catchM m h k) P)
    (hh : ∀ c H' z, Ex H H' → Wp ce E H0 (h c) P → wAs K cv i (tsOf K t1) Wout D (.ref (ce c.name)) none (sl z) H')
    (h1 : ∀ x F1 H1 σ1, J x F1 H1 σ1 → Wp ce E H0 (k x) P → D.nx σ1 H1)
    (hb : ∀ (E' : XK) (P' : α → Prop), (∀ cls d H', E' cls d H' → ∀ z, wAs K cv i (tsOf K t1) Wout D cls d (sl z) H') → (∀ x, P' x → Wp ce E H0 (k x) P) → (∀ x, P' x → ∀ F1 H1 σ1, J x F1 H1 σ1 → D.nx σ1 H1) → Wp ce E' H m P' →
      tb (wAs K cv i (tsOf K t1) Wout D) D σ H) : tTryAs tb K cv i (tsOf K t1) Wout D σ H := by
  refine hb (fun cls d H' => ∀ z, wAs K cv i (tsOf K t1) Wout D cls d (sl z) H') (fun x => Wp ce E H0 (k x) P) (fun _ _ _ e => e) (fun _ p => p) (fun x p F1 H1 σ1 j => h1 x F1 H1 σ1 j p) ?_
  cases m with
  | ok x => exact q
  | er c => exact fun H' e z => hh c H' z e q
  | bad => exact q
theorem s_tryOn {α : Type} (sl : Z → L2.St) (J : α → Hp → Hp → L2.St → Prop) {m : M α} {h : Err → M τ} {k : α → M τ} (q : Wp ce E H0 (catchM m h k) P)
    (hh : ∀ c H' z, Ex H H' → Wp ce E H0 (h c) P → wOnly K cv ts Wout D (.ref (ce c.name)) none (sl z) H')
    (h1 : ∀ x F1 H1 σ1, J x F1 H1 σ1 → Wp ce E H0 (k x) P → D.nx σ1 H1)
    (hb : ∀ (E' : XK) (P' : α → Prop), (∀ cls d H', E' cls d H' → ∀ z, wOnly K cv ts Wout D cls d (sl z) H') → (∀ x, P' x → Wp ce E H0 (k x) P) → (∀ x, P' x → ∀ F1 H1 σ1, J x F1 H1 σ1 → D.nx σ1 H1) → Wp ce E' H m P' →
      tb (wOnly K cv ts Wout D) D σ H) : tTryOn tb K cv ts Wout D σ H := by
  refine hb (fun cls d H' => ∀ z, wOnly K cv ts Wout D cls d (sl z) H') (fun x => Wp ce E H0 (k x) P) (fun _ _ _ e => e) (fun _ p => p) (fun x p F1 H1 σ1 j => h1 x F1 H1 σ1 j p) ?_
  cases m with
  | ok x => exact q
  | er c => exact fun H' e z => hh c H' z e q
  | bad => exact q
theorem q_tryAs {t2 : TS} {α : Type} (sl : Z → L2.St) (J : α → Hp → Hp → L2.St → Prop) {m : M α} {h : Err → M τ} {k : α → M τ} (q : Wp ce E H0 (catchM m h k) P)
    (hh : ∀ c H' z, Ex H H' → Wp ce E H0 (h c) P → wAs K cv i (tsOf K t1) Wout { D with nx := t2 D } (.ref (ce c.name)) none (sl z) H')
    (h1 : ∀ x F1 H1 σ1, J x F1 H1 σ1 → Wp ce E H0 (k x) P → t2 D σ1 H1)
    (hb : ∀ (E' : XK) (P' : α → Prop), (∀ cls d H', E' cls d H' → ∀ z, wAs K cv i (tsOf K t1) Wout { D with nx := t2 D } cls d (sl z) H') → (∀ x, P' x → Wp ce E H0 (k x) P) → (∀ x, P' x → ∀ F1 H1 σ1, J x F1 H1 σ1 → t2 D σ1 H1) → Wp ce E' H m P' →
      tb (wAs K cv i (tsOf K t1) Wout { D with nx := t2 D }) { D with nx := t2 D } σ H) : tSeq (tTryAs tb K cv i (tsOf K t1) Wout) t2 D σ H := s_tryAs (D := { D with nx := t2 D }) sl J q hh h1 hb
theorem q_tryOn {t2 : TS} {α : Type} (sl : Z → L2.St) (J : α → Hp → Hp → L2.St → Prop) {m : M α} {h : Err → M τ} {k : α → M τ} (q : Wp ce E H0 (catchM m h k) P)
    (hh : ∀ c H' z, Ex H H' → Wp ce E H0 (h c) P → wOnly K cv ts Wout { D with nx := t2 D } (.ref (ce c.name)) none (sl z) H')
    (h1 : ∀ x F1 H1 σ1, J x F1 H1 σ1 → Wp ce E H0 (k x) P → t2 D σ1 H1)
    (hb : ∀ (E' : XK) (P' : α → Prop), (∀ cls d H', E' cls d H' → ∀ z, wOnly K cv ts Wout { D with nx := t2 D } cls d (sl z) H') → (∀ x, P' x → Wp ce E H0 (k x) P) → (∀ x, P' x → ∀ F1 H1 σ1, J x F1 H1 σ1 → t2 D σ1 H1) → Wp ce E' H m P' →
      tb (wOnly K cv ts Wout { D with nx := t2 D }) { D with nx := t2 D } σ H) : tSeq (tTryOn tb K cv ts Wout) t2 D σ H := s_tryOn (D := { D with nx := t2 D }) sl J q hh h1 hb
theorem was_yes {A : Addr} (hx : PySem.W.exmOne K (.ref A) cv = some true) (hc : ExcC K A)
    (h : ∀ a, H a = none → t1 A a { nx := fun σ' H' => D.nx (σ'.set i none) H', rt := D.rt, bk := fun σ' H' => D.bk (σ'.set i none) H', ct := fun σ' H' => D.ct (σ'.set i none) H' } (σ.set i (some (.ref a))) H) :
    wAs K cv i (tsOf K t1) Wout D (.ref A) none σ H := ⟨true, hx, fun _ a na => ⟨A, rfl, rfl, hc, h a na⟩, fun z => nomatch z⟩
theorem wonly_yes {A : Addr} {t : TS} (hx : PySem.W.exmOne K (.ref A) cv = some true) (h : t D σ H) : wOnly K cv (fun _ _ _ => t) Wout D (.ref A) none σ H := ⟨true, hx, fun _ a na => h, fun z => nomatch z⟩
/-- a call that may raise, within a try -/
theorem e_callU [MdMo md] {α : Type} {E' : XK} {W : WX} {ta : TA} {x : α} {R : Hp → List V → α → Prop} {f : α → M ρ} (hE : ∀ cls d H', E' cls d H' → W cls d σ H') (ha : EvAM ce E' ta σ F H (.ok x) R) : Ev ce E' (tCallS (SpF ce R md f) (WE W) ta) σ F H md (f x) := fun F1 H1 g1 Q q =>
  ha F1 H1 g1 _ fun F2 H2 vs g2 r2 => ⟨F2, x, g2.fh, r2, by
    have q' := Post.mo g2 q
    cases hm : f x with
    | ok r => rw [hm] at q'; exact q'
    | er c => rw [hm] at q'; exact fun H' e => hE _ _ _ (q' H' e)
    | bad => rw [hm] at q'; exact q'⟩
theorem em_callU [MdMo md] {α : Type} {E' : XK} {W : WX} {ta : TA} {m1 : M α} {R : Hp → List V → α → Prop} {f : α → M ρ} (hE : ∀ cls d H', E' cls d H' → W cls d σ H') (ha : EvAM ce E' ta σ F H m1 R) : Ev ce E' (tCallS (SpF ce R md f) (WE W) ta) σ F H md (m1.bind fun x => f x) := fun F1 H1 g1 Q q => by
  refine ha F1 H1 g1 _ ?_
  cases m1 with
  | ok x =>
    exact fun F2 H2 vs g2 r2 => ⟨F2, x, g2.fh, r2, by
      have q' := Post.mo g2 q
      cases hm : f x with
      | ok r => have e : (M.ok x : M α).bind (fun x => f x) = .ok r := hm; rw [e] at q'; exact q'
      | er c => have e : (M.ok x : M α).bind (fun x => f x) = .er c := hm; rw [e] at q'; exact fun H' e => hE _ _ _ (q' H' e)
      | bad => have e : (M.ok x : M α).bind (fun x => f x) = .bad := hm; rw [e] at q'; exact q'⟩
  | er c => exact q
  | bad => exact q
theorem wp_pos {c : Prop} [Decidable c] {m1 m2 : M τ} (h : c) (w : Wp ce E H0 (if c then m1 else m2) P) : Wp ce E H0 m1 P := by rwa [if_pos h] at w
theorem wp_neg {c : Prop} [Decidable c] {m1 m2 : M τ} (h : ¬ c) (w : Wp ce E H0 (if c then m1 else m2) P) : Wp ce E H0 m2 P := by rwa [if_neg h] at w
end
/-! ### what isinstance and except ask of classes -/
theorem kit_own {K : PySem.W.Frag} {A T : Addr} {b : Bool} (hd : PySem.W.hasDictIn K T = true) (ht : PySem.W.typeIn K (.ref T) = some (.type "type")) (hs : PySem.W.subIn K (.ref A) (.ref T) = some b) (hb : (A == T) = true → b = true) : PySem.W.kitOne K (.ref A) (.ref T) = some b := by
  obtain ⟨cd, hc, _⟩ := PySem.W.any_some hd
  unfold PySem.W.kitOne
  by_cases e : (Value.ref A == Value.ref T) = true
  · rw [if_pos e, hb (by
      have := beq_iff_eq.mp e
      cases this
      exact beq_self_eq_true A)]
  · rw [if_neg e]
    show (if ((PySem.W.clsIn K T).isSome && PySem.W.typeIn K (.ref T) == some (.type "type")) = true then PySem.W.subIn K (.ref A) (.ref T) else none) = some b
    rw [if_pos (by rw [hc, ht]; rfl)]
    exact hs
theorem kit_bt {K : PySem.W.Frag} {A : Addr} {T : String} {b : Bool} (hm : PySem.W.kitMeta T = true) (hs : PySem.W.subIn K (.ref A) (.type T) = some b) : PySem.W.kitOne K (.ref A) (.type T) = some b := by
  unfold PySem.W.kitOne
  have e : ¬ (Value.ref A == Value.type T) = true := fun z => by
    have := beq_iff_eq.mp z
    cases this
  rw [if_neg e]
  show (if PySem.W.kitMeta T = true then PySem.W.subIn K (.ref A) (.type T) else none) = some b
  rw [if_pos hm]
  exact hs
end Mw

set_option Elab.async false
set_option linter.all false
set_option maxRecDepth 100000
set_option maxHeartbeats 2000000
/-! Mw, part L: all, any. -/
namespace Mw
open PySem L2
open Rep (rp)
section
variable {ρ α β : Type} [Rep α] {ce : Ce} {E : XK} {K : PySem.W.Frag}
theorem paired_bool {H : Hp} : ∀ {vs : List V} {xs : List Bool}, Paired (rp K H) vs xs → vs = xs.map V.bl
  | _, _, .nil => rfl
  | _, _, .cons h t => by
    cases h
    rw [paired_bool t]
    rfl
theorem a_all {xs : List Bool} : OpA ce E (RC K R0) (rAll K) (rv K) (xs, ()) (.ok (xs.all id)) := fun F1 H1 vs e ⟨v, r, e1, ⟨a, us, h1, h2, h3⟩, e3⟩ Q q => by
  cases e3
  subst e1 h1
  have := paired_bool h3
  subst this
  exact ⟨a, xs, rfl, SqL.of (e _ _ h2), q _ _ _ (Gr.rf e) rfl⟩
theorem a_any {xs : List Bool} : OpA ce E (RC K R0) (rAny K) (rv K) (xs, ()) (.ok (xs.any id)) := fun F1 H1 vs e ⟨v, r, e1, ⟨a, us, h1, h2, h3⟩, e3⟩ Q q => by
  cases e3
  subst e1 h1
  have := paired_bool h3
  subst this
  exact ⟨a, xs, rfl, SqL.of (e _ _ h2), q _ _ _ (Gr.rf e) rfl⟩
end
noncomputable def setM {α : Type} (xs : List α) (i : Int) (x : α) : M (List α) := match ixN xs.length i with
  | some j => .ok (xs.set j x)
  | none => .bad
noncomputable def insM {α : Type} (xs : List α) (i : Int) (x : α) : M (List α) := chk (xs.length < 16000000 ∧ 0 ≤ i ∧ i < 2 ^ 63) (xs.take i.toNat ++ [x] ++ xs.drop i.toNat)
noncomputable def popAtM {α : Type} (xs : List α) (i : Int) : M (List α) := match seqIndex? i xs.length with
  | some j => chk (-(2 ^ 63) ≤ i ∧ i < 2 ^ 63 ∧ j < xs.length) (xs.eraseIdx j)
  | none => .bad
theorem paired_setA {α β : Type} {F : α → β → Prop} {v : α} {x : β} (h : F v x) : ∀ {vs : List α} {xs : List β} (j : Nat), Paired F vs xs → Paired F (vs.set j v) (xs.set j x)
  | _, _, _, .nil => .nil
  | _, _, 0, .cons _ t => .cons h t
  | _, _, j + 1, .cons a t => .cons a (paired_setA h j t)
theorem paired_erase {α β : Type} {F : α → β → Prop} : ∀ {vs : List α} {xs : List β} (j : Nat), Paired F vs xs → Paired F (vs.eraseIdx j) (xs.eraseIdx j)
  | _, _, _, .nil => .nil
  | _, _, 0, .cons _ t => t
  | _, _, j + 1, .cons a t => .cons a (paired_erase j t)
def rIns : V → List V → Hp → VK → Prop := fun x vs H Q => ∃ (l : Addr) (xs : List V) (i : Int) (y : V), x = .ref l ∧ vs = [.int i, y] ∧ H l = some (.lst xs) ∧ xs.length < sizeLine ∧ 0 ≤ i ∧ i < 2 ^ 63 ∧ Q .non (upd H l (.lst (xs.take i.toNat ++ [y] ++ xs.drop i.toNat)))
section
variable {τ α : Type} [Rep α] {ce : Ce} {E : XK} {K : PySem.W.Frag} {σ : L2.St} {F H F0 H0 : Hp} {te ti : TE} {D : Ends} {P : τ → Prop}
theorem s_setl (A : List Addr) {i : Nat} {p : Addr} {xs : List α} {m1 : M α} {m2 : M Int} {k : List α → M τ} [Flat α] (hp : σ[i]? = some (some (.ref p))) (o : Own K F H p xs) (n0 : H0 p = none) (G : Gr F0 H0 F H)
    (q : Wp ce E H0 (m1.bind fun x => m2.bind fun y => (setM xs y x).bind k) P) (hF : ∀ p ∈ A, F p = none) (hA : ∀ p ∈ A, ∃ o, H p = some o ∧ NoTup o) (h : Ev ce E te σ (fz F H A) H (rv K) m1) (hk : Ev ce E ti σ (fz F H A) H (rv K) m2)
    (c : ∀ ys F1 H1, Ex F F1 → Gr F0 H0 F1 H1 → Own K F1 H1 p ys → (∀ (T : Type) [Rep T] [Obj T] (q : Addr) (z : T), q ≠ p → Own K F H q z → Own K F1 H1 q z) → Wp ce E H0 (k ys) P → D.nx σ H1) :
    tAsg te (gSub (tVar i) ti rSetL) D σ H := by
  obtain ⟨vs, h1, h2⟩ := o.lst
  have hf := o.f
  have hA' : ∀ p ∈ A, H p ≠ none := fun p m => by obtain ⟨o, e, _⟩ := hA p m; rw [e]; exact fun z => nomatch z
  refine h _ H (Gr.rf (fz_h G.fh)) _ ?_
  cases m1 with
  | ok x =>
    intro F1 H1 v g0 r0
    refine ⟨.ref p, hp, hk F1 H1 g0 _ ?_⟩
    have q2 : Wp ce E H0 (m2.bind fun y => (setM xs y x).bind k) P := q
    cases m2 with
    | ok y =>
      rintro F2 H2 vy g1 rfl
      have gg := g0.tr g1
      have g := gr_th hF hA' G.fh gg
      have r : rp K (th F2 A) v x := Flat.fl (th_of hA gg) (Rep.mo g1.ff r0)
      have w' : Wp ce E H0 ((setM xs y x).bind k) P := q2
      unfold setM at w'
      split at w'
      · rename_i j hj
        rw [← Paired.length h2] at hj
        have hf1 : th F2 A p = none := g.nw p hf (by rw [h1]; exact fun z => nomatch z)
        exact ⟨p, vs, y, j, rfl, rfl, g.hh _ _ h1, hj, c _ _ _ g.ff (Gr.mut (G.tr g) n0 hf1) (own_new hf1 upd_same (paired_setA r j (paired_mo g.ff h2))) (fun T _ _ q z hq o => (o.mo g).upd hq) w'⟩
      · exact w'.elim
    | er cc => exact fun H' e => q2 H' ((G.hh.tr g0.hh).tr e)
    | bad => exact q2
  | er cc => exact fun H' e => q H' (G.hh.tr e)
  | bad => exact q
theorem s_insl (A : List Addr) {i : Nat} {p : Addr} {xs : List α} {m1 : M Int} {m2 : M α} {k : List α → M τ} [Flat α] (hp : σ[i]? = some (some (.ref p))) (o : Own K F H p xs) (n0 : H0 p = none) (G : Gr F0 H0 F H)
    (q : Wp ce E H0 (m1.bind fun y => m2.bind fun x => (insM xs y x).bind k) P) (hF : ∀ p ∈ A, F p = none) (hA : ∀ p ∈ A, ∃ o, H p = some o ∧ NoTup o) (hk : Ev ce E ti σ (fz F H A) H (rv K) m1) (h : Ev ce E te σ (fz F H A) H (rv K) m2)
    (c : ∀ ys F1 H1, Ex F F1 → Gr F0 H0 F1 H1 → Own K F1 H1 p ys → (∀ (T : Type) [Rep T] [Obj T] (q : Addr) (z : T), q ≠ p → Own K F H q z → Own K F1 H1 q z) → Wp ce E H0 (k ys) P → D.nx σ H1) :
    tDrop (tBM K "list" rIns (tVar i) (tCons ti (tCons te tNil))) D σ H := by
  obtain ⟨vs, h1, h2⟩ := o.lst
  have hf := o.f
  have hA' : ∀ p ∈ A, H p ≠ none := fun p m => by obtain ⟨o, e, _⟩ := hA p m; rw [e]; exact fun z => nomatch z
  refine ⟨.ref p, hp, .inl ⟨rfl, vs, SqL.of h1⟩, hk _ H (Gr.rf (fz_h G.fh)) _ ?_⟩
  cases m1 with
  | ok y =>
    rintro F1 H1 vy g0 rfl
    refine h F1 H1 g0 _ ?_
    have q2 : Wp ce E H0 (m2.bind fun x => (insM xs y x).bind k) P := q
    cases m2 with
    | ok x =>
      intro F2 H2 v g1 r0
      have gg := g0.tr g1
      have g := gr_th hF hA' G.fh gg
      have r : rp K (th F2 A) v x := Flat.fl (th_of hA gg) r0
      have w' : Wp ce E H0 ((insM xs y x).bind k) P := q2
      unfold insM chk at w'
      split at w'
      · rename_i hc
        have hf1 : th F2 A p = none := g.nw p hf (by rw [h1]; exact fun z => nomatch z)
        refine ⟨p, vs, y, v, rfl, rfl, g.hh _ _ h1, by rw [Paired.length h2, sizeLine_eq]; omega, hc.2.1, hc.2.2, ?_⟩
        have pm := paired_mo (K := K) g.ff h2
        exact c _ _ _ g.ff (Gr.mut (G.tr g) n0 hf1) (own_new hf1 upd_same (paired_app (paired_app (paired_take _ pm) (.cons r .nil)) (paired_drop _ pm))) (fun T _ _ q z hq o => (o.mo g).upd hq) w'
      · exact w'.elim
    | er cc => exact fun H' e => q2 H' ((G.hh.tr g0.hh).tr e)
    | bad => exact q2
  | er cc => exact fun H' e => q H' (G.hh.tr e)
  | bad => exact q
theorem s_popl (A : List Addr) {i : Nat} {p : Addr} {xs : List α} {m1 : M Int} {k : List α → M τ} (hp : σ[i]? = some (some (.ref p))) (o : Own K F H p xs) (n0 : H0 p = none) (G : Gr F0 H0 F H)
    (q : Wp ce E H0 (m1.bind fun y => (popAtM xs y).bind k) P) (hF : ∀ p ∈ A, F p = none) (hA : ∀ p ∈ A, ∃ o, H p = some o ∧ NoTup o) (hk : Ev ce E ti σ (fz F H A) H (rv K) m1)
    (c : ∀ ys F1 H1, Ex F F1 → Gr F0 H0 F1 H1 → Own K F1 H1 p ys → (∀ (T : Type) [Rep T] [Obj T] (q : Addr) (z : T), q ≠ p → Own K F H q z → Own K F1 H1 q z) → Wp ce E H0 (k ys) P → D.nx σ H1) :
    tDrop (tBM K "list" rPopAt (tVar i) (tCons ti tNil)) D σ H := by
  obtain ⟨vs, h1, h2⟩ := o.lst
  have hf := o.f
  have hA' : ∀ p ∈ A, H p ≠ none := fun p m => by obtain ⟨o, e, _⟩ := hA p m; rw [e]; exact fun z => nomatch z
  refine ⟨.ref p, hp, .inl ⟨rfl, vs, SqL.of h1⟩, hk _ H (Gr.rf (fz_h G.fh)) _ ?_⟩
  cases m1 with
  | ok y =>
    rintro F1 H1 vy g0 rfl
    have g := gr_th hF hA' G.fh g0
    have w' : Wp ce E H0 ((popAtM xs y).bind k) P := q
    unfold popAtM at w'
    split at w'
    · rename_i j hj
      unfold chk at w'
      split at w'
      · rename_i hc
        rw [← Paired.length h2] at hj
        have hl : j < vs.length := by rw [Paired.length h2]; exact hc.2.2
        have hf1 : th F1 A p = none := g.nw p hf (by rw [h1]; exact fun z => nomatch z)
        exact ⟨p, vs, y, j, _, rfl, rfl, g.hh _ _ h1, hc.1, hc.2.1, hj, List.getElem?_eq_getElem hl, c _ _ _ g.ff (Gr.mut (G.tr g) n0 hf1) (own_new hf1 upd_same (paired_erase j (paired_mo g.ff h2))) (fun T _ _ q z hq o => (o.mo g).upd hq) w'⟩
      · exact w'.elim
    · exact w'.elim
  | er cc => exact fun H' e => q H' (G.hh.tr e)
  | bad => exact q
variable {t2 : TS}
theorem q_setl (A : List Addr) {i : Nat} {p : Addr} {xs : List α} {m1 : M α} {m2 : M Int} {k : List α → M τ} [Flat α] (hp : σ[i]? = some (some (.ref p))) (o : Own K F H p xs) (n0 : H0 p = none) (G : Gr F0 H0 F H)
    (q : Wp ce E H0 (m1.bind fun x => m2.bind fun y => (setM xs y x).bind k) P) (hF : ∀ p ∈ A, F p = none) (hA : ∀ p ∈ A, ∃ o, H p = some o ∧ NoTup o) (h : Ev ce E te σ (fz F H A) H (rv K) m1) (hk : Ev ce E ti σ (fz F H A) H (rv K) m2)
    (c : ∀ ys F1 H1, Ex F F1 → Gr F0 H0 F1 H1 → Own K F1 H1 p ys → (∀ (T : Type) [Rep T] [Obj T] (q : Addr) (z : T), q ≠ p → Own K F H q z → Own K F1 H1 q z) → Wp ce E H0 (k ys) P → t2 D σ H1) :
    tSeq (tAsg te (gSub (tVar i) ti rSetL)) t2 D σ H := s_setl (D := { D with nx := t2 D }) A hp o n0 G q hF hA h hk c
theorem q_insl (A : List Addr) {i : Nat} {p : Addr} {xs : List α} {m1 : M Int} {m2 : M α} {k : List α → M τ} [Flat α] (hp : σ[i]? = some (some (.ref p))) (o : Own K F H p xs) (n0 : H0 p = none) (G : Gr F0 H0 F H)
    (q : Wp ce E H0 (m1.bind fun y => m2.bind fun x => (insM xs y x).bind k) P) (hF : ∀ p ∈ A, F p = none) (hA : ∀ p ∈ A, ∃ o, H p = some o ∧ NoTup o) (hk : Ev ce E ti σ (fz F H A) H (rv K) m1) (h : Ev ce E te σ (fz F H A) H (rv K) m2)
    (c : ∀ ys F1 H1, Ex F F1 → Gr F0 H0 F1 H1 → Own K F1 H1 p ys → (∀ (T : Type) [Rep T] [Obj T] (q : Addr) (z : T), q ≠ p → Own K F H q z → Own K F1 H1 q z) → Wp ce E H0 (k ys) P → t2 D σ H1) :
    tSeq (tDrop (tBM K "list" rIns (tVar i) (tCons ti (tCons te tNil)))) t2 D σ H := s_insl (D := { D with nx := t2 D }) A hp o n0 G q hF hA hk h c
theorem q_popl (A : List Addr) {i : Nat} {p : Addr} {xs : List α} {m1 : M Int} {k : List α → M τ} (hp : σ[i]? = some (some (.ref p))) (o : Own K F H p xs) (n0 : H0 p = none) (G : Gr F0 H0 F H)
    (q : Wp ce E H0 (m1.bind fun y => (popAtM xs y).bind k) P) (hF : ∀ p ∈ A, F p = none) (hA : ∀ p ∈ A, ∃ o, H p = some o ∧ NoTup o) (hk : Ev ce E ti σ (fz F H A) H (rv K) m1)
    (c : ∀ ys F1 H1, Ex F F1 → Gr F0 H0 F1 H1 → Own K F1 H1 p ys → (∀ (T : Type) [Rep T] [Obj T] (q : Addr) (z : T), q ≠ p → Own K F H q z → Own K F1 H1 q z) → Wp ce E H0 (k ys) P → t2 D σ H1) :
    tSeq (tDrop (tBM K "list" rPopAt (tVar i) (tCons ti tNil))) t2 D σ H := s_popl (D := { D with nx := t2 D }) A hp o n0 G q hF hA hk c
end
end Mw

set_option Elab.async false
set_option linter.all false
set_option maxRecDepth 100000
set_option maxHeartbeats 2000000
/-! Mw, part M: lists of two unlike things. -/
namespace Mw
open PySem L2
open Rep (rp)
/-- a word: a text that may stand in data that is compared -/
structure Wd where
  s : Str
  ok : PyData.canLay0 (.str s) = true
  deriving DecidableEq
def wd (x : Str) : Wd := if h : PyData.canLay0 (.str x) = true then ⟨x, h⟩ else ⟨Str.ofString "", by decide +kernel⟩
instance : Rep Wd := ⟨fun _ _ v x => v = .str x.s, fun _ h => h⟩
instance : Dat Wd := ⟨fun w => .str w.s, 0, fun {K H v x} h => by cases h; exact .str x.s, fun x => x.ok, fun _ => Nat.le_refl _, fun x y => by
  obtain ⟨x, hx⟩ := x
  obtain ⟨y, hy⟩ := y
  simp only [PyData.eqv, Wd.mk.injEq]
  rw [Bool.eq_iff_iff]; simp⟩
instance : NotN Wd := ⟨fun x => ⟨by show PyData.eqv .none (.str x.s) = false; simp [PyData.eqv], by show PyData.eqv (.str x.s) .none = false; simp [PyData.eqv]⟩⟩
instance : NN Wd := ⟨fun h => by cases h; exact fun z => nomatch z⟩
theorem wd_s {x : Str} (h : PyData.canLay0 (.str x) = true) : (wd x).s = x := by unfold wd; rw [dif_pos h]
structure H2 (α β : Type) where
  a : α
  b : β
  deriving DecidableEq
instance {α β : Type} [Rep α] [Rep β] : Rep (H2 α β) := ⟨fun K H v x => ∃ p u w, v = .ref p ∧ H p = some (.lst [u, w]) ∧ rp K H u x.a ∧ rp K H w x.b, fun e ⟨p, u, w, h1, h2, h3, h4⟩ => ⟨p, u, w, h1, e _ _ h2, Rep.mo e h3, Rep.mo e h4⟩⟩
instance {α β : Type} [Rep α] [Rep β] [DecidableEq α] [DecidableEq β] [Dat α] [Dat β] : Dat (H2 α β) where
  dat := fun x => .list [Dat.dat x.a, Dat.dat x.b]
  deep := max (Dat.deep α) (Dat.deep β) + 1
  dp := fun {K H v x} ⟨a, u, w, h1, h2, h3, h4⟩ => by subst h1; exact .lst (SqL.of h2) (.cons (Dat.dp h3) (.cons (Dat.dp h4) .nil))
  cl := fun x => by simp [PyData.canLay0, PyData.canLayAll0, Dat.cl]
  de := fun x => by
    show max (PyData.depth _) (max (PyData.depth _) 0) + 1 ≤ _
    have h1 := Dat.de x.a
    have h2 := Dat.de x.b
    omega
  eq := fun x y => by
    obtain ⟨x1, x2⟩ := x
    obtain ⟨y1, y2⟩ := y
    simp only [PyData.eqv, PyData.eqvAll, Dat.eq, Bool.and_true, H2.mk.injEq]
    simp
section
variable {α β : Type} [Rep α] [Rep β] {ce : Ce} {E : XK} {K : PySem.W.Frag} {σ : L2.St} {F H : Hp} {ta tb : TE}
theorem em_h2 {m1 : M α} {m2 : M β} (ha : Ev ce E ta σ F H (rv K) m1) (hb : Ev ce E tb σ F H (rv K) m2) : Ev ce E (tLst (tCons ta (tCons tb tNil))) σ F H (rv K) (m1.bind fun x => m2.bind fun y => .ok (H2.mk x y)) := fun F1 H1 g1 Q q => by
  refine ha F1 H1 g1 _ ?_
  cases m1 with
  | ok x =>
    intro F2 H2 v2 g2 q2
    refine hb F2 H2 (g1.tr g2) _ ?_
    cases m2 with
    | ok y =>
      refine fun F3 H3 v3 g3 q3 => ⟨by show 2 ≤ sizeLine; decide, fun p np => ?_⟩
      have e := Ex.nw (o := .lst [v2, v3]) (ex_back g3.fh np)
      exact q _ _ _ ((g2.tr g3).tr (Gr.new g3.fh np)) ⟨p, v2, v3, rfl, upd_same, Rep.mo (g3.ff.tr e) q2, Rep.mo e q3⟩
    | er c => exact fun H' e => q H' (g2.hh.tr e)
    | bad => exact q
  | er c => exact q
  | bad => exact q
theorem e_h2 {x : α} {y : β} (ha : Ev ce E ta σ F H (rv K) (.ok x)) (hb : Ev ce E tb σ F H (rv K) (.ok y)) : Ev ce E (tLst (tCons ta (tCons tb tNil))) σ F H (rv K) (.ok (H2.mk x y)) := em_h2 (m1 := .ok x) (m2 := .ok y) ha hb
theorem o_h2a {x : H2 α β} {i : Int} (hi : i = 0) : Op2 ce E K (rIxL K) (rv K) x i (.ok x.a) := fun F1 H1 vx vy e rx ry Q q => by
  obtain ⟨p, u, w, rfl, h2, h3, h4⟩ := rx
  cases ry
  subst hi
  exact ⟨p, [u, w], 0, u, rfl, rfl, SqL.of (e _ _ h2), rfl, q F1 H1 u (Gr.rf e) h3⟩
theorem o_h2b {x : H2 α β} {i : Int} (hi : i = 1) : Op2 ce E K (rIxL K) (rv K) x i (.ok x.b) := fun F1 H1 vx vy e rx ry Q q => by
  obtain ⟨p, u, w, rfl, h2, h3, h4⟩ := rx
  cases ry
  subst hi
  exact ⟨p, [u, w], 1, w, rfl, rfl, SqL.of (e _ _ h2), rfl, q F1 H1 w (Gr.rf e) h4⟩
theorem em_wd {x : Str} (h : PyData.canLay0 (.str x) = true) : Ev ce E (tC (.str x)) σ F H (rv K) (.ok (wd x)) := fun F1 H1 g Q q => q F1 H1 _ (Gr.rf g.fh) (by show V.str x = V.str (wd x).s; rw [wd_s h])
theorem wd_eq {x y : Wd} : decide (V.str x.s = V.str y.s) = decide (x = y) := by
  obtain ⟨x, hx⟩ := x
  obtain ⟨y, hy⟩ := y
  rw [Bool.eq_iff_iff]
  simp
theorem o_eqW {x y : Wd} : Op2 ce E K rEq (rv K) x y (.ok (decide (x = y))) := fun F1 H1 vx vy e rx ry Q q => by
  cases rx; cases ry
  refine ⟨rfl, ?_⟩
  rw [wd_eq]
  exact q F1 H1 _ (Gr.rf e) rfl
theorem o_neW {x y : Wd} : Op2 ce E K rNe (rv K) x y (.ok (!decide (x = y))) := fun F1 H1 vx vy e rx ry Q q => by
  cases rx; cases ry
  refine ⟨rfl, ?_⟩
  rw [wd_eq]
  exact q F1 H1 _ (Gr.rf e) rfl
end
end Mw

set_option Elab.async false
set_option linter.all false
set_option maxRecDepth 100000
set_option maxHeartbeats 2000000
/-! Mw, part N: quadruples; trees of triples over ints. -/
namespace Mw
open PySem L2
open Rep (rp)
instance {α β γ δ : Type} [Rep α] [Rep β] [Rep γ] [Rep δ] [DecidableEq α] [DecidableEq β] [DecidableEq γ] [DecidableEq δ] [Dat α] [Dat β] [Dat γ] [Dat δ] : Dat (T4 α β γ δ) where
  dat := fun x => .tuple [Dat.dat x.a, Dat.dat x.b, Dat.dat x.c, Dat.dat x.d]
  deep := max (Dat.deep α) (max (Dat.deep β) (max (Dat.deep γ) (Dat.deep δ))) + 1
  dp := fun {K H v x} ⟨a, u, w, z, y, h1, h2, h3, h4, h5, h6⟩ => by subst h1; exact .tup h2 (.cons (Dat.dp h3) (.cons (Dat.dp h4) (.cons (Dat.dp h5) (.cons (Dat.dp h6) .nil))))
  cl := fun x => by simp [PyData.canLay0, PyData.canLayAll0, Dat.cl]
  de := fun x => by
    show max (PyData.depth _) (max (PyData.depth _) (max (PyData.depth _) (max (PyData.depth _) 0))) + 1 ≤ _
    have h1 := Dat.de x.a
    have h2 := Dat.de x.b
    have h3 := Dat.de x.c
    have h4 := Dat.de x.d
    omega
  eq := fun x y => by
    obtain ⟨x1, x2, x3, x4⟩ := x
    obtain ⟨y1, y2, y3, y4⟩ := y
    simp only [PyData.eqv, PyData.eqvAll, Dat.eq, Bool.and_true, T4.mk.injEq]
    simp
instance {α β γ δ : Type} [Rep α] [Rep β] [Rep γ] [Rep δ] [DecidableEq α] [DecidableEq β] [DecidableEq γ] [DecidableEq δ] [Dat α] [Dat β] [Dat γ] [Dat δ] : NotN (T4 α β γ δ) := ⟨fun x => ⟨by show PyData.eqv .none (.tuple _) = false; simp [PyData.eqv], by show PyData.eqv (.tuple _) .none = false; simp [PyData.eqv]⟩⟩
section
variable {ρ α β γ δ W τ : Type} [Rep α] [Rep β] [Rep γ] [Rep δ] {ce : Ce} {E : XK} {K : PySem.W.Frag} {σ : L2.St} {F H F' H' F0 H0 : Hp} {te ta tb tc td : TE} {tt tu : TT} {md : Md ρ} {m : M ρ}
theorem em_tup4 {m1 : M α} {m2 : M β} {m3 : M γ} {m4 : M δ} (ha : Ev ce E ta σ F H (rv K) m1) (hb : Ev ce E tb σ F H (rv K) m2) (hc : Ev ce E tc σ F H (rv K) m3) (hd : Ev ce E td σ F H (rv K) m4) :
    Ev ce E (tTup (tCons ta (tCons tb (tCons tc (tCons td tNil))))) σ F H (rv K) (m1.bind fun x => m2.bind fun y => m3.bind fun z => m4.bind fun u => .ok (T4.mk x y z u)) := fun F1 H1 g1 Q q => by
  refine ha F1 H1 g1 _ ?_
  cases m1 with
  | ok x =>
    intro F2 H2 v2 g2 q2
    refine hb F2 H2 (g1.tr g2) _ ?_
    cases m2 with
    | ok y =>
      intro F3 H3 v3 g3 q3
      refine hc F3 H3 ((g1.tr g2).tr g3) _ ?_
      cases m3 with
      | ok z =>
        intro F4 H4 v4 g4 q4
        refine hd F4 H4 (((g1.tr g2).tr g3).tr g4) _ ?_
        cases m4 with
        | ok u =>
          refine fun F5 H5 v5 g5 q5 => ⟨by show 4 ≤ sizeLine; decide, fun p np => ?_⟩
          have e := Ex.nw (o := .tup [v2, v3, v4, v5]) (ex_back g5.fh np)
          exact q _ _ _ ((((g2.tr g3).tr g4).tr g5).tr (Gr.new g5.fh np)) ⟨p, v2, v3, v4, v5, rfl, SqT.of upd_same, Rep.mo (((g3.ff.tr g4.ff).tr g5.ff).tr e) q2, Rep.mo ((g4.ff.tr g5.ff).tr e) q3, Rep.mo (g5.ff.tr e) q4, Rep.mo e q5⟩
        | er c => exact fun H' e => q H' (((g2.tr g3).tr g4).hh.tr e)
        | bad => exact q
      | er c => exact fun H' e => q H' ((g2.tr g3).hh.tr e)
      | bad => exact q
    | er c => exact fun H' e => q H' (g2.hh.tr e)
    | bad => exact q
  | er c => exact q
  | bad => exact q
theorem e_tup4 {x : α} {y : β} {z : γ} {u : δ} (ha : Ev ce E ta σ F H (rv K) (.ok x)) (hb : Ev ce E tb σ F H (rv K) (.ok y)) (hc : Ev ce E tc σ F H (rv K) (.ok z)) (hd : Ev ce E td σ F H (rv K) (.ok u)) : Ev ce E (tTup (tCons ta (tCons tb (tCons tc (tCons td tNil))))) σ F H (rv K) (.ok (T4.mk x y z u)) := em_tup4 (m1 := .ok x) (m2 := .ok y) (m3 := .ok z) (m4 := .ok u) ha hb hc hd
theorem o_a4 {x : T4 α β γ δ} {i : Int} (hi : i = 0) : Op2 ce E K (rIxT K) (rv K) x i (.ok x.a) := fun F1 H1 vx vy e ⟨a, u, w, z, y, e1, e2, e3, e4, e5, e6⟩ ry Q q => by
  subst e1 hi
  cases ry
  exact ⟨a, [u, w, z, y], 0, u, rfl, rfl, ex_t e e2, rfl, q F1 H1 u (Gr.rf e) e3⟩
theorem o_b4 {x : T4 α β γ δ} {i : Int} (hi : i = 1) : Op2 ce E K (rIxT K) (rv K) x i (.ok x.b) := fun F1 H1 vx vy e ⟨a, u, w, z, y, e1, e2, e3, e4, e5, e6⟩ ry Q q => by
  subst e1 hi
  cases ry
  exact ⟨a, [u, w, z, y], 1, w, rfl, rfl, ex_t e e2, rfl, q F1 H1 w (Gr.rf e) e4⟩
theorem o_c4 {x : T4 α β γ δ} {i : Int} (hi : i = 2) : Op2 ce E K (rIxT K) (rv K) x i (.ok x.c) := fun F1 H1 vx vy e ⟨a, u, w, z, y, e1, e2, e3, e4, e5, e6⟩ ry Q q => by
  subst e1 hi
  cases ry
  exact ⟨a, [u, w, z, y], 2, z, rfl, rfl, ex_t e e2, rfl, q F1 H1 z (Gr.rf e) e5⟩
theorem o_d4 {x : T4 α β γ δ} {i : Int} (hi : i = 3) : Op2 ce E K (rIxT K) (rv K) x i (.ok x.d) := fun F1 H1 vx vy e ⟨a, u, w, z, y, e1, e2, e3, e4, e5, e6⟩ ry Q q => by
  subst e1 hi
  cases ry
  exact ⟨a, [u, w, z, y], 3, y, rfl, rfl, ex_t e e2, rfl, q F1 H1 y (Gr.rf e) e6⟩
theorem a_len4 {x : T4 α β γ δ} : OpA ce E (RC K R0) (rLenS K) (rv K) (x, ()) (.ok (4 : Int)) := fun F1 H1 vs e ⟨v, r, e1, ⟨a, u, w, z, y, h1, h2, h3, h4, h5, h6⟩, e3⟩ Q q => by
  cases e3
  subst e1 h1
  exact ⟨a, _, rfl, .inr (ex_t e h2), q F1 H1 _ (Gr.rf e) rfl⟩
def RTup4 (K : PySem.W.Frag) {α β γ δ : Type} [Rep α] [Rep β] [Rep γ] [Rep δ] (i j l n : Nat) : L2.St → Hp → L2.St → T4 α β γ δ → Prop := fun σ0 F σ2 x => ∃ u w z y, σ2 = (((σ0.set i (some u)).set j (some w)).set l (some z)).set n (some y) ∧ rp K F u x.a ∧ rp K F w x.b ∧ rp K F z x.c ∧ rp K F y x.d
theorem tg_tup4 {i j l n : Nat} : Tg K (α := T4 α β γ δ) (gTup K 4 (gCons (gName i) (gCons (gName j) (gCons (gName l) (gCons (gName n) gNil))))) (RTup4 K i j l n) := fun σ0 F H v x e ⟨a, u, w, z, y, h1, h2, h3, h4, h5, h6⟩ Q q =>
  ⟨a, [u, w, z, y], h1, ex_t e h2, rfl, u, [w, z, y], rfl, w, [z, y], rfl, z, [y], rfl, y, [], rfl, rfl, q _ ⟨u, w, z, y, rfl, h3, h4, h5, h6⟩⟩
theorem wipe4 {σ : L2.St} {i j l m : Nat} {u v w x : Option V} : wipe (((((wipe σ [i, j, l, m]).set i u).set j v).set l w).set m x) [i, j, l, m] = wipe σ [i, j, l, m] := by
  show (((((((((((σ.set m none).set l none).set j none).set i none).set i u).set j v).set l w).set m x).set m none).set l none).set j none).set i none = (((σ.set m none).set l none).set j none).set i none
  apply List.ext_getElem?
  intro n
  simp only [List.getElem?_set, List.length_set]
  by_cases a : i = n
  · subst a; simp
  · by_cases b : j = n
    · subst b; simp [a]
    · by_cases c : l = n
      · subst c; simp [a, b]
      · by_cases d : m = n
        · subst d; simp [a, b, c]
        · simp [a, b, c, d]
end
/-! ### a list of one's own is walked: lent to the loop, taken back behind it -/
section
variable {K : PySem.W.Frag} {F H F' H' F0 H0 F1 H1 : Hp} {T : Type} [Rep T] [Obj T]
theorem own_lend {p : Addr} {x : T} (G : Gr F0 H0 F H) (o : Own K F H p x) (n0 : H0 p = none) : ∃ F', Gr F0 H0 F' H ∧ Ex F F' ∧ rp K F' (.ref p) x ∧ (∀ q, q ≠ p → F' q = F q) ∧ F' p = H p := by
  obtain ⟨⟨u, h1, h2⟩, h3⟩ := o
  refine ⟨upd F p u, ⟨G.ff.tr (Ex.nw h3), fun a w e => ?_, G.hh, fun b a1 a2 => ?_⟩, Ex.nw h3, Obj.rep upd_same (Obj.mo (Ex.nw h3) h2), fun q hq => upd_ne hq, by rw [upd_same, h1]⟩
  · by_cases z : a = p
    · subst z; rw [upd_same] at e; rw [h1]; exact e
    · rw [upd_ne z] at e; exact G.fh a w e
  · have : b ≠ p := fun z => by subst z; exact a2 n0
    rw [upd_ne this]; exact G.nw b a1 a2
theorem own_back {p : Addr} {x : T} (o : Own K F H p x) (n0 : F0 p = none) (e : Ex F F') (hp : F' p = H p) (e1 : Ex F' F1) (G : Gr F0 H0 F1 H1) : ∃ Fu, Gr F0 H0 Fu H1 ∧ Ex F Fu ∧ Own K Fu H1 p x ∧ TupEx F1 Fu ∧ (∀ q, q ≠ p → Fu q = F1 q) := by
  obtain ⟨⟨u, h1, h2⟩, h3⟩ := o
  have a1 : F1 p = some u := e1 _ _ (by rw [hp]; exact h1)
  have a2 : H1 p = some u := G.fh _ _ a1
  have aq : ∀ q, q ≠ p → th F1 [p] q = F1 q := fun q hq => by unfold th; rw [if_neg (by simpa using hq)]
  have ap : th F1 [p] p = none := by unfold th; rw [if_pos (by simp)]
  have ee : Ex F (th F1 [p]) := fun a w h => by
    have : a ≠ p := fun z => by subst z; rw [h3] at h; cases h
    rw [aq a this]; exact e1 _ _ (e _ _ h)
  refine ⟨th F1 [p], ⟨fun a w h => ?_, fun a w h => ?_, G.hh, fun b b1 b2 => ?_⟩, ee, ⟨⟨u, a2, Obj.mo ee h2⟩, ap⟩, ?_, aq⟩
  · have : a ≠ p := fun z => by subst z; rw [n0] at h; cases h
    rw [aq a this]; exact G.ff a w h
  · have : a ≠ p := fun z => by subst z; rw [ap] at h; cases h
    rw [aq a this] at h; exact G.fh a w h
  · by_cases z : b = p
    · subst z; exact ap
    · rw [aq b z]; exact G.nw b b1 b2
  · refine th_tup fun q m xs r => ?_
    rw [List.mem_singleton.mp m] at r
    have nt := Obj.nt h2
    rcases r with r | ⟨w, r⟩
    · rw [a1] at r; exact nt.1 xs (Option.some.inj r)
    · rw [a1] at r; exact nt.2 w xs (Option.some.inj r)
theorem own_fl {α : Type} [Rep α] [Flat α] {q : Addr} {x : List α} (o : Own K F H q x) (e : TupEx F F') (h : F' q = F q) : Own K F' H q x := by
  obtain ⟨⟨u, h1, vs, h2, h4⟩, h3⟩ := o
  exact ⟨⟨u, h1, vs, h2, paired_fl e h4⟩, by rw [h]; exact h3⟩
end
/-! ### trees -/
inductive Tr where
  | lf (n : Int)
  | nd (s : Int) (a b : Tr)
  deriving DecidableEq
def Tr.isN : Tr → Bool
  | .lf _ => false
  | .nd _ _ _ => true
def rTr (K : PySem.W.Frag) (H : Hp) : Tr → V → Prop
  | .lf n, v => v = .int n
  | .nd s a b, v => ∃ p w z, v = .ref p ∧ SqT K H p [.int s, w, z] ∧ rTr K H a w ∧ rTr K H b z
theorem rTr_mo {K : PySem.W.Frag} {H H' : Hp} (e : Ex H H') : ∀ {x : Tr} {v : V}, rTr K H x v → rTr K H' x v
  | .lf _, _, h => h
  | .nd _ _ _, _, ⟨p, w, z, h1, h2, h3, h4⟩ => ⟨p, w, z, h1, ex_t e h2, rTr_mo e h3, rTr_mo e h4⟩
instance : Rep Tr := ⟨fun K H v x => rTr K H x v, fun e h => rTr_mo e h⟩
theorem rTr_fl {K : PySem.W.Frag} {H H' : Hp} (e : TupEx H H') : ∀ {x : Tr} {v : V}, rTr K H x v → rTr K H' x v
  | .lf _, _, h => h
  | .nd _ _ _, _, ⟨p, w, z, h1, h2, h3, h4⟩ => ⟨p, w, z, h1, tup_t e h2, rTr_fl e h3, rTr_fl e h4⟩
instance : Flat Tr := ⟨fun e h => rTr_fl e h⟩
instance : NN Tr := ⟨fun {K F v x} h => by
  cases x with
  | lf n => rw [show v = .int n from h]; exact fun z => nomatch z
  | nd s a b => obtain ⟨p, w, z, h1, _⟩ := h; rw [h1]; exact fun z => nomatch z⟩
def trI : Tr → M Int
  | .lf n => .ok n
  | .nd _ _ _ => .bad
def trA : Tr → M Int
  | .nd s _ _ => .ok s
  | .lf _ => .bad
def trK : Tr → Int → M Tr
  | .nd s a b, i => if i = 0 then .ok (.lf s) else if i = 1 then .ok a else if i = 2 then .ok b else .bad
  | .lf _, _ => .bad
section
variable {ρ : Type} {ce : Ce} {E : XK} {K : PySem.W.Frag} {σ : L2.St} {F H F' H' F0 H0 : Hp} {te ta tb tc td : TE} {tt tu : TT}
theorem em_trl {m : M Int} (h : Ev ce E te σ F H (rv K) m) : Ev ce E te σ F H (rv K) (m.bind fun x => .ok (Tr.lf x)) := fun F1 H1 g1 Q q => by
  refine h F1 H1 g1 _ ?_
  cases m with
  | ok x => exact fun F2 H2 v g2 r => q F2 H2 v g2 r
  | er c => exact q
  | bad => exact q
theorem e_trl {x : Int} (h : Ev ce E te σ F H (rv K) (.ok x)) : Ev ce E te σ F H (rv K) (.ok (Tr.lf x)) := em_trl (m := .ok x) h
theorem em_trn {m : M (T3 Int Tr Tr)} (h : Ev ce E te σ F H (rv K) m) : Ev ce E te σ F H (rv K) (m.bind fun x => .ok (Tr.nd x.a x.b x.c)) := fun F1 H1 g1 Q q => by
  refine h F1 H1 g1 _ ?_
  cases m with
  | ok x =>
    intro F2 H2 v g2 ⟨a, u, w, z, h1, h2, h3, h4, h5⟩
    have h3' : u = .int x.a := h3
    exact q F2 H2 v g2 ⟨a, w, z, h1, by rw [← h3']; exact h2, h4, h5⟩
  | er c => exact q
  | bad => exact q
theorem e_trn {x : T3 Int Tr Tr} (h : Ev ce E te σ F H (rv K) (.ok x)) : Ev ce E te σ F H (rv K) (.ok (Tr.nd x.a x.b x.c)) := em_trn (m := .ok x) h
theorem em_trI {m : M Tr} (h : Ev ce E te σ F H (rv K) m) : Ev ce E te σ F H (rv K) (m.bind trI) := fun F1 H1 g1 Q q => by
  refine h F1 H1 g1 _ ?_
  cases m with
  | ok x =>
    cases x with
    | lf n => exact fun F2 H2 v g2 r => q F2 H2 v g2 r
    | nd s a b => exact q.elim
  | er c => exact q
  | bad => exact q
theorem o_trA {x : Tr} {i : Int} (hi : i = 0) : Op2 ce E K (rIxT K) (rv K) x i (trA x) := fun F1 H1 vx vy e rx ry Q q => by
  subst hi
  cases ry
  cases x with
  | lf n => exact q.elim
  | nd s a b =>
    obtain ⟨p, w, z, h1, h2, h3, h4⟩ := rx
    subst h1
    exact ⟨p, [.int s, w, z], 0, .int s, rfl, rfl, ex_t e h2, rfl, q F1 H1 _ (Gr.rf e) rfl⟩
theorem o_trK {x : Tr} {i : Int} : Op2 ce E K (rIxT K) (rv K) x i (trK x i) := fun F1 H1 vx vy e rx ry Q q => by
  cases ry
  cases x with
  | lf n => exact q.elim
  | nd s a b =>
    obtain ⟨p, w, z, h1, h2, h3, h4⟩ := rx
    subst h1
    by_cases c0 : i = 0
    · subst c0
      exact ⟨p, [.int s, w, z], 0, .int s, rfl, rfl, ex_t e h2, rfl, q F1 H1 _ (Gr.rf e) rfl⟩
    · by_cases c1 : i = 1
      · subst c1
        exact ⟨p, [.int s, w, z], 1, w, rfl, rfl, ex_t e h2, rfl, q F1 H1 _ (Gr.rf e) h3⟩
      · by_cases c2 : i = 2
        · subst c2
          exact ⟨p, [.int s, w, z], 2, z, rfl, rfl, ex_t e h2, rfl, q F1 H1 _ (Gr.rf e) h4⟩
        · rw [show trK (.nd s a b) i = .bad from by unfold trK; dsimp only; rw [if_neg c0, if_neg c1, if_neg c2]] at q
          exact q.elim
/-- one plain operand's place, that may fail -/
theorem em_ixm {α β γ : Type} [Rep α] [Rep β] [Rep γ] {r : R2} {m1 : M α} {y : β} {g : α → M γ} (ha : Ev ce E ta σ F H (rv K) m1) (hb : Ev ce E tb σ F H (rv K) (.ok y)) (hr : ∀ x, Op2 ce E K r (rv K) x y (g x)) : Ev ce E (tOp r ta tb) σ F H (rv K) (m1.bind g) := fun F1 H1 g1 Q q => by
  refine ha F1 H1 g1 _ ?_
  cases m1 with
  | ok x => exact fun F2 H2 vx g2 rx => hb F2 H2 (g1.tr g2) _ fun F3 H3 vy g3 ry => hr x F3 H3 vx vy g3.fh (Rep.mo g3.ff rx) ry Q (Post.mo (g2.tr g3) q)
  | er c => exact q
  | bad => exact q
theorem em_isiT {m : M Tr} {n : String} {b c : Bool} (ha : Ev ce E ta σ F H (rv K) m) (hn : PySem.W.kitOne K (.type "int") (.type n) = some c) (hb : PySem.W.kitOne K (.type "tuple") (.type n) = some b) :
    Ev ce E (tCB (rIsi K) (tCons ta (tCons (tC (.ty n)) tNil))) σ F H (rv K) (m.bind fun x => .ok (if x.isN then b else c)) := fun F1 H1 g1 Q q => by
  refine ha F1 H1 g1 _ ?_
  cases m with
  | ok x =>
    intro F2 H2 v g2 r
    cases x with
    | lf i => cases (show v = .int i from r); exact ⟨_, .ty n, _, _, c, rfl, .ty n, .base (.int i), hn, q F2 H2 _ g2 rfl⟩
    | nd s a d =>
      obtain ⟨p, w, z, h1, h2, h3, h4⟩ := r
      subst h1
      exact ⟨_, .ty n, _, _, b, rfl, .ty n, tyx_tup g2.fh h2, hb, q F2 H2 _ g2 rfl⟩
  | er c => exact q
  | bad => exact q
end
end Mw

set_option Elab.async false
set_option linter.all false
set_option maxRecDepth 100000
set_option maxHeartbeats 2000000
/-! Mw, part O: script + [..]. -/
namespace Mw
open PySem L2
open Rep (rp)
def rCatL (K : PySem.W.Frag) : R2 := fun x y H Q => ∃ l b xs zs, x = V.ref l ∧ y = V.ref b ∧ SqL K H l xs ∧ SqL K H b zs ∧ xs.length + zs.length ≤ sizeLine ∧ ∀ p, H p = none → Q (V.ref p) (upd H p (HO.lst (xs ++ zs)))
theorem op_catL {X : Cx} : OpR X (binaryOp .Add) (rCatL X.K) := by
  intro pins s σ H x y v u Q I rx ry h
  obtain ⟨l, b, xs, zs, rfl, rfl, h1, h2, hz, q⟩ := h
  cases rx
  cases ry
  obtain ⟨i1, r1, p1, l1⟩ := I.list h1
  obtain ⟨i2, r2, p2, l2⟩ := I.list h2
  obtain ⟨⟨c1, d1, a1, s1⟩, n1, g1, hc1, hd1, ha1⟩ := p1
  obtain ⟨⟨c2, d2, a2, s2⟩, n2, g2, hc2, hd2, ha2⟩ := p2
  dsimp only at hc1 hd1 ha1 hc2 hd2 ha2
  subst hc1 ha1 hc2 ha2
  have e1 := r1.length
  have e2 := r2.length
  refine concat_meets ⟨_, g1, rfl⟩ ⟨_, g2, rfl⟩ noFill_list_add seq_list_add PySem.F.slot_list_add PySem.F.entry_list_add (PySem.F.args_list_add_2 (Value.ref l) (Value.ref b)) (PyProof.Rows.list_addW l b i1.toArray i2.toArray n1 n2 d1 d2 s1 s2 (by simp; omega)) ⟨g1, g2, ?_⟩
  rw [List.append_toArray]
  exact ⟨V.ref s.heap.objs.size, upd H s.heap.objs.size (HO.lst (xs ++ zs)), I.lnew (r1.append r2) (by rw [List.length_append]; exact hz), rfl, q s.heap.objs.size I.fresh⟩
section
variable {ce : Ce} {E : XK} {K : PySem.W.Frag}
theorem o_catS {xs : Scr} {ys : List Int} : Op2 ce E K (rCatL K) (rn K) xs ys (catM xs.l ys) := fun F1 H1 vx vy e ⟨a, h1, h2⟩ ⟨b, ws, k1, k2, k3⟩ Q q => by
  unfold catM chk at q
  split at q
  · rename_i hc
    refine ⟨a, b, _, ws, h1, k1, ex_l e h2, SqL.of (e _ _ k2), ?_, fun p np => ?_⟩
    · rw [Paired.length k3, List.length_map, sizeLine_eq]; omega
    · exact q F1 _ _ (Gr.own e np) ⟨p, _, rfl, np, ex_back e np, upd_same, paired_app (rep_int xs.l) k3⟩
  · exact q.elim
end
/-- a loop by what is known behind each turn -/
theorem forM_by {α S τ : Type} {f : α → S → M (Ctl S τ)} {k : S → M τ} {P : M τ → Prop} (J : List α → S → Prop) {xs : List α} {s : S} (h0 : J [] s)
    (hs : ∀ p x s, (p ++ [x]) <+: xs → J p s → ∃ s', f x s = .ok (.nx s') ∧ J (p ++ [x]) s') (hk : ∀ s', J xs s' → P (k s')) : P (forM f k xs s) := by
  obtain ⟨s', h1, e⟩ := forM_ex (f := f) (k := k) J xs [] s h0 hs
  rw [e]
  exact hk s' h1
/-! ### a list of three unlike things -/
structure H3 (α β γ : Type) where
  a : α
  b : β
  c : γ
  deriving DecidableEq
instance {α β γ : Type} [Rep α] [Rep β] [Rep γ] : Rep (H3 α β γ) := ⟨fun K H v x => ∃ p u w z, v = .ref p ∧ H p = some (.lst [u, w, z]) ∧ rp K H u x.a ∧ rp K H w x.b ∧ rp K H z x.c, fun e ⟨p, u, w, z, h1, h2, h3, h4, h5⟩ => ⟨p, u, w, z, h1, e _ _ h2, Rep.mo e h3, Rep.mo e h4, Rep.mo e h5⟩⟩
instance {α β γ : Type} [Rep α] [Rep β] [Rep γ] [DecidableEq α] [DecidableEq β] [DecidableEq γ] [Dat α] [Dat β] [Dat γ] : Dat (H3 α β γ) where
  dat := fun x => .list [Dat.dat x.a, Dat.dat x.b, Dat.dat x.c]
  deep := max (Dat.deep α) (max (Dat.deep β) (Dat.deep γ)) + 1
  dp := fun {K H v x} ⟨a, u, w, z, h1, h2, h3, h4, h5⟩ => by subst h1; exact .lst (SqL.of h2) (.cons (Dat.dp h3) (.cons (Dat.dp h4) (.cons (Dat.dp h5) .nil)))
  cl := fun x => by simp [PyData.canLay0, PyData.canLayAll0, Dat.cl]
  de := fun x => by
    show max (PyData.depth _) (max (PyData.depth _) (max (PyData.depth _) 0)) + 1 ≤ _
    have h1 := Dat.de x.a
    have h2 := Dat.de x.b
    have h3 := Dat.de x.c
    omega
  eq := fun x y => by
    obtain ⟨x1, x2, x3⟩ := x
    obtain ⟨y1, y2, y3⟩ := y
    simp only [PyData.eqv, PyData.eqvAll, Dat.eq, Bool.and_true, H3.mk.injEq]
    simp
section
variable {α β γ : Type} [Rep α] [Rep β] [Rep γ] {ce : Ce} {E : XK} {K : PySem.W.Frag} {σ : L2.St} {F H : Hp} {ta tb tc : TE}
theorem em_h3 {m1 : M α} {m2 : M β} {m3 : M γ} (ha : Ev ce E ta σ F H (rv K) m1) (hb : Ev ce E tb σ F H (rv K) m2) (hc : Ev ce E tc σ F H (rv K) m3) : Ev ce E (tLst (tCons ta (tCons tb (tCons tc tNil)))) σ F H (rv K) (m1.bind fun x => m2.bind fun y => m3.bind fun z => .ok (H3.mk x y z)) := fun F1 H1 g1 Q q => by
  refine ha F1 H1 g1 _ ?_
  cases m1 with
  | ok x =>
    intro F2 H2 v2 g2 q2
    refine hb F2 H2 (g1.tr g2) _ ?_
    cases m2 with
    | ok y =>
      intro F3 H3 v3 g3 q3
      refine hc F3 H3 ((g1.tr g2).tr g3) _ ?_
      cases m3 with
      | ok z =>
        refine fun F4 H4 v4 g4 q4 => ⟨by show 3 ≤ sizeLine; decide, fun p np => ?_⟩
        have e := Ex.nw (o := .lst [v2, v3, v4]) (ex_back g4.fh np)
        exact q _ _ _ (((g2.tr g3).tr g4).tr (Gr.new g4.fh np)) ⟨p, v2, v3, v4, rfl, upd_same, Rep.mo ((g3.ff.tr g4.ff).tr e) q2, Rep.mo (g4.ff.tr e) q3, Rep.mo e q4⟩
      | er c => exact fun H' e => q H' ((g2.tr g3).hh.tr e)
      | bad => exact q
    | er c => exact fun H' e => q H' (g2.hh.tr e)
    | bad => exact q
  | er c => exact q
  | bad => exact q
theorem e_h3 {x : α} {y : β} {z : γ} (ha : Ev ce E ta σ F H (rv K) (.ok x)) (hb : Ev ce E tb σ F H (rv K) (.ok y)) (hc : Ev ce E tc σ F H (rv K) (.ok z)) : Ev ce E (tLst (tCons ta (tCons tb (tCons tc tNil)))) σ F H (rv K) (.ok (H3.mk x y z)) := em_h3 (m1 := .ok x) (m2 := .ok y) (m3 := .ok z) ha hb hc
theorem o_h3a {x : H3 α β γ} {i : Int} (hi : i = 0) : Op2 ce E K (rIxL K) (rv K) x i (.ok x.a) := fun F1 H1 vx vy e rx ry Q q => by
  obtain ⟨p, u, w, z, rfl, h2, h3, h4, h5⟩ := rx
  cases ry
  subst hi
  exact ⟨p, [u, w, z], 0, u, rfl, rfl, SqL.of (e _ _ h2), rfl, q F1 H1 u (Gr.rf e) h3⟩
theorem o_h3b {x : H3 α β γ} {i : Int} (hi : i = 1) : Op2 ce E K (rIxL K) (rv K) x i (.ok x.b) := fun F1 H1 vx vy e rx ry Q q => by
  obtain ⟨p, u, w, z, rfl, h2, h3, h4, h5⟩ := rx
  cases ry
  subst hi
  exact ⟨p, [u, w, z], 1, w, rfl, rfl, SqL.of (e _ _ h2), rfl, q F1 H1 w (Gr.rf e) h4⟩
theorem o_h3c {x : H3 α β γ} {i : Int} (hi : i = 2) : Op2 ce E K (rIxL K) (rv K) x i (.ok x.c) := fun F1 H1 vx vy e rx ry Q q => by
  obtain ⟨p, u, w, z, rfl, h2, h3, h4, h5⟩ := rx
  cases ry
  subst hi
  exact ⟨p, [u, w, z], 2, z, rfl, rfl, SqL.of (e _ _ h2), rfl, q F1 H1 z (Gr.rf e) h5⟩
end
end Mw

set_option Elab.async false
set_option linter.all false
set_option maxRecDepth 100000
set_option maxHeartbeats 2000000
/-! Mw, part P: tests over one's own lists; rows of ints and words; a parameter of one's own; the object with parts and rows. -/
namespace Mw
open PySem L2
open Rep (rp)
section
variable {ce : Ce} {E : XK} {K : PySem.W.Frag} {σ : L2.St} {F H : Hp} {tt : TT}
/-- a test that reads lists of one's own -/
theorem t_lend (A : List Addr) {m : M Bool} (hF : ∀ p ∈ A, F p = none) (hA : ∀ p ∈ A, ∃ o, H p = some o ∧ NoTup o) (h : EvT ce E tt σ (fz F H A) H m) : EvT ce E tt σ F H m := fun F1 H1 g Q q => by
  have hA' : ∀ p ∈ A, H p ≠ none := fun p m => by obtain ⟨o, e, _⟩ := hA p m; rw [e]; exact fun z => nomatch z
  have hF1 : ∀ p ∈ A, F1 p = none := fun p m => g.nw p (hF p m) (hA' p m)
  have hA1 : ∀ p ∈ A, H1 p ≠ none := fun p m => g.hh.ne (hA' p m)
  have gz : Gr (fz F H A) H (fz F1 H1 A) H1 := ⟨fun a o e => by
    unfold fz at e ⊢
    split
    · rename_i c; rw [if_pos c] at e; exact g.hh a o e
    · rename_i c; rw [if_neg c] at e; exact g.ff a o e, fz_h g.fh, g.hh, fun b h1 h2 => by
    unfold fz at h1 ⊢
    split
    · rename_i c; rw [if_pos c] at h1; exact absurd h1 h2
    · rename_i c; rw [if_neg c] at h1; exact g.nw b h1 h2⟩
  refine h (fz F1 H1 A) H1 gz Q ?_
  cases m with
  | ok r => exact fun F2 H2 g2 => q (th F2 A) H2 (gr_th hF1 hA1 g.fh g2)
  | er c => exact q
  | bad => exact q
end
/-! ### cells and rows -/
inductive Cl where
  | i (n : Int)
  | w (s : Wd)
  deriving DecidableEq
def rCl : Cl → V → Prop
  | .i n, v => v = .int n
  | .w s, v => v = .str s.s
instance : Rep Cl := ⟨fun _ _ v x => rCl x v, fun _ h => h⟩
instance : Flat Cl := ⟨fun _ h => h⟩
instance : NN Cl := ⟨fun {K F v x} h => by
  cases x with
  | i n => rw [show v = .int n from h]; exact fun z => nomatch z
  | w s => rw [show v = .str s.s from h]; exact fun z => nomatch z⟩
instance : Dat Cl where
  dat := fun x => match x with
    | .i n => .int n
    | .w s => .str s.s
  deep := 0
  dp := fun {K H v x} h => by
    cases x with
    | i n => rw [show v = .int n from h]; exact .int n
    | w s => rw [show v = .str s.s from h]; exact .str s.s
  cl := fun x => by
    cases x with
    | i n => rfl
    | w s => exact s.ok
  de := fun x => by cases x <;> exact Nat.le_refl _
  eq := fun x y => by
    rw [Bool.eq_iff_iff]
    cases x with
    | i n => cases y <;> simp [PyData.eqv]
    | w s =>
      cases y with
      | i n => simp [PyData.eqv]
      | w t =>
        obtain ⟨s, hs⟩ := s
        obtain ⟨t, ht⟩ := t
        simp [PyData.eqv]
structure Row where
  cs : List Cl
  deriving DecidableEq
instance : Rep Row := ⟨fun K H v x => ∃ a vs, v = .ref a ∧ SqT K H a vs ∧ Paired (rp K H) vs x.cs, fun e ⟨a, vs, h1, h2, h3⟩ => ⟨a, vs, h1, ex_t e h2, paired_mo e h3⟩⟩
instance : Flat Row := ⟨fun e ⟨a, vs, h1, h2, h3⟩ => ⟨a, vs, h1, tup_t e h2, paired_fl e h3⟩⟩
instance : NN Row := ⟨fun ⟨a, vs, h1, _⟩ => by subst h1; exact fun z => nomatch z⟩
instance : Dat Row where
  dat := fun x => .tuple (x.cs.map Dat.dat)
  deep := 1
  dp := fun {K H v x} ⟨a, vs, h1, h2, h3⟩ => by subst h1; exact .tup h2 (dpAll_of h3)
  cl := fun x => by simpa [PyData.canLay0] using clAll x.cs
  de := fun x => by
    show PyData.depthAll (x.cs.map Dat.dat) + 1 ≤ _
    exact Nat.succ_le_succ (deAll x.cs)
  eq := fun x y => by
    obtain ⟨x⟩ := x
    obtain ⟨y⟩ := y
    simpa [PyData.eqv] using eqAll x y
instance : NotN Row := ⟨fun x => ⟨by show PyData.eqv .none (.tuple _) = false; simp [PyData.eqv], by show PyData.eqv (.tuple _) .none = false; simp [PyData.eqv]⟩⟩
def clI : Cl → M Int
  | .i n => .ok n
  | .w _ => .bad
section
variable {α β γ ρ : Type} [Rep α] [Rep β] [Rep γ] {ce : Ce} {E : XK} {K : PySem.W.Frag} {σ : L2.St} {F H F' H' F0 H0 : Hp} {te ta tb tc td : TE} {tt tu : TT}
instance : Ty Row := ⟨"tuple", fun {K F H v x} e ⟨a, vs, h1, h2, _⟩ => by subst h1; exact tyx_tup e h2⟩
theorem em_clI {m : M Cl} (h : Ev ce E te σ F H (rv K) m) : Ev ce E te σ F H (rv K) (m.bind clI) := fun F1 H1 g1 Q q => by
  refine h F1 H1 g1 _ ?_
  cases m with
  | ok x =>
    cases x with
    | i n => exact fun F2 H2 v g2 r => q F2 H2 v g2 r
    | w s => exact q.elim
  | er c => exact q
  | bad => exact q
theorem em_cli {m : M Int} (h : Ev ce E te σ F H (rv K) m) : Ev ce E te σ F H (rv K) (m.bind fun x => .ok (Cl.i x)) := fun F1 H1 g1 Q q => by
  refine h F1 H1 g1 _ ?_
  cases m with
  | ok x => exact fun F2 H2 v g2 r => q F2 H2 v g2 r
  | er c => exact q
  | bad => exact q
theorem e_cli {x : Int} (h : Ev ce E te σ F H (rv K) (.ok x)) : Ev ce E te σ F H (rv K) (.ok (Cl.i x)) := em_cli (m := .ok x) h
theorem em_clw {m : M Wd} (h : Ev ce E te σ F H (rv K) m) : Ev ce E te σ F H (rv K) (m.bind fun x => .ok (Cl.w x)) := fun F1 H1 g1 Q q => by
  refine h F1 H1 g1 _ ?_
  cases m with
  | ok x => exact fun F2 H2 v g2 r => q F2 H2 v g2 r
  | er c => exact q
  | bad => exact q
theorem e_clw {x : Wd} (h : Ev ce E te σ F H (rv K) (.ok x)) : Ev ce E te σ F H (rv K) (.ok (Cl.w x)) := em_clw (m := .ok x) h
theorem o_rowix {xs : Row} {i : Int} : Op2 ce E K (rIxT K) (rv K) xs i (ixM xs.cs i) := fun F1 H1 vx vy e ⟨a, vs, h1, h2, h3⟩ ry Q q => by
  subst h1
  cases ry
  unfold ixM at q
  split at q
  · rename_i x hx
    obtain ⟨v, hv, rv'⟩ := atI_pair h3 hx
    exact ⟨a, vs, i, v, rfl, rfl, ex_t e h2, hv, q F1 H1 v (Gr.rf e) rv'⟩
  · exact q.elim
theorem a_lenR {x : Row} : OpA ce E (RC K R0) (rLenS K) (rv K) (x, ()) (.ok (x.cs.length : Int)) := fun F1 H1 vs e ⟨v, r, e1, ⟨a, us, h1, h2, h3⟩, e3⟩ Q q => by
  cases e3
  subst e1 h1
  refine ⟨a, _, rfl, .inr (ex_t e h2), ?_⟩
  rw [Paired.length h3]
  exact q F1 H1 _ (Gr.rf e) rfl
theorem em_row {ta : TA} {m : M (List Cl)} (ha : EvL ce E K ta σ F H m) : Ev ce E (tTup ta) σ F H (rv K) (m.bind fun x => chk (x.length ≤ 1000) (Row.mk x)) := fun F1 H1 g1 Q q => by
  refine ha F1 H1 g1 _ ?_
  cases m with
  | ok x =>
    have q' : Post ce (rv K) (chk (x.length ≤ 1000) (Row.mk x)) F1 H1 Q E := q
    unfold chk at q'
    intro F2 H2 vs g2 r2
    by_cases hx : x.length ≤ 1000
    · rw [if_pos hx] at q'
      refine ⟨Nat.le_of_lt (small1000 (by rw [Paired.length r2]; exact hx)), fun p np => ?_⟩
      have e := Ex.nw (o := .tup vs) (ex_back g2.fh np)
      exact q' _ _ _ (g2.tr (Gr.new g2.fh np)) ⟨p, vs, rfl, SqT.of upd_same, paired_mo e r2⟩
    · rw [if_neg hx] at q'
      exact q'.elim
  | er c => exact q
  | bad => exact q
end
/-! ### a parameter of one's own: the first one -/
def SpO (ce : Ce) (K : PySem.W.Frag) {α β ρ : Type} [Rep α] (R : Hp → List V → β → Prop) (md : Md ρ) (f : List α × β → M ρ) : Sp := fun vs H Q E => ∃ F H0 p us x y r, vs = .ref p :: r ∧ Ex F H0 ∧ H0 p = none ∧ H = upd H0 p (.lst us) ∧ Paired (rp K F) us x ∧ R F r y ∧ Post ce md (f (x, y)) F H0 Q E
def SpO0 (ce : Ce) (K : PySem.W.Frag) {α β ρ : Type} [Rep α] (R : Hp → List V → β → Prop) (md : Md ρ) (f : List α × β → M ρ) : Sp := fun vs H Q _ => ∃ F H0 p us x y r, vs = .ref p :: r ∧ Ex F H0 ∧ H0 p = none ∧ H = upd H0 p (.lst us) ∧ Paired (rp K F) us x ∧ R F r y ∧ Post ce md (f (x, y)) F H0 Q E0
section
variable {α β ρ : Type} [Rep α] {ce : Ce} {E : XK} {K : PySem.W.Frag} {σ : L2.St} {F H : Hp} {ta : TE} {tr : TA} {md : Md ρ}
theorem own_start {p : Addr} {us : List V} {x : List α} (e : Ex F H) (h : H p = none) (r : Paired (rp K F) us x) : Gr F H F (upd H p (.lst us)) ∧ Own K F (upd H p (.lst us)) p x :=
  ⟨Gr.own e h, ⟨⟨.lst us, upd_same, us, rfl, r⟩, ex_back e h⟩⟩
theorem callO [MdMo md] {m1 : M (List α)} {m2 : M β} {R : Hp → List V → β → Prop} {f : List α × β → M ρ} {Ec : XK} {P : List V → Hp → VK → Prop}
    (hP : ∀ F1 H1 p us x y r (Q : VK), Ex F1 H1 → H1 p = none → Paired (rp K F1) us x → R F1 r y → Post ce md (f (x, y)) F1 H1 Q E → P (.ref p :: r) (upd H1 p (.lst us)) Q)
    (ha : Ev ce E ta σ F H (rn K) m1) (hb : EvAM ce E tr σ F H m2 R) : ∀ F1 H1, Gr F H F1 H1 → ∀ Q : VK, Post ce md (m1.bind fun x => m2.bind fun y => f (x, y)) F1 H1 Q E → tCons ta tr σ H1 fun vs H2 => P vs H2 Q := fun F1 H1 g1 Q q => by
  refine ha F1 H1 g1 _ ?_
  cases m1 with
  | ok x =>
    rintro F2 H2 v g2 ⟨p, us, rfl, p1, p2, p3, p4⟩
    refine hb F2 H2 (g1.tr g2) _ ?_
    cases m2 with
    | ok y =>
      intro F3 H3 vs g3 r3
      have n3 : F3 p = none := g3.nw p p2 (by rw [p3]; exact fun z => nomatch z)
      have h3 : H3 p = some (.lst us) := g3.hh _ _ p3
      have eH : H3 = upd (th H3 [p]) p (.lst us) := by
        funext b
        by_cases z : b = p
        · subst z; rw [upd_same, h3]
        · rw [upd_ne z]; unfold th; rw [if_neg (by simpa using z)]
      have tp : th H3 [p] p = none := by unfold th; rw [if_pos (by simp)]
      have tq : ∀ b, b ≠ p → th H3 [p] b = H3 b := fun b z => by unfold th; rw [if_neg (by simpa using z)]
      have e3 : Ex F3 (th H3 [p]) := fun a o h => by
        have : a ≠ p := fun z => by subst z; rw [n3] at h; cases h
        rw [tq a this]; exact g3.fh a o h
      have gg : Gr F1 H1 F3 (th H3 [p]) := ⟨(g2.tr g3).ff, e3, fun a o h => by
        have : a ≠ p := fun z => by subst z; rw [p1] at h; cases h
        rw [tq a this]; exact (g2.tr g3).hh a o h, (g2.tr g3).nw⟩
      rw [eH]
      exact hP F3 (th H3 [p]) p us x y vs Q e3 tp (paired_mo g3.ff p4) r3 (Post.mo gg q)
    | er c => exact fun H' e => q H' (g2.hh.tr e)
    | bad => exact q
  | er c => exact q
  | bad => exact q
theorem em_callO0 [MdMo md] {m1 : M (List α)} {m2 : M β} {R : Hp → List V → β → Prop} {f : List α × β → M ρ} (ha : Ev ce E ta σ F H (rn K) m1) (hb : EvAM ce E tr σ F H m2 R) :
    Ev ce E (tCall (SpO0 ce K R md f) [] E0 (tCons ta tr)) σ F H md (m1.bind fun x => m2.bind fun y => (f (x, y)).ne) := fun F1 H1 g1 Q q =>
  callO (md := md) (f := fun a => (f a).ne) (P := fun vs H Q => SpO0 ce K R md f (vs ++ []) H Q E0) (Ec := E) (fun F1 H1 p us x y r Q e n pr rr q => by
    rw [List.append_nil]
    exact ⟨F1, H1, p, us, x, y, r, rfl, e, n, rfl, pr, rr, post_ne q⟩) ha hb F1 H1 g1 Q q
theorem em_callOX [MdMo md] {m1 : M (List α)} {m2 : M β} {R : Hp → List V → β → Prop} {f : List α × β → M ρ} (ha : Ev ce E ta σ F H (rn K) m1) (hb : EvAM ce E tr σ F H m2 R) :
    Ev ce E (tCall (SpO ce K R md f) [] E (tCons ta tr)) σ F H md (m1.bind fun x => m2.bind fun y => f (x, y)) := fun F1 H1 g1 Q q =>
  callO (md := md) (f := f) (P := fun vs H Q => SpO ce K R md f (vs ++ []) H Q E) (Ec := E) (fun F1 H1 p us x y r Q e n pr rr q => by
    rw [List.append_nil]
    exact ⟨F1, H1, p, us, x, y, r, rfl, e, n, rfl, pr, rr, q⟩) ha hb F1 H1 g1 Q q
end
/-! ### an object that is being made; the works -/
structure RawO where
  C : Addr
  dx : Addr
  fs : List (Str × V)
instance : Rep RawO := ⟨fun _ H v x => ∃ p, v = .ref p ∧ H p = some (.ins x.C x.dx x.fs), fun e ⟨p, h1, h2⟩ => ⟨p, h1, e _ _ h2⟩⟩
instance : Obj RawO where
  ho := fun _ _ o x => o = .ins x.C x.dx x.fs
  mo := fun _ h => h
  rep := fun {K H p o x} e h => ⟨p, rfl, by rw [e, h]⟩
  nt := fun {K H o x} h => by subst h; exact ⟨(fun _ z => nomatch z), (fun _ _ z => nomatch z)⟩
structure Wk where
  parts : Int
  rows : List Row
instance : Rep Wk := ⟨fun K H v x => ∃ a C dx fs u w, v = .ref a ∧ H a = some (.ins C dx fs) ∧ Cls K C ∧ NoAttr K C "parts" ∧ NoAttr K C "rows" ∧ fs.lookup ("parts" : Str) = some u ∧ fs.lookup ("rows" : Str) = some w ∧ rp K H u x.parts ∧ rp K H w x.rows,
  fun e ⟨a, C, dx, fs, u, w, h1, h2, h3, h4, h5, h6, h7, h8, h9⟩ => ⟨a, C, dx, fs, u, w, h1, e _ _ h2, h3, h4, h5, h6, h7, Rep.mo e h8, Rep.mo e h9⟩⟩
instance : NN Wk := ⟨fun ⟨a, _, _, _, _, _, h1, _⟩ => by subst h1; exact fun z => nomatch z⟩
section
variable {ρ τ : Type} [Rep ρ] {ce : Ce} {E : XK} {K : PySem.W.Frag} {σ : L2.St} {F H F0 H0 : Hp} {te ta : TE} {md : Md ρ} {D : Ends} {P : τ → Prop}
theorem em_wkp {m : M Wk} (ha : Ev ce E ta σ F H (rv K) m) : Ev ce E (tFld K ta "parts") σ F H (rv K) (m.bind fun x => .ok x.parts) := fun F1 H1 g1 Q q => by
  refine ha F1 H1 g1 _ ?_
  cases m with
  | ok x =>
    rintro F2 H2 v g2 ⟨a, C, dx, fs, u, w, h1, h2, h3, h4, h5, h6, h7, h8, h9⟩
    exact ⟨a, C, dx, fs, u, h1, g2.fh _ _ h2, h3, h4, h6, q F2 H2 u g2 h8⟩
  | er c => exact q
  | bad => exact q
theorem em_wkr {m : M Wk} (ha : Ev ce E ta σ F H (rv K) m) : Ev ce E (tFld K ta "rows") σ F H (rv K) (m.bind fun x => .ok x.rows) := fun F1 H1 g1 Q q => by
  refine ha F1 H1 g1 _ ?_
  cases m with
  | ok x =>
    rintro F2 H2 v g2 ⟨a, C, dx, fs, u, w, h1, h2, h3, h4, h5, h6, h7, h8, h9⟩
    exact ⟨a, C, dx, fs, w, h1, g2.fh _ _ h2, h3, h5, h7, q F2 H2 w g2 h9⟩
  | er c => exact q
  | bad => exact q
theorem e_wkp {x : Wk} (ha : Ev ce E ta σ F H (rv K) (.ok x)) : Ev ce E (tFld K ta "parts") σ F H (rv K) (.ok x.parts) := em_wkp (m := .ok x) ha
theorem e_wkr {x : Wk} (ha : Ev ce E ta σ F H (rv K) (.ok x)) : Ev ce E (tFld K ta "rows") σ F H (rv K) (.ok x.rows) := em_wkr (m := .ok x) ha
/-- self.f = e, in __init__: the object is one's own -/
theorem s_setf {α : Type} [Rep α] {i : Nat} {p : Addr} {o : RawO} {f : Str} {m1 : M α} {k : α → M τ} (hp : σ[i]? = some (some (.ref p))) (c : Cls K o.C) (na : NoAttr K o.C f) (hl : o.fs.length < 1000) (ow : Own K F H p o) (n0 : H0 p = none) (G : Gr F0 H0 F H)
    (q : Wp ce E H0 (m1.bind k) P) (h : Ev ce E te σ F H (rv K) m1)
    (cc : ∀ x F1 H1 v, Ex F F1 → Gr F0 H0 F1 H1 → rp K F1 v x → Own K F1 H1 p (RawO.mk o.C o.dx (putF f v o.fs)) → Wp ce E H0 (k x) P → D.nx σ H1) : sFld K (tVar i) te f D σ H := by
  show te σ H fun y H1 => tVar i σ H1 fun x H2 => _
  refine h.go G q fun x F1 H1 v g r w => ?_
  refine ⟨.ref p, hp, ?_⟩
  have o1 := ow.mo g
  obtain ⟨⟨u, h1, h2⟩, h3⟩ := o1
  have h2' : u = .ins o.C o.dx o.fs := h2
  subst h2'
  refine ⟨p, o.C, o.dx, o.fs, rfl, h1, c, na, hl, ?_⟩
  exact cc x F1 _ v g.ff (Gr.mut (G.tr g) n0 h3) r ⟨⟨_, upd_same, rfl⟩, h3⟩ w
theorem q_setf {t2 : TS} {α : Type} [Rep α] {i : Nat} {p : Addr} {o : RawO} {f : Str} {m1 : M α} {k : α → M τ} (hp : σ[i]? = some (some (.ref p))) (c : Cls K o.C) (na : NoAttr K o.C f) (hl : o.fs.length < 1000) (ow : Own K F H p o) (n0 : H0 p = none) (G : Gr F0 H0 F H)
    (q : Wp ce E H0 (m1.bind k) P) (h : Ev ce E te σ F H (rv K) m1)
    (cc : ∀ x F1 H1 v, Ex F F1 → Gr F0 H0 F1 H1 → rp K F1 v x → Own K F1 H1 p (RawO.mk o.C o.dx (putF f v o.fs)) → Wp ce E H0 (k x) P → t2 D σ H1) : tSeq (sFld K (tVar i) te f) t2 D σ H := s_setf (D := { D with nx := t2 D }) hp c na hl ow n0 G q h cc
/-- the promise of __init__ -/
def SpI (ce : Ce) (K : PySem.W.Frag) (C : Addr) {α : Type} (R : Hp → List V → α → Prop) (f : α → M Wk) : Sp := fun vs H Q E => ∃ F H0 p dx x r, vs = .ref p :: r ∧ Ex F H0 ∧ H0 p = none ∧ H0 dx = none ∧ dx ≠ p ∧ H = upd (upd H0 dx (.own p)) p (.ins C dx []) ∧ R F r x ∧ Post ce (rv K) (f x) F H0 (fun v H' => v = .ref p → Q .non H') E
theorem raw_start {C p dx : Addr} (e : Ex F H) (h : H p = none) (hd : H dx = none) (ne : dx ≠ p) : Gr F H F (upd (upd H dx (.own p)) p (.ins C dx [])) ∧ Own K F (upd (upd H dx (.own p)) p (.ins C dx [])) p (RawO.mk C dx []) :=
  ⟨(Gr.own e hd).tr (Gr.own (Gr.own e hd).fh (by rw [upd_ne ne.symm]; exact h)), ⟨⟨_, upd_same, rfl⟩, ex_back e h⟩⟩
/-- the object is whole -/
theorem wk_done {C dx p : Addr} {u w : V} {pa : Int} {rs : List Row} (G : Gr F0 H0 F H) (n0 : H0 p = none) (o : Own K F H p (RawO.mk C dx (putF "rows" w (putF "parts" u [])))) (c : Cls K C) (n1 : NoAttr K C "parts") (n2 : NoAttr K C "rows") (r1 : rp K F u pa) (r2 : rp K F w rs) :
    ∃ F', Gr F0 H0 F' H ∧ rp K F' (.ref p) (Wk.mk pa rs) := by
  obtain ⟨F', g, e, ⟨p', h1, h2⟩, _⟩ := own_fix G o n0
  cases h1
  refine ⟨F', g, p, C, dx, _, u, w, rfl, h2, c, n1, n2, ?_, ?_, Rep.mo e r1, Rep.mo e r2⟩
  · rw [lookup_putF, if_neg (by decide +kernel), lookup_putF, if_pos rfl]
  · rw [lookup_putF, if_pos rfl]
theorem em_makeX {α : Type} {C : Addr} {ta : TA} {m1 : M α} {R : Hp → List V → α → Prop} {f : α → M Wk} (ha : EvAM ce E ta σ F H m1 R) : Ev ce E (tMake C (SpI ce K C R f) [] E ta) σ F H (rv K) (m1.bind fun x => f x) := fun F1 H1 g1 Q q => by
  refine ha F1 H1 g1 _ ?_
  cases m1 with
  | ok x =>
    intro F2 H2 vs g2 r2 p dx np nd ne
    rw [List.append_nil]
    refine ⟨F2, H2, p, dx, x, vs, rfl, g2.fh, np, nd, ne, rfl, r2, ?_⟩
    have q' := Post.mo g2 q
    have q'' : Post ce (rv K) (f x) F2 H2 Q E := q'
    revert q''
    cases f x with
    | ok r => exact fun z F3 H3 v g3 r3 e => ⟨rfl, by rw [← e]; exact z F3 H3 v g3 r3⟩
    | er c => exact fun z => z
    | bad => exact fun z => z
  | er c => exact q
  | bad => exact q
end
def trLen : Tr → M Int
  | .nd _ _ _ => .ok 3
  | .lf _ => .bad
theorem a_lenT {ce : Ce} {E : XK} {K : PySem.W.Frag} {x : Tr} : OpA ce E (RC K R0) (rLenS K) (rv K) (x, ()) (trLen x) := fun F1 H1 vs e ⟨v, r, e1, h, e3⟩ Q q => by
  cases e3
  cases x with
  | lf n => exact q.elim
  | nd s a b =>
    obtain ⟨p, w, z, h1, h2, h3, h4⟩ := h
    subst e1 h1
    exact ⟨p, _, rfl, .inr (ex_t e h2), q F1 H1 _ (Gr.rf e) rfl⟩
end Mw

set_option Elab.async false
set_option linter.all false
set_option maxRecDepth 100000
set_option maxHeartbeats 2000000
/-! Mw, part Q: told borders or trees. -/
namespace Mw
open PySem L2
open Rep (rp)
/-- ("shut", a pair) or ("tree", a tree) -/
inductive Sh where
  | shut (p : Int × Int)
  | tree (t : Tr)
  deriving DecidableEq
def wShut : Wd := wd (Str.ofString "shut")
def wTree : Wd := wd (Str.ofString "tree")
instance : Rep Sh := ⟨fun K H v x => match x with
  | .shut p => rp K H v (wShut, p)
  | .tree t => rp K H v (wTree, t), fun {K H H' v x} e h => by
    cases x with
    | shut p => exact Rep.mo (x := (wShut, p)) e h
    | tree t => exact Rep.mo (x := (wTree, t)) e h⟩
instance : Flat Wd := ⟨fun _ h => h⟩
instance : Flat Sh := ⟨fun {K H H' v x} e h => by
    cases x with
    | shut p => exact Flat.fl (x := (wShut, p)) e h
    | tree t => exact Flat.fl (x := (wTree, t)) e h⟩
instance : NN Sh := ⟨fun {K F v x} h => by
    cases x with
    | shut p => obtain ⟨a, u, w, h1, _⟩ := h; rw [h1]; exact fun z => nomatch z
    | tree t => obtain ⟨a, u, w, h1, _⟩ := h; rw [h1]; exact fun z => nomatch z⟩
instance : Ty Sh := ⟨"tuple", fun {K F H v x} e h => by
    cases x with
    | shut p => obtain ⟨a, u, w, h1, h2, _⟩ := h; subst h1; exact tyx_tup e h2
    | tree t => obtain ⟨a, u, w, h1, h2, _⟩ := h; subst h1; exact tyx_tup e h2⟩
noncomputable def shS (x : Wd × (Int × Int)) : M Sh := if x.1 = wShut then .ok (.shut x.2) else .bad
noncomputable def shT (x : Wd × Tr) : M Sh := if x.1 = wTree then .ok (.tree x.2) else .bad
def shW : Sh → Wd
  | .shut _ => wShut
  | .tree _ => wTree
def shV : Sh → M Tr
  | .shut _ => .bad
  | .tree t => .ok t
def shNe : Sh → Sh → M Bool
  | .shut p, .shut q => .ok (!decide (p = q))
  | _, _ => .bad
section
variable {ρ : Type} {ce : Ce} {E : XK} {K : PySem.W.Frag} {σ : L2.St} {F H F' H' F0 H0 : Hp} {te ta tb tc td : TE} {tt tu : TT}
theorem em_shS {m : M (Wd × (Int × Int))} (h : Ev ce E te σ F H (rv K) m) : Ev ce E te σ F H (rv K) (m.bind shS) := fun F1 H1 g1 Q q => by
  refine h F1 H1 g1 _ ?_
  cases m with
  | ok x =>
    intro F2 H2 v g2 r
    have q' : Post ce (rv K) (shS x) F1 H1 Q E := q
    unfold shS at q'
    split at q'
    · rename_i c
      refine q' F2 H2 v g2 ?_
      show rp K F2 v (wShut, x.2)
      rw [← c]
      exact r
    · exact q'.elim
  | er c => exact q
  | bad => exact q
theorem em_shT {m : M (Wd × Tr)} (h : Ev ce E te σ F H (rv K) m) : Ev ce E te σ F H (rv K) (m.bind shT) := fun F1 H1 g1 Q q => by
  refine h F1 H1 g1 _ ?_
  cases m with
  | ok x =>
    intro F2 H2 v g2 r
    have q' : Post ce (rv K) (shT x) F1 H1 Q E := q
    unfold shT at q'
    split at q'
    · rename_i c
      refine q' F2 H2 v g2 ?_
      show rp K F2 v (wTree, x.2)
      rw [← c]
      exact r
    · exact q'.elim
  | er c => exact q
  | bad => exact q
theorem o_shA {x : Sh} {i : Int} (hi : i = 0) : Op2 ce E K (rIxT K) (rv K) x i (.ok (shW x)) := fun F1 H1 vx vy e rx ry Q q => by
  cases x with
  | shut p => exact o_fst (x := (wShut, p)) hi F1 H1 vx vy e rx ry Q q
  | tree t => exact o_fst (x := (wTree, t)) hi F1 H1 vx vy e rx ry Q q
theorem o_shB {x : Sh} {i : Int} (hi : i = 1) : Op2 ce E K (rIxT K) (rv K) x i (shV x) := fun F1 H1 vx vy e rx ry Q q => by
  cases x with
  | shut p => exact q.elim
  | tree t => exact o_snd (x := (wTree, t)) hi F1 H1 vx vy e rx ry Q q
theorem a_lenSh {x : Sh} : OpA ce E (RC K R0) (rLenS K) (rv K) (x, ()) (.ok (2 : Int)) := fun F1 H1 vs e ⟨v, r, e1, h, e3⟩ Q q => by
  cases x with
  | shut p => exact a_len2 (x := (wShut, p)) F1 H1 vs e ⟨v, r, e1, h, e3⟩ Q q
  | tree t => exact a_len2 (x := (wTree, t)) F1 H1 vs e ⟨v, r, e1, h, e3⟩ Q q
theorem o_shNe {x y : Sh} : Op2 ce E K (rNeD K) (rv K) x y (shNe x y) := fun F1 H1 vx vy e rx ry Q q => by
  cases x with
  | tree t => cases y <;> exact q.elim
  | shut p =>
    cases y with
    | tree t => exact q.elim
    | shut r =>
      have ee : decide (p = r) = decide ((wShut, p) = (wShut, r)) := by
        rw [Bool.eq_iff_iff]; simp
      have q' : Post ce (rv K) (.ok (!decide (p = r))) F1 H1 Q E := q
      rw [ee] at q'
      exact o_neD (x := (wShut, p)) (y := (wShut, r)) (by decide) F1 H1 vx vy e rx ry Q q'
noncomputable def shlM (x y : Int) : M Int := chk (CPow x y) (x * 2 ^ y.toNat)
theorem o_shl {x y : Int} : Op2 ce E K (rI CPow fun i j => .int (i * 2 ^ j.toNat)) (rv K) x y (shlM x y) := o_Ic fun _ => rfl
end
end Mw
/-! ### xs.count(y), xs.index(y), len(set(xs)) -/
namespace Mw
open PySem L2
open Rep (rp)
section
variable {ρ α β : Type} [Rep α] [Rep β] {ce : Ce} {E : XK} {K : PySem.W.Frag} {σ : L2.St} {F H F' H' F0 H0 : Hp} {te ta tb tc td : TE} {tt tu : TT} {md : Md ρ}
def OpB (ce : Ce) (E : XK) (K : PySem.W.Frag) (r : V → List V → Hp → VK → Prop) (md : Md ρ) (xs : List Int) (y : Int) (m : M ρ) : Prop :=
  ∀ F1 H1 p, Ex F1 H1 → F1 p = some (.lst (xs.map V.int)) → ∀ Q, Post ce md m F1 H1 Q E → r (.ref p) [.int y] H1 Q
theorem em_bmi [MdMo md] {r : V → List V → Hp → VK → Prop} {m1 : M (List Int)} {m2 : M Int} {g : List Int → Int → M ρ} (ha : Ev ce E ta σ F H (rv K) m1) (hb : Ev ce E tb σ F H (rv K) m2) (hr : ∀ x y, OpB ce E K r md x y (g x y)) :
    Ev ce E (tBM K "list" r ta (tCons tb tNil)) σ F H md (m1.bind fun x => m2.bind fun y => g x y) := fun F1 H1 g1 Q q => by
  refine ha F1 H1 g1 _ ?_
  cases m1 with
  | er c => exact q
  | bad => exact q
  | ok x =>
    rintro F2 H2 v g2 ⟨p, vs, rfl, h2, h3⟩
    have e3 := paired_int h3
    subst e3
    refine ⟨.inl ⟨rfl, _, SqL.of (g2.fh _ _ h2)⟩, hb F2 H2 (g1.tr g2) _ ?_⟩
    cases m2 with
    | er c => exact fun H' e => q H' (g2.hh.tr e)
    | bad => exact q
    | ok y =>
      intro F3 H3 w g3 r3
      cases (show w = .int y from r3)
      exact hr x y F3 H3 p g3.fh (g3.ff _ _ h2) Q (Post.mo (g2.tr g3) q)
theorem o_cnt {xs : List Int} {y : Int} : OpB ce E K (rCntI K) (rv K) xs y (.ok ((xs.count y : Nat) : Int)) := fun F1 H1 p e h Q q =>
  ⟨p, xs, y, rfl, rfl, SqL.of (e _ _ h), q F1 H1 _ (Gr.rf e) rfl⟩
noncomputable def idxM (xs : List Int) (y : Int) : M Int := chk (y ∈ xs) ((xs.idxOf y : Nat) : Int)
theorem eqV_int (a b : Int) : eqV (.int a) (.int b) = decide (a = b) := by
  show (a == b) = _
  rw [Bool.eq_iff_iff]; simp
theorem o_idx {xs : List Int} {y : Int} : OpB ce E K (rIndex K) (rv K) xs y (idxM xs y) := fun F1 H1 p e h Q q => by
  unfold idxM chk at q
  split at q
  · rename_i hy
    have hl := List.idxOf_lt_length_of_mem hy
    refine ⟨p, xs.map V.int, .int y, xs.idxOf y, .int y, rfl, rfl, SqL.of (e _ _ h), rfl, ?_, ?_, ?_, ?_, q F1 H1 _ (Gr.rf e) rfl⟩
    · rw [List.all_eq_true]
      intro v hv
      obtain ⟨k, _, rfl⟩ := List.mem_map.mp hv
      rfl
    · rw [List.getElem?_map, List.getElem?_eq_getElem hl, List.getElem_idxOf hl]; rfl
    · rw [eqV_int]; exact decide_eq_true rfl
    · intro m z hm hz
      rw [List.getElem?_map, List.getElem?_eq_getElem (Nat.lt_trans hm hl)] at hz
      cases Option.some.inj hz
      rw [eqV_int]
      refine decide_eq_false fun z => ?_
      have := List.not_of_lt_findIdx (p := fun k => k == y) (xs := xs) (i := m) hm
      rw [z] at this
      simp at this
  · exact q.elim
/-- the unlike ones, as they are met -/
def met (xs : List Int) : List Int := PyProof.Rows.firstMet (fun i => xs.getD i 0) xs.length
noncomputable def lenSet (xs : List Int) : M Int := chk (xs.length < 64) ((met xs).length : Int)
def tLS (K : PySem.W.Frag) (ta : TE) : TE := fun σ H Q => ta σ H fun x H1 => ∃ p ns, x = V.ref p ∧ SqL K H1 p (ns.map V.int) ∧ List.length ns < 64 ∧ Q (.int (met ns).length) H1
theorem pe_lenSetZ {X : Cx} {a : Expr} {ta : TE} {p1 p2 p3 p4 : Pos} (calm : X.calm = true) (g1 : Gl X "len") (n1 : X.mg "len" = none) (g2 : Gl X "set") (n2 : X.mg "set" = none) (h : PE X a ta)
    (hs : starEach [a] X.env = (false, eval a X.env) :: starEach [] X.env := by rfl) : PE X (.Call (.Name "len" p1) [.Call (.Name "set" p2) [a] [] p3] [] p4) (tLS X.K ta) where
  run := fun pins s σ H Q I q =>
    PyProof.Rows.Call_ (ld_blt I g1 n1 PySem.boot_len (PyProof.Rows.callWith_builtin1 (PyProof.Rows.args_cons (PyProof.Rows.Call_ (ld_blt I g2 n2 PyProof.Rows.boot_set (PyProof.Rows.callWith_type1
      (PyProof.Rows.args_cons (thn (h.run pins s σ H _ I q) fun v s1 ⟨x, H1, I1, r1, p, ns, ex, sq, lt, q1⟩ => PyProof.Rows.args_nil (by
        subst ex
        cases r1
        obtain ⟨its, vals, plain, _⟩ := I1.list sq
        have size : its.toArray.size = ns.length := by rw [List.size_toArray, ← vals.length, List.length_map]
        refine call_set_list (ns := ns) (I1.ok.hd calm) plain.isList (by simpa using vals.ints) (by unfold scanBound; omega) fun heap toks made kept => ?_
        rw [size] at made
        have le := PyProof.Rows.firstMet_length_le (fun i => ns.getD i 0) ns.length
        obtain ⟨o, es, ep, t, at_, exact_, data, _, _, _, fits, many⟩ := made
        have I2 : Inv X pins σ H1 { s1 with heap := heap, toks := toks } := I1.kept fun b u e => kept b u (Heap.lt_size e) e
        exact PyProof.Rows.args_nil (call_len_set at_ exact_ data fits (by omega) ⟨.int (met ns).length, H1, I2.tok _, ⟨_, by rw [many]; rfl⟩, q1⟩))) hs) hs rfl))) rfl) rfl rfl))
theorem em_lenSet {m : M (List Int)} (ha : Ev ce E ta σ F H (rv K) m) : Ev ce E (tLS K ta) σ F H (rv K) (m.bind lenSet) := fun F1 H1 g1 Q q => by
  refine ha F1 H1 g1 _ ?_
  cases m with
  | er c => exact q
  | bad => exact q
  | ok x =>
    rintro F2 H2 v g2 ⟨p, vs, rfl, h2, h3⟩
    have e3 := paired_int h3
    subst e3
    have q' : Post ce (rv K) (lenSet x) F1 H1 Q E := q
    unfold lenSet chk at q'
    split at q'
    · rename_i hl
      exact ⟨p, x, rfl, SqL.of (g2.fh _ _ h2), hl, q' F2 H2 _ g2 rfl⟩
    · exact q'.elim
end
end Mw

set_option Elab.async false
set_option linter.all false
set_option maxRecDepth 100000
set_option maxHeartbeats 2000000
/-! Mw, part R: told pairs whose list is new, and is changed later. -/
namespace Mw
open PySem L2
open Rep (rp)
section
variable {ρ α β τ : Type} [Rep α] [Rep β] {ce : Ce} {E : XK} {K : PySem.W.Frag} {σ : L2.St} {F H F' H' F0 H0 F1 H1 Fb Hb : Hp} {te ta tb tc td : TE} {tt tu : TT} {md : Md ρ} {D : Ends} {P : τ → Prop}
/-- None, or a pair whose second part is a list that was not there in H -/
def Nu1 (K : PySem.W.Frag) (F H : Hp) (v : V) (x : Option (α × List β)) : Prop := match x with
  | none => v = .non
  | some y => ∃ a u q vs, v = .ref a ∧ SqT K F a [u, .ref q] ∧ rp K F u y.1 ∧ F q = some (.lst vs) ∧ Paired (rp K F) vs y.2 ∧ H q = none
theorem Nu1.rp {v : V} {x : Option (α × List β)} (h : Nu1 K F H v x) : rp K F v x := by
  cases x with
  | none => exact h
  | some y =>
    obtain ⟨a, u, q, vs, h1, h2, h3, h4, h5, _⟩ := h
    exact ⟨⟨a, u, .ref q, h1, h2, h3, ⟨q, vs, rfl, h4, h5⟩⟩, by rw [h1]; exact fun z => nomatch z⟩
def rf1 (K : PySem.W.Frag) : Md (Option (α × List β)) := fun _ H F' _ v r => Nu1 K F' H v r
instance : MdMo (rf1 K (α := α) (β := β)) := ⟨fun {F H F1 H1 F2 H2 v r} g h => by
  cases r with
  | none => exact h
  | some y =>
    obtain ⟨a, u, q, vs, h1, h2, h3, h4, h5, h6⟩ := h
    exact ⟨a, u, q, vs, h1, h2, h3, h4, h5, ex_back g.hh h6⟩⟩
theorem Ev.fv {m : M (Option (α × List β))} (h : Ev ce E te σ F H (rf1 K) m) : Ev ce E te σ F H (rv K) m := fun F1 H1 g1 Q q => by
  refine h F1 H1 g1 _ ?_
  cases m with
  | ok x => exact fun F2 H2 v g2 r => q F2 H2 v g2 r.rp
  | er c => exact q
  | bad => exact q
/-- x = e, e tells such a pair -/
theorem s_asgF {i : Nat} {m1 : M (Option (α × List β))} {k : Option (α × List β) → M τ} (G : Gr F0 H0 F H) (q : Wp ce E H0 (m1.bind k) P) (h : Ev ce E te σ F H (rf1 K) m1)
    (c : ∀ x F1 H1 v, Gr F H F1 H1 → Nu1 K F1 H v x → Wp ce E H0 (k x) P → D.nx (σ.set i (some v)) H1) : tAsg te (gName i) D σ H := by
  refine h F H (Gr.rf G.fh) _ ?_
  cases m1 with
  | ok x => exact fun F1 H1 v g r => c x F1 H1 v g r q
  | er cc => exact fun H' e => q H' (G.hh.tr e)
  | bad => exact q
theorem q_asgF {t2 : TS} {i : Nat} {m1 : M (Option (α × List β))} {k : Option (α × List β) → M τ} (G : Gr F0 H0 F H) (q : Wp ce E H0 (m1.bind k) P) (h : Ev ce E te σ F H (rf1 K) m1)
    (c : ∀ x F1 H1 v, Gr F H F1 H1 → Nu1 K F1 H v x → Wp ce E H0 (k x) P → t2 D (σ.set i (some v)) H1) : tSeq (tAsg te (gName i)) t2 D σ H := s_asgF (D := { D with nx := t2 D }) G q h c
/-- return (e, x), x a list of one's own -/
theorem s_retF {i : Nat} {p : Addr} {xs : List β} {m1 : M α} {k : Option (α × List β) → M τ} (hp : σ[i]? = some (some (.ref p))) (o : Own K F H p xs) (n0 : H0 p = none) (G : Gr F0 H0 F H) (q : Wp ce E H0 (m1.bind fun x => k (some (x, xs))) P)
    (h : Ev ce E te σ F H (rv K) m1) (hD : ∀ r F1 H1 v, Gr F0 H0 F1 H1 → rf1 K F0 H0 F1 H1 v r → Wp ce E H0 (k r) P → D.rt v H1) : tRet (tTup (tCons te (tCons (tVar i) tNil))) D σ H := by
  refine h F H (Gr.rf G.fh) _ ?_
  cases m1 with
  | er cc => exact fun H' e => q H' (G.hh.tr e)
  | bad => exact q
  | ok x =>
    intro F2 H2 v g r
    refine ⟨.ref p, hp, by show 2 ≤ sizeLine; decide, fun a na => ?_⟩
    have G2 := G.tr g
    obtain ⟨F3, G3, e3, ⟨q', vs, ez, h1, h2⟩, _⟩ := own_fix G2 (o.mo g) n0
    cases ez
    have gn := Gr.new (p := a) (o := .tup [v, .ref p]) G3.fh na
    exact hD (some (x, xs)) _ _ _ (G3.tr gn) ⟨a, v, p, vs, rfl, SqT.of upd_same, Rep.mo gn.ff (Rep.mo e3 r), gn.ff _ _ h1, paired_mo gn.ff h2, n0⟩ q
/-- back to what stood ahead of the call -/
theorem gr_back {q : Addr} {u : HO} (Gb : Gr F0 H0 Fb Hb) (n : Hb q = none) (e : Ex Fb H) (G : Ex H0 H) : Gr F0 H0 Fb (upd H q u) where
  ff := Gb.ff
  fh := fun a o h => by
    have : a ≠ q := fun z => by subst z; rw [Gb.fh a o h] at n; cases n
    rw [upd_ne this]; exact e a o h
  hh := fun a o h => by
    have : a ≠ q := fun z => by subst z; rw [Gb.hh a o h] at n; cases n
    rw [upd_ne this]; exact G a o h
  nw := Gb.nw
/-- x[1].append(e) -/
theorem s_appF {i : Nat} {v : V} {x : Option (α × List β)} {m1 : M β} {k : M τ} (hp : σ[i]? = some (some v)) (nu : Nu1 K F1 Hb v x) (e1 : Ex F1 F) (Gb : Gr F0 H0 Fb Hb) (eb : Ex Fb F1) (G : Gr F0 H0 F H)
    (q : Wp ce E H0 ((getM x).bind fun y => m1.bind fun z => (appM y.2 z).bind fun _ => k) P) (h : Ev ce E te σ F H (rv K) m1)
    (c : ∀ H2, Gr F0 H0 Fb H2 → Wp ce E H0 k P → D.nx σ H2) : tDrop (tBM K "list" rAppend (tOp (rIxT K) (tVar i) (tC (.int 1))) (tCons te tNil)) D σ H := by
  cases x with
  | none => exact q.elim
  | some y =>
    obtain ⟨a, u, p, vs, rfl, h2, h3, h4, h5, h6⟩ := nu
    have hF : H p = some (.lst vs) := G.fh _ _ (e1 _ _ h4)
    refine ⟨.ref a, hp, a, [u, .ref p], 1, .ref p, rfl, rfl, ex_t (e1.tr G.fh) h2, rfl, .inl ⟨rfl, vs, SqL.of hF⟩, ?_⟩
    have q1 : Wp ce E H0 (m1.bind fun z => (appM y.2 z).bind fun _ => k) P := q
    refine h F H (Gr.rf G.fh) _ ?_
    cases m1 with
    | er cc => exact fun H' e => q1 H' (G.hh.tr e)
    | bad => exact q1
    | ok z =>
      intro F2 H2 w g r
      have q2 : Wp ce E H0 ((appM y.2 z).bind fun _ => k) P := q1
      unfold appM chk at q2
      split at q2
      · rename_i hl
        refine ⟨p, vs, w, rfl, rfl, g.hh _ _ hF, ?_, ?_⟩
        · rw [Paired.length h5, sizeLine_eq]; omega
        · exact c _ (gr_back Gb h6 (((eb.tr e1).tr g.ff).tr g.fh) (G.tr g).hh) q2
      · exact q2.elim
theorem q_appF {t2 : TS} {i : Nat} {v : V} {x : Option (α × List β)} {m1 : M β} {k : M τ} (hp : σ[i]? = some (some v)) (nu : Nu1 K F1 Hb v x) (e1 : Ex F1 F) (Gb : Gr F0 H0 Fb Hb) (eb : Ex Fb F1) (G : Gr F0 H0 F H)
    (q : Wp ce E H0 ((getM x).bind fun y => m1.bind fun z => (appM y.2 z).bind fun _ => k) P) (h : Ev ce E te σ F H (rv K) m1)
    (c : ∀ H2, Gr F0 H0 Fb H2 → Wp ce E H0 k P → t2 D σ H2) : tSeq (tDrop (tBM K "list" rAppend (tOp (rIxT K) (tVar i) (tC (.int 1))) (tCons te tNil))) t2 D σ H := s_appF (D := { D with nx := t2 D }) hp nu e1 Gb eb G q h c
/-- x.append(e): x was new when it was told, nothing leans on it but what is forgotten now -/
theorem s_appT {i : Nat} {p : Addr} {xs : List α} {m1 : M α} {k : List α → M τ} (hp : σ[i]? = some (some (.ref p))) (rx : rp K F (.ref p) xs) (n0 : H0 p = none) (e0 : Ex F0 H0) (G : Gr F0 H0 F H)
    (q : Wp ce E H0 (m1.bind fun x => (appM xs x).bind k) P) (h : Ev ce E te σ F H (rv K) m1)
    (c : ∀ ys Fu Hu, Gr F0 H0 Fu Hu → (∀ Fb, Ex Fb F → Fb p = none → Ex Fb Fu) → (∀ (γ : Type) [Rep γ] [Flat γ] (r : Addr) (z : List γ), r ≠ p → Own K F H r z → Own K Fu Hu r z) → Wp ce E H0 (k ys) P → D.nx σ Hu) :
    tDrop (tBM K "list" rAppend (tVar i) (tCons te tNil)) D σ H := by
  obtain ⟨a, vs, ea, h1, h2⟩ := rx
  cases ea
  refine ⟨.ref p, hp, .inl ⟨rfl, vs, SqL.of (G.fh _ _ h1)⟩, h F H (Gr.rf G.fh) _ ?_⟩
  cases m1 with
  | er cc => exact fun H' e => q H' (G.hh.tr e)
  | bad => exact q
  | ok x =>
    intro F1 H1 v g r
    have w' : Wp ce E H0 ((appM xs x).bind k) P := q
    unfold appM chk at w'
    split at w'
    · rename_i hl
      have l1 := g.ff _ _ h1
      have f0 : F0 p = none := ex_back e0 n0
      have aq : ∀ b, b ≠ p → th F1 [p] b = F1 b := fun b hb => by unfold th; rw [if_neg (by simpa using hb)]
      have ap : th F1 [p] p = none := by unfold th; rw [if_pos (by simp)]
      have G1 := G.tr g
      have te1 : TupEx F1 (th F1 [p]) := th_tup fun b m ys rd => by
        rw [List.mem_singleton.mp m] at rd
        rcases rd with rd | ⟨o, rd⟩ <;> (rw [l1] at rd; cases rd)
      refine ⟨p, vs, v, rfl, rfl, g.fh _ _ l1, by rw [Paired.length h2, sizeLine_eq]; omega, c (xs ++ [x]) (th F1 [p]) _ ⟨fun b o e => ?_, fun b o e => ?_, fun b o e => ?_, fun b b1 b2 => ?_⟩ (fun Fb eb nb b o e => ?_) (fun γ _ _ r z hr o => ?_) w'⟩
      · have : b ≠ p := fun z => by subst z; rw [f0] at e; cases e
        rw [aq b this]; exact G1.ff b o e
      · have : b ≠ p := fun z => by subst z; rw [ap] at e; cases e
        rw [aq b this] at e
        rw [upd_ne this]; exact G1.fh b o e
      · have : b ≠ p := fun z => by subst z; rw [n0] at e; cases e
        rw [upd_ne this]; exact G1.hh b o e
      · by_cases z : b = p
        · subst z; exact ap
        · rw [aq b z]; exact G1.nw b b1 b2
      · have : b ≠ p := fun z => by subst z; rw [nb] at e; cases e
        rw [aq b this]; exact g.ff b o (eb b o e)
      · exact (own_fl (o.mo g) te1 (aq r hr)).upd hr
    · exact w'.elim
theorem q_appT {t2 : TS} {i : Nat} {p : Addr} {xs : List α} {m1 : M α} {k : List α → M τ} (hp : σ[i]? = some (some (.ref p))) (rx : rp K F (.ref p) xs) (n0 : H0 p = none) (e0 : Ex F0 H0) (G : Gr F0 H0 F H)
    (q : Wp ce E H0 (m1.bind fun x => (appM xs x).bind k) P) (h : Ev ce E te σ F H (rv K) m1)
    (c : ∀ ys Fu Hu, Gr F0 H0 Fu Hu → (∀ Fb, Ex Fb F → Fb p = none → Ex Fb Fu) → (∀ (γ : Type) [Rep γ] [Flat γ] (r : Addr) (z : List γ), r ≠ p → Own K F H r z → Own K Fu Hu r z) → Wp ce E H0 (k ys) P → t2 D σ Hu) :
    tSeq (tDrop (tBM K "list" rAppend (tVar i) (tCons te tNil))) t2 D σ H := s_appT (D := { D with nx := t2 D }) hp rx n0 e0 G q h c
end
end Mw
/-! ### words.count(word) -/
namespace L2
open PySem PyProof.Rows
theorem cntU {x : V} : ∀ {xs : List V} {us : List Value}, Vals xs us → xs.all flatV = true → us.countP (eqU x) = xs.countP fun y => eqV y x
  | _, _, .nil, _ => rfl
  | y :: xs, u :: us, .cons r t, f => by
    rw [List.all_cons, Bool.and_eq_true] at f
    rw [List.countP_cons, List.countP_cons, eqU_of r f.1, cntU t f.2]
def rCntF (K : PySem.W.Frag) : V → List V → Hp → VK → Prop := fun x xs H Q => ∃ p ys y, x = V.ref p ∧ xs = [y] ∧ SqL K H p ys ∧ flatV y = true ∧ ys.all flatV = true ∧ Q (.int ((ys.countP fun z => eqV z y : Nat) : Int)) H
theorem mt_cntF {X : Cx} : MtR X "list.count" (rCntF X.K) := by
  intro pins s σ H x xs v us Q I rx rxs h
  obtain ⟨p, ys, y, rfl, rfl, sq, fy, fys, q⟩ := h
  cases rx
  obtain ⟨u, rfl, ru⟩ := rxs.one
  obtain ⟨its, vals, ⟨⟨cls, dict, data, slots⟩, n, at_, c1, dn, d1⟩, len⟩ := I.list sq
  simp only at c1 d1
  subst c1 d1
  have same : its.toArray.toList.countP (eqU y) = ys.countP fun z => eqV z y := cntU vals fys
  refine call_meets PySem.F.slot_list_count ⟨_, at_, rfl⟩ PySem.F.entry_list_count (PySem.F.args_list_count_2 _ _) (SeqAt.list_countAt p its.toArray n dict slots u (eqU y))
    ⟨at_, fun w hw => mem_eqAt ru fy vals fys w (by simpa using hw), .int ((ys.countP fun z => eqV z y : Nat) : Int), H, I.tok _, ⟨s.toks, ?_⟩, q⟩
  show Value.int ((its.toArray.toList.countP (eqU y) : Nat) : Int) s.toks = _
  rw [same]
end L2
namespace Mw
open PySem L2
open Rep (rp)
def clV : Cl → V
  | .i n => .int n
  | .w s => .str s.s
theorem paired_cl {K : PySem.W.Frag} {H : Hp} : ∀ {vs : List V} {xs : List Cl}, Paired (rp K H) vs xs → vs = xs.map clV
  | _, _, .nil => rfl
  | _, x :: _, .cons h t => by
    rw [List.map_cons, ← paired_cl t]
    refine congrArg (· :: _) ?_
    cases x with
    | i n => exact h
    | w s => exact h
theorem eqV_cl (x y : Cl) : eqV (clV x) (clV y) = decide (x = y) := by
  rw [Bool.eq_iff_iff, decide_eq_true_eq]
  cases x with
  | i n =>
    cases y with
    | i m => show (n == m) = true ↔ _; simp
    | w t => exact ⟨(fun z => nomatch z), (fun z => nomatch z)⟩
  | w s =>
    cases y with
    | i m => exact ⟨(fun z => nomatch z), (fun z => nomatch z)⟩
    | w t =>
      obtain ⟨s, hs⟩ := s
      obtain ⟨t, ht⟩ := t
      show (s == t) = true ↔ _
      simp
theorem flat_cl (x : Cl) : flatV (clV x) = true := by cases x <;> rfl
section
variable {ce : Ce} {E : XK} {K : PySem.W.Frag} {σ : L2.St} {F H : Hp} {ta tb : TE}
theorem em_cntC {m1 : M (List Cl)} {m2 : M Cl} (ha : Ev ce E ta σ F H (rv K) m1) (hb : Ev ce E tb σ F H (rv K) m2) :
    Ev ce E (tBM K "list" (rCntF K) ta (tCons tb tNil)) σ F H (rv K) (m1.bind fun x => m2.bind fun y => .ok ((List.count y x : Nat) : Int)) := fun F1 H1 g1 Q q => by
  refine ha F1 H1 g1 _ ?_
  cases m1 with
  | er c => exact q
  | bad => exact q
  | ok x =>
    rintro F2 H2 v g2 ⟨p, vs, rfl, h2, h3⟩
    have e3 := paired_cl h3
    subst e3
    refine ⟨.inl ⟨rfl, _, SqL.of (g2.fh _ _ h2)⟩, hb F2 H2 (g1.tr g2) _ ?_⟩
    cases m2 with
    | er c => exact fun H' e => q H' (g2.hh.tr e)
    | bad => exact q
    | ok y =>
      intro F3 H3 w g3 r3
      have ew : w = clV y := by
        cases y with
        | i n => exact r3
        | w s => exact r3
      subst ew
      refine ⟨p, x.map clV, clV y, rfl, rfl, SqL.of (g3.fh _ _ (g3.ff _ _ h2)), flat_cl y, List.all_eq_true.mpr fun z hz => ?_, ?_⟩
      · obtain ⟨c, _, rfl⟩ := List.mem_map.mp hz
        exact flat_cl c
      · have en : (x.map clV).countP (fun z => eqV z (clV y)) = List.count y x := by
          rw [List.countP_map]
          show x.countP (fun z => eqV (clV z) (clV y)) = x.countP (· == y)
          refine congrArg (fun f => x.countP f) (funext fun z => ?_)
          rw [eqV_cl]
          rw [Bool.eq_iff_iff]; simp
        rw [en]
        exact (Post.mo (g2.tr g3) q) F3 H3 _ (Gr.rf g3.fh) rfl
end
end Mw

set_option Elab.async false
set_option linter.all false
set_option maxRecDepth 100000
set_option maxHeartbeats 2000000
/-! Mw, part Za: dicts with pairs of ints as keys. -/
namespace Mw
open PySem L2
open Rep (rp)
/-- a pair of ints that is a key: a tuple of the run -/
structure Kp where
  a : Int
  b : Int
  deriving DecidableEq
instance : Rep Kp := ⟨fun K H v x => ∃ p, v = .ref p ∧ H p = some (.tup [.int x.a, .int x.b]), fun e ⟨p, h1, h2⟩ => ⟨p, h1, e _ _ h2⟩⟩
instance : Flat Kp := ⟨fun e ⟨p, h1, h2⟩ => ⟨p, h1, (e _ _).2 h2⟩⟩
def kpk (k : Kp) : List Key := [Sum.inl k.a, Sum.inl k.b]
theorem kpk_inj {k l : Kp} : kpk k = kpk l ↔ k = l := by
  cases k; cases l
  simp [kpk]
theorem kpk_kV (k : Kp) : (kpk k).map kV = [V.int k.a, V.int k.b] := rfl
structure Dp (α : Type) where
  kvs : List (Kp × α)
def plook {α : Type} (k : Kp) (d : List (Kp × α)) : Option α := (d.find? fun p => decide (p.1 = k)).map (·.2)
def pput {α : Type} (d : List (Kp × α)) (k : Kp) (x : α) : List (Kp × α) := if (d.any fun p => decide (p.1 = k)) = true then d.map (fun p => if p.1 = k then (p.1, x) else p) else d ++ [(k, x)]
abbrev PRel (K : PySem.W.Frag) {α : Type} [Rep α] (H : Hp) : List (List Key × V) → List (Kp × α) → Prop := Paired fun q p => q.1 = kpk p.1 ∧ rp K H q.2 p.2
theorem prel_mo {K : PySem.W.Frag} {α : Type} [Rep α] {H H' : Hp} (e : Ex H H') : ∀ {vs : List (List Key × V)} {d : List (Kp × α)}, PRel K H vs d → PRel K H' vs d
  | _, _, .nil => .nil
  | _, _, .cons h t => .cons ⟨h.1, Rep.mo e h.2⟩ (prel_mo e t)
instance {α : Type} [Rep α] : Rep (Dp α) := ⟨fun K H v x => ∃ a vs, v = .ref a ∧ H a = some (.dT vs) ∧ PRel K H vs x.kvs, fun e ⟨a, vs, h1, h2, h3⟩ => ⟨a, vs, h1, e _ _ h2, prel_mo e h3⟩⟩
instance {α : Type} [Rep α] : Obj (Dp α) where
  ho := fun K H o x => ∃ vs, o = .dT vs ∧ PRel K H vs x.kvs
  mo := fun e ⟨vs, h1, h2⟩ => ⟨vs, h1, prel_mo e h2⟩
  rep := fun {K H p o x} e ⟨vs, h1, h2⟩ => by subst h1; exact ⟨p, vs, rfl, e, h2⟩
  nt := fun {K H o x} ⟨vs, h1, _⟩ => by subst h1; exact ⟨(fun _ z => nomatch z), (fun _ _ z => nomatch z)⟩
section
variable {K : PySem.W.Frag} {α : Type} [Rep α] {H : Hp}
theorem pkey_dec {q : List Key × V} {p : Kp × α} (h : q.1 = kpk p.1) (k : Kp) : decide (q.1 = kpk k) = decide (p.1 = k) := by
  rw [h, Bool.eq_iff_iff, decide_eq_true_eq, decide_eq_true_eq, kpk_inj]
theorem prel_any (k : Kp) : ∀ {vs : List (List Key × V)} {d : List (Kp × α)}, PRel K H vs d → (vs.any fun q => decide (q.1 = kpk k)) = d.any fun p => decide (p.1 = k)
  | _, _, .nil => rfl
  | _, _, .cons h t => by
    rw [List.any_cons, List.any_cons, prel_any k t, pkey_dec h.1]
theorem prel_look (k : Kp) : ∀ {vs : List (List Key × V)} {d : List (Kp × α)}, PRel K H vs d → (∀ x, plook k d = some x → ∃ v, valV vs (kpk k) = some v ∧ rp K H v x) ∧ (plook k d = none → valV vs (kpk k) = none)
  | _, _, .nil => ⟨(fun x e => nomatch e), (fun _ => rfl)⟩
  | _, _, .cons (a := q) (b := p) (l₁ := vs) (l₂ := d) h t => by
    by_cases e : p.1 = k
    · have e1 : q.1 = kpk k := by rw [h.1, e]
      have e2 : plook k (p :: d) = some p.2 := by unfold plook; rw [List.find?_cons, decide_eq_true e] <;> rfl
      rw [e2, valV_pos e1]
      exact ⟨fun x z => ⟨q.2, rfl, by cases z; exact h.2⟩, fun z => nomatch z⟩
    · have e1 : ¬ q.1 = kpk k := by rw [h.1]; exact fun z => e (kpk_inj.mp z)
      have e2 : plook k (p :: d) = plook k d := by unfold plook; rw [List.find?_cons, decide_eq_false e]
      rw [e2, valV_neg e1]
      exact prel_look k t
theorem prel_map {k : Kp} {v : V} {x : α} (r : rp K H v x) : ∀ {vs : List (List Key × V)} {d : List (Kp × α)}, PRel K H vs d → PRel K H (vs.map fun q => if q.1 = kpk k then (q.1, v) else q) (d.map fun p => if p.1 = k then (p.1, x) else p)
  | _, _, .nil => .nil
  | _, _, .cons (a := q) (b := p) h t => by
    refine .cons ?_ (prel_map r t)
    by_cases e : p.1 = k
    · have e1 : q.1 = kpk k := by rw [h.1, e]
      dsimp only
      rw [if_pos e, if_pos e1]
      exact ⟨h.1, r⟩
    · have e1 : ¬ q.1 = kpk k := by rw [h.1]; exact fun z => e (kpk_inj.mp z)
      dsimp only
      rw [if_neg e, if_neg e1]
      exact h
theorem prel_put {k : Kp} {v : V} {x : α} {vs : List (List Key × V)} {d : List (Kp × α)} (h : PRel K H vs d) (r : rp K H v x) : PRel K H (putK vs (kpk k) v) (pput d k x) := by
  unfold putK pput
  rw [prel_any k h]
  split
  · exact prel_map r h
  · exact paired_app h (.cons ⟨rfl, r⟩ .nil)
theorem prel_len {vs : List (List Key × V)} {d : List (Kp × α)} (h : PRel K H vs d) : vs.length = d.length := Paired.length h
end
def pgetM {α : Type} (d : Dp α) (k : Kp) : M α := match plook k d.kvs with
  | some x => .ok x
  | none => .bad
noncomputable def pputM {α : Type} (d : Dp α) (k : Kp) (x : α) : M (Dp α) := chk (d.kvs.length < 16000000) ⟨pput d.kvs k x⟩
section
variable {ρ α β γ δ S τ : Type} [Rep α] [Rep β] [Rep γ] [Rep δ] {ce : Ce} {E : XK} {K : PySem.W.Frag} {σ : L2.St} {F H F' H' F0 H0 : Hp} {te ta tb tc td ty : TE} {tt tu : TT} {md : Md ρ} {m : M ρ} {D : Ends} {ts tw : TS} {g : TG} {wi : TI} {P : τ → Prop}
theorem em_pnew : Ev ce E tDNewT σ F H (ro K) (.ok (⟨[]⟩ : Dp α)) := fun F1 H1 g1 Q q p np =>
  q F1 _ _ (Gr.own g1.fh np) ⟨p, rfl, np, ⟨_, upd_same, [], rfl, .nil⟩, ex_back g1.fh np⟩
/-- a display as a key -/
theorem em_kp {m1 m2 : M Int} (ha : Ev ce E ta σ F H (rv K) m1) (hb : Ev ce E tb σ F H (rv K) m2) : Ev ce E (tTup (tCons ta (tCons tb tNil))) σ F H (rv K) (m1.bind fun x => m2.bind fun y => .ok (Kp.mk x y)) := fun F1 H1 g1 Q q => by
  refine ha F1 H1 g1 _ ?_
  cases m1 with
  | ok x =>
    rintro F2 H2 v2 g2 rfl
    refine hb F2 H2 (g1.tr g2) _ ?_
    cases m2 with
    | ok y =>
      rintro F3 H3 v3 g3 rfl
      exact ⟨by show 2 ≤ sizeLine; decide, fun p np => q _ _ _ ((g2.tr g3).tr (Gr.new g3.fh np)) ⟨p, rfl, upd_same⟩⟩
    | er c => exact fun H' e => q H' (g2.hh.tr e)
    | bad => exact q
  | er c => exact q
  | bad => exact q
theorem em_pget {m1 : M (Dp α)} {m2 : M Kp} (ha : Ev ce E td σ F H (rv K) m1) (hb : Ev ce E ty σ F H (rv K) m2) : Ev ce E (tDGet td ty) σ F H (rv K) (m1.bind fun d => m2.bind fun k => pgetM d k) := fun F1 H1 g1 Q q => by
  refine ha F1 H1 g1 _ ?_
  cases m1 with
  | ok d =>
    rintro F2 H2 vx g2 ⟨a, vs, e1, e2, e3⟩
    refine hb F2 H2 (g1.tr g2) _ ?_
    cases m2 with
    | ok k =>
      rintro F3 H3 vk g3 ⟨p, rfl, hp⟩
      have q' : Post ce (rv K) (pgetM d k) F1 H1 Q E := q
      unfold pgetM at q'
      split at q'
      · rename_i x hx
        obtain ⟨v, hv, r⟩ := (prel_look k (prel_mo g3.ff e3)).1 x hx
        refine ⟨a, v, e1, ?_, q' F3 H3 v (g2.tr g3) r⟩
        have := DGet.t (k := kpk k) (g3.hh _ _ (g2.fh _ _ e2)) (g3.fh _ _ hp)
        rw [hv] at this
        exact this
      · exact q'.elim
    | er c => exact fun H' e => q H' (g2.hh.tr e)
    | bad => exact q
  | er c => exact q
  | bad => exact q
theorem em_pin {m1 : M (Dp α)} {m2 : M Kp} (hb : Ev ce E ty σ F H (rv K) m2) (ha : Ev ce E td σ F H (rv K) m1) : Ev ce E (tDIn ty td) σ F H (rv K) (m2.bind fun k => m1.bind fun d => .ok (plook k d.kvs).isSome) := fun F1 H1 g1 Q q => by
  refine hb F1 H1 g1 _ ?_
  cases m2 with
  | ok k =>
    rintro F2 H2 vk g2 ⟨p, rfl, hp⟩
    refine ha F2 H2 (g1.tr g2) _ ?_
    cases m1 with
    | ok d =>
      rintro F3 H3 vx g3 ⟨a, vs, e1, e2, e3⟩
      refine ⟨a, _, e1, DGet.t (k := kpk k) (g3.fh _ _ e2) (g3.hh _ _ (g2.fh _ _ hp)), ?_⟩
      have hl := prel_look k e3
      refine q F3 H3 _ (g2.tr g3) ?_
      show V.bl _ = V.bl _
      cases hd : plook k d.kvs with
      | some y =>
        obtain ⟨v, hv, r⟩ := hl.1 y hd
        rw [hv] <;> rfl
      | none => rw [hl.2 hd] <;> rfl
    | er c => exact fun H' e => q H' (g2.hh.tr e)
    | bad => exact q
  | er c => exact q
  | bad => exact q
theorem em_pnotin {m1 : M (Dp α)} {m2 : M Kp} (hb : Ev ce E ty σ F H (rv K) m2) (ha : Ev ce E td σ F H (rv K) m1) : Ev ce E (tDNotIn ty td) σ F H (rv K) (m2.bind fun k => m1.bind fun d => .ok (!(plook k d.kvs).isSome)) := fun F1 H1 g1 Q q => by
  refine hb F1 H1 g1 _ ?_
  cases m2 with
  | ok k =>
    rintro F2 H2 vk g2 ⟨p, rfl, hp⟩
    refine ha F2 H2 (g1.tr g2) _ ?_
    cases m1 with
    | ok d =>
      rintro F3 H3 vx g3 ⟨a, vs, e1, e2, e3⟩
      refine ⟨a, _, e1, DGet.t (k := kpk k) (g3.fh _ _ e2) (g3.hh _ _ (g2.fh _ _ hp)), ?_⟩
      have hl := prel_look k e3
      refine q F3 H3 _ (g2.tr g3) ?_
      show V.bl _ = V.bl _
      cases hd : plook k d.kvs with
      | some y =>
        obtain ⟨v, hv, r⟩ := hl.1 y hd
        rw [hv] <;> rfl
      | none => rw [hl.2 hd] <;> rfl
    | er c => exact fun H' e => q H' (g2.hh.tr e)
    | bad => exact q
  | er c => exact q
  | bad => exact q
/-- d[k, l] = e: the value first, then the key; both may read what is one's own -/
theorem s_pput (A : List Addr) {i : Nat} {p : Addr} {d : Dp α} {m1 : M α} {m2 : M Kp} {k : Dp α → M τ} [Flat α] (hp : σ[i]? = some (some (.ref p))) (o : Own K F H p d) (n0 : H0 p = none) (G : Gr F0 H0 F H)
    (q : Wp ce E H0 (m1.bind fun x => m2.bind fun y => (pputM d y x).bind k) P) (hF : ∀ p ∈ A, F p = none) (hA : ∀ p ∈ A, ∃ o, H p = some o ∧ NoTup o) (h : Ev ce E te σ (fz F H A) H (rv K) m1) (hk : Ev ce E ty σ (fz F H A) H (rv K) m2)
    (c : ∀ d' F1 H1, Ex F F1 → Gr F0 H0 F1 H1 → Own K F1 H1 p d' → (∀ (T : Type) [Rep T] [Obj T] (q : Addr) (z : T), q ≠ p → Own K F H q z → Own K F1 H1 q z) → Wp ce E H0 (k d') P → D.nx σ H1) :
    sDPut (tVar i) ty te D σ H := by
  obtain ⟨⟨u, h1, vs, h2, h3⟩, hf⟩ := o
  subst h2
  have hA' : ∀ p ∈ A, H p ≠ none := fun p m => by obtain ⟨o, e, _⟩ := hA p m; rw [e]; exact fun z => nomatch z
  refine h _ H (Gr.rf (fz_h G.fh)) _ ?_
  cases m1 with
  | ok x =>
    intro F1 H1 v g0 r0
    refine ⟨.ref p, hp, hk F1 H1 g0 _ ?_⟩
    have q2 : Wp ce E H0 (m2.bind fun y => (pputM d y x).bind k) P := q
    cases m2 with
    | ok y =>
      rintro F2 H2 vy g1 ⟨b, rfl, hb⟩
      have gg := g0.tr g1
      have g := gr_th hF hA' G.fh gg
      have r : rp K (th F2 A) v x := Flat.fl (th_of hA gg) (Rep.mo g1.ff r0)
      have w' : Wp ce E H0 ((pputM d y x).bind k) P := q2
      unfold pputM chk at w'
      split at w'
      · rename_i hl
        refine ⟨p, _, rfl, DPut.t (k := kpk y) (g.hh _ _ h1) (g1.fh _ _ hb) ?_, ?_⟩
        · rw [prel_len h3, sizeLine_eq]; omega
        · have hf1 : th F2 A p = none := g.nw p hf (by rw [h1]; exact fun z => nomatch z)
          exact c _ _ _ g.ff (Gr.mut (G.tr g) n0 hf1) ⟨⟨_, upd_same, _, rfl, prel_put (prel_mo g.ff h3) r⟩, hf1⟩ (fun T _ _ q z hq o => (o.mo g).upd hq) w'
      · exact w'.elim
    | er cc => exact fun H' e => q2 H' ((G.hh.tr g0.hh).tr e)
    | bad => exact q2
  | er cc => exact fun H' e => q H' (G.hh.tr e)
  | bad => exact q
theorem q_pput {t2 : TS} (A : List Addr) {i : Nat} {p : Addr} {d : Dp α} {m1 : M α} {m2 : M Kp} {k : Dp α → M τ} [Flat α] (hp : σ[i]? = some (some (.ref p))) (o : Own K F H p d) (n0 : H0 p = none) (G : Gr F0 H0 F H)
    (q : Wp ce E H0 (m1.bind fun x => m2.bind fun y => (pputM d y x).bind k) P) (hF : ∀ p ∈ A, F p = none) (hA : ∀ p ∈ A, ∃ o, H p = some o ∧ NoTup o) (h : Ev ce E te σ (fz F H A) H (rv K) m1) (hk : Ev ce E ty σ (fz F H A) H (rv K) m2)
    (c : ∀ d' F1 H1, Ex F F1 → Gr F0 H0 F1 H1 → Own K F1 H1 p d' → (∀ (T : Type) [Rep T] [Obj T] (q : Addr) (z : T), q ≠ p → Own K F H q z → Own K F1 H1 q z) → Wp ce E H0 (k d') P → t2 D σ H1) :
    tSeq (sDPut (tVar i) ty te) t2 D σ H := s_pput (D := { D with nx := t2 D }) A hp o n0 G q hF hA h hk c
end
end Mw

set_option Elab.async false
set_option linter.all false
set_option maxRecDepth 100000
set_option maxHeartbeats 2000000
/-! Mw, part Zc: {(k, l): v}; xs.pop(), xs.extend(ys), x += e over one's own. -/
namespace L2
open PySem PySem.Spec PyProof.Rows
/-- {k: v}, k a tuple of ints and texts; the new dict stands empty while the pair is made -/
def tDispT (tk tv : TE) : TE := fun σ H Q => ∀ p, H p = none → tk σ (upd H p (.dT [])) fun x H1 => tv σ H1 fun y H2 => ∃ (k : List Key) (b : Addr), H2 p = some (.dT []) ∧ x = .ref b ∧ H2 b = some (.tup (k.map kV)) ∧ Q (.ref p) (upd H2 p (.dT [(k, y)]))
theorem pe_dispT {X : Cx} {pos : Pos} {k v : Expr} {tk tv : TE} (hu : X.A.units + 1 < cLine) (hk : PE X k tk) (hv : PE X v tv) : PE X (.Dict [some k] [v] pos) (tDispT tk tv) := by
  refine ⟨fun pins s σ H Q I q => ?_⟩
  have hn := I.hok.fresh (Nat.le_refl s.heap.objs.size)
  have I1 := I.laid (a := s.heap.objs.size) (o := .dT []) (h' := s.heap.push { cls := .type "dict", data := .dict #[] }) (t' := s.toks) (fun _ _ q => Heap.get?_push_of_some _ q) (Nat.le_refl _) (dt_empty s.heap I.big)
  refine wpAny_Dict_any rfl rfl (by simp) (by simp) (pairTrees_cons_walk (thn (hk.run pins _ σ _ _ I1 (q _ hn)) fun u s1 ⟨x, H1, I2, rx, q1⟩ => thn (hv.run pins s1 σ H1 _ I2 q1) fun w2 s2 ⟨y, H2, I3, ry, k, b, e, ex, eb, q2⟩ => pairTrees_nil_walk ?_))
  subst ex
  cases (show u = Value.ref b from rx)
  obtain ⟨z, hd, xs, rel, dd⟩ := dt_of I3.hok e
  have hx : xs = [] := by cases rel; rfl
  subst hx
  unfold storeAll
  refine wpAny_storeAllH (show (tupleKind (mixKind X.prog X.w)).room X.A from (by show X.A.units < cLine; omega)) [(.ref b, w2)] [(k, b, w2)] [] s2 _ ⟨rfl, rfl, key_of I3.hok eb, True.intro⟩ dd (by rw [sizeLine_eq]; simp) fun h' tk dd' hs => ?_
  obtain ⟨q', es, ep, hq, h2, h3, h4, _, h5⟩ := dd'
  have hl : ([(k, y)] : List (List Key × V)).length ≤ sizeLine := by rw [sizeLine_eq]; simp
  refine ⟨.ref s.heap.objs.size, _, d_write (ob := .dT [(k, y)]) I3 (by rw [e]; exact True.intro) hs ⟨q', hq⟩ ⟨hl, hd, _, (rel.put k eb ry).keeps fun c ys ec => ?_, q', es, ep, hq, h2, h3, h4, h5⟩, rfl, q2⟩
  rw [upd_ne (ne_of ec e (fun z => nomatch z))]
  exact ec
end L2
namespace Mw
open PySem L2
open Rep (rp)
noncomputable def popM {α : Type} (xs : List α) : M (List α) := chk (xs ≠ []) xs.dropLast
section
variable {ρ α β γ δ S τ : Type} [Rep α] [Rep β] [Rep γ] [Rep δ] {ce : Ce} {E : XK} {K : PySem.W.Frag} {σ : L2.St} {F H F' H' F0 H0 : Hp} {te ta tb tc td ty tk tv : TE} {tt tu : TT} {md : Md ρ} {D : Ends} {ts tw t2 : TS} {g : TG} {wi : TI} {P : τ → Prop}
theorem em_pdisp {m1 : M Kp} {m2 : M α} (ha : Ev ce E tk σ F H (rv K) m1) (hb : Ev ce E tv σ F H (rv K) m2) : Ev ce E (tDispT tk tv) σ F H (ro K) (m1.bind fun k => m2.bind fun x => .ok (Dp.mk [(k, x)])) := fun F1 H1 g1 Q q p np => by
  have g0 : Gr F1 H1 F1 (upd H1 p (.dT [])) := Gr.own g1.fh np
  have f1 : F1 p = none := ex_back g1.fh np
  refine ha F1 _ (g1.tr g0) _ ?_
  cases m1 with
  | ok k =>
    rintro F2 H2 v2 g2 ⟨b, rfl, hb2⟩
    refine hb F2 H2 ((g1.tr g0).tr g2) _ ?_
    cases m2 with
    | ok x =>
      intro F3 H3 v3 g3 r3
      have e3 : H3 p = some (.dT []) := g3.hh _ _ (g2.hh _ _ upd_same)
      have f3 : F3 p = none := (g2.tr g3).nw p f1 (by rw [upd_same]; exact fun z => nomatch z)
      refine ⟨kpk k, b, e3, rfl, g3.hh _ _ (g2.fh _ _ hb2), ?_⟩
      exact q F3 _ _ (Gr.mut ((g0.tr g2).tr g3) np f3) ⟨p, rfl, np, ⟨_, upd_same, _, rfl, .cons ⟨rfl, r3⟩ .nil⟩, f3⟩
    | er c => exact fun H' e => q H' ((g0.tr g2).hh.tr e)
    | bad => exact q
  | er c => exact fun H' e => q H' (g0.hh.tr e)
  | bad => exact q
theorem paired_dropLast {B C : Type} {Q : B → C → Prop} {vs : List B} {xs : List C} (h : Paired Q vs xs) : Paired Q vs.dropLast xs.dropLast := by
  induction h with
  | nil => exact .nil
  | cons a t ih =>
    cases t with
    | nil => exact .nil
    | cons b t => exact .cons a ih
/-- xs.pop() for its own sake -/
theorem s_pop0 {i : Nat} {p : Addr} {xs : List α} {k : List α → M τ} (hp : σ[i]? = some (some (.ref p))) (o : Own K F H p xs) (n0 : H0 p = none) (G : Gr F0 H0 F H)
    (q : Wp ce E H0 ((popM xs).bind k) P)
    (c : ∀ ys F1 H1, Ex F F1 → Gr F0 H0 F1 H1 → Own K F1 H1 p ys → (∀ (T : Type) [Rep T] [Obj T] (q : Addr) (z : T), q ≠ p → Own K F H q z → Own K F1 H1 q z) → Wp ce E H0 (k ys) P → D.nx σ H1) :
    tDrop (tBM0 K "list" rPop (tVar i)) D σ H := by
  obtain ⟨vs, h1, h2⟩ := o.lst
  have hf := o.f
  unfold popM chk at q
  split at q
  · rename_i hc
    have hl : 0 < vs.length := by rw [Paired.length h2]; exact List.length_pos_iff.mpr hc
    exact ⟨.ref p, hp, .inl ⟨rfl, vs, SqL.of h1⟩, p, vs, vs[vs.length - 1], rfl, rfl, h1, List.getElem?_eq_getElem (by omega), c _ _ _ (Ex.rf _) (Gr.mut G n0 hf) (own_new hf upd_same (paired_dropLast h2)) (fun T _ _ q z hq o => o.upd hq) q⟩
  · exact q.elim
/-- xs.extend(ys) -/
theorem s_extl (A : List Addr) {i : Nat} {p : Addr} {xs : List α} {m1 : M (List α)} {k : List α → M τ} [Flat α] (hp : σ[i]? = some (some (.ref p))) (o : Own K F H p xs) (n0 : H0 p = none) (G : Gr F0 H0 F H)
    (q : Wp ce E H0 (m1.bind fun y => (catM xs y).bind k) P) (hF : ∀ p ∈ A, F p = none) (hA : ∀ p ∈ A, ∃ o, H p = some o ∧ NoTup o) (hk : Ev ce E ty σ (fz F H A) H (rv K) m1)
    (c : ∀ ys F1 H1, Ex F F1 → Gr F0 H0 F1 H1 → Own K F1 H1 p ys → (∀ (T : Type) [Rep T] [Obj T] (q : Addr) (z : T), q ≠ p → Own K F H q z → Own K F1 H1 q z) → Wp ce E H0 (k ys) P → D.nx σ H1) :
    tDrop (tBM K "list" rExtend (tVar i) (tCons ty tNil)) D σ H := by
  obtain ⟨vs, h1, h2⟩ := o.lst
  have hf := o.f
  have hA' : ∀ p ∈ A, H p ≠ none := fun p m => by obtain ⟨o, e, _⟩ := hA p m; rw [e]; exact fun z => nomatch z
  refine ⟨.ref p, hp, .inl ⟨rfl, vs, SqL.of h1⟩, hk _ H (Gr.rf (fz_h G.fh)) _ ?_⟩
  cases m1 with
  | ok y =>
    rintro F1 H1 vy g0 ⟨b, us, rfl, hb, r⟩
    have g := gr_th hF hA' G.fh g0
    have w' : Wp ce E H0 ((catM xs y).bind k) P := q
    unfold catM chk at w'
    split at w'
    · rename_i hc
      have hf1 : th F1 A p = none := g.nw p hf (by rw [h1]; exact fun z => nomatch z)
      refine ⟨p, b, vs, us, rfl, rfl, g.hh _ _ h1, g0.fh _ _ hb, ?_, ?_⟩
      · rw [Paired.length h2, Paired.length r, sizeLine_eq]; omega
      · exact c _ _ _ g.ff (Gr.mut (G.tr g) n0 hf1) (own_new hf1 upd_same (paired_app (paired_mo g.ff h2) (paired_fl (th_of hA g0) r))) (fun T _ _ q z hq o => (o.mo g).upd hq) w'
    · exact w'.elim
  | er cc => exact fun H' e => q H' (G.hh.tr e)
  | bad => exact q
/-- x += e, over one's own -/
theorem s_augA (A : List Addr) {i : Nat} {v : V} {a : Int} {f : Int → Int → Int} {m1 : M Int} {k : Int → M τ} (hv : σ[i]? = some (some v)) (r : rp K F v a) (G : Gr F0 H0 F H)
    (q : Wp ce E H0 (m1.bind fun y => k (f a y)) P) (hF : ∀ p ∈ A, F p = none) (hA : ∀ p ∈ A, ∃ o, H p = some o ∧ NoTup o) (h : Ev ce E te σ (fz F H A) H (rv K) m1)
    (c : ∀ x F1 H1 v, Gr F H F1 H1 → rp K F1 v x → Wp ce E H0 (k x) P → D.nx (σ.set i (some v)) H1) : tAug i te (ipI f) D σ H := by
  cases r
  have hA' : ∀ p ∈ A, H p ≠ none := fun p m => by obtain ⟨o, e, _⟩ := hA p m; rw [e]; exact fun z => nomatch z
  refine ⟨.int a, hv, h _ H (Gr.rf (fz_h G.fh)) _ ?_⟩
  cases m1 with
  | ok y =>
    rintro F1 H1 vy g0 rfl
    exact ⟨a, y, rfl, rfl, c (f a y) _ _ _ (gr_th hF hA' G.fh g0) rfl q⟩
  | er cc => exact fun H' e => q H' (G.hh.tr e)
  | bad => exact q
theorem q_pop0 {i : Nat} {p : Addr} {xs : List α} {k : List α → M τ} (hp : σ[i]? = some (some (.ref p))) (o : Own K F H p xs) (n0 : H0 p = none) (G : Gr F0 H0 F H)
    (q : Wp ce E H0 ((popM xs).bind k) P)
    (c : ∀ ys F1 H1, Ex F F1 → Gr F0 H0 F1 H1 → Own K F1 H1 p ys → (∀ (T : Type) [Rep T] [Obj T] (q : Addr) (z : T), q ≠ p → Own K F H q z → Own K F1 H1 q z) → Wp ce E H0 (k ys) P → t2 D σ H1) :
    tSeq (tDrop (tBM0 K "list" rPop (tVar i))) t2 D σ H := s_pop0 (D := { D with nx := t2 D }) hp o n0 G q c
theorem q_extl (A : List Addr) {i : Nat} {p : Addr} {xs : List α} {m1 : M (List α)} {k : List α → M τ} [Flat α] (hp : σ[i]? = some (some (.ref p))) (o : Own K F H p xs) (n0 : H0 p = none) (G : Gr F0 H0 F H)
    (q : Wp ce E H0 (m1.bind fun y => (catM xs y).bind k) P) (hF : ∀ p ∈ A, F p = none) (hA : ∀ p ∈ A, ∃ o, H p = some o ∧ NoTup o) (hk : Ev ce E ty σ (fz F H A) H (rv K) m1)
    (c : ∀ ys F1 H1, Ex F F1 → Gr F0 H0 F1 H1 → Own K F1 H1 p ys → (∀ (T : Type) [Rep T] [Obj T] (q : Addr) (z : T), q ≠ p → Own K F H q z → Own K F1 H1 q z) → Wp ce E H0 (k ys) P → t2 D σ H1) :
    tSeq (tDrop (tBM K "list" rExtend (tVar i) (tCons ty tNil))) t2 D σ H := s_extl (D := { D with nx := t2 D }) A hp o n0 G q hF hA hk c
theorem q_augA (A : List Addr) {i : Nat} {v : V} {a : Int} {f : Int → Int → Int} {m1 : M Int} {k : Int → M τ} (hv : σ[i]? = some (some v)) (r : rp K F v a) (G : Gr F0 H0 F H)
    (q : Wp ce E H0 (m1.bind fun y => k (f a y)) P) (hF : ∀ p ∈ A, F p = none) (hA : ∀ p ∈ A, ∃ o, H p = some o ∧ NoTup o) (h : Ev ce E te σ (fz F H A) H (rv K) m1)
    (c : ∀ x F1 H1 v, Gr F H F1 H1 → rp K F1 v x → Wp ce E H0 (k x) P → t2 D (σ.set i (some v)) H1) : tSeq (tAug i te (ipI f)) t2 D σ H := s_augA (D := { D with nx := t2 D }) A hv r G q hF hA h c
end
end Mw
namespace Mw
open PySem L2
open Rep (rp)
section
variable {ce : Ce} {E : XK} {K : PySem.W.Frag}
theorem o_kpA {x : Kp} {i : Int} (hi : i = 0) : Op2 ce E K (rIxT K) (rv K) x i (.ok x.a) := fun F1 H1 vx vy e ⟨a, e1, e2⟩ ry Q q => by
  subst e1 hi
  cases ry
  exact ⟨a, [.int x.a, .int x.b], 0, .int x.a, rfl, rfl, SqT.of (e _ _ e2), rfl, q F1 H1 _ (Gr.rf e) rfl⟩
theorem o_kpB {x : Kp} {i : Int} (hi : i = 1) : Op2 ce E K (rIxT K) (rv K) x i (.ok x.b) := fun F1 H1 vx vy e ⟨a, e1, e2⟩ ry Q q => by
  subst e1 hi
  cases ry
  exact ⟨a, [.int x.a, .int x.b], 1, .int x.b, rfl, rfl, SqT.of (e _ _ e2), rfl, q F1 H1 _ (Gr.rf e) rfl⟩
end
end Mw
namespace Mw
open PySem L2
open Rep (rp)
section
variable {α τ : Type} [Rep α] {ce : Ce} {E : XK} {K : PySem.W.Frag} {σ : L2.St} {F H F0 H0 : Hp} {te ty tk tv : TE} {D : Ends} {P : τ → Prop} {t2 : TS}
/-- {k: v}, k an int -/
theorem em_kdisp {m1 : M Int} {m2 : M α} (ha : Ev ce E tk σ F H (rv K) m1) (hb : Ev ce E tv σ F H (rv K) m2) : Ev ce E (tDisp [(tk, tv)]) σ F H (ro K) (m1.bind fun k => m2.bind fun x => .ok (Dc.mk [(k, x)])) := fun F1 H1 g1 Q q p np => by
  have g0 : Gr F1 H1 F1 (upd H1 p (.dK [])) := Gr.own g1.fh np
  have f1 : F1 p = none := ex_back g1.fh np
  refine ha F1 _ (g1.tr g0) _ ?_
  cases m1 with
  | ok k =>
    rintro F2 H2 v2 g2 rfl
    refine hb F2 H2 ((g1.tr g0).tr g2) _ ?_
    cases m2 with
    | ok x =>
      intro F3 H3 v3 g3 r3
      have e3 : H3 p = some (.dK []) := g3.hh _ _ (g2.hh _ _ upd_same)
      have f3 : F3 p = none := (g2.tr g3).nw p f1 (by rw [upd_same]; exact fun z => nomatch z)
      refine ⟨e3, [(Sum.inl k, v3)], rfl, by simp, ?_⟩
      exact q F3 _ _ (Gr.mut ((g0.tr g2).tr g3) np f3) ⟨p, rfl, np, ⟨_, upd_same, _, rfl, .cons ⟨rfl, r3⟩ .nil⟩, f3⟩
    | er c => exact fun H' e => q H' ((g0.tr g2).hh.tr e)
    | bad => exact q
  | er c => exact fun H' e => q H' (g0.hh.tr e)
  | bad => exact q
/-- d[k] = e, e a value that stays; nothing of one's own is read -/
theorem s_dput0 {i : Nat} {p : Addr} {d : Dc α} {m1 : M α} {m2 : M Int} {k : Dc α → M τ} (hp : σ[i]? = some (some (.ref p))) (o : Own K F H p d) (n0 : H0 p = none) (G : Gr F0 H0 F H)
    (q : Wp ce E H0 (m1.bind fun x => m2.bind fun y => (dputM d y x).bind k) P) (h : Ev ce E te σ F H (rv K) m1) (hk : Ev ce E ty σ F H (rv K) m2)
    (c : ∀ d' F1 H1, Ex F F1 → Gr F0 H0 F1 H1 → Own K F1 H1 p d' → (∀ (T : Type) [Rep T] [Obj T] (q : Addr) (z : T), q ≠ p → Own K F H q z → Own K F1 H1 q z) → Wp ce E H0 (k d') P → D.nx σ H1) :
    sDPut (tVar i) ty te D σ H := by
  obtain ⟨⟨u, h1, vs, h2, h3⟩, hf⟩ := o
  subst h2
  refine h _ H (Gr.rf G.fh) _ ?_
  cases m1 with
  | ok x =>
    intro F1 H1 v g0 r0
    refine ⟨.ref p, hp, hk F1 H1 g0 _ ?_⟩
    have q2 : Wp ce E H0 (m2.bind fun y => (dputM d y x).bind k) P := q
    cases m2 with
    | ok y =>
      rintro F2 H2 vy g1 rfl
      have g := g0.tr g1
      have w' : Wp ce E H0 ((dputM d y x).bind k) P := q2
      unfold dputM chk at w'
      split at w'
      · rename_i hl
        refine ⟨p, _, rfl, DPut.k (k := Sum.inl y) (g.hh _ _ h1) ?_, ?_⟩
        · rw [drel_len h3, sizeLine_eq]; omega
        · have hf1 : F2 p = none := g.nw p hf (by rw [h1]; exact fun z => nomatch z)
          exact c _ _ _ g.ff (Gr.mut (G.tr g) n0 hf1) ⟨⟨_, upd_same, _, rfl, drel_put (drel_mo g.ff h3) (Rep.mo g1.ff r0)⟩, hf1⟩ (fun T _ _ q z hq o => (o.mo g).upd hq) w'
      · exact w'.elim
    | er cc => exact fun H' e => q2 H' ((G.hh.tr g0.hh).tr e)
    | bad => exact q2
  | er cc => exact fun H' e => q H' (G.hh.tr e)
  | bad => exact q
theorem q_dput0 {i : Nat} {p : Addr} {d : Dc α} {m1 : M α} {m2 : M Int} {k : Dc α → M τ} (hp : σ[i]? = some (some (.ref p))) (o : Own K F H p d) (n0 : H0 p = none) (G : Gr F0 H0 F H)
    (q : Wp ce E H0 (m1.bind fun x => m2.bind fun y => (dputM d y x).bind k) P) (h : Ev ce E te σ F H (rv K) m1) (hk : Ev ce E ty σ F H (rv K) m2)
    (c : ∀ d' F1 H1, Ex F F1 → Gr F0 H0 F1 H1 → Own K F1 H1 p d' → (∀ (T : Type) [Rep T] [Obj T] (q : Addr) (z : T), q ≠ p → Own K F H q z → Own K F1 H1 q z) → Wp ce E H0 (k d') P → t2 D σ H1) :
    tSeq (sDPut (tVar i) ty te) t2 D σ H := s_dput0 (D := { D with nx := t2 D }) hp o n0 G q h hk c
end
end Mw

set_option Elab.async false
set_option linter.all false
set_option maxRecDepth 100000
set_option maxHeartbeats 4000000
noncomputable section
namespace Kx
open PySem L2 Mw
open Rep (rp)
def FUEL : Nat := 1000000
theorem pow_10_60 : (10 : Int) ^ (60 : Int).toNat = 1000000000000000000000000000000000000000000000000000000000000 := by decide +kernel
/-! ### _law_end -/
@[irreducible] def m_law_end_b1 (a0_rows : (List Row)) (a2_size : Int) (x_87 : Int) (s_86 : Int) : M (Ctl Int (Option Int)) :=
  (((M.ok a0_rows).bind fun x_108 => (M.ok s_86).bind fun y_109 => ixM x_108 y_109).bind fun one_110 => ((((M.ok one_110).bind fun x_116 => (M.ok (0 : Int)).bind fun y_117 => ixM x_116.cs y_117).bind fun x_118 => (M.ok (Cl.w (wd (Str.ofString "mesh")))).bind fun y_119 => .ok (decide (x_118 = y_119))).bind fun b => if b then ((((M.ok one_110).bind fun x_132 => ((M.ok (2 : Int)).bind fun x_130 => ((((M.ok a2_size).bind fun x_125 => (((M.ok one_110).bind fun x_123 => (M.ok (1 : Int)).bind fun y_124 => ixM x_123.cs y_124).bind clI).bind fun y_126 => .ok (decide (y_126 < x_125))).bind fun x_127 => (M.ok ()).bind fun y_128 => .ok (x_127, y_128)).bind fun a_129 => .ok (if a_129.1 then (1 : Int) else 0)).bind fun y_131 => .ok (x_130 + y_131)).bind fun y_133 => ixM x_132.cs y_133).bind clI).bind fun row_134 => (M.ok (.nx row_134))) else ((andM (((M.ok one_110).bind fun x_140 => (M.ok (0 : Int)).bind fun y_141 => ixM x_140.cs y_141).bind fun x_142 => (M.ok (Cl.w (wd (Str.ofString "crush")))).bind fun y_143 => .ok (decide (x_142 = y_143))) (M.ok (decide (a2_size = (1 : Int))))).bind fun b => if b then ((((M.ok one_110).bind fun x_147 => (M.ok (1 : Int)).bind fun y_148 => ixM x_147.cs y_148).bind clI).bind fun row_149 => (M.ok (.nx row_149))) else ((M.ok (some s_86)).bind fun r_155 => .ok (.rt r_155)))))
@[irreducible] def m_law_end (a0_rows : (List Row)) (a1_row : Int) (a2_size : Int) : M (Option Int) :=
  (((M.ok ((List.length a0_rows : Int) + (1 : Int))).bind rng1M).bind fun xs_164 => forM (m_law_end_b1 a0_rows a2_size) (fun s_159 => (M.ok (none : (Option Int)))) xs_164 a1_row)
/-! ### _law_stuck -/
@[irreducible] def m_law_stuck_b2 (a0_rows : (List Row)) (x_291 : Int) (x_313 : Int) (s_312 : Unit) : M (Ctl Unit (Ctl Unit Bool)) :=
  (((m_law_end a0_rows x_313 x_291).ne.bind fun x_333 => (M.ok ()).bind fun y_334 => .ok (!Option.isSome x_333)).bind fun b => if b then ((M.ok true).bind fun r_338 => .ok (.rt (.rt r_338))) else (M.ok (.nx ())))
@[irreducible] def m_law_stuck_b1 (a0_rows : (List Row)) (x_291 : Int) (s_290 : Unit) : M (Ctl Unit Bool) :=
  (((M.ok (List.length a0_rows : Int)).bind rng1M).bind fun xs_346 => forM (m_law_stuck_b2 a0_rows x_291) (fun s_341 => (M.ok (.nx ()))) xs_346 ())
@[irreducible] def m_law_stuck (a0_rows : (List Row)) : M Bool :=
  (((M.ok a0_rows).bind fun xs_271 => lcM (fun x_261 : Row => (((M.ok x_261).bind fun x_264 => (M.ok (0 : Int)).bind fun y_265 => ixM x_264.cs y_265).bind fun x_266 => (M.ok (Cl.w (wd (Str.ofString "mesh")))).bind fun y_267 => .ok (decide (x_266 = y_267)))) (fun x_261 : Row => (((M.ok x_261).bind fun x_268 => (M.ok (1 : Int)).bind fun y_269 => ixM x_268.cs y_269).bind clI)) xs_271).bind fun openings_272 => ((((M.ok [(1 : Int)]).bind fun x_278 => (M.ok openings_272).bind fun y_279 => catM x_278 y_279).bind fun x_286 => ((M.ok openings_272).bind fun xs_285 => lcM (fun x_281 : Int => (M.ok true)) (fun x_281 : Int => (M.ok (x_281 + (1 : Int)))) xs_285).bind fun y_287 => catM x_286 y_287).bind fun xs_354 => forM (m_law_stuck_b1 a0_rows) (fun s_349 => (M.ok false)) xs_354 ()))
/-! ### _law_row -/
@[irreducible] def m_law_row (a0_cell : Int) (a1_many : Int) (a2_most : Int) : M Row :=
  ((M.ok (a0_cell % (4 : Int))).bind fun kind_406 => ((M.ok (a0_cell / (4 : Int))).bind fun rest_412 => ((M.ok (decide (kind_406 = (3 : Int)))).bind fun b => if b then (((M.ok (Cl.w (wd (Str.ofString "bin")))).bind fun x_423 => ((M.ok (Cl.i (rest_412 % (6 : Int)))).bind fun x_421 => (M.ok ([] : List Cl)).bind fun y_422 => .ok (x_421 :: y_422)).bind fun y_424 => .ok (x_423 :: y_424)).bind fun x_425 => chk (x_425.length ≤ 1000) (Row.mk x_425)) else ((M.ok (decide (kind_406 = (2 : Int)))).bind fun b => if b then (((M.ok (Cl.w (wd (Str.ofString "crush")))).bind fun x_434 => ((((M.ok rest_412).bind fun x_429 => (M.ok a1_many).bind fun y_430 => modM x_429 y_430).bind fun x_431 => .ok (Cl.i x_431)).bind fun x_432 => (M.ok ([] : List Cl)).bind fun y_433 => .ok (x_432 :: y_433)).bind fun y_435 => .ok (x_434 :: y_435)).bind fun x_436 => chk (x_436.length ≤ 1000) (Row.mk x_436)) else (((M.ok (Cl.w (wd (Str.ofString "mesh")))).bind fun x_454 => ((((M.ok (1 : Int)).bind fun x_439 => ((M.ok rest_412).bind fun x_437 => (M.ok a2_most).bind fun y_438 => modM x_437 y_438).bind fun y_440 => .ok (x_439 + y_440)).bind fun x_445 => .ok (Cl.i x_445)).bind fun x_452 => ((((M.ok (rest_412 / (20 : Int))).bind fun x_441 => (M.ok a1_many).bind fun y_442 => modM x_441 y_442).bind fun x_446 => .ok (Cl.i x_446)).bind fun x_450 => ((((M.ok (rest_412 / (160 : Int))).bind fun x_443 => (M.ok a1_many).bind fun y_444 => modM x_443 y_444).bind fun x_447 => .ok (Cl.i x_447)).bind fun x_448 => (M.ok ([] : List Cl)).bind fun y_449 => .ok (x_448 :: y_449)).bind fun y_451 => .ok (x_450 :: y_451)).bind fun y_453 => .ok (x_452 :: y_453)).bind fun y_455 => .ok (x_454 :: y_455)).bind fun x_456 => chk (x_456.length ≤ 1000) (Row.mk x_456))))))
/-! ### _law_forward -/
@[irreducible] def m_law_forward_b1 (a0_rows : (List Row)) (x_607 : Int) (s_606 : (List Row)) : M (Ctl (List Row) (List Row)) :=
  (((M.ok a0_rows).bind fun x_628 => (M.ok x_607).bind fun y_629 => ixM x_628 y_629).bind fun one_630 => ((M.ok (((List.length a0_rows : Int) - (1 : Int)) - x_607)).bind fun left_636 => (M.bind ((((M.ok one_630).bind fun x_642 => (M.ok (0 : Int)).bind fun y_643 => ixM x_642.cs y_643).bind fun x_644 => (M.ok (Cl.w (wd (Str.ofString "mesh")))).bind fun y_645 => .ok (decide (x_644 = y_645))).bind fun b => if b then ((((M.ok (Cl.w (wd (Str.ofString "mesh")))).bind fun x_689 => (((M.ok one_630).bind fun x_667 => (M.ok (1 : Int)).bind fun y_668 => ixM x_667.cs y_668).bind fun x_687 => ((((M.ok (x_607 + (1 : Int))).bind fun x_673 => ((((M.ok one_630).bind fun x_669 => (M.ok (2 : Int)).bind fun y_670 => ixM x_669.cs y_670).bind clI).bind fun x_671 => (M.ok left_636).bind fun y_672 => modM x_671 y_672).bind fun y_674 => .ok (x_673 + y_674)).bind fun x_681 => .ok (Cl.i x_681)).bind fun x_685 => ((((M.ok (x_607 + (1 : Int))).bind fun x_679 => ((((M.ok one_630).bind fun x_675 => (M.ok (3 : Int)).bind fun y_676 => ixM x_675.cs y_676).bind clI).bind fun x_677 => (M.ok left_636).bind fun y_678 => modM x_677 y_678).bind fun y_680 => .ok (x_679 + y_680)).bind fun x_682 => .ok (Cl.i x_682)).bind fun x_683 => (M.ok ([] : List Cl)).bind fun y_684 => .ok (x_683 :: y_684)).bind fun y_686 => .ok (x_685 :: y_686)).bind fun y_688 => .ok (x_687 :: y_688)).bind fun y_690 => .ok (x_689 :: y_690)).bind fun x_691 => chk (x_691.length ≤ 1000) (Row.mk x_691)).bind fun one_692 => (M.ok one_692)) else ((((M.ok one_630).bind fun x_698 => (M.ok (0 : Int)).bind fun y_699 => ixM x_698.cs y_699).bind fun x_700 => (M.ok (Cl.w (wd (Str.ofString "crush")))).bind fun y_701 => .ok (decide (x_700 = y_701))).bind fun b => if b then ((((M.ok (Cl.w (wd (Str.ofString "crush")))).bind fun x_714 => ((((M.ok (x_607 + (1 : Int))).bind fun x_709 => ((((M.ok one_630).bind fun x_705 => (M.ok (1 : Int)).bind fun y_706 => ixM x_705.cs y_706).bind clI).bind fun x_707 => (M.ok left_636).bind fun y_708 => modM x_707 y_708).bind fun y_710 => .ok (x_709 + y_710)).bind fun x_711 => .ok (Cl.i x_711)).bind fun x_712 => (M.ok ([] : List Cl)).bind fun y_713 => .ok (x_712 :: y_713)).bind fun y_715 => .ok (x_714 :: y_715)).bind fun x_716 => chk (x_716.length ≤ 1000) (Row.mk x_716)).bind fun one_717 => (M.ok one_717)) else (M.ok one_630))) fun s_649 => ((M.ok s_649).bind fun x_663 => (appM s_606 x_663).bind fun made_657 => (M.ok (.nx made_657))))))
@[irreducible] def m_law_forward (a0_rows : (List Row)) : M (List Row) :=
  ((M.ok ([] : (List Row))).bind fun made_596 => (((M.ok (List.length a0_rows : Int)).bind rng1M).bind fun xs_731 => forM (m_law_forward_b1 a0_rows) (fun s_726 => (M.ok s_726)) xs_731 made_596))
/-! ### _law_cell -/
@[irreducible] def m_law_cell (a0_script : Scr) (a1_k : Int) : M Int :=
  ((M.ok (decide (a1_k < (a0_script.l.length : Int)))).bind fun b => if b then (((M.ok a0_script).bind fun x_797 => (M.ok a1_k).bind fun y_798 => ixS x_797 y_798).bind fun x_799 => (M.ok (1000000000000000000000000000000000000000000000000000000000000 : Int)).bind fun y_800 => modM x_799 y_800) else ((M.ok (0 : Int)).bind fun first_801 => (M.bind ((M.ok (decide ((0 : Int) < (a0_script.l.length : Int)))).bind fun b => if b then ((((M.ok a0_script).bind fun x_846 => (M.ok (0 : Int)).bind fun y_847 => ixS x_846 y_847).bind fun x_848 => (M.ok (1000000000000000000000000000000000000000000000000000000000000 : Int)).bind fun y_849 => modM x_848 y_849).bind fun first_850 => (M.ok first_850)) else (M.ok first_801)) fun s_810 => ((M.ok ((((s_810 + ((977 : Int) * a1_k)) + (1 : Int)) * (48271 : Int)) % (2147483647 : Int))).bind fun stir_817 => ((((M.ok stir_817).bind fun x_823 => (M.ok stir_817).bind fun y_824 => mulM x_823 y_824).bind fun x_825 => (M.ok (1000000007 : Int)).bind fun y_826 => modM x_825 y_826).bind fun stir_827 => ((M.ok (((stir_827 + ((69621 : Int) * a1_k)) * (40692 : Int)) % (998244353 : Int))).bind fun stir_833 => (((M.ok stir_833).bind fun x_839 => (M.ok stir_833).bind fun y_840 => mulM x_839 y_840).bind fun x_841 => (M.ok (64 : Int)).bind fun y_842 => fdivM x_841 y_842)))))))
/-! ### _law_rows -/
@[irreducible] def m_law_rows_b1 (a0_script : Scr) (a1_at : Int) (a2_many : Int) (a3_most : Int) (a4_crushers : Int) (x_996 : Int) (s_995 : (List Row)) : M (Ctl (List Row) (List Row)) :=
  ((((m_law_cell a0_script (a1_at + x_996)).ne.bind fun x_1021 => ((M.ok a2_many).bind fun x_1019 => ((M.ok a3_most).bind fun x_1017 => (M.ok ()).bind fun y_1018 => .ok (x_1017, y_1018)).bind fun y_1020 => .ok (x_1019, y_1020)).bind fun y_1022 => .ok (x_1021, y_1022)).bind fun a_1023 => (m_law_row a_1023.1 a_1023.2.1 a_1023.2.2.1).ne).bind fun row_1024 => (M.bind ((andM (((M.ok row_1024).bind fun x_1030 => (M.ok (0 : Int)).bind fun y_1031 => ixM x_1030.cs y_1031).bind fun x_1032 => (M.ok (Cl.w (wd (Str.ofString "crush")))).bind fun y_1033 => .ok (decide (x_1032 = y_1033))) (((((M.ok s_995).bind fun xs_1043 => lcM (fun x_1035 : Row => (((M.ok x_1035).bind fun x_1038 => (M.ok (0 : Int)).bind fun y_1039 => ixM x_1038.cs y_1039).bind fun x_1040 => (M.ok (Cl.w (wd (Str.ofString "crush")))).bind fun y_1041 => .ok (decide (x_1040 = y_1041)))) (fun x_1035 : Row => (M.ok x_1035)) xs_1043).bind fun x_1044 => (M.ok ()).bind fun y_1045 => .ok (x_1044, y_1045)).bind fun a_1046 => .ok (List.length a_1046.1 : Int)).bind fun x_1047 => (M.ok a4_crushers).bind fun y_1048 => .ok (decide (y_1048 ≤ x_1047)))).bind fun b => if b then ((((M.ok (Cl.w (wd (Str.ofString "bin")))).bind fun x_1077 => ((((((M.ok row_1024).bind fun x_1070 => (M.ok (1 : Int)).bind fun y_1071 => ixM x_1070.cs y_1071).bind clI).bind fun x_1072 => (M.ok (6 : Int)).bind fun y_1073 => modM x_1072 y_1073).bind fun x_1074 => .ok (Cl.i x_1074)).bind fun x_1075 => (M.ok ([] : List Cl)).bind fun y_1076 => .ok (x_1075 :: y_1076)).bind fun y_1078 => .ok (x_1077 :: y_1078)).bind fun x_1079 => chk (x_1079.length ≤ 1000) (Row.mk x_1079)).bind fun row_1080 => (M.ok row_1080)) else (M.ok row_1024)) fun s_1052 => ((M.ok s_1052).bind fun x_1066 => (appM s_995 x_1066).bind fun rows_1060 => (M.ok (.nx rows_1060)))))
@[irreducible] def m_law_rows (a0_script : Scr) (a1_at : Int) (a2_many : Int) (a3_most : Int) (a4_crushers : Int) : M (List Row) :=
  ((M.ok ([] : (List Row))).bind fun rows_986 => (((M.ok (a2_many - (1 : Int))).bind rng1M).bind fun xs_1112 => forM (m_law_rows_b1 a0_script a1_at a2_many a3_most a4_crushers) (fun s_1089 => ((((M.ok (Cl.w (wd (Str.ofString "bin")))).bind fun x_1098 => ((((m_law_cell a0_script ((a1_at + a2_many) - (1 : Int))).ne.bind fun x_1093 => (M.ok (6 : Int)).bind fun y_1094 => modM x_1093 y_1094).bind fun x_1095 => .ok (Cl.i x_1095)).bind fun x_1096 => (M.ok ([] : List Cl)).bind fun y_1097 => .ok (x_1096 :: y_1097)).bind fun y_1099 => .ok (x_1098 :: y_1099)).bind fun x_1100 => chk (x_1100.length ≤ 1000) (Row.mk x_1100)).bind fun x_1107 => (appM s_1089 x_1107).bind fun rows_1101 => ((m_law_stuck rows_1101).ne.bind fun b => if b then (m_law_forward rows_1101).ne else (M.ok rows_1101)))) xs_1112 rows_986))
/-! ### _law_power -/
@[irreducible] def m_law_power_b1 (a0_base : Int) (x_1169 : Int) (s_1168 : Int) : M (Ctl Int Int) :=
  (((M.ok s_1168).bind fun x_1190 => (M.ok a0_base).bind fun y_1191 => mulM x_1190 y_1191).bind fun made_1192 => (M.ok (.nx made_1192)))
@[irreducible] def m_law_power (a0_base : Int) (a1_many : Int) : M Int :=
  ((M.ok (1 : Int)).bind fun made_1160 => (((M.ok a1_many).bind rng1M).bind fun xs_1206 => forM (m_law_power_b1 a0_base) (fun s_1201 => (M.ok s_1201)) xs_1206 made_1160))
/-! ### _law_raised -/
@[irreducible] def m_law_raised_b1 (a1_parts : Int) (x_1322 : Row) (s_1321 : (Int × (List Row))) : M (Ctl (Int × (List Row)) (List Row)) :=
  (M.bind ((((M.ok x_1322).bind fun x_1344 => (M.ok (0 : Int)).bind fun y_1345 => ixM x_1344.cs y_1345).bind fun x_1346 => (M.ok (Cl.w (wd (Str.ofString "mesh")))).bind fun y_1347 => .ok (decide (x_1346 = y_1347))).bind fun b => if b then ((((M.ok (Cl.w (wd (Str.ofString "mesh")))).bind fun x_1386 => ((((((M.ok x_1322).bind fun x_1371 => (M.ok (1 : Int)).bind fun y_1372 => ixM x_1371.cs y_1372).bind clI).bind fun x_1373 => (m_law_power a1_parts (s_1321.1 % (40 : Int))).ne.bind fun y_1374 => mulM x_1373 y_1374).bind fun x_1379 => .ok (Cl.i x_1379)).bind fun x_1384 => (((M.ok x_1322).bind fun x_1375 => (M.ok (2 : Int)).bind fun y_1376 => ixM x_1375.cs y_1376).bind fun x_1382 => (((M.ok x_1322).bind fun x_1377 => (M.ok (3 : Int)).bind fun y_1378 => ixM x_1377.cs y_1378).bind fun x_1380 => (M.ok ([] : List Cl)).bind fun y_1381 => .ok (x_1380 :: y_1381)).bind fun y_1383 => .ok (x_1382 :: y_1383)).bind fun y_1385 => .ok (x_1384 :: y_1385)).bind fun y_1387 => .ok (x_1386 :: y_1387)).bind fun x_1388 => chk (x_1388.length ≤ 1000) (Row.mk x_1388)).bind fun one_1389 => ((M.ok (s_1321.1 / (3 : Int))).bind fun cell_1395 => (M.ok (one_1389, cell_1395)))) else (M.ok (x_1322, s_1321.1))) fun s_1351 => ((M.ok s_1351.1).bind fun x_1367 => (appM s_1321.2 x_1367).bind fun made_1361 => (M.ok (.nx (s_1351.2, made_1361)))))
@[irreducible] def m_law_raised (a0_rows : (List Row)) (a1_parts : Int) (a2_cell : Int) : M (List Row) :=
  ((M.ok ([] : (List Row))).bind fun made_1312 => ((M.ok a0_rows).bind fun xs_1416 => forM (m_law_raised_b1 a1_parts) (fun s_1405 => ((m_law_stuck s_1405.2).ne.bind fun b => if b then (M.ok a0_rows) else (M.ok s_1405.2))) xs_1416 (a2_cell, made_1312)))
/-! ### good_row -/
@[irreducible] def m_good_row (a0_row : Row) (a1_many : Int) : M Bool :=
  ((andM (M.ok (decide ((a0_row.cs.length : Int) = (4 : Int)))) (((M.ok a0_row).bind fun x_1460 => (M.ok (0 : Int)).bind fun y_1461 => ixM x_1460.cs y_1461).bind fun x_1462 => (M.ok (Cl.w (wd (Str.ofString "mesh")))).bind fun y_1463 => .ok (decide (x_1462 = y_1463)))).bind fun b => if b then (andM ((M.ok (1 : Int)).bind fun x_1469 => (((M.ok a0_row).bind fun x_1467 => (M.ok (1 : Int)).bind fun y_1468 => ixM x_1467.cs y_1468).bind clI).bind fun y_1470 => if decide (x_1469 ≤ y_1470) then (M.ok (1000000000000000000000000000000000000000000000000000000000000)).bind fun z_1471 => .ok (decide (y_1470 ≤ z_1471)) else .ok false) (andM ((M.ok (0 : Int)).bind fun x_1474 => (((M.ok a0_row).bind fun x_1472 => (M.ok (2 : Int)).bind fun y_1473 => ixM x_1472.cs y_1473).bind clI).bind fun y_1475 => if decide (x_1474 ≤ y_1475) then (M.ok a1_many).bind fun z_1476 => .ok (decide (y_1475 < z_1476)) else .ok false) ((M.ok (0 : Int)).bind fun x_1479 => (((M.ok a0_row).bind fun x_1477 => (M.ok (3 : Int)).bind fun y_1478 => ixM x_1477.cs y_1478).bind clI).bind fun y_1480 => if decide (x_1479 ≤ y_1480) then (M.ok a1_many).bind fun z_1481 => .ok (decide (y_1480 < z_1481)) else .ok false))) else ((andM (M.ok (decide ((a0_row.cs.length : Int) = (2 : Int)))) (((M.ok a0_row).bind fun x_1482 => (M.ok (0 : Int)).bind fun y_1483 => ixM x_1482.cs y_1483).bind fun x_1484 => (M.ok (Cl.w (wd (Str.ofString "crush")))).bind fun y_1485 => .ok (decide (x_1484 = y_1485)))).bind fun b => if b then ((M.ok (0 : Int)).bind fun x_1491 => (((M.ok a0_row).bind fun x_1489 => (M.ok (1 : Int)).bind fun y_1490 => ixM x_1489.cs y_1490).bind clI).bind fun y_1492 => if decide (x_1491 ≤ y_1492) then (M.ok a1_many).bind fun z_1493 => .ok (decide (y_1492 < z_1493)) else .ok false) else (andM (M.ok (decide ((a0_row.cs.length : Int) = (2 : Int)))) (andM (((M.ok a0_row).bind fun x_1494 => (M.ok (0 : Int)).bind fun y_1495 => ixM x_1494.cs y_1495).bind fun x_1496 => (M.ok (Cl.w (wd (Str.ofString "bin")))).bind fun y_1497 => .ok (decide (x_1496 = y_1497))) ((M.ok (0 : Int)).bind fun x_1500 => (((M.ok a0_row).bind fun x_1498 => (M.ok (1 : Int)).bind fun y_1499 => ixM x_1498.cs y_1499).bind clI).bind fun y_1501 => if decide (x_1500 ≤ y_1501) then (M.ok (5)).bind fun z_1502 => .ok (decide (y_1501 ≤ z_1502)) else .ok false)))))
/-! ### Works -/
@[irreducible] def m_Works_b1 (a2_rows : (List Row)) (x_1508 : Row) (s_1507 : Unit) : M (Ctl Unit Wk) :=
  ((notM (m_good_row x_1508 (List.length a2_rows : Int)).ne).bind fun b => if b then (M.er ⟨"BadWorks"⟩) else (M.ok (.nx ())))
@[irreducible] def m_Works (a1_parts : Int) (a2_rows : (List Row)) : M Wk :=
  ((M.ok ((decide (a1_parts < (2 : Int))) || ((decide ((9) < a1_parts)) || ((decide ((List.length a2_rows : Int) < (1 : Int))) || (decide ((12) < (List.length a2_rows : Int))))))).bind fun b => if b then (M.er ⟨"BadWorks"⟩) else ((M.ok a2_rows).bind fun xs_1563 => forM (m_Works_b1 a2_rows) (fun s_1535 => ((M.ok a1_parts).bind fun parts_1539 => ((M.ok a2_rows).bind fun rows_1550 => (M.ok (Wk.mk parts_1539 rows_1550))))) xs_1563 ()))
/-! ### _law_size -/
@[irreducible] def m_law_size (a0_parts : Int) (a1_rows : (List Row)) (a2_cell : Int) : M Int :=
  ((((M.ok a1_rows).bind fun xs_1622 => lcM (fun x_1612 : Row => (((M.ok x_1612).bind fun x_1615 => (M.ok (0 : Int)).bind fun y_1616 => ixM x_1615.cs y_1616).bind fun x_1617 => (M.ok (Cl.w (wd (Str.ofString "mesh")))).bind fun y_1618 => .ok (decide (x_1617 = y_1618)))) (fun x_1612 : Row => (((M.ok x_1612).bind fun x_1619 => (M.ok (1 : Int)).bind fun y_1620 => ixM x_1619.cs y_1620).bind clI)) xs_1622).bind fun x_1623 => (M.ok [(1 : Int)]).bind fun y_1624 => catM x_1623 y_1624).bind fun openings_1625 => ((M.ok (a2_cell / (4 : Int))).bind fun at_1631 => ((((((M.ok openings_1625).bind fun x_1639 => ((M.ok at_1631).bind fun x_1637 => (M.ok (List.length openings_1625 : Int)).bind fun y_1638 => modM x_1637 y_1638).bind fun y_1640 => ixM x_1639 y_1640).bind fun x_1647 => ((m_law_power a0_parts (at_1631 % (60 : Int))).ne.bind fun x_1645 => ((M.ok a2_cell).bind fun x_1643 => ((M.ok ((1 : Int) + (at_1631 % (1000 : Int)))).bind fun x_1641 => (M.ok ([] : List Int)).bind fun y_1642 => .ok (x_1641 :: y_1642)).bind fun y_1644 => .ok (x_1643 :: y_1644)).bind fun y_1646 => .ok (x_1645 :: y_1646)).bind fun y_1648 => .ok (x_1647 :: y_1648)).bind fun x_1649 => chk (x_1649.length ≤ 1000) x_1649).bind fun x_1650 => (M.ok (a2_cell % (4 : Int))).bind fun y_1651 => ixM x_1650 y_1651).bind fun near_1652 => (M.ok (if (if ((near_1652 - (1 : Int)) + ((a2_cell / (240 : Int)) % (3 : Int))) < (1000000000000000000000000000000000000000000000000000000000000 : Int) then ((near_1652 - (1 : Int)) + ((a2_cell / (240 : Int)) % (3 : Int))) else (1000000000000000000000000000000000000000000000000000000000000 : Int)) > (1 : Int) then (if ((near_1652 - (1 : Int)) + ((a2_cell / (240 : Int)) % (3 : Int))) < (1000000000000000000000000000000000000000000000000000000000000 : Int) then ((near_1652 - (1 : Int)) + ((a2_cell / (240 : Int)) % (3 : Int))) else (1000000000000000000000000000000000000000000000000000000000000 : Int)) else (1 : Int))))))
/-! ### pieces_of -/
@[irreducible] def m_pieces_of (a0_size : Int) (a1_parts : Int) : M (List (Int × Int)) :=
  ((((((M.ok a0_size).bind fun x_1727 => (M.ok a1_parts).bind fun y_1728 => fdivM x_1727 y_1728).bind fun x_1733 => ((M.ok a1_parts).bind fun x_1731 => ((M.ok a0_size).bind fun x_1729 => (M.ok a1_parts).bind fun y_1730 => modM x_1729 y_1730).bind fun y_1732 => .ok (x_1731 - y_1732)).bind fun x_1734 => .ok (x_1733, x_1734)).bind fun x_1745 => (((((M.ok a0_size).bind fun x_1735 => (M.ok a1_parts).bind fun y_1736 => fdivM x_1735 y_1736).bind fun x_1737 => (M.ok (1 : Int)).bind fun y_1738 => .ok (x_1737 + y_1738)).bind fun x_1741 => ((M.ok a0_size).bind fun x_1739 => (M.ok a1_parts).bind fun y_1740 => modM x_1739 y_1740).bind fun x_1742 => .ok (x_1741, x_1742)).bind fun x_1743 => (M.ok ([] : List (Int × Int))).bind fun y_1744 => .ok (x_1743 :: y_1744)).bind fun y_1746 => .ok (x_1745 :: y_1746)).bind fun x_1747 => chk (x_1747.length ≤ 1000) x_1747).bind fun pairs_1748 => ((M.ok pairs_1748).bind fun xs_1763 => lcM (fun x_1755 : (Int × Int) => (((M.ok x_1755.1).bind fun x_1758 => (M.ok x_1755.2).bind fun y_1759 => mulM x_1758 y_1759).bind fun x_1760 => (M.ok (0 : Int)).bind fun y_1761 => .ok (decide (y_1761 < x_1760)))) (fun x_1755 : (Int × Int) => (M.ok x_1755)) xs_1763))
/-! ### goes_on -/
@[irreducible] def m_goes_on (a0_works : Wk) (a1_row : Int) (a2_size : Int) : M (List (T3 Int Int Int)) :=
  (((M.ok a0_works.rows).bind fun x_1822 => (M.ok a1_row).bind fun y_1823 => ixM x_1822 y_1823).bind fun told_1824 => ((((M.ok told_1824).bind fun x_1830 => (M.ok (0 : Int)).bind fun y_1831 => ixM x_1830.cs y_1831).bind fun x_1832 => (M.ok (Cl.w (wd (Str.ofString "bin")))).bind fun y_1833 => .ok (decide (x_1832 = y_1833))).bind fun b => if b then (M.ok ([] : (List (T3 Int Int Int)))) else ((((M.ok told_1824).bind fun x_1837 => (M.ok (0 : Int)).bind fun y_1838 => ixM x_1837.cs y_1838).bind fun x_1839 => (M.ok (Cl.w (wd (Str.ofString "crush")))).bind fun y_1840 => .ok (decide (x_1839 = y_1840))).bind fun b => if b then ((m_pieces_of a2_size a0_works.parts).ne.bind fun xs_1856 => lcM (fun x_1845 : (Int × Int) => (M.ok true)) (fun x_1845 : (Int × Int) => ((((M.ok told_1824).bind fun x_1850 => (M.ok (1 : Int)).bind fun y_1851 => ixM x_1850.cs y_1851).bind clI).bind fun x_1852 => (M.ok x_1845.1).bind fun x_1853 => (M.ok x_1845.2).bind fun x_1854 => .ok (T3.mk x_1852 x_1853 x_1854))) xs_1856) else (((M.ok a2_size).bind fun x_1859 => (((M.ok told_1824).bind fun x_1857 => (M.ok (1 : Int)).bind fun y_1858 => ixM x_1857.cs y_1858).bind clI).bind fun y_1860 => .ok (decide (x_1859 ≤ y_1860))).bind fun b => if b then ((((((M.ok told_1824).bind fun x_1864 => (M.ok (2 : Int)).bind fun y_1865 => ixM x_1864.cs y_1865).bind clI).bind fun x_1866 => (M.ok a2_size).bind fun x_1867 => (M.ok (1 : Int)).bind fun x_1868 => .ok (T3.mk x_1866 x_1867 x_1868)).bind fun x_1869 => (M.ok ([] : List (T3 Int Int Int))).bind fun y_1870 => .ok (x_1869 :: y_1870)).bind fun x_1871 => chk (x_1871.length ≤ 1000) x_1871) else ((((((M.ok told_1824).bind fun x_1872 => (M.ok (3 : Int)).bind fun y_1873 => ixM x_1872.cs y_1873).bind clI).bind fun x_1874 => (M.ok a2_size).bind fun x_1875 => (M.ok (1 : Int)).bind fun x_1876 => .ok (T3.mk x_1874 x_1875 x_1876)).bind fun x_1877 => (M.ok ([] : List (T3 Int Int Int))).bind fun y_1878 => .ok (x_1877 :: y_1878)).bind fun x_1879 => chk (x_1879.length ≤ 1000) x_1879)))))
/-! ### own_weight -/
@[irreducible] def m_own_weight (a0_works : Wk) (a1_row : Int) (a2_size : Int) (a3_number : Int) : M Int :=
  ((((M.ok a0_works.rows).bind fun x_1892 => (M.ok a1_row).bind fun y_1893 => ixM x_1892 y_1893).bind fun x_1899 => (((M.ok (Cl.w (wd (Str.ofString "bin")))).bind fun x_1896 => ((M.ok (Cl.i a3_number)).bind fun x_1894 => (M.ok ([] : List Cl)).bind fun y_1895 => .ok (x_1894 :: y_1895)).bind fun y_1897 => .ok (x_1896 :: y_1897)).bind fun x_1898 => chk (x_1898.length ≤ 1000) (Row.mk x_1898)).bind fun y_1900 => .ok (decide (x_1899 = y_1900))).bind fun b => if b then (M.ok a2_size) else (M.ok (0 : Int)))
/-! ### weight_in -/
@[irreducible] def m_weight_in_b2 (s_2143 : ((List Kp) × (Dp Int))) (x_2252 : (T3 Int Int Int)) (s_2251 : Int) : M (Ctl Int (Ctl ((List Kp) × (Dp Int)) Int)) :=
  (((M.ok x_2252.c).bind fun x_2283 => ((M.ok s_2143.2).bind fun d_2281 => ((M.ok x_2252.a).bind fun x_2279 => (M.ok x_2252.b).bind fun y_2280 => .ok (Kp.mk x_2279 y_2280)).bind fun k_2282 => pgetM d_2281 k_2282).bind fun y_2284 => mulM x_2283 y_2284).bind fun y_2291 => (fun total_2285 => (M.ok (.nx total_2285))) (s_2251 + y_2291))
@[irreducible] def m_weight_in_b1 (a0_works : Wk) (a3_number : Int) (s_2143 : ((List Kp) × (Dp Int))) : M (Ctl ((List Kp) × (Dp Int)) Int) :=
  (((M.ok s_2143.1).bind fun x_2169 => (M.ok (-(1 : Int))).bind fun y_2170 => ixM x_2169 y_2170).bind fun here_2171 => (((M.ok (decide ((0 : Int) < here_2171.b))).bind fun b_2177 => if b_2177 then (m_goes_on a0_works here_2171.a here_2171.b).ne else (M.ok ([] : List (T3 Int Int Int)))).bind fun ahead_2178 => (((M.ok ahead_2178).bind fun xs_2199 => lcM (fun x_2185 : (T3 Int Int Int) => (((M.ok x_2185.a).bind fun x_2192 => (M.ok x_2185.b).bind fun y_2193 => .ok (Kp.mk x_2192 y_2193)).bind fun k_2194 => (M.ok s_2143.2).bind fun d_2195 => .ok (!Option.isSome (plook k_2194 d_2195.kvs)))) (fun x_2185 : (T3 Int Int Int) => ((M.ok x_2185.a).bind fun x_2196 => (M.ok x_2185.b).bind fun y_2197 => .ok (Kp.mk x_2196 y_2197))) xs_2199).bind fun lacking_2206 => (((M.ok here_2171).bind fun k_2217 => (M.ok s_2143.2).bind fun d_2218 => .ok (Option.isSome (plook k_2217 d_2218.kvs))).bind fun b => if b then ((popM s_2143.1).bind fun open_grains_2222 => (M.ok (.nx (open_grains_2222, s_2143.2)))) else ((M.ok (decide ((0 : Int) < (List.length lacking_2206 : Int)))).bind fun b => if b then ((M.ok lacking_2206).bind fun y_2240 => (catM s_2143.1 y_2240).bind fun open_grains_2233 => (M.ok (.nx (open_grains_2233, s_2143.2)))) else ((m_own_weight a0_works here_2171.a here_2171.b a3_number).ne.bind fun total_2241 => ((M.ok ahead_2178).bind fun xs_2310 => forM (m_weight_in_b2 s_2143) (fun s_2297 => ((M.ok s_2297).bind fun x_2301 => (M.ok here_2171).bind fun y_2302 => (pputM s_2143.2 y_2302 x_2301).bind fun known_2303 => (M.ok (.nx (s_2143.1, known_2303))))) xs_2310 total_2241)))))))
@[irreducible] def m_weight_in_c1  (s_2143 : ((List Kp) × (Dp Int))) : M Bool :=
  (M.ok (decide ((0 : Int) < (List.length s_2143.1 : Int))))
@[irreducible] def m_weight_in (a0_works : Wk) (a1_row : Int) (a2_size : Int) (a3_number : Int) : M Int :=
  ((((M.ok a1_row).bind fun x_2113 => (M.ok (0 : Int)).bind fun y_2114 => .ok (Kp.mk x_2113 y_2114)).bind fun k_2115 => (M.ok (0 : Int)).bind fun x_2116 => .ok (Dp.mk [(k_2115, x_2116)])).bind fun known_2117 => (((((M.ok a1_row).bind fun x_2124 => (M.ok a2_size).bind fun y_2125 => .ok (Kp.mk x_2124 y_2125)).bind fun x_2126 => (M.ok ([] : List Kp)).bind fun y_2127 => .ok (x_2126 :: y_2127)).bind fun x_2128 => chk (x_2128.length ≤ 1000) x_2128).bind fun open_grains_2129 => (whM m_weight_in_c1 (m_weight_in_b1 a0_works a3_number) (fun s_2315 => ((M.ok s_2315.2).bind fun d_2320 => ((M.ok a1_row).bind fun x_2318 => (M.ok a2_size).bind fun y_2319 => .ok (Kp.mk x_2318 y_2319)).bind fun k_2321 => pgetM d_2320 k_2321)) FUEL (open_grains_2129, known_2117))))
/-! ### weights_from -/
@[irreducible] def m_weights_from (a0_works : Wk) (a1_row : Int) (a2_size : Int) : M (List Int) :=
  (((M.ok (6 : Int)).bind rng1M).bind fun xs_2333 => lcM (fun x_2329 : Int => (M.ok true)) (fun x_2329 : Int => (m_weight_in a0_works a1_row a2_size x_2329).ne) xs_2333)
/-! ### _law_whole -/
@[irreducible] def m_law_whole (a0_found : Int) : M Bool :=
  (M.ok (true && (!false)))
/-! ### _law_sizes -/
@[irreducible] def m_law_sizes_b1 (a0_parts : Int) (s_2463 : (Int × Int × (List Int))) : M (Ctl (Int × Int × (List Int)) (List Int)) :=
  ((((M.ok s_2463.1).bind fun x_2492 => (M.ok a0_parts).bind fun y_2493 => fdivM x_2492 y_2493).bind fun x_2501 => (((((M.ok s_2463.1).bind fun x_2494 => (M.ok a0_parts).bind fun y_2495 => modM x_2494 y_2495).bind fun x_2496 => (M.ok (0 : Int)).bind fun y_2497 => .ok (decide (y_2497 < x_2496))).bind fun x_2498 => (M.ok ()).bind fun y_2499 => .ok (x_2498, y_2499)).bind fun a_2500 => .ok (if a_2500.1 then (1 : Int) else 0)).bind fun y_2502 => .ok (x_2501 + y_2502)).bind fun high_2503 => (((M.ok s_2463.2.1).bind fun x_2509 => (M.ok a0_parts).bind fun y_2510 => fdivM x_2509 y_2510).bind fun low_2511 => (((M.ok [low_2511, high_2503]).bind fun x_2517 => (M.ok s_2463.2.2).bind fun y_2518 => catM x_2517 y_2518).bind fun sizes_2519 => (M.ok (.nx (high_2503, low_2511, sizes_2519))))))
@[irreducible] def m_law_sizes_c1  (s_2463 : (Int × Int × (List Int))) : M Bool :=
  (M.ok (decide ((1 : Int) < s_2463.2.1)))
@[irreducible] def m_law_sizes (a0_parts : Int) (a1_size : Int) : M (List Int) :=
  ((M.ok [a1_size]).bind fun sizes_2442 => ((M.ok a1_size).bind fun low_2448 => ((M.ok a1_size).bind fun high_2454 => (whM m_law_sizes_c1 (m_law_sizes_b1 a0_parts) (fun s_2530 => (((((((((M.ok s_2530.2.2).bind fun x_2533 => (M.ok [(1 : Int)]).bind fun y_2534 => catM x_2533 y_2534).bind fun xs_2540 => lcM (fun x_2536 : Int => (M.ok (decide ((0 : Int) < x_2536)))) (fun x_2536 : Int => (M.ok (x_2536, (0 : Int)))) xs_2540).bind fun x_2541 => (M.ok ()).bind fun y_2542 => .ok (x_2541, y_2542)).bind fun a_2543 => .ok (⟨dmerge [] a_2543.1⟩ : (Dc Int))).bind fun x_2544 => (M.ok ()).bind fun y_2545 => .ok (x_2544, y_2545)).bind fun a_2546 => .ok (List.map (·.1) a_2546.1.kvs)).bind fun x_2547 => (M.ok ()).bind fun y_2548 => .ok (x_2547, y_2548)).bind fun a_2549 => .ok (sortI a_2549.1))) FUEL (high_2454, low_2448, sizes_2442)))))
/-! ### _law_laid -/
@[irreducible] def m_law_laid (a0_parts : Int) (a1_rows : (List Row)) (a2_row : Int) (a3_size : Int) (a4_number : Int) (a5_table : (Dc (List Int))) : M Int :=
  (((M.ok a1_rows).bind fun x_2633 => ((m_law_end a1_rows a2_row a3_size).ne.bind getM).bind fun y_2634 => ixM x_2633 y_2634).bind fun one_2635 => ((((M.ok one_2635).bind fun x_2641 => (M.ok (0 : Int)).bind fun y_2642 => ixM x_2641.cs y_2642).bind fun x_2643 => (M.ok (Cl.w (wd (Str.ofString "bin")))).bind fun y_2644 => .ok (decide (x_2643 = y_2644))).bind fun b => if b then ((M.ok a3_size).bind fun x_2655 => (((((M.ok one_2635).bind fun x_2648 => (M.ok (1 : Int)).bind fun y_2649 => ixM x_2648.cs y_2649).bind fun x_2650 => (M.ok (Cl.i a4_number)).bind fun y_2651 => .ok (decide (x_2650 = y_2651))).bind fun x_2652 => (M.ok ()).bind fun y_2653 => .ok (x_2652, y_2653)).bind fun a_2654 => .ok (if a_2654.1 then (1 : Int) else 0)).bind fun y_2656 => mulM x_2655 y_2656) else (((M.ok a3_size).bind fun x_2657 => (M.ok a0_parts).bind fun y_2658 => fdivM x_2657 y_2658).bind fun low_2659 => (((M.ok a3_size).bind fun x_2665 => (M.ok a0_parts).bind fun y_2666 => modM x_2665 y_2666).bind fun rest_2667 => (((M.ok (a0_parts - rest_2667)).bind fun x_2679 => (((M.ok a5_table).bind fun d_2673 => (M.ok low_2659).bind fun k_2674 => dgetM d_2673 k_2674).bind fun x_2677 => (((M.ok one_2635).bind fun x_2675 => (M.ok (1 : Int)).bind fun y_2676 => ixM x_2675.cs y_2676).bind clI).bind fun y_2678 => ixM x_2677 y_2678).bind fun y_2680 => mulM x_2679 y_2680).bind fun weight_2681 => (M.bind ((M.ok (decide ((0 : Int) < rest_2667))).bind fun b => if b then (((M.ok weight_2681).bind fun x_2708 => ((M.ok rest_2667).bind fun x_2706 => (((M.ok a5_table).bind fun d_2700 => (M.ok (low_2659 + (1 : Int))).bind fun k_2701 => dgetM d_2700 k_2701).bind fun x_2704 => (((M.ok one_2635).bind fun x_2702 => (M.ok (1 : Int)).bind fun y_2703 => ixM x_2702.cs y_2703).bind clI).bind fun y_2705 => ixM x_2704 y_2705).bind fun y_2707 => mulM x_2706 y_2707).bind fun y_2709 => .ok (x_2708 + y_2709)).bind fun weight_2710 => (M.ok weight_2710)) else (M.ok weight_2681)) fun s_2690 => (M.ok s_2690)))))))
/-! ### _law_far -/
@[irreducible] def m_law_far_b2 (a0_parts : Int) (a1_rows : (List Row)) (a3_number : Int) (s_2846 : (Dc (List Int))) (x_2847 : Int) (x_2877 : Int) (s_2876 : (List Int)) : M (Ctl (List Int) (Ctl (Dc (List Int)) Int)) :=
  ((m_law_laid a0_parts a1_rows x_2877 x_2847 a3_number s_2846).ne.bind fun x_2905 => (appM s_2876 x_2905).bind fun line_2899 => (M.ok (.nx line_2899)))
@[irreducible] def m_law_far_b1 (a0_parts : Int) (a1_rows : (List Row)) (a3_number : Int) (x_2847 : Int) (s_2846 : (Dc (List Int))) : M (Ctl (Dc (List Int)) Int) :=
  ((M.ok ([] : (List Int))).bind fun line_2868 => (((M.ok (List.length a1_rows : Int)).bind rng1M).bind fun xs_2926 => forM (m_law_far_b2 a0_parts a1_rows a3_number s_2846 x_2847) (fun s_2910 => ((M.ok s_2910).bind fun x_2917 => (M.ok x_2847).bind fun y_2918 => (dputM s_2846 y_2918 x_2917).bind fun table_2919 => (M.ok (.nx table_2919)))) xs_2926 line_2868))
@[irreducible] def m_law_far (a0_parts : Int) (a1_rows : (List Row)) (a2_size : Int) (a3_number : Int) : M Int :=
  (((M.ok (0 : Int)).bind fun k_2834 => ((M.ok a1_rows).bind fun xs_2833 => lcM (fun x_2829 : Row => (M.ok true)) (fun x_2829 : Row => (M.ok (0 : Int))) xs_2833).bind fun x_2835 => .ok (Dc.mk [(k_2834, x_2835)])).bind fun table_2836 => ((m_law_sizes a0_parts a2_size).ne.bind fun xs_2939 => forM (m_law_far_b1 a0_parts a1_rows a3_number) (fun s_2930 => (((M.ok s_2930).bind fun d_2934 => (M.ok a2_size).bind fun k_2935 => dgetM d_2934 k_2935).bind fun x_2936 => (M.ok (0 : Int)).bind fun y_2937 => ixM x_2936 y_2937)) xs_2939 table_2836))
/-! ### law -/
@[irreducible] def m_law_b1 (a0_script : Scr) (parts_3084 : Int) (rows_3122 : (List Row)) (works_3129 : Wk) (number_3137 : Int) (x_3150 : Int) (s_3149 : Unit) : M (Ctl Unit Bool) :=
  ((((M.ok parts_3084).bind fun x_3174 => ((M.ok rows_3122).bind fun x_3172 => ((m_law_cell a0_script x_3150).ne.bind fun x_3170 => (M.ok ()).bind fun y_3171 => .ok (x_3170, y_3171)).bind fun y_3173 => .ok (x_3172, y_3173)).bind fun y_3175 => .ok (x_3174, y_3175)).bind fun a_3176 => (m_law_size a_3176.1 a_3176.2.1 a_3176.2.2.1).ne).bind fun size_3177 => ((m_weight_in works_3129 (0 : Int) size_3177 number_3137).ne.bind fun found_3183 => ((orM (notM (m_law_whole found_3183).ne) ((M.ok found_3183).bind fun x_3189 => (m_law_far parts_3084 rows_3122 size_3177 number_3137).ne.bind fun y_3190 => .ok (!decide (x_3189 = y_3190)))).bind fun b => if b then ((M.ok false).bind fun r_3194 => .ok (.rt r_3194)) else ((M.ok (decide (x_3150 = (11 : Int)))).bind fun b => if b then ((m_weights_from works_3129 (0 : Int) size_3177).ne.bind fun told_3198 => ((orM (M.ok (!true)) (orM (M.ok (!decide ((List.length told_3198 : Int) = (6 : Int)))) (orM (M.ok (!decide ((List.sum told_3198) = size_3177))) (((M.ok told_3198).bind fun x_3204 => (M.ok number_3137).bind fun y_3205 => ixM x_3204 y_3205).bind fun x_3206 => (M.ok found_3183).bind fun y_3207 => .ok (!decide (x_3206 = y_3207)))))).bind fun b => if b then ((M.ok false).bind fun r_3211 => .ok (.rt r_3211)) else (M.ok (.nx ())))) else (M.ok (.nx ()))))))
@[irreducible] def m_law (a0_script : Scr) : M Bool :=
  (((M.ok (2 : Int)).bind fun x_3082 => ((m_law_cell a0_script (0 : Int)).ne.bind fun x_3080 => (M.ok (8 : Int)).bind fun y_3081 => modM x_3080 y_3081).bind fun y_3083 => .ok (x_3082 + y_3083)).bind fun parts_3084 => ((((M.ok a0_script).bind fun x_3104 => ((M.ok (1 : Int)).bind fun x_3102 => (((M.ok (2 : Int)).bind fun x_3094 => (((m_law_cell a0_script (0 : Int)).ne.bind fun x_3090 => (M.ok (8 : Int)).bind fun y_3091 => fdivM x_3090 y_3091).bind fun x_3092 => (M.ok (7 : Int)).bind fun y_3093 => modM x_3092 y_3093).bind fun y_3095 => .ok (x_3094 + y_3095)).bind fun x_3100 => ((M.ok (20 : Int)).bind fun x_3098 => ((M.ok (7 : Int)).bind fun x_3096 => (M.ok ()).bind fun y_3097 => .ok (x_3096, y_3097)).bind fun y_3099 => .ok (x_3098, y_3099)).bind fun y_3101 => .ok (x_3100, y_3101)).bind fun y_3103 => .ok (x_3102, y_3103)).bind fun y_3105 => .ok (x_3104, y_3105)).bind fun a_3106 => (m_law_rows a_3106.1 a_3106.2.1 a_3106.2.2.1 a_3106.2.2.2.1 a_3106.2.2.2.2.1).ne).bind fun rows_3107 => ((((M.ok rows_3107).bind fun x_3119 => ((M.ok parts_3084).bind fun x_3117 => (((m_law_cell a0_script (0 : Int)).ne.bind fun x_3113 => (M.ok (56 : Int)).bind fun y_3114 => fdivM x_3113 y_3114).bind fun x_3115 => (M.ok ()).bind fun y_3116 => .ok (x_3115, y_3116)).bind fun y_3118 => .ok (x_3117, y_3118)).bind fun y_3120 => .ok (x_3119, y_3120)).bind fun a_3121 => (m_law_raised a_3121.1 a_3121.2.1 a_3121.2.2.1).ne).bind fun rows_3122 => (((M.ok (parts_3084, rows_3122, ())).bind fun a_3128 => (m_Works a_3128.1 a_3128.2.1)).bind fun works_3129 => (((m_law_cell a0_script (10 : Int)).ne.bind fun x_3135 => (M.ok (6 : Int)).bind fun y_3136 => modM x_3135 y_3136).bind fun number_3137 => (((M.ok (11 : Int)).bind fun x_3143 => (M.ok ((11 : Int) + (if (if ((a0_script.l.length : Int) - (11 : Int)) < (4 : Int) then ((a0_script.l.length : Int) - (11 : Int)) else (4 : Int)) > (1 : Int) then (if ((a0_script.l.length : Int) - (11 : Int)) < (4 : Int) then ((a0_script.l.length : Int) - (11 : Int)) else (4 : Int)) else (1 : Int)))).bind fun y_3144 => rng2M x_3143 y_3144).bind fun xs_3219 => forM (m_law_b1 a0_script parts_3084 rows_3122 works_3129 number_3137) (fun s_3214 => (M.ok true)) xs_3219 ()))))))
/-! ### the plain law -/
theorem ix_nat {α : Type} [Rep α] (xs : List α) (i : Int) (h0 : 0 ≤ i) (h1 : i < xs.length) : ∃ x ∈ xs, ixM xs i = .ok x := by
  have hl : i.toNat < xs.length := by omega
  refine ⟨xs[i.toNat], List.getElem_mem hl, ?_⟩
  have := ixM_of (xs := xs) (i := i.toNat) (List.getElem?_eq_getElem hl)
  rw [Int.toNat_of_nonneg h0] at this
  exact this
theorem ix_mod {α : Type} [Rep α] (xs : List α) (x n : Int) (hn : (xs.length : Int) = n) (h : 0 < n) : ∃ v ∈ xs, ixM xs (x % n) = .ok v := ix_nat xs (x % n) (Int.emod_nonneg x (by omega)) (by have := Int.emod_lt_of_pos x h; omega)
theorem small_of (x : Int) (h1 : 0 ≤ x) (h2 : x ≤ 10 ^ 200) : x.natAbs < 2 ^ 10000 := by
  have a : x.natAbs ≤ 10 ^ 200 := by
    have : ((10 : Int) ^ 200) = ((10 ^ 200 : Nat) : Int) := by norm_cast
    omega
  exact Nat.lt_of_le_of_lt a (by decide +kernel)
/-! rows -/
def cM : Cl := Cl.w (wd (Str.ofString "mesh"))
def cC : Cl := Cl.w (wd (Str.ofString "crush"))
def cB : Cl := Cl.w (wd (Str.ofString "bin"))
theorem mb : decide (cM = cB) = false := by decide +kernel
theorem mc : decide (cM = cC) = false := by decide +kernel
theorem cb : decide (cC = cB) = false := by decide +kernel
theorem cm : decide (cC = cM) = false := by decide +kernel
theorem bm : decide (cB = cM) = false := by decide +kernel
theorem bc : decide (cB = cC) = false := by decide +kernel
inductive GR (n : Int) : Row → Prop
  | mesh (o a b : Int) : 1 ≤ o → o ≤ (1000000000000000000000000000000000000000000000000000000000000 : Int) → 0 ≤ a → a < n → 0 ≤ b → b < n → GR n ⟨[cM, .i o, .i a, .i b]⟩
  | crush (a : Int) : 0 ≤ a → a < n → GR n ⟨[cC, .i a]⟩
  | bin (b : Int) : 0 ≤ b → b ≤ 5 → GR n ⟨[cB, .i b]⟩
theorem ix0 {α : Type} [Rep α] (a : α) (r : List α) : ixM (a :: r) 0 = .ok a := ixM_of (i := 0) rfl
theorem ix1 {α : Type} [Rep α] (a b : α) (r : List α) : ixM (a :: b :: r) 1 = .ok b := ixM_of (i := 1) rfl
theorem ix2 {α : Type} [Rep α] (a b c : α) (r : List α) : ixM (a :: b :: c :: r) 2 = .ok c := ixM_of (i := 2) rfl
theorem ix3 {α : Type} [Rep α] (a b c d : α) (r : List α) : ixM (a :: b :: c :: d :: r) 3 = .ok d := ixM_of (i := 3) rfl
theorem good_is {n : Int} {r : Row} (g : GR n r) : m_good_row r n = .ok true := by
  unfold m_good_row
  cases g with
  | mesh o a b h1 h2 h3 h4 h5 h6 =>
    simp only [M.ok_bind, Mw.bind_assoc, Mw.andM, ix0, ix1, ix2, ix3, clI]
    have : decide (cM = Cl.w (wd (Str.ofString "mesh"))) = true := decide_eq_true rfl
    rw [this]
    have e4 : decide (((([cM, Cl.i o, Cl.i a, Cl.i b] : List Cl).length : Nat) : Int) = 4) = true := rfl
    rw [e4]
    simp only [if_true, M.ok_bind]
    rw [if_pos (decide_eq_true h1)]
    simp only [M.ok_bind, decide_eq_true h2, if_true]
    rw [if_pos (decide_eq_true h3)]
    simp only [M.ok_bind, decide_eq_true h4, if_true]
    rw [if_pos (decide_eq_true h5)]
    simp only [decide_eq_true h6]
  | crush a h1 h2 =>
    simp only [M.ok_bind, Mw.bind_assoc, Mw.andM, ix0, ix1, clI]
    have e4 : decide (((([cC, Cl.i a] : List Cl).length : Nat) : Int) = 4) = false := rfl
    have e2 : decide (((([cC, Cl.i a] : List Cl).length : Nat) : Int) = 2) = true := rfl
    have : decide (cC = Cl.w (wd (Str.ofString "crush"))) = true := decide_eq_true rfl
    rw [e4, e2, this]
    simp only [if_true, M.ok_bind, Bool.false_eq_true, if_false]
    rw [if_pos (decide_eq_true h1)]
    simp only [decide_eq_true h2]
  | bin b h1 h2 =>
    simp only [M.ok_bind, Mw.bind_assoc, Mw.andM, ix0, ix1, clI]
    have e4 : decide (((([cB, Cl.i b] : List Cl).length : Nat) : Int) = 4) = false := rfl
    have e2 : decide (((([cB, Cl.i b] : List Cl).length : Nat) : Int) = 2) = true := rfl
    have q1 : decide (cB = Cl.w (wd (Str.ofString "crush"))) = false := bc
    have q2 : decide (cB = Cl.w (wd (Str.ofString "bin"))) = true := decide_eq_true rfl
    rw [e4, e2, q1, q2]
    simp only [if_true, M.ok_bind, Bool.false_eq_true, if_false]
    rw [if_pos (decide_eq_true h1)]
    simp only [decide_eq_true h2]
theorem works_is (p : Int) (rs : List Row) (h1 : 2 ≤ p) (h2 : p ≤ 9) (l1 : 1 ≤ rs.length) (l2 : rs.length ≤ 12) (g : ∀ r ∈ rs, GR rs.length r) : m_Works p rs = .ok ⟨p, rs⟩ := by
  unfold m_Works
  simp only [M.ok_bind]
  rw [if_neg (by simp; omega)]
  rw [forM_all]
  intro r hr
  unfold m_Works_b1
  rw [good_is (g r hr)]
  rfl
/-! ### where a whole grain goes -/
def pcs (s p : Int) : List (Int × Int) := (if 0 < s / p then [(s / p, p - s % p)] else []) ++ (if 0 < s % p then [(s / p + 1, s % p)] else [])
theorem pieces_is (s p : Int) (hs : 1 ≤ s) (hs2 : s ≤ 10 ^ 100) (h1 : 2 ≤ p) (h2 : p ≤ 9) : m_pieces_of s p = .ok (pcs s p) := by
  have pn : p.natAbs < 2 ^ 8000 := Nat.lt_of_le_of_lt (show p.natAbs ≤ 9 by omega) (by decide +kernel)
  have q0 : 0 ≤ s / p := Int.ediv_nonneg (by omega) (by omega)
  have q1 : s / p ≤ s := Int.ediv_le_self p (by omega)
  have r0 := Int.emod_nonneg s (show p ≠ 0 by omega)
  have r1 := Int.emod_lt_of_pos s (show 0 < p by omega)
  unfold m_pieces_of pcs
  simp only [M.ok_bind, Mw.bind_assoc]
  rw [fdivM_ok (by omega) pn, modM_ok (by omega)]
  simp only [M.ok_bind]
  rw [chk_pos (by simp)]
  simp only [M.ok_bind]
  generalize s / p = q at q0 q1
  generalize s % p = r at r0 r1
  have bg : (10 : Int) ^ 100 + 20 ≤ 10 ^ 200 := by decide +kernel
  have sq : ∀ x : Int, 0 ≤ x → x ≤ s + 1 → x.natAbs < 2 ^ 10000 := fun x a b => small_of x a (by omega)
  rw [lcM_congr (c' := fun x => .ok (decide (0 < x.1 * x.2))) (e' := fun x => .ok x) (fun x hx => by
    simp only [List.mem_cons, List.not_mem_nil, or_false] at hx
    rcases hx with z | z <;> subst z
    · dsimp only
      rw [mulM_ok (sq q q0 (by omega)) (small_of _ (by omega) (by omega))]
      rfl
    · dsimp only
      rw [mulM_ok (sq (q + 1) (by omega) (by omega)) (small_of _ (by omega) (by omega))]
      rfl) (fun _ _ _ => rfl)]
  rw [lcM_ok (c := fun x : Int × Int => decide (0 < x.1 * x.2)) (e := fun x => x) (by simp), List.map_id']
  have a1 : decide (0 < q * (p - r)) = decide (0 < q) := by
    by_cases z : 0 < q
    · rw [decide_eq_true z, decide_eq_true (Int.mul_pos z (by omega))]
    · have : q = 0 := by omega
      subst this
      simp
  have a2 : decide (0 < (q + 1) * r) = decide (0 < r) := by
    by_cases z : 0 < r
    · rw [decide_eq_true z, decide_eq_true (Int.mul_pos (by omega) z)]
    · have : r = 0 := by omega
      subst this
      simp
  rw [List.filter_cons, List.filter_cons, List.filter_nil]
  dsimp only
  rw [a1, a2]
  by_cases z1 : 0 < q <;> by_cases z2 : 0 < r <;> simp [z1, z2]
def dR : Row := ⟨[]⟩
def nx (s : Int) (r : Row) : Option Int := match r.cs with
  | [_, .i o, .i a, .i b] => some (if s ≤ o then a else b)
  | [c, .i a] => if c = cC ∧ s = 1 then some a else none
  | _ => none
def fn (rs : List Row) (s i : Int) : Option Int := nx s (rs.getD i.toNat dR)
theorem nx_mesh (s o a b : Int) : nx s ⟨[cM, .i o, .i a, .i b]⟩ = some (if s ≤ o then a else b) := rfl
theorem nx_crush (s a : Int) : nx s ⟨[cC, .i a]⟩ = if s = 1 then some a else none := by
  show (if cC = cC ∧ s = 1 then some a else none) = _
  simp
theorem nx_bin (s b : Int) : nx s ⟨[cB, .i b]⟩ = none := by
  show (if cB = cC ∧ s = 1 then some b else none) = none
  rw [if_neg (fun z => absurd (decide_eq_true z.1) (by rw [show decide (cB = cC) = false from bc]; decide))]
theorem nx_rg {n s : Int} {r : Row} (g : GR n r) {t : Int} (h : nx s r = some t) : 0 ≤ t ∧ t < n := by
  cases g with
  | mesh o a b h1 h2 h3 h4 h5 h6 =>
    rw [nx_mesh] at h
    split at h <;> cases h <;> omega
  | crush a h1 h2 =>
    rw [nx_crush] at h
    split at h
    · cases h; omega
    · cases h
  | bin b h1 h2 => rw [nx_bin] at h; cases h
theorem ixR (rs : List Row) (p : Int) (h0 : 0 ≤ p) (h1 : p < rs.length) : ixM rs p = .ok (rs.getD p.toNat dR) ∧ rs.getD p.toNat dR ∈ rs := by
  have hl : p.toNat < rs.length := by omega
  have := ixM_of (xs := rs) (i := p.toNat) (List.getElem?_eq_getElem hl)
  rw [Int.toNat_of_nonneg h0] at this
  rw [this, List.getD_eq_getElem?_getD, List.getElem?_eq_getElem hl]
  exact ⟨rfl, List.getElem_mem hl⟩
theorem fn_rg {rs : List Row} (g : ∀ r ∈ rs, GR rs.length r) {s i t : Int} (h0 : 0 ≤ i) (h1 : i < rs.length) (h : fn rs s i = some t) : 0 ≤ t ∧ t < rs.length := nx_rg (g _ (ixR rs i h0 h1).2) h
/-! #### a walk in depth that keeps what it has reckoned -/
def kp3 (t : T3 Int Int Int) : Kp := ⟨t.a, t.b⟩
theorem plook_put {α : Type} (d : List (Kp × α)) (k j : Kp) (x : α) : plook j (pput d k x) = if j = k then some x else plook j d := by
  have anyk : ∀ d : List (Kp × α), (d.any fun p => decide (p.1 = k)) = false → plook k d = none := fun d => by
    induction d with
    | nil => intro _; rfl
    | cons p r ih =>
      intro h
      rw [List.any_cons, Bool.or_eq_false_iff] at h
      unfold plook
      rw [List.find?_cons, h.1]
      exact ih h.2
  unfold pput
  split
  · rename_i h
    induction d with
    | nil => cases h
    | cons p r ih =>
      rw [List.map_cons]
      unfold plook
      rw [List.find?_cons, List.find?_cons]
      by_cases c : p.1 = k
      · rw [if_pos c]
        dsimp only
        by_cases e : j = k
        · rw [if_pos e, e, decide_eq_true c]
          rfl
        · rw [if_neg e, decide_eq_false (fun z : p.1 = j => e (z.symm.trans c))]
          -- the rest: no difference for j
          have : ∀ r : List (Kp × α), (r.map fun p => if p.1 = k then (p.1, x) else p).find? (fun p => decide (p.1 = j)) = r.find? (fun p => decide (p.1 = j)) := fun r => by
            induction r with
            | nil => rfl
            | cons q s ih2 =>
              rw [List.map_cons, List.find?_cons, List.find?_cons, ih2]
              by_cases c2 : q.1 = k
              · rw [if_pos c2]
                dsimp only
                rw [decide_eq_false (fun z : q.1 = j => e (z.symm.trans c2))]
              · rw [if_neg c2]
          rw [this]
      · rw [if_neg c]
        rw [List.any_cons, decide_eq_false c, Bool.false_or] at h
        by_cases e : p.1 = j
        · rw [decide_eq_true e]
          dsimp only
          rw [if_neg (fun z => c (e.trans z))]
        · rw [decide_eq_false e]
          have := ih h
          unfold plook at this
          exact this
  · rename_i h
    rw [Bool.not_eq_true] at h
    unfold plook
    rw [List.find?_append]
    by_cases e : j = k
    · rw [if_pos e, e]
      have := anyk d h
      unfold plook at this
      rw [Option.map_eq_none_iff] at this
      rw [this]
      simp
    · rw [if_neg e]
      cases hf : d.find? (fun p => decide (p.1 = j)) with
      | some v => simp
      | none =>
        simp only [Option.none_or, List.find?_cons]
        rw [decide_eq_false (fun z : k = j => e z.symm)]
        rfl
theorem pput_len {α : Type} (d : List (Kp × α)) (k : Kp) (x : α) : (pput d k x).length ≤ d.length + 1 := by
  unfold pput
  split
  · rw [List.length_map]; omega
  · simp
/-- what a walk over the grains of a works rests on -/
structure Dfs (w : Wk) (number : Int) (dom : Kp → Prop) (suc : Kp → List (T3 Int Int Int)) (own V : Kp → Int) (C : Kp → Nat) : Prop where
  go : ∀ x, dom x → (if decide (0 < x.b) = true then (m_goes_on w x.a x.b).ne else M.ok []) = .ok (suc x)
  ow : ∀ x, dom x → m_own_weight w x.a x.b number = .ok (own x)
  val : ∀ x, dom x → V x = own x + ((suc x).map fun t => t.c * V (kp3 t)).sum
  dm : ∀ x, dom x → ∀ t ∈ suc x, dom (kp3 t)
  sm : ∀ x, dom x → ∀ t ∈ suc x, t.c.natAbs < 2 ^ 10000 ∧ (V (kp3 t)).natAbs < 2 ^ 10000
  cost : ∀ x, dom x → 3 + ((suc x).map fun t => C (kp3 t)).sum ≤ C x
  two : ∀ x, dom x → (suc x).length ≤ 2
section
variable {w : Wk} {number : Int} {dom : Kp → Prop} {suc : Kp → List (T3 Int Int Int)} {own V : Kp → Int} {C : Kp → Nat}
def OKk (V : Kp → Int) (kvs : List (Kp × Int)) : Prop := ∀ k v, plook k kvs = some v → v = V k
def lack (suc : Kp → List (T3 Int Int Int)) (kvs : List (Kp × Int)) (x : Kp) : List Kp := ((suc x).filter fun t => !(plook (kp3 t) kvs).isSome).map kp3
theorem Dfs.b1 (D : Dfs w number dom suc own V C) {x : Kp} (hx : dom x) {st : List Kp} {kvs : List (Kp × Int)} (ok : OKk V kvs) (hs : st.length ≤ 3000000) (hk : kvs.length ≤ 3000000) :
    m_weight_in_b1 w number (st ++ [x], ⟨kvs⟩) = if (plook x kvs).isSome = true then .ok (.nx (st, ⟨kvs⟩)) else if lack suc kvs x = [] then .ok (.nx (st ++ [x], ⟨pput kvs x (V x)⟩)) else .ok (.nx (st ++ [x] ++ lack suc kvs x, ⟨kvs⟩)) := by
  have h2 := D.two x hx
  unfold m_weight_in_b1
  simp only [M.ok_bind, Mw.bind_assoc, ne_ok]
  rw [ixM_last]
  simp only [M.ok_bind, Mw.bind_assoc, ne_ok]
  rw [D.go x hx]
  simp only [M.ok_bind, Mw.bind_assoc, ne_ok]
  rw [lcM_ok (fun t : T3 Int Int Int => !(plook (Kp.mk t.a t.b) kvs).isSome) (fun t => Kp.mk t.a t.b) (by omega)]
  simp only [M.ok_bind, Mw.bind_assoc, ne_ok]
  rw [show ((suc x).filter fun t => !(plook (Kp.mk t.a t.b) kvs).isSome).map (fun t => Kp.mk t.a t.b) = lack suc kvs x from rfl]
  have l2 : (lack suc kvs x).length ≤ 2 := by
    unfold lack
    rw [List.length_map]
    exact Nat.le_trans (List.length_filter_le _ _) h2
  by_cases c : (plook x kvs).isSome = true
  · rw [if_pos c, if_pos c, show popM (st ++ [x]) = .ok st by
      unfold popM
      rw [chk_pos (by simp)]
      simp]
    rfl
  · rw [if_neg c, if_neg c]
    by_cases e : lack suc kvs x = []
    · rw [if_pos e, decide_eq_false (by rw [e]; simp), if_neg (by decide), D.ow x hx]
      simp only [M.ok_bind, Mw.bind_assoc, ne_ok]
      -- all parts are known
      have all : ∀ t ∈ suc x, plook (kp3 t) kvs = some (V (kp3 t)) := fun t ht => by
        unfold lack at e
        rw [List.map_eq_nil_iff, List.filter_eq_nil_iff] at e
        have := e t ht
        cases hv : plook (kp3 t) kvs with
        | none => rw [hv] at this; simp at this
        | some v => rw [ok _ _ hv]
      have go : ∀ (l : List (T3 Int Int Int)) (a : Int), (∀ t ∈ l, t ∈ suc x) → forM (m_weight_in_b2 (st ++ [x], ⟨kvs⟩)) (fun z => (pputM (⟨kvs⟩ : Dp Int) x z).bind fun k => M.ok (Ctl.nx (τ := Int) (st ++ [x], k))) l a = (pputM (⟨kvs⟩ : Dp Int) x (a + (l.map fun t => t.c * V (kp3 t)).sum)).bind fun k => M.ok (Ctl.nx (st ++ [x], k)) := fun l => by
        induction l with
        | nil => intro a _; rw [List.map_nil, List.sum_nil, Int.add_zero]; rfl
        | cons t r ih =>
          intro a hm
          have ht := hm t List.mem_cons_self
          have eb : m_weight_in_b2 (st ++ [x], ⟨kvs⟩) t a = .ok (.nx (a + t.c * V (kp3 t))) := by
            unfold m_weight_in_b2
            simp only [M.ok_bind, Mw.bind_assoc, ne_ok]
            have e3 : pgetM (⟨kvs⟩ : Dp Int) (Kp.mk t.a t.b) = .ok (V (kp3 t)) := by
              unfold pgetM
              rw [show plook (Kp.mk t.a t.b) (Dp.mk kvs).kvs = some (V (kp3 t)) from all t ht]
            rw [e3]
            simp only [M.ok_bind]
            rw [mulM_ok (D.sm x hx t ht).1 (D.sm x hx t ht).2]
            rfl
          rw [forM_cons, eb, List.map_cons, List.sum_cons]
          have := ih (a + t.c * V (kp3 t)) fun y hy => hm y (List.mem_cons_of_mem _ hy)
          rw [Int.add_assoc] at this
          exact this
      rw [go _ _ fun _ h => h, ← D.val x hx]
      unfold pputM
      rw [chk_pos (show kvs.length < 16000000 by omega)]
      rfl
    · have l1 : 0 < (lack suc kvs x).length := List.length_pos_iff.mpr e
      rw [if_neg e, decide_eq_true (by omega), if_pos rfl, catM_ok (by rw [List.length_append, List.length_singleton]; omega)]
      rfl
def Run (w : Wk) (number : Int) (f : Nat) (s : List Kp × Dp Int) (f' : Nat) (s' : List Kp × Dp Int) : Prop := ∀ k : List Kp × Dp Int → M Int, whM m_weight_in_c1 (m_weight_in_b1 w number) k f s = whM m_weight_in_c1 (m_weight_in_b1 w number) k f' s'
theorem Run.tr {f f' f'' : Nat} {s s' s'' : List Kp × Dp Int} (h : Run w number f s f' s') (g : Run w number f' s' f'' s'') : Run w number f s f'' s'' := fun k => (h k).trans (g k)
theorem Run.step {f : Nat} {st : List Kp} {x : Kp} {d : Dp Int} {s' : List Kp × Dp Int} (e : m_weight_in_b1 w number (st ++ [x], d) = .ok (.nx s')) : Run w number (f + 1) (st ++ [x], d) f s' := fun k => by
  show (m_weight_in_c1 (st ++ [x], d)).bind _ = _
  rw [show m_weight_in_c1 (st ++ [x], d) = .ok true by
    unfold m_weight_in_c1
    simp only [M.ok_bind]
    congr 1
    exact decide_eq_true (by simp)]
  simp only [M.ok_bind, if_true]
  rw [e]
  rfl
/-- what a part of the walk comes to -/
def Done (V : Kp → Int) (w : Wk) (number : Int) (st L : List Kp) (kvs : List (Kp × Int)) (m : Nat) (xs : List Kp) : Prop :=
  ∀ f, m ≤ f → ∃ kvs' c, c ≤ m ∧ OKk V kvs' ∧ (∀ k, (plook k kvs).isSome = true → (plook k kvs').isSome = true) ∧ (∀ x ∈ xs, (plook x kvs').isSome = true) ∧ kvs'.length ≤ kvs.length + c ∧ Run w number f (st ++ L, ⟨kvs⟩) (f - c) (st, ⟨kvs'⟩)
theorem Dfs.fin (D : Dfs w number dom suc own V C) {x : Kp} (hx : dom x) {st : List Kp} {kvs : List (Kp × Int)} (ok : OKk V kvs) (hs : st.length ≤ 3000000) (hk : kvs.length ≤ 2900000) (hl : lack suc kvs x = []) : Done V w number st [x] kvs 2 [x] := fun f hf => by
  have e1 := D.b1 hx ok hs (by omega)
  obtain ⟨f, rfl⟩ : ∃ g, f = g + 2 := ⟨f - 2, by omega⟩
  by_cases c : (plook x kvs).isSome = true
  · rw [if_pos c] at e1
    refine ⟨kvs, 1, by omega, ok, fun _ h => h, fun y hy => by rw [List.mem_singleton.mp hy]; exact c, by omega, Run.step e1⟩
  · rw [if_neg c, if_pos hl] at e1
    have ok' : OKk V (pput kvs x (V x)) := fun k v h => by
      rw [plook_put] at h
      split at h
      · rename_i z; cases h; rw [z]
      · exact ok k v h
    have known : (plook x (pput kvs x (V x))).isSome = true := by rw [plook_put, if_pos rfl]; rfl
    have l := pput_len kvs x (V x)
    have e2 := D.b1 hx ok' hs (by omega)
    rw [if_pos known] at e2
    refine ⟨_, 2, Nat.le_refl _, ok', fun k h => ?_, fun y hy => by rw [List.mem_singleton.mp hy]; exact known, by omega, Run.tr (Run.step e1) (Run.step e2)⟩
    rw [plook_put]
    split
    · rfl
    · exact h
theorem le_sum_nat : ∀ (l : List Nat) (a : Nat), a ∈ l → a ≤ l.sum
  | b :: r, a, h => by
    rw [List.sum_cons]
    rcases List.mem_cons.mp h with z | z
    · omega
    · have := le_sum_nat r a z
      omega
/-- one part, then the ones ahead of it -/
theorem Done.app {st L1 L2 : List Kp} {kvs : List (Kp × Int)} {m1 m2 : Nat} {x1 x2 : List Kp} (h2 : Done V w number (st ++ L1) L2 kvs m2 x2) (h1 : ∀ kvs', OKk V kvs' → kvs'.length ≤ kvs.length + m2 → (∀ k, (plook k kvs).isSome = true → (plook k kvs').isSome = true) → (∀ x ∈ x2, (plook x kvs').isSome = true) → Done V w number st L1 kvs' m1 x1) :
    Done V w number st (L1 ++ L2) kvs (m2 + m1) (x1 ++ x2) := fun f hf => by
  obtain ⟨k2, c2, a1, a2, a3, a4, a5, a6⟩ := h2 f (by omega)
  obtain ⟨k1, c1, b1, b2, b3, b4, b5, b6⟩ := h1 k2 a2 (by omega) a3 a4 (f - c2) (by omega)
  rw [List.append_assoc] at a6
  refine ⟨k1, c2 + c1, by omega, b2, fun k h => b3 k (a3 k h), fun x hx => ?_, by omega, ?_⟩
  · rcases List.mem_append.mp hx with z | z
    · exact b4 x z
    · exact b3 x (a4 x z)
  · have := Run.tr a6 b6
    rwa [show f - c2 - c1 = f - (c2 + c1) by omega] at this
theorem lack_nil {kvs : List (Kp × Int)} {x : Kp} (h : ∀ t ∈ suc x, (plook (kp3 t) kvs).isSome = true) : lack suc kvs x = [] := by
  unfold lack
  rw [List.map_eq_nil_iff, List.filter_eq_nil_iff]
  intro t ht
  rw [h t ht]
  decide
theorem sum_sub {α : Type} (C : α → Nat) (p : α → Bool) : ∀ l : List α, ((l.filter p).map C).sum ≤ (l.map C).sum
  | [] => Nat.le_refl _
  | a :: r => by
    have := sum_sub C p r
    rw [List.filter_cons]
    split
    · rw [List.map_cons, List.map_cons, List.sum_cons, List.sum_cons]; omega
    · rw [List.map_cons, List.sum_cons]; omega
/-- a grain is reckoned in as many turns as it costs -/
theorem Dfs.dfs (D : Dfs w number dom suc own V C) : ∀ (n : Nat) (x : Kp), C x ≤ n → dom x → ∀ (st : List Kp) (kvs : List (Kp × Int)), OKk V kvs → st.length + 2 * C x ≤ 2900000 → kvs.length + C x ≤ 2900000 → Done V w number st [x] kvs (C x) [x]
  | 0, x, h, hx, _, _, _, _, _ => by have := D.cost x hx; omega
  | n + 1, x, h, hx, st, kvs, ok, hs, hk => by
    have co := D.cost x hx
    by_cases c : lack suc kvs x = [] ∨ (plook x kvs).isSome = true
    · -- nothing is lacking, or it is known
      rcases c with c | c
      · intro f hf
        obtain ⟨k, c', a1, a⟩ := D.fin (st := st) hx ok (by omega) (by omega) c f (by omega)
        exact ⟨k, c', by omega, a⟩
      · intro f hf
        have e1 := D.b1 (st := st) hx ok (by omega) (by omega)
        rw [if_pos c] at e1
        obtain ⟨f, rfl⟩ : ∃ g, f = g + 1 := ⟨f - 1, by omega⟩
        exact ⟨kvs, 1, by omega, ok, fun _ h => h, fun y hy => by rw [List.mem_singleton.mp hy]; exact c, by omega, Run.step e1⟩
    · rw [not_or] at c
      have e1 := D.b1 (st := st) hx ok (by omega) (by omega)
      rw [if_neg c.2, if_neg c.1] at e1
      -- the parts that are lacking, from behind
      have parts : ∀ (m : Nat) (L : List Kp), L.length = m → (∀ y ∈ L, dom y ∧ C y ≤ n) → ∀ (s : List Kp) (kv : List (Kp × Int)), OKk V kv → s.length + m + 2 * (L.map C).sum ≤ 2900000 → kv.length + (L.map C).sum ≤ 2900000 → Done V w number s L kv ((L.map C).sum) L := fun m => by
        induction m with
        | zero =>
          intro L hL _ s kv okv _ _ f _
          rw [List.length_eq_zero_iff.mp hL]
          exact ⟨kv, 0, Nat.zero_le _, okv, fun _ h => h, (fun _ z => nomatch z), by omega, fun k => by rw [List.append_nil]; rfl⟩
        | succ m ih =>
          intro L hL hy s kv okv b1 b2
          have hne : L ≠ [] := fun z => by rw [z] at hL; cases hL
          obtain ⟨L', y, rfl⟩ : ∃ L' y, L = L' ++ [y] := ⟨L.dropLast, L.getLast hne, (List.dropLast_concat_getLast hne).symm⟩
          have l' : L'.length = m := by simpa using hL
          have sm : ((L' ++ [y]).map C).sum = C y + (L'.map C).sum := by
            rw [List.map_append, List.sum_append]
            simp
            omega
          rw [sm] at b1 b2 ⊢
          have dy := hy y (by simp)
          refine Done.app (D.dfs n y dy.2 dy.1 (s ++ L') kv okv (by rw [List.length_append]; omega) (by omega)) fun kv' ok' ln' _ _ => ?_
          exact ih L' l' (fun z hz => hy z (List.mem_append_left _ hz)) s kv' ok' (by omega) (by omega)
      have hL : ∀ y ∈ lack suc kvs x, dom y ∧ C y ≤ n := fun y hy => by
        unfold lack at hy
        obtain ⟨t, ht, rfl⟩ := List.mem_map.mp hy
        have ht' := (List.mem_filter.mp ht).1
        refine ⟨D.dm x hx t ht', ?_⟩
        have : C (kp3 t) ≤ ((suc x).map fun t => C (kp3 t)).sum := le_sum_nat _ _ (List.mem_map.mpr ⟨t, ht', rfl⟩)
        omega
      have sumL : ((lack suc kvs x).map C).sum ≤ ((suc x).map fun t => C (kp3 t)).sum := by
        unfold lack
        rw [List.map_map]
        exact sum_sub (fun t => C (kp3 t)) _ _
      have lenL : (lack suc kvs x).length ≤ 2 := by
        unfold lack
        rw [List.length_map]
        exact Nat.le_trans (List.length_filter_le _ _) (D.two x hx)
      have P := parts _ (lack suc kvs x) rfl hL (st ++ [x]) kvs ok (by rw [List.length_append, List.length_singleton]; omega) (by omega)
      have Q := Done.app (m1 := 2) (x1 := [x]) (L1 := [x]) P fun kv' ok' ln' mono kn => D.fin hx ok' (by omega) (by omega) (lack_nil fun t ht => by
        by_cases z : (plook (kp3 t) kvs).isSome = true
        · exact mono _ z
        · refine kn _ ?_
          unfold lack
          exact List.mem_map.mpr ⟨t, List.mem_filter.mpr ⟨ht, by rw [Bool.not_eq_true] at z; rw [z]; rfl⟩, rfl⟩)
      intro f hf
      obtain ⟨f, rfl⟩ : ∃ g, f = g + 1 := ⟨f - 1, by omega⟩
      obtain ⟨k, c', a1, a2, a3, a4, a5, a6⟩ := Q f (by omega)
      refine ⟨k, c' + 1, by omega, a2, a3, fun y hy => a4 y (List.mem_append_left _ hy), by omega, ?_⟩
      have e1' := Run.step (f := f) e1
      rw [List.append_assoc] at e1'
      have := Run.tr e1' a6
      rwa [show f + 1 - (c' + 1) = f - c' by omega]
/-- weight_in tells the value -/
theorem Dfs.weight (D : Dfs w number dom suc own V C) (row size : Int) (hx : dom ⟨row, size⟩) (hc : C ⟨row, size⟩ ≤ 900000) (hz : V ⟨row, 0⟩ = 0) : m_weight_in w row size number = .ok (V ⟨row, size⟩) := by
  have ok0 : OKk V [((⟨row, 0⟩ : Kp), (0 : Int))] := fun k v h => by
    unfold plook at h
    rw [List.find?_cons] at h
    by_cases e : (⟨row, 0⟩ : Kp) = k
    · rw [decide_eq_true e] at h
      cases h
      rw [← e, hz]
    · rw [decide_eq_false e] at h
      cases h
  obtain ⟨kv, c, a1, a2, a3, a4, a5, a6⟩ := D.dfs (C ⟨row, size⟩) ⟨row, size⟩ (Nat.le_refl _) hx [] _ ok0 (by simp; omega) (by simp; omega) FUEL (by unfold FUEL; omega)
  unfold m_weight_in
  simp only [M.ok_bind, Mw.bind_assoc, ne_ok]
  rw [show chk ([(⟨row, size⟩ : Kp)].length ≤ 1000) [(⟨row, size⟩ : Kp)] = .ok [⟨row, size⟩] from chk_pos (by simp) _]
  simp only [M.ok_bind]
  have := a6 (fun s => pgetM s.2 ⟨row, size⟩)
  rw [List.nil_append] at this
  rw [this]
  obtain ⟨f, hf⟩ : ∃ f, FUEL - c = f + 1 := ⟨FUEL - c - 1, by unfold FUEL; omega⟩
  rw [hf]
  show (m_weight_in_c1 ([], ⟨kv⟩)).bind _ = _
  rw [show m_weight_in_c1 ([], (⟨kv⟩ : Dp Int)) = .ok false by unfold m_weight_in_c1; rfl]
  simp only [M.ok_bind, if_neg (show ¬ (false = true) by decide)]
  have kn := a4 _ (List.mem_singleton.mpr rfl)
  cases hv : plook (⟨row, size⟩ : Kp) kv with
  | none => rw [hv] at kn; cases kn
  | some v =>
    unfold pgetM
    rw [show plook (⟨row, size⟩ : Kp) (Dp.mk kv).kvs = some v from hv, ← a2 _ _ hv]
end
/-! #### the walk in depth, its turns counted by what gets known -/
theorem pkeys_put {α : Type} (d : List (Kp × α)) (k : Kp) (x : α) (h : (plook k d).isSome = false) : (pput d k x).map (·.1) = d.map (·.1) ++ [k] ∧ k ∉ d.map (·.1) := by
  have none : ∀ d : List (Kp × α), (plook k d).isSome = false → (d.any fun p => decide (p.1 = k)) = false := fun d => by
    induction d with
    | nil => intro _; rfl
    | cons p r ih =>
      intro h
      unfold plook at h
      rw [List.find?_cons] at h
      by_cases c : p.1 = k
      · rw [decide_eq_true c] at h; cases h
      · rw [decide_eq_false c] at h
        rw [List.any_cons, decide_eq_false c, Bool.false_or]
        exact ih h
  have a := none d h
  constructor
  · unfold pput
    rw [if_neg (by rw [a]; decide), List.map_append]
    rfl
  · intro hm
    obtain ⟨p, hp, e⟩ := List.mem_map.mp hm
    rw [List.any_eq_false] at a
    exact a p hp (decide_eq_true e)
theorem nd_len : ∀ (l us : List Kp), l.Nodup → (∀ x ∈ l, x ∈ us) → l.length ≤ us.length
  | [], _, _, _ => Nat.zero_le _
  | x :: r, us, hn, hs => by
    obtain ⟨h1, h2⟩ := List.nodup_cons.mp hn
    have := nd_len r (us.erase x) h2 fun y hy => (List.mem_erase_of_ne (fun z : y = x => h1 (by rw [← z]; exact hy))).mpr (hs y (List.mem_cons_of_mem _ hy))
    rw [List.length_erase_of_mem (hs x List.mem_cons_self)] at this
    have : 0 < us.length := List.length_pos_of_mem (hs x List.mem_cons_self)
    rw [List.length_cons]
    omega
section
variable {w : Wk} {number : Int} {dom : Kp → Prop} {suc : Kp → List (T3 Int Int Int)} {own V : Kp → Int} {C D : Kp → Nat} {Us : List Kp}
def ND (dom : Kp → Prop) (kvs : List (Kp × Int)) : Prop := (kvs.map (·.1)).Nodup ∧ ∀ k ∈ kvs.map (·.1), dom k
theorem ND.len {kvs : List (Kp × Int)} (h : ND dom kvs) (us : ∀ x, dom x → x ∈ Us) (ul : Us.length ≤ 2800000) : kvs.length ≤ 2800000 := by
  have := nd_len _ Us h.1 fun x hx => us x (h.2 x hx)
  rw [List.length_map] at this
  omega
def Done2 (V : Kp → Int) (D : Kp → Nat) (dom : Kp → Prop) (w : Wk) (number : Int) (st L : List Kp) (kvs : List (Kp × Int)) (r : Nat) (xs : List Kp) : Prop :=
  ∃ kvs' c, c + 4 * kvs.length ≤ 4 * kvs'.length + L.length ∧ OKk V kvs' ∧ (∀ k, (plook k kvs).isSome = true → (plook k kvs').isSome = true) ∧ (∀ x ∈ xs, (plook x kvs').isSome = true) ∧ (∀ k, (plook k kvs').isSome = true → (plook k kvs).isSome = true ∨ D k < r) ∧ ND dom kvs' ∧ ∀ f, c ≤ f → Run w number f (st ++ L, ⟨kvs⟩) (f - c) (st, ⟨kvs'⟩)
theorem Dfs.dfs2 (I : Dfs w number dom suc own V C) (rk : ∀ x, dom x → ∀ t ∈ suc x, D (kp3 t) < D x) (us : ∀ x, dom x → x ∈ Us) (ul : Us.length ≤ 2800000) :
    ∀ (n : Nat) (x : Kp), D x ≤ n → dom x → ∀ (st : List Kp) (kvs : List (Kp × Int)), OKk V kvs → ND dom kvs → st.length + 3 * D x ≤ 2900000 → Done2 V D dom w number st [x] kvs (D x + 1) [x]
  | n, x, h, hx, st, kvs, ok, nd, hs => by
    have kl := nd.len us ul
    have e1 := I.b1 (st := st) hx ok (by omega) (by omega)
    by_cases c : (plook x kvs).isSome = true
    · rw [if_pos c] at e1
      exact ⟨kvs, 1, by simp; omega, ok, fun _ h => h, fun y hy => by rw [List.mem_singleton.mp hy]; exact c, fun k hk => .inl hk, nd, fun f hf => by
        obtain ⟨f, rfl⟩ : ∃ g, f = g + 1 := ⟨f - 1, by omega⟩
        exact Run.step e1⟩
    · rw [if_neg c] at e1
      have cf : (plook x kvs).isSome = false := by rw [Bool.not_eq_true] at c; exact c
      -- the end: it is set, then it goes
      have fin : ∀ kv, OKk V kv → ND dom kv → (plook x kv).isSome = false → lack suc kv x = [] → ∃ kv', kv'.length = kv.length + 1 ∧ OKk V kv' ∧ (∀ k, (plook k kv).isSome = true → (plook k kv').isSome = true) ∧ (plook x kv').isSome = true ∧ (∀ k, (plook k kv').isSome = true → (plook k kv).isSome = true ∨ k = x) ∧ ND dom kv' ∧ ∀ f, 2 ≤ f → Run w number f (st ++ [x], ⟨kv⟩) (f - 2) (st, ⟨kv'⟩) := fun kv okv ndv cv lv => by
        have klv := ndv.len us ul
        have u1 := I.b1 (st := st) hx okv (by omega) (by omega)
        rw [if_neg (by rw [cv]; decide), if_pos lv] at u1
        obtain ⟨pk, pn⟩ := pkeys_put kv x (V x) cv
        have len : (pput kv x (V x)).length = kv.length + 1 := by
          have := congrArg List.length pk
          simpa using this
        have ok' : OKk V (pput kv x (V x)) := fun k v h => by
          rw [plook_put] at h
          split at h
          · rename_i z; cases h; rw [z]
          · exact okv k v h
        have known : (plook x (pput kv x (V x))).isSome = true := by rw [plook_put, if_pos rfl]; rfl
        have u2 := I.b1 (st := st) hx ok' (by omega) (by omega)
        rw [if_pos known] at u2
        refine ⟨_, len, ok', fun k h => ?_, known, fun k h => ?_, ⟨?_, fun k hk => ?_⟩, fun f hf => ?_⟩
        · rw [plook_put]; split
          · rfl
          · exact h
        · rw [plook_put] at h
          split at h
          · rename_i z; exact .inr z
          · exact .inl h
        · rw [pk]
          exact List.nodup_append.mpr ⟨ndv.1, List.nodup_cons.mpr ⟨(fun z => nomatch z), List.nodup_nil⟩, fun a ha b hb => by rw [List.mem_singleton.mp hb]; exact fun z => pn (z ▸ ha)⟩
        · rw [pk] at hk
          rcases List.mem_append.mp hk with z | z
          · exact ndv.2 k z
          · rw [List.mem_singleton.mp z]; exact hx
        · obtain ⟨f, rfl⟩ : ∃ g, f = g + 2 := ⟨f - 2, by omega⟩
          exact Run.tr (Run.step u1) (Run.step u2)
      by_cases e : lack suc kvs x = []
      · obtain ⟨kv', a1, a2, a3, a4, a5, a6, a7⟩ := fin kvs ok nd cf e
        exact ⟨kv', 2, by simp; omega, a2, a3, fun y hy => by rw [List.mem_singleton.mp hy]; exact a4, fun k hk => (a5 k hk).imp id fun z => by rw [z]; omega, a6, a7⟩
      · rw [if_neg e] at e1
        have parts : ∀ (m : Nat) (L : List Kp), L.length = m → (∀ y ∈ L, dom y ∧ D y < D x) → ∀ (s : List Kp) (kv : List (Kp × Int)), OKk V kv → ND dom kv → s.length + m + 3 * (D x - 1) ≤ 2900000 → Done2 V D dom w number s L kv (D x) L := fun m => by
          induction m with
          | zero =>
            intro L hL _ s kv okv ndv _
            rw [List.length_eq_zero_iff.mp hL]
            exact ⟨kv, 0, by simp, okv, fun _ h => h, (fun _ z => nomatch z), fun k hk => .inl hk, ndv, fun f _ k => by rw [List.append_nil]; rfl⟩
          | succ m ih =>
            intro L hL hy s kv okv ndv b1
            have hne : L ≠ [] := fun z => by rw [z] at hL; cases hL
            obtain ⟨L', y, rfl⟩ : ∃ L' y, L = L' ++ [y] := ⟨L.dropLast, L.getLast hne, (List.dropLast_concat_getLast hne).symm⟩
            have l' : L'.length = m := by simpa using hL
            have dy := hy y (by simp)
            obtain ⟨k2, c2, a1, a2, a3, a4, a5, a6, a7⟩ := I.dfs2 rk us ul (D x - 1) y (by omega) dy.1 (s ++ L') kv okv ndv (by rw [List.length_append]; omega)
            obtain ⟨k1, c1, d1, d2, d3, d4, d5, d6, d7⟩ := ih L' l' (fun z hz => hy z (List.mem_append_left _ hz)) s k2 a2 a6 (by omega)
            simp only [List.length_singleton] at a1
            refine ⟨k1, c2 + c1, by rw [List.length_append, List.length_singleton]; omega, d2, fun k h => d3 k (a3 k h), fun z hz => ?_, fun k hk => ?_, d6, fun f hf => ?_⟩
            · rcases List.mem_append.mp hz with q | q
              · exact d4 z q
              · exact d3 z (a4 z q)
            · rcases d5 k hk with q | q
              · rcases a5 k q with q | q
                · exact .inl q
                · exact .inr (by omega)
              · exact .inr q
            · have u := a7 f (by omega)
              rw [List.append_assoc] at u
              have := Run.tr u (d7 (f - c2) (by omega))
              rwa [show f - c2 - c1 = f - (c2 + c1) by omega] at this
        have hL : ∀ y ∈ lack suc kvs x, dom y ∧ D y < D x := fun y hy => by
          unfold lack at hy
          obtain ⟨t, ht, rfl⟩ := List.mem_map.mp hy
          have ht' := (List.mem_filter.mp ht).1
          exact ⟨I.dm x hx t ht', rk x hx t ht'⟩
        have lenL : (lack suc kvs x).length ≤ 2 := by
          unfold lack
          rw [List.length_map]
          exact Nat.le_trans (List.length_filter_le _ _) (I.two x hx)
        have dpos : 1 ≤ D x := by
          obtain ⟨y, hy⟩ := List.exists_mem_of_ne_nil _ e
          have := (hL y hy).2
          omega
        obtain ⟨k2, c2, a1, a2, a3, a4, a5, a6, a7⟩ := parts _ (lack suc kvs x) rfl hL (st ++ [x]) kvs ok nd (by rw [List.length_append, List.length_singleton]; omega)
        have still : (plook x k2).isSome = false := by
          cases z : (plook x k2).isSome with
          | false => rfl
          | true =>
            rcases a5 x z with q | q
            · rw [cf] at q; cases q
            · omega
        obtain ⟨k1, d1, d2, d3, d4, d5, d6, d7⟩ := fin k2 a2 a6 still (lack_nil fun t ht => by
          by_cases z : (plook (kp3 t) kvs).isSome = true
          · exact a3 _ z
          · refine a4 _ ?_
            unfold lack
            exact List.mem_map.mpr ⟨t, List.mem_filter.mpr ⟨ht, by rw [Bool.not_eq_true] at z; rw [z]; rfl⟩, rfl⟩)
        refine ⟨k1, c2 + 3, by rw [List.length_singleton]; omega, d2, fun k h => d3 k (a3 k h), fun y hy => by rw [List.mem_singleton.mp hy]; exact d4, fun k hk => ?_, d6, fun f hf => ?_⟩
        · rcases d5 k hk with q | q
          · exact (a5 k q).imp id fun z => by omega
          · exact .inr (by rw [q]; omega)
        · obtain ⟨f, rfl⟩ : ∃ g, f = g + 1 := ⟨f - 1, by omega⟩
          have u1 := Run.step (f := f) e1
          have u := Run.tr (Run.tr u1 (a7 f (by omega))) (d7 (f - c2) (by omega))
          rwa [show f + 1 - (c2 + 3) = f - c2 - 2 by omega]
/-- weight_in tells the value, where the nodes are few -/
theorem Dfs.weight2 (I : Dfs w number dom suc own V C) (rk : ∀ x, dom x → ∀ t ∈ suc x, D (kp3 t) < D x) (us : ∀ x, dom x → x ∈ Us) (ul : Us.length ≤ 200000) (row size : Int) (hx : dom ⟨row, size⟩) (hx0 : dom ⟨row, 0⟩) (hz : V ⟨row, 0⟩ = 0) (hD : 3 * D ⟨row, size⟩ ≤ 2800000) : m_weight_in w row size number = .ok (V ⟨row, size⟩) := by
  have ok0 : OKk V [((⟨row, 0⟩ : Kp), (0 : Int))] := fun k v h => by
    unfold plook at h
    rw [List.find?_cons] at h
    by_cases e : (⟨row, 0⟩ : Kp) = k
    · rw [decide_eq_true e] at h
      cases h
      rw [← e, hz]
    · rw [decide_eq_false e] at h
      cases h
  have nd0 : ND dom [((⟨row, 0⟩ : Kp), (0 : Int))] := ⟨List.nodup_cons.mpr ⟨(fun z => nomatch z), List.nodup_nil⟩, fun k hk => by rw [List.mem_singleton.mp hk]; exact hx0⟩
  obtain ⟨kv, c, a1, a2, a3, a4, a5, a6, a7⟩ := I.dfs2 rk us (by omega) (D ⟨row, size⟩) ⟨row, size⟩ (Nat.le_refl _) hx [] _ ok0 nd0 (by simp; omega)
  have kl : kv.length ≤ Us.length := by
    have := nd_len _ Us a6.1 fun x hx => us x (a6.2 x hx)
    rwa [List.length_map] at this
  simp only [List.length_singleton] at a1
  have a7 := a7 FUEL (by unfold FUEL; omega)
  unfold m_weight_in
  simp only [M.ok_bind, Mw.bind_assoc, ne_ok]
  rw [show chk ([(⟨row, size⟩ : Kp)].length ≤ 1000) [(⟨row, size⟩ : Kp)] = .ok [⟨row, size⟩] from chk_pos (by simp) _]
  simp only [M.ok_bind]
  have := a7 (fun s => pgetM s.2 ⟨row, size⟩)
  rw [List.nil_append] at this
  rw [this]
  obtain ⟨f, hf⟩ : ∃ f, FUEL - c = f + 1 := ⟨FUEL - c - 1, by unfold FUEL; omega⟩
  rw [hf]
  show (m_weight_in_c1 ([], ⟨kv⟩)).bind _ = _
  rw [show m_weight_in_c1 ([], (⟨kv⟩ : Dp Int)) = .ok false by unfold m_weight_in_c1; rfl]
  simp only [M.ok_bind, if_neg (show ¬ (false = true) by decide)]
  have kn := a4 _ (List.mem_singleton.mpr rfl)
  cases hv : plook (⟨row, size⟩ : Kp) kv with
  | none => rw [hv] at kn; cases kn
  | some v =>
    unfold pgetM
    rw [show plook (⟨row, size⟩ : Kp) (Dp.mk kv).kvs = some v from hv, ← a2 _ _ hv]
end
/-! #### where whole steps end, and after how many -/
def ed (f : Int → Option Int) : Nat → Int → Option Int
  | 0, _ => none
  | k + 1, i => match f i with
    | none => some i
    | some j => ed f k j
def dst (f : Int → Option Int) : Nat → Int → Nat
  | 0, _ => 0
  | k + 1, i => match f i with
    | none => 0
    | some j => dst f k j + 1
theorem ed_succ_none {f : Int → Option Int} {k : Nat} {i : Int} (h : f i = none) : ed f (k + 1) i = some i ∧ dst f (k + 1) i = 0 := by
  constructor
  · unfold ed; rw [h]
  · unfold dst; rw [h]
theorem ed_succ_some {f : Int → Option Int} {k : Nat} {i j : Int} (h : f i = some j) : ed f (k + 1) i = ed f k j ∧ dst f (k + 1) i = dst f k j + 1 := by
  constructor
  · conv => lhs; unfold ed
    rw [h]
  · conv => lhs; unfold dst
    rw [h]
theorem ed_up {f : Int → Option Int} : ∀ {k : Nat} {i e : Int}, ed f k i = some e → ed f (k + 1) i = some e ∧ dst f (k + 1) i = dst f k i ∧ dst f k i < k
  | 0, i, e, h => by cases h
  | k + 1, i, e, h => by
    cases c : f i with
    | none =>
      obtain ⟨a1, a2⟩ := ed_succ_none (k := k) c
      obtain ⟨b1, b2⟩ := ed_succ_none (k := k + 1) c
      rw [a1] at h
      exact ⟨by rw [b1]; exact h, by rw [b2, a2], by rw [a2]; omega⟩
    | some j =>
      obtain ⟨a1, a2⟩ := ed_succ_some (k := k) c
      obtain ⟨b1, b2⟩ := ed_succ_some (k := k + 1) c
      rw [a1] at h
      obtain ⟨u1, u2, u3⟩ := ed_up h
      exact ⟨by rw [b1]; exact u1, by rw [b2, a2, u2], by rw [a2]; omega⟩
/-- a step that goes on less still ends -/
theorem ed_less {f g : Int → Option Int} (h : ∀ i, g i = none ∨ g i = f i) : ∀ {k : Nat} {i : Int}, (ed f k i).isSome = true → (ed g k i).isSome = true
  | 0, i, z => by cases z
  | k + 1, i, z => by
    cases c : g i with
    | none => rw [(ed_succ_none c).1]; rfl
    | some j =>
      have e : f i = some j := by
        rcases h i with w | w
        · rw [w] at c; cases c
        · rw [← w]; exact c
      rw [(ed_succ_some e).1] at z
      rw [(ed_succ_some c).1]
      exact ed_less h z
theorem ed_end {f : Int → Option Int} : ∀ {k : Nat} {i e : Int}, ed f k i = some e → f e = none
  | 0, _, _, h => by cases h
  | k + 1, i, e, h => by
    cases c : f i with
    | none => rw [(ed_succ_none c).1] at h; cases h; exact c
    | some j => rw [(ed_succ_some c).1] at h; exact ed_end h
theorem ed_rg {f : Int → Option Int} {n : Int} (hf : ∀ i j, 0 ≤ i → i < n → f i = some j → 0 ≤ j ∧ j < n) : ∀ {k : Nat} {i e : Int}, 0 ≤ i → i < n → ed f k i = some e → 0 ≤ e ∧ e < n
  | 0, _, _, _, _, h => by cases h
  | k + 1, i, e, h0, h1, h => by
    cases c : f i with
    | none => rw [(ed_succ_none c).1] at h; cases h; exact ⟨h0, h1⟩
    | some j =>
      rw [(ed_succ_some c).1] at h
      have := hf i j h0 h1 c
      exact ed_rg hf this.1 this.2 h
/-- one step nearer -/
theorem ed_step {f : Int → Option Int} {k : Nat} {i j e : Int} (h : ed f (k + 1) i = some e) (c : f i = some j) : ed f (k + 1) j = some e ∧ dst f (k + 1) i = dst f (k + 1) j + 1 := by
  rw [(ed_succ_some c).1] at h
  obtain ⟨u1, u2, u3⟩ := ed_up h
  exact ⟨u1, by rw [(ed_succ_some c).2, u2]⟩
/-! #### sizes between the openings -/
def ops (rs : List Row) : List Int := rs.filterMap fun r => match r.cs with
  | [_, .i o, .i _, .i _] => some o
  | _ => none
def reps (rs : List Row) : List Int := [1] ++ ops rs ++ (ops rs).map (· + 1)
theorem ops_mem {rs : List Row} {o a b : Int} (h : (⟨[cM, .i o, .i a, .i b]⟩ : Row) ∈ rs) : o ∈ ops rs := List.mem_filterMap.mpr ⟨_, h, rfl⟩
/-- a size among the looked-at ones, with the same comparisons -/
theorem rep_ex (rs : List Row) {s : Int} (h : 1 ≤ s) : ∃ t ∈ reps rs, 1 ≤ t ∧ t ≤ s ∧ ∀ o ∈ ops rs, s ≤ o ↔ t ≤ o := by
  have ne : (reps rs).filter (fun x => decide (x ≤ s)) ≠ [] := fun z => by
    rw [List.filter_eq_nil_iff] at z
    exact z 1 (by unfold reps; simp) (decide_eq_true h)
  obtain ⟨m1, m2⟩ := maxL_mem ne
  generalize maxL ((reps rs).filter (fun x => decide (x ≤ s))) = t at m1 m2
  obtain ⟨t1, t2⟩ := List.mem_filter.mp m1
  have t2 := of_decide_eq_true t2
  have one : 1 ≤ t := m2 1 (List.mem_filter.mpr ⟨by unfold reps; simp, decide_eq_true h⟩)
  refine ⟨t, t1, one, t2, fun o ho => ⟨fun z => by omega, fun z => ?_⟩⟩
  by_cases c : s ≤ o
  · exact c
  · exfalso
    have := m2 (o + 1) (List.mem_filter.mpr ⟨by
      unfold reps
      exact List.mem_append_right _ (List.mem_map.mpr ⟨o, ho, rfl⟩), decide_eq_true (by omega)⟩)
    omega
theorem fn_less {rs : List Row} (g : ∀ r ∈ rs, GR rs.length r) {s t : Int} (h1 : 1 ≤ s) (ht : 1 ≤ t) (ts : t ≤ s) (h : ∀ o ∈ ops rs, s ≤ o ↔ t ≤ o) (i : Int) : fn rs s i = none ∨ fn rs s i = fn rs t i := by
  unfold fn
  by_cases hm : rs.getD i.toNat dR ∈ rs
  · have gr := g _ hm
    generalize rs.getD i.toNat dR = r at gr hm
    cases gr with
    | mesh o a b =>
      right
      rw [nx_mesh, nx_mesh]
      have := h o (ops_mem hm)
      by_cases c : s ≤ o
      · rw [if_pos c, if_pos (this.mp c)]
      · rw [if_neg c, if_neg (fun z => c (this.mpr z))]
    | crush a =>
      rw [nx_crush, nx_crush]
      by_cases c : s = 1
      · right
        rw [if_pos c, if_pos (by omega)]
      · left; rw [if_neg c]
    | bin b => left; exact nx_bin s b
  · left
    have : rs.getD i.toNat dR = dR := by
      by_cases hl : i.toNat < rs.length
      · exfalso
        apply hm
        rw [List.getD_eq_getElem?_getD, List.getElem?_eq_getElem hl]
        exact List.getElem_mem hl
      · rw [List.getD_eq_getElem?_getD, List.getElem?_eq_none (by omega)]
        rfl
    rw [this]
    rfl
/-- not stuck at the looked-at sizes: at none -/
theorem free_all {rs : List Row} (g : ∀ r ∈ rs, GR rs.length r) {k : Nat} (h : ∀ t ∈ reps rs, ∀ i : Int, 0 ≤ i → i < rs.length → (ed (fn rs t) k i).isSome = true) {s : Int} (hs : 1 ≤ s) {i : Int} (h0 : 0 ≤ i) (h1 : i < rs.length) : (ed (fn rs s) k i).isSome = true := by
  obtain ⟨t, t1, t2, t3, t4⟩ := rep_ex rs hs
  exact ed_less (fn_less g hs t2 t3 t4) (h t t1 i h0 h1)
theorem pcs_facts (s p : Int) (hs : 1 ≤ s) (h1 : 2 ≤ p) : (pcs s p).length ≤ 2 ∧ sortI (List.map (·.1) (pcs s p)) = List.map (·.1) (pcs s p) ∧ (∀ x ∈ pcs s p, dlook x.1 (pcs s p) = some x.2) ∧ ((pcs s p).map fun x => x.1 * x.2).sum = s ∧ ∀ x ∈ pcs s p, 0 ≤ x.1 ∧ x.1 ≤ s + 1 ∧ 0 ≤ x.2 ∧ x.2 ≤ p := by
  have q0 : 0 ≤ s / p := Int.ediv_nonneg (by omega) (by omega)
  have q1 : s / p ≤ s := Int.ediv_le_self p (by omega)
  have r0 := Int.emod_nonneg s (show p ≠ 0 by omega)
  have r1 := Int.emod_lt_of_pos s (show 0 < p by omega)
  have eq := Int.emod_add_mul_ediv s p
  unfold pcs
  generalize s / p = q at q0 eq q1
  generalize s % p = r at r0 r1 eq
  have nq : ¬ q = q + 1 := by omega
  have srt : ∀ xs : List Int, xs.Pairwise (· ≤ ·) → sortI xs = xs := fun xs h => sorted_same (sortI_perm xs) (sortI_sorted xs) h
  have e1 : q * (p - r) = p * q - q * r := by rw [Int.mul_sub, Int.mul_comm q p]
  have e2 : (q + 1) * r = q * r + r := by rw [Int.add_mul]; omega
  by_cases z1 : 0 < q
  · by_cases z2 : 0 < r
    · rw [if_pos z1, if_pos z2]
      refine ⟨by simp, srt _ (by simp; omega), ?_, ?_, ?_⟩
      · intro x hx
        simp only [List.cons_append, List.nil_append, List.mem_cons, List.not_mem_nil, or_false] at hx
        rcases hx with z | z <;> subst z <;> simp [dlook, nq]
      · simp only [List.cons_append, List.nil_append, List.map_cons, List.map_nil, List.sum_cons, List.sum_nil]
        omega
      · intro x hx
        simp only [List.cons_append, List.nil_append, List.mem_cons, List.not_mem_nil, or_false] at hx
        rcases hx with z | z <;> subst z <;> refine ⟨?_, ?_, ?_, ?_⟩ <;> dsimp only <;> omega
    · have : r = 0 := by omega
      subst this
      rw [if_pos z1, if_neg z2, List.append_nil]
      refine ⟨by simp, srt _ (by simp), ?_, ?_, ?_⟩
      · intro x hx
        rw [List.mem_singleton.mp hx]
        simp [dlook]
      · simp only [List.map_cons, List.map_nil, List.sum_cons, List.sum_nil]
        omega
      · intro x hx
        rw [List.mem_singleton.mp hx]
        refine ⟨?_, ?_, ?_, ?_⟩ <;> dsimp only <;> omega
  · have : q = 0 := by omega
    subst this
    by_cases z2 : 0 < r
    · rw [if_neg z1, if_pos z2, List.nil_append]
      refine ⟨by simp, srt _ (by simp), ?_, ?_, ?_⟩
      · intro x hx
        rw [List.mem_singleton.mp hx]
        simp [dlook]
      · simp only [List.map_cons, List.map_nil, List.sum_cons, List.sum_nil]
        omega
      · intro x hx
        rw [List.mem_singleton.mp hx]
        refine ⟨?_, ?_, ?_, ?_⟩ <;> dsimp only <;> omega
    · exact absurd eq (by have : r = 0 := by omega
                          subst this
                          simp
                          omega)
/-! #### what comes of a grain -/
def sR (p s : Int) (r : Row) : List (T3 Int Int Int) := match r.cs with
  | [_, .i o, .i a, .i b] => [⟨if s ≤ o then a else b, s, 1⟩]
  | [c, .i a] => if c = cC then (pcs s p).map fun q => T3.mk a q.1 q.2 else []
  | _ => []
theorem sR_crush (p s a : Int) : sR p s ⟨[cC, .i a]⟩ = (pcs s p).map fun q => T3.mk a q.1 q.2 := by
  show (if cC = cC then _ else _) = _
  rw [if_pos rfl]
theorem sR_bin (p s b : Int) : sR p s ⟨[cB, .i b]⟩ = [] := by
  show (if cB = cC then _ else _) = _
  rw [if_neg (fun z => absurd (decide_eq_true z) (by rw [show decide (cB = cC) = false from bc]; decide))]
theorem goes_is (p : Int) (rs : List Row) (i s n : Int) (h0 : 0 ≤ i) (h1 : i < rs.length) (g : GR n (rs.getD i.toNat dR)) (p1 : 2 ≤ p) (p2 : p ≤ 9) (hs : 1 ≤ s) (hs2 : s ≤ 10 ^ 100) : m_goes_on ⟨p, rs⟩ i s = .ok (sR p s (rs.getD i.toNat dR)) := by
  unfold m_goes_on
  simp only [M.ok_bind, Mw.bind_assoc]
  rw [(ixR rs i h0 h1).1]
  simp only [M.ok_bind]
  generalize rs.getD i.toNat dR = r at g
  cases g with
  | bin b =>
    simp only [ix0, M.ok_bind]
    have q2 : decide (cB = Cl.w (wd (Str.ofString "bin"))) = true := decide_eq_true rfl
    rw [q2, sR_bin]
    rfl
  | mesh o a b =>
    simp only [ix0, ix1, ix2, ix3, M.ok_bind, clI]
    have q2 : decide (cM = Cl.w (wd (Str.ofString "bin"))) = false := mb
    have q3 : decide (cM = Cl.w (wd (Str.ofString "crush"))) = false := mc
    rw [q2, q3]
    simp only [Bool.false_eq_true, if_false]
    show _ = M.ok [T3.mk (if s ≤ o then a else b) s 1]
    by_cases c : s ≤ o
    · rw [if_pos (decide_eq_true c), if_pos c, chk_pos (by simp)]
    · rw [if_neg (by simpa using c), if_neg c, chk_pos (by simp)]
  | crush a =>
    simp only [ix0, ix1, M.ok_bind, clI]
    have q2 : decide (cC = Cl.w (wd (Str.ofString "bin"))) = false := cb
    have q3 : decide (cC = Cl.w (wd (Str.ofString "crush"))) = true := decide_eq_true rfl
    rw [q2, q3, sR_crush]
    simp only [Bool.false_eq_true, if_false, if_true]
    rw [pieces_is s p hs hs2 p1 p2]
    simp only [M.ok_bind, ne_ok]
    rw [lcM_all (fun x : Int × Int => T3.mk a x.1 x.2) (by have := (pcs_facts s p hs p1).1; omega)]
/-- by fuel, where the next ones are of less rank -/
def itR {β : Type} (b : β) (G : (Kp → β) → Kp → β) : Nat → Kp → β
  | 0 => fun _ => b
  | k + 1 => G (itR b G k)
theorem itR_up {β : Type} {b : β} {G : (Kp → β) → Kp → β} {dom : Kp → Prop} {suc : Kp → List (T3 Int Int Int)} {R : Kp → Nat} (hG : ∀ x u v, dom x → (∀ t ∈ suc x, u (kp3 t) = v (kp3 t)) → G u x = G v x) (hR : ∀ x, dom x → ∀ t ∈ suc x, dom (kp3 t) ∧ R (kp3 t) < R x) :
    ∀ (n : Nat) (x : Kp), R x ≤ n → dom x → ∀ k, R x < k → itR b G k x = itR b G (R x + 1) x
  | n, x, hn, hx, k, hk => by
    obtain ⟨k, rfl⟩ : ∃ g, k = g + 1 := ⟨k - 1, by omega⟩
    show G (itR b G k) x = G (itR b G (R x)) x
    refine hG x _ _ hx fun t ht => ?_
    obtain ⟨d, r⟩ := hR x hx t ht
    cases n with
    | zero => omega
    | succ n =>
      rw [itR_up hG hR n (kp3 t) (by omega) d k (by omega), itR_up hG hR n (kp3 t) (by omega) d (R x) (by omega)]
theorem itR_eq {β : Type} {b : β} {G : (Kp → β) → Kp → β} {dom : Kp → Prop} {suc : Kp → List (T3 Int Int Int)} {R : Kp → Nat} (hG : ∀ x u v, dom x → (∀ t ∈ suc x, u (kp3 t) = v (kp3 t)) → G u x = G v x) (hR : ∀ x, dom x → ∀ t ∈ suc x, dom (kp3 t) ∧ R (kp3 t) < R x) {x : Kp} (hx : dom x) :
    itR b G (R x + 1) x = G (fun y => itR b G (R y + 1) y) x := by
  show G (itR b G (R x)) x = _
  refine hG x _ _ hx fun t ht => ?_
  obtain ⟨d, r⟩ := hR x hx t ht
  exact itR_up hG hR _ _ (Nat.le_refl _) d _ r
section
variable (p : Int) (rs : List Row) (number : Int)
def sucW (x : Kp) : List (T3 Int Int Int) := if 0 < x.b then sR p x.b (rs.getD x.a.toNat dR) else []
def ownW (x : Kp) : Int := if rs.getD x.a.toNat dR = ⟨[cB, .i number]⟩ then x.b else 0
def domW (B : Int) (x : Kp) : Prop := (0 ≤ x.a ∧ x.a < rs.length) ∧ 0 ≤ x.b ∧ x.b ≤ B
def rkW (x : Kp) : Nat := x.b.toNat * 16 + dst (fn rs x.b) (rs.length + 1) x.a
def VW (x : Kp) : Int := itR (0 : Int) (fun v x => ownW rs number x + ((sucW p rs x).map fun t => t.c * v (kp3 t)).sum) (rkW rs x + 1) x
def CW (x : Kp) : Nat := itR 0 (fun c x => 3 + ((sucW p rs x).map fun t => c (kp3 t)).sum) (rkW rs x + 1) x
end
/-- a works that is not stuck -/
structure Fr (p : Int) (rs : List Row) : Prop where
  p1 : 2 ≤ p
  p2 : p ≤ 9
  n : rs.length ≤ 12
  gr : ∀ r ∈ rs, GR rs.length r
  ends : ∀ s i : Int, 1 ≤ s → 0 ≤ i → i < rs.length → (ed (fn rs s) (rs.length + 1) i).isSome = true
section
variable {p : Int} {rs : List Row} {number B : Int}
theorem Fr.dst_le (F : Fr p rs) {s i : Int} (hs : 1 ≤ s) (h0 : 0 ≤ i) (h1 : i < rs.length) : dst (fn rs s) (rs.length + 1) i ≤ rs.length := by
  have h := F.ends s i hs h0 h1
  cases e : ed (fn rs s) (rs.length + 1) i with
  | none => rw [e] at h; cases h
  | some e' => have := (ed_up e).2.2; omega
theorem pcs_lt {s p : Int} (hs : 2 ≤ s) (hp : 2 ≤ p) : ∀ q ∈ pcs s p, 1 ≤ q.1 ∧ q.1 < s ∧ 1 ≤ q.2 ∧ q.2 ≤ p := fun q hq => by
  have r1 := Int.emod_lt_of_pos s (show 0 < p by omega)
  have r0 := Int.emod_nonneg s (show p ≠ 0 by omega)
  have eq := Int.emod_add_mul_ediv s p
  have q0 : 0 ≤ s / p := Int.ediv_nonneg (by omega) (by omega)
  have d1 : 2 * (s / p) ≤ p * (s / p) := Int.mul_le_mul_of_nonneg_right hp q0
  unfold pcs at hq
  rcases List.mem_append.mp hq with h | h
  · split at h
    · rw [List.mem_singleton.mp h]
      dsimp only
      omega
    · cases h
  · split at h
    · rename_i hr
      rw [List.mem_singleton.mp h]
      dsimp only
      exact ⟨by omega, by omega, by omega, by omega⟩
    · cases h
theorem pcs_one {p : Int} (hp : 2 ≤ p) : pcs 1 p = [(1, 1)] := by
  unfold pcs
  have d : (1 : Int) / p = 0 := Int.ediv_eq_zero_of_lt (by omega) (by omega)
  have r : (1 : Int) % p = 1 := Int.emod_eq_of_lt (by omega) (by omega)
  rw [d, r]
  rfl
/-- how a grain goes on, and what is nearer then -/
theorem Fr.next (F : Fr p rs) {x : Kp} (hx : domW rs B x) : ∀ t ∈ sucW p rs x, domW rs B (kp3 t) ∧ rkW rs (kp3 t) < rkW rs x ∧ 1 ≤ t.b ∧ 1 ≤ t.c ∧ t.c ≤ 9 := fun t ht => by
  obtain ⟨⟨a0, a1⟩, b0, b1⟩ := hx
  unfold sucW at ht
  split at ht
  · rename_i hb
    have m := (ixR rs x.a a0 a1).2
    have g := F.gr _ m
    have p1 := F.p1
    have p2 := F.p2
    have nl := F.n
    have stp : ∀ j : Int, fn rs x.b x.a = some j → (0 ≤ j ∧ j < rs.length) ∧ dst (fn rs x.b) (rs.length + 1) j < dst (fn rs x.b) (rs.length + 1) x.a := fun j hj => by
      have h := F.ends x.b x.a (by omega) a0 a1
      cases e : ed (fn rs x.b) (rs.length + 1) x.a with
      | none => rw [e] at h; cases h
      | some e' =>
        have := (ed_step e hj).2
        exact ⟨fn_rg F.gr a0 a1 hj, by omega⟩
    have ef : fn rs x.b x.a = nx x.b (rs.getD x.a.toNat dR) := rfl
    generalize rs.getD x.a.toNat dR = r at ht g ef
    cases g with
    | mesh o a b h1 h2 h3 h4 h5 h6 =>
      rw [nx_mesh] at ef
      have q := stp _ ef
      have ht' : t = ⟨if x.b ≤ o then a else b, x.b, 1⟩ := List.mem_singleton.mp ht
      rw [ht']
      refine ⟨⟨q.1, b0, b1⟩, ?_, by show 1 ≤ x.b; omega, by show (1 : Int) ≤ 1; decide, by show (1 : Int) ≤ 9; decide⟩
      unfold rkW kp3
      dsimp only
      omega
    | bin b => rw [sR_bin] at ht; cases ht
    | crush a h3 h4 =>
      rw [sR_crush] at ht
      obtain ⟨q, hq, rfl⟩ := List.mem_map.mp ht
      by_cases c : x.b = 1
      · rw [c, pcs_one p1] at hq
        rw [nx_crush, if_pos c] at ef
        have w := stp _ ef
        rw [List.mem_singleton.mp hq]
        refine ⟨⟨w.1, by show (0 : Int) ≤ 1; decide, by show (1 : Int) ≤ B; omega⟩, ?_, by show (1 : Int) ≤ 1; decide, by show (1 : Int) ≤ 1; decide, by show (1 : Int) ≤ 9; decide⟩
        unfold rkW kp3
        dsimp only
        rw [c] at w ⊢
        omega
      · have l := pcs_lt (show 2 ≤ x.b by omega) p1 q hq
        refine ⟨⟨⟨h3, h4⟩, by show 0 ≤ q.1; omega, by show q.1 ≤ B; omega⟩, ?_, l.1, l.2.2.1, by show q.2 ≤ 9; omega⟩
        unfold rkW kp3
        dsimp only
        have := F.dst_le (s := q.1) (by omega) h3 h4
        omega
  · cases ht
theorem Fr.V_eq (F : Fr p rs) {x : Kp} (hx : domW rs B x) : VW p rs number x = ownW rs number x + ((sucW p rs x).map fun t => t.c * VW p rs number (kp3 t)).sum :=
  itR_eq (dom := domW rs B) (suc := sucW p rs) (R := rkW rs) (fun x u v _ h => by
    congr 2
    exact List.map_congr_left fun t ht => by rw [h t ht]) (fun x hx t ht => ⟨(F.next hx t ht).1, (F.next hx t ht).2.1⟩) hx
theorem Fr.C_eq (F : Fr p rs) {x : Kp} (hx : domW rs B x) : CW p rs x = 3 + ((sucW p rs x).map fun t => CW p rs (kp3 t)).sum :=
  itR_eq (dom := domW rs B) (suc := sucW p rs) (R := rkW rs) (fun x u v _ h => by
    congr 2
    exact List.map_congr_left fun t ht => h t ht) (fun x hx t ht => ⟨(F.next hx t ht).1, (F.next hx t ht).2.1⟩) hx
/-- what is told of all, where it goes over from what is nearer -/
theorem Fr.ind (F : Fr p rs) {Q : Kp → Prop} (h : ∀ x, domW rs B x → (∀ t ∈ sucW p rs x, Q (kp3 t)) → Q x) : ∀ (n : Nat) (x : Kp), rkW rs x ≤ n → domW rs B x → Q x
  | n, x, hn, hx => h x hx fun t ht => by
    obtain ⟨d, r, _⟩ := F.next hx t ht
    cases n with
    | zero => omega
    | succ n => exact F.ind h n (kp3 t) (by omega) d
end
section
variable {p : Int} {rs : List Row} {number B : Int}
theorem pow_ok : (10 : Int) ^ 60 ≤ 10 ^ 100 := by decide +kernel
/-- the kinds of ways on -/
theorem Fr.kinds (F : Fr p rs) {x : Kp} (hx : domW rs B x) : sucW p rs x = [] ∧ (0 < x.b → ∃ b, 0 ≤ b ∧ b ≤ 5 ∧ rs.getD x.a.toNat dR = ⟨[cB, .i b]⟩) ∨
    (1 ≤ x.b ∧ (∀ m : Int, ¬ rs.getD x.a.toNat dR = ⟨[cB, .i m]⟩) ∧ ((∃ j, sucW p rs x = [⟨j, x.b, 1⟩] ∧ dst (fn rs x.b) (rs.length + 1) j < dst (fn rs x.b) (rs.length + 1) x.a) ∨ 2 ≤ x.b ∧ ∃ a : Int, 0 ≤ a ∧ a < rs.length ∧ rs.getD x.a.toNat dR = ⟨[cC, .i a]⟩ ∧ sucW p rs x = (pcs x.b p).map fun q => T3.mk a q.1 q.2)) := by
  have nx := F.next hx
  obtain ⟨⟨a0, a1⟩, b0, b1⟩ := hx
  by_cases hb : 0 < x.b
  · have es : sucW p rs x = sR p x.b (rs.getD x.a.toNat dR) := by unfold sucW; rw [if_pos hb]
    have g := F.gr _ (ixR rs x.a a0 a1).2
    rw [es] at nx ⊢
    generalize rs.getD x.a.toNat dR = r at g nx es
    cases g with
    | bin b h1 h2 => exact .inl ⟨sR_bin p x.b b, fun _ => ⟨b, h1, h2, rfl⟩⟩
    | mesh o a b h1 h2 h3 h4 h5 h6 =>
      refine .inr ⟨by omega, fun m z => by have := congrArg (fun r : Row => r.cs.length) z; simp at this, .inl ⟨if x.b ≤ o then a else b, rfl, ?_⟩⟩
      have := (nx ⟨if x.b ≤ o then a else b, x.b, 1⟩ (List.mem_singleton.mpr rfl)).2.1
      unfold rkW kp3 at this
      dsimp only at this
      omega
    | crush a h1 h2 =>
      refine .inr ⟨by omega, fun m z => ?_, ?_⟩
      · have : cC = cB := by injection z with z; injection z
        exact absurd (decide_eq_true this) (by rw [cb]; decide)
      · by_cases c : x.b = 1
        · left
          refine ⟨a, ?_, ?_⟩
          · rw [sR_crush, c, pcs_one F.p1]; rfl
          · have := (nx ⟨a, 1, 1⟩ (by rw [sR_crush, c, pcs_one F.p1]; exact List.mem_singleton.mpr rfl)).2.1
            unfold rkW kp3 at this
            dsimp only at this
            rw [c] at this ⊢
            omega
        · exact .inr ⟨by omega, a, h1, h2, rfl, sR_crush p x.b a⟩
  · left
    exact ⟨by unfold sucW; rw [if_neg hb], fun z => absurd z hb⟩
theorem sum_rg {V : Kp → Int} : ∀ l : List (T3 Int Int Int), (∀ t ∈ l, 1 ≤ t.c ∧ 0 ≤ V (kp3 t) ∧ V (kp3 t) ≤ t.b) → 0 ≤ (l.map fun t => t.c * V (kp3 t)).sum ∧ (l.map fun t => t.c * V (kp3 t)).sum ≤ (l.map fun t => t.b * t.c).sum
  | [], _ => ⟨Int.le_refl _, Int.le_refl _⟩
  | t :: r, h => by
    obtain ⟨h1, h2, h3⟩ := h t List.mem_cons_self
    obtain ⟨i1, i2⟩ := sum_rg r fun u hu => h u (List.mem_cons_of_mem _ hu)
    simp only [List.map_cons, List.sum_cons]
    have a1 : 0 ≤ t.c * V (kp3 t) := Int.mul_nonneg (by omega) h2
    have a2 : t.c * V (kp3 t) ≤ t.c * t.b := Int.mul_le_mul_of_nonneg_left h3 (by omega)
    rw [Int.mul_comm t.b t.c]
    omega
theorem Fr.suc_sum (F : Fr p rs) {x : Kp} (hx : domW rs B x) (h : sucW p rs x ≠ []) : ((sucW p rs x).map fun t => t.b * t.c).sum = x.b := by
  rcases F.kinds hx with ⟨e, _⟩ | ⟨hb, _, ⟨j, e, _⟩ | ⟨h2, a, _, _, _, e⟩⟩
  · exact absurd e h
  · rw [e]; simp
  · rw [e, List.map_map]
    exact (pcs_facts x.b p hb F.p1).2.2.2.1
theorem own_rg (rs : List Row) (number : Int) {x : Kp} (h : 0 ≤ x.b) : 0 ≤ ownW rs number x ∧ ownW rs number x ≤ x.b := by
  unfold ownW
  split <;> omega
theorem Fr.V_rg (F : Fr p rs) (number : Int) : ∀ x, domW rs B x → 0 ≤ VW p rs number x ∧ VW p rs number x ≤ x.b := fun x hx => by
  refine F.ind (B := B) (Q := fun x => 0 ≤ VW p rs number x ∧ VW p rs number x ≤ x.b) (fun x hx ih => ?_) _ x (Nat.le_refl _) hx
  rw [F.V_eq hx]
  by_cases e : sucW p rs x = []
  · rw [e, List.map_nil, List.sum_nil, Int.add_zero]
    exact own_rg rs number hx.2.1
  · have s := F.suc_sum hx e
    have o : ownW rs number x = 0 := by
      rcases F.kinds hx with ⟨z, _⟩ | ⟨_, nb, _⟩
      · exact absurd z e
      · unfold ownW; rw [if_neg (nb number)]
    have := sum_rg (V := VW p rs number) (sucW p rs x) fun t ht => ⟨(F.next hx t ht).2.2.2.1, ih t ht⟩
    rw [s] at this
    rw [o]
    omega
def s6 (f : Int → Int) : Int := f 0 + f 1 + f 2 + f 3 + f 4 + f 5
theorem s6_sum (V : Int → Kp → Int) : ∀ l : List (T3 Int Int Int), s6 (fun m => (l.map fun t => t.c * V m (kp3 t)).sum) = (l.map fun t => t.c * s6 (fun m => V m (kp3 t))).sum
  | [] => rfl
  | t :: r => by
    have := s6_sum V r
    unfold s6 at this ⊢
    simp only [List.map_cons, List.sum_cons, Int.mul_add] at this ⊢
    omega
/-- the weights of all numbers are the grain's -/
theorem Fr.V_all (F : Fr p rs) : ∀ x, domW rs B x → s6 (fun m => VW p rs m x) = x.b := fun x hx => by
  refine F.ind (B := B) (Q := fun x => s6 (fun m => VW p rs m x) = x.b) (fun x hx ih => ?_) _ x (Nat.le_refl _) hx
  have eq : s6 (fun m => VW p rs m x) = s6 (fun m => ownW rs m x) + s6 (fun m => ((sucW p rs x).map fun t => t.c * VW p rs m (kp3 t)).sum) := by
    unfold s6
    dsimp only
    rw [F.V_eq (number := 0) hx, F.V_eq (number := 1) hx, F.V_eq (number := 2) hx, F.V_eq (number := 3) hx, F.V_eq (number := 4) hx, F.V_eq (number := 5) hx]
    omega
  rw [eq, s6_sum (fun m => VW p rs m)]
  rw [List.map_congr_left (g := fun t => t.b * t.c) fun t ht => by rw [ih t ht]; exact Int.mul_comm _ _]
  rcases F.kinds hx with ⟨e, hb⟩ | ⟨h1, nb, k⟩
  · rw [e, List.map_nil, List.sum_nil, Int.add_zero]
    by_cases z : 0 < x.b
    · obtain ⟨b, b0, b1, er⟩ := hb z
      have own : ∀ m : Int, ownW rs m x = if b = m then x.b else 0 := fun m => by
        unfold ownW
        rw [er]
        by_cases c : b = m
        · rw [if_pos c, if_pos (by rw [c])]
        · rw [if_neg c, if_neg (fun z => c (by injection z with z; injection z with _ z; injection z with z; injection z))]
      unfold s6
      dsimp only
      rw [own, own, own, own, own, own]
      rcases (by omega : b = 0 ∨ b = 1 ∨ b = 2 ∨ b = 3 ∨ b = 4 ∨ b = 5) with z | z | z | z | z | z <;> subst z <;> simp
    · have : x.b = 0 := by have := hx.2.1; omega
      have own : ∀ m : Int, ownW rs m x = 0 := fun m => by unfold ownW; rw [this]; split <;> rfl
      unfold s6
      dsimp only
      rw [own, own, own, own, own, own, this]
      rfl
  · have e : sucW p rs x ≠ [] := fun z => by
      rcases k with ⟨j, k, _⟩ | ⟨h2, a, _, _, er, k⟩
      · rw [k] at z; cases z
      · have := F.suc_sum (B := B) hx
        rw [k] at z
        have s := (pcs_facts x.b p h1 F.p1).2.2.2.1
        rw [List.map_eq_nil_iff] at z
        rw [z] at s
        simp at s
        omega
    rw [F.suc_sum hx e]
    have own : ∀ m : Int, ownW rs m x = 0 := fun m => by unfold ownW; rw [if_neg (nb m)]
    unfold s6
    dsimp only
    rw [own, own, own, own, own, own]
    omega
theorem piece_cost : ∀ s : Fin 41, ∀ p : Fin 10, 2 ≤ s.val → 2 ≤ p.val → ((pcs (s.val : Int) (p.val : Int)).map fun q => 100 * q.1.toNat ^ 2 + 39).sum ≤ 100 * s.val ^ 2 := by decide +kernel
theorem sum_le_nat {α : Type} (f g : α → Nat) : ∀ l : List α, (∀ t ∈ l, f t ≤ g t) → (l.map f).sum ≤ (l.map g).sum
  | [], _ => Nat.le_refl _
  | a :: r, h => by
    have := sum_le_nat f g r fun t ht => h t (List.mem_cons_of_mem _ ht)
    have := h a List.mem_cons_self
    simp only [List.map_cons, List.sum_cons]
    omega
theorem Fr.C_rg (F : Fr p rs) : ∀ x, domW rs 40 x → CW p rs x ≤ 100 * x.b.toNat ^ 2 + 3 * (dst (fn rs x.b) (rs.length + 1) x.a + 1) := fun x hx => by
  refine F.ind (B := 40) (Q := fun x => CW p rs x ≤ 100 * x.b.toNat ^ 2 + 3 * (dst (fn rs x.b) (rs.length + 1) x.a + 1)) (fun x hx ih => ?_) _ x (Nat.le_refl _) hx
  rw [F.C_eq hx]
  rcases F.kinds hx with ⟨e, _⟩ | ⟨h1, nb, ⟨j, e, d⟩ | ⟨h2, a, ha0, ha1, er, e⟩⟩
  · rw [e, List.map_nil, List.sum_nil]
    omega
  · have := ih ⟨j, x.b, 1⟩ (by rw [e]; exact List.mem_singleton.mpr rfl)
    rw [e]
    simp only [List.map_cons, List.map_nil, List.sum_cons, List.sum_nil]
    unfold kp3 at this ⊢
    dsimp only at this ⊢
    omega
  · obtain ⟨_, b0, b1⟩ := hx
    have q := piece_cost ⟨x.b.toNat, by omega⟩ ⟨p.toNat, by have := F.p2; omega⟩ (by show 2 ≤ x.b.toNat; omega) (by show 2 ≤ p.toNat; have := F.p1; omega)
    dsimp only at q
    rw [Int.toNat_of_nonneg b0, Int.toNat_of_nonneg (by have := F.p1; omega)] at q
    have l : ((sucW p rs x).map fun t => CW p rs (kp3 t)).sum ≤ ((sucW p rs x).map fun t => 100 * t.b.toNat ^ 2 + 39).sum := sum_le_nat _ _ _ fun t ht => by
      have i := ih t ht
      have nx := F.next (B := 40) ⟨by assumption, b0, b1⟩ t ht
      have dl := F.dst_le (s := t.b) (i := t.a) nx.2.2.1 nx.1.1.1 nx.1.1.2
      have nl := F.n
      unfold kp3 at i ⊢
      dsimp only at i ⊢
      omega
    rw [e, List.map_map, List.map_map] at l
    have l' : ((pcs x.b p).map ((fun t : T3 Int Int Int => 100 * t.b.toNat ^ 2 + 39) ∘ fun q => T3.mk a q.1 q.2)).sum = ((pcs x.b p).map fun q => 100 * q.1.toNat ^ 2 + 39).sum := rfl
    rw [l'] at l
    rw [e, List.map_map]
    omega
end
section
variable {p : Int} {rs : List Row} {B : Int}
theorem Fr.inst (F : Fr p rs) (hB : B ≤ 10 ^ 60) (number : Int) : Dfs ⟨p, rs⟩ number (domW rs B) (sucW p rs) (ownW rs number) (VW p rs number) (CW p rs) where
  go := fun x hx => by
    by_cases h : 0 < x.b
    · rw [if_pos (decide_eq_true h), goes_is p rs x.a x.b rs.length hx.1.1 hx.1.2 (F.gr _ (ixR rs x.a hx.1.1 hx.1.2).2) F.p1 F.p2 (by omega) (Int.le_trans hx.2.2 (Int.le_trans hB pow_ok))]
      unfold sucW
      rw [if_pos h]
      rfl
    · rw [if_neg (by simpa using h)]
      unfold sucW
      rw [if_neg h]
  ow := fun x hx => by
    unfold m_own_weight
    simp only [M.ok_bind, Mw.bind_assoc, ne_ok]
    rw [(ixR rs x.a hx.1.1 hx.1.2).1]
    simp only [M.ok_bind]
    rw [chk_pos (by simp), show Cl.w (wd (Str.ofString "bin")) = cB from rfl]
    simp only [M.ok_bind]
    unfold ownW
    by_cases c : rs.getD x.a.toNat dR = ⟨[cB, .i number]⟩
    · rw [if_pos c, if_pos (decide_eq_true c)]
    · rw [if_neg c, if_neg (fun z => c (of_decide_eq_true z))]
  val := fun x hx => F.V_eq hx
  dm := fun x hx t ht => (F.next hx t ht).1
  sm := fun x hx t ht => by
    have n := F.next hx t ht
    have v := F.V_rg number (kp3 t) n.1
    have le : VW p rs number (kp3 t) ≤ 10 ^ 60 := Int.le_trans v.2 (Int.le_trans n.1.2.2 hB)
    refine ⟨Nat.lt_of_le_of_lt (show t.c.natAbs ≤ 9 by omega) (by decide +kernel), ?_⟩
    exact small_of _ v.1 (Int.le_trans le (by decide +kernel))
  cost := fun x hx => Nat.le_of_eq (F.C_eq hx).symm
  two := fun x hx => by
    rcases F.kinds hx with ⟨e, _⟩ | ⟨h1, _, ⟨j, e, _⟩ | ⟨h2, a, _, _, _, e⟩⟩
    · rw [e]; simp
    · rw [e]; simp
    · rw [e, List.length_map]
      exact (pcs_facts x.b p h1 F.p1).1
theorem VW_zero (F : Fr p rs) (number : Int) {row : Int} (h0 : 0 ≤ row) (h1 : row < rs.length) : VW p rs number ⟨row, 0⟩ = 0 := by
  have := F.V_rg (B := 40) number ⟨row, 0⟩ ⟨⟨h0, h1⟩, Int.le_refl _, by show (0 : Int) ≤ 40; decide⟩
  dsimp only at this
  omega
theorem Fr.weight_is (F : Fr p rs) (number : Int) {row size : Int} (hx : domW rs 40 ⟨row, size⟩) : m_weight_in ⟨p, rs⟩ row size number = .ok (VW p rs number ⟨row, size⟩) := by
  refine (F.inst (B := 40) (by decide +kernel) number).weight row size hx ?_ (VW_zero F number hx.1.1 hx.1.2)
  have c := F.C_rg _ hx
  have b := hx.2.2
  have b0 := hx.2.1
  dsimp only at b b0 c
  have n := F.n
  have sq : size.toNat ^ 2 ≤ 40 ^ 2 := Nat.pow_le_pow_left (by omega) 2
  by_cases z : 1 ≤ size
  · have d := F.dst_le (s := size) (i := row) z hx.1.1 hx.1.2
    omega
  · have e : size = 0 := by omega
    subst e
    have := F.C_eq (B := 40) hx
    rw [this]
    unfold sucW
    rw [if_neg (by show ¬ (0 : Int) < 0; decide)]
    simp
theorem Fr.weights_is (F : Fr p rs) {row size : Int} (hx : domW rs 40 ⟨row, size⟩) : m_weights_from ⟨p, rs⟩ row size = .ok ((rng 0 6).map fun m => VW p rs m ⟨row, size⟩) := by
  unfold m_weights_from
  simp only [M.ok_bind, Mw.bind_assoc, ne_ok]
  rw [rng1M_ok (by decide)]
  simp only [M.ok_bind]
  rw [lcM_congr (c' := fun _ => .ok true) (e' := fun m => .ok (VW p rs m ⟨row, size⟩)) (fun _ _ => rfl) (fun m _ _ => by rw [F.weight_is m hx]; rfl), lcM_all _ (by decide)]
end
theorem sm31 {x : Int} (h0 : 0 ≤ x) (h : x ≤ 2147483647) : x.natAbs < 2 ^ 10000 := Nat.lt_of_le_of_lt (show x.natAbs ≤ 2147483647 by omega) (by decide +kernel)
theorem cell_ok (ns : List Int) (k : Int) (hk : 0 ≤ k) : ∃ v, m_law_cell ⟨ns⟩ k = .ok v ∧ 0 ≤ v := by
  unfold m_law_cell
  simp only [M.ok_bind, Mw.bind_assoc]
  by_cases hz : k < (ns.length : Int)
  · rw [if_pos (decide_eq_true hz)]
    obtain ⟨v, _, ev⟩ := ix_nat ns k hk hz
    rw [show ixS ⟨ns⟩ k = .ok v from ev]
    simp only [M.ok_bind]
    rw [modM_ok (by decide)]
    exact ⟨_, rfl, Int.emod_nonneg _ (by decide)⟩
  · rw [if_neg (by simpa using hz)]
    have s : ∃ f, (if decide ((0 : Int) < (ns.length : Int)) = true then (ixS ⟨ns⟩ 0).bind fun x => (modM x 1000000000000000000000000000000000000000000000000000000000000).bind fun first => M.ok first else M.ok 0) = .ok f := by
      by_cases z : (0 : Int) < (ns.length : Int)
      · rw [if_pos (decide_eq_true z)]
        obtain ⟨v, _, ev⟩ := ix_nat ns 0 (Int.le_refl _) z
        rw [show ixS ⟨ns⟩ 0 = .ok v from ev]
        simp only [M.ok_bind]
        rw [modM_ok (by decide)]
        exact ⟨_, rfl⟩
      · rw [if_neg (by simpa using z)]
        exact ⟨_, rfl⟩
    obtain ⟨f, ef⟩ := s
    rw [ef]
    simp only [M.ok_bind]
    have a0 := Int.emod_nonneg ((f + 977 * k + 1) * 48271) (show (2147483647 : Int) ≠ 0 by decide)
    have a1 := Int.emod_lt_of_pos ((f + 977 * k + 1) * 48271) (show (0 : Int) < 2147483647 by decide)
    generalize (f + 977 * k + 1) * 48271 % 2147483647 = a at a0 a1
    rw [mulM_ok (sm31 a0 (by omega)) (sm31 a0 (by omega))]
    simp only [M.ok_bind]
    rw [modM_ok (by decide)]
    simp only [M.ok_bind]
    have b0 := Int.emod_nonneg ((a * a % 1000000007 + 69621 * k) * 40692) (show (998244353 : Int) ≠ 0 by decide)
    have b1 := Int.emod_lt_of_pos ((a * a % 1000000007 + 69621 * k) * 40692) (show (0 : Int) < 998244353 by decide)
    generalize (a * a % 1000000007 + 69621 * k) * 40692 % 998244353 = b at b0 b1
    rw [mulM_ok (sm31 b0 (by omega)) (sm31 b0 (by omega))]
    simp only [M.ok_bind]
    rw [fdivM_ok (by decide) (by decide +kernel)]
    exact ⟨_, rfl, Int.ediv_nonneg (Int.mul_nonneg b0 b0) (by decide)⟩
theorem wrow_ok (c n most : Int) (hn : 1 ≤ n) (hm : 1 ≤ most) (hm2 : most ≤ 20) : ∃ r, m_law_row c n most = .ok r ∧ GR n r ∧ ∀ o ∈ ops [r], o ≤ 20 := by
  unfold m_law_row
  simp only [M.ok_bind, Mw.bind_assoc]
  by_cases c1 : c % 4 = 3
  · rw [if_pos (decide_eq_true c1), chk_pos (by simp)]
    exact ⟨_, rfl, .bin _ (by omega) (by omega), fun o ho => nomatch ho⟩
  · rw [if_neg (by simpa using c1)]
    by_cases c2 : c % 4 = 2
    · rw [if_pos (decide_eq_true c2), modM_ok (by omega)]
      simp only [M.ok_bind]
      rw [chk_pos (by simp)]
      exact ⟨_, rfl, .crush _ (Int.emod_nonneg _ (by omega)) (Int.emod_lt_of_pos _ (by omega)), fun o ho => nomatch ho⟩
    · rw [if_neg (by simpa using c2), modM_ok (by omega), modM_ok (by omega), modM_ok (by omega)]
      simp only [M.ok_bind]
      rw [chk_pos (by simp)]
      have o0 := Int.emod_nonneg (c / 4) (show most ≠ 0 by omega)
      have o1 := Int.emod_lt_of_pos (c / 4) (show 0 < most by omega)
      exact ⟨_, rfl, .mesh _ _ _ (by omega) (by omega) (Int.emod_nonneg _ (by omega)) (Int.emod_lt_of_pos _ (by omega)) (Int.emod_nonneg _ (by omega)) (Int.emod_lt_of_pos _ (by omega)), fun o ho => by
        rw [List.mem_singleton.mp (show o ∈ [1 + c / 4 % most] from ho)]
        omega⟩
theorem end_b1 {rs : List Row} (g : ∀ r ∈ rs, GR rs.length r) {s i : Int} (y : Int) (h0 : 0 ≤ i) (h1 : i < rs.length) : m_law_end_b1 rs s y i = (match fn rs s i with
    | some j => .ok (.nx j)
    | none => .ok (.rt (some i))) := by
  unfold m_law_end_b1
  simp only [M.ok_bind, Mw.bind_assoc]
  rw [(ixR rs i h0 h1).1]
  simp only [M.ok_bind]
  have gr := g _ (ixR rs i h0 h1).2
  unfold fn
  generalize rs.getD i.toNat dR = r at gr
  cases gr with
  | mesh o a b =>
    rw [nx_mesh]
    simp only [ix0, ix1, M.ok_bind, clI]
    rw [show decide (cM = Cl.w (wd (Str.ofString "mesh"))) = true from decide_eq_true rfl, if_pos rfl]
    by_cases c : s ≤ o
    · rw [if_neg (by simpa using c), if_pos c, show (2 : Int) + 0 = 2 from rfl, ix2]
      rfl
    · rw [if_pos (decide_eq_true (by omega)), if_neg c, show (2 : Int) + 1 = 3 from rfl, ix3]
      rfl
  | crush a =>
    rw [nx_crush]
    simp only [ix0, ix1, M.ok_bind, clI]
    rw [show decide (cC = Cl.w (wd (Str.ofString "mesh"))) = false from cm, if_neg (by decide), show decide (cC = Cl.w (wd (Str.ofString "crush"))) = true from decide_eq_true rfl, andM_t]
    simp only [M.ok_bind]
    by_cases c : s = 1
    · rw [if_pos (decide_eq_true c), if_pos c]
    · rw [if_neg (by simpa using c), if_neg c]
  | bin b =>
    rw [nx_bin]
    simp only [ix0, ix1, M.ok_bind, clI]
    rw [show decide (cB = Cl.w (wd (Str.ofString "mesh"))) = false from bm, if_neg (by decide), show decide (cB = Cl.w (wd (Str.ofString "crush"))) = false from bc, andM_f]
    rfl
theorem end_is {rs : List Row} (g : ∀ r ∈ rs, GR rs.length r) (hn : rs.length ≤ 1000) {s i : Int} (h0 : 0 ≤ i) (h1 : i < rs.length) : m_law_end rs i s = .ok (ed (fn rs s) (rs.length + 1) i) := by
  have go : ∀ (xs : List Int) (i : Int), 0 ≤ i → i < rs.length → forM (m_law_end_b1 rs s) (fun _ => M.ok none) xs i = .ok (ed (fn rs s) xs.length i) := fun xs => by
    induction xs with
    | nil => intro i _ _; rfl
    | cons y r ih =>
      intro i h0 h1
      rw [forM_cons, end_b1 g y h0 h1, List.length_cons]
      cases c : fn rs s i with
      | none => rw [(ed_succ_none c).1]; rfl
      | some j =>
        rw [(ed_succ_some c).1]
        have q := fn_rg g h0 h1 c
        exact ih j q.1 q.2
  unfold m_law_end
  simp only [M.ok_bind, Mw.bind_assoc]
  rw [show ((rs.length : Int) + 1) = ((rs.length + 1 : Nat) : Int) by omega, rng1M_ok (by omega)]
  simp only [M.ok_bind]
  rw [go _ i h0 h1]
  have : (rng 0 ((rs.length + 1 : Nat) : Int)).length = rs.length + 1 := by unfold rng; simp
  rw [this]
theorem forM_look {α τ : Type} {f : α → Unit → M (Ctl Unit τ)} {k : Unit → M τ} {p : α → Bool} {r : τ} : ∀ xs : List α, (∀ x ∈ xs, f x () = .ok (if p x = true then .nx () else .rt r)) → forM f k xs () = if xs.all p = true then k () else .ok r
  | [], _ => rfl
  | x :: xs, h => by
    rw [forM_cons, h x List.mem_cons_self, List.all_cons]
    cases c : p x with
    | true =>
      rw [if_pos rfl, Bool.true_and]
      exact forM_look xs fun y hy => h y (List.mem_cons_of_mem _ hy)
    | false => rfl
theorem stuck_is {rs : List Row} (g : ∀ r ∈ rs, GR rs.length r) (hn : rs.length ≤ 1000) : ∃ b, m_law_stuck rs = .ok b ∧ (b = false → ∀ t ∈ reps rs, ∀ i : Int, 0 ≤ i → i < rs.length → (ed (fn rs t) (rs.length + 1) i).isSome = true) := by
  unfold m_law_stuck
  simp only [M.ok_bind, Mw.bind_assoc]
  have op : ∃ os, lcM (fun x : Row => (ixM x.cs 0).bind fun y => M.ok (decide (y = Cl.w (wd (Str.ofString "mesh"))))) (fun x : Row => (ixM x.cs 1).bind clI) rs = .ok os ∧ os.length ≤ rs.length ∧ ∀ o ∈ ops rs, o ∈ os := by
    let isM : Row → Bool := fun r => match r.cs with
      | [_, .i _, .i _, .i _] => true
      | _ => false
    let opn : Row → Int := fun r => match r.cs with
      | [_, .i o, .i _, .i _] => o
      | _ => 0
    refine ⟨(rs.filter isM).map opn, ?_, by rw [List.length_map]; exact List.length_filter_le _ _, fun o ho => ?_⟩
    · rw [lcM_congr (c' := fun r => .ok (isM r)) (e' := fun r => .ok (opn r)) (fun r hr => ?_) (fun r hr hc => ?_), lcM_ok _ _ (by omega)]
      · cases g r hr with
        | mesh o a b => simp only [ix0, M.ok_bind]; rw [show decide (cM = Cl.w (wd (Str.ofString "mesh"))) = true from decide_eq_true rfl]
        | crush a => simp only [ix0, M.ok_bind]; rw [show decide (cC = Cl.w (wd (Str.ofString "mesh"))) = false from cm]
        | bin b => simp only [ix0, M.ok_bind]; rw [show decide (cB = Cl.w (wd (Str.ofString "mesh"))) = false from bm]
      · cases g r hr with
        | mesh o a b => simp only [ix1, M.ok_bind, clI]; rfl
        | crush a => simp only [ix0, M.ok_bind] at hc; rw [show decide (cC = Cl.w (wd (Str.ofString "mesh"))) = false from cm] at hc; cases hc
        | bin b => simp only [ix0, M.ok_bind] at hc; rw [show decide (cB = Cl.w (wd (Str.ofString "mesh"))) = false from bm] at hc; cases hc
    · unfold ops at ho
      obtain ⟨r, hr, e⟩ := List.mem_filterMap.mp ho
      cases g r hr with
      | mesh o' a b => cases e; exact List.mem_map.mpr ⟨_, List.mem_filter.mpr ⟨hr, rfl⟩, rfl⟩
      | crush a => cases e
      | bin b => cases e
  obtain ⟨os, eo, lo, mo⟩ := op
  rw [eo]
  simp only [M.ok_bind]
  rw [catM_ok (by simp; omega), lcM_all _ (by omega)]
  simp only [M.ok_bind]
  rw [catM_ok (by simp; omega)]
  simp only [M.ok_bind]
  have b1 : ∀ t : Int, m_law_stuck_b1 rs t () = .ok (if ((rng 0 (rs.length : Int)).all fun i => (ed (fn rs t) (rs.length + 1) i).isSome) = true then .nx () else .rt true) := fun t => by
    unfold m_law_stuck_b1
    simp only [M.ok_bind, Mw.bind_assoc]
    rw [rng1M_ok (by omega)]
    simp only [M.ok_bind]
    rw [forM_look (p := fun i => (ed (fn rs t) (rs.length + 1) i).isSome) (r := (Ctl.rt true : Ctl Unit Bool)) _ fun i hi => ?_]
    · split <;> rfl
    · unfold rng at hi
      obtain ⟨j, hj, rfl⟩ := List.mem_map.mp hi
      rw [List.mem_range] at hj
      unfold m_law_stuck_b2
      simp only [M.ok_bind, Mw.bind_assoc]
      rw [end_is g hn (s := t) (i := 0 + (j : Int)) (by omega) (by omega)]
      simp only [M.ok_bind, ne_ok]
      cases ed (fn rs t) (rs.length + 1) (0 + (j : Int)) <;> rfl
  rw [forM_look (p := fun t => (rng 0 (rs.length : Int)).all fun i => (ed (fn rs t) (rs.length + 1) i).isSome) (r := true) _ fun t _ => b1 t]
  split
  · rename_i h
    refine ⟨false, rfl, fun _ t ht i h0 h1 => ?_⟩
    rw [List.all_eq_true] at h
    have := h t (by
      unfold reps at ht
      rcases List.mem_append.mp ht with z | z
      · rcases List.mem_append.mp z with z | z
        · exact List.mem_append_left _ (List.mem_append_left _ z)
        · exact List.mem_append_left _ (List.mem_append_right _ (mo t z))
      · obtain ⟨o, ho, rfl⟩ := List.mem_map.mp z
        exact List.mem_append_right _ (List.mem_map.mpr ⟨o, mo o ho, rfl⟩))
    rw [List.all_eq_true] at this
    refine this i ?_
    unfold rng
    exact List.mem_map.mpr ⟨i.toNat, List.mem_range.mpr (by omega), by omega⟩
  · exact ⟨true, rfl, fun z => nomatch z⟩
/-- rows that lead on to later ones end -/
theorem ed_fwd {f : Int → Option Int} {n : Nat} (h : ∀ i j : Int, 0 ≤ i → i < n → f i = some j → i < j ∧ j < n) : ∀ (m k : Nat) (i : Int), 0 ≤ i → i < n → (n : Int) - i ≤ m → m < k → (ed f k i).isSome = true
  | 0, _, i, h0, h1, hm, _ => by omega
  | m + 1, k, i, h0, h1, hm, hk => by
    obtain ⟨k, rfl⟩ : ∃ g, k = g + 1 := ⟨k - 1, by omega⟩
    cases c : f i with
    | none => rw [(ed_succ_none c).1]; rfl
    | some j =>
      rw [(ed_succ_some c).1]
      have := h i j h0 h1 c
      exact ed_fwd h m k j (by omega) this.2 (by omega) (by omega)
theorem forward_is {rs : List Row} (g : ∀ r ∈ rs, GR rs.length r) (hn : rs.length ≤ 1000) (h1 : 1 ≤ rs.length) (hl : ∃ b, 0 ≤ b ∧ b ≤ 5 ∧ rs.getD (rs.length - 1) dR = ⟨[cB, .i b]⟩) :
    ∃ made, m_law_forward rs = .ok made ∧ made.length = rs.length ∧ (∀ r ∈ made, GR rs.length r) ∧ (∀ (s : Int) (k : Nat) (j : Int), k < made.length → nx s (made.getD k dR) = some j → (k : Int) < j ∧ j < rs.length) ∧ ∀ o ∈ ops made, o ∈ ops rs := by
  unfold m_law_forward
  simp only [M.ok_bind, Mw.bind_assoc]
  rw [rng1M_ok (by omega)]
  simp only [M.ok_bind]
  obtain ⟨made, q1, q2⟩ := forM_ex (f := m_law_forward_b1 rs) (k := fun s => M.ok s) (fun pre (s : List Row) => s.length = pre.length ∧ (∀ r ∈ s, GR rs.length r) ∧ (∀ (z : Int) (k : Nat) (j : Int), k < s.length → nx z (s.getD k dR) = some j → (k : Int) < j ∧ j < rs.length) ∧ ∀ o ∈ ops s, o ∈ ops rs) (rng 0 (rs.length : Int)) [] [] ⟨rfl, (fun _ z => nomatch z), (fun _ _ _ h => nomatch h), (fun _ z => nomatch z)⟩ (fun p x s hp hJ => by
    obtain ⟨ex, hx⟩ := rng_pre hp
    obtain ⟨j1, j2, j3, j4⟩ := hJ
    have ir := ixR rs x (by omega) (by omega)
    have gr := g _ ir.2
    have mm := ir.2
    have fin : ∀ r : Row, GR rs.length r → (∀ (z j : Int), nx z r = some j → (p.length : Int) < j ∧ j < rs.length) → (∀ o ∈ ops [r], o ∈ ops rs) → ∃ s', (appM s r).bind (fun m => M.ok (Ctl.nx (τ := List Row) m)) = .ok (.nx s') ∧ s'.length = (p ++ [x]).length ∧ (∀ r ∈ s', GR rs.length r) ∧ (∀ (z : Int) (k : Nat) (j : Int), k < s'.length → nx z (s'.getD k dR) = some j → (k : Int) < j ∧ j < rs.length) ∧ ∀ o ∈ ops s', o ∈ ops rs := fun r gr' hr ho => by
      rw [appM_ok (by omega)]
      refine ⟨_, rfl, by simp [j1], fun y hy => ?_, fun z k j hk hj => ?_, fun o h => ?_⟩
      · rcases List.mem_append.mp hy with w | w
        · exact j2 y w
        · rw [List.mem_singleton.mp w]; exact gr'
      · rw [List.length_append, List.length_singleton] at hk
        rw [List.getD_eq_getElem?_getD, List.getElem?_append] at hj
        by_cases c : k < s.length
        · rw [if_pos c] at hj
          exact j3 z k j c (by rw [List.getD_eq_getElem?_getD]; exact hj)
        · have : k = s.length := by omega
          subst this
          rw [if_neg (by omega), Nat.sub_self] at hj
          rw [j1]
          exact hr z j hj
      · rw [show ops (s ++ [r]) = ops s ++ ops [r] from List.filterMap_append] at h
        rcases List.mem_append.mp h with w | w
        · exact j4 o w
        · exact ho o w
    unfold m_law_forward_b1
    simp only [M.ok_bind, Mw.bind_assoc]
    rw [ir.1]
    simp only [M.ok_bind]
    have xl : x.toNat = p.length := by omega
    have last : p.length = rs.length - 1 → ∃ b, 0 ≤ b ∧ b ≤ 5 ∧ rs.getD x.toNat dR = ⟨[cB, .i b]⟩ := fun e => by rw [xl, e]; exact hl
    generalize rs.getD x.toNat dR = r at gr last mm
    cases gr with
    | mesh o a b o1 o2 =>
      have lt : p.length < rs.length - 1 := by
        by_cases e : p.length = rs.length - 1
        · obtain ⟨b', _, _, z⟩ := last e
          have := congrArg (fun r : Row => r.cs.length) z
          simp at this
        · omega
      simp only [ix0, ix1, ix2, ix3, M.ok_bind, clI]
      rw [show decide (cM = Cl.w (wd (Str.ofString "mesh"))) = true from decide_eq_true rfl, if_pos rfl, modM_ok (by omega), modM_ok (by omega)]
      simp only [M.ok_bind]
      rw [chk_pos (by simp)]
      simp only [M.ok_bind]
      have a0 := Int.emod_nonneg a (show (rs.length : Int) - 1 - x ≠ 0 by omega)
      have a1 := Int.emod_lt_of_pos a (show 0 < (rs.length : Int) - 1 - x by omega)
      have b0 := Int.emod_nonneg b (show (rs.length : Int) - 1 - x ≠ 0 by omega)
      have b1 := Int.emod_lt_of_pos b (show 0 < (rs.length : Int) - 1 - x by omega)
      refine fin ⟨[cM, .i o, .i (x + 1 + a % ((rs.length : Int) - 1 - x)), .i (x + 1 + b % ((rs.length : Int) - 1 - x))]⟩ (.mesh _ _ _ o1 o2 (by omega) (by omega) (by omega) (by omega)) (fun z j hj => ?_) fun z hj => ?_
      · rw [nx_mesh] at hj
        split at hj <;> cases hj <;> omega
      · rw [List.mem_singleton.mp (show z ∈ [o] from hj)]
        exact ops_mem mm
    | crush a =>
      have lt : p.length < rs.length - 1 := by
        by_cases e : p.length = rs.length - 1
        · obtain ⟨b', _, _, z⟩ := last e
          have : cC = cB := by injection z with z; injection z
          exact absurd (decide_eq_true this) (by rw [cb]; decide)
        · omega
      simp only [ix0, ix1, M.ok_bind, clI]
      rw [show decide (cC = Cl.w (wd (Str.ofString "mesh"))) = false from cm, if_neg (by decide), show decide (cC = Cl.w (wd (Str.ofString "crush"))) = true from decide_eq_true rfl, if_pos rfl, modM_ok (by omega)]
      simp only [M.ok_bind]
      rw [chk_pos (by simp)]
      simp only [M.ok_bind]
      have a0 := Int.emod_nonneg a (show (rs.length : Int) - 1 - x ≠ 0 by omega)
      have a1 := Int.emod_lt_of_pos a (show 0 < (rs.length : Int) - 1 - x by omega)
      refine fin ⟨[cC, .i (x + 1 + a % ((rs.length : Int) - 1 - x))]⟩ (.crush _ (by omega) (by omega)) (fun z j hj => ?_) fun z hj => nomatch hj
      rw [nx_crush] at hj
      split at hj
      · cases hj; omega
      · cases hj
    | bin b b0 b1 =>
      simp only [ix0, M.ok_bind]
      rw [show decide (cB = Cl.w (wd (Str.ofString "mesh"))) = false from bm, if_neg (by decide), show decide (cB = Cl.w (wd (Str.ofString "crush"))) = false from bc, if_neg (by decide)]
      simp only [M.ok_bind]
      exact fin ⟨[cB, .i b]⟩ (.bin b b0 b1) (fun z j hj => by rw [nx_bin] at hj; cases hj) fun z hj => nomatch hj)
  rw [List.nil_append] at q1
  have rl : (rng 0 (rs.length : Int)).length = rs.length := by unfold rng; simp
  rw [rl] at q1
  exact ⟨made, q2, q1.1, q1.2.1, q1.2.2.1, q1.2.2.2⟩
theorem mem_rng' {n : Nat} {x : Int} (h : x ∈ rng 0 (n : Int)) : 0 ≤ x := by
  unfold rng at h
  obtain ⟨j, _, rfl⟩ := List.mem_map.mp h
  omega
/-- the rows of a script: a works that is not stuck -/
theorem rows_is (ns : List Int) (a m most crs p : Int) (ha : 0 ≤ a) (h2 : 2 ≤ m) (h8 : m ≤ 12) (hm : 1 ≤ most) (hm2 : most ≤ 20) (p1 : 2 ≤ p) (p2 : p ≤ 9) : ∃ rs, m_law_rows ⟨ns⟩ a m most crs = .ok rs ∧ Fr p rs ∧ (rs.length : Int) = m ∧ ∀ o ∈ ops rs, o ≤ 20 := by
  unfold m_law_rows
  simp only [M.ok_bind, Mw.bind_assoc]
  rw [rng1M_ok (by omega)]
  simp only [M.ok_bind]
  obtain ⟨n, hn⟩ : ∃ n : Nat, m - 1 = n := ⟨(m - 1).toNat, by omega⟩
  rw [hn]
  have lp : ∃ s, ((s.length : Int) = m - 1 ∧ (∀ r ∈ s, GR m r) ∧ ∀ o ∈ ops s, o ≤ 20) ∧ ∀ k : List Row → M (List Row), forM (m_law_rows_b1 ⟨ns⟩ a m most crs) k (rng 0 (n : Int)) [] = k s := by
    have st : ∀ x s, 0 ≤ x → s.length ≤ 1000 → (∀ r ∈ s, GR m r) → ∃ r, m_law_rows_b1 ⟨ns⟩ a m most crs x s = .ok (.nx (s ++ [r])) ∧ GR m r ∧ ∀ o ∈ ops [r], o ≤ 20 := fun x s hx hl hs => by
      obtain ⟨c, ec, _⟩ := cell_ok ns (a + x) (by omega)
      obtain ⟨r, er, gr, og⟩ := wrow_ok c m most (by omega) hm hm2
      unfold m_law_rows_b1
      simp only [M.ok_bind, Mw.bind_assoc, ec, er, ne_ok]
      have cond : ∃ b, (Mw.andM ((ixM r.cs 0).bind fun y => M.ok (decide (y = Cl.w (wd (Str.ofString "crush"))))) ((lcM (fun y : Row => (ixM y.cs 0).bind fun z => M.ok (decide (z = Cl.w (wd (Str.ofString "crush"))))) (fun y : Row => M.ok y) s).bind fun y => M.ok (decide (crs ≤ (y.length : Int))))) = .ok b ∧ (b = true → ∃ t, r = ⟨[cC, .i t]⟩) := by
        have ls : ∃ y, lcM (fun y : Row => (ixM y.cs 0).bind fun z => M.ok (decide (z = Cl.w (wd (Str.ofString "crush"))))) (fun y : Row => M.ok y) s = .ok y := by
          rw [lcM_congr (c' := fun r : Row => .ok (decide (r.cs.head? = some cC))) (e' := fun r => .ok r) (fun r hr => ?_) (fun _ _ _ => rfl), lcM_ok (fun r : Row => decide (r.cs.head? = some cC)) (fun r => r) (by omega)]
          · exact ⟨_, rfl⟩
          · cases hs r hr with
            | mesh o a b => simp only [ix0, M.ok_bind, List.head?_cons, Option.some.injEq]; rfl
            | crush a => simp only [ix0, M.ok_bind, List.head?_cons]; rw [show decide (cC = Cl.w (wd (Str.ofString "crush"))) = true from decide_eq_true rfl]; simp
            | bin b => simp only [ix0, M.ok_bind, List.head?_cons, Option.some.injEq]; rfl
        obtain ⟨y, ey⟩ := ls
        rw [ey]
        simp only [M.ok_bind]
        cases gr with
        | mesh o a b => simp only [ix0, M.ok_bind]; rw [show decide (cM = Cl.w (wd (Str.ofString "crush"))) = false from mc, andM_f]; exact ⟨false, rfl, fun z => nomatch z⟩
        | crush a => simp only [ix0, M.ok_bind]; rw [show decide (cC = Cl.w (wd (Str.ofString "crush"))) = true from decide_eq_true rfl, andM_t]; exact ⟨_, rfl, fun _ => ⟨a, rfl⟩⟩
        | bin b => simp only [ix0, M.ok_bind]; rw [show decide (cB = Cl.w (wd (Str.ofString "crush"))) = false from bc, andM_f]; exact ⟨false, rfl, fun z => nomatch z⟩
      obtain ⟨b, eb, hb⟩ := cond
      rw [eb]
      simp only [M.ok_bind]
      cases b with
      | true =>
        obtain ⟨t, rfl⟩ := hb rfl
        rw [if_pos rfl]
        simp only [ix1, M.ok_bind, clI]
        rw [modM_ok (by decide)]
        simp only [M.ok_bind]
        rw [chk_pos (by simp)]
        simp only [M.ok_bind]
        rw [appM_ok (by omega)]
        exact ⟨_, rfl, .bin _ (by omega) (by omega), fun o ho => nomatch ho⟩
      | false =>
        rw [if_neg (by decide)]
        simp only [M.ok_bind]
        rw [appM_ok (by omega)]
        exact ⟨_, rfl, gr, og⟩
    have all : ∀ (k : List Row → M (List Row)), ∃ s, ((s.length : Int) = m - 1 ∧ (∀ r ∈ s, GR m r) ∧ ∀ o ∈ ops s, o ≤ 20) ∧ forM (m_law_rows_b1 ⟨ns⟩ a m most crs) k (rng 0 (n : Int)) [] = k s := fun k => by
      obtain ⟨s, q1, q2⟩ := forM_ex (f := m_law_rows_b1 ⟨ns⟩ a m most crs) (k := k) (fun pre (s : List Row) => s.length = pre.length ∧ (∀ r ∈ s, GR m r) ∧ ∀ o ∈ ops s, o ≤ 20) (rng 0 (n : Int)) [] [] ⟨rfl, (fun _ z => nomatch z), fun _ z => nomatch z⟩ (fun p x s hp hJ => by
        obtain ⟨ex, hx⟩ := rng_pre hp
        obtain ⟨r, e, gr, og⟩ := st x s (by omega) (by omega) hJ.2.1
        refine ⟨_, e, by simp [hJ.1], fun y hy => ?_, fun o h => ?_⟩
        · rcases List.mem_append.mp hy with w | w
          · exact hJ.2.1 y w
          · rw [List.mem_singleton.mp w]; exact gr
        · rw [show ops (s ++ [r]) = ops s ++ ops [r] from List.filterMap_append] at h
          rcases List.mem_append.mp h with w | w
          · exact hJ.2.2 o w
          · exact og o w)
      rw [List.nil_append] at q1
      have rl : (rng 0 (n : Int)).length = n := by unfold rng; simp
      rw [rl] at q1
      exact ⟨s, ⟨by omega, q1.2⟩, q2⟩
    -- the same state for each rest: by the run that tells it
    obtain ⟨s, h, e⟩ := all M.ok
    refine ⟨s, h, fun k => ?_⟩
    obtain ⟨s', _, e'⟩ := all k
    obtain ⟨s2, _, e2⟩ := all M.ok
    have same : ∀ (xs : List Int) (s0 : List Row), (∀ x ∈ xs, 0 ≤ x) → s0.length + xs.length ≤ 1000 → (∀ r ∈ s0, GR m r) → ∀ k : List Row → M (List Row), ∃ s1, forM (m_law_rows_b1 ⟨ns⟩ a m most crs) M.ok xs s0 = .ok s1 ∧ forM (m_law_rows_b1 ⟨ns⟩ a m most crs) k xs s0 = k s1 := fun xs => by
      induction xs with
      | nil => intro s0 _ _ _ k; exact ⟨s0, rfl, rfl⟩
      | cons x r ih =>
        intro s0 hx hl hg k
        obtain ⟨r', e, gr, _⟩ := st x s0 (hx x List.mem_cons_self) (by omega) hg
        rw [forM_cons, forM_cons, e]
        exact ih (s0 ++ [r']) (fun y hy => hx y (List.mem_cons_of_mem _ hy)) (by simp at hl ⊢; omega) (fun y hy => by
          rcases List.mem_append.mp hy with w | w
          · exact hg y w
          · rw [List.mem_singleton.mp w]; exact gr) k
    obtain ⟨s1, a1, a2⟩ := same (rng 0 (n : Int)) [] (fun x hx => (mem_rng' hx)) (by
      have rl : (rng 0 (n : Int)).length = n := by unfold rng; simp
      rw [rl]; simp; omega) (fun _ z => nomatch z) k
    rw [e] at a1
    cases a1
    exact a2
  obtain ⟨s, ⟨sl, sg, so⟩, es⟩ := lp
  rw [es]
  obtain ⟨c, ec, _⟩ := cell_ok ns (a + m - 1) (by omega)
  simp only [M.ok_bind, Mw.bind_assoc, ec, ne_ok]
  rw [modM_ok (by decide)]
  simp only [M.ok_bind]
  rw [chk_pos (by simp)]
  simp only [M.ok_bind]
  rw [appM_ok (by omega)]
  simp only [M.ok_bind]
  have len : ((s ++ [(⟨[cB, .i (c % 6)]⟩ : Row)]).length : Int) = m := by rw [List.length_append, List.length_singleton]; omega
  have gg : ∀ r ∈ s ++ [(⟨[cB, .i (c % 6)]⟩ : Row)], GR ((s ++ [(⟨[cB, .i (c % 6)]⟩ : Row)]).length : Int) r := fun r hr => by
    rw [len]
    rcases List.mem_append.mp hr with w | w
    · exact sg r w
    · rw [List.mem_singleton.mp w]; exact .bin _ (by omega) (by omega)
  have oo : ∀ o ∈ ops (s ++ [(⟨[cB, .i (c % 6)]⟩ : Row)]), o ≤ 20 := fun o h => by
    rw [show ops (s ++ [(⟨[cB, .i (c % 6)]⟩ : Row)]) = ops s ++ ops [(⟨[cB, .i (c % 6)]⟩ : Row)] from List.filterMap_append] at h
    rcases List.mem_append.mp h with w | w
    · exact so o w
    · exact nomatch w
  have lastR : (s ++ [(⟨[cB, .i (c % 6)]⟩ : Row)]).getD ((s ++ [(⟨[cB, .i (c % 6)]⟩ : Row)]).length - 1) dR = ⟨[cB, .i (c % 6)]⟩ := by
    rw [List.length_append, List.length_singleton, List.getD_eq_getElem?_getD]
    simp
  show ∃ rs, ((m_law_stuck (s ++ [(⟨[cB, .i (c % 6)]⟩ : Row)])).ne.bind fun b => if b = true then (m_law_forward (s ++ [(⟨[cB, .i (c % 6)]⟩ : Row)])).ne else M.ok (s ++ [(⟨[cB, .i (c % 6)]⟩ : Row)])) = .ok rs ∧ _
  generalize s ++ [(⟨[cB, .i (c % 6)]⟩ : Row)] = R at len gg lastR oo
  obtain ⟨b, eb, hb⟩ := stuck_is gg (by omega)
  rw [eb]
  simp only [M.ok_bind, ne_ok]
  cases b with
  | false =>
    rw [if_neg (by decide)]
    exact ⟨R, rfl, ⟨p1, p2, by omega, gg, fun s' i h1 h0 hi => free_all gg (hb rfl) h1 h0 hi⟩, len, oo⟩
  | true =>
    rw [if_pos rfl]
    obtain ⟨made, em, ml, mg, mf, mo⟩ := forward_is gg (by omega) (by omega) ⟨c % 6, by omega, by omega, lastR⟩
    rw [em]
    refine ⟨made, rfl, ⟨p1, p2, by omega, fun r hr => by rw [ml]; exact mg r hr, fun s' i h1 h0 hi => ?_⟩, by omega, fun o h => oo o (mo o h)⟩
    refine ed_fwd (n := made.length) (fun i j i0 i1 hj => ?_) made.length (made.length + 1) i h0 hi (by omega) (by omega)
    have := mf s' i.toNat j (by omega) hj
    omega
section
variable {p : Int} {rs : List Row} {number B : Int}
theorem bin_ne {o : Int} {c : Cl} {a : Int} (h : decide (c = cB) = false) : ¬ ((⟨[c, .i a]⟩ : Row) = ⟨[cB, .i o]⟩) := fun z => by
  have : c = cB := by injection z with z; injection z
  rw [decide_eq_true this] at h
  cases h
theorem Fr.V_step (F : Fr p rs) {i j s : Int} (hx : domW rs B ⟨i, s⟩) (hs : 1 ≤ s) (h : fn rs s i = some j) : VW p rs number ⟨i, s⟩ = VW p rs number ⟨j, s⟩ := by
  have gr := F.gr _ (ixR rs i hx.1.1 hx.1.2).2
  rw [F.V_eq hx]
  unfold sucW ownW
  unfold fn at h
  dsimp only
  rw [if_pos (by omega : 0 < s)]
  generalize rs.getD i.toNat dR = r at gr h
  cases gr with
  | mesh o a b =>
    rw [nx_mesh] at h
    cases h
    rw [if_neg (fun z => by have := congrArg (fun r : Row => r.cs.length) z; simp at this)]
    show 0 + (List.map _ [T3.mk (if s ≤ o then a else b) s 1]).sum = _
    simp [kp3]
  | crush a =>
    rw [nx_crush] at h
    split at h
    · rename_i c
      cases h
      subst c
      rw [if_neg (bin_ne cb), sR_crush, pcs_one F.p1]
      simp [kp3]
    · cases h
  | bin b => rw [nx_bin] at h; cases h
theorem Fr.V_end (F : Fr p rs) {s : Int} (hs : 1 ≤ s) (h40 : s ≤ B) : ∀ (k : Nat) (i e : Int), 0 ≤ i → i < rs.length → ed (fn rs s) k i = some e → VW p rs number ⟨i, s⟩ = VW p rs number ⟨e, s⟩
  | 0, _, _, _, _, h => by cases h
  | k + 1, i, e, h0, h1, h => by
    cases c : fn rs s i with
    | none => rw [(ed_succ_none c).1] at h; cases h; rfl
    | some j =>
      rw [(ed_succ_some c).1] at h
      have q := fn_rg F.gr h0 h1 c
      rw [F.V_step ⟨⟨h0, h1⟩, by show 0 ≤ s; omega, h40⟩ hs c]
      exact F.V_end hs h40 k j e q.1 q.2 h
def lineW (p : Int) (rs : List Row) (number s : Int) : List Int := (rng 0 (rs.length : Int)).map fun r => VW p rs number ⟨r, s⟩
theorem rng_at {n : Nat} {a : Int} (h0 : 0 ≤ a) (h1 : a < n) : (rng 0 (n : Int))[a.toNat]? = some a := by
  have := rng_get 0 (n : Int) a.toNat (by omega)
  rw [this]
  congr 1
  omega
theorem line_at {s a : Int} (h0 : 0 ≤ a) (h1 : a < rs.length) : ixM (lineW p rs number s) a = .ok (VW p rs number ⟨a, s⟩) := by
  have : (lineW p rs number s)[a.toNat]? = some (VW p rs number ⟨a, s⟩) := by
    unfold lineW
    rw [List.getElem?_map, rng_at h0 h1]
    rfl
  have e := ixM_of this
  rw [Int.toNat_of_nonneg h0] at e
  exact e
end
/-! #### the sizes that come of one, and how deep -/
section
variable {p : Int} {rs : List Row} {s0 : Int}
def lg (b : Int) : Nat := if 2 ≤ b then Nat.log2 (b - 1).toNat + 1 else 0
theorem lg_half {b q : Int} (hb : 2 ≤ b) (hq : 1 ≤ q) (h : 2 * (q - 1) ≤ b - 1) : lg q < lg b ∨ (q = 1 ∧ lg q = 0 ∧ 1 ≤ lg b) := by
  unfold lg
  rw [if_pos hb]
  by_cases c : 2 ≤ q
  · left
    rw [if_pos c]
    have h1 : (q - 1).toNat ≠ 0 := by omega
    have h2 : (q - 1).toNat * 2 ≤ (b - 1).toNat := by omega
    have l1 := Nat.log2_self_le h1
    have : Nat.log2 (q - 1).toNat + 1 ≤ Nat.log2 (b - 1).toNat := (Nat.le_log2 (by omega)).mpr (by rw [Nat.pow_succ]; omega)
    omega
  · right
    rw [if_neg c]
    exact ⟨by omega, rfl, by omega⟩
def dpW (rs : List Row) (x : Kp) : Nat := if 0 < x.b then 14 * lg x.b + dst (fn rs x.b) (rs.length + 1) x.a + 1 else 0
theorem pcs_half {s p : Int} (hs : 2 ≤ s) (hp : 2 ≤ p) : ∀ q ∈ pcs s p, 2 * (q.1 - 1) ≤ s - 1 := fun q hq => by
  have r0 := Int.emod_nonneg s (show p ≠ 0 by omega)
  have eq := Int.emod_add_mul_ediv s p
  have q0 : 0 ≤ s / p := Int.ediv_nonneg (by omega) (by omega)
  have d1 : 2 * (s / p) ≤ p * (s / p) := Int.mul_le_mul_of_nonneg_right hp q0
  unfold pcs at hq
  rcases List.mem_append.mp hq with h | h
  · split at h
    · rw [List.mem_singleton.mp h]; dsimp only; omega
    · cases h
  · split at h
    · rw [List.mem_singleton.mp h]; dsimp only; omega
    · cases h
/-- a part is less deep -/
theorem Fr.dp_lt (F : Fr p rs) {B : Int} {x : Kp} (hx : domW rs B x) : ∀ t ∈ sucW p rs x, dpW rs (kp3 t) < dpW rs x := fun t ht => by
  have n := F.next hx t ht
  have nl := F.n
  rcases F.kinds hx with ⟨e, _⟩ | ⟨h1, _, ⟨j, e, d⟩ | ⟨h2, a, a0, a1, _, e⟩⟩
  · rw [e] at ht; cases ht
  · rw [e] at ht
    rw [List.mem_singleton.mp ht]
    unfold dpW kp3
    dsimp only
    rw [if_pos (by omega), if_pos (by omega)]
    omega
  · rw [e] at ht
    obtain ⟨q, hq, rfl⟩ := List.mem_map.mp ht
    have l := pcs_lt h2 F.p1 q hq
    have hf := pcs_half h2 F.p1 q hq
    have dl := F.dst_le (s := q.1) (by omega) a0 a1
    unfold dpW kp3
    dsimp only
    rw [if_pos (by omega : 0 < q.1), if_pos (by omega : 0 < x.b)]
    rcases lg_half h2 (by omega) hf with z | ⟨_, z, z'⟩ <;> omega
theorem Fr.dp_le (F : Fr p rs) {x : Kp} (hx : domW rs (10 ^ 60) x) : dpW rs x ≤ 3000 := by
  unfold dpW
  split
  · rename_i h
    have d := F.dst_le (s := x.b) (by omega) hx.1.1 hx.1.2
    have n := F.n
    have l : lg x.b ≤ 200 := by
      unfold lg
      split
      · have : Nat.log2 (x.b - 1).toNat < 200 := by
          refine (Nat.log2_lt (by omega)).mpr ?_
          have h1 : x.b ≤ 10 ^ 60 := hx.2.2
          have e : ((10 : Int) ^ 60) = ((10 ^ 60 : Nat) : Int) := by decide +kernel
          rw [e] at h1
          have e2 : (10 : Nat) ^ 60 < 2 ^ 200 := by decide +kernel
          omega
        omega
      · omega
    omega
  · omega
end
/-! #### the sizes in a grain's way -/
def fl (p s0 : Int) : Nat → Int
  | 0 => s0
  | k + 1 => fl p s0 k / p
theorem fl_bd {p s0 : Int} (hp : 2 ≤ p) (h0 : 0 ≤ s0) : ∀ k, 0 ≤ fl p s0 k ∧ fl p s0 k * (2 : Int) ^ k ≤ s0
  | 0 => ⟨h0, by show s0 * 2 ^ 0 ≤ s0; simp⟩
  | k + 1 => by
    obtain ⟨a, b⟩ := fl_bd hp h0 k
    have q0 : 0 ≤ fl p s0 k / p := Int.ediv_nonneg a (by omega)
    have d1 : 2 * (fl p s0 k / p) ≤ p * (fl p s0 k / p) := Int.mul_le_mul_of_nonneg_right hp q0
    have r0 := Int.emod_nonneg (fl p s0 k) (show p ≠ 0 by omega)
    have eq := Int.emod_add_mul_ediv (fl p s0 k) p
    refine ⟨q0, ?_⟩
    show fl p s0 k / p * (2 : Int) ^ (k + 1) ≤ s0
    have pw : (0 : Int) ≤ 2 ^ k := Int.pow_nonneg (by decide)
    have : (2 * (fl p s0 k / p)) * (2 : Int) ^ k ≤ fl p s0 k * 2 ^ k := Int.mul_le_mul_of_nonneg_right (by omega) pw
    have e : fl p s0 k / p * (2 : Int) ^ (k + 1) = (2 * (fl p s0 k / p)) * (2 : Int) ^ k := by
      rw [Int.pow_succ, Int.mul_comm ((2 : Int) ^ k) 2, ← Int.mul_assoc, Int.mul_comm (fl p s0 k / p) 2]
    rw [e]
    omega
theorem fl_last {p s0 : Int} (hp : 2 ≤ p) (h0 : 0 ≤ s0) (h : s0 ≤ 10 ^ 60) : fl p s0 200 = 0 := by
  obtain ⟨a, b⟩ := fl_bd hp h0 200
  by_cases c : 1 ≤ fl p s0 200
  · exfalso
    have pw : (0 : Int) ≤ 2 ^ 200 := by decide +kernel
    have : 1 * (2 : Int) ^ 200 ≤ fl p s0 200 * 2 ^ 200 := Int.mul_le_mul_of_nonneg_right c pw
    have big : (10 : Int) ^ 60 < 2 ^ 200 := by decide +kernel
    omega
  · omega
/-- pieces of one of a level's sizes are sizes of the next -/
theorem fl_piece {p f q : Int} (hp : 2 ≤ p) (hf : 0 ≤ f) (hq : q = f ∨ q = f + 1) : ∀ c ∈ pcs q p, c.1 = f / p ∨ c.1 = f / p + 1 := fun c hc => by
  have r0 := Int.emod_nonneg f (show p ≠ 0 by omega)
  have r1 := Int.emod_lt_of_pos f (show 0 < p by omega)
  have eq := Int.emod_add_mul_ediv f p
  have key : q / p = f / p ∨ (q / p = f / p + 1 ∧ q % p = 0) := by
    rcases hq with rfl | rfl
    · exact .inl rfl
    · by_cases z : f % p + 1 < p
      · left
        have : f + 1 = (f % p + 1) + p * (f / p) := by omega
        rw [this, Int.add_mul_ediv_left _ _ (by omega), Int.ediv_eq_zero_of_lt (by omega) z]
        omega
      · right
        have : f + 1 = p * (f / p + 1) := by rw [Int.mul_add, Int.mul_one]; omega
        rw [this]
        exact ⟨Int.mul_ediv_cancel_left _ (by omega), Int.mul_emod_right _ _⟩
  unfold pcs at hc
  rcases List.mem_append.mp hc with h | h
  · split at h
    · rw [List.mem_singleton.mp h]
      dsimp only
      rcases key with k | ⟨k, _⟩
      · exact .inl k
      · exact .inr k
    · cases h
  · split at h
    · rename_i hr
      rw [List.mem_singleton.mp h]
      dsimp only
      rcases key with k | ⟨_, k⟩
      · right; rw [k]
      · omega
    · cases h
/-! #### far sizes -/
theorem Dfs.sub {w : Wk} {number : Int} {dom dom' : Kp → Prop} {suc : Kp → List (T3 Int Int Int)} {own V : Kp → Int} {C : Kp → Nat} (D : Dfs w number dom suc own V C) (h : ∀ x, dom' x → dom x) (c : ∀ x, dom' x → ∀ t ∈ suc x, dom' (kp3 t)) : Dfs w number dom' suc own V C :=
  ⟨fun x hx => D.go x (h x hx), fun x hx => D.ow x (h x hx), fun x hx => D.val x (h x hx), c, fun x hx => D.sm x (h x hx), fun x hx => D.cost x (h x hx), fun x hx => D.two x (h x hx)⟩
def lvl (p s0 b : Int) : Prop := b = 0 ∨ ∃ k : Nat, k ≤ 200 ∧ (b = fl p s0 k ∨ b = fl p s0 k + 1)
def domF (p : Int) (rs : List Row) (s0 : Int) (x : Kp) : Prop := domW rs (10 ^ 60) x ∧ lvl p s0 x.b
def usF (p : Int) (rs : List Row) (s0 : Int) : List Kp := (rng 0 (rs.length : Int)).flatMap fun a => (0 :: (List.range 201).flatMap fun k => [fl p s0 k, fl p s0 k + 1]).map fun b => ⟨a, b⟩
theorem len_flat {α β : Type} (f : α → List β) (c : Nat) : ∀ l : List α, (∀ x ∈ l, (f x).length = c) → (l.flatMap f).length = l.length * c
  | [], _ => by simp
  | x :: r, h => by
    rw [List.flatMap_cons, List.length_append, h x List.mem_cons_self, len_flat f c r fun y hy => h y (List.mem_cons_of_mem _ hy), List.length_cons, Nat.add_mul, Nat.one_mul, Nat.add_comm]
section
variable {p : Int} {rs : List Row} {number B : Int}
theorem Fr.closed (F : Fr p rs) {s0 : Int} (h0 : 0 ≤ s0) (hs : s0 ≤ 10 ^ 60) {x : Kp} (hx : domF p rs s0 x) : ∀ t ∈ sucW p rs x, domF p rs s0 (kp3 t) := fun t ht => by
  refine ⟨(F.next hx.1 t ht).1, ?_⟩
  rcases F.kinds hx.1 with ⟨e, _⟩ | ⟨h1, _, ⟨j, e, _⟩ | ⟨h2, a, _, _, _, e⟩⟩
  · rw [e] at ht; cases ht
  · rw [e] at ht
    rw [List.mem_singleton.mp ht]
    exact hx.2
  · rw [e] at ht
    obtain ⟨q, hq, rfl⟩ := List.mem_map.mp ht
    rcases hx.2 with z | ⟨k, hk, hb⟩
    · omega
    · have l := fl_piece F.p1 (fl_bd F.p1 h0 k).1 hb q hq
      have : k < 200 := by
        by_cases c : k < 200
        · exact c
        · have e2 : k = 200 := by omega
          subst e2
          have := fl_last F.p1 h0 hs
          omega
      exact .inr ⟨k + 1, by omega, l⟩
theorem usF_mem {s0 : Int} {x : Kp} (hx : domF p rs s0 x) : x ∈ usF p rs s0 := by
  unfold usF
  refine List.mem_flatMap.mpr ⟨x.a, ?_, List.mem_map.mpr ⟨x.b, ?_, rfl⟩⟩
  · have := hx.1.1
    unfold rng
    exact List.mem_map.mpr ⟨x.a.toNat, List.mem_range.mpr (by omega), by omega⟩
  · rcases hx.2 with z | ⟨k, hk, hb⟩
    · rw [z]; exact List.mem_cons_self
    · refine List.mem_cons_of_mem _ (List.mem_flatMap.mpr ⟨k, List.mem_range.mpr (by omega), ?_⟩)
      rcases hb with z | z <;> rw [z] <;> simp
theorem usF_len (F : Fr p rs) (s0 : Int) : (usF p rs s0).length ≤ 200000 := by
  unfold usF
  rw [len_flat _ 403]
  · have : (rng 0 (rs.length : Int)).length = rs.length := by unfold rng; simp
    rw [this]
    have := F.n
    omega
  · intro a _
    rw [List.length_map, List.length_cons, len_flat _ 2 _ fun _ _ => rfl, List.length_range]
theorem Fr.weight_far (F : Fr p rs) (number : Int) {row size : Int} (hx : domW rs (10 ^ 60) ⟨row, size⟩) : m_weight_in ⟨p, rs⟩ row size number = .ok (VW p rs number ⟨row, size⟩) := by
  have I := (F.inst (B := 10 ^ 60) (Int.le_refl _) number).sub (dom' := domF p rs size) (fun x h => h.1) fun x h => F.closed hx.2.1 hx.2.2 h
  refine I.weight2 (D := dpW rs) (Us := usF p rs size) (fun x h => F.dp_lt h.1) (fun x h => usF_mem h) (usF_len F size) row size ⟨hx, .inr ⟨0, by omega, .inl rfl⟩⟩ ⟨⟨hx.1, Int.le_refl _, by show (0 : Int) ≤ 10 ^ 60; decide +kernel⟩, .inl rfl⟩ (VW_zero F number hx.1.1 hx.1.2) ?_
  have := F.dp_le hx
  omega
theorem Fr.weights_far (F : Fr p rs) {row size : Int} (hx : domW rs (10 ^ 60) ⟨row, size⟩) : m_weights_from ⟨p, rs⟩ row size = .ok ((rng 0 6).map fun m => VW p rs m ⟨row, size⟩) := by
  unfold m_weights_from
  simp only [M.ok_bind, Mw.bind_assoc, ne_ok]
  rw [rng1M_ok (by decide)]
  simp only [M.ok_bind]
  rw [lcM_congr (c' := fun _ => .ok true) (e' := fun m => .ok (VW p rs m ⟨row, size⟩)) (fun _ _ => rfl) (fun m _ _ => by rw [F.weight_far m hx]; rfl), lcM_all _ (by decide)]
end
/-! #### the sizes in a size's way, as the law puts them together -/
theorem dlook_put {α : Type} (d : List (Int × α)) (k j : Int) (x : α) : dlook j (dput d k x) = if j = k then some x else dlook j d := by
  have anyk : ∀ d : List (Int × α), (d.any fun p => decide (p.1 = k)) = false → dlook k d = none := fun d => by
    induction d with
    | nil => intro _; rfl
    | cons p r ih =>
      intro h
      rw [List.any_cons, Bool.or_eq_false_iff] at h
      unfold dlook
      rw [List.find?_cons, h.1]
      exact ih h.2
  unfold dput
  split
  · rename_i h
    induction d with
    | nil => cases h
    | cons p r ih =>
      rw [List.map_cons]
      unfold dlook
      rw [List.find?_cons, List.find?_cons]
      by_cases c : p.1 = k
      · rw [if_pos c]
        dsimp only
        by_cases e : j = k
        · rw [if_pos e, e, decide_eq_true c]
          rfl
        · rw [if_neg e, decide_eq_false (fun z : p.1 = j => e (z.symm.trans c))]
          have : ∀ r : List (Int × α), (r.map fun p => if p.1 = k then (p.1, x) else p).find? (fun p => decide (p.1 = j)) = r.find? (fun p => decide (p.1 = j)) := fun r => by
            induction r with
            | nil => rfl
            | cons q s ih2 =>
              rw [List.map_cons, List.find?_cons, List.find?_cons, ih2]
              by_cases c2 : q.1 = k
              · rw [if_pos c2]
                dsimp only
                rw [decide_eq_false (fun z : q.1 = j => e (z.symm.trans c2))]
              · rw [if_neg c2]
          rw [this]
      · rw [if_neg c]
        rw [List.any_cons, decide_eq_false c, Bool.false_or] at h
        by_cases e : p.1 = j
        · rw [decide_eq_true e]
          dsimp only
          rw [if_neg (fun z => c (e.trans z))]
        · rw [decide_eq_false e]
          have := ih h
          unfold dlook at this
          exact this
  · rename_i h
    rw [Bool.not_eq_true] at h
    unfold dlook
    rw [List.find?_append]
    by_cases e : j = k
    · rw [if_pos e, e]
      have := anyk d h
      unfold dlook at this
      rw [Option.map_eq_none_iff] at this
      rw [this]
      simp
    · rw [if_neg e]
      cases hf : d.find? (fun p => decide (p.1 = j)) with
      | some v => simp
      | none =>
        simp only [Option.none_or, List.find?_cons]
        rw [decide_eq_false (fun z : k = j => e z.symm)]
        rfl
theorem dput_len {α : Type} (d : List (Int × α)) (k : Int) (x : α) : (dput d k x).length ≤ d.length + 1 := by
  unfold dput
  split
  · rw [List.length_map]; omega
  · simp
theorem dput_keys {α : Type} (d : List (Int × α)) (k : Int) (x : α) (j : Int) : j ∈ (dput d k x).map (·.1) ↔ j = k ∨ j ∈ d.map (·.1) := by
  unfold dput
  split
  · rename_i h
    have e : (d.map fun p => if p.1 = k then (p.1, x) else p).map (·.1) = d.map (·.1) := by
      rw [List.map_map]
      apply List.map_congr_left
      intro p _
      show (if p.1 = k then (p.1, x) else p).1 = p.1
      split <;> rfl
    rw [e]
    obtain ⟨p, hp, hk⟩ := List.any_eq_true.mp h
    have := of_decide_eq_true hk
    exact ⟨fun z => .inr z, fun z => z.elim (fun z => by rw [z, ← this]; exact List.mem_map.mpr ⟨p, hp, rfl⟩) id⟩
  · rw [List.map_append, List.mem_append]
    simp only [List.map_cons, List.map_nil, List.mem_singleton]
    exact Or.comm
theorem dmerge_keys {α : Type} (j : Int) : ∀ (more d : List (Int × α)), j ∈ (dmerge d more).map (·.1) ↔ j ∈ d.map (·.1) ∨ j ∈ more.map (·.1)
  | [], d => by simp [dmerge]
  | y :: r, d => by
    have := dmerge_keys j r (dput d y.1 y.2)
    have e : dmerge d (y :: r) = dmerge (dput d y.1 y.2) r := rfl
    rw [e, this, dput_keys, List.map_cons, List.mem_cons, or_assoc, or_left_comm]
theorem dmerge_len {α : Type} : ∀ (more d : List (Int × α)), (dmerge d more).length ≤ d.length + more.length
  | [], d => Nat.le_refl _
  | y :: r, d => by
    have := dmerge_len r (dput d y.1 y.2)
    have := dput_len d y.1 y.2
    have e : dmerge d (y :: r) = dmerge (dput d y.1 y.2) r := rfl
    rw [e, List.length_cons]
    omega
structure SZ (p s : Int) (st : Int × Int × List Int) : Prop where
  lo : 0 ≤ st.2.1
  hi : st.1 = st.2.1 ∨ st.1 = st.2.1 + 1
  ml : st.2.1 ∈ st.2.2
  mh : st.1 ∈ st.2.2
  ms : s ∈ st.2.2
  bd : ∀ x ∈ st.2.2, 0 ≤ x ∧ x ≤ s
  cl : ∀ x ∈ st.2.2, x = st.2.1 ∨ x = st.1 ∨ (x / p ∈ st.2.2 ∧ (0 < x % p → x / p + 1 ∈ st.2.2))
theorem div_next {p a : Int} (hp : 2 ≤ p) : ((a + 1) / p = a / p ∧ (a + 1) % p = a % p + 1) ∨ ((a + 1) / p = a / p + 1 ∧ (a + 1) % p = 0) := by
  have r0 := Int.emod_nonneg a (show p ≠ 0 by omega)
  have r1 := Int.emod_lt_of_pos a (show 0 < p by omega)
  have eq := Int.emod_add_mul_ediv a p
  by_cases z : a % p + 1 < p
  · left
    have : a + 1 = (a % p + 1) + p * (a / p) := by omega
    rw [this, Int.add_mul_ediv_left _ _ (by omega), Int.ediv_eq_zero_of_lt (by omega) z, Int.add_mul_emod_self_left, Int.emod_eq_of_lt (by omega) z]
    exact ⟨by omega, by omega⟩
  · right
    have : a + 1 = p * (a / p + 1) := by rw [Int.mul_add, Int.mul_one]; omega
    rw [this]
    exact ⟨Int.mul_ediv_cancel_left _ (by omega), Int.mul_emod_right _ _⟩
section
variable {p s : Int}
theorem SZ.step (p1 : 2 ≤ p) (p2 : p ≤ 9) {st : Int × Int × List Int} (h : SZ p s st) (hl : 1 < st.2.1) (len : st.2.2.length ≤ 1000) :
    m_law_sizes_b1 p st = .ok (.nx (st.1 / p + (if 0 < st.1 % p then 1 else 0), st.2.1 / p, [st.2.1 / p, st.1 / p + (if 0 < st.1 % p then 1 else 0)] ++ st.2.2)) ∧ SZ p s (st.1 / p + (if 0 < st.1 % p then 1 else 0), st.2.1 / p, [st.2.1 / p, st.1 / p + (if 0 < st.1 % p then 1 else 0)] ++ st.2.2) := by
  obtain ⟨hg, lo, sz⟩ := st
  obtain ⟨h1, h2, h3, h4, h5, h6, h7⟩ := h
  dsimp only at *
  have pn : p.natAbs < 2 ^ 8000 := Nat.lt_of_le_of_lt (show p.natAbs ≤ 9 by omega) (by decide +kernel)
  have r0 := Int.emod_nonneg lo (show p ≠ 0 by omega)
  have r1 := Int.emod_lt_of_pos lo (show 0 < p by omega)
  have eq := Int.emod_add_mul_ediv lo p
  have q0 : 0 ≤ lo / p := Int.ediv_nonneg h1 (by omega)
  have d1 : 2 * (lo / p) ≤ p * (lo / p) := Int.mul_le_mul_of_nonneg_right p1 q0
  have nx := div_next (p := p) (a := lo) p1
  have ls := (h6 lo h3).2
  -- the next upper one
  have up : (hg / p + (if 0 < hg % p then 1 else 0) = lo / p ∨ hg / p + (if 0 < hg % p then 1 else 0) = lo / p + 1) ∧ (hg = lo → 0 < lo % p → hg / p + (if 0 < hg % p then 1 else 0) = lo / p + 1) ∧ (hg = lo + 1 → hg / p + (if 0 < hg % p then 1 else 0) = lo / p + 1) := by
    rcases h2 with e | e
    · subst e
      refine ⟨?_, fun _ z => by rw [if_pos z], fun z => by omega⟩
      split
      · right; rfl
      · left; omega
    · subst e
      have : (lo + 1) / p + (if 0 < (lo + 1) % p then 1 else 0) = lo / p + 1 := by
        rcases nx with ⟨a, b⟩ | ⟨a, b⟩
        · rw [a, b, if_pos (by omega)]
        · rw [a, b, if_neg (by omega)]; omega
      exact ⟨.inr this, fun z => by omega, fun _ => this⟩
  refine ⟨?_, ?_⟩
  · unfold m_law_sizes_b1
    simp only [M.ok_bind, Mw.bind_assoc]
    rw [fdivM_ok (by omega) pn, modM_ok (by omega), fdivM_ok (by omega) pn]
    simp only [M.ok_bind]
    rw [catM_ok (by simp; omega)]
    simp only [M.ok_bind, decide_eq_true_eq]
  · generalize hg / p + (if 0 < hg % p then 1 else 0) = hn at up
    obtain ⟨u1, u2, u3⟩ := up
    refine ⟨q0, u1, by simp, by simp, List.mem_append_right _ h5, fun x hx => ?_, fun x hx => ?_⟩
    · rcases List.mem_append.mp hx with z | z
      · simp only [List.mem_cons, List.not_mem_nil, or_false] at z
        rcases z with z | z
        · rw [z]; omega
        · rw [z]; omega
      · exact h6 x z
    · rcases List.mem_append.mp hx with z | z
      · simp only [List.mem_cons, List.not_mem_nil, or_false] at z
        rcases z with z | z
        · exact .inl z
        · exact .inr (.inl z)
      · right; right
        have L : lo / p ∈ [lo / p, hn] ++ sz := by simp
        have Hn : hn ∈ [lo / p, hn] ++ sz := by simp
        have cL : lo / p ∈ [lo / p, hn] ++ sz ∧ (0 < lo % p → lo / p + 1 ∈ [lo / p, hn] ++ sz) := ⟨L, fun z => by
          have : hn = lo / p + 1 := by
            rcases h2 with e | e
            · exact u2 e z
            · exact u3 e
          rw [← this]; exact Hn⟩
        rcases h7 x z with e | e | e
        · rw [e]; exact cL
        · rcases h2 with f | f
          · rw [e, f]; exact cL
          · have hn1 := u3 f
            rw [e, f]
            rcases nx with ⟨a, b⟩ | ⟨a, b⟩
            · rw [a]
              exact ⟨L, fun _ => by rw [← hn1]; exact Hn⟩
            · rw [a, b, ← hn1]
              exact ⟨Hn, fun z => by omega⟩
        · exact ⟨List.mem_append_right _ e.1, fun z => List.mem_append_right _ (e.2 z)⟩
theorem sizes_go (p1 : 2 ≤ p) (p2 : p ≤ 9) : ∀ (n f : Nat) (st : Int × Int × List Int), SZ p s st → st.2.1 < (2 : Int) ^ n → st.2.2.length + 2 * n ≤ 1000 → n < f →
    ∃ st', SZ p s st' ∧ st'.2.1 ≤ 1 ∧ st'.2.2.length ≤ 1000 ∧ ∀ k : Int × Int × List Int → M (List Int), whM m_law_sizes_c1 (m_law_sizes_b1 p) k f st = k st'
  | n, f, st, h, hn, hl, hf => by
    obtain ⟨f, rfl⟩ : ∃ g, f = g + 1 := ⟨f - 1, by omega⟩
    by_cases c : 1 < st.2.1
    · obtain ⟨e, h'⟩ := h.step p1 p2 c (by omega)
      cases n with
      | zero =>
        exfalso
        rw [Int.pow_zero] at hn
        omega
      | succ n =>
        have q0 : 0 ≤ st.2.1 / p := Int.ediv_nonneg h.lo (by omega)
        have r0 := Int.emod_nonneg st.2.1 (show p ≠ 0 by omega)
        have eq := Int.emod_add_mul_ediv st.2.1 p
        have d1 : 2 * (st.2.1 / p) ≤ p * (st.2.1 / p) := Int.mul_le_mul_of_nonneg_right p1 q0
        rw [Int.pow_succ] at hn
        obtain ⟨st', a1, a2, a3, a4⟩ := sizes_go p1 p2 n f _ h' (by show st.2.1 / p < 2 ^ n; omega) (by simp; omega) (by omega)
        refine ⟨st', a1, a2, a3, fun k => ?_⟩
        rw [← a4 k]
        show (m_law_sizes_c1 st).bind _ = _
        rw [show m_law_sizes_c1 st = .ok true by unfold m_law_sizes_c1; rw [decide_eq_true c]]
        simp only [M.ok_bind, if_true]
        rw [e]
        rfl
    · refine ⟨st, h, by omega, by omega, fun k => ?_⟩
      show (m_law_sizes_c1 st).bind _ = _
      rw [show m_law_sizes_c1 st = .ok false by unfold m_law_sizes_c1; rw [decide_eq_false c]]
      simp only [M.ok_bind, if_neg (show ¬ (false = true) by decide)]
theorem sizes_is (p1 : 2 ≤ p) (p2 : p ≤ 9) (hs : 1 ≤ s) (hB : s ≤ 10 ^ 60) : ∃ L, m_law_sizes p s = .ok L ∧ L.Pairwise (· ≤ ·) ∧ s ∈ L ∧ (∀ x ∈ L, 1 ≤ x ∧ x ≤ s) ∧ L.length ≤ 1001 ∧ ∀ x ∈ L, 2 ≤ x → (x / p = 0 ∨ x / p ∈ L) ∧ (0 < x % p → x / p + 1 ∈ L) := by
  have h0 : SZ p s (s, s, [s]) := ⟨by show 0 ≤ s; omega, .inl rfl, by simp, by simp, by simp, fun x hx => by rw [List.mem_singleton.mp hx]; omega, fun x hx => .inl (List.mem_singleton.mp hx)⟩
  have big : (10 : Int) ^ 60 < 2 ^ 200 := by decide +kernel
  obtain ⟨st, a1, a2, a3, a4⟩ := sizes_go (s := s) p1 p2 200 FUEL (s, s, [s]) h0 (by show s < 2 ^ 200; omega) (by simp) (by unfold FUEL; omega)
  unfold m_law_sizes
  simp only [M.ok_bind, Mw.bind_assoc]
  rw [a4, catM_ok (by simp; omega)]
  simp only [M.ok_bind]
  rw [lcM_ok (fun x : Int => decide (0 < x)) (fun x => (x, (0 : Int))) (by simp; omega)]
  simp only [M.ok_bind]
  have key : ∀ x : Int, x ∈ sortI (List.map (·.1) (dmerge [] (List.map (fun x => (x, (0 : Int))) (List.filter (fun x => decide (0 < x)) (st.2.2 ++ [1]))))) ↔ 1 ≤ x ∧ (x ∈ st.2.2 ∨ x = 1) := fun x => by
    rw [(sortI_perm _).mem_iff, dmerge_keys, List.map_map]
    have e : ((fun x : Int × Int => x.1) ∘ fun x => (x, (0 : Int))) = id := rfl
    rw [e, List.map_id, List.mem_filter, List.mem_append, List.mem_singleton, decide_eq_true_eq]
    simp only [List.map_nil, List.not_mem_nil, false_or]
    constructor
    · rintro ⟨a, b⟩
      exact ⟨by omega, a⟩
    · rintro ⟨a, b⟩
      exact ⟨b, by omega⟩
  refine ⟨_, rfl, sortI_sorted _, (key s).mpr ⟨hs, .inl a1.ms⟩, fun x hx => ?_, ?_, fun x hx h2 => ?_⟩
  · have := (key x).mp hx
    refine ⟨this.1, ?_⟩
    rcases this.2 with z | z
    · exact (a1.bd x z).2
    · omega
  · rw [(sortI_perm _).length_eq, List.length_map]
    refine Nat.le_trans (dmerge_len _ _) ?_
    rw [List.length_map]
    have := List.length_filter_le (fun x : Int => decide (0 < x)) (st.2.2 ++ [1])
    rw [List.length_append, List.length_singleton] at this
    simp only [List.length_nil]
    omega
  · have := (key x).mp hx
    have q0 : 0 ≤ x / p := Int.ediv_nonneg (by omega) (by omega)
    have one := (key 1).mpr ⟨Int.le_refl _, .inr rfl⟩
    have cl := a1.cl x (by
      rcases this.2 with z | z
      · exact z
      · omega)
    have hi := a1.hi
    have two : x = 2 → (x / p = 0 ∨ x / p = 1) ∧ (0 < x % p → x / p = 0) := fun e => by
      subst e
      by_cases c : p = 2
      · subst c; exact ⟨.inr (by decide), fun z => absurd z (by decide)⟩
      · have : (2 : Int) / p = 0 := Int.ediv_eq_zero_of_lt (by omega) (by omega)
        exact ⟨.inl this, fun _ => this⟩
    rcases cl with e | e | e
    · omega
    · obtain ⟨b1, b2⟩ := two (by omega)
      refine ⟨b1.imp id fun z => by rw [z]; exact one, fun z => by rw [b2 z]; exact one⟩
    · refine ⟨?_, fun z => (key _).mpr ⟨by omega, .inl (e.2 z)⟩⟩
      by_cases c : x / p = 0
      · exact .inl c
      · exact .inr ((key _).mpr ⟨by omega, .inl e.1⟩)
end
section
variable {p : Int} {rs : List Row} {number : Int}
theorem Fr.laidD (F : Fr p rs) {tbl : Dc (List Int)} {row s : Int} (h0 : 0 ≤ row) (h1 : row < rs.length) (hs : 1 ≤ s) (hB : s ≤ 10 ^ 60) (T : 2 ≤ s → dlook (s / p) tbl.kvs = some (lineW p rs number (s / p)) ∧ (0 < s % p → dlook (s / p + 1) tbl.kvs = some (lineW p rs number (s / p + 1)))) : m_law_laid p rs row s number tbl = .ok (VW p rs number ⟨row, s⟩) := by
  have p1 := F.p1
  have p2 := F.p2
  unfold m_law_laid
  simp only [M.ok_bind, Mw.bind_assoc]
  rw [end_is F.gr (by have := F.n; omega) h0 h1]
  simp only [M.ok_bind, ne_ok]
  cases he : ed (fn rs s) (rs.length + 1) row with
  | none => have := F.ends s row hs h0 h1; rw [he] at this; cases this
  | some e =>
    have er := ed_rg (n := (rs.length : Int)) (fun i j i0 i1 hj => fn_rg F.gr i0 i1 hj) h0 h1 he
    rw [F.V_end hs hB _ _ _ h0 h1 he]
    have fe := ed_end he
    simp only [getM, M.ok_bind]
    rw [(ixR rs e er.1 er.2).1]
    simp only [M.ok_bind]
    have hx : domW rs (10 ^ 60) ⟨e, s⟩ := ⟨er, by show 0 ≤ s; omega, hB⟩
    have gr := F.gr _ (ixR rs e er.1 er.2).2
    rw [F.V_eq hx]
    unfold sucW ownW
    unfold fn at fe
    dsimp only
    rw [if_pos (by omega : 0 < s)]
    generalize rs.getD e.toNat dR = r at gr fe
    have sm : s.natAbs < 2 ^ 10000 := small_of s (by omega) (Int.le_trans hB (by decide +kernel))
    cases gr with
    | mesh o a b => rw [nx_mesh] at fe; cases fe
    | bin b =>
      simp only [ix0, ix1, M.ok_bind]
      rw [show decide (cB = Cl.w (wd (Str.ofString "bin"))) = true from decide_eq_true rfl, if_pos rfl, sR_bin, List.map_nil, List.sum_nil, Int.add_zero]
      by_cases c : b = number
      · subst c
        rw [if_pos (decide_eq_true rfl), if_pos rfl, mulM_ok sm (by decide +kernel), Int.mul_one]
      · rw [if_neg (fun z => c (by have := of_decide_eq_true z; injection this)), if_neg (fun z => c (by injection z with z; injection z with _ z; injection z with z; injection z)), mulM_ok sm (by decide +kernel), Int.mul_zero]
    | crush a a0 a1 =>
      have s2 : 2 ≤ s := by
        by_cases z : s = 1
        · rw [nx_crush, if_pos z] at fe; cases fe
        · omega
      obtain ⟨T1, T2⟩ := T s2
      simp only [ix0, ix1, M.ok_bind, clI]
      rw [show decide (cC = Cl.w (wd (Str.ofString "bin"))) = false from cb, if_neg (by decide), if_neg (bin_ne cb), fdivM_ok (by omega) (Nat.lt_of_le_of_lt (show p.natAbs ≤ 9 by omega) (by decide +kernel)), modM_ok (by omega)]
      simp only [M.ok_bind]
      have q0 : 0 ≤ s / p := Int.ediv_nonneg (by omega) (by omega)
      have r0 := Int.emod_nonneg s (show p ≠ 0 by omega)
      have r1 := Int.emod_lt_of_pos s (show 0 < p by omega)
      have eq := Int.emod_add_mul_ediv s p
      have d1 : 2 * (s / p) ≤ p * (s / p) := Int.mul_le_mul_of_nonneg_right p1 q0
      have vb : ∀ q : Int, 0 ≤ q → q ≤ s → (VW p rs number ⟨a, q⟩).natAbs < 2 ^ 10000 := fun q h h' => by
        have v := F.V_rg (B := 10 ^ 60) number ⟨a, q⟩ ⟨⟨a0, a1⟩, h, by show q ≤ 10 ^ 60; omega⟩
        dsimp only at v
        exact small_of _ v.1 (Int.le_trans v.2 (Int.le_trans h' (Int.le_trans hB (by decide +kernel))))
      have cb9 : ∀ q : Int, 0 ≤ q → q ≤ 9 → q.natAbs < 2 ^ 10000 := fun q h h' => Nat.lt_of_le_of_lt (show q.natAbs ≤ 9 by omega) (by decide +kernel)
      have g1 : dgetM tbl (s / p) = .ok (lineW p rs number (s / p)) := by unfold dgetM; rw [T1]
      rw [g1]
      simp only [M.ok_bind]
      rw [line_at a0 a1]
      simp only [M.ok_bind]
      rw [mulM_ok (cb9 _ (by omega) (by omega)) (vb _ q0 (by omega)), sR_crush]
      simp only [M.ok_bind]
      have z0 := VW_zero F number a0 a1
      unfold pcs
      by_cases c : 0 < s % p
      · have g2 : dgetM tbl (s / p + 1) = .ok (lineW p rs number (s / p + 1)) := by unfold dgetM; rw [T2 c]
        rw [if_pos (decide_eq_true c), g2]
        simp only [M.ok_bind]
        rw [line_at a0 a1]
        simp only [M.ok_bind]
        rw [mulM_ok (cb9 _ (by omega) (by omega)) (vb _ (by omega) (by omega)), if_pos c]
        simp only [M.ok_bind]
        by_cases d : 0 < s / p
        · rw [if_pos d]; simp [kp3]
        · have e0 : s / p = 0 := by omega
          rw [if_neg d, e0, z0]; simp [kp3]
      · rw [if_neg (by simpa using c), if_neg c]
        simp only [M.ok_bind]
        by_cases d : 0 < s / p
        · rw [if_pos d]; simp [kp3]
        · have e0 : s / p = 0 := by omega
          rw [if_neg d, e0, z0]; simp
theorem rng_take {n k : Nat} (h : k < n) : (rng 0 (n : Int)).take (k + 1) = (rng 0 (n : Int)).take k ++ [(k : Int)] := by
  have l : k < (rng 0 (n : Int)).length := by unfold rng; simp; exact h
  rw [← List.take_append_getElem l]
  congr 2
  have := rng_get 0 (n : Int) k (by omega)
  rw [List.getElem?_eq_getElem l] at this
  have := Option.some.inj this
  omega
theorem Fr.lineD (F : Fr p rs) {tbl : Dc (List Int)} {s : Int} (hs : 1 ≤ s) (hB : s ≤ 10 ^ 60) (T : 2 ≤ s → dlook (s / p) tbl.kvs = some (lineW p rs number (s / p)) ∧ (0 < s % p → dlook (s / p + 1) tbl.kvs = some (lineW p rs number (s / p + 1)))) (k : List Int → M (Ctl (Dc (List Int)) Int)) : forM (m_law_far_b2 p rs number tbl s) k (rng 0 (rs.length : Int)) [] = k (lineW p rs number s) := by
  have n := F.n
  obtain ⟨line, q1, q2⟩ := forM_ex (f := m_law_far_b2 p rs number tbl s) (k := k) (fun pre (l : List Int) => l = ((rng 0 (rs.length : Int)).take pre.length).map fun r => VW p rs number ⟨r, s⟩) (rng 0 (rs.length : Int)) [] [] (by simp) (fun q x l hp hJ => by
    obtain ⟨ex, hx⟩ := rng_pre hp
    unfold m_law_far_b2
    rw [F.laidD (row := x) (by omega) (by omega) hs hB T]
    simp only [M.ok_bind, ne_ok]
    rw [appM_ok (by rw [hJ, List.length_map, List.length_take]; omega)]
    refine ⟨_, rfl, ?_⟩
    rw [List.length_append, List.length_singleton, rng_take hx, List.map_append, hJ, ex]
    rfl)
  rw [List.nil_append] at q1
  rw [List.take_of_length_le (Nat.le_refl _)] at q1
  rw [q2, q1]
  rfl
theorem line0 (F : Fr p rs) : (rs.map fun _ => (0 : Int)) = lineW p rs number 0 := by
  unfold lineW
  apply List.ext_getElem
  · rw [List.length_map, List.length_map]; unfold rng; simp
  · intro i h1 h2
    rw [List.getElem_map, List.getElem_map]
    rw [List.length_map] at h1
    have e := rng_get 0 (rs.length : Int) i (by omega)
    have l : i < (rng 0 (rs.length : Int)).length := by unfold rng; simp; exact h1
    rw [List.getElem?_eq_getElem l] at e
    rw [Option.some.inj e]
    exact (VW_zero F number (by omega) (by omega)).symm
theorem Fr.far_is (F : Fr p rs) (number : Int) (h1 : 1 ≤ rs.length) {s : Int} (hs : 1 ≤ s) (hB : s ≤ 10 ^ 60) : m_law_far p rs s number = .ok (VW p rs number ⟨0, s⟩) := by
  have n := F.n
  obtain ⟨L, e, srt, ms, bd, len, cl⟩ := sizes_is F.p1 F.p2 hs hB
  unfold m_law_far
  simp only [M.ok_bind, Mw.bind_assoc]
  rw [lcM_all (fun _ : Row => (0 : Int)) (by omega)]
  simp only [M.ok_bind]
  rw [e, line0 (number := number) F]
  simp only [M.ok_bind, ne_ok]
  obtain ⟨t, ⟨q0, q1, q2⟩, q3⟩ := forM_ex (f := m_law_far_b1 p rs number) (k := fun t => (dgetM t s).bind fun x => ixM x 0) (fun pre (t : Dc (List Int)) => dlook 0 t.kvs = some (lineW p rs number 0) ∧ (∀ x ∈ pre, dlook x t.kvs = some (lineW p rs number x)) ∧ t.kvs.length ≤ pre.length + 1) L [] ⟨[(0, lineW p rs number 0)]⟩ ⟨rfl, (fun _ z => nomatch z), Nat.le_refl _⟩ (fun pre x t hp hJ => by
    obtain ⟨j0, j1, j2⟩ := hJ
    rw [List.nil_append] at hp
    have mx := pre_mem hp
    have bx := bd x mx
    have pl := pre_len hp
    obtain ⟨post, epost⟩ := hp
    -- what is less stands ahead
    have ahead : ∀ y ∈ L, y < x → y ∈ pre := fun y hy hyx => by
      rw [← epost, List.append_assoc] at hy
      rcases List.mem_append.mp hy with z | z
      · exact z
      · exfalso
        rw [← epost, List.append_assoc] at srt
        have s2 := (List.pairwise_append.mp srt).2.1
        rw [List.singleton_append] at z s2
        rcases List.mem_cons.mp z with w | w
        · omega
        · have := (List.pairwise_cons.mp s2).1 y w
          omega
    have T : 2 ≤ x → dlook (x / p) t.kvs = some (lineW p rs number (x / p)) ∧ (0 < x % p → dlook (x / p + 1) t.kvs = some (lineW p rs number (x / p + 1))) := fun h2 => by
      have p1 := F.p1
      have q0 : 0 ≤ x / p := Int.ediv_nonneg (by omega) (by omega)
      have r0 := Int.emod_nonneg x (show p ≠ 0 by omega)
      have eq := Int.emod_add_mul_ediv x p
      have d1 : 2 * (x / p) ≤ p * (x / p) := Int.mul_le_mul_of_nonneg_right p1 q0
      obtain ⟨c1, c2⟩ := cl x mx h2
      constructor
      · rcases c1 with z | z
        · rw [z]; exact j0
        · exact j1 _ (ahead _ z (by omega))
      · intro hr
        refine j1 _ (ahead _ (c2 hr) ?_)
        omega
    unfold m_law_far_b1
    simp only [M.ok_bind, Mw.bind_assoc]
    rw [rng1M_ok (by omega)]
    simp only [M.ok_bind]
    rw [F.lineD bx.1 (Int.le_trans bx.2 hB) T]
    unfold dputM
    rw [chk_pos (by omega)]
    refine ⟨_, rfl, ?_, fun y hy => ?_, ?_⟩
    · show dlook 0 (dput t.kvs x _) = _
      rw [dlook_put, if_neg (by omega)]
      exact j0
    · show dlook y (dput t.kvs x _) = _
      rw [dlook_put]
      by_cases c : y = x
      · rw [if_pos c, c]
      · rw [if_neg c]
        rcases List.mem_append.mp hy with z | z
        · exact j1 y z
        · exact absurd (List.mem_singleton.mp z) c
    · have := dput_len t.kvs x (lineW p rs number x)
      rw [List.length_append, List.length_singleton]
      show (dput t.kvs x _).length ≤ _
      omega)
  rw [q3]
  have g : dgetM t s = .ok (lineW p rs number s) := by unfold dgetM; rw [q1 s (by rw [List.nil_append]; exact ms)]
  rw [g]
  simp only [M.ok_bind]
  exact line_at (Int.le_refl _) (by omega)
theorem pow_bd {b : Int} (h1 : 2 ≤ b) (h2 : b ≤ 9) : ∀ k : Nat, 1 ≤ b ^ k ∧ b ^ k ≤ 9 ^ k
  | 0 => by simp
  | k + 1 => by
    obtain ⟨a1, a2⟩ := pow_bd h1 h2 k
    rw [Int.pow_succ, Int.pow_succ]
    have m1 : b ^ k * b ≤ 9 ^ k * 9 := Int.mul_le_mul a2 h2 (by omega) (by omega)
    have m2 : 1 * 1 ≤ b ^ k * b := Int.mul_le_mul a1 (by omega) (by omega) (by omega)
    omega
theorem nine : ∀ k : Fin 61, (9 : Int) ^ k.val ≤ 10 ^ 58 := by decide +kernel
theorem nine40 : ∀ k : Fin 40, (9 : Int) ^ k.val ≤ 10 ^ 38 := by decide +kernel
theorem power_is {b n : Int} (h1 : 2 ≤ b) (h2 : b ≤ 9) (n0 : 0 ≤ n) (n1 : n ≤ 60) : m_law_power b n = .ok (b ^ n.toNat) := by
  obtain ⟨k, rfl⟩ := Int.eq_ofNat_of_zero_le n0
  unfold m_law_power
  simp only [M.ok_bind, Mw.bind_assoc]
  rw [rng1M_ok (by omega)]
  simp only [M.ok_bind]
  obtain ⟨x, q1, q2⟩ := forM_ex (f := m_law_power_b1 b) (k := fun s => M.ok s) (fun pre (s : Int) => s = b ^ pre.length) (rng 0 (k : Int)) [] 1 (by simp) (fun pre x s hp hJ => by
    obtain ⟨ex, hx⟩ := rng_pre hp
    unfold m_law_power_b1
    simp only [M.ok_bind, Mw.bind_assoc]
    have bd := pow_bd h1 h2 pre.length
    have nn := nine ⟨pre.length, by omega⟩
    dsimp only at nn
    rw [hJ, mulM_ok (small_of _ (by omega) (Int.le_trans bd.2 (Int.le_trans nn (by decide +kernel)))) (small_of b (by omega) (Int.le_trans h2 (by decide +kernel)))]
    refine ⟨_, rfl, ?_⟩
    rw [List.length_append, List.length_singleton, Int.pow_succ])
  rw [List.nil_append] at q1
  have rl : (rng 0 (k : Int)).length = k := by unfold rng; simp
  rw [q2, q1, rl]
  rfl
theorem raised_is {rs : List Row} (F : Fr p rs) (hn : 1 ≤ rs.length) (oo : ∀ o ∈ ops rs, o ≤ 20) {cell : Int} (hc : 0 ≤ cell) : ∃ R, m_law_raised rs p cell = .ok R ∧ Fr p R ∧ R.length = rs.length := by
  have n := F.n
  unfold m_law_raised
  simp only [M.ok_bind, Mw.bind_assoc]
  obtain ⟨st, ⟨q0, q1, q2⟩, q3⟩ := forM_ex (f := m_law_raised_b1 p) (k := fun s => (m_law_stuck s.2).ne.bind fun b => if b then M.ok rs else M.ok s.2) (fun pre (s : Int × List Row) => 0 ≤ s.1 ∧ s.2.length = pre.length ∧ ∀ r ∈ s.2, GR rs.length r) rs [] (cell, []) ⟨hc, rfl, (fun _ z => nomatch z)⟩ (fun pre x s hp hJ => by
    obtain ⟨j0, j1, j2⟩ := hJ
    rw [List.nil_append] at hp
    have mx := pre_mem hp
    have pl := pre_len hp
    have gx := F.gr x mx
    have fin : ∀ (r : Row) (c : Int), 0 ≤ c → GR rs.length r → ∃ s', ((appM s.2 r).bind fun made => M.ok (Ctl.nx (τ := List Row) (c, made))) = .ok (.nx s') ∧ 0 ≤ s'.1 ∧ s'.2.length = (pre ++ [x]).length ∧ ∀ r ∈ s'.2, GR rs.length r := fun r c h0 g => by
      rw [appM_ok (by omega)]
      refine ⟨_, rfl, h0, by simp [j1], fun y hy => ?_⟩
      rcases List.mem_append.mp hy with w | w
      · exact j2 y w
      · rw [List.mem_singleton.mp w]; exact g
    unfold m_law_raised_b1
    simp only [M.ok_bind, Mw.bind_assoc]
    cases gx with
    | mesh o a b o1 o2 a0 a1 b0 b1 =>
      simp only [ix0, ix1, ix2, ix3, M.ok_bind, clI]
      rw [show decide (cM = Cl.w (wd (Str.ofString "mesh"))) = true from decide_eq_true rfl, if_pos rfl]
      have e0 := Int.emod_nonneg s.1 (show (40 : Int) ≠ 0 by decide)
      have e1 := Int.emod_lt_of_pos s.1 (show (0 : Int) < 40 by decide)
      rw [power_is F.p1 F.p2 e0 (by omega)]
      have o20 := oo o (ops_mem mx)
      have bd := pow_bd F.p1 F.p2 (s.1 % 40).toNat
      have nn := nine40 ⟨(s.1 % 40).toNat, by omega⟩
      dsimp only at nn
      have up : p ^ (s.1 % 40).toNat ≤ 10 ^ 38 := Int.le_trans bd.2 nn
      simp only [M.ok_bind, ne_ok]
      rw [mulM_ok (small_of o (by omega) (Int.le_trans o20 (by decide +kernel))) (small_of _ (by omega) (Int.le_trans up (by decide +kernel)))]
      simp only [M.ok_bind]
      rw [chk_pos (by simp)]
      simp only [M.ok_bind]
      have m1 : o * p ^ (s.1 % 40).toNat ≤ 20 * 10 ^ 38 := Int.mul_le_mul o20 up (by omega) (by omega)
      have m2 : 1 * 1 ≤ o * p ^ (s.1 % 40).toNat := Int.mul_le_mul o1 bd.1 (by omega) (by omega)
      have m3 : (20 : Int) * 10 ^ 38 ≤ 1000000000000000000000000000000000000000000000000000000000000 := by decide +kernel
      exact fin ⟨[cM, .i (o * p ^ (s.1 % 40).toNat), .i a, .i b]⟩ _ (by omega) (.mesh _ _ _ (by omega) (by omega) a0 a1 b0 b1)
    | crush a a0 a1 =>
      simp only [ix0, M.ok_bind]
      rw [show decide (cC = Cl.w (wd (Str.ofString "mesh"))) = false from cm, if_neg (by decide)]
      simp only [M.ok_bind]
      exact fin _ _ j0 (.crush a a0 a1)
    | bin b b0 b1 =>
      simp only [ix0, M.ok_bind]
      rw [show decide (cB = Cl.w (wd (Str.ofString "mesh"))) = false from bm, if_neg (by decide)]
      simp only [M.ok_bind]
      exact fin _ _ j0 (.bin b b0 b1))
  rw [List.nil_append] at q1
  rw [q3]
  have gg : ∀ r ∈ st.2, GR (st.2.length : Int) r := fun r hr => by rw [q1]; exact q2 r hr
  obtain ⟨b, eb, hb⟩ := stuck_is gg (by omega)
  rw [eb]
  simp only [M.ok_bind, ne_ok]
  cases b with
  | true => exact ⟨rs, rfl, F, rfl⟩
  | false => exact ⟨st.2, rfl, ⟨F.p1, F.p2, by omega, gg, fun s' i h1 h0 hi => free_all gg (hb rfl) h1 h0 hi⟩, q1⟩
theorem openings_is {rs : List Row} (g : ∀ r ∈ rs, GR rs.length r) (hn : rs.length ≤ 1000) : ∃ os, lcM (fun x : Row => (ixM x.cs 0).bind fun y => M.ok (decide (y = Cl.w (wd (Str.ofString "mesh"))))) (fun x : Row => (ixM x.cs 1).bind clI) rs = .ok os ∧ os.length ≤ rs.length := by
  let isM : Row → Bool := fun r => match r.cs with
    | [_, .i _, .i _, .i _] => true
    | _ => false
  let opn : Row → Int := fun r => match r.cs with
    | [_, .i o, .i _, .i _] => o
    | _ => 0
  refine ⟨(rs.filter isM).map opn, ?_, by rw [List.length_map]; exact List.length_filter_le _ _⟩
  rw [lcM_congr (c' := fun r => .ok (isM r)) (e' := fun r => .ok (opn r)) (fun r hr => ?_) (fun r hr hc => ?_), lcM_ok _ _ (by omega)]
  · cases g r hr with
    | mesh o a b => simp only [ix0, M.ok_bind]; rw [show decide (cM = Cl.w (wd (Str.ofString "mesh"))) = true from decide_eq_true rfl]
    | crush a => simp only [ix0, M.ok_bind]; rw [show decide (cC = Cl.w (wd (Str.ofString "mesh"))) = false from cm]
    | bin b => simp only [ix0, M.ok_bind]; rw [show decide (cB = Cl.w (wd (Str.ofString "mesh"))) = false from bm]
  · cases g r hr with
    | mesh o a b => simp only [ix1, M.ok_bind, clI]; rfl
    | crush a => simp only [ix0, M.ok_bind] at hc; rw [show decide (cC = Cl.w (wd (Str.ofString "mesh"))) = false from cm] at hc; cases hc
    | bin b => simp only [ix0, M.ok_bind] at hc; rw [show decide (cB = Cl.w (wd (Str.ofString "mesh"))) = false from bm] at hc; cases hc
theorem Fr.size_is (F : Fr p rs) (c : Int) : ∃ s, m_law_size p rs c = .ok s ∧ 1 ≤ s ∧ s ≤ 10 ^ 60 := by
  have n := F.n
  obtain ⟨os, eo, lo⟩ := openings_is F.gr (by omega)
  unfold m_law_size
  simp only [M.ok_bind, Mw.bind_assoc]
  rw [eo]
  simp only [M.ok_bind]
  rw [catM_ok (by simp; omega)]
  simp only [M.ok_bind]
  rw [modM_ok (by rw [List.length_append, List.length_singleton]; omega)]
  simp only [M.ok_bind]
  obtain ⟨v, _, ev⟩ := ix_mod (os ++ [1]) (c / 4) _ rfl (by rw [List.length_append, List.length_singleton]; omega)
  rw [ev]
  simp only [M.ok_bind]
  have e0 := Int.emod_nonneg (c / 4) (show (60 : Int) ≠ 0 by decide)
  have e1 := Int.emod_lt_of_pos (c / 4) (show (0 : Int) < 60 by decide)
  rw [power_is F.p1 F.p2 e0 (by omega)]
  simp only [M.ok_bind, ne_ok]
  rw [chk_pos (by simp)]
  simp only [M.ok_bind]
  obtain ⟨w, _, ew⟩ := ix_mod [v, p ^ (c / 4 % 60).toNat, c, 1 + c / 4 % 1000] c 4 rfl (by decide)
  rw [ew]
  simp only [M.ok_bind]
  refine ⟨_, rfl, ?_, ?_⟩
  · split <;> omega
  · have e : (10 : Int) ^ 60 = 1000000000000000000000000000000000000000000000000000000000000 := by decide +kernel
    rw [e]
    split
    · split <;> omega
    · omega
theorem whole_is (x : Int) : m_law_whole x = .ok true := by unfold m_law_whole; rfl
theorem six (f : Int → Int) : ((rng 0 6).map f).sum = s6 f := by
  have : rng 0 6 = [0, 1, 2, 3, 4, 5] := by decide
  rw [this]
  unfold s6
  simp only [List.map_cons, List.map_nil, List.sum_cons, List.sum_nil]
  omega
end
theorem law_true (ns : List Int) (h : ns.length ≤ 63) : m_law ⟨ns⟩ = .ok true := by
  obtain ⟨c0, e0, z0⟩ := cell_ok ns 0 (by decide)
  obtain ⟨c1, e1, z1⟩ := cell_ok ns 10 (by decide)
  unfold m_law
  simp only [M.ok_bind, Mw.bind_assoc, e0, e1, ne_ok]
  rw [modM_ok (by decide)]
  simp only [M.ok_bind]
  rw [fdivM_ok (by decide) (by decide +kernel)]
  simp only [M.ok_bind]
  rw [modM_ok (by decide)]
  simp only [M.ok_bind]
  have p1 : 2 ≤ 2 + c0 % 8 := by omega
  have p2 : 2 + c0 % 8 ≤ 9 := by omega
  generalize 2 + c0 % 8 = p at p1 p2
  have m1 : 2 ≤ 2 + c0 / 8 % 7 := by omega
  have m2 : 2 + c0 / 8 % 7 ≤ 8 := by omega
  generalize 2 + c0 / 8 % 7 = m at m1 m2
  obtain ⟨rs, er, F, lm, oo⟩ := rows_is ns 1 m 20 7 p (by decide) m1 (by omega) (by decide) (by decide) p1 p2
  rw [er]
  simp only [M.ok_bind, ne_ok]
  rw [fdivM_ok (by decide) (by decide +kernel)]
  simp only [M.ok_bind]
  obtain ⟨R, eR, FR, lR⟩ := raised_is F (by omega) oo (cell := c0 / 56) (Int.ediv_nonneg z0 (by decide))
  rw [eR]
  simp only [M.ok_bind, ne_ok]
  rw [works_is p R p1 p2 (by omega) FR.n FR.gr]
  simp only [M.ok_bind]
  rw [modM_ok (by decide)]
  simp only [M.ok_bind]
  have n1 : 0 ≤ c1 % 6 ∧ c1 % 6 < 6 := by omega
  generalize c1 % 6 = u at n1
  generalize hb : (if (if (ns.length : Int) - 11 < 4 then (ns.length : Int) - 11 else 4) > 1 then (if (ns.length : Int) - 11 < 4 then (ns.length : Int) - 11 else 4) else 1) = b
  have b4 : 1 ≤ b ∧ b ≤ 4 := by
    rw [← hb]
    constructor
    · split <;> omega
    · split
      · split <;> omega
      · omega
  rw [show rng2M 11 (11 + b) = .ok (rng 11 (11 + b)) from chk_pos (by omega) _]
  simp only [M.ok_bind]
  rw [forM_all]
  intro x hx
  have x0 : 0 ≤ x := by
    unfold rng at hx
    obtain ⟨j, _, rfl⟩ := List.mem_map.mp hx
    omega
  obtain ⟨c, ec, _⟩ := cell_ok ns x x0
  obtain ⟨s, es, s1, s2⟩ := FR.size_is c
  have hx0 : domW R (10 ^ 60) ⟨0, s⟩ := ⟨⟨Int.le_refl _, by show (0 : Int) < R.length; omega⟩, by show 0 ≤ s; omega, s2⟩
  unfold m_law_b1
  simp only [M.ok_bind, Mw.bind_assoc, ec, ne_ok]
  rw [es]
  simp only [M.ok_bind, ne_ok]
  rw [FR.weight_far u hx0]
  simp only [M.ok_bind, ne_ok]
  rw [whole_is, FR.far_is u (by omega) s1 s2]
  simp only [M.ok_bind, ne_ok, notM_ok, Bool.not_true, orM_f, decide_true]
  rw [if_neg (by decide)]
  by_cases hk : x = 11
  · rw [if_pos (decide_eq_true hk), FR.weights_far hx0]
    simp only [M.ok_bind, ne_ok]
    have l : ((rng 0 6).map fun m => VW p R m ⟨0, s⟩).length = 6 := by rw [List.length_map]; decide
    have ei : ixM ((rng 0 6).map fun m => VW p R m ⟨0, s⟩) u = .ok (VW p R u ⟨0, s⟩) := by
      have e := ixM_of (xs := (rng 0 6).map fun m => VW p R m ⟨0, s⟩) (i := u.toNat) (x := VW p R u ⟨0, s⟩) (by
        rw [List.getElem?_map, show (rng 0 6)[u.toNat]? = some u from rng_at (n := 6) n1.1 (by omega)]
        rfl)
      rw [Int.toNat_of_nonneg n1.1] at e
      exact e
    rw [l, six, FR.V_all _ hx0, ei]
    simp
  · rw [if_neg (fun z => hk (of_decide_eq_true z))]

def topS (i : Nat) : Stmt := PySem.Challenge.pw_meshworks_k42_whole_far_sizes.main.body.getD i (.Pass ⟨0, 0, 0, 0⟩)
section
variable {P : Program} {w : World} {K : PySem.W.Frag} {mg : Str → Option Value} {base : Heap} {ce : Ce}
/-! ### _law_end -/
abbrev s_law_end : Stmt := topS 21
abbrev N_law_end : List Str := ["rows", "row", "size", "turn", "one"]
theorem sc_law_end : FnScope N_law_end ["rows", "row", "size"] (defScope s_law_end) := ⟨rfl, rfl, rfl, by decide +kernel, rfl, by decide +kernel, by decide +kernel⟩
abbrev sp_law_end (K : PySem.W.Frag) (ce : Ce) : Sp := SpF0 ce (RC K (α := (List Row)) (RC K (α := Int) (RC K (α := Int) R0))) (rv K (ρ := (Option Int))) (fun a : ((List Row) × Int × Int × Unit) => m_law_end a.1 a.2.1 a.2.2.1)
theorem ok_law_end {f : Addr} {fd : FuncData} (FF : Fun K "_law_end" "_law_end" s_law_end f fd) (z_int : mg "int" = none) (z_len : mg "len" = none) (z_range : mg "range" = none) : FnOk P w K mg base CX0 1 f fd ["rows", "row", "size"] (sp_law_end K ce) := by
  refine FF.ok sc_law_end (fun vs H0 Q E h => ?_) (fun cdv A outer s H0 vs Q E hr h => ?_)
  · obtain ⟨F0, ⟨a0_rows, a1_row, a2_size, _⟩, e0, ⟨v0, _, rfl, r0, ⟨v1, _, rfl, r1, ⟨v2, _, rfl, r2, rfl⟩⟩⟩, w⟩ := h
    rfl
  · obtain ⟨F0, ⟨a0_rows, a1_row, a2_size, _⟩, e0, ⟨v0, _, rfl, r0, ⟨v1, _, rfl, r1, ⟨v2, _, rfl, r2, rfl⟩⟩⟩, w⟩ := h
    have w := wp_post w
    have G := Gr.rf e0
    have nd := sc_law_end.nd
    have hQ : ∀ r F1 H1 v, Gr F0 H0 F1 H1 → (rv K (ρ := (Option Int))) F0 H0 F1 H1 v r → Fin (rv K (ρ := (Option Int))) F0 H0 Q r → Q v H1 := fun r F1 H1 v g m p => p F1 H1 v g m
    refine ⟨_, (pss_cons (ps_for (by first | exact PassesOwn.never | exact passes_of rfl) rfl (pi_range1 rfl z_range (pa_cons (pe_op op_add (pe_callB (r := rLenS K) call_len_seq (by rfl) z_len (by decide +kernel) (pa_cons (pv 0) pa_nil)) pe_int) pa_nil)) (pg_name (i := 3) nd rfl (by first | exact Or.inl rfl | exact Or.inr rfl)) (pss_cons (ps_set (i := 4) nd rfl (by first | exact Or.inl rfl | exact Or.inr rfl) (pe_ix (r := rIxL K) ix_list (pv 0) (pv 1) (fun _ _ => rfl)))
      (pss_one (ps_if (pt_cmpR (r := rEqD K) (op_eqD hr.units) (pe_ix (r := rIxT K) ix_tup (pv 4) pe_int (fun _ _ => rfl)) pe_str (nomark _)) (pss_one (ps_set (i := 1) nd rfl (by first | exact Or.inl rfl | exact Or.inr rfl) (pe_ix (r := rIxT K) ix_tup (pv 4) (pe_op op_add pe_int (pe_callTy call_int1 (by rfl) z_int (by decide +kernel) (pa_cons (pe_cmpR op_gt (pv 2) (pe_ix (r := rIxT K) ix_tup (pv 4) pe_int (fun _ _ => rfl)) (nomark _)) pa_nil))) (fun _ _ => rfl)))) (pss_one (ps_if (PW.pt (pw_and (pt_cmpR (r := rEqD K) (op_eqD hr.units) (pe_ix (r := rIxT K) ix_tup (pv 4) pe_int (fun _ _ => rfl)) pe_str (nomark _)) (pw_and1 (pt_cmpR op_eq (pv 2) pe_int (nomark _))))) (pss_one (ps_set (i := 1) nd rfl (by first | exact Or.inl rfl | exact Or.inr rfl) (pe_ix (r := rIxT K) ix_tup (pv 4) pe_int (fun _ _ => rfl)))) (pss_one (ps_ret (pv 1)))))))))
      (pss_one (ps_ret pe_non))), ?_⟩
    have w := show Wp ce E0 H0 (m_law_end a0_rows a1_row a2_size) _ from w
    unfold m_law_end at w
    refine q_for (S := Int) (fun s F' H' σ' => ∃ (v_83 : V) (z_84 : Option V) (z_85 : Option V), σ' = [some v0, some v_83, some v2, z_84, z_85] ∧ Gr F0 H0 F' H' ∧ Ex F0 F' ∧ rp (α := Int) K F' v_83 s) G (ei_rng1 (e2 (e_cb (e_cons (em_var rfl r0) ea_nil) a_len) em_int o_add)) (tg_name (K := K)) w (fun _ _ g_163 => ⟨_, _, _, rfl, G.tr g_163, g_163.ff, r1⟩) (fun _ _ _ _ ⟨_, _, _, _, G, _⟩ => G) ?_ ?_
    · rintro x_87 s_86 F_88 H_89 _ ⟨v_83, z_84, z_85, hs_90, G, e_91, r_92⟩ F_93 H_94 σ_95 g_96 ⟨v_104, h_106, r_105⟩ D_101 P_102 hrt_103 hN_97 hC_98 hB_99 hP_100 w
      subst hs_90
      subst h_106
      have r0 := Rep.mo (K := K) e_91 r0
      have r2 := Rep.mo (K := K) e_91 r2
      have G := G.tr g_96
      have r0 := Rep.mo (K := K) g_96.ff r0
      have r_92 := Rep.mo (K := K) g_96.ff r_92
      have r2 := Rep.mo (K := K) g_96.ff r2
      have e_91 := Ex.tr e_91 g_96.ff
      have e_107 := Ex.rf F_93
      have hQ : ∀ r F1 H1 v, Gr F0 H0 F1 H1 → (rv K (ρ := (Option Int))) F0 H0 F1 H1 v r → P_102 (.rt r) → D_101.rt v H1 := fun r F1 H1 v g m p => by rw [hrt_103]; exact hQ r F1 H1 v g m (hP_100 _ p)
      unfold m_law_end_b1 at w
      refine q_asg (K := K) G w (em_op (em_var rfl r0) (em_var rfl r_92) fun _ _ => o_ixL) fun one_110 F_111 H_112 v_114 g_113 r_115 w => ?_
      have G := G.tr g_113
      have r0 := Rep.mo (K := K) g_113.ff r0
      have r_92 := Rep.mo (K := K) g_113.ff r_92
      have r2 := Rep.mo (K := K) g_113.ff r2
      have r_105 := Rep.mo (K := K) g_113.ff r_105
      have e_91 := Ex.tr e_91 g_113.ff
      have e_107 := Ex.tr e_107 g_113.ff
      refine s_if2 G w (t_of (em_op (em_op (em_var rfl r_115) em_int fun _ _ => o_rowix) (e_clw (em_wd (by decide +kernel))) fun _ _ => (o_eqD (by decide)))) (fun F_120 H_121 g_122 w => ?_) (fun F_120 H_121 g_122 w => ?_)
      · have G := G.tr g_122
        have r0 := Rep.mo (K := K) g_122.ff r0
        have r_92 := Rep.mo (K := K) g_122.ff r_92
        have r2 := Rep.mo (K := K) g_122.ff r2
        have r_105 := Rep.mo (K := K) g_122.ff r_105
        have r_115 := Rep.mo (K := K) g_122.ff r_115
        have e_91 := Ex.tr e_91 g_122.ff
        have e_107 := Ex.tr e_107 g_122.ff
        refine s_asg (K := K) G w (em_clI (em_op (em_var rfl r_115) (em_op em_int (em_cb (ea_cons (em_op (em_var rfl r2) (em_clI (em_op (em_var rfl r_115) em_int fun _ _ => o_rowix)) fun _ _ => o_gt) ea_nil) fun _ => a_intB) fun _ _ => o_add) fun _ _ => o_rowix)) fun row_134 F_135 H_136 v_138 g_137 r_139 w => ?_
        have G := G.tr g_137
        have r0 := Rep.mo (K := K) g_137.ff r0
        have r2 := Rep.mo (K := K) g_137.ff r2
        have r_105 := Rep.mo (K := K) g_137.ff r_105
        have r_115 := Rep.mo (K := K) g_137.ff r_115
        have e_91 := Ex.tr e_91 g_137.ff
        have e_107 := Ex.tr e_107 g_137.ff
        exact hN_97 _ w _ _ _ e_107 ⟨_, _, _, rfl, G, e_91, r_139⟩
      · have G := G.tr g_122
        have r0 := Rep.mo (K := K) g_122.ff r0
        have r_92 := Rep.mo (K := K) g_122.ff r_92
        have r2 := Rep.mo (K := K) g_122.ff r2
        have r_105 := Rep.mo (K := K) g_122.ff r_105
        have r_115 := Rep.mo (K := K) g_122.ff r_115
        have e_91 := Ex.tr e_91 g_122.ff
        have e_107 := Ex.tr e_107 g_122.ff
        refine s_if2 G w (tm_and (t_of (em_op (em_op (em_var rfl r_115) em_int fun _ _ => o_rowix) (e_clw (em_wd (by decide +kernel))) fun _ _ => (o_eqD (by decide)))) (t_of (e2 (em_var rfl r2) em_int o_eqI))) (fun F_144 H_145 g_146 w => ?_) (fun F_144 H_145 g_146 w => ?_)
        · have G := G.tr g_146
          have r0 := Rep.mo (K := K) g_146.ff r0
          have r_92 := Rep.mo (K := K) g_146.ff r_92
          have r2 := Rep.mo (K := K) g_146.ff r2
          have r_105 := Rep.mo (K := K) g_146.ff r_105
          have r_115 := Rep.mo (K := K) g_146.ff r_115
          have e_91 := Ex.tr e_91 g_146.ff
          have e_107 := Ex.tr e_107 g_146.ff
          refine s_asg (K := K) G w (em_clI (em_op (em_var rfl r_115) em_int fun _ _ => o_rowix)) fun row_149 F_150 H_151 v_153 g_152 r_154 w => ?_
          have G := G.tr g_152
          have r0 := Rep.mo (K := K) g_152.ff r0
          have r2 := Rep.mo (K := K) g_152.ff r2
          have r_105 := Rep.mo (K := K) g_152.ff r_105
          have r_115 := Rep.mo (K := K) g_152.ff r_115
          have e_91 := Ex.tr e_91 g_152.ff
          have e_107 := Ex.tr e_107 g_152.ff
          exact hN_97 _ w _ _ _ e_107 ⟨_, _, _, rfl, G, e_91, r_154⟩
        · have G := G.tr g_146
          have r0 := Rep.mo (K := K) g_146.ff r0
          have r_92 := Rep.mo (K := K) g_146.ff r_92
          have r2 := Rep.mo (K := K) g_146.ff r2
          have r_105 := Rep.mo (K := K) g_146.ff r_105
          have r_115 := Rep.mo (K := K) g_146.ff r_115
          have e_91 := Ex.tr e_91 g_146.ff
          have e_107 := Ex.tr e_107 g_146.ff
          exact s_ret G w (e_some (em_var rfl r_92)) fun r F1 H1 v g m p => hQ r F1 H1 v g m p
    · rintro s_159 F_160 H_161 _ e_162 ⟨v_83, z_84, z_85, hs_156, G, e_157, r_158⟩ w
      subst hs_156
      have r0 := Rep.mo (K := K) e_157 r0
      have r2 := Rep.mo (K := K) e_157 r2
      exact s_ret0 G w (em_none (α := Int)) fun r F1 H1 v g m p => hQ r F1 H1 v g m p
/-! ### _law_stuck -/
abbrev s_law_stuck : Stmt := topS 22
abbrev N_law_stuck : List Str := ["rows", "openings", "row", "size", "opening"]
theorem sc_law_stuck : FnScope N_law_stuck ["rows"] (defScope s_law_stuck) := ⟨rfl, rfl, rfl, by decide +kernel, rfl, by decide +kernel, by decide +kernel⟩
abbrev sp_law_stuck (K : PySem.W.Frag) (ce : Ce) : Sp := SpF0 ce (RC K (α := (List Row)) R0) (rv K (ρ := Bool)) (fun a : ((List Row) × Unit) => m_law_stuck a.1)
theorem ok_law_stuck {f : Addr} {fd : FuncData} (FF : Fun K "_law_stuck" "_law_stuck" s_law_stuck f fd) {a__law_end : Addr} {d__law_end : FuncData} (G__law_end : FnOk P w K mg base CX0 1 a__law_end d__law_end ["rows", "row", "size"] (sp_law_end K ce)) (mg__law_end : mg "_law_end" = some (.ref a__law_end)) (k__law_end : PySem.W.keepIn K (.ref a__law_end) = true) (b__law_end : Binds K d__law_end ["rows", "row", "size"] []) (z_len : mg "len" = none) (z_range : mg "range" = none) : FnOk P w K mg base CX0 2 f fd ["rows"] (sp_law_stuck K ce) := by
  refine FF.ok sc_law_stuck (fun vs H0 Q E h => ?_) (fun cdv A outer s H0 vs Q E hr h => ?_)
  · obtain ⟨F0, ⟨a0_rows, _⟩, e0, ⟨v0, _, rfl, r0, rfl⟩, w⟩ := h
    rfl
  · obtain ⟨F0, ⟨a0_rows, _⟩, e0, ⟨v0, _, rfl, r0, rfl⟩, w⟩ := h
    have w := wp_post w
    have G := Gr.rf e0
    have nd := sc_law_stuck.nd
    have hQ : ∀ r F1 H1 v, Gr F0 H0 F1 H1 → (rv K (ρ := Bool)) F0 H0 F1 H1 v r → Fin (rv K (ρ := Bool)) F0 H0 Q r → Q v H1 := fun r F1 H1 v g m p => p F1 H1 v g m
    refine ⟨_, (pss_cons (by first | exact (ps_setLc (i := 1) (own := [("row", 2)]) (g := (gName 2)) (by rfl) nd rfl rfl (sw_true rfl rfl rfl (by decide +kernel)) (pi_list (pv 0)) (blkOk_by (own := [("row", 2)]) (N := N_law_stuck) (sc := defScope s_law_stuck) (by decide +kernel)) (fun _ _ _ _ _ => (pg_name (i := 2) nd rfl (by first | exact Or.inl rfl | exact Or.inr rfl))) (fun _ _ _ _ _ => (pts_one (pt_cmpR (r := rEqD K) (op_eqD hr.units) (pe_ix (r := rIxT K) ix_tup (pv 2) pe_int (fun _ _ => rfl)) pe_str (nomark _)))) (fun _ _ _ _ _ => (pe_ix (r := rIxT K) ix_tup (pv 2) pe_int (fun _ _ => rfl)))) | exact (ps_set (i := 1) nd rfl (by first | exact Or.inl rfl | exact Or.inr rfl) (pe_lc (own := [("row", 2)]) (g := (gName 2)) (by rfl) nd (pi_list (pv 0)) (blkOk_by (own := [("row", 2)]) (N := N_law_stuck) (sc := defScope s_law_stuck) (by decide +kernel)) (fun _ _ _ _ _ => (pg_name (i := 2) nd rfl (by first | exact Or.inl rfl | exact Or.inr rfl))) (fun _ _ _ _ _ => (pts_one (pt_cmpR (r := rEqD K) (op_eqD hr.units) (pe_ix (r := rIxT K) ix_tup (pv 2) pe_int (fun _ _ => rfl)) pe_str (nomark _)))) (fun _ _ _ _ _ => (pe_ix (r := rIxT K) ix_tup (pv 2) pe_int (fun _ _ => rfl))))))
      (pss_cons (ps_for (by first | exact PassesOwn.never | exact passes_of rfl) rfl (pi_list (pe_op op_cat (pe_op op_cat (pe_lst (pa_cons pe_int pa_nil)) (pv 1)) (pe_lc (own := [("opening", 4)]) (g := (gName 4)) (by rfl) nd (pi_list (pv 1)) (blkOk_by (own := [("opening", 4)]) (N := N_law_stuck) (sc := defScope s_law_stuck) (by decide +kernel)) (fun _ _ _ _ _ => (pg_name (i := 4) nd rfl (by first | exact Or.inl rfl | exact Or.inr rfl))) (fun _ _ _ _ _ => pts_nil) (fun _ _ _ _ _ => (pe_op op_add (pv 4) pe_int))))) (pg_name (i := 3) nd rfl (by first | exact Or.inl rfl | exact Or.inr rfl)) (pss_one (ps_for (by first | exact PassesOwn.never | exact passes_of rfl) rfl (pi_range1 rfl z_range (pa_cons (pe_callB (r := rLenS K) call_len_seq (by rfl) z_len (by decide +kernel) (pa_cons (pv 0) pa_nil)) pa_nil)) (pg_name (i := 2) nd rfl (by first | exact Or.inl rfl | exact Or.inr rfl)) (pss_one (ps_if (pt_cmpR op_isN (pe_call G__law_end (hr.mono (by decide)) rfl mg__law_end k__law_end b__law_end .nil pass0 (pa_cons (pv 0) (pa_cons (pv 2) (pa_cons (pv 3) pa_nil)))) pe_non (nomark _)) (pss_one (ps_ret pe_bl)) pss_nil)))))
      (pss_one (ps_ret pe_bl)))), ?_⟩
    have w := show Wp ce E0 H0 (m_law_stuck a0_rows) _ from w
    unfold m_law_stuck at w
    refine q_asg (K := K) G w (Ev.nv (em_lc (c := (fun x_261 : Row => (((M.ok x_261).bind fun x_264 => (M.ok (0 : Int)).bind fun y_265 => ixM x_264.cs y_265).bind fun x_266 => (M.ok (Cl.w (wd (Str.ofString "mesh")))).bind fun y_267 => .ok (decide (x_266 = y_267))))) (e := (fun x_261 : Row => (((M.ok x_261).bind fun x_268 => (M.ok (1 : Int)).bind fun y_269 => ixM x_268.cs y_269).bind clI))) (ei_list (em_var rfl r0)) (tg_name (K := K)) (fun _ _ _ ⟨_, h, _⟩ => by rw [h]; exact wipe1) (fun x_261 _ _ _ g_260 ⟨v_262, h_270, r_263⟩ => by subst h_270; exact (t_of (em_op (em_op (em_var rfl r_263) em_int fun _ _ => o_rowix) (e_clw (em_wd (by decide +kernel))) fun _ _ => (o_eqD (by decide))))) (fun x_261 _ _ _ g_260 ⟨v_262, h_270, r_263⟩ => by subst h_270; exact (em_clI (em_op (em_var rfl r_263) em_int fun _ _ => o_rowix))))) fun openings_272 F_273 H_274 v_276 g_275 r_277 w => ?_
    have G := G.tr g_275
    have r0 := Rep.mo (K := K) g_275.ff r0
    refine q_for (S := Unit) (fun s F' H' σ' => ∃ (z_288 : Option V) (z_289 : Option V), σ' = [some v0, some v_276, z_289, z_288, none] ∧ Gr F0 H0 F' H' ∧ Ex F_273 F') G (ei_list (Ev.nv (em_op (Ev.nv (em_op (Ev.nv (e_lst (e_lcons em_int (el_nil (α := Int))) (by simp))) (em_var rfl r_277) fun _ _ => o_cat)) (Ev.nv (em_lc (c := (fun x_281 : Int => (M.ok true))) (e := (fun x_281 : Int => (M.ok (x_281 + (1 : Int))))) (ei_list (em_var rfl r_277)) (tg_name (K := K)) (fun _ _ _ ⟨_, h, _⟩ => by rw [h]; exact wipe1) (fun x_281 _ _ _ g_280 ⟨v_282, h_284, r_283⟩ => by subst h_284; exact t_yes) (fun x_281 _ _ _ g_280 ⟨v_282, h_284, r_283⟩ => by subst h_284; exact (e2 (em_var rfl r_283) em_int o_add)))) fun _ _ => o_cat))) (tg_name (K := K)) w (fun _ _ g_353 => ⟨_, _, rfl, G.tr g_353, g_353.ff⟩) (fun _ _ _ _ ⟨_, _, _, G, _⟩ => G) ?_ ?_
    · rintro x_291 s_290 F_292 H_293 _ ⟨z_288, z_289, hs_294, G, e_295⟩ F_296 H_297 σ_298 g_299 ⟨v_307, h_309, r_308⟩ D_304 P_305 hrt_306 hN_300 hC_301 hB_302 hP_303 w
      subst hs_294
      subst h_309
      have r0 := Rep.mo (K := K) e_295 r0
      have r_277 := Rep.mo (K := K) e_295 r_277
      have G := G.tr g_299
      have r0 := Rep.mo (K := K) g_299.ff r0
      have r_277 := Rep.mo (K := K) g_299.ff r_277
      have e_295 := Ex.tr e_295 g_299.ff
      have e_310 := Ex.rf F_296
      have hQ : ∀ r F1 H1 v, Gr F0 H0 F1 H1 → (rv K (ρ := Bool)) F0 H0 F1 H1 v r → P_305 (.rt r) → D_304.rt v H1 := fun r F1 H1 v g m p => by rw [hrt_306]; exact hQ r F1 H1 v g m (hP_303 _ p)
      unfold m_law_stuck_b1 at w
      refine s_for (S := Unit) (fun s F' H' σ' => ∃ (z_311 : Option V), σ' = [some v0, some v_276, z_311, some v_307, none] ∧ Gr F0 H0 F' H' ∧ Ex F_296 F') G (ei_rng1 (e_cb (e_cons (em_var rfl r0) ea_nil) a_len)) (tg_name (K := K)) w (fun _ _ g_345 => ⟨_, rfl, G.tr g_345, g_345.ff⟩) (fun _ _ _ _ ⟨_, _, G, _⟩ => G) ?_ ?_
      · rintro x_313 s_312 F_314 H_315 _ ⟨z_311, hs_316, G, e_317⟩ F_318 H_319 σ_320 g_321 ⟨v_329, h_331, r_330⟩ D_326 P_327 hrt_328 hN_322 hC_323 hB_324 hP_325 w
        subst hs_316
        subst h_331
        have r0 := Rep.mo (K := K) e_317 r0
        have r_277 := Rep.mo (K := K) e_317 r_277
        have r_308 := Rep.mo (K := K) e_317 r_308
        have e_295 := Ex.tr e_295 e_317
        have e_310 := Ex.tr e_310 e_317
        have G := G.tr g_321
        have r0 := Rep.mo (K := K) g_321.ff r0
        have r_277 := Rep.mo (K := K) g_321.ff r_277
        have r_308 := Rep.mo (K := K) g_321.ff r_308
        have e_295 := Ex.tr e_295 g_321.ff
        have e_310 := Ex.tr e_310 g_321.ff
        have e_317 := Ex.tr e_317 g_321.ff
        have e_332 := Ex.rf F_318
        have hQ : ∀ r F1 H1 v, Gr F0 H0 F1 H1 → (rv K (ρ := Bool)) F0 H0 F1 H1 v r → P_327 (.rt (.rt r)) → D_326.rt v H1 := fun r F1 H1 v g m p => by rw [hrt_328]; exact hQ r F1 H1 v g m (hP_325 _ p)
        unfold m_law_stuck_b2 at w
        refine s_if2 G w (t_of (em_op (e_call0 (f := (fun a : ((List Row) × Int × Int × Unit) => m_law_end a.1 a.2.1 a.2.2.1)) (x := (a0_rows, x_313, x_291, ())) (e_cons (em_var rfl r0) (e_cons (em_var rfl r_330) (e_cons (em_var rfl r_308) ea_nil)))) em_unit fun _ _ => o_isN)) (fun F_335 H_336 g_337 w => ?_) (fun F_335 H_336 g_337 w => ?_)
        · have G := G.tr g_337
          have r0 := Rep.mo (K := K) g_337.ff r0
          have r_277 := Rep.mo (K := K) g_337.ff r_277
          have r_308 := Rep.mo (K := K) g_337.ff r_308
          have r_330 := Rep.mo (K := K) g_337.ff r_330
          have e_295 := Ex.tr e_295 g_337.ff
          have e_310 := Ex.tr e_310 g_337.ff
          have e_317 := Ex.tr e_317 g_337.ff
          have e_332 := Ex.tr e_332 g_337.ff
          exact s_ret G w em_bl fun r F1 H1 v g m p => hQ r F1 H1 v g m p
        · have G := G.tr g_337
          have r0 := Rep.mo (K := K) g_337.ff r0
          have r_277 := Rep.mo (K := K) g_337.ff r_277
          have r_308 := Rep.mo (K := K) g_337.ff r_308
          have r_330 := Rep.mo (K := K) g_337.ff r_330
          have e_295 := Ex.tr e_295 g_337.ff
          have e_310 := Ex.tr e_310 g_337.ff
          have e_317 := Ex.tr e_317 g_337.ff
          have e_332 := Ex.tr e_332 g_337.ff
          refine s_next ?_
          exact hN_322 _ w _ _ _ e_332 ⟨_, rfl, G, e_317⟩
      · rintro s_341 F_342 H_343 _ e_344 ⟨z_311, hs_339, G, e_340⟩ w
        subst hs_339
        have r0 := Rep.mo (K := K) e_340 r0
        have r_277 := Rep.mo (K := K) e_340 r_277
        have r_308 := Rep.mo (K := K) e_340 r_308
        have e_295 := Ex.tr e_295 e_340
        have e_310 := Ex.tr e_310 e_340
        exact hN_300 _ w _ _ _ e_310 ⟨_, _, rfl, G, e_295⟩
    · rintro s_349 F_350 H_351 _ e_352 ⟨z_288, z_289, hs_347, G, e_348⟩ w
      subst hs_347
      have r0 := Rep.mo (K := K) e_348 r0
      have r_277 := Rep.mo (K := K) e_348 r_277
      exact s_ret0 G w em_bl fun r F1 H1 v g m p => hQ r F1 H1 v g m p
/-! ### _law_row -/
abbrev s_law_row : Stmt := topS 20
abbrev N_law_row : List Str := ["cell", "many", "most", "kind", "rest"]
theorem sc_law_row : FnScope N_law_row ["cell", "many", "most"] (defScope s_law_row) := ⟨rfl, rfl, rfl, by decide +kernel, rfl, by decide +kernel, by decide +kernel⟩
abbrev sp_law_row (K : PySem.W.Frag) (ce : Ce) : Sp := SpF0 ce (RC K (α := Int) (RC K (α := Int) (RC K (α := Int) R0))) (rv K (ρ := Row)) (fun a : (Int × Int × Int × Unit) => m_law_row a.1 a.2.1 a.2.2.1)
theorem ok_law_row {f : Addr} {fd : FuncData} (FF : Fun K "_law_row" "_law_row" s_law_row f fd) : FnOk P w K mg base CX0 1 f fd ["cell", "many", "most"] (sp_law_row K ce) := by
  refine FF.ok sc_law_row (fun vs H0 Q E h => ?_) (fun cdv A outer s H0 vs Q E hr h => ?_)
  · obtain ⟨F0, ⟨a0_cell, a1_many, a2_most, _⟩, e0, ⟨v0, _, rfl, r0, ⟨v1, _, rfl, r1, ⟨v2, _, rfl, r2, rfl⟩⟩⟩, w⟩ := h
    rfl
  · obtain ⟨F0, ⟨a0_cell, a1_many, a2_most, _⟩, e0, ⟨v0, _, rfl, r0, ⟨v1, _, rfl, r1, ⟨v2, _, rfl, r2, rfl⟩⟩⟩, w⟩ := h
    have w := wp_post w
    have G := Gr.rf e0
    have nd := sc_law_row.nd
    have hQ : ∀ r F1 H1 v, Gr F0 H0 F1 H1 → (rv K (ρ := Row)) F0 H0 F1 H1 v r → Fin (rv K (ρ := Row)) F0 H0 Q r → Q v H1 := fun r F1 H1 v g m p => p F1 H1 v g m
    refine ⟨_, (pss_cons (ps_set (i := 3) nd rfl (by first | exact Or.inl rfl | exact Or.inr rfl) (pe_op op_mod (pv 0) pe_int))
      (pss_cons (ps_set (i := 4) nd rfl (by first | exact Or.inl rfl | exact Or.inr rfl) (pe_op op_fdiv (pv 0) pe_int))
      (pss_cons (ps_if (pt_cmpR op_eq (pv 3) pe_int (nomark _)) (pss_one (ps_ret (pe_tup (pa_cons pe_str (pa_cons (pe_op op_mod (pv 4) pe_int) pa_nil))))) pss_nil)
      (pss_cons (ps_if (pt_cmpR op_eq (pv 3) pe_int (nomark _)) (pss_one (ps_ret (pe_tup (pa_cons pe_str (pa_cons (pe_op op_mod (pv 4) (pv 1)) pa_nil))))) pss_nil)
      (pss_one (ps_ret (pe_tup (pa_cons pe_str (pa_cons (pe_op op_add pe_int (pe_op op_mod (pv 4) (pv 2))) (pa_cons (pe_op op_mod (pe_op op_fdiv (pv 4) pe_int) (pv 1)) (pa_cons (pe_op op_mod (pe_op op_fdiv (pv 4) pe_int) (pv 1)) pa_nil))))))))))), ?_⟩
    have w := show Wp ce E0 H0 (m_law_row a0_cell a1_many a2_most) _ from w
    unfold m_law_row at w
    refine q_asg (K := K) G w (e2 (em_var rfl r0) em_int (o_mod (by decide))) fun kind_406 F_407 H_408 v_410 g_409 r_411 w => ?_
    have G := G.tr g_409
    have r0 := Rep.mo (K := K) g_409.ff r0
    have r1 := Rep.mo (K := K) g_409.ff r1
    have r2 := Rep.mo (K := K) g_409.ff r2
    refine q_asg (K := K) G w (e2 (em_var rfl r0) em_int (o_fdiv ⟨by decide, by decide⟩)) fun rest_412 F_413 H_414 v_416 g_415 r_417 w => ?_
    have G := G.tr g_415
    have r0 := Rep.mo (K := K) g_415.ff r0
    have r1 := Rep.mo (K := K) g_415.ff r1
    have r2 := Rep.mo (K := K) g_415.ff r2
    have r_411 := Rep.mo (K := K) g_415.ff r_411
    refine q_if2 G w (t_of (e2 (em_var rfl r_411) em_int o_eqI)) (fun F_418 H_419 g_420 w => ?_) (fun F_418 H_419 g_420 w => ?_)
    · have G := G.tr g_420
      have r0 := Rep.mo (K := K) g_420.ff r0
      have r1 := Rep.mo (K := K) g_420.ff r1
      have r2 := Rep.mo (K := K) g_420.ff r2
      have r_411 := Rep.mo (K := K) g_420.ff r_411
      have r_417 := Rep.mo (K := K) g_420.ff r_417
      exact s_ret0 G w (em_row (el_cons (e_clw (em_wd (by decide +kernel))) (el_cons (e_cli (e2 (em_var rfl r_417) em_int (o_mod (by decide)))) (el_nil (α := Cl))))) fun r F1 H1 v g m p => hQ r F1 H1 v g m p
    · have G := G.tr g_420
      have r0 := Rep.mo (K := K) g_420.ff r0
      have r1 := Rep.mo (K := K) g_420.ff r1
      have r2 := Rep.mo (K := K) g_420.ff r2
      have r_411 := Rep.mo (K := K) g_420.ff r_411
      have r_417 := Rep.mo (K := K) g_420.ff r_417
      refine s_next ?_
      refine s_nx ?_
      refine q_if2 G w (t_of (e2 (em_var rfl r_411) em_int o_eqI)) (fun F_426 H_427 g_428 w => ?_) (fun F_426 H_427 g_428 w => ?_)
      · have G := G.tr g_428
        have r0 := Rep.mo (K := K) g_428.ff r0
        have r1 := Rep.mo (K := K) g_428.ff r1
        have r2 := Rep.mo (K := K) g_428.ff r2
        have r_411 := Rep.mo (K := K) g_428.ff r_411
        have r_417 := Rep.mo (K := K) g_428.ff r_417
        exact s_ret0 G w (em_row (el_cons (e_clw (em_wd (by decide +kernel))) (el_cons (em_cli (em_op (em_var rfl r_417) (em_var rfl r1) fun _ _ => o_modM)) (el_nil (α := Cl))))) fun r F1 H1 v g m p => hQ r F1 H1 v g m p
      · have G := G.tr g_428
        have r0 := Rep.mo (K := K) g_428.ff r0
        have r1 := Rep.mo (K := K) g_428.ff r1
        have r2 := Rep.mo (K := K) g_428.ff r2
        have r_411 := Rep.mo (K := K) g_428.ff r_411
        have r_417 := Rep.mo (K := K) g_428.ff r_417
        refine s_next ?_
        refine s_nx ?_
        exact s_ret0 G w (em_row (el_cons (e_clw (em_wd (by decide +kernel))) (el_cons (em_cli (em_op em_int (em_op (em_var rfl r_417) (em_var rfl r2) fun _ _ => o_modM) fun _ _ => o_add)) (el_cons (em_cli (em_op (e2 (em_var rfl r_417) em_int (o_fdiv ⟨by decide, by decide⟩)) (em_var rfl r1) fun _ _ => o_modM)) (el_cons (em_cli (em_op (e2 (em_var rfl r_417) em_int (o_fdiv ⟨by decide, by decide⟩)) (em_var rfl r1) fun _ _ => o_modM)) (el_nil (α := Cl))))))) fun r F1 H1 v g m p => hQ r F1 H1 v g m p
/-! ### _law_forward -/
abbrev s_law_forward : Stmt := topS 23
abbrev N_law_forward : List Str := ["rows", "made", "k", "one", "left"]
theorem sc_law_forward : FnScope N_law_forward ["rows"] (defScope s_law_forward) := ⟨rfl, rfl, rfl, by decide +kernel, rfl, by decide +kernel, by decide +kernel⟩
abbrev sp_law_forward (K : PySem.W.Frag) (ce : Ce) : Sp := SpF0 ce (RC K (α := (List Row)) R0) (rn K (α := Row)) (fun a : ((List Row) × Unit) => m_law_forward a.1)
theorem ok_law_forward {f : Addr} {fd : FuncData} (FF : Fun K "_law_forward" "_law_forward" s_law_forward f fd) (z_len : mg "len" = none) (z_range : mg "range" = none) : FnOk P w K mg base CX0 1 f fd ["rows"] (sp_law_forward K ce) := by
  refine FF.ok sc_law_forward (fun vs H0 Q E h => ?_) (fun cdv A outer s H0 vs Q E hr h => ?_)
  · obtain ⟨F0, ⟨a0_rows, _⟩, e0, ⟨v0, _, rfl, r0, rfl⟩, w⟩ := h
    rfl
  · obtain ⟨F0, ⟨a0_rows, _⟩, e0, ⟨v0, _, rfl, r0, rfl⟩, w⟩ := h
    have w := wp_post w
    have G := Gr.rf e0
    have nd := sc_law_forward.nd
    have hQ : ∀ r F1 H1 v, Gr F0 H0 F1 H1 → (rn K (α := Row)) F0 H0 F1 H1 v r → Fin (rn K (α := Row)) F0 H0 Q r → Q v H1 := fun r F1 H1 v g m p => p F1 H1 v g m
    refine ⟨_, (pss_cons (ps_set (i := 1) nd rfl (by first | exact Or.inl rfl | exact Or.inr rfl) (pe_lst pa_nil))
      (pss_cons (ps_for (by first | exact PassesOwn.never | exact passes_of rfl) rfl (pi_range1 rfl z_range (pa_cons (pe_callB (r := rLenS K) call_len_seq (by rfl) z_len (by decide +kernel) (pa_cons (pv 0) pa_nil)) pa_nil)) (pg_name (i := 2) nd rfl (by first | exact Or.inl rfl | exact Or.inr rfl)) (pss_cons (ps_set (i := 3) nd rfl (by first | exact Or.inl rfl | exact Or.inr rfl) (pe_ix (r := rIxL K) ix_list (pv 0) (pv 2) (fun _ _ => rfl)))
      (pss_cons (ps_set (i := 4) nd rfl (by first | exact Or.inl rfl | exact Or.inr rfl) (pe_op op_sub (pe_op op_sub (pe_callB (r := rLenS K) call_len_seq (by rfl) z_len (by decide +kernel) (pa_cons (pv 0) pa_nil)) pe_int) (pv 2)))
      (pss_cons (ps_if (pt_cmpR (r := rEqD K) (op_eqD hr.units) (pe_ix (r := rIxT K) ix_tup (pv 3) pe_int (fun _ _ => rfl)) pe_str (nomark _)) (pss_one (ps_set (i := 3) nd rfl (by first | exact Or.inl rfl | exact Or.inr rfl) (pe_tup (pa_cons pe_str (pa_cons (pe_ix (r := rIxT K) ix_tup (pv 3) pe_int (fun _ _ => rfl)) (pa_cons (pe_op op_add (pe_op op_add (pv 2) pe_int) (pe_op op_mod (pe_ix (r := rIxT K) ix_tup (pv 3) pe_int (fun _ _ => rfl)) (pv 4))) (pa_cons (pe_op op_add (pe_op op_add (pv 2) pe_int) (pe_op op_mod (pe_ix (r := rIxT K) ix_tup (pv 3) pe_int (fun _ _ => rfl)) (pv 4))) pa_nil))))))) (pss_one (ps_if (pt_cmpR (r := rEqD K) (op_eqD hr.units) (pe_ix (r := rIxT K) ix_tup (pv 3) pe_int (fun _ _ => rfl)) pe_str (nomark _)) (pss_one (ps_set (i := 3) nd rfl (by first | exact Or.inl rfl | exact Or.inr rfl) (pe_tup (pa_cons pe_str (pa_cons (pe_op op_add (pe_op op_add (pv 2) pe_int) (pe_op op_mod (pe_ix (r := rIxT K) ix_tup (pv 3) pe_int (fun _ _ => rfl)) (pv 4))) pa_nil))))) pss_nil)))
      (pss_one (ps_expr (pe_bm PySem.F.plainAttrs_list PySem.F.slot_list_append PySem.F.type_list_append mt_append (pv 1) (pa_cons (pv 3) pa_nil))))))))
      (pss_one (ps_ret (pv 1))))), ?_⟩
    have w := show Wp ce E0 H0 (m_law_forward a0_rows) _ from w
    unfold m_law_forward at w
    refine q_asgN (K := K) G w (e_lst (el_nil (α := Row)) (by decide)) fun made_596 F_597 H_598 p_600 g_599 n_601 o_602 w => ?_
    have n0p_600 := ex_back G.hh n_601
    have G := G.tr g_599
    have r0 := Rep.mo (K := K) g_599.ff r0
    refine q_for (S := (List Row)) (fun s F' H' σ' => ∃ (z_603 : Option V) (z_604 : Option V) (z_605 : Option V), σ' = [some v0, some (.ref p_600), z_603, z_604, z_605] ∧ Gr F0 H0 F' H' ∧ Ex F_597 F' ∧ Own K (T := (List Row)) F' H' p_600 s) G (ei_rng1 (e_cb (e_cons (em_var rfl r0) ea_nil) a_len)) (tg_name (K := K)) w (fun _ _ g_730 => ⟨_, _, _, rfl, G.tr g_730, g_730.ff, o_602.mo g_730⟩) (fun _ _ _ _ ⟨_, _, _, _, G, _⟩ => G) ?_ ?_
    · rintro x_607 s_606 F_608 H_609 _ ⟨z_603, z_604, z_605, hs_610, G, e_611, o_612⟩ F_613 H_614 σ_615 g_616 ⟨v_624, h_626, r_625⟩ D_621 P_622 hrt_623 hN_617 hC_618 hB_619 hP_620 w
      subst hs_610
      subst h_626
      have r0 := Rep.mo (K := K) e_611 r0
      have G := G.tr g_616
      have r0 := Rep.mo (K := K) g_616.ff r0
      have o_612 := o_612.mo g_616
      have e_611 := Ex.tr e_611 g_616.ff
      have e_627 := Ex.rf F_613
      have hQ : ∀ r F1 H1 v, Gr F0 H0 F1 H1 → (rn K (α := Row)) F0 H0 F1 H1 v r → P_622 (.rt r) → D_621.rt v H1 := fun r F1 H1 v g m p => by rw [hrt_623]; exact hQ r F1 H1 v g m (hP_620 _ p)
      unfold m_law_forward_b1 at w
      refine q_asg (K := K) G w (em_op (em_var rfl r0) (em_var rfl r_625) fun _ _ => o_ixL) fun one_630 F_631 H_632 v_634 g_633 r_635 w => ?_
      have G := G.tr g_633
      have r0 := Rep.mo (K := K) g_633.ff r0
      have o_612 := o_612.mo g_633
      have r_625 := Rep.mo (K := K) g_633.ff r_625
      have e_611 := Ex.tr e_611 g_633.ff
      have e_627 := Ex.tr e_627 g_633.ff
      refine q_asg (K := K) G w (e2 (e2 (e_cb (e_cons (em_var rfl r0) ea_nil) a_len) em_int o_sub) (em_var rfl r_625) o_sub) fun left_636 F_637 H_638 v_640 g_639 r_641 w => ?_
      have G := G.tr g_639
      have r0 := Rep.mo (K := K) g_639.ff r0
      have o_612 := o_612.mo g_639
      have r_625 := Rep.mo (K := K) g_639.ff r_625
      have r_635 := Rep.mo (K := K) g_639.ff r_635
      have e_611 := Ex.tr e_611 g_639.ff
      have e_627 := Ex.tr e_627 g_639.ff
      refine q_join (W := Row) (fun s F' H' σ' => ∃ (v_650 : V), σ' = [some v0, some (.ref p_600), some v_624, some v_650, some v_640] ∧ Gr F0 H0 F' H' ∧ Ex F_637 F' ∧ rp (α := Row) K F' v_650 s ∧ Own K (T := (List Row)) F' H' p_600 s_606) w ?_ ?_
      · rintro s_649 F_655 H_656 σs_649 ⟨v_650, hs_651, G, e_652, r_653, o_654⟩ w
        subst hs_651
        have r0 := Rep.mo (K := K) e_652 r0
        have r_625 := Rep.mo (K := K) e_652 r_625
        have r_641 := Rep.mo (K := K) e_652 r_641
        have e_611 := Ex.tr e_611 e_652
        have e_627 := Ex.tr e_627 e_652
        refine s_app rfl o_654 n0p_600 G w (em_var rfl r_653) fun made_657 F_658 H_659 e_660 G o_661 hO_662 w => ?_
        have r0 := Rep.mo (K := K) e_660 r0
        have r_625 := Rep.mo (K := K) e_660 r_625
        have r_653 := Rep.mo (K := K) e_660 r_653
        have r_641 := Rep.mo (K := K) e_660 r_641
        have e_611 := Ex.tr e_611 e_660
        have e_627 := Ex.tr e_627 e_660
        exact hN_617 _ w _ _ _ e_627 ⟨_, _, _, rfl, G, e_611, o_661⟩
      · intro P_665 hk_664 w
        refine s_if2 G w (t_of (em_op (em_op (em_var rfl r_635) em_int fun _ _ => o_rowix) (e_clw (em_wd (by decide +kernel))) fun _ _ => (o_eqD (by decide)))) (fun F_646 H_647 g_648 w => ?_) (fun F_646 H_647 g_648 w => ?_)
        · have e_666 : Ex F_637 F_646 := g_648.ff
          have G := G.tr g_648
          have r0 := Rep.mo (K := K) g_648.ff r0
          have o_612 := o_612.mo g_648
          have r_625 := Rep.mo (K := K) g_648.ff r_625
          have r_635 := Rep.mo (K := K) g_648.ff r_635
          have r_641 := Rep.mo (K := K) g_648.ff r_641
          have e_611 := Ex.tr e_611 g_648.ff
          have e_627 := Ex.tr e_627 g_648.ff
          refine s_asg (K := K) G w (em_row (el_cons (e_clw (em_wd (by decide +kernel))) (el_cons (em_op (em_var rfl r_635) em_int fun _ _ => o_rowix) (el_cons (em_cli (em_op (e2 (em_var rfl r_625) em_int o_add) (em_op (em_clI (em_op (em_var rfl r_635) em_int fun _ _ => o_rowix)) (em_var rfl r_641) fun _ _ => o_modM) fun _ _ => o_add)) (el_cons (em_cli (em_op (e2 (em_var rfl r_625) em_int o_add) (em_op (em_clI (em_op (em_var rfl r_635) em_int fun _ _ => o_rowix)) (em_var rfl r_641) fun _ _ => o_modM) fun _ _ => o_add)) (el_nil (α := Cl))))))) fun one_692 F_693 H_694 v_696 g_695 r_697 w => ?_
          have G := G.tr g_695
          have r0 := Rep.mo (K := K) g_695.ff r0
          have o_612 := o_612.mo g_695
          have r_625 := Rep.mo (K := K) g_695.ff r_625
          have r_641 := Rep.mo (K := K) g_695.ff r_641
          have e_611 := Ex.tr e_611 g_695.ff
          have e_627 := Ex.tr e_627 g_695.ff
          have e_666 := Ex.tr e_666 g_695.ff
          exact hk_664 _ w _ _ _ ⟨_, rfl, G, e_666, r_697, o_612⟩
        · have e_666 : Ex F_637 F_646 := g_648.ff
          have G := G.tr g_648
          have r0 := Rep.mo (K := K) g_648.ff r0
          have o_612 := o_612.mo g_648
          have r_625 := Rep.mo (K := K) g_648.ff r_625
          have r_635 := Rep.mo (K := K) g_648.ff r_635
          have r_641 := Rep.mo (K := K) g_648.ff r_641
          have e_611 := Ex.tr e_611 g_648.ff
          have e_627 := Ex.tr e_627 g_648.ff
          refine s_if2 G w (t_of (em_op (em_op (em_var rfl r_635) em_int fun _ _ => o_rowix) (e_clw (em_wd (by decide +kernel))) fun _ _ => (o_eqD (by decide)))) (fun F_702 H_703 g_704 w => ?_) (fun F_702 H_703 g_704 w => ?_)
          · have G := G.tr g_704
            have r0 := Rep.mo (K := K) g_704.ff r0
            have o_612 := o_612.mo g_704
            have r_625 := Rep.mo (K := K) g_704.ff r_625
            have r_635 := Rep.mo (K := K) g_704.ff r_635
            have r_641 := Rep.mo (K := K) g_704.ff r_641
            have e_611 := Ex.tr e_611 g_704.ff
            have e_627 := Ex.tr e_627 g_704.ff
            have e_666 := Ex.tr e_666 g_704.ff
            refine s_asg (K := K) G w (em_row (el_cons (e_clw (em_wd (by decide +kernel))) (el_cons (em_cli (em_op (e2 (em_var rfl r_625) em_int o_add) (em_op (em_clI (em_op (em_var rfl r_635) em_int fun _ _ => o_rowix)) (em_var rfl r_641) fun _ _ => o_modM) fun _ _ => o_add)) (el_nil (α := Cl))))) fun one_717 F_718 H_719 v_721 g_720 r_722 w => ?_
            have G := G.tr g_720
            have r0 := Rep.mo (K := K) g_720.ff r0
            have o_612 := o_612.mo g_720
            have r_625 := Rep.mo (K := K) g_720.ff r_625
            have r_641 := Rep.mo (K := K) g_720.ff r_641
            have e_611 := Ex.tr e_611 g_720.ff
            have e_627 := Ex.tr e_627 g_720.ff
            have e_666 := Ex.tr e_666 g_720.ff
            exact hk_664 _ w _ _ _ ⟨_, rfl, G, e_666, r_722, o_612⟩
          · have G := G.tr g_704
            have r0 := Rep.mo (K := K) g_704.ff r0
            have o_612 := o_612.mo g_704
            have r_625 := Rep.mo (K := K) g_704.ff r_625
            have r_635 := Rep.mo (K := K) g_704.ff r_635
            have r_641 := Rep.mo (K := K) g_704.ff r_641
            have e_611 := Ex.tr e_611 g_704.ff
            have e_627 := Ex.tr e_627 g_704.ff
            have e_666 := Ex.tr e_666 g_704.ff
            refine s_next ?_
            exact hk_664 _ w _ _ _ ⟨_, rfl, G, e_666, r_635, o_612⟩
    · rintro s_726 F_727 H_728 _ e_729 ⟨z_603, z_604, z_605, hs_723, G, e_724, o_725⟩ w
      subst hs_723
      have r0 := Rep.mo (K := K) e_724 r0
      exact ⟨_, rfl, hQ _ _ _ _ G (rn_own o_725 n0p_600) w⟩
/-! ### _law_cell -/
abbrev s_law_cell : Stmt := topS 19
abbrev N_law_cell : List Str := ["script", "k", "first", "stir"]
theorem sc_law_cell : FnScope N_law_cell ["script", "k"] (defScope s_law_cell) := ⟨rfl, rfl, rfl, by decide +kernel, rfl, by decide +kernel, by decide +kernel⟩
abbrev sp_law_cell (K : PySem.W.Frag) (ce : Ce) : Sp := SpF0 ce (RC K (α := Scr) (RC K (α := Int) R0)) (rv K (ρ := Int)) (fun a : (Scr × Int × Unit) => m_law_cell a.1 a.2.1)
theorem ok_law_cell {f : Addr} {fd : FuncData} (FF : Fun K "_law_cell" "_law_cell" s_law_cell f fd) (z_len : mg "len" = none) : FnOk P w K mg base CX0 1 f fd ["script", "k"] (sp_law_cell K ce) := by
  refine FF.ok sc_law_cell (fun vs H0 Q E h => ?_) (fun cdv A outer s H0 vs Q E hr h => ?_)
  · obtain ⟨F0, ⟨a0_script, a1_k, _⟩, e0, ⟨v0, _, rfl, r0, ⟨v1, _, rfl, r1, rfl⟩⟩, w⟩ := h
    rfl
  · obtain ⟨F0, ⟨a0_script, a1_k, _⟩, e0, ⟨v0, _, rfl, r0, ⟨v1, _, rfl, r1, rfl⟩⟩, w⟩ := h
    have w := wp_post w
    have G := Gr.rf e0
    have nd := sc_law_cell.nd
    have hQ : ∀ r F1 H1 v, Gr F0 H0 F1 H1 → (rv K (ρ := Int)) F0 H0 F1 H1 v r → Fin (rv K (ρ := Int)) F0 H0 Q r → Q v H1 := fun r F1 H1 v g m p => p F1 H1 v g m
    refine ⟨_, (pss_cons (ps_if (pt_cmpR op_lt (pv 1) (pe_callB (r := rLenS K) call_len_seq (by rfl) z_len (by decide +kernel) (pa_cons (pv 0) pa_nil)) (nomark _)) (pss_one (ps_ret (pe_op op_mod (pe_ix (r := rIxL K) ix_list (pv 0) (pv 1) (fun _ _ => rfl)) (pe_op op_pow pe_int pe_int)))) pss_nil)
      (pss_cons (ps_set (i := 2) nd rfl (by first | exact Or.inl rfl | exact Or.inr rfl) pe_int)
      (pss_cons (ps_if (pt_cmpR op_gt (pe_callB (r := rLenS K) call_len_seq (by rfl) z_len (by decide +kernel) (pa_cons (pv 0) pa_nil)) pe_int (nomark _)) (pss_one (ps_set (i := 2) nd rfl (by first | exact Or.inl rfl | exact Or.inr rfl) (pe_op op_mod (pe_ix (r := rIxL K) ix_list (pv 0) pe_int (fun _ _ => rfl)) (pe_op op_pow pe_int pe_int)))) pss_nil)
      (pss_cons (ps_set (i := 3) nd rfl (by first | exact Or.inl rfl | exact Or.inr rfl) (pe_op op_mod (pe_op op_mul (pe_op op_add (pe_op op_add (pv 2) (pe_op op_mul pe_int (pv 1))) pe_int) pe_int) pe_int))
      (pss_cons (ps_set (i := 3) nd rfl (by first | exact Or.inl rfl | exact Or.inr rfl) (pe_op op_mod (pe_op op_mulW (pv 3) (pv 3)) pe_int))
      (pss_cons (ps_set (i := 3) nd rfl (by first | exact Or.inl rfl | exact Or.inr rfl) (pe_op op_mod (pe_op op_mul (pe_op op_add (pv 3) (pe_op op_mul pe_int (pv 1))) pe_int) pe_int))
      (pss_one (ps_ret (pe_op op_fdivW (pe_op op_mulW (pv 3) (pv 3)) pe_int))))))))), ?_⟩
    have w := show Wp ce E0 H0 (m_law_cell a0_script a1_k) _ from w
    unfold m_law_cell at w
    refine q_if2 G w (t_of (e2 (em_var rfl r1) (e_cb (e_cons (em_var rfl r0) ea_nil) a_lenS) o_lt)) (fun F_794 H_795 g_796 w => ?_) (fun F_794 H_795 g_796 w => ?_)
    · have G := G.tr g_796
      have r0 := Rep.mo (K := K) g_796.ff r0
      have r1 := Rep.mo (K := K) g_796.ff r1
      exact s_ret0 G w (em_op (em_op (em_var rfl r0) (em_var rfl r1) fun _ _ => o_ixS) (e_is (e2 em_int em_int (o_pow (by decide))) pow_10_60) fun _ _ => o_modM) fun r F1 H1 v g m p => hQ r F1 H1 v g m p
    · have G := G.tr g_796
      have r0 := Rep.mo (K := K) g_796.ff r0
      have r1 := Rep.mo (K := K) g_796.ff r1
      refine s_next ?_
      refine s_nx ?_
      refine q_asg (K := K) G w em_int fun first_801 F_802 H_803 v_805 g_804 r_806 w => ?_
      have G := G.tr g_804
      have r0 := Rep.mo (K := K) g_804.ff r0
      have r1 := Rep.mo (K := K) g_804.ff r1
      refine q_join (W := Int) (fun s F' H' σ' => ∃ (v_811 : V), σ' = [some v0, some v1, some v_811, none] ∧ Gr F0 H0 F' H' ∧ Ex F_802 F' ∧ rp (α := Int) K F' v_811 s) w ?_ ?_
      · rintro s_810 F_815 H_816 σs_810 ⟨v_811, hs_812, G, e_813, r_814⟩ w
        subst hs_812
        have r0 := Rep.mo (K := K) e_813 r0
        have r1 := Rep.mo (K := K) e_813 r1
        refine q_asg (K := K) G w (e2 (e2 (e2 (e2 (em_var rfl r_814) (e2 em_int (em_var rfl r1) (o_mulL (.inl ⟨by decide, by decide⟩))) o_add) em_int o_add) em_int (o_mulL (.inr ⟨by decide, by decide⟩))) em_int (o_mod (by decide))) fun stir_817 F_818 H_819 v_821 g_820 r_822 w => ?_
        have G := G.tr g_820
        have r0 := Rep.mo (K := K) g_820.ff r0
        have r1 := Rep.mo (K := K) g_820.ff r1
        have r_814 := Rep.mo (K := K) g_820.ff r_814
        refine q_asg (K := K) G w (em_op (em_op (em_var rfl r_822) (em_var rfl r_822) fun _ _ => o_mul) em_int fun _ _ => o_modM) fun stir_827 F_828 H_829 v_831 g_830 r_832 w => ?_
        have G := G.tr g_830
        have r0 := Rep.mo (K := K) g_830.ff r0
        have r1 := Rep.mo (K := K) g_830.ff r1
        have r_814 := Rep.mo (K := K) g_830.ff r_814
        refine q_asg (K := K) G w (e2 (e2 (e2 (em_var rfl r_832) (e2 em_int (em_var rfl r1) (o_mulL (.inl ⟨by decide, by decide⟩))) o_add) em_int (o_mulL (.inr ⟨by decide, by decide⟩))) em_int (o_mod (by decide))) fun stir_833 F_834 H_835 v_837 g_836 r_838 w => ?_
        have G := G.tr g_836
        have r0 := Rep.mo (K := K) g_836.ff r0
        have r1 := Rep.mo (K := K) g_836.ff r1
        have r_814 := Rep.mo (K := K) g_836.ff r_814
        exact s_ret0 G w (em_op (em_op (em_var rfl r_838) (em_var rfl r_838) fun _ _ => o_mul) em_int fun _ _ => o_fdivM) fun r F1 H1 v g m p => hQ r F1 H1 v g m p
      · intro P_844 hk_843 w
        refine s_if2 G w (t_of (e2 (e_cb (e_cons (em_var rfl r0) ea_nil) a_lenS) em_int o_gt)) (fun F_807 H_808 g_809 w => ?_) (fun F_807 H_808 g_809 w => ?_)
        · have e_845 : Ex F_802 F_807 := g_809.ff
          have G := G.tr g_809
          have r0 := Rep.mo (K := K) g_809.ff r0
          have r1 := Rep.mo (K := K) g_809.ff r1
          have r_806 := Rep.mo (K := K) g_809.ff r_806
          refine s_asg (K := K) G w (em_op (em_op (em_var rfl r0) em_int fun _ _ => o_ixS) (e_is (e2 em_int em_int (o_pow (by decide))) pow_10_60) fun _ _ => o_modM) fun first_850 F_851 H_852 v_854 g_853 r_855 w => ?_
          have G := G.tr g_853
          have r0 := Rep.mo (K := K) g_853.ff r0
          have r1 := Rep.mo (K := K) g_853.ff r1
          have e_845 := Ex.tr e_845 g_853.ff
          exact hk_843 _ w _ _ _ ⟨_, rfl, G, e_845, r_855⟩
        · have e_845 : Ex F_802 F_807 := g_809.ff
          have G := G.tr g_809
          have r0 := Rep.mo (K := K) g_809.ff r0
          have r1 := Rep.mo (K := K) g_809.ff r1
          have r_806 := Rep.mo (K := K) g_809.ff r_806
          refine s_next ?_
          exact hk_843 _ w _ _ _ ⟨_, rfl, G, e_845, r_806⟩
/-! ### _law_rows -/
abbrev s_law_rows : Stmt := topS 24
abbrev N_law_rows : List Str := ["script", "at", "many", "most", "crushers", "rows", "k", "row", "one"]
theorem sc_law_rows : FnScope N_law_rows ["script", "at", "many", "most", "crushers"] (defScope s_law_rows) := ⟨rfl, rfl, rfl, by decide +kernel, rfl, by decide +kernel, by decide +kernel⟩
abbrev sp_law_rows (K : PySem.W.Frag) (ce : Ce) : Sp := SpF0 ce (RC K (α := Scr) (RC K (α := Int) (RC K (α := Int) (RC K (α := Int) (RC K (α := Int) R0))))) (rn K (α := Row)) (fun a : (Scr × Int × Int × Int × Int × Unit) => m_law_rows a.1 a.2.1 a.2.2.1 a.2.2.2.1 a.2.2.2.2.1)
theorem ok_law_rows {f : Addr} {fd : FuncData} (FF : Fun K "_law_rows" "_law_rows" s_law_rows f fd) {a__law_cell : Addr} {d__law_cell : FuncData} (G__law_cell : FnOk P w K mg base CX0 1 a__law_cell d__law_cell ["script", "k"] (sp_law_cell K ce)) (mg__law_cell : mg "_law_cell" = some (.ref a__law_cell)) (k__law_cell : PySem.W.keepIn K (.ref a__law_cell) = true) (b__law_cell : Binds K d__law_cell ["script", "k"] []) {a__law_forward : Addr} {d__law_forward : FuncData} (G__law_forward : FnOk P w K mg base CX0 1 a__law_forward d__law_forward ["rows"] (sp_law_forward K ce)) (mg__law_forward : mg "_law_forward" = some (.ref a__law_forward)) (k__law_forward : PySem.W.keepIn K (.ref a__law_forward) = true) (b__law_forward : Binds K d__law_forward ["rows"] []) {a__law_row : Addr} {d__law_row : FuncData} (G__law_row : FnOk P w K mg base CX0 1 a__law_row d__law_row ["cell", "many", "most"] (sp_law_row K ce)) (mg__law_row : mg "_law_row" = some (.ref a__law_row)) (k__law_row : PySem.W.keepIn K (.ref a__law_row) = true) (b__law_row : Binds K d__law_row ["cell", "many", "most"] []) {a__law_stuck : Addr} {d__law_stuck : FuncData} (G__law_stuck : FnOk P w K mg base CX0 2 a__law_stuck d__law_stuck ["rows"] (sp_law_stuck K ce)) (mg__law_stuck : mg "_law_stuck" = some (.ref a__law_stuck)) (k__law_stuck : PySem.W.keepIn K (.ref a__law_stuck) = true) (b__law_stuck : Binds K d__law_stuck ["rows"] []) (z_len : mg "len" = none) (z_range : mg "range" = none) : FnOk P w K mg base CX0 3 f fd ["script", "at", "many", "most", "crushers"] (sp_law_rows K ce) := by
  refine FF.ok sc_law_rows (fun vs H0 Q E h => ?_) (fun cdv A outer s H0 vs Q E hr h => ?_)
  · obtain ⟨F0, ⟨a0_script, a1_at, a2_many, a3_most, a4_crushers, _⟩, e0, ⟨v0, _, rfl, r0, ⟨v1, _, rfl, r1, ⟨v2, _, rfl, r2, ⟨v3, _, rfl, r3, ⟨v4, _, rfl, r4, rfl⟩⟩⟩⟩⟩, w⟩ := h
    rfl
  · obtain ⟨F0, ⟨a0_script, a1_at, a2_many, a3_most, a4_crushers, _⟩, e0, ⟨v0, _, rfl, r0, ⟨v1, _, rfl, r1, ⟨v2, _, rfl, r2, ⟨v3, _, rfl, r3, ⟨v4, _, rfl, r4, rfl⟩⟩⟩⟩⟩, w⟩ := h
    have w := wp_post w
    have G := Gr.rf e0
    have nd := sc_law_rows.nd
    have hQ : ∀ r F1 H1 v, Gr F0 H0 F1 H1 → (rn K (α := Row)) F0 H0 F1 H1 v r → Fin (rn K (α := Row)) F0 H0 Q r → Q v H1 := fun r F1 H1 v g m p => p F1 H1 v g m
    refine ⟨_, (pss_cons (ps_set (i := 5) nd rfl (by first | exact Or.inl rfl | exact Or.inr rfl) (pe_lst pa_nil))
      (pss_cons (ps_for (by first | exact PassesOwn.never | exact passes_of rfl) rfl (pi_range1 rfl z_range (pa_cons (pe_op op_sub (pv 2) pe_int) pa_nil)) (pg_name (i := 6) nd rfl (by first | exact Or.inl rfl | exact Or.inr rfl)) (pss_cons (ps_set (i := 7) nd rfl (by first | exact Or.inl rfl | exact Or.inr rfl) (pe_call G__law_row (hr.mono (by decide)) rfl mg__law_row k__law_row b__law_row .nil pass0 (pa_cons (pe_call G__law_cell (hr.mono (by decide)) rfl mg__law_cell k__law_cell b__law_cell .nil pass0 (pa_cons (pv 0) (pa_cons (pe_op op_add (pv 1) (pv 6)) pa_nil))) (pa_cons (pv 2) (pa_cons (pv 3) pa_nil)))))
      (pss_cons (ps_if (PW.pt (pw_and (pt_cmpR (r := rEqD K) (op_eqD hr.units) (pe_ix (r := rIxT K) ix_tup (pv 7) pe_int (fun _ _ => rfl)) pe_str (nomark _)) (pw_and1 (pt_cmpR op_ge (pe_callB (r := rLenS K) call_len_seq (by rfl) z_len (by decide +kernel) (pa_cons (pe_lc (own := [("one", 8)]) (g := (gName 8)) (by rfl) nd (pi_list (pv 5)) (blkOk_by (own := [("one", 8)]) (N := N_law_rows) (sc := defScope s_law_rows) (by decide +kernel)) (fun _ _ _ _ _ => (pg_name (i := 8) nd rfl (by first | exact Or.inl rfl | exact Or.inr rfl))) (fun _ _ _ _ _ => (pts_one (pt_cmpR (r := rEqD K) (op_eqD hr.units) (pe_ix (r := rIxT K) ix_tup (pv 8) pe_int (fun _ _ => rfl)) pe_str (nomark _)))) (fun _ _ _ _ _ => (pv 8))) pa_nil)) (pv 4) (nomark _))))) (pss_one (ps_set (i := 7) nd rfl (by first | exact Or.inl rfl | exact Or.inr rfl) (pe_tup (pa_cons pe_str (pa_cons (pe_op op_mod (pe_ix (r := rIxT K) ix_tup (pv 7) pe_int (fun _ _ => rfl)) pe_int) pa_nil))))) pss_nil)
      (pss_one (ps_expr (pe_bm PySem.F.plainAttrs_list PySem.F.slot_list_append PySem.F.type_list_append mt_append (pv 5) (pa_cons (pv 7) pa_nil)))))))
      (pss_cons (ps_expr (pe_bm PySem.F.plainAttrs_list PySem.F.slot_list_append PySem.F.type_list_append mt_append (pv 5) (pa_cons (pe_tup (pa_cons pe_str (pa_cons (pe_op op_mod (pe_call G__law_cell (hr.mono (by decide)) rfl mg__law_cell k__law_cell b__law_cell .nil pass0 (pa_cons (pv 0) (pa_cons (pe_op op_sub (pe_op op_add (pv 1) (pv 2)) pe_int) pa_nil))) pe_int) pa_nil))) pa_nil)))
      (pss_cons (ps_if (pt_val (pe_call G__law_stuck (hr.mono (by decide)) rfl mg__law_stuck k__law_stuck b__law_stuck .nil pass0 (pa_cons (pv 5) pa_nil))) (pss_one (ps_ret (pe_call G__law_forward (hr.mono (by decide)) rfl mg__law_forward k__law_forward b__law_forward .nil pass0 (pa_cons (pv 5) pa_nil)))) pss_nil)
      (pss_one (ps_ret (pv 5))))))), ?_⟩
    have w := show Wp ce E0 H0 (m_law_rows a0_script a1_at a2_many a3_most a4_crushers) _ from w
    unfold m_law_rows at w
    refine q_asgN (K := K) G w (e_lst (el_nil (α := Row)) (by decide)) fun rows_986 F_987 H_988 p_990 g_989 n_991 o_992 w => ?_
    have n0p_990 := ex_back G.hh n_991
    have G := G.tr g_989
    have r0 := Rep.mo (K := K) g_989.ff r0
    have r1 := Rep.mo (K := K) g_989.ff r1
    have r2 := Rep.mo (K := K) g_989.ff r2
    have r3 := Rep.mo (K := K) g_989.ff r3
    have r4 := Rep.mo (K := K) g_989.ff r4
    refine q_for (S := (List Row)) (fun s F' H' σ' => ∃ (z_993 : Option V) (z_994 : Option V), σ' = [some v0, some v1, some v2, some v3, some v4, some (.ref p_990), z_993, z_994, none] ∧ Gr F0 H0 F' H' ∧ Ex F_987 F' ∧ Own K (T := (List Row)) F' H' p_990 s) G (ei_rng1 (e2 (em_var rfl r2) em_int o_sub)) (tg_name (K := K)) w (fun _ _ g_1111 => ⟨_, _, rfl, G.tr g_1111, g_1111.ff, o_992.mo g_1111⟩) (fun _ _ _ _ ⟨_, _, _, G, _⟩ => G) ?_ ?_
    · rintro x_996 s_995 F_997 H_998 _ ⟨z_993, z_994, hs_999, G, e_1000, o_1001⟩ F_1002 H_1003 σ_1004 g_1005 ⟨v_1013, h_1015, r_1014⟩ D_1010 P_1011 hrt_1012 hN_1006 hC_1007 hB_1008 hP_1009 w
      subst hs_999
      subst h_1015
      have r0 := Rep.mo (K := K) e_1000 r0
      have r1 := Rep.mo (K := K) e_1000 r1
      have r2 := Rep.mo (K := K) e_1000 r2
      have r3 := Rep.mo (K := K) e_1000 r3
      have r4 := Rep.mo (K := K) e_1000 r4
      have G := G.tr g_1005
      have r0 := Rep.mo (K := K) g_1005.ff r0
      have r1 := Rep.mo (K := K) g_1005.ff r1
      have r2 := Rep.mo (K := K) g_1005.ff r2
      have r3 := Rep.mo (K := K) g_1005.ff r3
      have r4 := Rep.mo (K := K) g_1005.ff r4
      have o_1001 := o_1001.mo g_1005
      have e_1000 := Ex.tr e_1000 g_1005.ff
      have e_1016 := Ex.rf F_1002
      have hQ : ∀ r F1 H1 v, Gr F0 H0 F1 H1 → (rn K (α := Row)) F0 H0 F1 H1 v r → P_1011 (.rt r) → D_1010.rt v H1 := fun r F1 H1 v g m p => by rw [hrt_1012]; exact hQ r F1 H1 v g m (hP_1009 _ p)
      unfold m_law_rows_b1 at w
      refine q_asg (K := K) G w (em_call0 (f := (fun a : (Int × Int × Int × Unit) => m_law_row a.1 a.2.1 a.2.2.1)) (ea_cons (e_call0 (f := (fun a : (Scr × Int × Unit) => m_law_cell a.1 a.2.1)) (x := (a0_script, (a1_at + x_996), ())) (e_cons (em_var rfl r0) (e_cons (e2 (em_var rfl r1) (em_var rfl r_1014) o_add) ea_nil))) (ea_cons (em_var rfl r2) (ea_cons (em_var rfl r3) ea_nil)))) fun row_1024 F_1025 H_1026 v_1028 g_1027 r_1029 w => ?_
      have G := G.tr g_1027
      have r0 := Rep.mo (K := K) g_1027.ff r0
      have r1 := Rep.mo (K := K) g_1027.ff r1
      have r2 := Rep.mo (K := K) g_1027.ff r2
      have r3 := Rep.mo (K := K) g_1027.ff r3
      have r4 := Rep.mo (K := K) g_1027.ff r4
      have o_1001 := o_1001.mo g_1027
      have r_1014 := Rep.mo (K := K) g_1027.ff r_1014
      have e_1000 := Ex.tr e_1000 g_1027.ff
      have e_1016 := Ex.tr e_1016 g_1027.ff
      refine q_join (W := Row) (fun s F' H' σ' => ∃ (v_1053 : V), σ' = [some v0, some v1, some v2, some v3, some v4, some (.ref p_990), some v_1013, some v_1053, none] ∧ Gr F0 H0 F' H' ∧ Ex F_1025 F' ∧ rp (α := Row) K F' v_1053 s ∧ Own K (T := (List Row)) F' H' p_990 s_995) w ?_ ?_
      · rintro s_1052 F_1058 H_1059 σs_1052 ⟨v_1053, hs_1054, G, e_1055, r_1056, o_1057⟩ w
        subst hs_1054
        have r0 := Rep.mo (K := K) e_1055 r0
        have r1 := Rep.mo (K := K) e_1055 r1
        have r2 := Rep.mo (K := K) e_1055 r2
        have r3 := Rep.mo (K := K) e_1055 r3
        have r4 := Rep.mo (K := K) e_1055 r4
        have r_1014 := Rep.mo (K := K) e_1055 r_1014
        have e_1000 := Ex.tr e_1000 e_1055
        have e_1016 := Ex.tr e_1016 e_1055
        refine s_app rfl o_1057 n0p_990 G w (em_var rfl r_1056) fun rows_1060 F_1061 H_1062 e_1063 G o_1064 hO_1065 w => ?_
        have r0 := Rep.mo (K := K) e_1063 r0
        have r1 := Rep.mo (K := K) e_1063 r1
        have r2 := Rep.mo (K := K) e_1063 r2
        have r3 := Rep.mo (K := K) e_1063 r3
        have r4 := Rep.mo (K := K) e_1063 r4
        have r_1014 := Rep.mo (K := K) e_1063 r_1014
        have r_1056 := Rep.mo (K := K) e_1063 r_1056
        have e_1000 := Ex.tr e_1000 e_1063
        have e_1016 := Ex.tr e_1016 e_1063
        exact hN_1006 _ w _ _ _ e_1016 ⟨_, _, rfl, G, e_1000, o_1064⟩
      · intro P_1068 hk_1067 w
        refine s_if2A [p_990] G w (own1 o_1001.f) (own1 o_1001.ls) (tm_and (t_of (em_op (em_op (em_var rfl (Rep.mo (fz_ex G.fh) r_1029)) em_int fun _ _ => o_rowix) (e_clw (em_wd (by decide +kernel))) fun _ _ => (o_eqD (by decide)))) (t_of (em_op (em_cb (ea_cons (Ev.nv (em_lc (c := (fun x_1035 : Row => (((M.ok x_1035).bind fun x_1038 => (M.ok (0 : Int)).bind fun y_1039 => ixM x_1038.cs y_1039).bind fun x_1040 => (M.ok (Cl.w (wd (Str.ofString "crush")))).bind fun y_1041 => .ok (decide (x_1040 = y_1041))))) (e := (fun x_1035 : Row => (M.ok x_1035))) (ei_list (em_var rfl (o_1001.lent G.fh (by simp)))) (tg_name (K := K)) (fun _ _ _ ⟨_, h, _⟩ => by rw [h]; exact wipe1) (fun x_1035 _ _ _ g_1034 ⟨v_1036, h_1042, r_1037⟩ => by subst h_1042; exact (t_of (em_op (em_op (em_var rfl r_1037) em_int fun _ _ => o_rowix) (e_clw (em_wd (by decide +kernel))) fun _ _ => (o_eqD (by decide))))) (fun x_1035 _ _ _ g_1034 ⟨v_1036, h_1042, r_1037⟩ => by subst h_1042; exact (em_var rfl r_1037)))) ea_nil) fun _ => a_len) (em_var rfl (Rep.mo (fz_ex G.fh) r4)) fun _ _ => o_ge))) (fun F_1049 H_1050 g_1051 w => ?_) (fun F_1049 H_1050 g_1051 w => ?_)
        · have e_1069 : Ex F_1025 F_1049 := g_1051.ff
          have G := G.tr g_1051
          have r0 := Rep.mo (K := K) g_1051.ff r0
          have r1 := Rep.mo (K := K) g_1051.ff r1
          have r2 := Rep.mo (K := K) g_1051.ff r2
          have r3 := Rep.mo (K := K) g_1051.ff r3
          have r4 := Rep.mo (K := K) g_1051.ff r4
          have o_1001 := o_1001.mo g_1051
          have r_1014 := Rep.mo (K := K) g_1051.ff r_1014
          have r_1029 := Rep.mo (K := K) g_1051.ff r_1029
          have e_1000 := Ex.tr e_1000 g_1051.ff
          have e_1016 := Ex.tr e_1016 g_1051.ff
          refine s_asg (K := K) G w (em_row (el_cons (e_clw (em_wd (by decide +kernel))) (el_cons (em_cli (em_op (em_clI (em_op (em_var rfl r_1029) em_int fun _ _ => o_rowix)) em_int fun _ _ => o_modM)) (el_nil (α := Cl))))) fun row_1080 F_1081 H_1082 v_1084 g_1083 r_1085 w => ?_
          have G := G.tr g_1083
          have r0 := Rep.mo (K := K) g_1083.ff r0
          have r1 := Rep.mo (K := K) g_1083.ff r1
          have r2 := Rep.mo (K := K) g_1083.ff r2
          have r3 := Rep.mo (K := K) g_1083.ff r3
          have r4 := Rep.mo (K := K) g_1083.ff r4
          have o_1001 := o_1001.mo g_1083
          have r_1014 := Rep.mo (K := K) g_1083.ff r_1014
          have e_1000 := Ex.tr e_1000 g_1083.ff
          have e_1016 := Ex.tr e_1016 g_1083.ff
          have e_1069 := Ex.tr e_1069 g_1083.ff
          exact hk_1067 _ w _ _ _ ⟨_, rfl, G, e_1069, r_1085, o_1001⟩
        · have e_1069 : Ex F_1025 F_1049 := g_1051.ff
          have G := G.tr g_1051
          have r0 := Rep.mo (K := K) g_1051.ff r0
          have r1 := Rep.mo (K := K) g_1051.ff r1
          have r2 := Rep.mo (K := K) g_1051.ff r2
          have r3 := Rep.mo (K := K) g_1051.ff r3
          have r4 := Rep.mo (K := K) g_1051.ff r4
          have o_1001 := o_1001.mo g_1051
          have r_1014 := Rep.mo (K := K) g_1051.ff r_1014
          have r_1029 := Rep.mo (K := K) g_1051.ff r_1029
          have e_1000 := Ex.tr e_1000 g_1051.ff
          have e_1016 := Ex.tr e_1016 g_1051.ff
          refine s_next ?_
          exact hk_1067 _ w _ _ _ ⟨_, rfl, G, e_1069, r_1029, o_1001⟩
    · rintro s_1089 F_1090 H_1091 _ e_1092 ⟨z_993, z_994, hs_1086, G, e_1087, o_1088⟩ w
      subst hs_1086
      have r0 := Rep.mo (K := K) e_1087 r0
      have r1 := Rep.mo (K := K) e_1087 r1
      have r2 := Rep.mo (K := K) e_1087 r2
      have r3 := Rep.mo (K := K) e_1087 r3
      have r4 := Rep.mo (K := K) e_1087 r4
      refine q_app rfl o_1088 n0p_990 G w (em_row (el_cons (e_clw (em_wd (by decide +kernel))) (el_cons (em_cli (em_op (e_call0 (f := (fun a : (Scr × Int × Unit) => m_law_cell a.1 a.2.1)) (x := (a0_script, ((a1_at + a2_many) - (1 : Int)), ())) (e_cons (em_var rfl r0) (e_cons (e2 (e2 (em_var rfl r1) (em_var rfl r2) o_add) em_int o_sub) ea_nil))) em_int fun _ _ => o_modM)) (el_nil (α := Cl))))) fun rows_1101 F_1102 H_1103 e_1104 G o_1105 hO_1106 w => ?_
      have r0 := Rep.mo (K := K) e_1104 r0
      have r1 := Rep.mo (K := K) e_1104 r1
      have r2 := Rep.mo (K := K) e_1104 r2
      have r3 := Rep.mo (K := K) e_1104 r3
      have r4 := Rep.mo (K := K) e_1104 r4
      refine q_if2A [p_990] G w (own1 o_1105.f) (own1 o_1105.ls) (t_B (e_call0 (f := (fun a : ((List Row) × Unit) => m_law_stuck a.1)) (x := (rows_1101, ())) (e_cons (em_var rfl (o_1105.lent G.fh (by simp))) ea_nil))) (fun F_1108 H_1109 g_1110 w => ?_) (fun F_1108 H_1109 g_1110 w => ?_)
      · have G := G.tr g_1110
        have r0 := Rep.mo (K := K) g_1110.ff r0
        have r1 := Rep.mo (K := K) g_1110.ff r1
        have r2 := Rep.mo (K := K) g_1110.ff r2
        have r3 := Rep.mo (K := K) g_1110.ff r3
        have r4 := Rep.mo (K := K) g_1110.ff r4
        have o_1105 := o_1105.mo g_1110
        have GA := gr_fz (A := [p_990]) G (own1 n0p_990)
        exact s_retN0 GA w (e_call0 (f := (fun a : ((List Row) × Unit) => m_law_forward a.1)) (x := (rows_1101, ())) (e_cons (em_var rfl (o_1105.lent G.fh (by simp))) ea_nil)) fun r F1 H1 v g m p => hQ r F1 H1 v g m p
      · have G := G.tr g_1110
        have r0 := Rep.mo (K := K) g_1110.ff r0
        have r1 := Rep.mo (K := K) g_1110.ff r1
        have r2 := Rep.mo (K := K) g_1110.ff r2
        have r3 := Rep.mo (K := K) g_1110.ff r3
        have r4 := Rep.mo (K := K) g_1110.ff r4
        have o_1105 := o_1105.mo g_1110
        refine s_next ?_
        refine s_nx ?_
        exact ⟨_, rfl, hQ _ _ _ _ G (rn_own o_1105 n0p_990) w⟩
/-! ### _law_power -/
abbrev s_law_power : Stmt := topS 18
abbrev N_law_power : List Str := ["base", "many", "made", "k"]
theorem sc_law_power : FnScope N_law_power ["base", "many"] (defScope s_law_power) := ⟨rfl, rfl, rfl, by decide +kernel, rfl, by decide +kernel, by decide +kernel⟩
abbrev sp_law_power (K : PySem.W.Frag) (ce : Ce) : Sp := SpF0 ce (RC K (α := Int) (RC K (α := Int) R0)) (rv K (ρ := Int)) (fun a : (Int × Int × Unit) => m_law_power a.1 a.2.1)
theorem ok_law_power {f : Addr} {fd : FuncData} (FF : Fun K "_law_power" "_law_power" s_law_power f fd) (z_range : mg "range" = none) : FnOk P w K mg base CX0 1 f fd ["base", "many"] (sp_law_power K ce) := by
  refine FF.ok sc_law_power (fun vs H0 Q E h => ?_) (fun cdv A outer s H0 vs Q E hr h => ?_)
  · obtain ⟨F0, ⟨a0_base, a1_many, _⟩, e0, ⟨v0, _, rfl, r0, ⟨v1, _, rfl, r1, rfl⟩⟩, w⟩ := h
    rfl
  · obtain ⟨F0, ⟨a0_base, a1_many, _⟩, e0, ⟨v0, _, rfl, r0, ⟨v1, _, rfl, r1, rfl⟩⟩, w⟩ := h
    have w := wp_post w
    have G := Gr.rf e0
    have nd := sc_law_power.nd
    have hQ : ∀ r F1 H1 v, Gr F0 H0 F1 H1 → (rv K (ρ := Int)) F0 H0 F1 H1 v r → Fin (rv K (ρ := Int)) F0 H0 Q r → Q v H1 := fun r F1 H1 v g m p => p F1 H1 v g m
    refine ⟨_, (pss_cons (ps_set (i := 2) nd rfl (by first | exact Or.inl rfl | exact Or.inr rfl) pe_int)
      (pss_cons (ps_for (by first | exact PassesOwn.never | exact passes_of rfl) rfl (pi_range1 rfl z_range (pa_cons (pv 1) pa_nil)) (pg_name (i := 3) nd rfl (by first | exact Or.inl rfl | exact Or.inr rfl)) (pss_one (ps_set (i := 2) nd rfl (by first | exact Or.inl rfl | exact Or.inr rfl) (pe_op op_mulW (pv 2) (pv 0)))))
      (pss_one (ps_ret (pv 2))))), ?_⟩
    have w := show Wp ce E0 H0 (m_law_power a0_base a1_many) _ from w
    unfold m_law_power at w
    refine q_asg (K := K) G w em_int fun made_1160 F_1161 H_1162 v_1164 g_1163 r_1165 w => ?_
    have G := G.tr g_1163
    have r0 := Rep.mo (K := K) g_1163.ff r0
    have r1 := Rep.mo (K := K) g_1163.ff r1
    refine q_for (S := Int) (fun s F' H' σ' => ∃ (v_1166 : V) (z_1167 : Option V), σ' = [some v0, some v1, some v_1166, z_1167] ∧ Gr F0 H0 F' H' ∧ Ex F_1161 F' ∧ rp (α := Int) K F' v_1166 s) G (ei_rng1 (em_var rfl r1)) (tg_name (K := K)) w (fun _ _ g_1205 => ⟨_, _, rfl, G.tr g_1205, g_1205.ff, Rep.mo (K := K) g_1205.ff r_1165⟩) (fun _ _ _ _ ⟨_, _, _, G, _⟩ => G) ?_ ?_
    · rintro x_1169 s_1168 F_1170 H_1171 _ ⟨v_1166, z_1167, hs_1172, G, e_1173, r_1174⟩ F_1175 H_1176 σ_1177 g_1178 ⟨v_1186, h_1188, r_1187⟩ D_1183 P_1184 hrt_1185 hN_1179 hC_1180 hB_1181 hP_1182 w
      subst hs_1172
      subst h_1188
      have r0 := Rep.mo (K := K) e_1173 r0
      have r1 := Rep.mo (K := K) e_1173 r1
      have G := G.tr g_1178
      have r0 := Rep.mo (K := K) g_1178.ff r0
      have r1 := Rep.mo (K := K) g_1178.ff r1
      have r_1174 := Rep.mo (K := K) g_1178.ff r_1174
      have e_1173 := Ex.tr e_1173 g_1178.ff
      have e_1189 := Ex.rf F_1175
      have hQ : ∀ r F1 H1 v, Gr F0 H0 F1 H1 → (rv K (ρ := Int)) F0 H0 F1 H1 v r → P_1184 (.rt r) → D_1183.rt v H1 := fun r F1 H1 v g m p => by rw [hrt_1185]; exact hQ r F1 H1 v g m (hP_1182 _ p)
      unfold m_law_power_b1 at w
      refine s_asg (K := K) G w (em_op (em_var rfl r_1174) (em_var rfl r0) fun _ _ => o_mul) fun made_1192 F_1193 H_1194 v_1196 g_1195 r_1197 w => ?_
      have G := G.tr g_1195
      have r0 := Rep.mo (K := K) g_1195.ff r0
      have r1 := Rep.mo (K := K) g_1195.ff r1
      have r_1187 := Rep.mo (K := K) g_1195.ff r_1187
      have e_1173 := Ex.tr e_1173 g_1195.ff
      have e_1189 := Ex.tr e_1189 g_1195.ff
      exact hN_1179 _ w _ _ _ e_1189 ⟨_, _, rfl, G, e_1173, r_1197⟩
    · rintro s_1201 F_1202 H_1203 _ e_1204 ⟨v_1166, z_1167, hs_1198, G, e_1199, r_1200⟩ w
      subst hs_1198
      have r0 := Rep.mo (K := K) e_1199 r0
      have r1 := Rep.mo (K := K) e_1199 r1
      exact s_ret0 G w (em_var rfl r_1200) fun r F1 H1 v g m p => hQ r F1 H1 v g m p
/-! ### _law_raised -/
abbrev s_law_raised : Stmt := topS 28
abbrev N_law_raised : List Str := ["rows", "parts", "cell", "made", "one"]
theorem sc_law_raised : FnScope N_law_raised ["rows", "parts", "cell"] (defScope s_law_raised) := ⟨rfl, rfl, rfl, by decide +kernel, rfl, by decide +kernel, by decide +kernel⟩
abbrev sp_law_raised (K : PySem.W.Frag) (ce : Ce) : Sp := SpF0 ce (RC K (α := (List Row)) (RC K (α := Int) (RC K (α := Int) R0))) (rv K (ρ := (List Row))) (fun a : ((List Row) × Int × Int × Unit) => m_law_raised a.1 a.2.1 a.2.2.1)
theorem ok_law_raised {f : Addr} {fd : FuncData} (FF : Fun K "_law_raised" "_law_raised" s_law_raised f fd) {a__law_power : Addr} {d__law_power : FuncData} (G__law_power : FnOk P w K mg base CX0 1 a__law_power d__law_power ["base", "many"] (sp_law_power K ce)) (mg__law_power : mg "_law_power" = some (.ref a__law_power)) (k__law_power : PySem.W.keepIn K (.ref a__law_power) = true) (b__law_power : Binds K d__law_power ["base", "many"] []) {a__law_stuck : Addr} {d__law_stuck : FuncData} (G__law_stuck : FnOk P w K mg base CX0 2 a__law_stuck d__law_stuck ["rows"] (sp_law_stuck K ce)) (mg__law_stuck : mg "_law_stuck" = some (.ref a__law_stuck)) (k__law_stuck : PySem.W.keepIn K (.ref a__law_stuck) = true) (b__law_stuck : Binds K d__law_stuck ["rows"] []) : FnOk P w K mg base CX0 3 f fd ["rows", "parts", "cell"] (sp_law_raised K ce) := by
  refine FF.ok sc_law_raised (fun vs H0 Q E h => ?_) (fun cdv A outer s H0 vs Q E hr h => ?_)
  · obtain ⟨F0, ⟨a0_rows, a1_parts, a2_cell, _⟩, e0, ⟨v0, _, rfl, r0, ⟨v1, _, rfl, r1, ⟨v2, _, rfl, r2, rfl⟩⟩⟩, w⟩ := h
    rfl
  · obtain ⟨F0, ⟨a0_rows, a1_parts, a2_cell, _⟩, e0, ⟨v0, _, rfl, r0, ⟨v1, _, rfl, r1, ⟨v2, _, rfl, r2, rfl⟩⟩⟩, w⟩ := h
    have w := wp_post w
    have G := Gr.rf e0
    have nd := sc_law_raised.nd
    have hQ : ∀ r F1 H1 v, Gr F0 H0 F1 H1 → (rv K (ρ := (List Row))) F0 H0 F1 H1 v r → Fin (rv K (ρ := (List Row))) F0 H0 Q r → Q v H1 := fun r F1 H1 v g m p => p F1 H1 v g m
    refine ⟨_, (pss_cons (ps_set (i := 3) nd rfl (by first | exact Or.inl rfl | exact Or.inr rfl) (pe_lst pa_nil))
      (pss_cons (ps_for (by first | exact PassesOwn.never | exact passes_of rfl) rfl (pi_list (pv 0)) (pg_name (i := 4) nd rfl (by first | exact Or.inl rfl | exact Or.inr rfl)) (pss_cons (ps_if (pt_cmpR (r := rEqD K) (op_eqD hr.units) (pe_ix (r := rIxT K) ix_tup (pv 4) pe_int (fun _ _ => rfl)) pe_str (nomark _)) (pss_cons (ps_set (i := 4) nd rfl (by first | exact Or.inl rfl | exact Or.inr rfl) (pe_tup (pa_cons pe_str (pa_cons (pe_op op_mulW (pe_ix (r := rIxT K) ix_tup (pv 4) pe_int (fun _ _ => rfl)) (pe_call G__law_power (hr.mono (by decide)) rfl mg__law_power k__law_power b__law_power .nil pass0 (pa_cons (pv 1) (pa_cons (pe_op op_mod (pv 2) pe_int) pa_nil)))) (pa_cons (pe_ix (r := rIxT K) ix_tup (pv 4) pe_int (fun _ _ => rfl)) (pa_cons (pe_ix (r := rIxT K) ix_tup (pv 4) pe_int (fun _ _ => rfl)) pa_nil))))))
      (pss_one (ps_set (i := 2) nd rfl (by first | exact Or.inl rfl | exact Or.inr rfl) (pe_op op_fdiv (pv 2) pe_int)))) pss_nil)
      (pss_one (ps_expr (pe_bm PySem.F.plainAttrs_list PySem.F.slot_list_append PySem.F.type_list_append mt_append (pv 3) (pa_cons (pv 4) pa_nil))))))
      (pss_cons (ps_if (pt_val (pe_call G__law_stuck (hr.mono (by decide)) rfl mg__law_stuck k__law_stuck b__law_stuck .nil pass0 (pa_cons (pv 3) pa_nil))) (pss_one (ps_ret (pv 0))) pss_nil)
      (pss_one (ps_ret (pv 3)))))), ?_⟩
    have w := show Wp ce E0 H0 (m_law_raised a0_rows a1_parts a2_cell) _ from w
    unfold m_law_raised at w
    refine q_asgN (K := K) G w (e_lst (el_nil (α := Row)) (by decide)) fun made_1312 F_1313 H_1314 p_1316 g_1315 n_1317 o_1318 w => ?_
    have n0p_1316 := ex_back G.hh n_1317
    have G := G.tr g_1315
    have r0 := Rep.mo (K := K) g_1315.ff r0
    have r1 := Rep.mo (K := K) g_1315.ff r1
    have r2 := Rep.mo (K := K) g_1315.ff r2
    refine q_for (S := (Int × (List Row))) (fun s F' H' σ' => ∃ (v_1319 : V) (z_1320 : Option V), σ' = [some v0, some v1, some v_1319, some (.ref p_1316), z_1320] ∧ Gr F0 H0 F' H' ∧ Ex F_1313 F' ∧ rp (α := Int) K F' v_1319 s.1 ∧ Own K (T := (List Row)) F' H' p_1316 s.2) G (ei_list (em_var rfl r0)) (tg_name (K := K)) w (fun _ _ g_1415 => ⟨_, _, rfl, G.tr g_1415, g_1415.ff, r2, o_1318.mo g_1415⟩) (fun _ _ _ _ ⟨_, _, _, G, _⟩ => G) ?_ ?_
    · rintro x_1322 s_1321 F_1323 H_1324 _ ⟨v_1319, z_1320, hs_1325, G, e_1326, r_1327, o_1328⟩ F_1329 H_1330 σ_1331 g_1332 ⟨v_1340, h_1342, r_1341⟩ D_1337 P_1338 hrt_1339 hN_1333 hC_1334 hB_1335 hP_1336 w
      subst hs_1325
      subst h_1342
      have r0 := Rep.mo (K := K) e_1326 r0
      have r1 := Rep.mo (K := K) e_1326 r1
      have G := G.tr g_1332
      have r0 := Rep.mo (K := K) g_1332.ff r0
      have r1 := Rep.mo (K := K) g_1332.ff r1
      have r_1327 := Rep.mo (K := K) g_1332.ff r_1327
      have o_1328 := o_1328.mo g_1332
      have e_1326 := Ex.tr e_1326 g_1332.ff
      have e_1343 := Ex.rf F_1329
      have hQ : ∀ r F1 H1 v, Gr F0 H0 F1 H1 → (rv K (ρ := (List Row))) F0 H0 F1 H1 v r → P_1338 (.rt r) → D_1337.rt v H1 := fun r F1 H1 v g m p => by rw [hrt_1339]; exact hQ r F1 H1 v g m (hP_1336 _ p)
      unfold m_law_raised_b1 at w
      refine q_join (W := (Row × Int)) (fun s F' H' σ' => ∃ (v_1352 : V) (v_1353 : V), σ' = [some v0, some v1, some v_1353, some (.ref p_1316), some v_1352] ∧ Gr F0 H0 F' H' ∧ Ex F_1329 F' ∧ rp (α := Row) K F' v_1352 s.1 ∧ rp (α := Int) K F' v_1353 s.2 ∧ Own K (T := (List Row)) F' H' p_1316 s_1321.2) w ?_ ?_
      · rintro s_1351 F_1359 H_1360 σs_1351 ⟨v_1352, v_1353, hs_1354, G, e_1355, r_1356, r_1357, o_1358⟩ w
        subst hs_1354
        have r0 := Rep.mo (K := K) e_1355 r0
        have r1 := Rep.mo (K := K) e_1355 r1
        have e_1326 := Ex.tr e_1326 e_1355
        have e_1343 := Ex.tr e_1343 e_1355
        refine s_app rfl o_1358 n0p_1316 G w (em_var rfl r_1356) fun made_1361 F_1362 H_1363 e_1364 G o_1365 hO_1366 w => ?_
        have r0 := Rep.mo (K := K) e_1364 r0
        have r1 := Rep.mo (K := K) e_1364 r1
        have r_1357 := Rep.mo (K := K) e_1364 r_1357
        have r_1356 := Rep.mo (K := K) e_1364 r_1356
        have e_1326 := Ex.tr e_1326 e_1364
        have e_1343 := Ex.tr e_1343 e_1364
        exact hN_1333 _ w _ _ _ e_1343 ⟨_, _, rfl, G, e_1326, r_1357, o_1365⟩
      · intro P_1369 hk_1368 w
        refine s_if2 G w (t_of (em_op (em_op (em_var rfl r_1341) em_int fun _ _ => o_rowix) (e_clw (em_wd (by decide +kernel))) fun _ _ => (o_eqD (by decide)))) (fun F_1348 H_1349 g_1350 w => ?_) (fun F_1348 H_1349 g_1350 w => ?_)
        · have e_1370 : Ex F_1329 F_1348 := g_1350.ff
          have G := G.tr g_1350
          have r0 := Rep.mo (K := K) g_1350.ff r0
          have r1 := Rep.mo (K := K) g_1350.ff r1
          have r_1327 := Rep.mo (K := K) g_1350.ff r_1327
          have o_1328 := o_1328.mo g_1350
          have r_1341 := Rep.mo (K := K) g_1350.ff r_1341
          have e_1326 := Ex.tr e_1326 g_1350.ff
          have e_1343 := Ex.tr e_1343 g_1350.ff
          refine q_asg (K := K) G w (em_row (el_cons (e_clw (em_wd (by decide +kernel))) (el_cons (em_cli (em_op (em_clI (em_op (em_var rfl r_1341) em_int fun _ _ => o_rowix)) (e_call0 (f := (fun a : (Int × Int × Unit) => m_law_power a.1 a.2.1)) (x := (a1_parts, (s_1321.1 % (40 : Int)), ())) (e_cons (em_var rfl r1) (e_cons (e2 (em_var rfl r_1327) em_int (o_mod (by decide))) ea_nil))) fun _ _ => o_mul)) (el_cons (em_op (em_var rfl r_1341) em_int fun _ _ => o_rowix) (el_cons (em_op (em_var rfl r_1341) em_int fun _ _ => o_rowix) (el_nil (α := Cl))))))) fun one_1389 F_1390 H_1391 v_1393 g_1392 r_1394 w => ?_
          have G := G.tr g_1392
          have r0 := Rep.mo (K := K) g_1392.ff r0
          have r1 := Rep.mo (K := K) g_1392.ff r1
          have r_1327 := Rep.mo (K := K) g_1392.ff r_1327
          have o_1328 := o_1328.mo g_1392
          have e_1326 := Ex.tr e_1326 g_1392.ff
          have e_1343 := Ex.tr e_1343 g_1392.ff
          have e_1370 := Ex.tr e_1370 g_1392.ff
          refine s_asg (K := K) G w (e2 (em_var rfl r_1327) em_int (o_fdiv ⟨by decide, by decide⟩)) fun cell_1395 F_1396 H_1397 v_1399 g_1398 r_1400 w => ?_
          have G := G.tr g_1398
          have r0 := Rep.mo (K := K) g_1398.ff r0
          have r1 := Rep.mo (K := K) g_1398.ff r1
          have o_1328 := o_1328.mo g_1398
          have r_1394 := Rep.mo (K := K) g_1398.ff r_1394
          have e_1326 := Ex.tr e_1326 g_1398.ff
          have e_1343 := Ex.tr e_1343 g_1398.ff
          have e_1370 := Ex.tr e_1370 g_1398.ff
          exact hk_1368 _ w _ _ _ ⟨_, _, rfl, G, e_1370, r_1394, r_1400, o_1328⟩
        · have e_1370 : Ex F_1329 F_1348 := g_1350.ff
          have G := G.tr g_1350
          have r0 := Rep.mo (K := K) g_1350.ff r0
          have r1 := Rep.mo (K := K) g_1350.ff r1
          have r_1327 := Rep.mo (K := K) g_1350.ff r_1327
          have o_1328 := o_1328.mo g_1350
          have r_1341 := Rep.mo (K := K) g_1350.ff r_1341
          have e_1326 := Ex.tr e_1326 g_1350.ff
          have e_1343 := Ex.tr e_1343 g_1350.ff
          refine s_next ?_
          exact hk_1368 _ w _ _ _ ⟨_, _, rfl, G, e_1370, r_1341, r_1327, o_1328⟩
    · rintro s_1405 F_1406 H_1407 _ e_1408 ⟨v_1319, z_1320, hs_1401, G, e_1402, r_1403, o_1404⟩ w
      subst hs_1401
      have r0 := Rep.mo (K := K) e_1402 r0
      have r1 := Rep.mo (K := K) e_1402 r1
      refine q_if2A [p_1316] G w (own1 o_1404.f) (own1 o_1404.ls) (t_B (e_call0 (f := (fun a : ((List Row) × Unit) => m_law_stuck a.1)) (x := (s_1405.2, ())) (e_cons (em_var rfl (o_1404.lent G.fh (by simp))) ea_nil))) (fun F_1409 H_1410 g_1411 w => ?_) (fun F_1409 H_1410 g_1411 w => ?_)
      · have G := G.tr g_1411
        have r0 := Rep.mo (K := K) g_1411.ff r0
        have r1 := Rep.mo (K := K) g_1411.ff r1
        have r_1403 := Rep.mo (K := K) g_1411.ff r_1403
        have o_1404 := o_1404.mo g_1411
        exact s_ret0 G w (em_var rfl r0) fun r F1 H1 v g m p => hQ r F1 H1 v g m p
      · have G := G.tr g_1411
        have r0 := Rep.mo (K := K) g_1411.ff r0
        have r1 := Rep.mo (K := K) g_1411.ff r1
        have r_1403 := Rep.mo (K := K) g_1411.ff r_1403
        have o_1404 := o_1404.mo g_1411
        refine s_next ?_
        refine s_nx ?_
        obtain ⟨F_1412, G, e_1413, r_1414, _⟩ := own_fix G o_1404 n0p_1316
        exact ⟨_, rfl, hQ _ _ _ _ G r_1414 w⟩
/-! ### good_row -/
abbrev s_good_row : Stmt := topS 8
abbrev N_good_row : List Str := ["row", "many"]
theorem sc_good_row : FnScope N_good_row ["row", "many"] (defScope s_good_row) := ⟨rfl, rfl, rfl, by decide +kernel, rfl, by decide +kernel, by decide +kernel⟩
abbrev sp_good_row (K : PySem.W.Frag) (ce : Ce) : Sp := SpF0 ce (RC K (α := Row) (RC K (α := Int) R0)) (rv K (ρ := Bool)) (fun a : (Row × Int × Unit) => m_good_row a.1 a.2.1)
theorem ok_good_row {f : Addr} {fd : FuncData} (FF : Fun K "good_row" "good_row" s_good_row f fd) {t_MOST_BIN : Tok} (c_MOST_BIN : mg "MOST_BIN" = some (.int 5 t_MOST_BIN)) {t_WIDEST : Tok} (c_WIDEST : mg "WIDEST" = some (.int 1000000000000000000000000000000000000000000000000000000000000 t_WIDEST)) (z_len : mg "len" = none) : FnOk P w K mg base CX0 1 f fd ["row", "many"] (sp_good_row K ce) := by
  refine FF.ok sc_good_row (fun vs H0 Q E h => ?_) (fun cdv A outer s H0 vs Q E hr h => ?_)
  · obtain ⟨F0, ⟨a0_row, a1_many, _⟩, e0, ⟨v0, _, rfl, r0, ⟨v1, _, rfl, r1, rfl⟩⟩, w⟩ := h
    rfl
  · obtain ⟨F0, ⟨a0_row, a1_many, _⟩, e0, ⟨v0, _, rfl, r0, ⟨v1, _, rfl, r1, rfl⟩⟩, w⟩ := h
    have w := wp_post w
    have G := Gr.rf e0
    have nd := sc_good_row.nd
    have hQ : ∀ r F1 H1 v, Gr F0 H0 F1 H1 → (rv K (ρ := Bool)) F0 H0 F1 H1 v r → Fin (rv K (ρ := Bool)) F0 H0 Q r → Q v H1 := fun r F1 H1 v g m p => p F1 H1 v g m
    refine ⟨_, (pss_cons (ps_if (PW.pt (pw_and (pt_cmpR op_eq (pe_callB (r := rLenS K) call_len_seq (by rfl) z_len (by decide +kernel) (pa_cons (pv 0) pa_nil)) pe_int (nomark _)) (pw_and1 (pt_cmpR (r := rEqD K) (op_eqD hr.units) (pe_ix (r := rIxT K) ix_tup (pv 0) pe_int (fun _ _ => rfl)) pe_str (nomark _))))) (pss_one (ps_ret (pe_and (pe_chain op_le op_le pe_int (pe_ix (r := rIxT K) ix_tup (pv 0) pe_int (fun _ _ => rfl)) (pe_glob (v := .int 1000000000000000000000000000000000000000000000000000000000000) rfl c_WIDEST ⟨_, rfl⟩)) (pe_and (pe_chain op_le op_lt pe_int (pe_ix (r := rIxT K) ix_tup (pv 0) pe_int (fun _ _ => rfl)) (pv 1)) (pe_one (pe_chain op_le op_lt pe_int (pe_ix (r := rIxT K) ix_tup (pv 0) pe_int (fun _ _ => rfl)) (pv 1))))))) pss_nil)
      (pss_cons (ps_if (PW.pt (pw_and (pt_cmpR op_eq (pe_callB (r := rLenS K) call_len_seq (by rfl) z_len (by decide +kernel) (pa_cons (pv 0) pa_nil)) pe_int (nomark _)) (pw_and1 (pt_cmpR (r := rEqD K) (op_eqD hr.units) (pe_ix (r := rIxT K) ix_tup (pv 0) pe_int (fun _ _ => rfl)) pe_str (nomark _))))) (pss_one (ps_ret (pe_chain op_le op_lt pe_int (pe_ix (r := rIxT K) ix_tup (pv 0) pe_int (fun _ _ => rfl)) (pv 1)))) pss_nil)
      (pss_one (ps_ret (pe_and (pe_cmpR op_eq (pe_callB (r := rLenS K) call_len_seq (by rfl) z_len (by decide +kernel) (pa_cons (pv 0) pa_nil)) pe_int (nomark _)) (pe_and (pe_cmpR (r := rEqD K) (op_eqD hr.units) (pe_ix (r := rIxT K) ix_tup (pv 0) pe_int (fun _ _ => rfl)) pe_str (nomark _)) (pe_one (pe_chain op_le op_le pe_int (pe_ix (r := rIxT K) ix_tup (pv 0) pe_int (fun _ _ => rfl)) (pe_glob (v := .int 5) rfl c_MOST_BIN ⟨_, rfl⟩))))))))), ?_⟩
    have w := show Wp ce E0 H0 (m_good_row a0_row a1_many) _ from w
    unfold m_good_row at w
    refine q_if2 G w (tm_and (t_of (e2 (e_cb (e_cons (em_var rfl r0) ea_nil) a_lenR) em_int o_eqI)) (t_of (em_op (em_op (em_var rfl r0) em_int fun _ _ => o_rowix) (e_clw (em_wd (by decide +kernel))) fun _ _ => (o_eqD (by decide))))) (fun F_1464 H_1465 g_1466 w => ?_) (fun F_1464 H_1465 g_1466 w => ?_)
    · have G := G.tr g_1466
      have r0 := Rep.mo (K := K) g_1466.ff r0
      have r1 := Rep.mo (K := K) g_1466.ff r1
      exact s_ret0 G w (em_andV (em_chain (p := fun a b => decide (a ≤ b)) (p' := fun a b => decide (a ≤ b)) em_int (em_clI (em_op (em_var rfl r0) em_int fun _ _ => o_rowix)) em_int (fun _ _ => o_le) (fun _ _ => o_le)) (em_andV (em_chain (p := fun a b => decide (a ≤ b)) (p' := fun a b => decide (a < b)) em_int (em_clI (em_op (em_var rfl r0) em_int fun _ _ => o_rowix)) (em_var rfl r1) (fun _ _ => o_le) (fun _ _ => o_lt)) (em_chain (p := fun a b => decide (a ≤ b)) (p' := fun a b => decide (a < b)) em_int (em_clI (em_op (em_var rfl r0) em_int fun _ _ => o_rowix)) (em_var rfl r1) (fun _ _ => o_le) (fun _ _ => o_lt)))) fun r F1 H1 v g m p => hQ r F1 H1 v g m p
    · have G := G.tr g_1466
      have r0 := Rep.mo (K := K) g_1466.ff r0
      have r1 := Rep.mo (K := K) g_1466.ff r1
      refine s_next ?_
      refine s_nx ?_
      refine q_if2 G w (tm_and (t_of (e2 (e_cb (e_cons (em_var rfl r0) ea_nil) a_lenR) em_int o_eqI)) (t_of (em_op (em_op (em_var rfl r0) em_int fun _ _ => o_rowix) (e_clw (em_wd (by decide +kernel))) fun _ _ => (o_eqD (by decide))))) (fun F_1486 H_1487 g_1488 w => ?_) (fun F_1486 H_1487 g_1488 w => ?_)
      · have G := G.tr g_1488
        have r0 := Rep.mo (K := K) g_1488.ff r0
        have r1 := Rep.mo (K := K) g_1488.ff r1
        exact s_ret0 G w (em_chain (p := fun a b => decide (a ≤ b)) (p' := fun a b => decide (a < b)) em_int (em_clI (em_op (em_var rfl r0) em_int fun _ _ => o_rowix)) (em_var rfl r1) (fun _ _ => o_le) (fun _ _ => o_lt)) fun r F1 H1 v g m p => hQ r F1 H1 v g m p
      · have G := G.tr g_1488
        have r0 := Rep.mo (K := K) g_1488.ff r0
        have r1 := Rep.mo (K := K) g_1488.ff r1
        refine s_next ?_
        refine s_nx ?_
        exact s_ret0 G w (em_andV (e2 (e_cb (e_cons (em_var rfl r0) ea_nil) a_lenR) em_int o_eqI) (em_andV (em_op (em_op (em_var rfl r0) em_int fun _ _ => o_rowix) (e_clw (em_wd (by decide +kernel))) fun _ _ => (o_eqD (by decide))) (em_chain (p := fun a b => decide (a ≤ b)) (p' := fun a b => decide (a ≤ b)) em_int (em_clI (em_op (em_var rfl r0) em_int fun _ _ => o_rowix)) em_int (fun _ _ => o_le) (fun _ _ => o_le)))) fun r F1 H1 v g m p => hQ r F1 H1 v g m p
/-! ### Works -/
abbrev s_Works : Stmt := inClass (topS 9) 0
abbrev N_Works : List Str := ["self", "parts", "rows", "row"]
theorem sc_Works : FnScope N_Works ["self", "parts", "rows"] (defScope s_Works) := ⟨rfl, rfl, rfl, by decide +kernel, rfl, by decide +kernel, by decide +kernel⟩
abbrev sp_Works (K : PySem.W.Frag) (ce : Ce) : Sp := SpI ce K (ce "Works") (RC K (α := Int) (RC K (α := (List Row)) R0)) (fun a : (Int × (List Row) × Unit) => m_Works a.1 a.2.1)
theorem ok_Works {f : Addr} {fd : FuncData} (FF : Fun K "__init__" "Works.__init__" s_Works f fd) (cls_Works : Cls K (ce "Works")) {t_MOST_PARTS : Tok} (c_MOST_PARTS : mg "MOST_PARTS" = some (.int 9 t_MOST_PARTS)) {t_MOST_ROWS : Tok} (c_MOST_ROWS : mg "MOST_ROWS" = some (.int 12 t_MOST_ROWS)) (x_BadWorks : ErrC K mg (ce "BadWorks") "BadWorks") {a_good_row : Addr} {d_good_row : FuncData} (G_good_row : FnOk P w K mg base CX0 1 a_good_row d_good_row ["row", "many"] (sp_good_row K ce)) (mg_good_row : mg "good_row" = some (.ref a_good_row)) (k_good_row : PySem.W.keepIn K (.ref a_good_row) = true) (b_good_row : Binds K d_good_row ["row", "many"] []) (na_Works_parts : NoAttr K (ce "Works") "parts") (na_Works_rows : NoAttr K (ce "Works") "rows") (z_len : mg "len" = none) (z_list : mg "list" = none) : FnOk P w K mg base (L2.CX P w) 2 f fd ["self", "parts", "rows"] (sp_Works K ce) := by
  refine FF.okX sc_Works (fun vs H0 Q E h => ?_) (fun cdv A outer s Hs vs Q E hr h => ?_)
  · obtain ⟨F0, H0, p0, dx0, ⟨a1_parts, a2_rows, _⟩, _, rfl, e0, np0, nd0, ne0, rfl, ⟨v1, _, rfl, r1, ⟨v2, _, rfl, r2, rfl⟩⟩, w⟩ := h
    rfl
  · obtain ⟨F0, H0, p0, dx0, ⟨a1_parts, a2_rows, _⟩, _, rfl, e0, np0, nd0, ne0, rfl, ⟨v1, _, rfl, r1, ⟨v2, _, rfl, r2, rfl⟩⟩, w⟩ := h
    have w := wp_post w
    obtain ⟨G, o_0⟩ := raw_start (K := K) (C := ce "Works") e0 np0 nd0 ne0
    have nd := sc_Works.nd
    have hQ : ∀ r F1 H1 v, Gr F0 H0 F1 H1 → (rv K (ρ := Wk)) F0 H0 F1 H1 v r → Fin (rv K (ρ := Wk)) F0 H0 (fun v H' => v = .ref p0 → Q .non H') r → (v = .ref p0 → Q .non H1) := fun r F1 H1 v g m p => p F1 H1 v g m
    refine ⟨_, (pss_cons (ps_if (PW.pt (pw_or (pt_cmpR op_lt (pv 1) pe_int (nomark _)) (pw_or (pt_cmpR op_gt (pv 1) (pe_glob (v := .int 9) rfl c_MOST_PARTS ⟨_, rfl⟩) (nomark _)) (pw_or (pt_cmpR op_lt (pe_callB (r := rLenS K) call_len_seq (by rfl) z_len (by decide +kernel) (pa_cons (pv 2) pa_nil)) pe_int (nomark _)) (pw_or1 (pt_cmpR op_gt (pe_callB (r := rLenS K) call_len_seq (by rfl) z_len (by decide +kernel) (pa_cons (pv 2) pa_nil)) (pe_glob (v := .int 12) rfl c_MOST_ROWS ⟨_, rfl⟩) (nomark _))))))) (pss_one (ps_raise rfl (takes_of rfl rfl rfl rfl) (pmk_own PySem.F.excBase_ValueError x_BadWorks.x x_BadWorks.g x_BadWorks.k (raises_own x_BadWorks.b x_BadWorks.t) rfl))) pss_nil)
      (pss_cons (ps_for (by first | exact PassesOwn.never | exact passes_of rfl) rfl (pi_list (pv 2)) (pg_name (i := 3) nd rfl (by first | exact Or.inl rfl | exact Or.inr rfl)) (pss_one (ps_if (pt_not (pt_val (pe_call G_good_row (hr.mono (by decide)) rfl mg_good_row k_good_row b_good_row .nil pass0 (pa_cons (pv 3) (pa_cons (pe_callB (r := rLenS K) call_len_seq (by rfl) z_len (by decide +kernel) (pa_cons (pv 2) pa_nil)) pa_nil))))) (pss_one (ps_raise rfl (takes_of rfl rfl rfl rfl) (pmk_own PySem.F.excBase_ValueError x_BadWorks.x x_BadWorks.g x_BadWorks.k (raises_own x_BadWorks.b x_BadWorks.t) rfl))) pss_nil)))
      (pss_cons (ps_fld (pv 0) (pv 1) rfl)
      (pss_one (ps_fld (pv 0) (pe_callTy (r := rListS K) call_list_of (by rfl) z_list (by decide +kernel) (pa_cons (pv 2) pa_nil)) rfl))))), ?_⟩
    have w := show Wp ce E H0 (m_Works a1_parts a2_rows) _ from w
    unfold m_Works at w
    refine q_if2 G w (t_or (t_of (e2 (em_var rfl r1) em_int o_lt)) (t_or (t_of (e2 (em_var rfl r1) em_int o_gt)) (t_or (t_of (e2 (e_cb (e_cons (em_var rfl r2) ea_nil) a_len) em_int o_lt)) (t_of (e2 (e_cb (e_cons (em_var rfl r2) ea_nil) a_len) em_int o_gt))))) (fun F_1503 H_1504 g_1505 w => ?_) (fun F_1503 H_1504 g_1505 w => ?_)
    · have G := G.tr g_1505
      have o_0 := o_0.mo g_1505
      have r1 := Rep.mo (K := K) g_1505.ff r1
      have r2 := Rep.mo (K := K) g_1505.ff r2
      exact w _ G.hh
    · have G := G.tr g_1505
      have o_0 := o_0.mo g_1505
      have r1 := Rep.mo (K := K) g_1505.ff r1
      have r2 := Rep.mo (K := K) g_1505.ff r2
      refine s_next ?_
      refine s_nx ?_
      refine q_for (S := Unit) (fun s F' H' σ' => ∃ (z_1506 : Option V), σ' = [some (.ref p0), some v1, some v2, z_1506] ∧ Gr F0 H0 F' H' ∧ Ex F_1503 F' ∧ Own K (T := RawO) F' H' p0 (RawO.mk (ce "Works") dx0 [])) G (ei_list (em_var rfl r2)) (tg_name (K := K)) w (fun _ _ g_1562 => ⟨_, rfl, G.tr g_1562, g_1562.ff, o_0.mo g_1562⟩) (fun _ _ _ _ ⟨_, _, G, _⟩ => G) ?_ ?_
      · rintro x_1508 s_1507 F_1509 H_1510 _ ⟨z_1506, hs_1511, G, e_1512, o_1513⟩ F_1514 H_1515 σ_1516 g_1517 ⟨v_1525, h_1527, r_1526⟩ D_1522 P_1523 hrt_1524 hN_1518 hC_1519 hB_1520 hP_1521 w
        subst hs_1511
        subst h_1527
        have r1 := Rep.mo (K := K) e_1512 r1
        have r2 := Rep.mo (K := K) e_1512 r2
        have G := G.tr g_1517
        have o_1513 := o_1513.mo g_1517
        have r1 := Rep.mo (K := K) g_1517.ff r1
        have r2 := Rep.mo (K := K) g_1517.ff r2
        have e_1512 := Ex.tr e_1512 g_1517.ff
        have e_1528 := Ex.rf F_1514
        unfold m_Works_b1 at w
        refine s_if2 G w (tm_not (t_B (e_call0 (f := (fun a : (Row × Int × Unit) => m_good_row a.1 a.2.1)) (x := (x_1508, (List.length a2_rows : Int), ())) (e_cons (em_var rfl r_1526) (e_cons (e_cb (e_cons (em_var rfl r2) ea_nil) a_len) ea_nil))))) (fun F_1529 H_1530 g_1531 w => ?_) (fun F_1529 H_1530 g_1531 w => ?_)
        · have G := G.tr g_1531
          have o_1513 := o_1513.mo g_1531
          have r1 := Rep.mo (K := K) g_1531.ff r1
          have r2 := Rep.mo (K := K) g_1531.ff r2
          have r_1526 := Rep.mo (K := K) g_1531.ff r_1526
          have e_1512 := Ex.tr e_1512 g_1531.ff
          have e_1528 := Ex.tr e_1528 g_1531.ff
          exact w _ G.hh
        · have G := G.tr g_1531
          have o_1513 := o_1513.mo g_1531
          have r1 := Rep.mo (K := K) g_1531.ff r1
          have r2 := Rep.mo (K := K) g_1531.ff r2
          have r_1526 := Rep.mo (K := K) g_1531.ff r_1526
          have e_1512 := Ex.tr e_1512 g_1531.ff
          have e_1528 := Ex.tr e_1528 g_1531.ff
          refine s_next ?_
          exact hN_1518 _ w _ _ _ e_1528 ⟨_, rfl, G, e_1512, o_1513⟩
      · rintro s_1535 F_1536 H_1537 _ e_1538 ⟨z_1506, hs_1532, G, e_1533, o_1534⟩ w
        subst hs_1532
        have r1 := Rep.mo (K := K) e_1533 r1
        have r2 := Rep.mo (K := K) e_1533 r2
        refine q_setf (K := K) rfl cls_Works na_Works_parts (by show 0 < 1000; decide) o_1534 np0 G w (em_var rfl r1) fun parts_1539 F_1540 H_1541 v_1542 e_1543 G r_1544 o_1545 w => ?_
        have r1 := Rep.mo (K := K) e_1543 r1
        have r2 := Rep.mo (K := K) e_1543 r2
        refine s_setf (K := K) rfl cls_Works na_Works_rows (by show 1 < 1000; decide) o_1545 np0 G w (Ev.nv (e_cb (e_cons (em_var rfl r2) ea_nil) a_list)) fun rows_1550 F_1551 H_1552 v_1553 e_1554 G r_1555 o_1556 w => ?_
        have r1 := Rep.mo (K := K) e_1554 r1
        have r2 := Rep.mo (K := K) e_1554 r2
        have r_1544 := Rep.mo (K := K) e_1554 r_1544
        obtain ⟨F_1561, G, r⟩ := wk_done G np0 o_1556 cls_Works na_Works_parts na_Works_rows r_1544 r_1555
        exact hQ _ _ _ _ G r w rfl
/-! ### _law_size -/
abbrev s_law_size : Stmt := topS 29
abbrev N_law_size : List Str := ["parts", "rows", "cell", "openings", "row", "at", "near"]
theorem sc_law_size : FnScope N_law_size ["parts", "rows", "cell"] (defScope s_law_size) := ⟨rfl, rfl, rfl, by decide +kernel, rfl, by decide +kernel, by decide +kernel⟩
abbrev sp_law_size (K : PySem.W.Frag) (ce : Ce) : Sp := SpF0 ce (RC K (α := Int) (RC K (α := (List Row)) (RC K (α := Int) R0))) (rv K (ρ := Int)) (fun a : (Int × (List Row) × Int × Unit) => m_law_size a.1 a.2.1 a.2.2.1)
theorem ok_law_size {f : Addr} {fd : FuncData} (FF : Fun K "_law_size" "_law_size" s_law_size f fd) {a__law_power : Addr} {d__law_power : FuncData} (G__law_power : FnOk P w K mg base CX0 1 a__law_power d__law_power ["base", "many"] (sp_law_power K ce)) (mg__law_power : mg "_law_power" = some (.ref a__law_power)) (k__law_power : PySem.W.keepIn K (.ref a__law_power) = true) (b__law_power : Binds K d__law_power ["base", "many"] []) (z_len : mg "len" = none) (z_max : mg "max" = none) (z_min : mg "min" = none) : FnOk P w K mg base CX0 2 f fd ["parts", "rows", "cell"] (sp_law_size K ce) := by
  refine FF.ok sc_law_size (fun vs H0 Q E h => ?_) (fun cdv A outer s H0 vs Q E hr h => ?_)
  · obtain ⟨F0, ⟨a0_parts, a1_rows, a2_cell, _⟩, e0, ⟨v0, _, rfl, r0, ⟨v1, _, rfl, r1, ⟨v2, _, rfl, r2, rfl⟩⟩⟩, w⟩ := h
    rfl
  · obtain ⟨F0, ⟨a0_parts, a1_rows, a2_cell, _⟩, e0, ⟨v0, _, rfl, r0, ⟨v1, _, rfl, r1, ⟨v2, _, rfl, r2, rfl⟩⟩⟩, w⟩ := h
    have w := wp_post w
    have G := Gr.rf e0
    have nd := sc_law_size.nd
    have hQ : ∀ r F1 H1 v, Gr F0 H0 F1 H1 → (rv K (ρ := Int)) F0 H0 F1 H1 v r → Fin (rv K (ρ := Int)) F0 H0 Q r → Q v H1 := fun r F1 H1 v g m p => p F1 H1 v g m
    refine ⟨_, (pss_cons (ps_set (i := 3) nd rfl (by first | exact Or.inl rfl | exact Or.inr rfl) (pe_op op_cat (pe_lc (own := [("row", 4)]) (g := (gName 4)) (by rfl) nd (pi_list (pv 1)) (blkOk_by (own := [("row", 4)]) (N := N_law_size) (sc := defScope s_law_size) (by decide +kernel)) (fun _ _ _ _ _ => (pg_name (i := 4) nd rfl (by first | exact Or.inl rfl | exact Or.inr rfl))) (fun _ _ _ _ _ => (pts_one (pt_cmpR (r := rEqD K) (op_eqD hr.units) (pe_ix (r := rIxT K) ix_tup (pv 4) pe_int (fun _ _ => rfl)) pe_str (nomark _)))) (fun _ _ _ _ _ => (pe_ix (r := rIxT K) ix_tup (pv 4) pe_int (fun _ _ => rfl)))) (pe_lst (pa_cons pe_int pa_nil))))
      (pss_cons (ps_set (i := 5) nd rfl (by first | exact Or.inl rfl | exact Or.inr rfl) (pe_op op_fdiv (pv 2) pe_int))
      (pss_cons (ps_set (i := 6) nd rfl (by first | exact Or.inl rfl | exact Or.inr rfl) (pe_ix (r := rIxL K) ix_list (pe_lst (pa_cons (pe_ix (r := rIxL K) ix_list (pv 3) (pe_op op_mod (pv 5) (pe_callB (r := rLenS K) call_len_seq (by rfl) z_len (by decide +kernel) (pa_cons (pv 3) pa_nil))) (fun _ _ => rfl)) (pa_cons (pe_call G__law_power (hr.mono (by decide)) rfl mg__law_power k__law_power b__law_power .nil pass0 (pa_cons (pv 0) (pa_cons (pe_op op_mod (pv 5) pe_int) pa_nil))) (pa_cons (pv 2) (pa_cons (pe_op op_add pe_int (pe_op op_mod (pv 5) pe_int)) pa_nil))))) (pe_op op_mod (pv 2) pe_int) (fun _ _ => rfl)))
      (pss_one (ps_ret (pe_callB (call_max2 rfl) (by rfl) z_max (by decide +kernel) (pa_cons pe_int (pa_cons (pe_callB (call_min2 rfl) (by rfl) z_min (by decide +kernel) (pa_cons (pe_op op_pow pe_int pe_int) (pa_cons (pe_op op_add (pe_op op_sub (pv 6) pe_int) (pe_op op_mod (pe_op op_fdiv (pv 2) pe_int) pe_int)) pa_nil))) pa_nil)))))))), ?_⟩
    have w := show Wp ce E0 H0 (m_law_size a0_parts a1_rows a2_cell) _ from w
    unfold m_law_size at w
    refine q_asg (K := K) G w (Ev.nv (em_op (Ev.nv (em_lc (c := (fun x_1612 : Row => (((M.ok x_1612).bind fun x_1615 => (M.ok (0 : Int)).bind fun y_1616 => ixM x_1615.cs y_1616).bind fun x_1617 => (M.ok (Cl.w (wd (Str.ofString "mesh")))).bind fun y_1618 => .ok (decide (x_1617 = y_1618))))) (e := (fun x_1612 : Row => (((M.ok x_1612).bind fun x_1619 => (M.ok (1 : Int)).bind fun y_1620 => ixM x_1619.cs y_1620).bind clI))) (ei_list (em_var rfl r1)) (tg_name (K := K)) (fun _ _ _ ⟨_, h, _⟩ => by rw [h]; exact wipe1) (fun x_1612 _ _ _ g_1611 ⟨v_1613, h_1621, r_1614⟩ => by subst h_1621; exact (t_of (em_op (em_op (em_var rfl r_1614) em_int fun _ _ => o_rowix) (e_clw (em_wd (by decide +kernel))) fun _ _ => (o_eqD (by decide))))) (fun x_1612 _ _ _ g_1611 ⟨v_1613, h_1621, r_1614⟩ => by subst h_1621; exact (em_clI (em_op (em_var rfl r_1614) em_int fun _ _ => o_rowix))))) (Ev.nv (e_lst (e_lcons em_int (el_nil (α := Int))) (by simp))) fun _ _ => o_cat)) fun openings_1625 F_1626 H_1627 v_1629 g_1628 r_1630 w => ?_
    have G := G.tr g_1628
    have r0 := Rep.mo (K := K) g_1628.ff r0
    have r1 := Rep.mo (K := K) g_1628.ff r1
    have r2 := Rep.mo (K := K) g_1628.ff r2
    refine q_asg (K := K) G w (e2 (em_var rfl r2) em_int (o_fdiv ⟨by decide, by decide⟩)) fun at_1631 F_1632 H_1633 v_1635 g_1634 r_1636 w => ?_
    have G := G.tr g_1634
    have r0 := Rep.mo (K := K) g_1634.ff r0
    have r1 := Rep.mo (K := K) g_1634.ff r1
    have r2 := Rep.mo (K := K) g_1634.ff r2
    have r_1630 := Rep.mo (K := K) g_1634.ff r_1630
    refine q_asg (K := K) G w (em_op (Ev.nv (em_lst' (el_cons (em_op (em_var rfl r_1630) (em_op (em_var rfl r_1636) (e_cb (e_cons (em_var rfl r_1630) ea_nil) a_len) fun _ _ => o_modM) fun _ _ => o_ixL) (el_cons (e_call0 (f := (fun a : (Int × Int × Unit) => m_law_power a.1 a.2.1)) (x := (a0_parts, (at_1631 % (60 : Int)), ())) (e_cons (em_var rfl r0) (e_cons (e2 (em_var rfl r_1636) em_int (o_mod (by decide))) ea_nil))) (el_cons (em_var rfl r2) (el_cons (e2 em_int (e2 (em_var rfl r_1636) em_int (o_mod (by decide))) o_add) (el_nil (α := Int)))))))) (e2 (em_var rfl r2) em_int (o_mod (by decide))) fun _ _ => o_ixL) fun near_1652 F_1653 H_1654 v_1656 g_1655 r_1657 w => ?_
    have G := G.tr g_1655
    have r0 := Rep.mo (K := K) g_1655.ff r0
    have r1 := Rep.mo (K := K) g_1655.ff r1
    have r2 := Rep.mo (K := K) g_1655.ff r2
    have r_1630 := Rep.mo (K := K) g_1655.ff r_1630
    have r_1636 := Rep.mo (K := K) g_1655.ff r_1636
    exact s_ret0 G w (e_cb (e_cons em_int (e_cons (e_cb (e_cons (e_is (e2 em_int em_int (o_pow (by decide))) pow_10_60) (e_cons (e2 (e2 (em_var rfl r_1657) em_int o_sub) (e2 (e2 (em_var rfl r2) em_int (o_fdiv ⟨by decide, by decide⟩)) em_int (o_mod (by decide))) o_add) ea_nil)) a_min2) ea_nil)) a_max2) fun r F1 H1 v g m p => hQ r F1 H1 v g m p
/-! ### pieces_of -/
abbrev s_pieces_of : Stmt := topS 10
abbrev N_pieces_of : List Str := ["size", "parts", "pairs", "pair"]
theorem sc_pieces_of : FnScope N_pieces_of ["size", "parts"] (defScope s_pieces_of) := ⟨rfl, rfl, rfl, by decide +kernel, rfl, by decide +kernel, by decide +kernel⟩
abbrev sp_pieces_of (K : PySem.W.Frag) (ce : Ce) : Sp := SpF0 ce (RC K (α := Int) (RC K (α := Int) R0)) (rn K (α := (Int × Int))) (fun a : (Int × Int × Unit) => m_pieces_of a.1 a.2.1)
theorem ok_pieces_of {f : Addr} {fd : FuncData} (FF : Fun K "pieces_of" "pieces_of" s_pieces_of f fd) : FnOk P w K mg base CX0 1 f fd ["size", "parts"] (sp_pieces_of K ce) := by
  refine FF.ok sc_pieces_of (fun vs H0 Q E h => ?_) (fun cdv A outer s H0 vs Q E hr h => ?_)
  · obtain ⟨F0, ⟨a0_size, a1_parts, _⟩, e0, ⟨v0, _, rfl, r0, ⟨v1, _, rfl, r1, rfl⟩⟩, w⟩ := h
    rfl
  · obtain ⟨F0, ⟨a0_size, a1_parts, _⟩, e0, ⟨v0, _, rfl, r0, ⟨v1, _, rfl, r1, rfl⟩⟩, w⟩ := h
    have w := wp_post w
    have G := Gr.rf e0
    have nd := sc_pieces_of.nd
    have hQ : ∀ r F1 H1 v, Gr F0 H0 F1 H1 → (rn K (α := (Int × Int))) F0 H0 F1 H1 v r → Fin (rn K (α := (Int × Int))) F0 H0 Q r → Q v H1 := fun r F1 H1 v g m p => p F1 H1 v g m
    refine ⟨_, (pss_cons (ps_set (i := 2) nd rfl (by first | exact Or.inl rfl | exact Or.inr rfl) (pe_lst (pa_cons (pe_tup (pa_cons (pe_op op_fdivW (pv 0) (pv 1)) (pa_cons (pe_op op_sub (pv 1) (pe_op op_mod (pv 0) (pv 1))) pa_nil))) (pa_cons (pe_tup (pa_cons (pe_op op_add (pe_op op_fdivW (pv 0) (pv 1)) pe_int) (pa_cons (pe_op op_mod (pv 0) (pv 1)) pa_nil))) pa_nil))))
      (pss_one (ps_ret (pe_lc (own := [("pair", 3)]) (g := (gName 3)) (by rfl) nd (pi_list (pv 2)) (blkOk_by (own := [("pair", 3)]) (N := N_pieces_of) (sc := defScope s_pieces_of) (by decide +kernel)) (fun _ _ _ _ _ => (pg_name (i := 3) nd rfl (by first | exact Or.inl rfl | exact Or.inr rfl))) (fun _ _ _ _ _ => (pts_one (pt_cmpR op_gt (pe_op op_mulW (pe_ix (r := rIxT K) ix_tup (pv 3) pe_int (fun _ _ => rfl)) (pe_ix (r := rIxT K) ix_tup (pv 3) pe_int (fun _ _ => rfl))) pe_int (nomark _)))) (fun _ _ _ _ _ => (pv 3)))))), ?_⟩
    have w := show Wp ce E0 H0 (m_pieces_of a0_size a1_parts) _ from w
    unfold m_pieces_of at w
    refine q_asg (K := K) G w (Ev.nv (em_lst' (el_cons (em_tup2 (em_op (em_var rfl r0) (em_var rfl r1) fun _ _ => o_fdivM) (em_op (em_var rfl r1) (em_op (em_var rfl r0) (em_var rfl r1) fun _ _ => o_modM) fun _ _ => o_sub)) (el_cons (em_tup2 (em_op (em_op (em_var rfl r0) (em_var rfl r1) fun _ _ => o_fdivM) em_int fun _ _ => o_add) (em_op (em_var rfl r0) (em_var rfl r1) fun _ _ => o_modM)) (el_nil (α := (Int × Int))))))) fun pairs_1748 F_1749 H_1750 v_1752 g_1751 r_1753 w => ?_
    have G := G.tr g_1751
    have r0 := Rep.mo (K := K) g_1751.ff r0
    have r1 := Rep.mo (K := K) g_1751.ff r1
    exact s_retN0 G w (em_lc (c := (fun x_1755 : (Int × Int) => (((M.ok x_1755.1).bind fun x_1758 => (M.ok x_1755.2).bind fun y_1759 => mulM x_1758 y_1759).bind fun x_1760 => (M.ok (0 : Int)).bind fun y_1761 => .ok (decide (y_1761 < x_1760))))) (e := (fun x_1755 : (Int × Int) => (M.ok x_1755))) (ei_list (em_var rfl r_1753)) (tg_name (K := K)) (fun _ _ _ ⟨_, h, _⟩ => by rw [h]; exact wipe1) (fun x_1755 _ _ _ g_1754 ⟨v_1756, h_1762, r_1757⟩ => by subst h_1762; exact (t_of (em_op (em_op (e2 (em_var rfl r_1757) em_int (o_fst rfl)) (e2 (em_var rfl r_1757) em_int (o_snd rfl)) fun _ _ => o_mul) em_int fun _ _ => o_gt))) (fun x_1755 _ _ _ g_1754 ⟨v_1756, h_1762, r_1757⟩ => by subst h_1762; exact (em_var rfl r_1757))) fun r F1 H1 v g m p => hQ r F1 H1 v g m p
/-! ### goes_on -/
abbrev s_goes_on : Stmt := topS 11
abbrev N_goes_on : List Str := ["works", "row", "size", "told", "piece", "many"]
theorem sc_goes_on : FnScope N_goes_on ["works", "row", "size"] (defScope s_goes_on) := ⟨rfl, rfl, rfl, by decide +kernel, rfl, by decide +kernel, by decide +kernel⟩
abbrev sp_goes_on (K : PySem.W.Frag) (ce : Ce) : Sp := SpF0 ce (RC K (α := Wk) (RC K (α := Int) (RC K (α := Int) R0))) (rn K (α := (T3 Int Int Int))) (fun a : (Wk × Int × Int × Unit) => m_goes_on a.1 a.2.1 a.2.2.1)
theorem ok_goes_on {f : Addr} {fd : FuncData} (FF : Fun K "goes_on" "goes_on" s_goes_on f fd) {a_pieces_of : Addr} {d_pieces_of : FuncData} (G_pieces_of : FnOk P w K mg base CX0 1 a_pieces_of d_pieces_of ["size", "parts"] (sp_pieces_of K ce)) (mg_pieces_of : mg "pieces_of" = some (.ref a_pieces_of)) (k_pieces_of : PySem.W.keepIn K (.ref a_pieces_of) = true) (b_pieces_of : Binds K d_pieces_of ["size", "parts"] []) : FnOk P w K mg base CX0 2 f fd ["works", "row", "size"] (sp_goes_on K ce) := by
  refine FF.ok sc_goes_on (fun vs H0 Q E h => ?_) (fun cdv A outer s H0 vs Q E hr h => ?_)
  · obtain ⟨F0, ⟨a0_works, a1_row, a2_size, _⟩, e0, ⟨v0, _, rfl, r0, ⟨v1, _, rfl, r1, ⟨v2, _, rfl, r2, rfl⟩⟩⟩, w⟩ := h
    rfl
  · obtain ⟨F0, ⟨a0_works, a1_row, a2_size, _⟩, e0, ⟨v0, _, rfl, r0, ⟨v1, _, rfl, r1, ⟨v2, _, rfl, r2, rfl⟩⟩⟩, w⟩ := h
    have w := wp_post w
    have G := Gr.rf e0
    have nd := sc_goes_on.nd
    have hQ : ∀ r F1 H1 v, Gr F0 H0 F1 H1 → (rn K (α := (T3 Int Int Int))) F0 H0 F1 H1 v r → Fin (rn K (α := (T3 Int Int Int))) F0 H0 Q r → Q v H1 := fun r F1 H1 v g m p => p F1 H1 v g m
    refine ⟨_, (pss_cons (ps_set (i := 3) nd rfl (by first | exact Or.inl rfl | exact Or.inr rfl) (pe_ix (r := rIxL K) ix_list (pe_fld (pv 0) rfl) (pv 1) (fun _ _ => rfl)))
      (pss_cons (ps_if (pt_cmpR (r := rEqD K) (op_eqD hr.units) (pe_ix (r := rIxT K) ix_tup (pv 3) pe_int (fun _ _ => rfl)) pe_str (nomark _)) (pss_one (ps_ret (pe_lst pa_nil))) pss_nil)
      (pss_cons (ps_if (pt_cmpR (r := rEqD K) (op_eqD hr.units) (pe_ix (r := rIxT K) ix_tup (pv 3) pe_int (fun _ _ => rfl)) pe_str (nomark _)) (pss_one (ps_ret (pe_lc (own := [("piece", 4), ("many", 5)]) (g := (gTup K 2 (gCons (gName 4) (gCons (gName 5) gNil)))) (by rfl) nd (pi_list (pe_call G_pieces_of (hr.mono (by decide)) rfl mg_pieces_of k_pieces_of b_pieces_of .nil pass0 (pa_cons (pv 2) (pa_cons (pe_fld (pv 0) rfl) pa_nil)))) (blkOk_by (own := [("piece", 4), ("many", 5)]) (N := N_goes_on) (sc := defScope s_goes_on) (by decide +kernel)) (fun _ _ _ _ _ => (pg_tup rfl (pgs_cons (pg_name (i := 4) nd rfl (by first | exact Or.inl rfl | exact Or.inr rfl)) (pgs_cons (pg_name (i := 5) nd rfl (by first | exact Or.inl rfl | exact Or.inr rfl)) pgs_nil)))) (fun _ _ _ _ _ => pts_nil) (fun _ _ _ _ _ => (pe_tup (pa_cons (pe_ix (r := rIxT K) ix_tup (pv 3) pe_int (fun _ _ => rfl)) (pa_cons (pv 4) (pa_cons (pv 5) pa_nil)))))))) pss_nil)
      (pss_cons (ps_if (pt_cmpR op_le (pv 2) (pe_ix (r := rIxT K) ix_tup (pv 3) pe_int (fun _ _ => rfl)) (nomark _)) (pss_one (ps_ret (pe_lst (pa_cons (pe_tup (pa_cons (pe_ix (r := rIxT K) ix_tup (pv 3) pe_int (fun _ _ => rfl)) (pa_cons (pv 2) (pa_cons pe_int pa_nil)))) pa_nil)))) pss_nil)
      (pss_one (ps_ret (pe_lst (pa_cons (pe_tup (pa_cons (pe_ix (r := rIxT K) ix_tup (pv 3) pe_int (fun _ _ => rfl)) (pa_cons (pv 2) (pa_cons pe_int pa_nil)))) pa_nil)))))))), ?_⟩
    have w := show Wp ce E0 H0 (m_goes_on a0_works a1_row a2_size) _ from w
    unfold m_goes_on at w
    refine q_asg (K := K) G w (em_op (e_wkr (em_var rfl r0)) (em_var rfl r1) fun _ _ => o_ixL) fun told_1824 F_1825 H_1826 v_1828 g_1827 r_1829 w => ?_
    have G := G.tr g_1827
    have r0 := Rep.mo (K := K) g_1827.ff r0
    have r1 := Rep.mo (K := K) g_1827.ff r1
    have r2 := Rep.mo (K := K) g_1827.ff r2
    refine q_if2 G w (t_of (em_op (em_op (em_var rfl r_1829) em_int fun _ _ => o_rowix) (e_clw (em_wd (by decide +kernel))) fun _ _ => (o_eqD (by decide)))) (fun F_1834 H_1835 g_1836 w => ?_) (fun F_1834 H_1835 g_1836 w => ?_)
    · have G := G.tr g_1836
      have r0 := Rep.mo (K := K) g_1836.ff r0
      have r1 := Rep.mo (K := K) g_1836.ff r1
      have r2 := Rep.mo (K := K) g_1836.ff r2
      have r_1829 := Rep.mo (K := K) g_1836.ff r_1829
      exact s_retN0 G w (e_lst (el_nil (α := (T3 Int Int Int))) (by decide)) fun r F1 H1 v g m p => hQ r F1 H1 v g m p
    · have G := G.tr g_1836
      have r0 := Rep.mo (K := K) g_1836.ff r0
      have r1 := Rep.mo (K := K) g_1836.ff r1
      have r2 := Rep.mo (K := K) g_1836.ff r2
      have r_1829 := Rep.mo (K := K) g_1836.ff r_1829
      refine s_next ?_
      refine s_nx ?_
      refine q_if2 G w (t_of (em_op (em_op (em_var rfl r_1829) em_int fun _ _ => o_rowix) (e_clw (em_wd (by decide +kernel))) fun _ _ => (o_eqD (by decide)))) (fun F_1841 H_1842 g_1843 w => ?_) (fun F_1841 H_1842 g_1843 w => ?_)
      · have G := G.tr g_1843
        have r0 := Rep.mo (K := K) g_1843.ff r0
        have r1 := Rep.mo (K := K) g_1843.ff r1
        have r2 := Rep.mo (K := K) g_1843.ff r2
        have r_1829 := Rep.mo (K := K) g_1843.ff r_1829
        exact s_retN0 G w (em_lc (c := (fun x_1845 : (Int × Int) => (M.ok true))) (e := (fun x_1845 : (Int × Int) => ((((M.ok told_1824).bind fun x_1850 => (M.ok (1 : Int)).bind fun y_1851 => ixM x_1850.cs y_1851).bind clI).bind fun x_1852 => (M.ok x_1845.1).bind fun x_1853 => (M.ok x_1845.2).bind fun x_1854 => .ok (T3.mk x_1852 x_1853 x_1854)))) (ei_list (Ev.nv (e_call0 (f := (fun a : (Int × Int × Unit) => m_pieces_of a.1 a.2.1)) (x := (a2_size, a0_works.parts, ())) (e_cons (em_var rfl r2) (e_cons (e_wkp (em_var rfl r0)) ea_nil))))) (tg_tup2 (K := K)) (fun _ _ _ ⟨_, _, h, _⟩ => by rw [h]; exact wipe2) (fun x_1845 _ _ _ g_1844 ⟨v_1846, v_1848, h_1855, r_1847, r_1849⟩ => by subst h_1855; exact t_yes) (fun x_1845 _ _ _ g_1844 ⟨v_1846, v_1848, h_1855, r_1847, r_1849⟩ => by subst h_1855; exact (em_tup3 (em_clI (em_op (em_var rfl (Rep.mo g_1844.ff r_1829)) em_int fun _ _ => o_rowix)) (em_var rfl r_1847) (em_var rfl r_1849)))) fun r F1 H1 v g m p => hQ r F1 H1 v g m p
      · have G := G.tr g_1843
        have r0 := Rep.mo (K := K) g_1843.ff r0
        have r1 := Rep.mo (K := K) g_1843.ff r1
        have r2 := Rep.mo (K := K) g_1843.ff r2
        have r_1829 := Rep.mo (K := K) g_1843.ff r_1829
        refine s_next ?_
        refine s_nx ?_
        refine q_if2 G w (t_of (em_op (em_var rfl r2) (em_clI (em_op (em_var rfl r_1829) em_int fun _ _ => o_rowix)) fun _ _ => o_le)) (fun F_1861 H_1862 g_1863 w => ?_) (fun F_1861 H_1862 g_1863 w => ?_)
        · have G := G.tr g_1863
          have r0 := Rep.mo (K := K) g_1863.ff r0
          have r1 := Rep.mo (K := K) g_1863.ff r1
          have r2 := Rep.mo (K := K) g_1863.ff r2
          have r_1829 := Rep.mo (K := K) g_1863.ff r_1829
          exact s_retN0 G w (em_lst' (el_cons (em_tup3 (em_clI (em_op (em_var rfl r_1829) em_int fun _ _ => o_rowix)) (em_var rfl r2) em_int) (el_nil (α := (T3 Int Int Int))))) fun r F1 H1 v g m p => hQ r F1 H1 v g m p
        · have G := G.tr g_1863
          have r0 := Rep.mo (K := K) g_1863.ff r0
          have r1 := Rep.mo (K := K) g_1863.ff r1
          have r2 := Rep.mo (K := K) g_1863.ff r2
          have r_1829 := Rep.mo (K := K) g_1863.ff r_1829
          refine s_next ?_
          refine s_nx ?_
          exact s_retN0 G w (em_lst' (el_cons (em_tup3 (em_clI (em_op (em_var rfl r_1829) em_int fun _ _ => o_rowix)) (em_var rfl r2) em_int) (el_nil (α := (T3 Int Int Int))))) fun r F1 H1 v g m p => hQ r F1 H1 v g m p
/-! ### own_weight -/
abbrev s_own_weight : Stmt := topS 13
abbrev N_own_weight : List Str := ["works", "row", "size", "number"]
theorem sc_own_weight : FnScope N_own_weight ["works", "row", "size", "number"] (defScope s_own_weight) := ⟨rfl, rfl, rfl, by decide +kernel, rfl, by decide +kernel, by decide +kernel⟩
abbrev sp_own_weight (K : PySem.W.Frag) (ce : Ce) : Sp := SpF0 ce (RC K (α := Wk) (RC K (α := Int) (RC K (α := Int) (RC K (α := Int) R0)))) (rv K (ρ := Int)) (fun a : (Wk × Int × Int × Int × Unit) => m_own_weight a.1 a.2.1 a.2.2.1 a.2.2.2.1)
theorem ok_own_weight {f : Addr} {fd : FuncData} (FF : Fun K "own_weight" "own_weight" s_own_weight f fd) : FnOk P w K mg base CX0 1 f fd ["works", "row", "size", "number"] (sp_own_weight K ce) := by
  refine FF.ok sc_own_weight (fun vs H0 Q E h => ?_) (fun cdv A outer s H0 vs Q E hr h => ?_)
  · obtain ⟨F0, ⟨a0_works, a1_row, a2_size, a3_number, _⟩, e0, ⟨v0, _, rfl, r0, ⟨v1, _, rfl, r1, ⟨v2, _, rfl, r2, ⟨v3, _, rfl, r3, rfl⟩⟩⟩⟩, w⟩ := h
    rfl
  · obtain ⟨F0, ⟨a0_works, a1_row, a2_size, a3_number, _⟩, e0, ⟨v0, _, rfl, r0, ⟨v1, _, rfl, r1, ⟨v2, _, rfl, r2, ⟨v3, _, rfl, r3, rfl⟩⟩⟩⟩, w⟩ := h
    have w := wp_post w
    have G := Gr.rf e0
    have nd := sc_own_weight.nd
    have hQ : ∀ r F1 H1 v, Gr F0 H0 F1 H1 → (rv K (ρ := Int)) F0 H0 F1 H1 v r → Fin (rv K (ρ := Int)) F0 H0 Q r → Q v H1 := fun r F1 H1 v g m p => p F1 H1 v g m
    refine ⟨_, (pss_cons (ps_if (pt_cmpR (r := rEqD K) (op_eqD hr.units) (pe_ix (r := rIxL K) ix_list (pe_fld (pv 0) rfl) (pv 1) (fun _ _ => rfl)) (pe_tup (pa_cons pe_str (pa_cons (pv 3) pa_nil))) (nomark _)) (pss_one (ps_ret (pv 2))) pss_nil)
      (pss_one (ps_ret pe_int))), ?_⟩
    have w := show Wp ce E0 H0 (m_own_weight a0_works a1_row a2_size a3_number) _ from w
    unfold m_own_weight at w
    refine q_if2 G w (t_of (em_op (em_op (e_wkr (em_var rfl r0)) (em_var rfl r1) fun _ _ => o_ixL) (em_row (el_cons (e_clw (em_wd (by decide +kernel))) (el_cons (e_cli (em_var rfl r3)) (el_nil (α := Cl))))) fun _ _ => (o_eqD (by decide)))) (fun F_1901 H_1902 g_1903 w => ?_) (fun F_1901 H_1902 g_1903 w => ?_)
    · have G := G.tr g_1903
      have r0 := Rep.mo (K := K) g_1903.ff r0
      have r1 := Rep.mo (K := K) g_1903.ff r1
      have r2 := Rep.mo (K := K) g_1903.ff r2
      have r3 := Rep.mo (K := K) g_1903.ff r3
      exact s_ret0 G w (em_var rfl r2) fun r F1 H1 v g m p => hQ r F1 H1 v g m p
    · have G := G.tr g_1903
      have r0 := Rep.mo (K := K) g_1903.ff r0
      have r1 := Rep.mo (K := K) g_1903.ff r1
      have r2 := Rep.mo (K := K) g_1903.ff r2
      have r3 := Rep.mo (K := K) g_1903.ff r3
      refine s_next ?_
      refine s_nx ?_
      exact s_ret0 G w em_int fun r F1 H1 v g m p => hQ r F1 H1 v g m p
/-! ### weight_in -/
abbrev s_weight_in : Stmt := topS 14
abbrev N_weight_in : List Str := ["works", "row", "size", "number", "known", "open_grains", "here", "ahead", "lacking", "to", "piece", "many", "total"]
theorem sc_weight_in : FnScope N_weight_in ["works", "row", "size", "number"] (defScope s_weight_in) := ⟨rfl, rfl, rfl, by decide +kernel, rfl, by decide +kernel, by decide +kernel⟩
abbrev sp_weight_in (K : PySem.W.Frag) (ce : Ce) : Sp := SpF0 ce (RC K (α := Wk) (RC K (α := Int) (RC K (α := Int) (RC K (α := Int) R0)))) (rv K (ρ := Int)) (fun a : (Wk × Int × Int × Int × Unit) => m_weight_in a.1 a.2.1 a.2.2.1 a.2.2.2.1)
theorem ok_weight_in {f : Addr} {fd : FuncData} (FF : Fun K "weight_in" "weight_in" s_weight_in f fd) {a_goes_on : Addr} {d_goes_on : FuncData} (G_goes_on : FnOk P w K mg base CX0 2 a_goes_on d_goes_on ["works", "row", "size"] (sp_goes_on K ce)) (mg_goes_on : mg "goes_on" = some (.ref a_goes_on)) (k_goes_on : PySem.W.keepIn K (.ref a_goes_on) = true) (b_goes_on : Binds K d_goes_on ["works", "row", "size"] []) {a_own_weight : Addr} {d_own_weight : FuncData} (G_own_weight : FnOk P w K mg base CX0 1 a_own_weight d_own_weight ["works", "row", "size", "number"] (sp_own_weight K ce)) (mg_own_weight : mg "own_weight" = some (.ref a_own_weight)) (k_own_weight : PySem.W.keepIn K (.ref a_own_weight) = true) (b_own_weight : Binds K d_own_weight ["works", "row", "size", "number"] []) (z_len : mg "len" = none) : FnOk P w K mg base CX0 3 f fd ["works", "row", "size", "number"] (sp_weight_in K ce) := by
  refine FF.ok sc_weight_in (fun vs H0 Q E h => ?_) (fun cdv A outer s H0 vs Q E hr h => ?_)
  · obtain ⟨F0, ⟨a0_works, a1_row, a2_size, a3_number, _⟩, e0, ⟨v0, _, rfl, r0, ⟨v1, _, rfl, r1, ⟨v2, _, rfl, r2, ⟨v3, _, rfl, r3, rfl⟩⟩⟩⟩, w⟩ := h
    rfl
  · obtain ⟨F0, ⟨a0_works, a1_row, a2_size, a3_number, _⟩, e0, ⟨v0, _, rfl, r0, ⟨v1, _, rfl, r1, ⟨v2, _, rfl, r2, ⟨v3, _, rfl, r3, rfl⟩⟩⟩⟩, w⟩ := h
    have w := wp_post w
    have G := Gr.rf e0
    have nd := sc_weight_in.nd
    have hQ : ∀ r F1 H1 v, Gr F0 H0 F1 H1 → (rv K (ρ := Int)) F0 H0 F1 H1 v r → Fin (rv K (ρ := Int)) F0 H0 Q r → Q v H1 := fun r F1 H1 v g m p => p F1 H1 v g m
    refine ⟨_, (pss_cons (ps_set (i := 4) nd rfl (by first | exact Or.inl rfl | exact Or.inr rfl) (pe_dispT (hu_of hr) (pe_tup (pa_cons (pv 1) (pa_cons pe_int pa_nil))) pe_int))
      (pss_cons (ps_set (i := 5) nd rfl (by first | exact Or.inl rfl | exact Or.inr rfl) (pe_lst (pa_cons (pe_tup (pa_cons (pv 1) (pa_cons (pv 2) pa_nil))) pa_nil)))
      (pss_cons (ps_while (by first | exact PassesOwn.never | exact passes_of rfl) (pt_cmpR op_gt (pe_callB (r := rLenS K) call_len_seq (by rfl) z_len (by decide +kernel) (pa_cons (pv 5) pa_nil)) pe_int (nomark _)) (pss_cons (ps_set (i := 6) nd rfl (by first | exact Or.inl rfl | exact Or.inr rfl) (pe_ix (r := rIxL K) ix_list (pv 5) (pe_un un_neg pe_int) (fun _ _ => rfl)))
      (pss_cons (ps_set (i := 7) nd rfl (by first | exact Or.inl rfl | exact Or.inr rfl) (pe_ifExp (pt_cmpR op_gt (pe_ix (r := rIxT K) ix_tup (pv 6) pe_int (fun _ _ => rfl)) pe_int (nomark _)) (pe_call G_goes_on (hr.mono (by decide)) rfl mg_goes_on k_goes_on b_goes_on .nil pass0 (pa_cons (pv 0) (pa_cons (pe_ix (r := rIxT K) ix_tup (pv 6) pe_int (fun _ _ => rfl)) (pa_cons (pe_ix (r := rIxT K) ix_tup (pv 6) pe_int (fun _ _ => rfl)) pa_nil)))) (pe_lst pa_nil)))
      (pss_cons (by first | exact (ps_setLc (i := 8) (own := [("to", 9), ("piece", 10), ("many", 11)]) (g := (gTup K 3 (gCons (gName 9) (gCons (gName 10) (gCons (gName 11) gNil))))) (by rfl) nd rfl rfl (sw_true rfl rfl rfl (by decide +kernel)) (pi_list (pv 7)) (blkOk_by (own := [("to", 9), ("piece", 10), ("many", 11)]) (N := N_weight_in) (sc := defScope s_weight_in) (by decide +kernel)) (fun _ _ _ _ _ => (pg_tup rfl (pgs_cons (pg_name (i := 9) nd rfl (by first | exact Or.inl rfl | exact Or.inr rfl)) (pgs_cons (pg_name (i := 10) nd rfl (by first | exact Or.inl rfl | exact Or.inr rfl)) (pgs_cons (pg_name (i := 11) nd rfl (by first | exact Or.inl rfl | exact Or.inr rfl)) pgs_nil))))) (fun _ _ _ _ _ => (pts_one (pt_cmp (pc_dnotin (hu_of hr) (pe_tup (pa_cons (pv 9) (pa_cons (pv 10) pa_nil))) (pv 4))))) (fun _ _ _ _ _ => (pe_tup (pa_cons (pv 9) (pa_cons (pv 10) pa_nil))))) | exact (ps_set (i := 8) nd rfl (by first | exact Or.inl rfl | exact Or.inr rfl) (pe_lc (own := [("to", 9), ("piece", 10), ("many", 11)]) (g := (gTup K 3 (gCons (gName 9) (gCons (gName 10) (gCons (gName 11) gNil))))) (by rfl) nd (pi_list (pv 7)) (blkOk_by (own := [("to", 9), ("piece", 10), ("many", 11)]) (N := N_weight_in) (sc := defScope s_weight_in) (by decide +kernel)) (fun _ _ _ _ _ => (pg_tup rfl (pgs_cons (pg_name (i := 9) nd rfl (by first | exact Or.inl rfl | exact Or.inr rfl)) (pgs_cons (pg_name (i := 10) nd rfl (by first | exact Or.inl rfl | exact Or.inr rfl)) (pgs_cons (pg_name (i := 11) nd rfl (by first | exact Or.inl rfl | exact Or.inr rfl)) pgs_nil))))) (fun _ _ _ _ _ => (pts_one (pt_cmp (pc_dnotin (hu_of hr) (pe_tup (pa_cons (pv 9) (pa_cons (pv 10) pa_nil))) (pv 4))))) (fun _ _ _ _ _ => (pe_tup (pa_cons (pv 9) (pa_cons (pv 10) pa_nil)))))))
      (pss_one (ps_if (pt_cmp (pc_din (hu_of hr) (pv 6) (pv 4))) (pss_one (ps_expr (pe_bm0 (r := rPop) PySem.F.plainAttrs_list PySem.F.slot_list_pop PySem.F.type_list_pop mt_pop (pv 5)))) (pss_one (ps_if (pt_cmpR op_gt (pe_callB (r := rLenS K) call_len_seq (by rfl) z_len (by decide +kernel) (pa_cons (pv 8) pa_nil)) pe_int (nomark _)) (pss_one (ps_expr (pe_bm (r := rExtend) PySem.F.plainAttrs_list PySem.F.slot_list_extend PySem.F.type_list_extend mt_extend (pv 5) (pa_cons (pv 8) pa_nil)))) (pss_cons (ps_set (i := 12) nd rfl (by first | exact Or.inl rfl | exact Or.inr rfl) (pe_call G_own_weight (hr.mono (by decide)) rfl mg_own_weight k_own_weight b_own_weight .nil pass0 (pa_cons (pv 0) (pa_cons (pe_ix (r := rIxT K) ix_tup (pv 6) pe_int (fun _ _ => rfl)) (pa_cons (pe_ix (r := rIxT K) ix_tup (pv 6) pe_int (fun _ _ => rfl)) (pa_cons (pv 3) pa_nil))))))
      (pss_cons (ps_for (by first | exact PassesOwn.never | exact passes_of rfl) rfl (pi_list (pv 7)) (pg_tup rfl (pgs_cons (pg_name (i := 9) nd rfl (by first | exact Or.inl rfl | exact Or.inr rfl)) (pgs_cons (pg_name (i := 10) nd rfl (by first | exact Or.inl rfl | exact Or.inr rfl)) (pgs_cons (pg_name (i := 11) nd rfl (by first | exact Or.inl rfl | exact Or.inr rfl)) pgs_nil)))) (pss_one (ps_aug (i := 12) nd rfl (by first | exact Or.inl rfl | exact Or.inr rfl) (pe_op op_mulW (pv 11) (pe_dget (hu_of hr) (pv 4) (pe_tup (pa_cons (pv 9) (pa_cons (pv 10) pa_nil))) (fun _ _ => rfl))) ip_add)))
      (pss_one (ps_dput (hu_of hr) (pv 4) (pv 6) (pv 12) rfl))))))))))))
      (pss_one (ps_ret (pe_dget (hu_of hr) (pv 4) (pe_tup (pa_cons (pv 1) (pa_cons (pv 2) pa_nil))) (fun _ _ => rfl))))))), ?_⟩
    have w := show Wp ce E0 H0 (m_weight_in a0_works a1_row a2_size a3_number) _ from w
    unfold m_weight_in at w
    refine q_asgO (K := K) G w (em_pdisp (em_kp (em_var rfl r1) em_int) em_int) fun known_2117 F_2118 H_2119 p_2121 g_2120 n_2122 o_2123 w => ?_
    have n0p_2121 := ex_back G.hh n_2122
    have G := G.tr g_2120
    have r0 := Rep.mo (K := K) g_2120.ff r0
    have r1 := Rep.mo (K := K) g_2120.ff r1
    have r2 := Rep.mo (K := K) g_2120.ff r2
    have r3 := Rep.mo (K := K) g_2120.ff r3
    refine q_asgN (K := K) G w (em_lst' (el_cons (em_kp (em_var rfl r1) (em_var rfl r2)) (el_nil (α := Kp)))) fun open_grains_2129 F_2130 H_2131 p_2133 g_2132 n_2134 o_2135 w => ?_
    have n0p_2133 := ex_back G.hh n_2134
    have dp_2121_p_2133 : p_2121 ≠ p_2133 := fun z => o_2123.ne (z ▸ n_2134)
    have G := G.tr g_2132
    have r0 := Rep.mo (K := K) g_2132.ff r0
    have r1 := Rep.mo (K := K) g_2132.ff r1
    have r2 := Rep.mo (K := K) g_2132.ff r2
    have r3 := Rep.mo (K := K) g_2132.ff r3
    have o_2123 := o_2123.mo g_2132
    refine q_while (S := ((List Kp) × (Dp Int))) (fun s F' H' σ' => ∃ (z_2136 : Option V) (z_2137 : Option V) (z_2138 : Option V) (z_2139 : Option V) (z_2140 : Option V) (z_2141 : Option V) (z_2142 : Option V), σ' = [some v0, some v1, some v2, some v3, some (.ref p_2121), some (.ref p_2133), z_2136, z_2137, z_2138, z_2140, z_2141, z_2142, z_2139] ∧ Gr F0 H0 F' H' ∧ Ex F_2130 F' ∧ Own K (T := (List Kp)) F' H' p_2133 s.1 ∧ Own K (T := (Dp Int)) F' H' p_2121 s.2) ⟨_, _, _, _, _, _, _, rfl, G, Ex.rf _, o_2135, o_2123⟩ (fun _ _ _ _ ⟨_, _, _, _, _, _, _, _, G, _⟩ => G) w ?_ ?_ ?_ ?_
    · rintro s_2143 F_2144 H_2145 _ ⟨z_2136, z_2137, z_2138, z_2139, z_2140, z_2141, z_2142, hs_2147, G, e_2148, o_2149, o_2150⟩
      subst hs_2147
      have r0 := Rep.mo (K := K) e_2148 r0
      have r1 := Rep.mo (K := K) e_2148 r1
      have r2 := Rep.mo (K := K) e_2148 r2
      have r3 := Rep.mo (K := K) e_2148 r3
      unfold m_weight_in_c1
      exact t_lend [p_2133] (own1 o_2149.f) (own1 o_2149.ls) (t_of (e2 (e_cb (e_cons (em_var rfl (o_2149.lent G.fh (by simp))) ea_nil) a_len) em_int o_gt))
    · rintro s_2143 _ _ _ _ _ ⟨z_2136, z_2137, z_2138, z_2139, z_2140, z_2141, z_2142, hs_2151, G, e_2152, o_2153, o_2154⟩ g_2155
      subst hs_2151
      exact ⟨_, _, _, _, _, _, _, rfl, G.tr g_2155, Ex.tr e_2152 g_2155.ff, o_2153.mo g_2155, o_2154.mo g_2155⟩
    · rintro s_2143 F_2156 H_2157 _ ⟨z_2136, z_2137, z_2138, z_2139, z_2140, z_2141, z_2142, hs_2158, G, e_2159, o_2160, o_2161⟩ D_2166 P_2167 hrt_2168 hN_2162 hC_2163 hB_2164 hP_2165 w
      subst hs_2158
      have r0 := Rep.mo (K := K) e_2159 r0
      have r1 := Rep.mo (K := K) e_2159 r1
      have r2 := Rep.mo (K := K) e_2159 r2
      have r3 := Rep.mo (K := K) e_2159 r3
      have hQ : ∀ r F1 H1 v, Gr F0 H0 F1 H1 → (rv K (ρ := Int)) F0 H0 F1 H1 v r → P_2167 (.rt r) → D_2166.rt v H1 := fun r F1 H1 v g m p => by rw [hrt_2168]; exact hQ r F1 H1 v g m (hP_2165 _ p)
      unfold m_weight_in_b1 at w
      refine q_asgA (K := K) [p_2133] G w (own1 o_2160.f) (own1 o_2160.ls) (own1 n0p_2133) (em_op (em_var rfl (o_2160.lent G.fh (by simp))) (e_neg em_int) fun _ _ => o_ixL) fun here_2171 F_2172 H_2173 v_2175 g_2174 r_2176 w => ?_
      have G := G.tr g_2174
      have r0 := Rep.mo (K := K) g_2174.ff r0
      have r1 := Rep.mo (K := K) g_2174.ff r1
      have r2 := Rep.mo (K := K) g_2174.ff r2
      have r3 := Rep.mo (K := K) g_2174.ff r3
      have o_2161 := o_2161.mo g_2174
      have o_2160 := o_2160.mo g_2174
      have e_2159 := Ex.tr e_2159 g_2174.ff
      refine q_asg (K := K) G w (Ev.nv (em_if (t_of (e2 (e2 (em_var rfl r_2176) em_int (o_kpB rfl)) em_int o_gt)) (e_call0 (f := (fun a : (Wk × Int × Int × Unit) => m_goes_on a.1 a.2.1 a.2.2.1)) (x := (a0_works, here_2171.a, here_2171.b, ())) (e_cons (em_var rfl r0) (e_cons (e2 (em_var rfl r_2176) em_int (o_kpA rfl)) (e_cons (e2 (em_var rfl r_2176) em_int (o_kpB rfl)) ea_nil)))) (e_lst (el_nil (α := (T3 Int Int Int))) (by decide)))) fun ahead_2178 F_2179 H_2180 v_2182 g_2181 r_2183 w => ?_
      have G := G.tr g_2181
      have r0 := Rep.mo (K := K) g_2181.ff r0
      have r1 := Rep.mo (K := K) g_2181.ff r1
      have r2 := Rep.mo (K := K) g_2181.ff r2
      have r3 := Rep.mo (K := K) g_2181.ff r3
      have o_2161 := o_2161.mo g_2181
      have o_2160 := o_2160.mo g_2181
      have r_2176 := Rep.mo (K := K) g_2181.ff r_2176
      have e_2159 := Ex.tr e_2159 g_2181.ff
      refine q_asgNA (K := K) [p_2121] G w (own1 o_2161.f) (own1 o_2161.ls) (own1 n0p_2121) (em_lc (c := (fun x_2185 : (T3 Int Int Int) => (((M.ok x_2185.a).bind fun x_2192 => (M.ok x_2185.b).bind fun y_2193 => .ok (Kp.mk x_2192 y_2193)).bind fun k_2194 => (M.ok s_2143.2).bind fun d_2195 => .ok (!Option.isSome (plook k_2194 d_2195.kvs))))) (e := (fun x_2185 : (T3 Int Int Int) => ((M.ok x_2185.a).bind fun x_2196 => (M.ok x_2185.b).bind fun y_2197 => .ok (Kp.mk x_2196 y_2197)))) (ei_list (em_var rfl (Rep.mo (fz_ex G.fh) r_2183))) (tg_tup3 (K := K)) (fun _ _ _ ⟨_, _, _, h, _⟩ => by rw [h]; exact wipe3) (fun x_2185 _ _ _ g_2184 ⟨v_2186, v_2188, v_2190, h_2198, r_2187, r_2189, r_2191⟩ => by subst h_2198; exact (t_B (em_pnotin (em_kp (em_var rfl r_2187) (em_var rfl r_2189)) (em_var rfl (Rep.mo g_2184.ff (o_2161.lent G.fh (by simp))))))) (fun x_2185 _ _ _ g_2184 ⟨v_2186, v_2188, v_2190, h_2198, r_2187, r_2189, r_2191⟩ => by subst h_2198; exact (em_kp (em_var rfl r_2187) (em_var rfl r_2189)))) fun lacking_2206 F_2207 H_2208 p_2213 g_2209 n_2214 o_2215 w => ?_
      have n0p_2213 := ex_back G.hh n_2214
      have dp_2121_p_2213 : p_2121 ≠ p_2213 := fun z => o_2161.ne (z ▸ n_2214)
      have dp_2133_p_2213 : p_2133 ≠ p_2213 := fun z => o_2160.ne (z ▸ n_2214)
      have G := G.tr g_2209
      have r0 := Rep.mo (K := K) g_2209.ff r0
      have r1 := Rep.mo (K := K) g_2209.ff r1
      have r2 := Rep.mo (K := K) g_2209.ff r2
      have r3 := Rep.mo (K := K) g_2209.ff r3
      have o_2161 := o_2161.mo g_2209
      have o_2160 := o_2160.mo g_2209
      have r_2176 := Rep.mo (K := K) g_2209.ff r_2176
      have r_2183 := Rep.mo (K := K) g_2209.ff r_2183
      have e_2159 := Ex.tr e_2159 g_2209.ff
      obtain ⟨F_2212, G, e_2216, r_2211, hsp_2213⟩ := own_fix G o_2215 n0p_2213
      have r0 := Rep.mo (K := K) e_2216 r0
      have r1 := Rep.mo (K := K) e_2216 r1
      have r2 := Rep.mo (K := K) e_2216 r2
      have r3 := Rep.mo (K := K) e_2216 r3
      have o_2161 := o_2161.other e_2216 (hsp_2213 _ dp_2121_p_2213)
      have o_2160 := o_2160.other e_2216 (hsp_2213 _ dp_2133_p_2213)
      have r_2176 := Rep.mo (K := K) e_2216 r_2176
      have r_2183 := Rep.mo (K := K) e_2216 r_2183
      have e_2159 := Ex.tr e_2159 e_2216
      refine s_if2A [p_2121] G w (own1 o_2161.f) (own1 o_2161.ls) (t_B (em_pin (em_var rfl (Rep.mo (fz_ex G.fh) r_2176)) (em_var rfl (o_2161.lent G.fh (by simp))))) (fun F_2219 H_2220 g_2221 w => ?_) (fun F_2219 H_2220 g_2221 w => ?_)
      · have G := G.tr g_2221
        have r0 := Rep.mo (K := K) g_2221.ff r0
        have r1 := Rep.mo (K := K) g_2221.ff r1
        have r2 := Rep.mo (K := K) g_2221.ff r2
        have r3 := Rep.mo (K := K) g_2221.ff r3
        have o_2161 := o_2161.mo g_2221
        have o_2160 := o_2160.mo g_2221
        have r_2176 := Rep.mo (K := K) g_2221.ff r_2176
        have r_2183 := Rep.mo (K := K) g_2221.ff r_2183
        have r_2211 := Rep.mo (K := K) g_2221.ff r_2211
        have e_2159 := Ex.tr e_2159 g_2221.ff
        refine s_pop0 rfl o_2160 n0p_2133 G w fun open_grains_2222 F_2223 H_2224 e_2225 G o_2226 hO_2227 w => ?_
        have r0 := Rep.mo (K := K) e_2225 r0
        have r1 := Rep.mo (K := K) e_2225 r1
        have r2 := Rep.mo (K := K) e_2225 r2
        have r3 := Rep.mo (K := K) e_2225 r3
        have o_2161 := hO_2227 _ _ _ dp_2121_p_2133 o_2161
        have r_2176 := Rep.mo (K := K) e_2225 r_2176
        have r_2183 := Rep.mo (K := K) e_2225 r_2183
        have r_2211 := Rep.mo (K := K) e_2225 r_2211
        have e_2159 := Ex.tr e_2159 e_2225
        exact hN_2162 _ w _ _ _ ⟨_, _, _, _, _, _, _, rfl, G, e_2159, o_2226, o_2161⟩
      · have G := G.tr g_2221
        have r0 := Rep.mo (K := K) g_2221.ff r0
        have r1 := Rep.mo (K := K) g_2221.ff r1
        have r2 := Rep.mo (K := K) g_2221.ff r2
        have r3 := Rep.mo (K := K) g_2221.ff r3
        have o_2161 := o_2161.mo g_2221
        have o_2160 := o_2160.mo g_2221
        have r_2176 := Rep.mo (K := K) g_2221.ff r_2176
        have r_2183 := Rep.mo (K := K) g_2221.ff r_2183
        have r_2211 := Rep.mo (K := K) g_2221.ff r_2211
        have e_2159 := Ex.tr e_2159 g_2221.ff
        refine s_if2 G w (t_of (e2 (e_cb (e_cons (em_var rfl r_2211) ea_nil) a_len) em_int o_gt)) (fun F_2230 H_2231 g_2232 w => ?_) (fun F_2230 H_2231 g_2232 w => ?_)
        · have G := G.tr g_2232
          have r0 := Rep.mo (K := K) g_2232.ff r0
          have r1 := Rep.mo (K := K) g_2232.ff r1
          have r2 := Rep.mo (K := K) g_2232.ff r2
          have r3 := Rep.mo (K := K) g_2232.ff r3
          have o_2161 := o_2161.mo g_2232
          have o_2160 := o_2160.mo g_2232
          have r_2176 := Rep.mo (K := K) g_2232.ff r_2176
          have r_2183 := Rep.mo (K := K) g_2232.ff r_2183
          have r_2211 := Rep.mo (K := K) g_2232.ff r_2211
          have e_2159 := Ex.tr e_2159 g_2232.ff
          refine s_extl [] rfl o_2160 n0p_2133 G w (fun _ m => nomatch m) (fun _ m => nomatch m) (em_var rfl (Rep.mo (fz_ex G.fh) r_2211)) fun open_grains_2233 F_2234 H_2235 e_2236 G o_2237 hO_2238 w => ?_
          have r0 := Rep.mo (K := K) e_2236 r0
          have r1 := Rep.mo (K := K) e_2236 r1
          have r2 := Rep.mo (K := K) e_2236 r2
          have r3 := Rep.mo (K := K) e_2236 r3
          have o_2161 := hO_2238 _ _ _ dp_2121_p_2133 o_2161
          have r_2176 := Rep.mo (K := K) e_2236 r_2176
          have r_2183 := Rep.mo (K := K) e_2236 r_2183
          have r_2211 := Rep.mo (K := K) e_2236 r_2211
          have e_2159 := Ex.tr e_2159 e_2236
          exact hN_2162 _ w _ _ _ ⟨_, _, _, _, _, _, _, rfl, G, e_2159, o_2237, o_2161⟩
        · have G := G.tr g_2232
          have r0 := Rep.mo (K := K) g_2232.ff r0
          have r1 := Rep.mo (K := K) g_2232.ff r1
          have r2 := Rep.mo (K := K) g_2232.ff r2
          have r3 := Rep.mo (K := K) g_2232.ff r3
          have o_2161 := o_2161.mo g_2232
          have o_2160 := o_2160.mo g_2232
          have r_2176 := Rep.mo (K := K) g_2232.ff r_2176
          have r_2183 := Rep.mo (K := K) g_2232.ff r_2183
          have r_2211 := Rep.mo (K := K) g_2232.ff r_2211
          have e_2159 := Ex.tr e_2159 g_2232.ff
          refine q_asg (K := K) G w (e_call0 (f := (fun a : (Wk × Int × Int × Int × Unit) => m_own_weight a.1 a.2.1 a.2.2.1 a.2.2.2.1)) (x := (a0_works, here_2171.a, here_2171.b, a3_number, ())) (e_cons (em_var rfl r0) (e_cons (e2 (em_var rfl r_2176) em_int (o_kpA rfl)) (e_cons (e2 (em_var rfl r_2176) em_int (o_kpB rfl)) (e_cons (em_var rfl r3) ea_nil))))) fun total_2241 F_2242 H_2243 v_2245 g_2244 r_2246 w => ?_
          have G := G.tr g_2244
          have r0 := Rep.mo (K := K) g_2244.ff r0
          have r1 := Rep.mo (K := K) g_2244.ff r1
          have r2 := Rep.mo (K := K) g_2244.ff r2
          have r3 := Rep.mo (K := K) g_2244.ff r3
          have o_2161 := o_2161.mo g_2244
          have o_2160 := o_2160.mo g_2244
          have r_2176 := Rep.mo (K := K) g_2244.ff r_2176
          have r_2183 := Rep.mo (K := K) g_2244.ff r_2183
          have r_2211 := Rep.mo (K := K) g_2244.ff r_2211
          have e_2159 := Ex.tr e_2159 g_2244.ff
          refine q_for (S := Int) (fun s F' H' σ' => ∃ (v_2247 : V) (z_2248 : Option V) (z_2249 : Option V) (z_2250 : Option V), σ' = [some v0, some v1, some v2, some v3, some (.ref p_2121), some (.ref p_2133), some v_2175, some v_2182, some (.ref p_2213), z_2248, z_2249, z_2250, some v_2247] ∧ Gr F0 H0 F' H' ∧ Ex F_2242 F' ∧ rp (α := Int) K F' v_2247 s ∧ Own K (T := (Dp Int)) F' H' p_2121 s_2143.2 ∧ Own K (T := (List Kp)) F' H' p_2133 s_2143.1) G (ei_list (em_var rfl r_2183)) (tg_tup3 (K := K)) w (fun _ _ g_2309 => ⟨_, _, _, _, rfl, G.tr g_2309, g_2309.ff, Rep.mo (K := K) g_2309.ff r_2246, o_2161.mo g_2309, o_2160.mo g_2309⟩) (fun _ _ _ _ ⟨_, _, _, _, _, G, _⟩ => G) ?_ ?_
          · rintro x_2252 s_2251 F_2253 H_2254 _ ⟨v_2247, z_2248, z_2249, z_2250, hs_2255, G, e_2256, r_2257, o_2258, o_2259⟩ F_2260 H_2261 σ_2262 g_2263 ⟨v_2271, v_2273, v_2275, h_2277, r_2272, r_2274, r_2276⟩ D_2268 P_2269 hrt_2270 hN_2264 hC_2265 hB_2266 hP_2267 w
            subst hs_2255
            subst h_2277
            have r0 := Rep.mo (K := K) e_2256 r0
            have r1 := Rep.mo (K := K) e_2256 r1
            have r2 := Rep.mo (K := K) e_2256 r2
            have r3 := Rep.mo (K := K) e_2256 r3
            have r_2176 := Rep.mo (K := K) e_2256 r_2176
            have r_2183 := Rep.mo (K := K) e_2256 r_2183
            have r_2211 := Rep.mo (K := K) e_2256 r_2211
            have e_2159 := Ex.tr e_2159 e_2256
            have G := G.tr g_2263
            have r0 := Rep.mo (K := K) g_2263.ff r0
            have r1 := Rep.mo (K := K) g_2263.ff r1
            have r2 := Rep.mo (K := K) g_2263.ff r2
            have r3 := Rep.mo (K := K) g_2263.ff r3
            have o_2258 := o_2258.mo g_2263
            have o_2259 := o_2259.mo g_2263
            have r_2176 := Rep.mo (K := K) g_2263.ff r_2176
            have r_2183 := Rep.mo (K := K) g_2263.ff r_2183
            have r_2211 := Rep.mo (K := K) g_2263.ff r_2211
            have r_2257 := Rep.mo (K := K) g_2263.ff r_2257
            have e_2159 := Ex.tr e_2159 g_2263.ff
            have e_2256 := Ex.tr e_2256 g_2263.ff
            have e_2278 := Ex.rf F_2260
            have hQ : ∀ r F1 H1 v, Gr F0 H0 F1 H1 → (rv K (ρ := Int)) F0 H0 F1 H1 v r → P_2269 (.rt (.rt r)) → D_2268.rt v H1 := fun r F1 H1 v g m p => by rw [hrt_2270]; exact hQ r F1 H1 v g m (hP_2267 _ p)
            unfold m_weight_in_b2 at w
            refine s_augA (k := fun total_2285 => (M.ok (Ctl.nx total_2285))) [p_2121] (f := fun i j => i + j) rfl r_2257 G w (own1 o_2258.f) (own1 o_2258.ls) (em_op (em_var rfl (Rep.mo (fz_ex G.fh) r_2276)) (em_pget (em_var rfl (o_2258.lent G.fh (by simp))) (em_kp (em_var rfl (Rep.mo (fz_ex G.fh) r_2272)) (em_var rfl (Rep.mo (fz_ex G.fh) r_2274)))) fun _ _ => o_mul) fun total_2285 F_2286 H_2287 v_2289 g_2288 r_2290 w => ?_
            have G := G.tr g_2288
            have r0 := Rep.mo (K := K) g_2288.ff r0
            have r1 := Rep.mo (K := K) g_2288.ff r1
            have r2 := Rep.mo (K := K) g_2288.ff r2
            have r3 := Rep.mo (K := K) g_2288.ff r3
            have o_2258 := o_2258.mo g_2288
            have o_2259 := o_2259.mo g_2288
            have r_2176 := Rep.mo (K := K) g_2288.ff r_2176
            have r_2183 := Rep.mo (K := K) g_2288.ff r_2183
            have r_2211 := Rep.mo (K := K) g_2288.ff r_2211
            have r_2272 := Rep.mo (K := K) g_2288.ff r_2272
            have r_2274 := Rep.mo (K := K) g_2288.ff r_2274
            have r_2276 := Rep.mo (K := K) g_2288.ff r_2276
            have e_2159 := Ex.tr e_2159 g_2288.ff
            have e_2256 := Ex.tr e_2256 g_2288.ff
            have e_2278 := Ex.tr e_2278 g_2288.ff
            exact hN_2264 _ w _ _ _ e_2278 ⟨_, _, _, _, rfl, G, e_2256, r_2290, o_2258, o_2259⟩
          · rintro s_2297 F_2298 H_2299 _ e_2300 ⟨v_2247, z_2248, z_2249, z_2250, hs_2292, G, e_2293, r_2294, o_2295, o_2296⟩ w
            subst hs_2292
            have r0 := Rep.mo (K := K) e_2293 r0
            have r1 := Rep.mo (K := K) e_2293 r1
            have r2 := Rep.mo (K := K) e_2293 r2
            have r3 := Rep.mo (K := K) e_2293 r3
            have r_2176 := Rep.mo (K := K) e_2293 r_2176
            have r_2183 := Rep.mo (K := K) e_2293 r_2183
            have r_2211 := Rep.mo (K := K) e_2293 r_2211
            have e_2159 := Ex.tr e_2159 e_2293
            refine s_pput [] rfl o_2295 n0p_2121 G w (fun _ m => nomatch m) (fun _ m => nomatch m) (em_var rfl (Rep.mo (fz_ex G.fh) r_2294)) (em_var rfl (Rep.mo (fz_ex G.fh) r_2176)) fun known_2303 F_2304 H_2305 e_2306 G o_2307 hO_2308 w => ?_
            have r0 := Rep.mo (K := K) e_2306 r0
            have r1 := Rep.mo (K := K) e_2306 r1
            have r2 := Rep.mo (K := K) e_2306 r2
            have r3 := Rep.mo (K := K) e_2306 r3
            have o_2296 := hO_2308 _ _ _ (Ne.symm dp_2121_p_2133) o_2296
            have r_2176 := Rep.mo (K := K) e_2306 r_2176
            have r_2183 := Rep.mo (K := K) e_2306 r_2183
            have r_2211 := Rep.mo (K := K) e_2306 r_2211
            have r_2294 := Rep.mo (K := K) e_2306 r_2294
            have e_2159 := Ex.tr e_2159 e_2306
            exact hN_2162 _ w _ _ _ ⟨_, _, _, _, _, _, _, rfl, G, e_2159, o_2296, o_2307⟩
    · rintro s_2315 F_2316 H_2317 _ ⟨z_2136, z_2137, z_2138, z_2139, z_2140, z_2141, z_2142, hs_2311, G, e_2312, o_2313, o_2314⟩ w
      subst hs_2311
      have r0 := Rep.mo (K := K) e_2312 r0
      have r1 := Rep.mo (K := K) e_2312 r1
      have r2 := Rep.mo (K := K) e_2312 r2
      have r3 := Rep.mo (K := K) e_2312 r3
      have GA := gr_fz (A := [p_2121]) G (own1 n0p_2121)
      exact s_ret0 GA w (em_pget (em_var rfl (o_2314.lent G.fh (by simp))) (em_kp (em_var rfl (Rep.mo (fz_ex G.fh) r1)) (em_var rfl (Rep.mo (fz_ex G.fh) r2)))) fun r F1 H1 v g m p => hQ r F1 H1 v g m p
/-! ### weights_from -/
abbrev s_weights_from : Stmt := topS 15
abbrev N_weights_from : List Str := ["works", "row", "size", "number"]
theorem sc_weights_from : FnScope N_weights_from ["works", "row", "size"] (defScope s_weights_from) := ⟨rfl, rfl, rfl, by decide +kernel, rfl, by decide +kernel, by decide +kernel⟩
abbrev sp_weights_from (K : PySem.W.Frag) (ce : Ce) : Sp := SpF0 ce (RC K (α := Wk) (RC K (α := Int) (RC K (α := Int) R0))) (rn K (α := Int)) (fun a : (Wk × Int × Int × Unit) => m_weights_from a.1 a.2.1 a.2.2.1)
theorem ok_weights_from {f : Addr} {fd : FuncData} (FF : Fun K "weights_from" "weights_from" s_weights_from f fd) {a_weight_in : Addr} {d_weight_in : FuncData} (G_weight_in : FnOk P w K mg base CX0 3 a_weight_in d_weight_in ["works", "row", "size", "number"] (sp_weight_in K ce)) (mg_weight_in : mg "weight_in" = some (.ref a_weight_in)) (k_weight_in : PySem.W.keepIn K (.ref a_weight_in) = true) (b_weight_in : Binds K d_weight_in ["works", "row", "size", "number"] []) (z_range : mg "range" = none) : FnOk P w K mg base CX0 4 f fd ["works", "row", "size"] (sp_weights_from K ce) := by
  refine FF.ok sc_weights_from (fun vs H0 Q E h => ?_) (fun cdv A outer s H0 vs Q E hr h => ?_)
  · obtain ⟨F0, ⟨a0_works, a1_row, a2_size, _⟩, e0, ⟨v0, _, rfl, r0, ⟨v1, _, rfl, r1, ⟨v2, _, rfl, r2, rfl⟩⟩⟩, w⟩ := h
    rfl
  · obtain ⟨F0, ⟨a0_works, a1_row, a2_size, _⟩, e0, ⟨v0, _, rfl, r0, ⟨v1, _, rfl, r1, ⟨v2, _, rfl, r2, rfl⟩⟩⟩, w⟩ := h
    have w := wp_post w
    have G := Gr.rf e0
    have nd := sc_weights_from.nd
    have hQ : ∀ r F1 H1 v, Gr F0 H0 F1 H1 → (rn K (α := Int)) F0 H0 F1 H1 v r → Fin (rn K (α := Int)) F0 H0 Q r → Q v H1 := fun r F1 H1 v g m p => p F1 H1 v g m
    refine ⟨_, (pss_one (ps_ret (pe_lc (own := [("number", 3)]) (g := (gName 3)) (by rfl) nd (pi_range1 rfl z_range (pa_cons pe_int pa_nil)) (blkOk_by (own := [("number", 3)]) (N := N_weights_from) (sc := defScope s_weights_from) (by decide +kernel)) (fun _ _ _ _ _ => (pg_name (i := 3) nd rfl (by first | exact Or.inl rfl | exact Or.inr rfl))) (fun _ _ _ _ _ => pts_nil) (fun _ _ _ _ _ => (pe_call G_weight_in (hr.mono (by decide)) rfl mg_weight_in k_weight_in b_weight_in .nil pass0 (pa_cons (pv 0) (pa_cons (pv 1) (pa_cons (pv 2) (pa_cons (pv 3) pa_nil))))))))), ?_⟩
    have w := show Wp ce E0 H0 (m_weights_from a0_works a1_row a2_size) _ from w
    unfold m_weights_from at w
    exact s_retN0 G w (em_lc (c := (fun x_2329 : Int => (M.ok true))) (e := (fun x_2329 : Int => (m_weight_in a0_works a1_row a2_size x_2329).ne)) (ei_rng1 em_int) (tg_name (K := K)) (fun _ _ _ ⟨_, h, _⟩ => by rw [h]; exact wipe1) (fun x_2329 _ _ _ g_2328 ⟨v_2330, h_2332, r_2331⟩ => by subst h_2332; exact t_yes) (fun x_2329 _ _ _ g_2328 ⟨v_2330, h_2332, r_2331⟩ => by subst h_2332; exact (e_call0 (f := (fun a : (Wk × Int × Int × Int × Unit) => m_weight_in a.1 a.2.1 a.2.2.1 a.2.2.2.1)) (x := (a0_works, a1_row, a2_size, x_2329, ())) (e_cons (em_var rfl (Rep.mo g_2328.ff r0)) (e_cons (em_var rfl (Rep.mo g_2328.ff r1)) (e_cons (em_var rfl (Rep.mo g_2328.ff r2)) (e_cons (em_var rfl r_2331) ea_nil))))))) fun r F1 H1 v g m p => hQ r F1 H1 v g m p
/-! ### _law_whole -/
abbrev s_law_whole : Stmt := topS 17
abbrev N_law_whole : List Str := ["found"]
theorem sc_law_whole : FnScope N_law_whole ["found"] (defScope s_law_whole) := ⟨rfl, rfl, rfl, by decide +kernel, rfl, by decide +kernel, by decide +kernel⟩
abbrev sp_law_whole (K : PySem.W.Frag) (ce : Ce) : Sp := SpF0 ce (RC K (α := Int) R0) (rv K (ρ := Bool)) (fun a : (Int × Unit) => m_law_whole a.1)
theorem ok_law_whole {f : Addr} {fd : FuncData} (FF : Fun K "_law_whole" "_law_whole" s_law_whole f fd) (z_bool : mg "bool" = none) (z_int : mg "int" = none) (z_isinstance : mg "isinstance" = none) : FnOk P w K mg base CX0 1 f fd ["found"] (sp_law_whole K ce) := by
  refine FF.ok sc_law_whole (fun vs H0 Q E h => ?_) (fun cdv A outer s H0 vs Q E hr h => ?_)
  · obtain ⟨F0, ⟨a0_found, _⟩, e0, ⟨v0, _, rfl, r0, rfl⟩, w⟩ := h
    rfl
  · obtain ⟨F0, ⟨a0_found, _⟩, e0, ⟨v0, _, rfl, r0, rfl⟩, w⟩ := h
    have w := wp_post w
    have G := Gr.rf e0
    have nd := sc_law_whole.nd
    have hQ : ∀ r F1 H1 v, Gr F0 H0 F1 H1 → (rv K (ρ := Bool)) F0 H0 F1 H1 v r → Fin (rv K (ρ := Bool)) F0 H0 Q r → Q v H1 := fun r F1 H1 v g m p => p F1 H1 v g m
    refine ⟨_, (pss_one (ps_ret (pe_and (pe_callB (r := rIsi K) call_isi (by rfl) z_isinstance (by decide +kernel) (pa_cons (pv 0) (pa_cons (pe_bltn (v := .ty "int") (by rfl) z_int (by decide +kernel) rfl) pa_nil))) (pe_one (pe_not (pe_callB (r := rIsi K) call_isi (by rfl) z_isinstance (by decide +kernel) (pa_cons (pv 0) (pa_cons (pe_bltn (v := .ty "bool") (by rfl) z_bool (by decide +kernel) rfl) pa_nil)))))))), ?_⟩
    have w := show Wp ce E0 H0 (m_law_whole a0_found) _ from w
    unfold m_law_whole at w
    exact s_ret0 G w (e_andV (e_isi (b := true) (em_var rfl r0) (kit_ty (by decide +kernel))) (e_notV (e_isi (b := false) (em_var rfl r0) (kit_ty (by decide +kernel))))) fun r F1 H1 v g m p => hQ r F1 H1 v g m p
/-! ### _law_sizes -/
abbrev s_law_sizes : Stmt := topS 26
abbrev N_law_sizes : List Str := ["parts", "size", "sizes", "low", "high", "one"]
theorem sc_law_sizes : FnScope N_law_sizes ["parts", "size"] (defScope s_law_sizes) := ⟨rfl, rfl, rfl, by decide +kernel, rfl, by decide +kernel, by decide +kernel⟩
abbrev sp_law_sizes (K : PySem.W.Frag) (ce : Ce) : Sp := SpF0 ce (RC K (α := Int) (RC K (α := Int) R0)) (rn K (α := Int)) (fun a : (Int × Int × Unit) => m_law_sizes a.1 a.2.1)
theorem ok_law_sizes {f : Addr} {fd : FuncData} (FF : Fun K "_law_sizes" "_law_sizes" s_law_sizes f fd) (z_dict : mg "dict" = none) (z_int : mg "int" = none) (z_list : mg "list" = none) (z_sorted : mg "sorted" = none) : FnOk P w K mg base CX0 1 f fd ["parts", "size"] (sp_law_sizes K ce) := by
  refine FF.ok sc_law_sizes (fun vs H0 Q E h => ?_) (fun cdv A outer s H0 vs Q E hr h => ?_)
  · obtain ⟨F0, ⟨a0_parts, a1_size, _⟩, e0, ⟨v0, _, rfl, r0, ⟨v1, _, rfl, r1, rfl⟩⟩, w⟩ := h
    rfl
  · obtain ⟨F0, ⟨a0_parts, a1_size, _⟩, e0, ⟨v0, _, rfl, r0, ⟨v1, _, rfl, r1, rfl⟩⟩, w⟩ := h
    have w := wp_post w
    have G := Gr.rf e0
    have nd := sc_law_sizes.nd
    have hQ : ∀ r F1 H1 v, Gr F0 H0 F1 H1 → (rn K (α := Int)) F0 H0 F1 H1 v r → Fin (rn K (α := Int)) F0 H0 Q r → Q v H1 := fun r F1 H1 v g m p => p F1 H1 v g m
    refine ⟨_, (pss_cons (ps_set (i := 2) nd rfl (by first | exact Or.inl rfl | exact Or.inr rfl) (pe_lst (pa_cons (pv 1) pa_nil)))
      (pss_cons (ps_set (i := 3) nd rfl (by first | exact Or.inl rfl | exact Or.inr rfl) (pv 1))
      (pss_cons (ps_set (i := 4) nd rfl (by first | exact Or.inl rfl | exact Or.inr rfl) (pv 1))
      (pss_cons (ps_while (by first | exact PassesOwn.never | exact passes_of rfl) (pt_cmpR op_gt (pv 3) pe_int (nomark _)) (pss_cons (ps_set (i := 4) nd rfl (by first | exact Or.inl rfl | exact Or.inr rfl) (pe_op op_add (pe_op op_fdivW (pv 4) (pv 0)) (pe_callTy call_int1 (by rfl) z_int (by decide +kernel) (pa_cons (pe_cmpR op_gt (pe_op op_mod (pv 4) (pv 0)) pe_int (nomark _)) pa_nil))))
      (pss_cons (ps_set (i := 3) nd rfl (by first | exact Or.inl rfl | exact Or.inr rfl) (pe_op op_fdivW (pv 3) (pv 0)))
      (pss_one (ps_set (i := 2) nd rfl (by first | exact Or.inl rfl | exact Or.inr rfl) (pe_op op_cat (pe_lst (pa_cons (pv 3) (pa_cons (pv 4) pa_nil))) (pv 2)))))))
      (pss_one (ps_ret (pe_callB (r := rSortedI K) cr_sortedI (by rfl) z_sorted (by decide +kernel) (pa_cons (pe_callTy (call_listD rfl) (by rfl) z_list (by decide +kernel) (pa_cons (pe_callTy (call_dictP rfl) (by rfl) z_dict (by decide +kernel) (pa_cons (pe_lc (own := [("one", 5)]) (g := (gName 5)) (by rfl) nd (pi_list (pe_op op_cat (pv 2) (pe_lst (pa_cons pe_int pa_nil)))) (blkOk_by (own := [("one", 5)]) (N := N_law_sizes) (sc := defScope s_law_sizes) (by decide +kernel)) (fun _ _ _ _ _ => (pg_name (i := 5) nd rfl (by first | exact Or.inl rfl | exact Or.inr rfl))) (fun _ _ _ _ _ => (pts_one (pt_cmpR op_gt (pv 5) pe_int (nomark _)))) (fun _ _ _ _ _ => (pe_tup (pa_cons (pv 5) (pa_cons pe_int pa_nil))))) pa_nil)) pa_nil)) pa_nil)))))))), ?_⟩
    have w := show Wp ce E0 H0 (m_law_sizes a0_parts a1_size) _ from w
    unfold m_law_sizes at w
    refine q_asg (K := K) G w (Ev.nv (e_lst (e_lcons (em_var rfl r1) (el_nil (α := Int))) (by simp))) fun sizes_2442 F_2443 H_2444 v_2446 g_2445 r_2447 w => ?_
    have G := G.tr g_2445
    have r0 := Rep.mo (K := K) g_2445.ff r0
    have r1 := Rep.mo (K := K) g_2445.ff r1
    refine q_asg (K := K) G w (em_var rfl r1) fun low_2448 F_2449 H_2450 v_2452 g_2451 r_2453 w => ?_
    have G := G.tr g_2451
    have r0 := Rep.mo (K := K) g_2451.ff r0
    have r1 := Rep.mo (K := K) g_2451.ff r1
    have r_2447 := Rep.mo (K := K) g_2451.ff r_2447
    refine q_asg (K := K) G w (em_var rfl r1) fun high_2454 F_2455 H_2456 v_2458 g_2457 r_2459 w => ?_
    have G := G.tr g_2457
    have r0 := Rep.mo (K := K) g_2457.ff r0
    have r1 := Rep.mo (K := K) g_2457.ff r1
    have r_2447 := Rep.mo (K := K) g_2457.ff r_2447
    have r_2453 := Rep.mo (K := K) g_2457.ff r_2453
    refine q_while (S := (Int × Int × (List Int))) (fun s F' H' σ' => ∃ (v_2460 : V) (v_2461 : V) (v_2462 : V), σ' = [some v0, some v1, some v_2462, some v_2461, some v_2460, none] ∧ Gr F0 H0 F' H' ∧ Ex F_2455 F' ∧ rp (α := Int) K F' v_2460 s.1 ∧ rp (α := Int) K F' v_2461 s.2.1 ∧ rp (α := (List Int)) K F' v_2462 s.2.2) ⟨_, _, _, rfl, G, Ex.rf _, r_2459, r_2453, r_2447⟩ (fun _ _ _ _ ⟨_, _, _, _, G, _⟩ => G) w ?_ ?_ ?_ ?_
    · rintro s_2463 F_2464 H_2465 _ ⟨v_2460, v_2461, v_2462, hs_2467, G, e_2468, r_2469, r_2470, r_2471⟩
      subst hs_2467
      have r0 := Rep.mo (K := K) e_2468 r0
      have r1 := Rep.mo (K := K) e_2468 r1
      unfold m_law_sizes_c1
      exact (t_of (e2 (em_var rfl r_2470) em_int o_gt))
    · rintro s_2463 _ _ _ _ _ ⟨v_2460, v_2461, v_2462, hs_2472, G, e_2473, r_2474, r_2475, r_2476⟩ g_2477
      subst hs_2472
      exact ⟨_, _, _, rfl, G.tr g_2477, Ex.tr e_2473 g_2477.ff, Rep.mo (K := K) g_2477.ff r_2474, Rep.mo (K := K) g_2477.ff r_2475, Rep.mo (K := K) g_2477.ff r_2476⟩
    · rintro s_2463 F_2478 H_2479 _ ⟨v_2460, v_2461, v_2462, hs_2480, G, e_2481, r_2482, r_2483, r_2484⟩ D_2489 P_2490 hrt_2491 hN_2485 hC_2486 hB_2487 hP_2488 w
      subst hs_2480
      have r0 := Rep.mo (K := K) e_2481 r0
      have r1 := Rep.mo (K := K) e_2481 r1
      have hQ : ∀ r F1 H1 v, Gr F0 H0 F1 H1 → (rn K (α := Int)) F0 H0 F1 H1 v r → P_2490 (.rt r) → D_2489.rt v H1 := fun r F1 H1 v g m p => by rw [hrt_2491]; exact hQ r F1 H1 v g m (hP_2488 _ p)
      unfold m_law_sizes_b1 at w
      refine q_asg (K := K) G w (em_op (em_op (em_var rfl r_2482) (em_var rfl r0) fun _ _ => o_fdivM) (em_cb (ea_cons (em_op (em_op (em_var rfl r_2482) (em_var rfl r0) fun _ _ => o_modM) em_int fun _ _ => o_gt) ea_nil) fun _ => a_intB) fun _ _ => o_add) fun high_2503 F_2504 H_2505 v_2507 g_2506 r_2508 w => ?_
      have G := G.tr g_2506
      have r0 := Rep.mo (K := K) g_2506.ff r0
      have r1 := Rep.mo (K := K) g_2506.ff r1
      have r_2484 := Rep.mo (K := K) g_2506.ff r_2484
      have r_2483 := Rep.mo (K := K) g_2506.ff r_2483
      have e_2481 := Ex.tr e_2481 g_2506.ff
      refine q_asg (K := K) G w (em_op (em_var rfl r_2483) (em_var rfl r0) fun _ _ => o_fdivM) fun low_2511 F_2512 H_2513 v_2515 g_2514 r_2516 w => ?_
      have G := G.tr g_2514
      have r0 := Rep.mo (K := K) g_2514.ff r0
      have r1 := Rep.mo (K := K) g_2514.ff r1
      have r_2484 := Rep.mo (K := K) g_2514.ff r_2484
      have r_2508 := Rep.mo (K := K) g_2514.ff r_2508
      have e_2481 := Ex.tr e_2481 g_2514.ff
      refine s_asg (K := K) G w (Ev.nv (em_op (Ev.nv (e_lst (e_lcons (em_var rfl r_2516) (e_lcons (em_var rfl r_2508) (el_nil (α := Int)))) (by simp))) (em_var rfl r_2484) fun _ _ => o_cat)) fun sizes_2519 F_2520 H_2521 v_2523 g_2522 r_2524 w => ?_
      have G := G.tr g_2522
      have r0 := Rep.mo (K := K) g_2522.ff r0
      have r1 := Rep.mo (K := K) g_2522.ff r1
      have r_2508 := Rep.mo (K := K) g_2522.ff r_2508
      have r_2516 := Rep.mo (K := K) g_2522.ff r_2516
      have e_2481 := Ex.tr e_2481 g_2522.ff
      exact hN_2485 _ w _ _ _ ⟨_, _, _, rfl, G, e_2481, r_2508, r_2516, r_2524⟩
    · rintro s_2530 F_2531 H_2532 _ ⟨v_2460, v_2461, v_2462, hs_2525, G, e_2526, r_2527, r_2528, r_2529⟩ w
      subst hs_2525
      have r0 := Rep.mo (K := K) e_2526 r0
      have r1 := Rep.mo (K := K) e_2526 r1
      exact s_retN0 G w (em_cb (ea_cons (Ev.nv (em_cb (ea_cons (Ev.ov (em_cb (ea_cons (Ev.nv (em_lc (c := (fun x_2536 : Int => (M.ok (decide ((0 : Int) < x_2536))))) (e := (fun x_2536 : Int => (M.ok (x_2536, (0 : Int))))) (ei_list (Ev.nv (em_op (em_var rfl r_2529) (Ev.nv (e_lst (e_lcons em_int (el_nil (α := Int))) (by simp))) fun _ _ => o_cat))) (tg_name (K := K)) (fun _ _ _ ⟨_, h, _⟩ => by rw [h]; exact wipe1) (fun x_2536 _ _ _ g_2535 ⟨v_2537, h_2539, r_2538⟩ => by subst h_2539; exact (t_of (e2 (em_var rfl r_2538) em_int o_gt))) (fun x_2536 _ _ _ g_2535 ⟨v_2537, h_2539, r_2538⟩ => by subst h_2539; exact (e_tup2 (em_var rfl r_2538) em_int)))) ea_nil) fun _ => a_dictP)) ea_nil) fun _ => a_listD)) ea_nil) fun _ => a_sorted) fun r F1 H1 v g m p => hQ r F1 H1 v g m p
/-! ### _law_laid -/
abbrev s_law_laid : Stmt := topS 25
abbrev N_law_laid : List Str := ["parts", "rows", "row", "size", "number", "table", "one", "low", "rest", "weight"]
theorem sc_law_laid : FnScope N_law_laid ["parts", "rows", "row", "size", "number", "table"] (defScope s_law_laid) := ⟨rfl, rfl, rfl, by decide +kernel, rfl, by decide +kernel, by decide +kernel⟩
abbrev sp_law_laid (K : PySem.W.Frag) (ce : Ce) : Sp := SpF0 ce (RC K (α := Int) (RC K (α := (List Row)) (RC K (α := Int) (RC K (α := Int) (RC K (α := Int) (RC K (α := (Dc (List Int))) R0)))))) (rv K (ρ := Int)) (fun a : (Int × (List Row) × Int × Int × Int × (Dc (List Int)) × Unit) => m_law_laid a.1 a.2.1 a.2.2.1 a.2.2.2.1 a.2.2.2.2.1 a.2.2.2.2.2.1)
theorem ok_law_laid {f : Addr} {fd : FuncData} (FF : Fun K "_law_laid" "_law_laid" s_law_laid f fd) {a__law_end : Addr} {d__law_end : FuncData} (G__law_end : FnOk P w K mg base CX0 1 a__law_end d__law_end ["rows", "row", "size"] (sp_law_end K ce)) (mg__law_end : mg "_law_end" = some (.ref a__law_end)) (k__law_end : PySem.W.keepIn K (.ref a__law_end) = true) (b__law_end : Binds K d__law_end ["rows", "row", "size"] []) (z_int : mg "int" = none) : FnOk P w K mg base CX0 2 f fd ["parts", "rows", "row", "size", "number", "table"] (sp_law_laid K ce) := by
  refine FF.ok sc_law_laid (fun vs H0 Q E h => ?_) (fun cdv A outer s H0 vs Q E hr h => ?_)
  · obtain ⟨F0, ⟨a0_parts, a1_rows, a2_row, a3_size, a4_number, a5_table, _⟩, e0, ⟨v0, _, rfl, r0, ⟨v1, _, rfl, r1, ⟨v2, _, rfl, r2, ⟨v3, _, rfl, r3, ⟨v4, _, rfl, r4, ⟨v5, _, rfl, r5, rfl⟩⟩⟩⟩⟩⟩, w⟩ := h
    rfl
  · obtain ⟨F0, ⟨a0_parts, a1_rows, a2_row, a3_size, a4_number, a5_table, _⟩, e0, ⟨v0, _, rfl, r0, ⟨v1, _, rfl, r1, ⟨v2, _, rfl, r2, ⟨v3, _, rfl, r3, ⟨v4, _, rfl, r4, ⟨v5, _, rfl, r5, rfl⟩⟩⟩⟩⟩⟩, w⟩ := h
    have w := wp_post w
    have G := Gr.rf e0
    have nd := sc_law_laid.nd
    have hQ : ∀ r F1 H1 v, Gr F0 H0 F1 H1 → (rv K (ρ := Int)) F0 H0 F1 H1 v r → Fin (rv K (ρ := Int)) F0 H0 Q r → Q v H1 := fun r F1 H1 v g m p => p F1 H1 v g m
    refine ⟨_, (pss_cons (ps_set (i := 6) nd rfl (by first | exact Or.inl rfl | exact Or.inr rfl) (pe_ix (r := rIxL K) ix_list (pv 1) (pe_call G__law_end (hr.mono (by decide)) rfl mg__law_end k__law_end b__law_end .nil pass0 (pa_cons (pv 1) (pa_cons (pv 2) (pa_cons (pv 3) pa_nil)))) (fun _ _ => rfl)))
      (pss_cons (ps_if (pt_cmpR (r := rEqD K) (op_eqD hr.units) (pe_ix (r := rIxT K) ix_tup (pv 6) pe_int (fun _ _ => rfl)) pe_str (nomark _)) (pss_one (ps_ret (pe_op op_mulW (pv 3) (pe_callTy call_int1 (by rfl) z_int (by decide +kernel) (pa_cons (pe_cmpR (r := rEqD K) (op_eqD hr.units) (pe_ix (r := rIxT K) ix_tup (pv 6) pe_int (fun _ _ => rfl)) (pv 4) (nomark _)) pa_nil))))) pss_nil)
      (pss_cons (ps_set (i := 7) nd rfl (by first | exact Or.inl rfl | exact Or.inr rfl) (pe_op op_fdivW (pv 3) (pv 0)))
      (pss_cons (ps_set (i := 8) nd rfl (by first | exact Or.inl rfl | exact Or.inr rfl) (pe_op op_mod (pv 3) (pv 0)))
      (pss_cons (ps_set (i := 9) nd rfl (by first | exact Or.inl rfl | exact Or.inr rfl) (pe_op op_mulW (pe_op op_sub (pv 0) (pv 8)) (pe_ix (r := rIxL K) ix_list (pe_dget (hu_of hr) (pv 5) (pv 7) (fun _ _ => rfl)) (pe_ix (r := rIxT K) ix_tup (pv 6) pe_int (fun _ _ => rfl)) (fun _ _ => rfl))))
      (pss_cons (ps_if (pt_cmpR op_gt (pv 8) pe_int (nomark _)) (pss_one (ps_set (i := 9) nd rfl (by first | exact Or.inl rfl | exact Or.inr rfl) (pe_op op_add (pv 9) (pe_op op_mulW (pv 8) (pe_ix (r := rIxL K) ix_list (pe_dget (hu_of hr) (pv 5) (pe_op op_add (pv 7) pe_int) (fun _ _ => rfl)) (pe_ix (r := rIxT K) ix_tup (pv 6) pe_int (fun _ _ => rfl)) (fun _ _ => rfl)))))) pss_nil)
      (pss_one (ps_ret (pv 9))))))))), ?_⟩
    have w := show Wp ce E0 H0 (m_law_laid a0_parts a1_rows a2_row a3_size a4_number a5_table) _ from w
    unfold m_law_laid at w
    refine q_asg (K := K) G w (em_op (em_var rfl r1) (em_get (e_call0 (f := (fun a : ((List Row) × Int × Int × Unit) => m_law_end a.1 a.2.1 a.2.2.1)) (x := (a1_rows, a2_row, a3_size, ())) (e_cons (em_var rfl r1) (e_cons (em_var rfl r2) (e_cons (em_var rfl r3) ea_nil))))) fun _ _ => o_ixL) fun one_2635 F_2636 H_2637 v_2639 g_2638 r_2640 w => ?_
    have G := G.tr g_2638
    have r0 := Rep.mo (K := K) g_2638.ff r0
    have r1 := Rep.mo (K := K) g_2638.ff r1
    have r2 := Rep.mo (K := K) g_2638.ff r2
    have r3 := Rep.mo (K := K) g_2638.ff r3
    have r4 := Rep.mo (K := K) g_2638.ff r4
    have r5 := Rep.mo (K := K) g_2638.ff r5
    refine q_if2 G w (t_of (em_op (em_op (em_var rfl r_2640) em_int fun _ _ => o_rowix) (e_clw (em_wd (by decide +kernel))) fun _ _ => (o_eqD (by decide)))) (fun F_2645 H_2646 g_2647 w => ?_) (fun F_2645 H_2646 g_2647 w => ?_)
    · have G := G.tr g_2647
      have r0 := Rep.mo (K := K) g_2647.ff r0
      have r1 := Rep.mo (K := K) g_2647.ff r1
      have r2 := Rep.mo (K := K) g_2647.ff r2
      have r3 := Rep.mo (K := K) g_2647.ff r3
      have r4 := Rep.mo (K := K) g_2647.ff r4
      have r5 := Rep.mo (K := K) g_2647.ff r5
      have r_2640 := Rep.mo (K := K) g_2647.ff r_2640
      exact s_ret0 G w (em_op (em_var rfl r3) (em_cb (ea_cons (em_op (em_op (em_var rfl r_2640) em_int fun _ _ => o_rowix) (e_cli (em_var rfl r4)) fun _ _ => (o_eqD (by decide))) ea_nil) fun _ => a_intB) fun _ _ => o_mul) fun r F1 H1 v g m p => hQ r F1 H1 v g m p
    · have G := G.tr g_2647
      have r0 := Rep.mo (K := K) g_2647.ff r0
      have r1 := Rep.mo (K := K) g_2647.ff r1
      have r2 := Rep.mo (K := K) g_2647.ff r2
      have r3 := Rep.mo (K := K) g_2647.ff r3
      have r4 := Rep.mo (K := K) g_2647.ff r4
      have r5 := Rep.mo (K := K) g_2647.ff r5
      have r_2640 := Rep.mo (K := K) g_2647.ff r_2640
      refine s_next ?_
      refine s_nx ?_
      refine q_asg (K := K) G w (em_op (em_var rfl r3) (em_var rfl r0) fun _ _ => o_fdivM) fun low_2659 F_2660 H_2661 v_2663 g_2662 r_2664 w => ?_
      have G := G.tr g_2662
      have r0 := Rep.mo (K := K) g_2662.ff r0
      have r1 := Rep.mo (K := K) g_2662.ff r1
      have r2 := Rep.mo (K := K) g_2662.ff r2
      have r3 := Rep.mo (K := K) g_2662.ff r3
      have r4 := Rep.mo (K := K) g_2662.ff r4
      have r5 := Rep.mo (K := K) g_2662.ff r5
      have r_2640 := Rep.mo (K := K) g_2662.ff r_2640
      refine q_asg (K := K) G w (em_op (em_var rfl r3) (em_var rfl r0) fun _ _ => o_modM) fun rest_2667 F_2668 H_2669 v_2671 g_2670 r_2672 w => ?_
      have G := G.tr g_2670
      have r0 := Rep.mo (K := K) g_2670.ff r0
      have r1 := Rep.mo (K := K) g_2670.ff r1
      have r2 := Rep.mo (K := K) g_2670.ff r2
      have r3 := Rep.mo (K := K) g_2670.ff r3
      have r4 := Rep.mo (K := K) g_2670.ff r4
      have r5 := Rep.mo (K := K) g_2670.ff r5
      have r_2640 := Rep.mo (K := K) g_2670.ff r_2640
      have r_2664 := Rep.mo (K := K) g_2670.ff r_2664
      refine q_asg (K := K) G w (em_op (e2 (em_var rfl r0) (em_var rfl r_2672) o_sub) (em_op (em_dget (em_var rfl r5) (em_var rfl r_2664)) (em_clI (em_op (em_var rfl r_2640) em_int fun _ _ => o_rowix)) fun _ _ => o_ixL) fun _ _ => o_mul) fun weight_2681 F_2682 H_2683 v_2685 g_2684 r_2686 w => ?_
      have G := G.tr g_2684
      have r0 := Rep.mo (K := K) g_2684.ff r0
      have r1 := Rep.mo (K := K) g_2684.ff r1
      have r2 := Rep.mo (K := K) g_2684.ff r2
      have r3 := Rep.mo (K := K) g_2684.ff r3
      have r4 := Rep.mo (K := K) g_2684.ff r4
      have r5 := Rep.mo (K := K) g_2684.ff r5
      have r_2640 := Rep.mo (K := K) g_2684.ff r_2640
      have r_2664 := Rep.mo (K := K) g_2684.ff r_2664
      have r_2672 := Rep.mo (K := K) g_2684.ff r_2672
      refine q_join (W := Int) (fun s F' H' σ' => ∃ (v_2691 : V), σ' = [some v0, some v1, some v2, some v3, some v4, some v5, some v_2639, some v_2663, some v_2671, some v_2691] ∧ Gr F0 H0 F' H' ∧ Ex F_2682 F' ∧ rp (α := Int) K F' v_2691 s) w ?_ ?_
      · rintro s_2690 F_2695 H_2696 σs_2690 ⟨v_2691, hs_2692, G, e_2693, r_2694⟩ w
        subst hs_2692
        have r0 := Rep.mo (K := K) e_2693 r0
        have r1 := Rep.mo (K := K) e_2693 r1
        have r2 := Rep.mo (K := K) e_2693 r2
        have r3 := Rep.mo (K := K) e_2693 r3
        have r4 := Rep.mo (K := K) e_2693 r4
        have r5 := Rep.mo (K := K) e_2693 r5
        have r_2640 := Rep.mo (K := K) e_2693 r_2640
        have r_2664 := Rep.mo (K := K) e_2693 r_2664
        have r_2672 := Rep.mo (K := K) e_2693 r_2672
        exact s_ret0 G w (em_var rfl r_2694) fun r F1 H1 v g m p => hQ r F1 H1 v g m p
      · intro P_2698 hk_2697 w
        refine s_if2 G w (t_of (e2 (em_var rfl r_2672) em_int o_gt)) (fun F_2687 H_2688 g_2689 w => ?_) (fun F_2687 H_2688 g_2689 w => ?_)
        · have e_2699 : Ex F_2682 F_2687 := g_2689.ff
          have G := G.tr g_2689
          have r0 := Rep.mo (K := K) g_2689.ff r0
          have r1 := Rep.mo (K := K) g_2689.ff r1
          have r2 := Rep.mo (K := K) g_2689.ff r2
          have r3 := Rep.mo (K := K) g_2689.ff r3
          have r4 := Rep.mo (K := K) g_2689.ff r4
          have r5 := Rep.mo (K := K) g_2689.ff r5
          have r_2640 := Rep.mo (K := K) g_2689.ff r_2640
          have r_2664 := Rep.mo (K := K) g_2689.ff r_2664
          have r_2672 := Rep.mo (K := K) g_2689.ff r_2672
          have r_2686 := Rep.mo (K := K) g_2689.ff r_2686
          refine s_asg (K := K) G w (em_op (em_var rfl r_2686) (em_op (em_var rfl r_2672) (em_op (em_dget (em_var rfl r5) (e2 (em_var rfl r_2664) em_int o_add)) (em_clI (em_op (em_var rfl r_2640) em_int fun _ _ => o_rowix)) fun _ _ => o_ixL) fun _ _ => o_mul) fun _ _ => o_add) fun weight_2710 F_2711 H_2712 v_2714 g_2713 r_2715 w => ?_
          have G := G.tr g_2713
          have r0 := Rep.mo (K := K) g_2713.ff r0
          have r1 := Rep.mo (K := K) g_2713.ff r1
          have r2 := Rep.mo (K := K) g_2713.ff r2
          have r3 := Rep.mo (K := K) g_2713.ff r3
          have r4 := Rep.mo (K := K) g_2713.ff r4
          have r5 := Rep.mo (K := K) g_2713.ff r5
          have r_2640 := Rep.mo (K := K) g_2713.ff r_2640
          have r_2664 := Rep.mo (K := K) g_2713.ff r_2664
          have r_2672 := Rep.mo (K := K) g_2713.ff r_2672
          have e_2699 := Ex.tr e_2699 g_2713.ff
          exact hk_2697 _ w _ _ _ ⟨_, rfl, G, e_2699, r_2715⟩
        · have e_2699 : Ex F_2682 F_2687 := g_2689.ff
          have G := G.tr g_2689
          have r0 := Rep.mo (K := K) g_2689.ff r0
          have r1 := Rep.mo (K := K) g_2689.ff r1
          have r2 := Rep.mo (K := K) g_2689.ff r2
          have r3 := Rep.mo (K := K) g_2689.ff r3
          have r4 := Rep.mo (K := K) g_2689.ff r4
          have r5 := Rep.mo (K := K) g_2689.ff r5
          have r_2640 := Rep.mo (K := K) g_2689.ff r_2640
          have r_2664 := Rep.mo (K := K) g_2689.ff r_2664
          have r_2672 := Rep.mo (K := K) g_2689.ff r_2672
          have r_2686 := Rep.mo (K := K) g_2689.ff r_2686
          refine s_next ?_
          exact hk_2697 _ w _ _ _ ⟨_, rfl, G, e_2699, r_2686⟩
/-! ### _law_far -/
abbrev s_law_far : Stmt := topS 27
abbrev N_law_far : List Str := ["parts", "rows", "size", "number", "table", "row", "one", "line"]
theorem sc_law_far : FnScope N_law_far ["parts", "rows", "size", "number"] (defScope s_law_far) := ⟨rfl, rfl, rfl, by decide +kernel, rfl, by decide +kernel, by decide +kernel⟩
abbrev sp_law_far (K : PySem.W.Frag) (ce : Ce) : Sp := SpF0 ce (RC K (α := Int) (RC K (α := (List Row)) (RC K (α := Int) (RC K (α := Int) R0)))) (rv K (ρ := Int)) (fun a : (Int × (List Row) × Int × Int × Unit) => m_law_far a.1 a.2.1 a.2.2.1 a.2.2.2.1)
theorem ok_law_far {f : Addr} {fd : FuncData} (FF : Fun K "_law_far" "_law_far" s_law_far f fd) {a__law_laid : Addr} {d__law_laid : FuncData} (G__law_laid : FnOk P w K mg base CX0 2 a__law_laid d__law_laid ["parts", "rows", "row", "size", "number", "table"] (sp_law_laid K ce)) (mg__law_laid : mg "_law_laid" = some (.ref a__law_laid)) (k__law_laid : PySem.W.keepIn K (.ref a__law_laid) = true) (b__law_laid : Binds K d__law_laid ["parts", "rows", "row", "size", "number", "table"] []) {a__law_sizes : Addr} {d__law_sizes : FuncData} (G__law_sizes : FnOk P w K mg base CX0 1 a__law_sizes d__law_sizes ["parts", "size"] (sp_law_sizes K ce)) (mg__law_sizes : mg "_law_sizes" = some (.ref a__law_sizes)) (k__law_sizes : PySem.W.keepIn K (.ref a__law_sizes) = true) (b__law_sizes : Binds K d__law_sizes ["parts", "size"] []) (z_len : mg "len" = none) (z_range : mg "range" = none) : FnOk P w K mg base CX0 3 f fd ["parts", "rows", "size", "number"] (sp_law_far K ce) := by
  refine FF.ok sc_law_far (fun vs H0 Q E h => ?_) (fun cdv A outer s H0 vs Q E hr h => ?_)
  · obtain ⟨F0, ⟨a0_parts, a1_rows, a2_size, a3_number, _⟩, e0, ⟨v0, _, rfl, r0, ⟨v1, _, rfl, r1, ⟨v2, _, rfl, r2, ⟨v3, _, rfl, r3, rfl⟩⟩⟩⟩, w⟩ := h
    rfl
  · obtain ⟨F0, ⟨a0_parts, a1_rows, a2_size, a3_number, _⟩, e0, ⟨v0, _, rfl, r0, ⟨v1, _, rfl, r1, ⟨v2, _, rfl, r2, ⟨v3, _, rfl, r3, rfl⟩⟩⟩⟩, w⟩ := h
    have w := wp_post w
    have G := Gr.rf e0
    have nd := sc_law_far.nd
    have hQ : ∀ r F1 H1 v, Gr F0 H0 F1 H1 → (rv K (ρ := Int)) F0 H0 F1 H1 v r → Fin (rv K (ρ := Int)) F0 H0 Q r → Q v H1 := fun r F1 H1 v g m p => p F1 H1 v g m
    refine ⟨_, (pss_cons (ps_set (i := 4) nd rfl (by first | exact Or.inl rfl | exact Or.inr rfl) (pe_disp (pps_cons pe_int (pe_lc (own := [("row", 5)]) (g := (gName 5)) (by rfl) nd (pi_list (pv 1)) (blkOk_by (own := [("row", 5)]) (N := N_law_far) (sc := defScope s_law_far) (by decide +kernel)) (fun _ _ _ _ _ => (pg_name (i := 5) nd rfl (by first | exact Or.inl rfl | exact Or.inr rfl))) (fun _ _ _ _ _ => pts_nil) (fun _ _ _ _ _ => pe_int)) pps_nil) rfl rfl (by simp) (by simp)))
      (pss_cons (ps_for (by first | exact PassesOwn.never | exact passes_of rfl) rfl (pi_list (pe_call G__law_sizes (hr.mono (by decide)) rfl mg__law_sizes k__law_sizes b__law_sizes .nil pass0 (pa_cons (pv 0) (pa_cons (pv 2) pa_nil)))) (pg_name (i := 6) nd rfl (by first | exact Or.inl rfl | exact Or.inr rfl)) (pss_cons (ps_set (i := 7) nd rfl (by first | exact Or.inl rfl | exact Or.inr rfl) (pe_lst pa_nil))
      (pss_cons (ps_for (by first | exact PassesOwn.never | exact passes_of rfl) rfl (pi_range1 rfl z_range (pa_cons (pe_callB (r := rLenS K) call_len_seq (by rfl) z_len (by decide +kernel) (pa_cons (pv 1) pa_nil)) pa_nil)) (pg_name (i := 5) nd rfl (by first | exact Or.inl rfl | exact Or.inr rfl)) (pss_one (ps_expr (pe_bm PySem.F.plainAttrs_list PySem.F.slot_list_append PySem.F.type_list_append mt_append (pv 7) (pa_cons (pe_call G__law_laid (hr.mono (by decide)) rfl mg__law_laid k__law_laid b__law_laid .nil pass0 (pa_cons (pv 0) (pa_cons (pv 1) (pa_cons (pv 5) (pa_cons (pv 6) (pa_cons (pv 3) (pa_cons (pv 4) pa_nil))))))) pa_nil)))))
      (pss_one (ps_dput (hu_of hr) (pv 4) (pv 6) (pv 7) rfl)))))
      (pss_one (ps_ret (pe_ix (r := rIxL K) ix_list (pe_dget (hu_of hr) (pv 4) (pv 2) (fun _ _ => rfl)) pe_int (fun _ _ => rfl)))))), ?_⟩
    have w := show Wp ce E0 H0 (m_law_far a0_parts a1_rows a2_size a3_number) _ from w
    unfold m_law_far at w
    refine q_asgO (K := K) G w (em_kdisp em_int (Ev.nv (em_lc (c := (fun x_2829 : Row => (M.ok true))) (e := (fun x_2829 : Row => (M.ok (0 : Int)))) (ei_list (em_var rfl r1)) (tg_name (K := K)) (fun _ _ _ ⟨_, h, _⟩ => by rw [h]; exact wipe1) (fun x_2829 _ _ _ g_2828 ⟨v_2830, h_2832, r_2831⟩ => by subst h_2832; exact t_yes) (fun x_2829 _ _ _ g_2828 ⟨v_2830, h_2832, r_2831⟩ => by subst h_2832; exact em_int)))) fun table_2836 F_2837 H_2838 p_2840 g_2839 n_2841 o_2842 w => ?_
    have n0p_2840 := ex_back G.hh n_2841
    have G := G.tr g_2839
    have r0 := Rep.mo (K := K) g_2839.ff r0
    have r1 := Rep.mo (K := K) g_2839.ff r1
    have r2 := Rep.mo (K := K) g_2839.ff r2
    have r3 := Rep.mo (K := K) g_2839.ff r3
    refine q_for (S := (Dc (List Int))) (fun s F' H' σ' => ∃ (z_2843 : Option V) (z_2844 : Option V) (z_2845 : Option V), σ' = [some v0, some v1, some v2, some v3, some (.ref p_2840), z_2845, z_2843, z_2844] ∧ Gr F0 H0 F' H' ∧ Ex F_2837 F' ∧ Own K (T := (Dc (List Int))) F' H' p_2840 s) G (ei_list (Ev.nv (e_call0 (f := (fun a : (Int × Int × Unit) => m_law_sizes a.1 a.2.1)) (x := (a0_parts, a2_size, ())) (e_cons (em_var rfl r0) (e_cons (em_var rfl r2) ea_nil))))) (tg_name (K := K)) w (fun _ _ g_2938 => ⟨_, _, _, rfl, G.tr g_2938, g_2938.ff, o_2842.mo g_2938⟩) (fun _ _ _ _ ⟨_, _, _, _, G, _⟩ => G) ?_ ?_
    · rintro x_2847 s_2846 F_2848 H_2849 _ ⟨z_2843, z_2844, z_2845, hs_2850, G, e_2851, o_2852⟩ F_2853 H_2854 σ_2855 g_2856 ⟨v_2864, h_2866, r_2865⟩ D_2861 P_2862 hrt_2863 hN_2857 hC_2858 hB_2859 hP_2860 w
      subst hs_2850
      subst h_2866
      have r0 := Rep.mo (K := K) e_2851 r0
      have r1 := Rep.mo (K := K) e_2851 r1
      have r2 := Rep.mo (K := K) e_2851 r2
      have r3 := Rep.mo (K := K) e_2851 r3
      have G := G.tr g_2856
      have r0 := Rep.mo (K := K) g_2856.ff r0
      have r1 := Rep.mo (K := K) g_2856.ff r1
      have r2 := Rep.mo (K := K) g_2856.ff r2
      have r3 := Rep.mo (K := K) g_2856.ff r3
      have o_2852 := o_2852.mo g_2856
      have e_2851 := Ex.tr e_2851 g_2856.ff
      have e_2867 := Ex.rf F_2853
      have hQ : ∀ r F1 H1 v, Gr F0 H0 F1 H1 → (rv K (ρ := Int)) F0 H0 F1 H1 v r → P_2862 (.rt r) → D_2861.rt v H1 := fun r F1 H1 v g m p => by rw [hrt_2863]; exact hQ r F1 H1 v g m (hP_2860 _ p)
      unfold m_law_far_b1 at w
      refine q_asgN (K := K) G w (e_lst (el_nil (α := Int)) (by decide)) fun line_2868 F_2869 H_2870 p_2872 g_2871 n_2873 o_2874 w => ?_
      have n0p_2872 := ex_back G.hh n_2873
      have dp_2840_p_2872 : p_2840 ≠ p_2872 := fun z => o_2852.ne (z ▸ n_2873)
      have G := G.tr g_2871
      have r0 := Rep.mo (K := K) g_2871.ff r0
      have r1 := Rep.mo (K := K) g_2871.ff r1
      have r2 := Rep.mo (K := K) g_2871.ff r2
      have r3 := Rep.mo (K := K) g_2871.ff r3
      have o_2852 := o_2852.mo g_2871
      have r_2865 := Rep.mo (K := K) g_2871.ff r_2865
      have e_2851 := Ex.tr e_2851 g_2871.ff
      have e_2867 := Ex.tr e_2867 g_2871.ff
      refine q_for (S := (List Int)) (fun s F' H' σ' => ∃ (z_2875 : Option V), σ' = [some v0, some v1, some v2, some v3, some (.ref p_2840), z_2875, some v_2864, some (.ref p_2872)] ∧ Gr F0 H0 F' H' ∧ Ex F_2869 F' ∧ Own K (T := (List Int)) F' H' p_2872 s ∧ Own K (T := (Dc (List Int))) F' H' p_2840 s_2846) G (ei_rng1 (e_cb (e_cons (em_var rfl r1) ea_nil) a_len)) (tg_name (K := K)) w (fun _ _ g_2925 => ⟨_, rfl, G.tr g_2925, g_2925.ff, o_2874.mo g_2925, o_2852.mo g_2925⟩) (fun _ _ _ _ ⟨_, _, G, _⟩ => G) ?_ ?_
      · rintro x_2877 s_2876 F_2878 H_2879 _ ⟨z_2875, hs_2880, G, e_2881, o_2882, o_2883⟩ F_2884 H_2885 σ_2886 g_2887 ⟨v_2895, h_2897, r_2896⟩ D_2892 P_2893 hrt_2894 hN_2888 hC_2889 hB_2890 hP_2891 w
        subst hs_2880
        subst h_2897
        have r0 := Rep.mo (K := K) e_2881 r0
        have r1 := Rep.mo (K := K) e_2881 r1
        have r2 := Rep.mo (K := K) e_2881 r2
        have r3 := Rep.mo (K := K) e_2881 r3
        have r_2865 := Rep.mo (K := K) e_2881 r_2865
        have e_2851 := Ex.tr e_2851 e_2881
        have e_2867 := Ex.tr e_2867 e_2881
        have G := G.tr g_2887
        have r0 := Rep.mo (K := K) g_2887.ff r0
        have r1 := Rep.mo (K := K) g_2887.ff r1
        have r2 := Rep.mo (K := K) g_2887.ff r2
        have r3 := Rep.mo (K := K) g_2887.ff r3
        have o_2883 := o_2883.mo g_2887
        have r_2865 := Rep.mo (K := K) g_2887.ff r_2865
        have o_2882 := o_2882.mo g_2887
        have e_2851 := Ex.tr e_2851 g_2887.ff
        have e_2867 := Ex.tr e_2867 g_2887.ff
        have e_2881 := Ex.tr e_2881 g_2887.ff
        have e_2898 := Ex.rf F_2884
        have hQ : ∀ r F1 H1 v, Gr F0 H0 F1 H1 → (rv K (ρ := Int)) F0 H0 F1 H1 v r → P_2893 (.rt (.rt r)) → D_2892.rt v H1 := fun r F1 H1 v g m p => by rw [hrt_2894]; exact hQ r F1 H1 v g m (hP_2891 _ p)
        unfold m_law_far_b2 at w
        refine s_appA [p_2840] rfl o_2882 n0p_2872 G w (own1 o_2883.f) (own1 o_2883.ls) (e_call0 (f := (fun a : (Int × (List Row) × Int × Int × Int × (Dc (List Int)) × Unit) => m_law_laid a.1 a.2.1 a.2.2.1 a.2.2.2.1 a.2.2.2.2.1 a.2.2.2.2.2.1)) (x := (a0_parts, a1_rows, x_2877, x_2847, a3_number, s_2846, ())) (e_cons (em_var rfl (Rep.mo (fz_ex G.fh) r0)) (e_cons (em_var rfl (Rep.mo (fz_ex G.fh) r1)) (e_cons (em_var rfl (Rep.mo (fz_ex G.fh) r_2896)) (e_cons (em_var rfl (Rep.mo (fz_ex G.fh) r_2865)) (e_cons (em_var rfl (Rep.mo (fz_ex G.fh) r3)) (e_cons (em_var rfl (o_2883.lent G.fh (by simp))) ea_nil))))))) fun line_2899 F_2900 H_2901 e_2902 G o_2903 hO_2904 w => ?_
        have r0 := Rep.mo (K := K) e_2902 r0
        have r1 := Rep.mo (K := K) e_2902 r1
        have r2 := Rep.mo (K := K) e_2902 r2
        have r3 := Rep.mo (K := K) e_2902 r3
        have o_2883 := hO_2904 _ _ _ dp_2840_p_2872 o_2883
        have r_2865 := Rep.mo (K := K) e_2902 r_2865
        have r_2896 := Rep.mo (K := K) e_2902 r_2896
        have e_2851 := Ex.tr e_2851 e_2902
        have e_2867 := Ex.tr e_2867 e_2902
        have e_2881 := Ex.tr e_2881 e_2902
        have e_2898 := Ex.tr e_2898 e_2902
        exact hN_2888 _ w _ _ _ e_2898 ⟨_, rfl, G, e_2881, o_2903, o_2883⟩
      · rintro s_2910 F_2911 H_2912 _ e_2913 ⟨z_2875, hs_2906, G, e_2907, o_2908, o_2909⟩ w
        subst hs_2906
        have r0 := Rep.mo (K := K) e_2907 r0
        have r1 := Rep.mo (K := K) e_2907 r1
        have r2 := Rep.mo (K := K) e_2907 r2
        have r3 := Rep.mo (K := K) e_2907 r3
        have r_2865 := Rep.mo (K := K) e_2907 r_2865
        have e_2851 := Ex.tr e_2851 e_2907
        have e_2867 := Ex.tr e_2867 e_2907
        obtain ⟨F_2914, G, e_2915, r_2916, hsp_2872⟩ := own_fix G o_2908 n0p_2872
        have r0 := Rep.mo (K := K) e_2915 r0
        have r1 := Rep.mo (K := K) e_2915 r1
        have r2 := Rep.mo (K := K) e_2915 r2
        have r3 := Rep.mo (K := K) e_2915 r3
        have o_2909 := o_2909.other e_2915 (hsp_2872 _ dp_2840_p_2872)
        have r_2865 := Rep.mo (K := K) e_2915 r_2865
        have e_2851 := Ex.tr e_2851 e_2915
        have e_2867 := Ex.tr e_2867 e_2915
        refine s_dput0 rfl o_2909 n0p_2840 G w (em_var rfl r_2916) (em_var rfl r_2865) fun table_2919 F_2920 H_2921 e_2922 G o_2923 hO_2924 w => ?_
        have r0 := Rep.mo (K := K) e_2922 r0
        have r1 := Rep.mo (K := K) e_2922 r1
        have r2 := Rep.mo (K := K) e_2922 r2
        have r3 := Rep.mo (K := K) e_2922 r3
        have r_2865 := Rep.mo (K := K) e_2922 r_2865
        have r_2916 := Rep.mo (K := K) e_2922 r_2916
        have e_2851 := Ex.tr e_2851 e_2922
        have e_2867 := Ex.tr e_2867 e_2922
        exact hN_2857 _ w _ _ _ e_2867 ⟨_, _, _, rfl, G, e_2851, o_2923⟩
    · rintro s_2930 F_2931 H_2932 _ e_2933 ⟨z_2843, z_2844, z_2845, hs_2927, G, e_2928, o_2929⟩ w
      subst hs_2927
      have r0 := Rep.mo (K := K) e_2928 r0
      have r1 := Rep.mo (K := K) e_2928 r1
      have r2 := Rep.mo (K := K) e_2928 r2
      have r3 := Rep.mo (K := K) e_2928 r3
      have GA := gr_fz (A := [p_2840]) G (own1 n0p_2840)
      exact s_ret0 GA w (em_op (em_dget (em_var rfl (o_2929.lent G.fh (by simp))) (em_var rfl (Rep.mo (fz_ex G.fh) r2))) em_int fun _ _ => o_ixL) fun r F1 H1 v g m p => hQ r F1 H1 v g m p
/-! ### law -/
abbrev s_law : Stmt := topS 30
abbrev N_law : List Str := ["script", "parts", "rows", "works", "number", "k", "size", "found", "told"]
theorem sc_law : FnScope N_law ["script"] (defScope s_law) := ⟨rfl, rfl, rfl, by decide +kernel, rfl, by decide +kernel, by decide +kernel⟩
abbrev sp_law (K : PySem.W.Frag) (ce : Ce) : Sp := SpF ce (RC K (α := Scr) R0) (rv K (ρ := Bool)) (fun a : (Scr × Unit) => m_law a.1)
theorem ok_law {f : Addr} {fd : FuncData} (FF : Fun K "law" "law" s_law f fd) {a__law_cell : Addr} {d__law_cell : FuncData} (G__law_cell : FnOk P w K mg base CX0 1 a__law_cell d__law_cell ["script", "k"] (sp_law_cell K ce)) (mg__law_cell : mg "_law_cell" = some (.ref a__law_cell)) (k__law_cell : PySem.W.keepIn K (.ref a__law_cell) = true) (b__law_cell : Binds K d__law_cell ["script", "k"] []) {a__law_far : Addr} {d__law_far : FuncData} (G__law_far : FnOk P w K mg base CX0 3 a__law_far d__law_far ["parts", "rows", "size", "number"] (sp_law_far K ce)) (mg__law_far : mg "_law_far" = some (.ref a__law_far)) (k__law_far : PySem.W.keepIn K (.ref a__law_far) = true) (b__law_far : Binds K d__law_far ["parts", "rows", "size", "number"] []) {a__law_raised : Addr} {d__law_raised : FuncData} (G__law_raised : FnOk P w K mg base CX0 3 a__law_raised d__law_raised ["rows", "parts", "cell"] (sp_law_raised K ce)) (mg__law_raised : mg "_law_raised" = some (.ref a__law_raised)) (k__law_raised : PySem.W.keepIn K (.ref a__law_raised) = true) (b__law_raised : Binds K d__law_raised ["rows", "parts", "cell"] []) {a__law_rows : Addr} {d__law_rows : FuncData} (G__law_rows : FnOk P w K mg base CX0 3 a__law_rows d__law_rows ["script", "at", "many", "most", "crushers"] (sp_law_rows K ce)) (mg__law_rows : mg "_law_rows" = some (.ref a__law_rows)) (k__law_rows : PySem.W.keepIn K (.ref a__law_rows) = true) (b__law_rows : Binds K d__law_rows ["script", "at", "many", "most", "crushers"] []) {a__law_size : Addr} {d__law_size : FuncData} (G__law_size : FnOk P w K mg base CX0 2 a__law_size d__law_size ["parts", "rows", "cell"] (sp_law_size K ce)) (mg__law_size : mg "_law_size" = some (.ref a__law_size)) (k__law_size : PySem.W.keepIn K (.ref a__law_size) = true) (b__law_size : Binds K d__law_size ["parts", "rows", "cell"] []) {a__law_whole : Addr} {d__law_whole : FuncData} (G__law_whole : FnOk P w K mg base CX0 1 a__law_whole d__law_whole ["found"] (sp_law_whole K ce)) (mg__law_whole : mg "_law_whole" = some (.ref a__law_whole)) (k__law_whole : PySem.W.keepIn K (.ref a__law_whole) = true) (b__law_whole : Binds K d__law_whole ["found"] []) {a_weight_in : Addr} {d_weight_in : FuncData} (G_weight_in : FnOk P w K mg base CX0 3 a_weight_in d_weight_in ["works", "row", "size", "number"] (sp_weight_in K ce)) (mg_weight_in : mg "weight_in" = some (.ref a_weight_in)) (k_weight_in : PySem.W.keepIn K (.ref a_weight_in) = true) (b_weight_in : Binds K d_weight_in ["works", "row", "size", "number"] []) {a_weights_from : Addr} {d_weights_from : FuncData} (G_weights_from : FnOk P w K mg base CX0 4 a_weights_from d_weights_from ["works", "row", "size"] (sp_weights_from K ce)) (mg_weights_from : mg "weights_from" = some (.ref a_weights_from)) (k_weights_from : PySem.W.keepIn K (.ref a_weights_from) = true) (b_weights_from : Binds K d_weights_from ["works", "row", "size"] []) {a_Works : Addr} {d_Works : FuncData} (M_Works : Mk K (ce "Works") a_Works) (G_Works : FnOk P w K mg base (L2.CX P w) 2 a_Works d_Works ["self", "parts", "rows"] (sp_Works K ce)) (mgc_Works : mg "Works" = some (.ref (ce "Works"))) (b_Works : Binds K d_Works ["self", "parts", "rows"] []) (z_isinstance : mg "isinstance" = none) (z_len : mg "len" = none) (z_list : mg "list" = none) (z_max : mg "max" = none) (z_min : mg "min" = none) (z_range : mg "range" = none) (z_sum : mg "sum" = none) : FnOk P w K mg base (L2.CX P w) 5 f fd ["script"] (sp_law K ce) := by
  refine FF.okX sc_law (fun vs H0 Q E h => ?_) (fun cdv A outer s H0 vs Q E hr h => ?_)
  · obtain ⟨F0, ⟨a0_script, _⟩, e0, ⟨v0, _, rfl, r0, rfl⟩, w⟩ := h
    rfl
  · obtain ⟨F0, ⟨a0_script, _⟩, e0, ⟨v0, _, rfl, r0, rfl⟩, w⟩ := h
    have w := wp_post w
    have G := Gr.rf e0
    have nd := sc_law.nd
    have hQ : ∀ r F1 H1 v, Gr F0 H0 F1 H1 → (rv K (ρ := Bool)) F0 H0 F1 H1 v r → Fin (rv K (ρ := Bool)) F0 H0 Q r → Q v H1 := fun r F1 H1 v g m p => p F1 H1 v g m
    refine ⟨_, (pss_cons (ps_set (i := 1) nd rfl (by first | exact Or.inl rfl | exact Or.inr rfl) (pe_op op_add pe_int (pe_op op_mod (pe_call G__law_cell (hr.mono (by decide)) rfl mg__law_cell k__law_cell b__law_cell .nil pass0 (pa_cons (pv 0) (pa_cons pe_int pa_nil))) pe_int)))
      (pss_cons (ps_set (i := 2) nd rfl (by first | exact Or.inl rfl | exact Or.inr rfl) (pe_call G__law_rows (hr.mono (by decide)) rfl mg__law_rows k__law_rows b__law_rows .nil pass0 (pa_cons (pv 0) (pa_cons pe_int (pa_cons (pe_op op_add pe_int (pe_op op_mod (pe_op op_fdivW (pe_call G__law_cell (hr.mono (by decide)) rfl mg__law_cell k__law_cell b__law_cell .nil pass0 (pa_cons (pv 0) (pa_cons pe_int pa_nil))) pe_int) pe_int)) (pa_cons pe_int (pa_cons pe_int pa_nil)))))))
      (pss_cons (ps_set (i := 2) nd rfl (by first | exact Or.inl rfl | exact Or.inr rfl) (pe_call G__law_raised (hr.mono (by decide)) rfl mg__law_raised k__law_raised b__law_raised .nil pass0 (pa_cons (pv 2) (pa_cons (pv 1) (pa_cons (pe_op op_fdivW (pe_call G__law_cell (hr.mono (by decide)) rfl mg__law_cell k__law_cell b__law_cell .nil pass0 (pa_cons (pv 0) (pa_cons pe_int pa_nil))) pe_int) pa_nil)))))
      (pss_cons (ps_set (i := 3) nd rfl (by first | exact Or.inl rfl | exact Or.inr rfl) (pe_make M_Works G_Works (hr.mono (by decide)) rfl mgc_Works b_Works .nil (passes_call (takes_of rfl rfl rfl rfl) (fun _ _ _ _ h => h)) (pa_cons (pv 1) (pa_cons (pe_callTy (r := rListS K) call_list_of (by rfl) z_list (by decide +kernel) (pa_cons (pv 2) pa_nil)) pa_nil))))
      (pss_cons (ps_set (i := 4) nd rfl (by first | exact Or.inl rfl | exact Or.inr rfl) (pe_op op_mod (pe_call G__law_cell (hr.mono (by decide)) rfl mg__law_cell k__law_cell b__law_cell .nil pass0 (pa_cons (pv 0) (pa_cons pe_int pa_nil))) pe_int))
      (pss_cons (ps_for (by first | exact PassesOwn.never | exact passes_of rfl) rfl (pi_range2 (by rfl) z_range (pa_cons pe_int (pa_cons (pe_op op_add pe_int (pe_callB (call_max2 rfl) (by rfl) z_max (by decide +kernel) (pa_cons pe_int (pa_cons (pe_callB (call_min2 rfl) (by rfl) z_min (by decide +kernel) (pa_cons pe_int (pa_cons (pe_op op_sub (pe_callB (r := rLenS K) call_len_seq (by rfl) z_len (by decide +kernel) (pa_cons (pv 0) pa_nil)) pe_int) pa_nil))) pa_nil)))) pa_nil))) (pg_name (i := 5) nd rfl (by first | exact Or.inl rfl | exact Or.inr rfl)) (pss_cons (ps_set (i := 6) nd rfl (by first | exact Or.inl rfl | exact Or.inr rfl) (pe_call G__law_size (hr.mono (by decide)) rfl mg__law_size k__law_size b__law_size .nil pass0 (pa_cons (pv 1) (pa_cons (pv 2) (pa_cons (pe_call G__law_cell (hr.mono (by decide)) rfl mg__law_cell k__law_cell b__law_cell .nil pass0 (pa_cons (pv 0) (pa_cons (pv 5) pa_nil))) pa_nil)))))
      (pss_cons (ps_set (i := 7) nd rfl (by first | exact Or.inl rfl | exact Or.inr rfl) (pe_call G_weight_in (hr.mono (by decide)) rfl mg_weight_in k_weight_in b_weight_in .nil pass0 (pa_cons (pv 3) (pa_cons pe_int (pa_cons (pv 6) (pa_cons (pv 4) pa_nil))))))
      (pss_cons (ps_if (PW.pt (pw_or (pt_not (pt_val (pe_call G__law_whole (hr.mono (by decide)) rfl mg__law_whole k__law_whole b__law_whole .nil pass0 (pa_cons (pv 7) pa_nil)))) (pw_or1 (pt_cmpR op_ne (pv 7) (pe_call G__law_far (hr.mono (by decide)) rfl mg__law_far k__law_far b__law_far .nil pass0 (pa_cons (pv 1) (pa_cons (pv 2) (pa_cons (pv 6) (pa_cons (pv 4) pa_nil))))) (nomark _))))) (pss_one (ps_ret pe_bl)) pss_nil)
      (pss_one (ps_if (pt_cmpR op_eq (pv 5) pe_int (nomark _)) (pss_cons (ps_set (i := 8) nd rfl (by first | exact Or.inl rfl | exact Or.inr rfl) (pe_call G_weights_from (hr.mono (by decide)) rfl mg_weights_from k_weights_from b_weights_from .nil pass0 (pa_cons (pv 3) (pa_cons pe_int (pa_cons (pv 6) pa_nil)))))
      (pss_one (ps_if (PW.pt (pw_or (pt_not (pt_val (pe_callB (r := rIsi K) call_isi (by rfl) z_isinstance (by decide +kernel) (pa_cons (pv 8) (pa_cons (pe_bltn (v := .ty "list") (by rfl) z_list (by decide +kernel) rfl) pa_nil))))) (pw_or (pt_cmpR op_ne (pe_callB (r := rLenS K) call_len_seq (by rfl) z_len (by decide +kernel) (pa_cons (pv 8) pa_nil)) pe_int (nomark _)) (pw_or (pt_cmpR op_ne (pe_callB (r := rSum K) (cr_sum rfl) (by rfl) z_sum (by decide +kernel) (pa_cons (pv 8) pa_nil)) (pv 6) (nomark _)) (pw_or1 (pt_cmpR op_ne (pe_ix (r := rIxL K) ix_list (pv 8) (pv 4) (fun _ _ => rfl)) (pv 7) (nomark _))))))) (pss_one (ps_ret pe_bl)) pss_nil))) pss_nil))))))
      (pss_one (ps_ret pe_bl)))))))), ?_⟩
    have w := show Wp ce E H0 (m_law a0_script) _ from w
    unfold m_law at w
    refine q_asg (K := K) G w (em_op em_int (em_op (e_call0 (f := (fun a : (Scr × Int × Unit) => m_law_cell a.1 a.2.1)) (x := (a0_script, (0 : Int), ())) (e_cons (em_var rfl r0) (e_cons em_int ea_nil))) em_int fun _ _ => o_modM) fun _ _ => o_add) fun parts_3084 F_3085 H_3086 v_3088 g_3087 r_3089 w => ?_
    have G := G.tr g_3087
    have r0 := Rep.mo (K := K) g_3087.ff r0
    refine q_asg (K := K) G w (Ev.nv (em_call0 (f := (fun a : (Scr × Int × Int × Int × Int × Unit) => m_law_rows a.1 a.2.1 a.2.2.1 a.2.2.2.1 a.2.2.2.2.1)) (ea_cons (em_var rfl r0) (ea_cons em_int (ea_cons (em_op em_int (em_op (em_op (e_call0 (f := (fun a : (Scr × Int × Unit) => m_law_cell a.1 a.2.1)) (x := (a0_script, (0 : Int), ())) (e_cons (em_var rfl r0) (e_cons em_int ea_nil))) em_int fun _ _ => o_fdivM) em_int fun _ _ => o_modM) fun _ _ => o_add) (ea_cons em_int (ea_cons em_int ea_nil))))))) fun rows_3107 F_3108 H_3109 v_3111 g_3110 r_3112 w => ?_
    have G := G.tr g_3110
    have r0 := Rep.mo (K := K) g_3110.ff r0
    have r_3089 := Rep.mo (K := K) g_3110.ff r_3089
    refine q_asg (K := K) G w (em_call0 (f := (fun a : ((List Row) × Int × Int × Unit) => m_law_raised a.1 a.2.1 a.2.2.1)) (ea_cons (em_var rfl r_3112) (ea_cons (em_var rfl r_3089) (ea_cons (em_op (e_call0 (f := (fun a : (Scr × Int × Unit) => m_law_cell a.1 a.2.1)) (x := (a0_script, (0 : Int), ())) (e_cons (em_var rfl r0) (e_cons em_int ea_nil))) em_int fun _ _ => o_fdivM) ea_nil)))) fun rows_3122 F_3123 H_3124 v_3126 g_3125 r_3127 w => ?_
    have G := G.tr g_3125
    have r0 := Rep.mo (K := K) g_3125.ff r0
    have r_3089 := Rep.mo (K := K) g_3125.ff r_3089
    refine q_asg (K := K) G w (em_makeX (f := (fun a : (Int × (List Row) × Unit) => m_Works a.1 a.2.1)) (e_cons (em_var rfl r_3089) (e_cons (Ev.nv (e_cb (e_cons (em_var rfl r_3127) ea_nil) a_list)) ea_nil))) fun works_3129 F_3130 H_3131 v_3133 g_3132 r_3134 w => ?_
    have G := G.tr g_3132
    have r0 := Rep.mo (K := K) g_3132.ff r0
    have r_3089 := Rep.mo (K := K) g_3132.ff r_3089
    have r_3127 := Rep.mo (K := K) g_3132.ff r_3127
    refine q_asg (K := K) G w (em_op (e_call0 (f := (fun a : (Scr × Int × Unit) => m_law_cell a.1 a.2.1)) (x := (a0_script, (10 : Int), ())) (e_cons (em_var rfl r0) (e_cons em_int ea_nil))) em_int fun _ _ => o_modM) fun number_3137 F_3138 H_3139 v_3141 g_3140 r_3142 w => ?_
    have G := G.tr g_3140
    have r0 := Rep.mo (K := K) g_3140.ff r0
    have r_3089 := Rep.mo (K := K) g_3140.ff r_3089
    have r_3127 := Rep.mo (K := K) g_3140.ff r_3127
    have r_3134 := Rep.mo (K := K) g_3140.ff r_3134
    refine q_for (S := Unit) (fun s F' H' σ' => ∃ (z_3145 : Option V) (z_3146 : Option V) (z_3147 : Option V) (z_3148 : Option V), σ' = [some v0, some v_3088, some v_3126, some v_3133, some v_3141, z_3145, z_3146, z_3147, z_3148] ∧ Gr F0 H0 F' H' ∧ Ex F_3138 F') G (ei_rng2 em_int (e2 em_int (e_cb (e_cons em_int (e_cons (e_cb (e_cons em_int (e_cons (e2 (e_cb (e_cons (em_var rfl r0) ea_nil) a_lenS) em_int o_sub) ea_nil)) a_min2) ea_nil)) a_max2) o_add)) (tg_name (K := K)) w (fun _ _ g_3218 => ⟨_, _, _, _, rfl, G.tr g_3218, g_3218.ff⟩) (fun _ _ _ _ ⟨_, _, _, _, _, G, _⟩ => G) ?_ ?_
    · rintro x_3150 s_3149 F_3151 H_3152 _ ⟨z_3145, z_3146, z_3147, z_3148, hs_3153, G, e_3154⟩ F_3155 H_3156 σ_3157 g_3158 ⟨v_3166, h_3168, r_3167⟩ D_3163 P_3164 hrt_3165 hN_3159 hC_3160 hB_3161 hP_3162 w
      subst hs_3153
      subst h_3168
      have r0 := Rep.mo (K := K) e_3154 r0
      have r_3089 := Rep.mo (K := K) e_3154 r_3089
      have r_3127 := Rep.mo (K := K) e_3154 r_3127
      have r_3134 := Rep.mo (K := K) e_3154 r_3134
      have r_3142 := Rep.mo (K := K) e_3154 r_3142
      have G := G.tr g_3158
      have r0 := Rep.mo (K := K) g_3158.ff r0
      have r_3089 := Rep.mo (K := K) g_3158.ff r_3089
      have r_3127 := Rep.mo (K := K) g_3158.ff r_3127
      have r_3134 := Rep.mo (K := K) g_3158.ff r_3134
      have r_3142 := Rep.mo (K := K) g_3158.ff r_3142
      have e_3154 := Ex.tr e_3154 g_3158.ff
      have e_3169 := Ex.rf F_3155
      have hQ : ∀ r F1 H1 v, Gr F0 H0 F1 H1 → (rv K (ρ := Bool)) F0 H0 F1 H1 v r → P_3164 (.rt r) → D_3163.rt v H1 := fun r F1 H1 v g m p => by rw [hrt_3165]; exact hQ r F1 H1 v g m (hP_3162 _ p)
      unfold m_law_b1 at w
      refine q_asg (K := K) G w (em_call0 (f := (fun a : (Int × (List Row) × Int × Unit) => m_law_size a.1 a.2.1 a.2.2.1)) (ea_cons (em_var rfl r_3089) (ea_cons (em_var rfl r_3127) (ea_cons (e_call0 (f := (fun a : (Scr × Int × Unit) => m_law_cell a.1 a.2.1)) (x := (a0_script, x_3150, ())) (e_cons (em_var rfl r0) (e_cons (em_var rfl r_3167) ea_nil))) ea_nil)))) fun size_3177 F_3178 H_3179 v_3181 g_3180 r_3182 w => ?_
      have G := G.tr g_3180
      have r0 := Rep.mo (K := K) g_3180.ff r0
      have r_3089 := Rep.mo (K := K) g_3180.ff r_3089
      have r_3127 := Rep.mo (K := K) g_3180.ff r_3127
      have r_3134 := Rep.mo (K := K) g_3180.ff r_3134
      have r_3142 := Rep.mo (K := K) g_3180.ff r_3142
      have r_3167 := Rep.mo (K := K) g_3180.ff r_3167
      have e_3154 := Ex.tr e_3154 g_3180.ff
      have e_3169 := Ex.tr e_3169 g_3180.ff
      refine q_asg (K := K) G w (e_call0 (f := (fun a : (Wk × Int × Int × Int × Unit) => m_weight_in a.1 a.2.1 a.2.2.1 a.2.2.2.1)) (x := (works_3129, (0 : Int), size_3177, number_3137, ())) (e_cons (em_var rfl r_3134) (e_cons em_int (e_cons (em_var rfl r_3182) (e_cons (em_var rfl r_3142) ea_nil))))) fun found_3183 F_3184 H_3185 v_3187 g_3186 r_3188 w => ?_
      have G := G.tr g_3186
      have r0 := Rep.mo (K := K) g_3186.ff r0
      have r_3089 := Rep.mo (K := K) g_3186.ff r_3089
      have r_3127 := Rep.mo (K := K) g_3186.ff r_3127
      have r_3134 := Rep.mo (K := K) g_3186.ff r_3134
      have r_3142 := Rep.mo (K := K) g_3186.ff r_3142
      have r_3167 := Rep.mo (K := K) g_3186.ff r_3167
      have r_3182 := Rep.mo (K := K) g_3186.ff r_3182
      have e_3154 := Ex.tr e_3154 g_3186.ff
      have e_3169 := Ex.tr e_3169 g_3186.ff
      refine q_if2 G w (tm_or (tm_not (t_B (e_call0 (f := (fun a : (Int × Unit) => m_law_whole a.1)) (x := (found_3183, ())) (e_cons (em_var rfl r_3188) ea_nil)))) (t_of (em_op (em_var rfl r_3188) (e_call0 (f := (fun a : (Int × (List Row) × Int × Int × Unit) => m_law_far a.1 a.2.1 a.2.2.1 a.2.2.2.1)) (x := (parts_3084, rows_3122, size_3177, number_3137, ())) (e_cons (em_var rfl r_3089) (e_cons (em_var rfl r_3127) (e_cons (em_var rfl r_3182) (e_cons (em_var rfl r_3142) ea_nil))))) fun _ _ => o_neI))) (fun F_3191 H_3192 g_3193 w => ?_) (fun F_3191 H_3192 g_3193 w => ?_)
      · have G := G.tr g_3193
        have r0 := Rep.mo (K := K) g_3193.ff r0
        have r_3089 := Rep.mo (K := K) g_3193.ff r_3089
        have r_3127 := Rep.mo (K := K) g_3193.ff r_3127
        have r_3134 := Rep.mo (K := K) g_3193.ff r_3134
        have r_3142 := Rep.mo (K := K) g_3193.ff r_3142
        have r_3167 := Rep.mo (K := K) g_3193.ff r_3167
        have r_3182 := Rep.mo (K := K) g_3193.ff r_3182
        have r_3188 := Rep.mo (K := K) g_3193.ff r_3188
        have e_3154 := Ex.tr e_3154 g_3193.ff
        have e_3169 := Ex.tr e_3169 g_3193.ff
        exact s_ret G w em_bl fun r F1 H1 v g m p => hQ r F1 H1 v g m p
      · have G := G.tr g_3193
        have r0 := Rep.mo (K := K) g_3193.ff r0
        have r_3089 := Rep.mo (K := K) g_3193.ff r_3089
        have r_3127 := Rep.mo (K := K) g_3193.ff r_3127
        have r_3134 := Rep.mo (K := K) g_3193.ff r_3134
        have r_3142 := Rep.mo (K := K) g_3193.ff r_3142
        have r_3167 := Rep.mo (K := K) g_3193.ff r_3167
        have r_3182 := Rep.mo (K := K) g_3193.ff r_3182
        have r_3188 := Rep.mo (K := K) g_3193.ff r_3188
        have e_3154 := Ex.tr e_3154 g_3193.ff
        have e_3169 := Ex.tr e_3169 g_3193.ff
        refine s_next ?_
        refine s_nx ?_
        refine s_if2 G w (t_of (e2 (em_var rfl r_3167) em_int o_eqI)) (fun F_3195 H_3196 g_3197 w => ?_) (fun F_3195 H_3196 g_3197 w => ?_)
        · have G := G.tr g_3197
          have r0 := Rep.mo (K := K) g_3197.ff r0
          have r_3089 := Rep.mo (K := K) g_3197.ff r_3089
          have r_3127 := Rep.mo (K := K) g_3197.ff r_3127
          have r_3134 := Rep.mo (K := K) g_3197.ff r_3134
          have r_3142 := Rep.mo (K := K) g_3197.ff r_3142
          have r_3167 := Rep.mo (K := K) g_3197.ff r_3167
          have r_3182 := Rep.mo (K := K) g_3197.ff r_3182
          have r_3188 := Rep.mo (K := K) g_3197.ff r_3188
          have e_3154 := Ex.tr e_3154 g_3197.ff
          have e_3169 := Ex.tr e_3169 g_3197.ff
          refine q_asg (K := K) G w (Ev.nv (e_call0 (f := (fun a : (Wk × Int × Int × Unit) => m_weights_from a.1 a.2.1 a.2.2.1)) (x := (works_3129, (0 : Int), size_3177, ())) (e_cons (em_var rfl r_3134) (e_cons em_int (e_cons (em_var rfl r_3182) ea_nil))))) fun told_3198 F_3199 H_3200 v_3202 g_3201 r_3203 w => ?_
          have G := G.tr g_3201
          have r0 := Rep.mo (K := K) g_3201.ff r0
          have r_3089 := Rep.mo (K := K) g_3201.ff r_3089
          have r_3127 := Rep.mo (K := K) g_3201.ff r_3127
          have r_3134 := Rep.mo (K := K) g_3201.ff r_3134
          have r_3142 := Rep.mo (K := K) g_3201.ff r_3142
          have r_3167 := Rep.mo (K := K) g_3201.ff r_3167
          have r_3182 := Rep.mo (K := K) g_3201.ff r_3182
          have r_3188 := Rep.mo (K := K) g_3201.ff r_3188
          have e_3154 := Ex.tr e_3154 g_3201.ff
          have e_3169 := Ex.tr e_3169 g_3201.ff
          refine s_if2 G w (tm_or (t_not (t_B (e_isi (b := true) (em_var rfl r_3203) (kit_ty (by decide +kernel))))) (tm_or (t_of (e2 (e_cb (e_cons (em_var rfl r_3203) ea_nil) a_len) em_int o_neI)) (tm_or (t_of (e2 (e_cb (e_cons (em_var rfl r_3203) ea_nil) a_sum) (em_var rfl r_3182) o_neI)) (t_of (em_op (em_op (em_var rfl r_3203) (em_var rfl r_3142) fun _ _ => o_ixL) (em_var rfl r_3188) fun _ _ => o_neI))))) (fun F_3208 H_3209 g_3210 w => ?_) (fun F_3208 H_3209 g_3210 w => ?_)
          · have G := G.tr g_3210
            have r0 := Rep.mo (K := K) g_3210.ff r0
            have r_3089 := Rep.mo (K := K) g_3210.ff r_3089
            have r_3127 := Rep.mo (K := K) g_3210.ff r_3127
            have r_3134 := Rep.mo (K := K) g_3210.ff r_3134
            have r_3142 := Rep.mo (K := K) g_3210.ff r_3142
            have r_3167 := Rep.mo (K := K) g_3210.ff r_3167
            have r_3182 := Rep.mo (K := K) g_3210.ff r_3182
            have r_3188 := Rep.mo (K := K) g_3210.ff r_3188
            have r_3203 := Rep.mo (K := K) g_3210.ff r_3203
            have e_3154 := Ex.tr e_3154 g_3210.ff
            have e_3169 := Ex.tr e_3169 g_3210.ff
            exact s_ret G w em_bl fun r F1 H1 v g m p => hQ r F1 H1 v g m p
          · have G := G.tr g_3210
            have r0 := Rep.mo (K := K) g_3210.ff r0
            have r_3089 := Rep.mo (K := K) g_3210.ff r_3089
            have r_3127 := Rep.mo (K := K) g_3210.ff r_3127
            have r_3134 := Rep.mo (K := K) g_3210.ff r_3134
            have r_3142 := Rep.mo (K := K) g_3210.ff r_3142
            have r_3167 := Rep.mo (K := K) g_3210.ff r_3167
            have r_3182 := Rep.mo (K := K) g_3210.ff r_3182
            have r_3188 := Rep.mo (K := K) g_3210.ff r_3188
            have r_3203 := Rep.mo (K := K) g_3210.ff r_3203
            have e_3154 := Ex.tr e_3154 g_3210.ff
            have e_3169 := Ex.tr e_3169 g_3210.ff
            refine s_next ?_
            exact hN_3159 _ w _ _ _ e_3169 ⟨_, _, _, _, rfl, G, e_3154⟩
        · have G := G.tr g_3197
          have r0 := Rep.mo (K := K) g_3197.ff r0
          have r_3089 := Rep.mo (K := K) g_3197.ff r_3089
          have r_3127 := Rep.mo (K := K) g_3197.ff r_3127
          have r_3134 := Rep.mo (K := K) g_3197.ff r_3134
          have r_3142 := Rep.mo (K := K) g_3197.ff r_3142
          have r_3167 := Rep.mo (K := K) g_3197.ff r_3167
          have r_3182 := Rep.mo (K := K) g_3197.ff r_3182
          have r_3188 := Rep.mo (K := K) g_3197.ff r_3188
          have e_3154 := Ex.tr e_3154 g_3197.ff
          have e_3169 := Ex.tr e_3169 g_3197.ff
          refine s_next ?_
          exact hN_3159 _ w _ _ _ e_3169 ⟨_, _, _, _, rfl, G, e_3154⟩
    · rintro s_3214 F_3215 H_3216 _ e_3217 ⟨z_3145, z_3146, z_3147, z_3148, hs_3212, G, e_3213⟩ w
      subst hs_3212
      have r0 := Rep.mo (K := K) e_3213 r0
      have r_3089 := Rep.mo (K := K) e_3213 r_3089
      have r_3127 := Rep.mo (K := K) e_3213 r_3127
      have r_3134 := Rep.mo (K := K) e_3213 r_3134
      have r_3142 := Rep.mo (K := K) e_3213 r_3142
      exact s_ret0 G w em_bl fun r F1 H1 v g m p => hQ r F1 H1 v g m p
end
def spLaw (K : PySem.W.Frag) : Sp := fun vs H Q _ => ∃ (a : Addr) (ns : List Int), vs = [.ref a] ∧ SqL K H a (ns.map V.int) ∧ ns.length ≤ 63 ∧ ∀ H', Q (.bl true) H'
theorem law_of {P : Program} {w : World} {K : PySem.W.Frag} {mg : Str → Option Value} {base : Heap} {ce : Ce} {k : Nat} {f : Addr} {fd : FuncData} (F : FnOk P w K mg base (L2.CX P w) k f fd ["script"] (sp_law K ce)) : FnOk P w K mg base CX0 k f fd ["script"] (spLaw K) :=
  fn_quiet F fun vs H Q E ⟨a, ns, h1, h2, h3, h4⟩ => ⟨H, (⟨ns⟩, ()), Ex.rf _, ⟨.ref a, [], h1, ⟨a, rfl, h2⟩, rfl⟩, by
    show Post ce (rv K) (m_law ⟨ns⟩) H H Q E0
    rw [law_true ns h3]
    intro F' H' v g r
    cases r
    exact h4 H'⟩
theorem all_mk {l : PySem.W.OpenLaw} {w : World} {K : PySem.W.Frag} {h : Heap} {mg : Str → Option Value} {fa f0 f1 f2 f3 f4 f5 f6 f7 f8 f9 f10 f11 f12 f13 f14 f15 f16 f17 f18 f19 f20 C_BadWorks C_Works : Addr} {t_MOST_BIN : Tok} {t_MOST_PARTS : Tok} {t_MOST_ROWS : Tok} {t_WIDEST : Tok} (X : K.In h) (G : h.Ns mainGlobals mg) (hfa : mg "law" = some (.ref fa))
    {od0 an0 : Option Addr} {sl0 : Array (Option Value)} {oc0 kV0 dc0 pm0 cd0 ct0 : Value}
    {od1 an1 : Option Addr} {sl1 : Array (Option Value)} {oc1 kV1 dc1 pm1 cd1 ct1 : Value}
    {od2 an2 : Option Addr} {sl2 : Array (Option Value)} {oc2 kV2 dc2 pm2 cd2 ct2 : Value}
    {od3 an3 : Option Addr} {sl3 : Array (Option Value)} {oc3 kV3 dc3 pm3 cd3 ct3 : Value}
    {od4 an4 : Option Addr} {sl4 : Array (Option Value)} {oc4 kV4 dc4 pm4 cd4 ct4 : Value}
    {od5 an5 : Option Addr} {sl5 : Array (Option Value)} {oc5 kV5 dc5 pm5 cd5 ct5 : Value}
    {od6 an6 : Option Addr} {sl6 : Array (Option Value)} {oc6 kV6 dc6 pm6 cd6 ct6 : Value}
    {od7 an7 : Option Addr} {sl7 : Array (Option Value)} {oc7 kV7 dc7 pm7 cd7 ct7 : Value}
    {od8 an8 : Option Addr} {sl8 : Array (Option Value)} {oc8 kV8 dc8 pm8 cd8 ct8 : Value}
    {od9 an9 : Option Addr} {sl9 : Array (Option Value)} {oc9 kV9 dc9 pm9 cd9 ct9 : Value}
    {od10 an10 : Option Addr} {sl10 : Array (Option Value)} {oc10 kV10 dc10 pm10 cd10 ct10 : Value}
    {od11 an11 : Option Addr} {sl11 : Array (Option Value)} {oc11 kV11 dc11 pm11 cd11 ct11 : Value}
    {od12 an12 : Option Addr} {sl12 : Array (Option Value)} {oc12 kV12 dc12 pm12 cd12 ct12 : Value}
    {od13 an13 : Option Addr} {sl13 : Array (Option Value)} {oc13 kV13 dc13 pm13 cd13 ct13 : Value}
    {od14 an14 : Option Addr} {sl14 : Array (Option Value)} {oc14 kV14 dc14 pm14 cd14 ct14 : Value}
    {od15 an15 : Option Addr} {sl15 : Array (Option Value)} {oc15 kV15 dc15 pm15 cd15 ct15 : Value}
    {od16 an16 : Option Addr} {sl16 : Array (Option Value)} {oc16 kV16 dc16 pm16 cd16 ct16 : Value}
    {od17 an17 : Option Addr} {sl17 : Array (Option Value)} {oc17 kV17 dc17 pm17 cd17 ct17 : Value}
    {od18 an18 : Option Addr} {sl18 : Array (Option Value)} {oc18 kV18 dc18 pm18 cd18 ct18 : Value}
    {od19 an19 : Option Addr} {sl19 : Array (Option Value)} {oc19 kV19 dc19 pm19 cd19 ct19 : Value}
    {od20 an20 : Option Addr} {sl20 : Array (Option Value)} {oc20 kV20 dc20 pm20 cd20 ct20 : Value}
    (a0 : PySem.W.nsIn K mainGlobals "_law_end" = some (some (.ref f0))) (l0 : K.lookup f0 = some ⟨oc0, od0, .func (PySem.W.fnOf "_law_end" "_law_end" (defArgs s_law_end) (defBody s_law_end) (defScope s_law_end) .none kV0 dc0 pm0 an0 cd0 ct0), sl0⟩) (c0 : PySem.W.codeIn K cd0 "_law_end" = true) (k0 : PySem.W.keepIn K (.ref f0) = true)
    (a1 : PySem.W.nsIn K mainGlobals "_law_stuck" = some (some (.ref f1))) (l1 : K.lookup f1 = some ⟨oc1, od1, .func (PySem.W.fnOf "_law_stuck" "_law_stuck" (defArgs s_law_stuck) (defBody s_law_stuck) (defScope s_law_stuck) .none kV1 dc1 pm1 an1 cd1 ct1), sl1⟩) (c1 : PySem.W.codeIn K cd1 "_law_stuck" = true) (k1 : PySem.W.keepIn K (.ref f1) = true)
    (a2 : PySem.W.nsIn K mainGlobals "_law_row" = some (some (.ref f2))) (l2 : K.lookup f2 = some ⟨oc2, od2, .func (PySem.W.fnOf "_law_row" "_law_row" (defArgs s_law_row) (defBody s_law_row) (defScope s_law_row) .none kV2 dc2 pm2 an2 cd2 ct2), sl2⟩) (c2 : PySem.W.codeIn K cd2 "_law_row" = true) (k2 : PySem.W.keepIn K (.ref f2) = true)
    (a3 : PySem.W.nsIn K mainGlobals "_law_forward" = some (some (.ref f3))) (l3 : K.lookup f3 = some ⟨oc3, od3, .func (PySem.W.fnOf "_law_forward" "_law_forward" (defArgs s_law_forward) (defBody s_law_forward) (defScope s_law_forward) .none kV3 dc3 pm3 an3 cd3 ct3), sl3⟩) (c3 : PySem.W.codeIn K cd3 "_law_forward" = true) (k3 : PySem.W.keepIn K (.ref f3) = true)
    (a4 : PySem.W.nsIn K mainGlobals "_law_cell" = some (some (.ref f4))) (l4 : K.lookup f4 = some ⟨oc4, od4, .func (PySem.W.fnOf "_law_cell" "_law_cell" (defArgs s_law_cell) (defBody s_law_cell) (defScope s_law_cell) .none kV4 dc4 pm4 an4 cd4 ct4), sl4⟩) (c4 : PySem.W.codeIn K cd4 "_law_cell" = true) (k4 : PySem.W.keepIn K (.ref f4) = true)
    (a5 : PySem.W.nsIn K mainGlobals "_law_rows" = some (some (.ref f5))) (l5 : K.lookup f5 = some ⟨oc5, od5, .func (PySem.W.fnOf "_law_rows" "_law_rows" (defArgs s_law_rows) (defBody s_law_rows) (defScope s_law_rows) .none kV5 dc5 pm5 an5 cd5 ct5), sl5⟩) (c5 : PySem.W.codeIn K cd5 "_law_rows" = true) (k5 : PySem.W.keepIn K (.ref f5) = true)
    (a6 : PySem.W.nsIn K mainGlobals "_law_power" = some (some (.ref f6))) (l6 : K.lookup f6 = some ⟨oc6, od6, .func (PySem.W.fnOf "_law_power" "_law_power" (defArgs s_law_power) (defBody s_law_power) (defScope s_law_power) .none kV6 dc6 pm6 an6 cd6 ct6), sl6⟩) (c6 : PySem.W.codeIn K cd6 "_law_power" = true) (k6 : PySem.W.keepIn K (.ref f6) = true)
    (a7 : PySem.W.nsIn K mainGlobals "_law_raised" = some (some (.ref f7))) (l7 : K.lookup f7 = some ⟨oc7, od7, .func (PySem.W.fnOf "_law_raised" "_law_raised" (defArgs s_law_raised) (defBody s_law_raised) (defScope s_law_raised) .none kV7 dc7 pm7 an7 cd7 ct7), sl7⟩) (c7 : PySem.W.codeIn K cd7 "_law_raised" = true) (k7 : PySem.W.keepIn K (.ref f7) = true)
    (a8 : PySem.W.nsIn K mainGlobals "good_row" = some (some (.ref f8))) (l8 : K.lookup f8 = some ⟨oc8, od8, .func (PySem.W.fnOf "good_row" "good_row" (defArgs s_good_row) (defBody s_good_row) (defScope s_good_row) .none kV8 dc8 pm8 an8 cd8 ct8), sl8⟩) (c8 : PySem.W.codeIn K cd8 "good_row" = true) (k8 : PySem.W.keepIn K (.ref f8) = true)
    (a9 : PySem.W.findIn K (.ref C_Works) "__init__" = some (some (.ref f9))) (i9 : PySem.W.isFn K (.ref f9) = true) (l9 : K.lookup f9 = some ⟨oc9, od9, .func (PySem.W.fnOf "__init__" "Works.__init__" (defArgs s_Works) (defBody s_Works) (defScope s_Works) .none kV9 dc9 pm9 an9 cd9 ct9), sl9⟩) (c9 : PySem.W.codeIn K cd9 "Works.__init__" = true) (k9 : PySem.W.keepIn K (.ref f9) = true)
    (a10 : PySem.W.nsIn K mainGlobals "_law_size" = some (some (.ref f10))) (l10 : K.lookup f10 = some ⟨oc10, od10, .func (PySem.W.fnOf "_law_size" "_law_size" (defArgs s_law_size) (defBody s_law_size) (defScope s_law_size) .none kV10 dc10 pm10 an10 cd10 ct10), sl10⟩) (c10 : PySem.W.codeIn K cd10 "_law_size" = true) (k10 : PySem.W.keepIn K (.ref f10) = true)
    (a11 : PySem.W.nsIn K mainGlobals "pieces_of" = some (some (.ref f11))) (l11 : K.lookup f11 = some ⟨oc11, od11, .func (PySem.W.fnOf "pieces_of" "pieces_of" (defArgs s_pieces_of) (defBody s_pieces_of) (defScope s_pieces_of) .none kV11 dc11 pm11 an11 cd11 ct11), sl11⟩) (c11 : PySem.W.codeIn K cd11 "pieces_of" = true) (k11 : PySem.W.keepIn K (.ref f11) = true)
    (a12 : PySem.W.nsIn K mainGlobals "goes_on" = some (some (.ref f12))) (l12 : K.lookup f12 = some ⟨oc12, od12, .func (PySem.W.fnOf "goes_on" "goes_on" (defArgs s_goes_on) (defBody s_goes_on) (defScope s_goes_on) .none kV12 dc12 pm12 an12 cd12 ct12), sl12⟩) (c12 : PySem.W.codeIn K cd12 "goes_on" = true) (k12 : PySem.W.keepIn K (.ref f12) = true)
    (a13 : PySem.W.nsIn K mainGlobals "own_weight" = some (some (.ref f13))) (l13 : K.lookup f13 = some ⟨oc13, od13, .func (PySem.W.fnOf "own_weight" "own_weight" (defArgs s_own_weight) (defBody s_own_weight) (defScope s_own_weight) .none kV13 dc13 pm13 an13 cd13 ct13), sl13⟩) (c13 : PySem.W.codeIn K cd13 "own_weight" = true) (k13 : PySem.W.keepIn K (.ref f13) = true)
    (a14 : PySem.W.nsIn K mainGlobals "weight_in" = some (some (.ref f14))) (l14 : K.lookup f14 = some ⟨oc14, od14, .func (PySem.W.fnOf "weight_in" "weight_in" (defArgs s_weight_in) (defBody s_weight_in) (defScope s_weight_in) .none kV14 dc14 pm14 an14 cd14 ct14), sl14⟩) (c14 : PySem.W.codeIn K cd14 "weight_in" = true) (k14 : PySem.W.keepIn K (.ref f14) = true)
    (a15 : PySem.W.nsIn K mainGlobals "weights_from" = some (some (.ref f15))) (l15 : K.lookup f15 = some ⟨oc15, od15, .func (PySem.W.fnOf "weights_from" "weights_from" (defArgs s_weights_from) (defBody s_weights_from) (defScope s_weights_from) .none kV15 dc15 pm15 an15 cd15 ct15), sl15⟩) (c15 : PySem.W.codeIn K cd15 "weights_from" = true) (k15 : PySem.W.keepIn K (.ref f15) = true)
    (a16 : PySem.W.nsIn K mainGlobals "_law_whole" = some (some (.ref f16))) (l16 : K.lookup f16 = some ⟨oc16, od16, .func (PySem.W.fnOf "_law_whole" "_law_whole" (defArgs s_law_whole) (defBody s_law_whole) (defScope s_law_whole) .none kV16 dc16 pm16 an16 cd16 ct16), sl16⟩) (c16 : PySem.W.codeIn K cd16 "_law_whole" = true) (k16 : PySem.W.keepIn K (.ref f16) = true)
    (a17 : PySem.W.nsIn K mainGlobals "_law_sizes" = some (some (.ref f17))) (l17 : K.lookup f17 = some ⟨oc17, od17, .func (PySem.W.fnOf "_law_sizes" "_law_sizes" (defArgs s_law_sizes) (defBody s_law_sizes) (defScope s_law_sizes) .none kV17 dc17 pm17 an17 cd17 ct17), sl17⟩) (c17 : PySem.W.codeIn K cd17 "_law_sizes" = true) (k17 : PySem.W.keepIn K (.ref f17) = true)
    (a18 : PySem.W.nsIn K mainGlobals "_law_laid" = some (some (.ref f18))) (l18 : K.lookup f18 = some ⟨oc18, od18, .func (PySem.W.fnOf "_law_laid" "_law_laid" (defArgs s_law_laid) (defBody s_law_laid) (defScope s_law_laid) .none kV18 dc18 pm18 an18 cd18 ct18), sl18⟩) (c18 : PySem.W.codeIn K cd18 "_law_laid" = true) (k18 : PySem.W.keepIn K (.ref f18) = true)
    (a19 : PySem.W.nsIn K mainGlobals "_law_far" = some (some (.ref f19))) (l19 : K.lookup f19 = some ⟨oc19, od19, .func (PySem.W.fnOf "_law_far" "_law_far" (defArgs s_law_far) (defBody s_law_far) (defScope s_law_far) .none kV19 dc19 pm19 an19 cd19 ct19), sl19⟩) (c19 : PySem.W.codeIn K cd19 "_law_far" = true) (k19 : PySem.W.keepIn K (.ref f19) = true)
    (a20 : PySem.W.nsIn K mainGlobals "law" = some (some (.ref f20))) (l20 : K.lookup f20 = some ⟨oc20, od20, .func (PySem.W.fnOf "law" "law" (defArgs s_law) (defBody s_law) (defScope s_law) .none kV20 dc20 pm20 an20 cd20 ct20), sl20⟩) (c20 : PySem.W.codeIn K cd20 "law" = true) (k20 : PySem.W.keepIn K (.ref f20) = true)
    (ea_BadWorks : PySem.W.nsIn K mainGlobals "BadWorks" = some (some (.ref C_BadWorks))) (ex_BadWorks : PySem.W.excIn K C_BadWorks [.type "ValueError", .type "Exception", .type "BaseException", .type "object"] "ValueError.__new__" = true) (ek_BadWorks : PySem.W.keepIn K (.ref C_BadWorks) = true) (eb_BadWorks : PySem.W.subIn K (.ref C_BadWorks) (.type "BaseException") = some true) (et_BadWorks : PySem.W.typeIn K (.ref C_BadWorks) = some (.type "type"))
    (n_MOST_BIN : PySem.W.nsIn K mainGlobals "MOST_BIN" = some (some (.int 5 t_MOST_BIN)))
    (n_MOST_PARTS : PySem.W.nsIn K mainGlobals "MOST_PARTS" = some (some (.int 9 t_MOST_PARTS)))
    (n_MOST_ROWS : PySem.W.nsIn K mainGlobals "MOST_ROWS" = some (some (.int 12 t_MOST_ROWS)))
    (n_WIDEST : PySem.W.nsIn K mainGlobals "WIDEST" = some (some (.int 1000000000000000000000000000000000000000000000000000000000000 t_WIDEST)))
    (z_bool : PySem.W.nsIn K mainGlobals "bool" = some none)
    (z_dict : PySem.W.nsIn K mainGlobals "dict" = some none)
    (z_int : PySem.W.nsIn K mainGlobals "int" = some none)
    (z_isinstance : PySem.W.nsIn K mainGlobals "isinstance" = some none)
    (z_len : PySem.W.nsIn K mainGlobals "len" = some none)
    (z_list : PySem.W.nsIn K mainGlobals "list" = some none)
    (z_max : PySem.W.nsIn K mainGlobals "max" = some none)
    (z_min : PySem.W.nsIn K mainGlobals "min" = some none)
    (z_range : PySem.W.nsIn K mainGlobals "range" = some none)
    (z_sorted : PySem.W.nsIn K mainGlobals "sorted" = some none)
    (z_sum : PySem.W.nsIn K mainGlobals "sum" = some none)
    (ea_Works : PySem.W.nsIn K mainGlobals "Works" = some (some (.ref C_Works)))
    (pg_Works : PySem.W.plainGet K C_Works Str.empty = true) (hd_Works : PySem.W.hasDictIn K C_Works = true) (po_Works : PySem.W.plainOver K C_Works = true) (sa_Works : PySem.W.findIn K (.ref C_Works) "__setattr__" = some (some (.builtin "object.__setattr__"))) (mk_Works : PySem.W.makesIn K C_Works = true) (kc_Works : PySem.W.keepIn K (.ref C_Works) = true)
    (hn_Works_parts : PySem.W.findIn K (.ref C_Works) "parts" = some none)
    (hn_Works_rows : PySem.W.findIn K (.ref C_Works) "rows" = some none) :
    ∃ fd : FuncData, (∀ (s : Shared) (v : Value), BindsTo s fd ⟨[v], []⟩ [("script", v)]) ∧ ∀ base : Heap, K.In base → base.Ns mainGlobals mg → FnOk l.prog w K mg base CX0 5 fa fd ["script"] (spLaw K) := by
  have e := hfa.symm.trans (PySem.W.mg_of X G a20)
  cases e
  let ce : Ce := fun n => if n = "Works" then C_Works else (fun n => if n = "BadWorks" then C_BadWorks else (fun _ => 0) n) n
  have x_BadWorks : ErrC K mg (ce "BadWorks") "BadWorks" := by
    rw [show ce "BadWorks" = C_BadWorks from by simp [ce]]
    exact ⟨PySem.W.mg_of X G ea_BadWorks, ex_BadWorks, ek_BadWorks, eb_BadWorks, et_BadWorks⟩
  have cls_Works : Cls K (ce "Works") := by
    rw [show ce "Works" = C_Works from by simp [ce]]
    exact ⟨pg_Works, hd_Works, po_Works, sa_Works⟩
  have mgc_Works : mg "Works" = some (.ref (ce "Works")) := by
    rw [show ce "Works" = C_Works from by simp [ce]]
    exact PySem.W.mg_of X G ea_Works
  have M_Works : Mk K (ce "Works") f9 := by
    rw [show ce "Works" = C_Works from by simp [ce]]
    exact ⟨mk_Works, a9, i9, kc_Works⟩
  have na_Works_parts : NoAttr K (ce "Works") "parts" := by
    rw [show ce "Works" = C_Works from by simp [ce]]
    exact hn_Works_parts
  have na_Works_rows : NoAttr K (ce "Works") "rows" := by
    rw [show ce "Works" = C_Works from by simp [ce]]
    exact hn_Works_rows
  have c_MOST_BIN := PySem.W.mg_of X G n_MOST_BIN
  have c_MOST_PARTS := PySem.W.mg_of X G n_MOST_PARTS
  have c_MOST_ROWS := PySem.W.mg_of X G n_MOST_ROWS
  have c_WIDEST := PySem.W.mg_of X G n_WIDEST
  have z_bool := PySem.W.mg_none_of X G z_bool
  have z_dict := PySem.W.mg_none_of X G z_dict
  have z_int := PySem.W.mg_none_of X G z_int
  have z_isinstance := PySem.W.mg_none_of X G z_isinstance
  have z_len := PySem.W.mg_none_of X G z_len
  have z_list := PySem.W.mg_none_of X G z_list
  have z_max := PySem.W.mg_none_of X G z_max
  have z_min := PySem.W.mg_none_of X G z_min
  have z_range := PySem.W.mg_none_of X G z_range
  have z_sorted := PySem.W.mg_none_of X G z_sorted
  have z_sum := PySem.W.mg_none_of X G z_sum
  have F0 := fun_mk (st := s_law_end) l0 c0 k0
  have b__law_end := F0.binds (ps := ["rows", "row", "size"]) fun _ _ _ _ _ _ us hl => match us, hl with | [_, _, _], _ => rfl
  have mg__law_end := PySem.W.mg_of X G a0
  have F1 := fun_mk (st := s_law_stuck) l1 c1 k1
  have b__law_stuck := F1.binds (ps := ["rows"]) fun _ _ _ _ _ _ us hl => match us, hl with | [_], _ => rfl
  have mg__law_stuck := PySem.W.mg_of X G a1
  have F2 := fun_mk (st := s_law_row) l2 c2 k2
  have b__law_row := F2.binds (ps := ["cell", "many", "most"]) fun _ _ _ _ _ _ us hl => match us, hl with | [_, _, _], _ => rfl
  have mg__law_row := PySem.W.mg_of X G a2
  have F3 := fun_mk (st := s_law_forward) l3 c3 k3
  have b__law_forward := F3.binds (ps := ["rows"]) fun _ _ _ _ _ _ us hl => match us, hl with | [_], _ => rfl
  have mg__law_forward := PySem.W.mg_of X G a3
  have F4 := fun_mk (st := s_law_cell) l4 c4 k4
  have b__law_cell := F4.binds (ps := ["script", "k"]) fun _ _ _ _ _ _ us hl => match us, hl with | [_, _], _ => rfl
  have mg__law_cell := PySem.W.mg_of X G a4
  have F5 := fun_mk (st := s_law_rows) l5 c5 k5
  have b__law_rows := F5.binds (ps := ["script", "at", "many", "most", "crushers"]) fun _ _ _ _ _ _ us hl => match us, hl with | [_, _, _, _, _], _ => rfl
  have mg__law_rows := PySem.W.mg_of X G a5
  have F6 := fun_mk (st := s_law_power) l6 c6 k6
  have b__law_power := F6.binds (ps := ["base", "many"]) fun _ _ _ _ _ _ us hl => match us, hl with | [_, _], _ => rfl
  have mg__law_power := PySem.W.mg_of X G a6
  have F7 := fun_mk (st := s_law_raised) l7 c7 k7
  have b__law_raised := F7.binds (ps := ["rows", "parts", "cell"]) fun _ _ _ _ _ _ us hl => match us, hl with | [_, _, _], _ => rfl
  have mg__law_raised := PySem.W.mg_of X G a7
  have F8 := fun_mk (st := s_good_row) l8 c8 k8
  have b_good_row := F8.binds (ps := ["row", "many"]) fun _ _ _ _ _ _ us hl => match us, hl with | [_, _], _ => rfl
  have mg_good_row := PySem.W.mg_of X G a8
  have F9 := fun_mk (st := s_Works) l9 c9 k9
  have b_Works := F9.binds (ps := ["self", "parts", "rows"]) fun _ _ _ _ _ _ us hl => match us, hl with | [_, _, _], _ => rfl
  have F10 := fun_mk (st := s_law_size) l10 c10 k10
  have b__law_size := F10.binds (ps := ["parts", "rows", "cell"]) fun _ _ _ _ _ _ us hl => match us, hl with | [_, _, _], _ => rfl
  have mg__law_size := PySem.W.mg_of X G a10
  have F11 := fun_mk (st := s_pieces_of) l11 c11 k11
  have b_pieces_of := F11.binds (ps := ["size", "parts"]) fun _ _ _ _ _ _ us hl => match us, hl with | [_, _], _ => rfl
  have mg_pieces_of := PySem.W.mg_of X G a11
  have F12 := fun_mk (st := s_goes_on) l12 c12 k12
  have b_goes_on := F12.binds (ps := ["works", "row", "size"]) fun _ _ _ _ _ _ us hl => match us, hl with | [_, _, _], _ => rfl
  have mg_goes_on := PySem.W.mg_of X G a12
  have F13 := fun_mk (st := s_own_weight) l13 c13 k13
  have b_own_weight := F13.binds (ps := ["works", "row", "size", "number"]) fun _ _ _ _ _ _ us hl => match us, hl with | [_, _, _, _], _ => rfl
  have mg_own_weight := PySem.W.mg_of X G a13
  have F14 := fun_mk (st := s_weight_in) l14 c14 k14
  have b_weight_in := F14.binds (ps := ["works", "row", "size", "number"]) fun _ _ _ _ _ _ us hl => match us, hl with | [_, _, _, _], _ => rfl
  have mg_weight_in := PySem.W.mg_of X G a14
  have F15 := fun_mk (st := s_weights_from) l15 c15 k15
  have b_weights_from := F15.binds (ps := ["works", "row", "size"]) fun _ _ _ _ _ _ us hl => match us, hl with | [_, _, _], _ => rfl
  have mg_weights_from := PySem.W.mg_of X G a15
  have F16 := fun_mk (st := s_law_whole) l16 c16 k16
  have b__law_whole := F16.binds (ps := ["found"]) fun _ _ _ _ _ _ us hl => match us, hl with | [_], _ => rfl
  have mg__law_whole := PySem.W.mg_of X G a16
  have F17 := fun_mk (st := s_law_sizes) l17 c17 k17
  have b__law_sizes := F17.binds (ps := ["parts", "size"]) fun _ _ _ _ _ _ us hl => match us, hl with | [_, _], _ => rfl
  have mg__law_sizes := PySem.W.mg_of X G a17
  have F18 := fun_mk (st := s_law_laid) l18 c18 k18
  have b__law_laid := F18.binds (ps := ["parts", "rows", "row", "size", "number", "table"]) fun _ _ _ _ _ _ us hl => match us, hl with | [_, _, _, _, _, _], _ => rfl
  have mg__law_laid := PySem.W.mg_of X G a18
  have F19 := fun_mk (st := s_law_far) l19 c19 k19
  have b__law_far := F19.binds (ps := ["parts", "rows", "size", "number"]) fun _ _ _ _ _ _ us hl => match us, hl with | [_, _, _, _], _ => rfl
  have mg__law_far := PySem.W.mg_of X G a19
  have F20 := fun_mk (st := s_law) l20 c20 k20
  refine ⟨PySem.W.fnOf "law" "law" (defArgs s_law) (defBody s_law) (defScope s_law) .none kV20 dc20 pm20 an20 cd20 ct20, fun s v => .of_eq rfl, fun base _ _ => ?_⟩
  have G__law_end := ok_law_end (P := l.prog) (w := w) (mg := mg) (base := base) (ce := ce) F0 z_int z_len z_range
  have G__law_stuck := ok_law_stuck (P := l.prog) (w := w) (mg := mg) (base := base) (ce := ce) F1 G__law_end mg__law_end k0 b__law_end z_len z_range
  have G__law_row := ok_law_row (P := l.prog) (w := w) (mg := mg) (base := base) (ce := ce) F2
  have G__law_forward := ok_law_forward (P := l.prog) (w := w) (mg := mg) (base := base) (ce := ce) F3 z_len z_range
  have G__law_cell := ok_law_cell (P := l.prog) (w := w) (mg := mg) (base := base) (ce := ce) F4 z_len
  have G__law_rows := ok_law_rows (P := l.prog) (w := w) (mg := mg) (base := base) (ce := ce) F5 G__law_cell mg__law_cell k4 b__law_cell G__law_forward mg__law_forward k3 b__law_forward G__law_row mg__law_row k2 b__law_row G__law_stuck mg__law_stuck k1 b__law_stuck z_len z_range
  have G__law_power := ok_law_power (P := l.prog) (w := w) (mg := mg) (base := base) (ce := ce) F6 z_range
  have G__law_raised := ok_law_raised (P := l.prog) (w := w) (mg := mg) (base := base) (ce := ce) F7 G__law_power mg__law_power k6 b__law_power G__law_stuck mg__law_stuck k1 b__law_stuck
  have G_good_row := ok_good_row (P := l.prog) (w := w) (mg := mg) (base := base) (ce := ce) F8 c_MOST_BIN c_WIDEST z_len
  have G_Works := ok_Works (P := l.prog) (w := w) (mg := mg) (base := base) (ce := ce) F9 cls_Works c_MOST_PARTS c_MOST_ROWS x_BadWorks G_good_row mg_good_row k8 b_good_row na_Works_parts na_Works_rows z_len z_list
  have G__law_size := ok_law_size (P := l.prog) (w := w) (mg := mg) (base := base) (ce := ce) F10 G__law_power mg__law_power k6 b__law_power z_len z_max z_min
  have G_pieces_of := ok_pieces_of (P := l.prog) (w := w) (mg := mg) (base := base) (ce := ce) F11
  have G_goes_on := ok_goes_on (P := l.prog) (w := w) (mg := mg) (base := base) (ce := ce) F12 G_pieces_of mg_pieces_of k11 b_pieces_of
  have G_own_weight := ok_own_weight (P := l.prog) (w := w) (mg := mg) (base := base) (ce := ce) F13
  have G_weight_in := ok_weight_in (P := l.prog) (w := w) (mg := mg) (base := base) (ce := ce) F14 G_goes_on mg_goes_on k12 b_goes_on G_own_weight mg_own_weight k13 b_own_weight z_len
  have G_weights_from := ok_weights_from (P := l.prog) (w := w) (mg := mg) (base := base) (ce := ce) F15 G_weight_in mg_weight_in k14 b_weight_in z_range
  have G__law_whole := ok_law_whole (P := l.prog) (w := w) (mg := mg) (base := base) (ce := ce) F16 z_bool z_int z_isinstance
  have G__law_sizes := ok_law_sizes (P := l.prog) (w := w) (mg := mg) (base := base) (ce := ce) F17 z_dict z_int z_list z_sorted
  have G__law_laid := ok_law_laid (P := l.prog) (w := w) (mg := mg) (base := base) (ce := ce) F18 G__law_end mg__law_end k0 b__law_end z_int
  have G__law_far := ok_law_far (P := l.prog) (w := w) (mg := mg) (base := base) (ce := ce) F19 G__law_laid mg__law_laid k18 b__law_laid G__law_sizes mg__law_sizes k17 b__law_sizes z_len z_range
  exact law_of (ok_law (mg := mg) (ce := ce) F20 G__law_cell mg__law_cell k4 b__law_cell G__law_far mg__law_far k19 b__law_far G__law_raised mg__law_raised k7 b__law_raised G__law_rows mg__law_rows k5 b__law_rows G__law_size mg__law_size k10 b__law_size G__law_whole mg__law_whole k16 b__law_whole G_weight_in mg_weight_in k14 b_weight_in G_weights_from mg_weights_from k15 b_weights_from M_Works G_Works mgc_Works b_Works z_isinstance z_len z_list z_max z_min z_range z_sum)
end Kx
open PySem PySem.W PyProof.Rows L2 Mw
set_option maxRecDepth 100000 in
set_option maxHeartbeats 0 in
theorem PySem.Challenge.cw_meshworks_k42_whole_far_sizes_holds : PySem.Challenge.rw_meshworks_k42_whole_far_sizes.Holds := by
  w_on; o_law; k_head; (case hw => w_witness2)
  k_fill
  refine L2.walk_of (l := PySem.Challenge.rw_meshworks_k42_whole_far_sizes) (n := 63) (k := 5) (x := "script") (CX := fun _ => L2.CX0) (sp := fun w => Kx.spLaw _) rfl (by decide) rfl ⟨rfl, by decide, by decide⟩ (fun w h Y => PySem.W.kIn_of Y) ?F (fun _ _ a ns hl _ hS => ⟨a, ns, rfl, hS, hl, fun _ => rfl⟩) (fun _ _ _ _ _ h => h)
  case F =>
    intro w mg fa h KX G hmg
    refine' Kx.all_mk KX G hmg ?a0 ?l0 ?c0 ?k0 ?a1 ?l1 ?c1 ?k1 ?a2 ?l2 ?c2 ?k2 ?a3 ?l3 ?c3 ?k3 ?a4 ?l4 ?c4 ?k4 ?a5 ?l5 ?c5 ?k5 ?a6 ?l6 ?c6 ?k6 ?a7 ?l7 ?c7 ?k7 ?a8 ?l8 ?c8 ?k8 ?a9 ?i9 ?l9 ?c9 ?k9 ?a10 ?l10 ?c10 ?k10 ?a11 ?l11 ?c11 ?k11 ?a12 ?l12 ?c12 ?k12 ?a13 ?l13 ?c13 ?k13 ?a14 ?l14 ?c14 ?k14 ?a15 ?l15 ?c15 ?k15 ?a16 ?l16 ?c16 ?k16 ?a17 ?l17 ?c17 ?k17 ?a18 ?l18 ?c18 ?k18 ?a19 ?l19 ?c19 ?k19 ?a20 ?l20 ?c20 ?k20 ?ea_BadWorks ?ex_BadWorks ?ek_BadWorks ?eb_BadWorks ?et_BadWorks ?n_MOST_BIN ?n_MOST_PARTS ?n_MOST_ROWS ?n_WIDEST ?z_bool ?z_dict ?z_int ?z_isinstance ?z_len ?z_list ?z_max ?z_min ?z_range ?z_sorted ?z_sum ?ea_Works ?pg_Works ?hd_Works ?po_Works ?sa_Works ?mk_Works ?kc_Works ?hn_Works_parts ?hn_Works_rows
    (case ea_BadWorks => k_is)
    (case ea_Works => k_is)
    (case a0 => k_is)
    (case l0 => k_is)
    (case c0 => k_is)
    (case k0 => k_is)
    (case a1 => k_is)
    (case l1 => k_is)
    (case c1 => k_is)
    (case k1 => k_is)
    (case a2 => k_is)
    (case l2 => k_is)
    (case c2 => k_is)
    (case k2 => k_is)
    (case a3 => k_is)
    (case l3 => k_is)
    (case c3 => k_is)
    (case k3 => k_is)
    (case a4 => k_is)
    (case l4 => k_is)
    (case c4 => k_is)
    (case k4 => k_is)
    (case a5 => k_is)
    (case l5 => k_is)
    (case c5 => k_is)
    (case k5 => k_is)
    (case a6 => k_is)
    (case l6 => k_is)
    (case c6 => k_is)
    (case k6 => k_is)
    (case a7 => k_is)
    (case l7 => k_is)
    (case c7 => k_is)
    (case k7 => k_is)
    (case a8 => k_is)
    (case l8 => k_is)
    (case c8 => k_is)
    (case k8 => k_is)
    (case a9 => k_is)
    (case i9 => k_is)
    (case l9 => k_is)
    (case c9 => k_is)
    (case k9 => k_is)
    (case a10 => k_is)
    (case l10 => k_is)
    (case c10 => k_is)
    (case k10 => k_is)
    (case a11 => k_is)
    (case l11 => k_is)
    (case c11 => k_is)
    (case k11 => k_is)
    (case a12 => k_is)
    (case l12 => k_is)
    (case c12 => k_is)
    (case k12 => k_is)
    (case a13 => k_is)
    (case l13 => k_is)
    (case c13 => k_is)
    (case k13 => k_is)
    (case a14 => k_is)
    (case l14 => k_is)
    (case c14 => k_is)
    (case k14 => k_is)
    (case a15 => k_is)
    (case l15 => k_is)
    (case c15 => k_is)
    (case k15 => k_is)
    (case a16 => k_is)
    (case l16 => k_is)
    (case c16 => k_is)
    (case k16 => k_is)
    (case a17 => k_is)
    (case l17 => k_is)
    (case c17 => k_is)
    (case k17 => k_is)
    (case a18 => k_is)
    (case l18 => k_is)
    (case c18 => k_is)
    (case k18 => k_is)
    (case a19 => k_is)
    (case l19 => k_is)
    (case c19 => k_is)
    (case k19 => k_is)
    (case a20 => k_is)
    (case l20 => k_is)
    (case c20 => k_is)
    (case k20 => k_is)
    (case ex_BadWorks => k_exc)
    (case ek_BadWorks => k_is)
    (case eb_BadWorks => k_is)
    (case et_BadWorks => k_is)
    (case n_MOST_BIN => k_is)
    (case n_MOST_PARTS => k_is)
    (case n_MOST_ROWS => k_is)
    (case n_WIDEST => k_is)
    (case z_bool => k_is)
    (case z_dict => k_is)
    (case z_int => k_is)
    (case z_isinstance => k_is)
    (case z_len => k_is)
    (case z_list => k_is)
    (case z_max => k_is)
    (case z_min => k_is)
    (case z_range => k_is)
    (case z_sorted => k_is)
    (case z_sum => k_is)
    (case pg_Works => k_is)
    (case hd_Works => k_is)
    (case po_Works => k_is)
    (case sa_Works => k_is)
    (case mk_Works => k_is)
    (case kc_Works => k_is)
    (case hn_Works_parts => k_is)
    (case hn_Works_rows => k_is)
