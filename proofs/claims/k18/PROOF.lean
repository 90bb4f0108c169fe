import PyProof.Rows.All
import Wide.All
import OpenK.AllK
import Wide.FinOn
import HandS.ForMost
import HandS.Wide
import HandS.IsInst
import HandS.Defaults
import HandS.SortInts
import HandS.Zip
import HandS.Conv
import HandS.Rev
import HandS.Walk
import HandS.Evl
import KE.GoesMore
import PyProof.Draws
import PyProof.EnumMake
import HandS.Head0
import HandS.Head1
import HandS.Head2
import HandS.HeadEnd
import HandS.HeadHook1
import HandS.HeadHook2
import PySem.Challenge.RW_lastingshares_k18_either_pushes_tell_one
set_option Elab.async false
set_option linter.all false
set_option maxRecDepth 100000
set_option maxHeartbeats 4000000
/-! Lw1: worlds (base, heap), relations of values to data, what an expression comes to. -/
namespace LW
open PySem L2

theorem bindS {α β : Type} {m : Option α} {f : α → Option β} {r : β} (h : m.bind f = some r) : ∃ x, m = some x ∧ f x = some r := by
  cases m with
  | none => cases h
  | some x => exact ⟨x, rfl, h⟩
theorem iteS {α : Type} {c : Prop} [Decidable c] {a b : Option α} {r : α} (h : (if c then a else b) = some r) : (c ∧ a = some r) ∨ (¬ c ∧ b = some r) := by
  by_cases q : c
  · rw [if_pos q] at h; exact .inl ⟨q, h⟩
  · rw [if_neg q] at h; exact .inr ⟨q, h⟩

abbrev NP := Addr → Prop
def N0 : NP := fun _ => False
def Ex (H H' : Hp) : Prop := ∀ a o, H a = some o → H' a = some o
theorem Ex.refl (H : Hp) : Ex H H := fun _ _ h => h
theorem Ex.trans {H H1 H2 : Hp} (a : Ex H H1) (b : Ex H1 H2) : Ex H H2 := fun x o h => b x o (a x o h)
theorem Ex.none {H H' : Hp} (e : Ex H H') {p : Addr} (h : H' p = none) : H p = none := by
  cases h1 : H p with
  | none => rfl
  | some o => rw [e p o h1] at h; cases h
theorem Ex.new {H : Hp} {p : Addr} {o : HO} (h : H p = Option.none) : Ex H (upd H p o) := fun a u e => by
  rw [upd_ne (ne_of_none e h)]; exact e
theorem Ex.upd2 {B H : Hp} (e : Ex B H) (p : Addr) (o : HO) : Ex (upd B p o) (upd H p o) := fun a u h => by
  by_cases q : a = p
  · subst q; rw [upd_same] at h ⊢; exact h
  · rw [upd_ne q] at h ⊢; exact e a u h
theorem Ex.mut {B H : Hp} (e : Ex B H) {p : Addr} {o : HO} (h : B p = Option.none) : Ex B (upd H p o) := fun a u ha => by
  rw [upd_ne (ne_of_none ha h)]; exact e a u ha
theorem ex_rd {H H' : Hp} {a : Addr} {u : HO} (e : Ex H H') (h : Rd H a u) : Rd H' a u := by
  rcases h with h | ⟨o, h⟩
  · exact .inl (e a _ h)
  · exact .inr ⟨o, e a _ h⟩
theorem ex_l {K : PySem.W.Frag} {H H' : Hp} {a : Addr} {xs : List V} (e : Ex H H') (h : SqL K H a xs) : SqL K H' a xs := by
  rcases h with h | h
  · exact .inl (ex_rd e h)
  · exact .inr h
theorem ex_t {K : PySem.W.Frag} {H H' : Hp} {a : Addr} {xs : List V} (e : Ex H H') (h : SqT K H a xs) : SqT K H' a xs := by
  rcases h with h | h
  · exact .inl (ex_rd e h)
  · exact .inr h

/-- from the world (B, H) to (B', H'): the base grows, all that stands stays but what N names, nothing that stood outside the base comes into it -/
structure Ext (N : NP) (B H B' H' : Hp) : Prop where
  b : Ex B B'
  h : ∀ a o, ¬ N a → H a = some o → H' a = some o
  bh : Ex B' H'
  fr : ∀ a o, H a = some o → B a = none → B' a = none
  th : ∀ a o, H a = some o → ∃ o', H' a = some o'
theorem Ext.refl {N : NP} {B H : Hp} (e : Ex B H) : Ext N B H B H := ⟨.refl _, fun _ _ _ h => h, e, fun _ _ _ h => h, fun _ o h => ⟨o, h⟩⟩
theorem Ext.trans {N : NP} {B H B1 H1 B2 H2 : Hp} (x : Ext N B H B1 H1) (y : Ext N B1 H1 B2 H2) : Ext N B H B2 H2 :=
  ⟨x.b.trans y.b, fun a o n h => y.h a o n (x.h a o n h), y.bh, fun a o h n => let ⟨o', h'⟩ := x.th a o h; y.fr a o' h' (x.fr a o h n), fun a o h => let ⟨o', h'⟩ := x.th a o h; y.th a o' h'⟩
theorem Ext.up {N : NP} {B H B1 H1 : Hp} (x : Ext N0 B H B1 H1) : Ext N B H B1 H1 := ⟨x.b, fun a o _ h => x.h a o (fun z => z) h, x.bh, x.fr, x.th⟩
theorem Ext.ex {B H B1 H1 : Hp} (x : Ext N0 B H B1 H1) : Ex H H1 := fun a o h => x.h a o (fun z => z) h
theorem Ext.new_none {N : NP} {B H B1 H1 : Hp} (x : Ext N B H B1 H1) {p : Addr} (h : H1 p = none) : H p = none := by
  cases q : H p with
  | none => rfl
  | some o => obtain ⟨o', e⟩ := x.th p o q; rw [e] at h; cases h
/-- a new object into the base -/
theorem Ext.newB {N : NP} {B H : Hp} (e : Ex B H) {p : Addr} {o : HO} (h : H p = none) : Ext N B H (upd B p o) (upd H p o) :=
  ⟨Ex.new (e.none h), fun a u _ q => Ex.new h a u q, e.upd2 p o, fun a u q n => by rw [upd_ne (ne_of_none q h)]; exact n, fun a u q => ⟨u, Ex.new h a u q⟩⟩
/-- a new object outside the base -/
theorem Ext.newH {N : NP} {B H : Hp} (e : Ex B H) {p : Addr} {o : HO} (h : H p = none) : Ext N B H B (upd H p o) :=
  ⟨.refl _, fun a u _ q => Ex.new h a u q, e.mut (e.none h), fun a u q n => n, fun a u q => ⟨u, Ex.new h a u q⟩⟩
/-- an object outside the base, new since (B0, H0), comes into the base -/
theorem Ext.freeze {N : NP} {B0 H0 B H : Hp} (x : Ext N B0 H0 B H) {p : Addr} {o : HO} (h0 : H0 p = none) (hb : B p = none) (hh : H p = some o) : Ext N B0 H0 (upd B p o) H :=
  ⟨x.b.trans (Ex.new hb), x.h, fun a u q => by
    by_cases e : a = p
    · subst e; rw [upd_same] at q; cases q; exact hh
    · rw [upd_ne e] at q; exact x.bh a u q, fun a u q n => by rw [upd_ne (ne_of_none q h0)]; exact x.fr a u q n, x.th⟩
/-- an object outside the base, new since (B0, H0), is written -/
theorem Ext.write {N : NP} {B0 H0 B H : Hp} (x : Ext N B0 H0 B H) {p : Addr} {o : HO} (h0 : H0 p = none) (hb : B p = none) : Ext N B0 H0 B (upd H p o) :=
  ⟨x.b, fun a u n q => by rw [upd_ne (ne_of_none q h0)]; exact x.h a u n q, x.bh.mut hb, x.fr, fun a u q => by
    rw [upd_ne (ne_of_none q h0)]; exact x.th a u q⟩

/-! ### relations -/
structure Rel (α : Type) where
  r : Hp → V → α → Prop
  mono : ∀ {B B' : Hp} {v : V} {a : α}, Ex B B' → r B v a → r B' v a
abbrev PairedR {α : Type} (R : Rel α) (B : Hp) (vs : List V) (xs : List α) : Prop := Paired (R.r B) vs xs
theorem Pr.mono {α : Type} {R : Rel α} {B B' : Hp} (e : Ex B B') : ∀ {vs : List V} {xs : List α}, Paired (R.r B) vs xs → Paired (R.r B') vs xs
  | _, _, .nil => .nil
  | _, _, .cons h t => .cons (R.mono e h) (Pr.mono e t)
theorem Pr.length {α β : Type} {F : α → β → Prop} : ∀ {vs : List α} {xs : List β}, Paired F vs xs → vs.length = xs.length
  | _, _, .nil => rfl
  | _, _, .cons _ t => by simp [Pr.length t]
theorem Pr.get {α β : Type} {F : α → β → Prop} : ∀ {vs : List α} {xs : List β} {i : Nat} {x : β}, Paired F vs xs → xs[i]? = some x → ∃ v, vs[i]? = some v ∧ F v x
  | _, _, i, _, .nil, h => by simp at h
  | _, _, 0, _, .cons h t, e => by simp at e; subst e; exact ⟨_, rfl, h⟩
  | _, _, i + 1, x, .cons h t, e => by
    obtain ⟨v, h1, h2⟩ := Pr.get (i := i) (x := x) t (by simpa using e)
    exact ⟨v, by simpa using h1, h2⟩
theorem Pr.getV {α β : Type} {F : α → β → Prop} : ∀ {vs : List α} {xs : List β} {i : Nat} {v : α}, Paired F vs xs → vs[i]? = some v → ∃ x, xs[i]? = some x ∧ F v x
  | _, _, i, _, .nil, h => by simp at h
  | _, _, 0, _, .cons h t, e => by simp at e; subst e; exact ⟨_, rfl, h⟩
  | _, _, i + 1, x, .cons h t, e => by
    obtain ⟨v, h1, h2⟩ := Pr.getV (i := i) (v := x) t (by simpa using e)
    exact ⟨v, by simpa using h1, h2⟩
theorem Pr.app {α β : Type} {F : α → β → Prop} : ∀ {vs ws : List α} {xs ys : List β}, Paired F vs xs → Paired F ws ys → Paired F (vs ++ ws) (xs ++ ys)
  | _, _, _, _, .nil, s => s
  | _, _, _, _, .cons h t, s => .cons h (Pr.app t s)
theorem Pr.take {α β : Type} {F : α → β → Prop} : ∀ {vs : List α} {xs : List β} (n : Nat), Paired F vs xs → Paired F (vs.take n) (xs.take n)
  | _, _, 0, _ => .nil
  | _, _, _ + 1, .nil => .nil
  | _, _, n + 1, .cons h t => .cons h (Pr.take n t)
theorem Pr.drop {α β : Type} {F : α → β → Prop} : ∀ {vs : List α} {xs : List β} (n : Nat), Paired F vs xs → Paired F (vs.drop n) (xs.drop n)
  | _, _, 0, h => h
  | _, _, _ + 1, .nil => .nil
  | _, _, n + 1, .cons h t => Pr.drop n t
theorem Pr.set {α β : Type} {F : α → β → Prop} {v : α} {x : β} (h : F v x) : ∀ {vs : List α} {xs : List β} (i : Nat), Paired F vs xs → Paired F (vs.set i v) (xs.set i x)
  | _, _, _, .nil => .nil
  | _, _, 0, .cons _ t => .cons h t
  | _, _, i + 1, .cons q t => .cons q (Pr.set h i t)
theorem Pr.rev {α β : Type} {F : α → β → Prop} {vs : List α} {xs : List β} (h : Paired F vs xs) : Paired F vs.reverse xs.reverse := by
  induction h with
  | nil => exact .nil
  | cons h t ih => rw [List.reverse_cons, List.reverse_cons]; exact Pr.app ih (.cons h .nil)
theorem Pr.imp {α β : Type} {F G : α → β → Prop} (k : ∀ a b, F a b → G a b) : ∀ {vs : List α} {xs : List β}, Paired F vs xs → Paired G vs xs
  | _, _, .nil => .nil
  | _, _, .cons h t => .cons (k _ _ h) (Pr.imp k t)
theorem Pr.impM {α β : Type} {F G : α → β → Prop} : ∀ {vs : List α} {xs : List β}, (∀ a b, a ∈ vs → F a b → G a b) → Paired F vs xs → Paired G vs xs
  | _, _, _, .nil => .nil
  | _, _, k, .cons h t => .cons (k _ _ List.mem_cons_self h) (Pr.impM (fun a b m => k a b (List.mem_cons_of_mem _ m)) t)
theorem Pr.rep {α β : Type} {F : α → β → Prop} {v : α} {x : β} (h : F v x) : ∀ n : Nat, Paired F (List.replicate n v) (List.replicate n x)
  | 0 => .nil
  | n + 1 => .cons h (Pr.rep h n)
theorem Pr.snoc {α β : Type} {F : α → β → Prop} {vs : List α} {xs : List β} {v : α} {x : β} (h : Paired F vs xs) (q : F v x) : Paired F (vs ++ [v]) (xs ++ [x]) := Pr.app h (.cons q .nil)
theorem Pr.map {α β : Type} {f : β → α} : ∀ (xs : List β), Paired (fun v x => v = f x) (xs.map f) xs
  | [] => .nil
  | _ :: t => .cons rfl (Pr.map t)
theorem Pr.eqmap {α β : Type} {f : β → α} : ∀ {vs : List α} {xs : List β}, Paired (fun v x => v = f x) vs xs → vs = xs.map f
  | _, _, .nil => rfl
  | _, _, .cons h t => by rw [h, Pr.eqmap t]; rfl

def qI : Rel Int := ⟨fun _ v i => v = .int i, fun _ h => h⟩
def qB : Rel Bool := ⟨fun _ v b => v = .bl b, fun _ h => h⟩
def qS : Rel Str := ⟨fun _ v s => v = .str s, fun _ h => h⟩
def qU : Rel Unit := ⟨fun _ v _ => v = .non, fun _ h => h⟩
def qL {α : Type} (R : Rel α) : Rel (List α) := ⟨fun B v xs => ∃ p vs, v = .ref p ∧ B p = some (.lst vs) ∧ Paired (R.r B) vs xs, fun e ⟨p, vs, h1, h2, h3⟩ => ⟨p, vs, h1, e p _ h2, Pr.mono e h3⟩⟩
section
variable (K : PySem.W.Frag)
/-- a list known anyhow (the script's) -/
def qF {α : Type} (R : Rel α) : Rel (List α) := ⟨fun B v xs => ∃ p vs, v = .ref p ∧ SqL K B p vs ∧ Paired (R.r B) vs xs, fun e ⟨p, vs, h1, h2, h3⟩ => ⟨p, vs, h1, ex_l e h2, Pr.mono e h3⟩⟩
def qT {α : Type} (R : Rel α) : Rel (List α) := ⟨fun B v xs => ∃ p vs, v = .ref p ∧ SqT K B p vs ∧ Paired (R.r B) vs xs, fun e ⟨p, vs, h1, h2, h3⟩ => ⟨p, vs, h1, ex_t e h2, Pr.mono e h3⟩⟩
def qP {α β : Type} (R : Rel α) (S : Rel β) : Rel (α × β) := ⟨fun B v x => ∃ p v1 v2, v = .ref p ∧ SqT K B p [v1, v2] ∧ R.r B v1 x.1 ∧ S.r B v2 x.2, fun e ⟨p, v1, v2, h1, h2, h3, h4⟩ => ⟨p, v1, v2, h1, ex_t e h2, R.mono e h3, S.mono e h4⟩⟩
def qP3 {α β γ : Type} (R : Rel α) (S : Rel β) (T : Rel γ) : Rel (α × β × γ) := ⟨fun B v x => ∃ p v1 v2 v3, v = .ref p ∧ SqT K B p [v1, v2, v3] ∧ R.r B v1 x.1 ∧ S.r B v2 x.2.1 ∧ T.r B v3 x.2.2,
  fun e ⟨p, v1, v2, v3, h1, h2, h3, h4, h5⟩ => ⟨p, v1, v2, v3, h1, ex_t e h2, R.mono e h3, S.mono e h4, T.mono e h5⟩⟩
end
/-- a table: its rows, its size, its arrows -/
structure Tab where
  rows : List (List Int)
  size : Int
  arrows : List (List Int)
  deriving DecidableEq
def tabF (r s a : V) : List (Str × V) := [("rows", r), ("size", s), ("_arrows", a)]
def qTab (K : PySem.W.Frag) (C : Addr) : Rel Tab := ⟨fun B v t => ∃ p dx r a, v = .ref p ∧ B p = some (.ins C dx (tabF r (.int t.size) a)) ∧ (qT K (qT K qI)).r B r t.rows ∧ (qT K (qT K qI)).r B a t.arrows,
  fun e ⟨p, dx, r, a, h1, h2, h3, h4⟩ => ⟨p, dx, r, a, h1, e p _ h2, (qT K (qT K qI)).mono e h3, (qT K (qT K qI)).mono e h4⟩⟩

/-! ### what is left behind -/
abbrev CP := Hp → Hp → Prop
abbrev Post (α : Type) := NP → CP → Hp → Hp → α → VK → Prop
def pI {α : Type} (R : Rel α) : Post α := fun N C B H d Q => ∀ v B' H', Ext N B H B' H' → C B' H' → R.r B' v d → Q v H'
/-- a new list, outside the base -/
def pL {α : Type} (R : Rel α) : Post (List α) := fun N C B H d Q => ∀ l vs B' H', Ext N B H B' H' → C B' H' → H l = none → B' l = none → H' l = some (.lst vs) → Paired (R.r B') vs d → Q (.ref l) H'
/-- a list that may be read -/
def pW {α : Type} (R : Rel α) : Post (List α) := fun N C B H d Q => ∀ l vs B' H', Ext N B H B' H' → C B' H' → ¬ N l → H' l = some (.lst vs) → Paired (R.r B') vs d → Q (.ref l) H'
/-- rows outside the base: a new grid -/
def Rows (H B' H' : Hp) (rs : List Addr) (gs : List (List Int)) : Prop := Paired (fun r g => H r = none ∧ B' r = none ∧ H' r = some (.lst (g.map V.int))) rs gs ∧ rs.Nodup
def pG : Post (List (List Int)) := fun N C B H d Q => ∀ l rs B' H', Ext N B H B' H' → C B' H' → H l = none → B' l = none → H' l = some (.lst (rs.map V.ref)) → Rows H B' H' rs d → l ∉ rs → Q (.ref l) H'

/-! ### the cell: the list of draws -/
structure Cell (δ : Type) where
  N : NP
  at_ : δ → Hp → Hp → Prop
  out : ∀ {s B H a}, at_ s B H → N a → B a = none ∧ ∃ o, H a = some o
  ext : ∀ {s B H B' H'}, at_ s B H → Ext N0 B H B' H' → at_ s B' H'
  wr : ∀ {s B H p o}, at_ s B H → ¬ N p → at_ s B (upd H p o)
  fz : ∀ {s B H p o}, at_ s B H → ¬ N p → at_ s (upd B p o) H
  cut : ∀ {s B B' H}, at_ s B H → Ex B' B → at_ s B' H
def c0 : Cell Unit := ⟨N0, fun _ _ _ => True, fun _ h => h.elim, fun _ _ => trivial, fun _ _ => trivial, fun _ _ => trivial, fun _ _ => trivial⟩
def cD (l : Addr) : Cell (List Int) where
  N := fun a => a = l
  at_ := fun ds B H => B l = none ∧ H l = some (.lst (ds.map V.int))
  out := fun ⟨h1, h2⟩ e => by subst e; exact ⟨h1, _, h2⟩
  ext := fun ⟨h1, h2⟩ x => ⟨x.fr _ _ h2 h1, x.ex _ _ h2⟩
  wr := fun ⟨h1, h2⟩ n => ⟨h1, by rw [upd_ne (fun e => n e.symm)]; exact h2⟩
  fz := fun ⟨h1, h2⟩ n => ⟨by rw [upd_ne (fun e => n e.symm)]; exact h1, h2⟩
  cut := fun ⟨h1, h2⟩ e => ⟨e.none h1, h2⟩

section
variable {δ : Type}
/-- what an expression comes to: from the cell's state s to s', handing on d in the way p -/
def Ev {α : Type} (Z : Cell δ) (p : Post α) (te : TE) (σ : L2.St) (B H : Hp) (s : δ) (d : α) (s' : δ) : Prop :=
  ∀ B1 H1, Ext Z.N B H B1 H1 → Z.at_ s B1 H1 → ∀ Q : VK, p Z.N (Z.at_ s') B1 H1 d Q → te σ H1 Q
def EvT (Z : Cell δ) (tt : TT) (σ : L2.St) (B H : Hp) (s : δ) (b : Bool) (s' : δ) : Prop :=
  ∀ B1 H1, Ext Z.N B H B1 H1 → Z.at_ s B1 H1 → ∀ Q : Bool → Hp → Prop, (∀ B2 H2, Ext Z.N B1 H1 B2 H2 → Z.at_ s' B2 H2 → Q b H2) → tt σ H1 Q
/-- arguments: A tells what the values are -/
abbrev AR (α : Type) := Hp → List V → α → Prop
def EvA {α : Type} (Z : Cell δ) (A : AR α) (ta : TA) (σ : L2.St) (B H : Hp) (s : δ) (d : α) (s' : δ) : Prop :=
  ∀ B1 H1, Ext Z.N B H B1 H1 → Z.at_ s B1 H1 → ∀ Q : List V → Hp → Prop, (∀ vs B2 H2, Ext Z.N B1 H1 B2 H2 → Z.at_ s' B2 H2 → A B2 vs d → Q vs H2) → ta σ H1 Q
def aNil : AR Unit := fun _ vs _ => vs = []
def aCons {α β : Type} (R : Rel α) (A : AR β) : AR (α × β) := fun B vs d => ∃ v r, vs = v :: r ∧ R.r B v d.1 ∧ A B r d.2

variable {α β γ : Type} {Z : Cell δ} {σ : L2.St} {B H B' H' : Hp} {s s1 s2 s3 : δ} {ta tb te tc : TE} {t u : TT} {K : PySem.W.Frag} {R : Rel α} {S : Rel β} {T : Rel γ}
theorem Ev.mono {p : Post α} {d : α} (x : Ext Z.N B H B' H') (h : Ev Z p te σ B H s d s1) : Ev Z p te σ B' H' s d s1 := fun B1 H1 y c Q q => h B1 H1 (x.trans y) c Q q
theorem EvT.mono {b : Bool} (x : Ext Z.N B H B' H') (h : EvT Z t σ B H s b s1) : EvT Z t σ B' H' s b s1 := fun B1 H1 y c Q q => h B1 H1 (x.trans y) c Q q
theorem Ev.is {p : Post α} {d d' : α} (h : Ev Z p te σ B H s d s1) (e : d = d') : Ev Z p te σ B H s d' s1 := e ▸ h
theorem EvT.is {b b' : Bool} (h : EvT Z t σ B H s b s1) (e : b = b') : EvT Z t σ B H s b' s1 := e ▸ h
/-- from (B, H) itself -/
theorem Ev.run {p : Post α} {d : α} (h : Ev Z p te σ B H s d s1) (e : Ex B H) (c : Z.at_ s B H) {Q : VK} (q : p Z.N (Z.at_ s1) B H d Q) : te σ H Q := h B H (.refl e) c Q q
theorem EvT.run {b : Bool} (h : EvT Z t σ B H s b s1) (e : Ex B H) (c : Z.at_ s B H) {Q : Bool → Hp → Prop} (q : ∀ B2 H2, Ext Z.N B H B2 H2 → Z.at_ s1 B2 H2 → Q b H2) : t σ H Q := h B H (.refl e) c Q q

/-! ### values that ask nothing of the heap -/
theorem ev_v {d : α} {v : V} {i : Nat} (h : R.r B v d) (hi : σ[i]? = some (some v)) : Ev Z (pI R) (tVar i) σ B H s d s := fun B1 H1 x c Q q =>
  ⟨v, hi, q v B1 H1 (.refl x.bh) c (R.mono x.b h)⟩
theorem ev_c {d : α} {v : V} (h : ∀ B, R.r B v d) : Ev Z (pI R) (tC v) σ B H s d s := fun B1 H1 x c Q q => q v B1 H1 (.refl x.bh) c (h B1)
theorem ev_int {i : Int} : Ev Z (pI qI) (tC (.int i)) σ B H s i s := ev_c fun _ => rfl
theorem ev_bl {i : Bool} : Ev Z (pI qB) (tC (.bl i)) σ B H s i s := ev_c fun _ => rfl
theorem ev_str {i : Str} : Ev Z (pI qS) (tC (.str i)) σ B H s i s := ev_c fun _ => rfl
theorem ev_non : Ev Z (pI qU) (tC .non) σ B H s () s := ev_c fun _ => rfl

/-- a two-place operation on values: from any world that knows both operands -/
def OpV {α β γ : Type} (N : NP) (r : R2) (R : Rel α) (S : Rel β) (p : Post γ) (a : α) (b : β) (d : γ) : Prop :=
  ∀ (C : CP) (B H : Hp) (va vb : V) (Q : VK), Ex B H → C B H → (∀ B' H', C B H → Ext N0 B H B' H' → C B' H') → R.r B va a → S.r B vb b → p N C B H d Q → r va vb H Q
theorem ev_op {r : R2} {p : Post γ} {a : α} {b : β} {d : γ} (ha : Ev Z (pI R) ta σ B H s a s1) (hb : Ev Z (pI S) tb σ B H s1 b s2) (hr : OpV Z.N r R S p a b d)
    (hp : ∀ {C B H B' H' d Q}, Ext Z.N B H B' H' → p Z.N C B H d Q → p Z.N C B' H' d Q) : Ev Z p (tOp r ta tb) σ B H s d s2 := fun B1 H1 x c Q q =>
  ha B1 H1 x c _ fun va B2 H2 x2 c2 r2 => hb B2 H2 (x.trans x2) c2 _ fun vb B3 H3 x3 c3 r3 =>
    hr (Z.at_ s2) B3 H3 va vb Q x3.bh c3 (fun _ _ c x => Z.ext c x) (R.mono x3.b r2) r3 (hp (x2.trans x3) q)
theorem pI.up {N : NP} {C : CP} {d : α} {Q : VK} (x : Ext N B H B' H') (q : pI R N C B H d Q) : pI R N C B' H' d Q := fun v B2 H2 y c r => q v B2 H2 (x.trans y) c r
theorem pL.up {N : NP} {C : CP} {d : List α} {Q : VK} (x : Ext N B H B' H') (q : pL R N C B H d Q) : pL R N C B' H' d Q := fun l vs B2 H2 y c n b h r => q l vs B2 H2 (x.trans y) c (x.new_none n) b h r
theorem pW.up {N : NP} {C : CP} {d : List α} {Q : VK} (x : Ext N B H B' H') (q : pW R N C B H d Q) : pW R N C B' H' d Q := fun l vs B2 H2 y c n h r => q l vs B2 H2 (x.trans y) c n h r
theorem pI.here {N : NP} {C : CP} {d : α} {Q : VK} {v : V} (q : pI R N C B H d Q) (e : Ex B H) (c : C B H) (r : R.r B v d) : Q v H := q v B H (.refl e) c r
end
end LW
set_option Elab.async false
set_option linter.all false
set_option maxRecDepth 100000
set_option maxHeartbeats 4000000
/-! Lw2: expressions. -/
namespace LW
open PySem L2
section
variable {δ : Type} {α β γ : Type} {Z : Cell δ} {σ : L2.St} {B H B' H' : Hp} {s s1 s2 s3 : δ} {ta tb tc te : TE} {t u : TT} {tas : TA} {K : PySem.W.Frag} {R : Rel α} {S : Rel β} {T : Rel γ}

/-! ### ints -/
theorem ev_I0 {g : Int → Int → V} {i j : Int} {d : γ} (ha : Ev Z (pI qI) ta σ B H s i s1) (hb : Ev Z (pI qI) tb σ B H s1 j s2) (hf : ∀ B, T.r B (g i j) d) : Ev Z (pI T) (tOp (rI0 g) ta tb) σ B H s d s2 := fun B1 H1 x c Q q =>
  ha B1 H1 x c _ fun va B2 H2 x2 c2 r2 => hb B2 H2 (x.trans x2) c2 _ fun vb B3 H3 x3 c3 r3 => ⟨i, j, r2, r3, q _ B3 H3 (x2.trans x3) c3 (hf B3)⟩
theorem ev_IC {C : Int → Int → Prop} {g : Int → Int → V} {i j : Int} {d : γ} (ha : Ev Z (pI qI) ta σ B H s i s1) (hb : Ev Z (pI qI) tb σ B H s1 j s2) (hc : C i j) (hf : ∀ B, T.r B (g i j) d) : Ev Z (pI T) (tOp (rI C g) ta tb) σ B H s d s2 := fun B1 H1 x c Q q =>
  ha B1 H1 x c _ fun va B2 H2 x2 c2 r2 => hb B2 H2 (x.trans x2) c2 _ fun vb B3 H3 x3 c3 r3 => ⟨i, j, r2, r3, hc, q _ B3 H3 (x2.trans x3) c3 (hf B3)⟩
theorem ev_add {i j : Int} (ha : Ev Z (pI qI) ta σ B H s i s1) (hb : Ev Z (pI qI) tb σ B H s1 j s2) : Ev Z (pI qI) (tOp (rI0 fun i j => .int (i + j)) ta tb) σ B H s (i + j) s2 := ev_I0 ha hb fun _ => rfl
theorem ev_sub {i j : Int} (ha : Ev Z (pI qI) ta σ B H s i s1) (hb : Ev Z (pI qI) tb σ B H s1 j s2) : Ev Z (pI qI) (tOp (rI0 fun i j => .int (i - j)) ta tb) σ B H s (i - j) s2 := ev_I0 ha hb fun _ => rfl
theorem ev_lt {i j : Int} (ha : Ev Z (pI qI) ta σ B H s i s1) (hb : Ev Z (pI qI) tb σ B H s1 j s2) : Ev Z (pI qB) (tOp (rI0 fun i j => .bl (decide (i < j))) ta tb) σ B H s (decide (i < j)) s2 := ev_I0 ha hb fun _ => rfl
theorem ev_le {i j : Int} (ha : Ev Z (pI qI) ta σ B H s i s1) (hb : Ev Z (pI qI) tb σ B H s1 j s2) : Ev Z (pI qB) (tOp (rI0 fun i j => .bl (decide (i ≤ j))) ta tb) σ B H s (decide (i ≤ j)) s2 := ev_I0 ha hb fun _ => rfl
theorem ev_gt {i j : Int} (ha : Ev Z (pI qI) ta σ B H s i s1) (hb : Ev Z (pI qI) tb σ B H s1 j s2) : Ev Z (pI qB) (tOp (rI0 fun i j => .bl (decide (j < i))) ta tb) σ B H s (decide (j < i)) s2 := ev_I0 ha hb fun _ => rfl
theorem ev_ge {i j : Int} (ha : Ev Z (pI qI) ta σ B H s i s1) (hb : Ev Z (pI qI) tb σ B H s1 j s2) : Ev Z (pI qB) (tOp (rI0 fun i j => .bl (decide (j ≤ i))) ta tb) σ B H s (decide (j ≤ i)) s2 := ev_I0 ha hb fun _ => rfl
/-- factors of any size below the line -/
def mulO (i j : Int) : Option Int := if i.natAbs.log2 + j.natAbs.log2 < 1000000 then some (i * j) else none
theorem mulO_ok {i j r : Int} (h : mulO i j = some r) : CMulW i j ∧ i * j = r := by
  unfold mulO at h
  rcases iteS h with ⟨h1, h2⟩ | ⟨h1, h2⟩
  · exact ⟨h1, Option.some.inj h2⟩
  · cases h2
theorem ev_mul {i j r : Int} (ha : Ev Z (pI qI) ta σ B H s i s1) (hb : Ev Z (pI qI) tb σ B H s1 j s2) (h : mulO i j = some r) : Ev Z (pI qI) (tOp (rI CMulW fun i j => .int (i * j)) ta tb) σ B H s r s2 :=
  ev_IC ha hb (mulO_ok h).1 fun _ => congrArg V.int (mulO_ok h).2
/-- a small factor: no question -/
theorem ev_mulS {i j : Int} (ha : Ev Z (pI qI) ta σ B H s i s1) (hb : Ev Z (pI qI) tb σ B H s1 j s2) (h : CMul i j) : Ev Z (pI qI) (tOp (rI CMul fun i j => .int (i * j)) ta tb) σ B H s (i * j) s2 :=
  ev_IC ha hb h fun _ => rfl
/-- floor division by any number but 0 -/
def CDivZ (_ j : Int) : Prop := j ≠ 0 ∧ j.natAbs.log2 < 9000
theorem op_fdivZ {X : Cx} : OpR X (binaryOp .FloorDiv) (rI CDivZ fun i j => .int (i.fdiv j)) := opI fun i j _ _ _ _ _ hc q =>
  PyProof.Rows.floordiv_int hc.1 q (.inl (PyProof.noPylong_of_log2 hc.2))
def divO (i j : Int) : Option Int := if j ≠ 0 ∧ j.natAbs.log2 < 9000 then some (i.fdiv j) else none
theorem divO_ok {i j r : Int} (h : divO i j = some r) : CDivZ i j ∧ i.fdiv j = r := by
  unfold divO at h
  rcases iteS h with ⟨h1, h2⟩ | ⟨h1, h2⟩
  · exact ⟨h1, Option.some.inj h2⟩
  · cases h2
theorem ev_div {i j r : Int} (ha : Ev Z (pI qI) ta σ B H s i s1) (hb : Ev Z (pI qI) tb σ B H s1 j s2) (h : divO i j = some r) : Ev Z (pI qI) (tOp (rI CDivZ fun i j => .int (i.fdiv j)) ta tb) σ B H s r s2 :=
  ev_IC ha hb (divO_ok h).1 fun _ => congrArg V.int (divO_ok h).2
theorem ev_divS {i j : Int} (ha : Ev Z (pI qI) ta σ B H s i s1) (hb : Ev Z (pI qI) tb σ B H s1 j s2) (h : CDiv i j) : Ev Z (pI qI) (tOp (rI CDiv fun i j => .int (i / j)) ta tb) σ B H s (i / j) s2 :=
  ev_IC ha hb h fun _ => rfl
def modO (i j : Int) : Option Int := if 0 < j then some (i % j) else none
theorem modO_ok {i j r : Int} (h : modO i j = some r) : 0 < j ∧ i % j = r := by
  unfold modO at h
  rcases iteS h with ⟨h1, h2⟩ | ⟨h1, h2⟩
  · exact ⟨h1, Option.some.inj h2⟩
  · cases h2
theorem ev_mod {i j r : Int} (ha : Ev Z (pI qI) ta σ B H s i s1) (hb : Ev Z (pI qI) tb σ B H s1 j s2) (h : modO i j = some r) : Ev Z (pI qI) (tOp (rI (fun _ j => 0 < j) fun i j => .int (i % j)) ta tb) σ B H s r s2 :=
  ev_IC ha hb (modO_ok h).1 fun _ => congrArg V.int (modO_ok h).2
theorem ev_modS {i j : Int} (ha : Ev Z (pI qI) ta σ B H s i s1) (hb : Ev Z (pI qI) tb σ B H s1 j s2) (h : 0 < j) : Ev Z (pI qI) (tOp (rI (fun _ j => 0 < j) fun i j => .int (i % j)) ta tb) σ B H s (i % j) s2 :=
  ev_IC ha hb h fun _ => rfl
theorem ev_powS {i j : Int} (ha : Ev Z (pI qI) ta σ B H s i s1) (hb : Ev Z (pI qI) tb σ B H s1 j s2) (h : CPow i j) : Ev Z (pI qI) (tOp (rI CPow fun i j => .int (i ^ j.toNat)) ta tb) σ B H s (i ^ j.toNat) s2 :=
  ev_IC ha hb h fun _ => rfl
theorem ev_neg {i : Int} (ha : Ev Z (pI qI) ta σ B H s i s1) : Ev Z (pI qI) (tUn (rU fun i => .int (-i)) ta) σ B H s (-i) s1 := fun B1 H1 x c Q q =>
  ha B1 H1 x c _ fun va B2 H2 x2 c2 r2 => ⟨i, r2, q _ B2 H2 x2 c2 rfl⟩

/-! ### == of scalars -/
theorem ev_eqI {i j : Int} (ha : Ev Z (pI qI) ta σ B H s i s1) (hb : Ev Z (pI qI) tb σ B H s1 j s2) : Ev Z (pI qB) (tOp rEq ta tb) σ B H s (decide (i = j)) s2 := fun B1 H1 x c Q q =>
  ha B1 H1 x c _ fun va B2 H2 x2 c2 r2 => hb B2 H2 (x.trans x2) c2 _ fun vb B3 H3 x3 c3 r3 => by
    cases r2; cases r3
    exact ⟨rfl, q _ B3 H3 (x2.trans x3) c3 (by show V.bl _ = V.bl _; congr 1; simp)⟩
theorem ev_neI {i j : Int} (ha : Ev Z (pI qI) ta σ B H s i s1) (hb : Ev Z (pI qI) tb σ B H s1 j s2) : Ev Z (pI qB) (tOp rNe ta tb) σ B H s (!decide (i = j)) s2 := fun B1 H1 x c Q q =>
  ha B1 H1 x c _ fun va B2 H2 x2 c2 r2 => hb B2 H2 (x.trans x2) c2 _ fun vb B3 H3 x3 c3 r3 => by
    cases r2; cases r3
    exact ⟨rfl, q _ B3 H3 (x2.trans x3) c3 (by show V.bl _ = V.bl _; congr 1; simp)⟩
theorem ev_eqB {i j : Bool} (ha : Ev Z (pI qB) ta σ B H s i s1) (hb : Ev Z (pI qB) tb σ B H s1 j s2) : Ev Z (pI qB) (tOp rEq ta tb) σ B H s (decide (i = j)) s2 := fun B1 H1 x c Q q =>
  ha B1 H1 x c _ fun va B2 H2 x2 c2 r2 => hb B2 H2 (x.trans x2) c2 _ fun vb B3 H3 x3 c3 r3 => by
    cases r2; cases r3
    exact ⟨rfl, q _ B3 H3 (x2.trans x3) c3 (by show V.bl _ = V.bl _; congr 1; simp)⟩
theorem ev_neB {i j : Bool} (ha : Ev Z (pI qB) ta σ B H s i s1) (hb : Ev Z (pI qB) tb σ B H s1 j s2) : Ev Z (pI qB) (tOp rNe ta tb) σ B H s (!decide (i = j)) s2 := fun B1 H1 x c Q q =>
  ha B1 H1 x c _ fun va B2 H2 x2 c2 r2 => hb B2 H2 (x.trans x2) c2 _ fun vb B3 H3 x3 c3 r3 => by
    cases r2; cases r3
    exact ⟨rfl, q _ B3 H3 (x2.trans x3) c3 (by show V.bl _ = V.bl _; congr 1; simp)⟩
theorem ev_eqS {i j : Str} (ha : Ev Z (pI qS) ta σ B H s i s1) (hb : Ev Z (pI qS) tb σ B H s1 j s2) : Ev Z (pI qB) (tOp rEq ta tb) σ B H s (decide (i = j)) s2 := fun B1 H1 x c Q q =>
  ha B1 H1 x c _ fun va B2 H2 x2 c2 r2 => hb B2 H2 (x.trans x2) c2 _ fun vb B3 H3 x3 c3 r3 => by
    cases r2; cases r3
    exact ⟨rfl, q _ B3 H3 (x2.trans x3) c3 (by show V.bl _ = V.bl _; congr 1; simp)⟩

/-! ### chains a < b < c -/
theorem ev_chain {r r' : R2} {a : α} {b : β} {c : γ} {k1 k2 : Bool} (ha : Ev Z (pI R) ta σ B H s a s1) (hb : Ev Z (pI S) tb σ B H s1 b s2) (hc : Ev Z (pI T) tc σ B H s2 c s2)
    (h1 : ∀ va vb H Q, R.r B va a → S.r B vb b → Q (.bl k1) H → r va vb H Q) (h2 : ∀ vb vc H Q, S.r B vb b → T.r B vc c → Q (.bl k2) H → r' vb vc H Q)
    (ia : ∀ B' v, R.r B' v a → R.r B v a) (ib : ∀ B' v, S.r B' v b → S.r B v b) (ic : ∀ B' v, T.r B' v c → T.r B v c) : Ev Z (pI qB) (tChain r r' ta tb tc) σ B H s (k1 && k2) s2 := fun B1 H1 x c1 Q q =>
  ha B1 H1 x c1 _ fun va B2 H2 x2 c2 r2 => hb B2 H2 (x.trans x2) c2 _ fun vb B3 H3 x3 c3 r3 => h1 va vb H3 _ (ia _ _ r2) (ib _ _ r3) ⟨k1, rfl, by
    cases k1 with
    | false => exact q _ B3 H3 (x2.trans x3) c3 rfl
    | true => exact hc B3 H3 ((x.trans x2).trans x3) c3 _ fun vc B4 H4 x4 c4 r4 => h2 vb vc H4 _ (ib _ _ r3) (ic _ _ r4) (q _ B4 H4 ((x2.trans x3).trans x4) c4 rfl)⟩
theorem ev_chI {g g' : Int → Int → Bool} {a b c : Int} (ha : Ev Z (pI qI) ta σ B H s a s1) (hb : Ev Z (pI qI) tb σ B H s1 b s2) (hc : Ev Z (pI qI) tc σ B H s2 c s2) :
    Ev Z (pI qB) (tChain (rI0 fun i j => .bl (g i j)) (rI0 fun i j => .bl (g' i j)) ta tb tc) σ B H s (g a b && g' b c) s2 :=
  ev_chain ha hb hc (fun _ _ _ _ h1 h2 q => ⟨a, b, h1, h2, q⟩) (fun _ _ _ _ h1 h2 q => ⟨b, c, h1, h2, q⟩) (fun _ _ h => h) (fun _ _ h => h) (fun _ _ h => h)

/-! ### tests -/
theorem et_test {b : Bool} (h : Ev Z (pI qB) te σ B H s b s1) : EvT Z (tTest te) σ B H s b s1 := fun B1 H1 x c Q q =>
  h B1 H1 x c _ fun v B2 H2 x2 c2 r2 => ⟨b, r2, q B2 H2 x2 c2⟩
theorem et_B {b : Bool} (h : Ev Z (pI qB) te σ B H s b s1) : EvT Z (tB te) σ B H s b s1 := fun B1 H1 x c Q q =>
  h B1 H1 x c _ fun v B2 H2 x2 c2 r2 => ⟨b, r2, q B2 H2 x2 c2⟩
theorem et_and {a b : Bool} (h1 : EvT Z t σ B H s a s1) (h2 : a = true → EvT Z u σ B H s1 b s2) (h3 : a = false → b = false ∧ s2 = s1) : EvT Z (tAnd t u) σ B H s b s2 := fun B1 H1 x c Q q =>
  h1 B1 H1 x c _ fun B2 H2 x2 c2 => by
    cases a with
    | true => exact h2 rfl B2 H2 (x.trans x2) c2 _ fun B3 H3 x3 c3 => q B3 H3 (x2.trans x3) c3
    | false =>
      obtain ⟨rfl, rfl⟩ := h3 rfl
      exact q B2 H2 x2 c2
theorem et_or {a b : Bool} (h1 : EvT Z t σ B H s a s1) (h2 : a = false → EvT Z u σ B H s1 b s2) (h3 : a = true → b = true ∧ s2 = s1) : EvT Z (tOr t u) σ B H s b s2 := fun B1 H1 x c Q q =>
  h1 B1 H1 x c _ fun B2 H2 x2 c2 => by
    cases a with
    | false => exact h2 rfl B2 H2 (x.trans x2) c2 _ fun B3 H3 x3 c3 => q B3 H3 (x2.trans x3) c3
    | true =>
      obtain ⟨rfl, rfl⟩ := h3 rfl
      exact q B2 H2 x2 c2
/-- without partial parts -/
theorem et_and' {a b : Bool} (h1 : EvT Z t σ B H s a s) (h2 : EvT Z u σ B H s b s) : EvT Z (tAnd t u) σ B H s (a && b) s := et_and h1 (fun e => by subst e; exact h2) (fun e => by subst e; exact ⟨rfl, rfl⟩)
theorem et_or' {a b : Bool} (h1 : EvT Z t σ B H s a s) (h2 : EvT Z u σ B H s b s) : EvT Z (tOr t u) σ B H s (a || b) s := et_or h1 (fun e => by subst e; exact h2) (fun e => by subst e; exact ⟨rfl, rfl⟩)
theorem et_not {a : Bool} (h1 : EvT Z t σ B H s a s1) : EvT Z (tNot t) σ B H s (!a) s1 := fun B1 H1 x c Q q => h1 B1 H1 x c _ fun B2 H2 x2 c2 => q B2 H2 x2 c2
theorem ev_andV {a b : Bool} (h1 : Ev Z (pI qB) ta σ B H s a s1) (h2 : a = true → Ev Z (pI qB) tb σ B H s1 b s2) (h3 : a = false → b = false ∧ s2 = s1) : Ev Z (pI qB) (tAndV ta tb) σ B H s b s2 := fun B1 H1 x c Q q =>
  h1 B1 H1 x c _ fun v B2 H2 x2 c2 r2 => ⟨a, r2, by
    cases a with
    | true => exact h2 rfl B2 H2 (x.trans x2) c2 _ fun v B3 H3 x3 c3 r3 => q v B3 H3 (x2.trans x3) c3 r3
    | false =>
      obtain ⟨rfl, rfl⟩ := h3 rfl
      exact q _ B2 H2 x2 c2 rfl⟩
theorem ev_orV {a b : Bool} (h1 : Ev Z (pI qB) ta σ B H s a s1) (h2 : a = false → Ev Z (pI qB) tb σ B H s1 b s2) (h3 : a = true → b = true ∧ s2 = s1) : Ev Z (pI qB) (tOrV ta tb) σ B H s b s2 := fun B1 H1 x c Q q =>
  h1 B1 H1 x c _ fun v B2 H2 x2 c2 r2 => ⟨a, r2, by
    cases a with
    | false => exact h2 rfl B2 H2 (x.trans x2) c2 _ fun v B3 H3 x3 c3 r3 => q v B3 H3 (x2.trans x3) c3 r3
    | true =>
      obtain ⟨rfl, rfl⟩ := h3 rfl
      exact q _ B2 H2 x2 c2 rfl⟩
theorem ev_andV' {a b : Bool} (h1 : Ev Z (pI qB) ta σ B H s a s) (h2 : Ev Z (pI qB) tb σ B H s b s) : Ev Z (pI qB) (tAndV ta tb) σ B H s (a && b) s := ev_andV h1 (fun e => by subst e; exact h2) (fun e => by subst e; exact ⟨rfl, rfl⟩)
theorem ev_orV' {a b : Bool} (h1 : Ev Z (pI qB) ta σ B H s a s) (h2 : Ev Z (pI qB) tb σ B H s b s) : Ev Z (pI qB) (tOrV ta tb) σ B H s (a || b) s := ev_orV h1 (fun e => by subst e; exact h2) (fun e => by subst e; exact ⟨rfl, rfl⟩)
theorem ev_notV {a : Bool} (h1 : Ev Z (pI qB) ta σ B H s a s1) : Ev Z (pI qB) (tNotV ta) σ B H s (!a) s1 := fun B1 H1 x c Q q => h1 B1 H1 x c _ fun v B2 H2 x2 c2 r2 => ⟨a, r2, q _ B2 H2 x2 c2 rfl⟩
theorem ev_if {b : Bool} {d : α} (h : EvT Z t σ B H s b s1) (h1 : b = true → Ev Z (pI R) ta σ B H s1 d s2) (h2 : b = false → Ev Z (pI R) tb σ B H s1 d s2) : Ev Z (pI R) (tIf t ta tb) σ B H s d s2 := fun B1 H1 x c Q q =>
  h B1 H1 x c _ fun B2 H2 x2 c2 => by
    cases b with
    | true => exact h1 rfl B2 H2 (x.trans x2) c2 _ (pI.up x2 q)
    | false => exact h2 rfl B2 H2 (x.trans x2) c2 _ (pI.up x2 q)
theorem ev_if' {b : Bool} {d e : α} (h : EvT Z t σ B H s b s1) (h1 : Ev Z (pI R) ta σ B H s1 d s2) (h2 : Ev Z (pI R) tb σ B H s1 e s2) : Ev Z (pI R) (tIf t ta tb) σ B H s (if b = true then d else e) s2 :=
  ev_if h (fun q => by subst q; exact h1) (fun q => by subst q; exact h2)

/-! ### ways of handing on -/
theorem fresh_nN {l : Addr} (c : Z.at_ s B H) (n : H l = none) : ¬ Z.N l := fun m => by
  obtain ⟨_, o, e⟩ := Z.out c m
  rw [e] at n; cases n
theorem Ext.back_nN {N : NP} {l : Addr} (x : Ext Z.N B H B' H') (c : Z.at_ s1 B' H') (n : H l = none) (c0 : Z.at_ s B H) : ¬ Z.N l := fresh_nN c0 n
/-- a new list comes into the base -/
theorem ev_fz {d : List α} (h : Ev Z (pL R) te σ B H s d s1) : Ev Z (pI (qL R)) te σ B H s d s1 := fun B1 H1 x c Q q =>
  h B1 H1 x c _ fun l vs B2 H2 x2 c2 n b2 h2 r2 => q _ (upd B2 l (.lst vs)) H2 (x2.freeze n b2 h2) (Z.fz c2 (fresh_nN c n)) ⟨l, vs, rfl, upd_same, Pr.mono (Ex.new b2) r2⟩
/-- a list in the base may be read -/
theorem ev_wI {d : List α} (h : Ev Z (pI (qL R)) te σ B H s d s1) : Ev Z (pW R) te σ B H s d s1 := fun B1 H1 x c Q q =>
  h B1 H1 x c _ fun v B2 H2 x2 c2 r2 => by
    obtain ⟨l, vs, rfl, hl, hp⟩ := r2
    refine q l vs B2 H2 x2 c2 (fun n => ?_) (x2.bh _ _ hl) hp
    obtain ⟨e, _⟩ := Z.out c2 n
    rw [hl] at e; cases e
theorem ev_wL {d : List α} (h : Ev Z (pL R) te σ B H s d s1) : Ev Z (pW R) te σ B H s d s1 := fun B1 H1 x c Q q =>
  h B1 H1 x c _ fun l vs B2 H2 x2 c2 n b2 h2 r2 => q l vs B2 H2 x2 c2 (fresh_nN c n) h2 r2
/-- a list of this frame's, outside the base -/
structure Own {α : Type} (R : Rel α) (N : NP) (H0 B H : Hp) (l : Addr) (xs : List α) : Prop where
  n0 : H0 l = none
  nN : ¬ N l
  nb : B l = none
  lst : ∃ vs, H l = some (.lst vs) ∧ Paired (R.r B) vs xs
theorem Own.step {H0 : Hp} {l : Addr} {d : List α} {N : NP} (o : Own R N H0 B H l d) (x : Ext N B H B' H') : Own R N H0 B' H' l d := by
  obtain ⟨n0, nN, nb, vs, h, r⟩ := o
  exact ⟨n0, nN, x.fr _ _ h nb, vs, x.h _ _ nN h, Pr.mono x.b r⟩
theorem Own.step0 {H0 : Hp} {l : Addr} {d : List α} {N : NP} (o : Own R N H0 B H l d) (x : Ext N0 B H B' H') : Own R N H0 B' H' l d := o.step x.up
theorem ev_wO {H0 : Hp} {l : Addr} {d : List α} {i : Nat} (o : Own R Z.N H0 B H l d) (hi : σ[i]? = some (some (.ref l))) : Ev Z (pW R) (tVar i) σ B H s d s := fun B1 H1 x c Q q => by
  obtain ⟨_, nN, _, vs, h, r⟩ := o.step x
  exact ⟨_, hi, q l vs B1 H1 (.refl x.bh) c nN h r⟩
end
end LW
set_option Elab.async false
set_option linter.all false
set_option maxRecDepth 100000
set_option maxHeartbeats 4000000
/-! Lw3: lists, tuples, displays, calls, iteration, comprehensions. -/
namespace LW
open PySem L2
section
variable {δ : Type} {α β γ : Type} {Z : Cell δ} {σ : L2.St} {B H B' H' : Hp} {s s1 s2 s3 : δ} {ta tb tc te : TE} {t u : TT} {tas : TA} {K : PySem.W.Frag} {R : Rel α} {S : Rel β} {T : Rel γ}
theorem pr_atI {F : V → α → Prop} {vs : List V} {xs : List α} {i : Int} {d : α} (h : Paired F vs xs) (e : atI xs i = some d) : ∃ v, atI vs i = some v ∧ F v d := by
  unfold atI at e ⊢
  rw [Pr.length h]
  cases q : ixN xs.length i with
  | none => rw [q] at e; cases e
  | some j =>
    rw [q] at e
    exact Pr.get h e
/-! ### len -/
def rLenS (K : PySem.W.Frag) : List V → Hp → VK → Prop := fun xs H Q => ∃ p ys, xs = [.ref p] ∧ (SqL K H p ys ∨ SqT K H p ys) ∧ Q (.int ys.length) H
theorem cl_len {X : Cx} : CallR X (.builtin "len") (rLenS X.K) := call_len_seq
theorem ev_lenW {d : List α} (h : Ev Z (pW R) te σ B H s d s1) : Ev Z (pI qI) (tCB (rLenS K) (tCons te tNil)) σ B H s (d.length : Int) s1 := fun B1 H1 x c Q q =>
  h B1 H1 x c _ fun l vs B2 H2 x2 c2 n h2 r2 => ⟨l, vs, rfl, .inl (SqL.of h2), q _ B2 H2 x2 c2 (by rw [Pr.length r2]; rfl)⟩
theorem ev_lenT {d : List α} (h : Ev Z (pI (qT K R)) te σ B H s d s1) : Ev Z (pI qI) (tCB (rLenS K) (tCons te tNil)) σ B H s (d.length : Int) s1 := fun B1 H1 x c Q q =>
  h B1 H1 x c _ fun v B2 H2 x2 c2 r2 => by
    obtain ⟨l, vs, rfl, h2, r2⟩ := r2
    exact ⟨l, vs, rfl, .inr (ex_t x2.bh h2), q _ B2 H2 x2 c2 (by rw [Pr.length r2]; rfl)⟩
theorem ev_lenF {d : List α} (h : Ev Z (pI (qF K R)) te σ B H s d s1) : Ev Z (pI qI) (tCB (rLenS K) (tCons te tNil)) σ B H s (d.length : Int) s1 := fun B1 H1 x c Q q =>
  h B1 H1 x c _ fun v B2 H2 x2 c2 r2 => by
    obtain ⟨l, vs, rfl, h2, r2⟩ := r2
    exact ⟨l, vs, rfl, .inl (ex_l x2.bh h2), q _ B2 H2 x2 c2 (by rw [Pr.length r2]; rfl)⟩
/-! ### items -/
theorem ev_ixW {d : List α} {i : Int} {r : α} (ha : Ev Z (pW R) ta σ B H s d s1) (hb : Ev Z (pI qI) tb σ B H s1 i s2) (h : atI d i = some r) : Ev Z (pI R) (tOp (rIxL K) ta tb) σ B H s r s2 := fun B1 H1 x c Q q =>
  ha B1 H1 x c _ fun l vs B2 H2 x2 c2 n h2 r2 => hb B2 H2 (x.trans x2) c2 _ fun w B3 H3 x3 c3 r3 => by
    obtain ⟨v, e, rv⟩ := pr_atI (Pr.mono x3.b r2) h
    exact ⟨l, vs, i, v, rfl, r3, SqL.of (x3.h _ _ n h2), e, q v B3 H3 (x2.trans x3) c3 rv⟩
theorem ev_ixT {d : List α} {i : Int} {r : α} (ha : Ev Z (pI (qT K R)) ta σ B H s d s1) (hb : Ev Z (pI qI) tb σ B H s1 i s2) (h : atI d i = some r) : Ev Z (pI R) (tOp (rIxT K) ta tb) σ B H s r s2 := fun B1 H1 x c Q q =>
  ha B1 H1 x c _ fun va B2 H2 x2 c2 r2 => hb B2 H2 (x.trans x2) c2 _ fun w B3 H3 x3 c3 r3 => by
    obtain ⟨l, vs, rfl, h2, r2⟩ := r2
    obtain ⟨v, e, rv⟩ := pr_atI (Pr.mono x3.b r2) h
    exact ⟨l, vs, i, v, rfl, r3, ex_t (x3.b.trans x3.bh) h2, e, q v B3 H3 (x2.trans x3) c3 rv⟩
theorem ev_ixF {d : List α} {i : Int} {r : α} (ha : Ev Z (pI (qF K R)) ta σ B H s d s1) (hb : Ev Z (pI qI) tb σ B H s1 i s2) (h : atI d i = some r) : Ev Z (pI R) (tOp (rIxL K) ta tb) σ B H s r s2 := fun B1 H1 x c Q q =>
  ha B1 H1 x c _ fun va B2 H2 x2 c2 r2 => hb B2 H2 (x.trans x2) c2 _ fun w B3 H3 x3 c3 r3 => by
    obtain ⟨l, vs, rfl, h2, r2⟩ := r2
    obtain ⟨v, e, rv⟩ := pr_atI (Pr.mono x3.b r2) h
    exact ⟨l, vs, i, v, rfl, r3, ex_l (x3.b.trans x3.bh) h2, e, q v B3 H3 (x2.trans x3) c3 rv⟩
/-! ### arguments and displays -/
def aAll (R : Rel α) : AR (List α) := fun B vs ds => Paired (R.r B) vs ds
theorem ea_nil : EvA Z aNil tNil σ B H s () s := fun B1 H1 x c Q q => q [] B1 H1 (.refl x.bh) c rfl
/-- what an argument relation keeps when the base grows -/
def AMono {α : Type} (A : AR α) : Prop := ∀ {B B' : Hp} {vs : List V} {d : α}, Ex B B' → A B vs d → A B' vs d
theorem am_nil : AMono aNil := fun _ h => h
theorem am_cons {A : AR β} (h : AMono A) : AMono (aCons R A) := fun e ⟨v, r, h1, h2, h3⟩ => ⟨v, r, h1, R.mono e h2, h e h3⟩
theorem ea_cons {A : AR β} {a : α} {b : β} (ha : Ev Z (pI R) te σ B H s a s1) (hb : EvA Z A tas σ B H s1 b s2) : EvA Z (aCons R A) (tCons te tas) σ B H s (a, b) s2 := fun B1 H1 x c Q q =>
  ha B1 H1 x c _ fun v B2 H2 x2 c2 r2 => hb B2 H2 (x.trans x2) c2 _ fun vs B3 H3 x3 c3 r3 => q _ B3 H3 (x2.trans x3) c3 ⟨v, vs, rfl, R.mono x3.b r2, r3⟩
theorem eb_nil : EvA Z (aAll R) tNil σ B H s [] s := fun B1 H1 x c Q q => q [] B1 H1 (.refl x.bh) c .nil
theorem eb_cons {a : α} {b : List α} (ha : Ev Z (pI R) te σ B H s a s1) (hb : EvA Z (aAll R) tas σ B H s1 b s2) : EvA Z (aAll R) (tCons te tas) σ B H s (a :: b) s2 := fun B1 H1 x c Q q =>
  ha B1 H1 x c _ fun v B2 H2 x2 c2 r2 => hb B2 H2 (x.trans x2) c2 _ fun vs B3 H3 x3 c3 r3 => q _ B3 H3 (x2.trans x3) c3 (.cons (R.mono x3.b r2) r3)
theorem sz_of {n : Nat} (h : n ≤ 1000000) : n ≤ sizeLine := Nat.le_trans h (by rw [sizeLine_eq]; decide)
theorem sz_lt {n : Nat} (h : n < 1000000) : n < sizeLine := Nat.lt_of_lt_of_le h (by rw [sizeLine_eq]; decide)
theorem ev_lst {d : List α} (h : EvA Z (aAll R) tas σ B H s d s1) (hz : d.length ≤ 1000000) : Ev Z (pL R) (tLst tas) σ B H s d s1 := fun B1 H1 x c Q q =>
  h B1 H1 x c _ fun vs B2 H2 x2 c2 r2 => ⟨sz_of (by rw [Pr.length r2]; exact hz), fun p hp =>
    q p vs B2 _ (x2.trans (Ext.newH x2.bh hp)) (Z.wr c2 (fresh_nN c2 hp)) (x2.new_none hp) (x2.bh.none hp) upd_same r2⟩
theorem ev_tup {d : List α} (h : EvA Z (aAll R) tas σ B H s d s1) (hz : d.length ≤ 1000000) : Ev Z (pI (qT K R)) (tTup tas) σ B H s d s1 := fun B1 H1 x c Q q =>
  h B1 H1 x c _ fun vs B2 H2 x2 c2 r2 => ⟨sz_of (by rw [Pr.length r2]; exact hz), fun p hp =>
    q (.ref p) (upd B2 p (.tup vs)) _ (x2.trans (Ext.newB x2.bh hp)) (Z.wr (Z.fz c2 (fresh_nN c2 hp)) (fresh_nN c2 hp)) ⟨p, vs, rfl, SqT.of upd_same, Pr.mono (Ex.new (x2.bh.none hp)) r2⟩⟩
theorem ev_tup2 {a : α} {b : β} (h : EvA Z (aCons R (aCons S aNil)) tas σ B H s (a, b, ()) s1) : Ev Z (pI (qP K R S)) (tTup tas) σ B H s (a, b) s1 := fun B1 H1 x c Q q =>
  h B1 H1 x c _ fun vs B2 H2 x2 c2 r2 => by
    obtain ⟨v1, _, rfl, k1, v2, _, rfl, k2, rfl⟩ := r2
    exact ⟨sz_of (by show 2 ≤ 1000000; decide), fun p hp => q (.ref p) (upd B2 p (.tup [v1, v2])) _ (x2.trans (Ext.newB x2.bh hp)) (Z.wr (Z.fz c2 (fresh_nN c2 hp)) (fresh_nN c2 hp))
      ⟨p, v1, v2, rfl, SqT.of upd_same, R.mono (Ex.new (x2.bh.none hp)) k1, S.mono (Ex.new (x2.bh.none hp)) k2⟩⟩
/-! ### list + list, list * n, slices, list(xs), tuple(xs), sorted(xs), sum(xs) -/
def lenO {α : Type} (xs : List α) : Option (List α) := if xs.length ≤ 1000000 then some xs else none
theorem lenO_ok {xs ys : List α} (h : lenO xs = some ys) : xs.length ≤ 1000000 ∧ xs = ys := by
  unfold lenO at h
  rcases iteS h with ⟨h1, h2⟩ | ⟨h1, h2⟩
  · exact ⟨h1, Option.some.inj h2⟩
  · cases h2
theorem ev_cat {a b r : List α} (ha : Ev Z (pW R) ta σ B H s a s1) (hb : Ev Z (pW R) tb σ B H s1 b s2) (h : lenO (a ++ b) = some r) : Ev Z (pL R) (tOp rCat ta tb) σ B H s r s2 := fun B1 H1 x c Q q =>
  ha B1 H1 x c _ fun l vs B2 H2 x2 c2 n h2 r2 => hb B2 H2 (x.trans x2) c2 _ fun m ws B3 H3 x3 c3 n3 h3 r3 => by
    obtain ⟨hl, rfl⟩ := lenO_ok h
    have hl' : vs.length + ws.length ≤ 1000000 := by rw [Pr.length r2, Pr.length r3]; rw [List.length_append] at hl; exact hl
    exact ⟨l, m, vs, ws, rfl, rfl, x3.h _ _ n h2, h3, sz_of hl', fun p hp =>
      q p _ B3 _ ((x2.trans x3).trans (Ext.newH x3.bh hp)) (Z.wr c3 (fresh_nN c3 hp)) ((x2.trans x3).new_none hp) (x3.bh.none hp) upd_same (Pr.app (Pr.mono x3.b r2) r3)⟩
theorem flat_rep {α : Type} (x : α) : ∀ k : Nat, (List.replicate k [x]).flatten = List.replicate k x
  | 0 => rfl
  | k + 1 => by rw [List.replicate_succ, List.flatten_cons, flat_rep x k, List.replicate_succ]; rfl
def repO {α : Type} (x : α) (k : Int) : Option (List α) := if k ≤ 1000000 ∧ -1000000 ≤ k then some (List.replicate k.toNat x) else none
theorem repO_ok {x : α} {k : Int} {r : List α} (h : repO x k = some r) : k ≤ 1000000 ∧ -1000000 ≤ k ∧ List.replicate k.toNat x = r := by
  unfold repO at h
  rcases iteS h with ⟨h1, h2⟩ | ⟨h1, h2⟩
  · exact ⟨h1.1, h1.2, Option.some.inj h2⟩
  · cases h2
/-- [x] * k -/
theorem ev_rep {a : α} {k : Int} {r : List α} (ha : Ev Z (pL R) ta σ B H s [a] s1) (hb : Ev Z (pI qI) tb σ B H s1 k s2) (h : repO a k = some r) : Ev Z (pL R) (tOp rRep ta tb) σ B H s r s2 := fun B1 H1 x c Q q =>
  ha B1 H1 x c _ fun l vs B2 H2 x2 c2 n b2 h2 r2 => hb B2 H2 (x.trans x2) c2 _ fun m B3 H3 x3 c3 r3 => by
    obtain ⟨k1, k2, rfl⟩ := repO_ok h
    cases r3
    cases r2 with
    | @cons v _ _ _ rv tl =>
      cases tl
      refine ⟨l, k, [v], rfl, rfl, x3.h _ _ (fresh_nN c n) h2, by omega, by omega, sz_of (by rw [List.length_singleton]; omega), fun p hp => ?_⟩
      rw [flat_rep]
      exact q p _ B3 _ ((x2.trans x3).trans (Ext.newH x3.bh hp)) (Z.wr c3 (fresh_nN c3 hp)) ((x2.trans x3).new_none hp) (x3.bh.none hp) upd_same (Pr.rep (R.mono x3.b rv) _)
def cutL {α : Type} (xs : List α) (lo hi : Option Int) : List α := (xs.drop (HT.sIx xs.length 0 lo)).take (HT.sIx xs.length xs.length hi - HT.sIx xs.length 0 lo)
theorem pr_cut {F : V → α → Prop} {vs : List V} {xs : List α} (h : Paired F vs xs) (lo hi : Option Int) : Paired F (cutV vs lo hi) (cutL xs lo hi) := by
  unfold cutV cutL
  rw [Pr.length h]
  exact Pr.take _ (Pr.drop _ h)
def EvO (Z : Cell δ) (to : TO) (σ : L2.St) (B H : Hp) (s : δ) (o : Option Int) (s' : δ) : Prop :=
  ∀ B1 H1, Ext Z.N B H B1 H1 → Z.at_ s B1 H1 → ∀ Q : Option Int → Hp → Prop, (∀ B2 H2, Ext Z.N B1 H1 B2 H2 → Z.at_ s' B2 H2 → Q o H2) → to σ H1 Q
theorem eo_none : EvO Z tNoPart σ B H s none s := fun B1 H1 x c Q q => q B1 H1 (.refl x.bh) c
theorem eo_some {i : Int} (h : Ev Z (pI qI) te σ B H s i s1) : EvO Z (tPart te) σ B H s (some i) s1 := fun B1 H1 x c Q q => h B1 H1 x c _ fun v B2 H2 x2 c2 r2 => ⟨i, r2, q B2 H2 x2 c2⟩
theorem ev_slL {to1 to2 : TO} {d : List α} {o1 o2 : Option Int} (h : Ev Z (pW R) te σ B H s d s1) (h1 : EvO Z to1 σ B H s1 o1 s2) (h2 : EvO Z to2 σ B H s2 o2 s3) : Ev Z (pL R) (tSl (rSlL K) te to1 to2) σ B H s (cutL d o1 o2) s3 := fun B1 H1 x c Q q =>
  h B1 H1 x c _ fun l vs B2 H2 x2 c2 n k2 r2 => h1 B2 H2 (x.trans x2) c2 _ fun B3 H3 x3 c3 => h2 B3 H3 ((x.trans x2).trans x3) c3 _ fun B4 H4 x4 c4 =>
    ⟨l, vs, rfl, SqL.of (x4.h _ _ n (x3.h _ _ n k2)), fun p hp => q p _ B4 _ (((x2.trans x3).trans x4).trans (Ext.newH x4.bh hp)) (Z.wr c4 (fresh_nN c4 hp)) (((x2.trans x3).trans x4).new_none hp) (x4.bh.none hp) upd_same
      (pr_cut (Pr.mono (x3.b.trans x4.b) r2) o1 o2)⟩
def rListS (K : PySem.W.Frag) : List V → Hp → VK → Prop := fun xs H Q => ∃ p ys, xs = [.ref p] ∧ (SqL K H p ys ∨ SqT K H p ys) ∧ ∀ l, H l = none → Q (.ref l) (upd H l (.lst ys))
theorem cl_list {X : Cx} : CallR X (.type "list") (rListS X.K) := call_list_of
theorem ev_listW {d : List α} (h : Ev Z (pW R) te σ B H s d s1) : Ev Z (pL R) (tCB (rListS K) (tCons te tNil)) σ B H s d s1 := fun B1 H1 x c Q q =>
  h B1 H1 x c _ fun l vs B2 H2 x2 c2 n h2 r2 => ⟨l, vs, rfl, .inl (SqL.of h2), fun p hp => q p vs B2 _ (x2.trans (Ext.newH x2.bh hp)) (Z.wr c2 (fresh_nN c2 hp)) (x2.new_none hp) (x2.bh.none hp) upd_same r2⟩
theorem ev_listT {d : List α} (h : Ev Z (pI (qT K R)) te σ B H s d s1) : Ev Z (pL R) (tCB (rListS K) (tCons te tNil)) σ B H s d s1 := fun B1 H1 x c Q q =>
  h B1 H1 x c _ fun v B2 H2 x2 c2 r2 => by
    obtain ⟨l, vs, rfl, h2, r2⟩ := r2
    exact ⟨l, vs, rfl, .inr (ex_t x2.bh h2), fun p hp => q p vs B2 _ (x2.trans (Ext.newH x2.bh hp)) (Z.wr c2 (fresh_nN c2 hp)) (x2.new_none hp) (x2.bh.none hp) upd_same r2⟩
def rTupS (K : PySem.W.Frag) : List V → Hp → VK → Prop := fun xs H Q => ∃ p ys, xs = [.ref p] ∧ ((SqL K H p ys ∧ ∀ l, H l = none → Q (.ref l) (upd H l (.tup ys))) ∨ (SqT K H p ys ∧ Q (.ref p) H))
theorem cl_tuple {X : Cx} : CallR X (.type "tuple") (rTupS X.K) := call_tuple_of
theorem ev_tupleW {d : List α} (h : Ev Z (pW R) te σ B H s d s1) : Ev Z (pI (qT K R)) (tCB (rTupS K) (tCons te tNil)) σ B H s d s1 := fun B1 H1 x c Q q =>
  h B1 H1 x c _ fun l vs B2 H2 x2 c2 n h2 r2 => ⟨l, vs, rfl, .inl ⟨SqL.of h2, fun p hp => q _ (upd B2 p (.tup vs)) _ (x2.trans (Ext.newB x2.bh hp)) (Z.wr (Z.fz c2 (fresh_nN c2 hp)) (fresh_nN c2 hp)) ⟨p, vs, rfl, SqT.of upd_same, Pr.mono (Ex.new (x2.bh.none hp)) r2⟩⟩⟩
theorem ev_tupleT {d : List α} (h : Ev Z (pI (qT K R)) te σ B H s d s1) : Ev Z (pI (qT K R)) (tCB (rTupS K) (tCons te tNil)) σ B H s d s1 := fun B1 H1 x c Q q =>
  h B1 H1 x c _ fun v B2 H2 x2 c2 r2 => by
    obtain ⟨l, vs, e, h2, r3⟩ := id r2
    subst e
    exact ⟨l, vs, rfl, .inr ⟨ex_t x2.bh h2, q _ B2 H2 x2 c2 r2⟩⟩
/-- insertion -/
def insI (x : Int) : List Int → List Int
  | [] => [x]
  | y :: ys => if x ≤ y then x :: y :: ys else y :: insI x ys
def sortI : List Int → List Int
  | [] => []
  | x :: xs => insI x (sortI xs)
theorem insI_perm (x : Int) : ∀ ys, (insI x ys).Perm (x :: ys)
  | [] => .refl _
  | y :: ys => by
    unfold insI
    split
    · exact .refl _
    · exact ((insI_perm x ys).cons y).trans (.swap x y ys)
theorem sortI_perm : ∀ xs, (sortI xs).Perm xs
  | [] => .refl _
  | x :: xs => (insI_perm x _).trans ((sortI_perm xs).cons x)
theorem insI_pw (x : Int) : ∀ {ys : List Int}, ys.Pairwise (· ≤ ·) → (insI x ys).Pairwise (· ≤ ·)
  | [], _ => List.pairwise_singleton _ _
  | y :: ys, h => by
    unfold insI
    have h' := List.pairwise_cons.mp h
    split
    · rename_i k
      refine List.pairwise_cons.mpr ⟨fun z hz => ?_, h⟩
      rcases List.mem_cons.mp hz with rfl | hz
      · exact k
      · exact Int.le_trans k (h'.1 z hz)
    · rename_i k
      refine List.pairwise_cons.mpr ⟨fun z hz => ?_, insI_pw x h'.2⟩
      rcases List.mem_cons.mp ((insI_perm x ys).mem_iff.mp hz) with rfl | hz
      · omega
      · exact h'.1 z hz
theorem sortI_pw : ∀ xs, (sortI xs).Pairwise (· ≤ ·)
  | [] => .nil
  | x :: xs => insI_pw x (sortI_pw xs)
theorem sorted_one {xs ys : List Int} (p : xs.Perm ys) (h1 : xs.Pairwise (· ≤ ·)) (h2 : ys.Pairwise (· ≤ ·)) : xs = ys :=
  p.eq_of_pairwise (fun a b _ _ x y => Int.le_antisymm x y) h1 h2
theorem ev_sortI {d : List Int} (h : Ev Z (pW qI) te σ B H s d s1) : Ev Z (pL qI) (tCB (rSortedI K) (tCons te tNil)) σ B H s (sortI d) s1 := fun B1 H1 x c Q q =>
  h B1 H1 x c _ fun l vs B2 H2 x2 c2 n h2 r2 => by
    have e : vs = d.map V.int := Pr.eqmap r2
    subst e
    refine ⟨l, d, rfl, SqL.of h2, fun ns p h3 h4 hp => ?_⟩
    have e2 : ns = sortI d := sorted_one (h3.trans (sortI_perm d).symm) h4 (sortI_pw d)
    rw [e2]
    exact q p _ B2 _ (x2.trans (Ext.newH x2.bh hp)) (Z.wr c2 (fresh_nN c2 hp)) (x2.new_none hp) (x2.bh.none hp) upd_same (Pr.map _)
theorem ev_sumW {d : List Int} (h : Ev Z (pW qI) te σ B H s d s1) : Ev Z (pI qI) (tCB (rSum K) (tCons te tNil)) σ B H s d.sum s1 := fun B1 H1 x c Q q =>
  h B1 H1 x c _ fun l vs B2 H2 x2 c2 n h2 r2 => by
    have e : vs = d.map V.int := Pr.eqmap r2
    subst e
    exact ⟨l, d, rfl, SqL.of h2, q _ B2 H2 x2 c2 rfl⟩
theorem ev_allW {d : List Bool} (h : Ev Z (pW qB) te σ B H s d s1) : Ev Z (pI qB) (tCB (rAll K) (tCons te tNil)) σ B H s (d.all id) s1 := fun B1 H1 x c Q q =>
  h B1 H1 x c _ fun l vs B2 H2 x2 c2 n h2 r2 => by
    have e : vs = d.map V.bl := Pr.eqmap r2
    subst e
    exact ⟨l, d, rfl, SqL.of h2, q _ B2 H2 x2 c2 rfl⟩
theorem ev_anyW {d : List Bool} (h : Ev Z (pW qB) te σ B H s d s1) : Ev Z (pI qB) (tCB (rAny K) (tCons te tNil)) σ B H s (d.any id) s1 := fun B1 H1 x c Q q =>
  h B1 H1 x c _ fun l vs B2 H2 x2 c2 n h2 r2 => by
    have e : vs = d.map V.bl := Pr.eqmap r2
    subst e
    exact ⟨l, d, rfl, SqL.of h2, q _ B2 H2 x2 c2 rfl⟩
/-! ### in, not in, over ints -/
theorem flat_ints (ns : List Int) : (ns.map V.int).all flatV = true := by
  rw [List.all_eq_true]
  intro v hv
  obtain ⟨i, _, rfl⟩ := List.mem_map.mp hv
  rfl
theorem inV_ints (i : Int) (ns : List Int) : inV (.int i) (ns.map V.int) = decide (i ∈ ns) := by
  unfold inV
  rw [List.any_map]
  induction ns with
  | nil => rfl
  | cons n ns ih =>
    rw [List.any_cons, ih]
    show (n == i || _) = _
    by_cases e : n = i
    · subst e; simp
    · have e' : ¬ i = n := fun z => e z.symm
      simp [e, e']
theorem ev_inW {i : Int} {d : List Int} (ha : Ev Z (pI qI) ta σ B H s i s1) (hb : Ev Z (pW qI) tb σ B H s1 d s2) : Ev Z (pI qB) (tOp (rIn K false) ta tb) σ B H s (decide (i ∈ d)) s2 := fun B1 H1 x c Q q =>
  ha B1 H1 x c _ fun va B2 H2 x2 c2 r2 => hb B2 H2 (x.trans x2) c2 _ fun l vs B3 H3 x3 c3 n h3 r3 => by
    have e : vs = d.map V.int := Pr.eqmap r3
    subst e
    cases r2
    exact ⟨l, _, rfl, .inl (SqL.of h3), rfl, flat_ints d, q _ B3 H3 (x2.trans x3) c3 (by rw [if_neg Bool.false_ne_true, inV_ints]; rfl)⟩
theorem ev_niW {i : Int} {d : List Int} (ha : Ev Z (pI qI) ta σ B H s i s1) (hb : Ev Z (pW qI) tb σ B H s1 d s2) : Ev Z (pI qB) (tOp (rIn K true) ta tb) σ B H s (!decide (i ∈ d)) s2 := fun B1 H1 x c Q q =>
  ha B1 H1 x c _ fun va B2 H2 x2 c2 r2 => hb B2 H2 (x.trans x2) c2 _ fun l vs B3 H3 x3 c3 n h3 r3 => by
    have e : vs = d.map V.int := Pr.eqmap r3
    subst e
    cases r2
    exact ⟨l, _, rfl, .inl (SqL.of h3), rfl, flat_ints d, q _ B3 H3 (x2.trans x3) c3 (by rw [if_pos rfl, inV_ints]; rfl)⟩
theorem ev_inT {i : Int} {d : List Int} (ha : Ev Z (pI qI) ta σ B H s i s1) (hb : Ev Z (pI (qT K qI)) tb σ B H s1 d s2) : Ev Z (pI qB) (tOp (rIn K false) ta tb) σ B H s (decide (i ∈ d)) s2 := fun B1 H1 x c Q q =>
  ha B1 H1 x c _ fun va B2 H2 x2 c2 r2 => hb B2 H2 (x.trans x2) c2 _ fun v B3 H3 x3 c3 r3 => by
    obtain ⟨l, vs, rfl, h3, r3⟩ := r3
    have e : vs = d.map V.int := Pr.eqmap r3
    subst e
    cases r2
    exact ⟨l, _, rfl, .inr (ex_t x3.bh h3), rfl, flat_ints d, q _ B3 H3 (x2.trans x3) c3 (by rw [if_neg Bool.false_ne_true, inV_ints]; rfl)⟩
theorem ev_niT {i : Int} {d : List Int} (ha : Ev Z (pI qI) ta σ B H s i s1) (hb : Ev Z (pI (qT K qI)) tb σ B H s1 d s2) : Ev Z (pI qB) (tOp (rIn K true) ta tb) σ B H s (!decide (i ∈ d)) s2 := fun B1 H1 x c Q q =>
  ha B1 H1 x c _ fun va B2 H2 x2 c2 r2 => hb B2 H2 (x.trans x2) c2 _ fun v B3 H3 x3 c3 r3 => by
    obtain ⟨l, vs, rfl, h3, r3⟩ := r3
    have e : vs = d.map V.int := Pr.eqmap r3
    subst e
    cases r2
    exact ⟨l, _, rfl, .inr (ex_t x3.bh h3), rfl, flat_ints d, q _ B3 H3 (x2.trans x3) c3 (by rw [if_pos rfl, inV_ints]; rfl)⟩
/-! ### int(n), int(b), min, max -/
def rInt1 : List V → Hp → VK → Prop := fun xs H Q => (∃ i, xs = [.int i] ∧ Q (.int i) H) ∨ ∃ k, xs = [.bl k] ∧ Q (.int (if k then 1 else 0)) H
theorem cl_int {X : Cx} : CallR X (.type "int") rInt1 := call_int1
theorem ev_intI {i : Int} (h : Ev Z (pI qI) te σ B H s i s1) : Ev Z (pI qI) (tCB rInt1 (tCons te tNil)) σ B H s i s1 := fun B1 H1 x c Q q => h B1 H1 x c _ fun v B2 H2 x2 c2 r2 => by
  cases r2
  exact .inl ⟨i, rfl, q _ B2 H2 x2 c2 rfl⟩
def b2i (b : Bool) : Int := if b then 1 else 0
theorem ev_intB {b : Bool} (h : Ev Z (pI qB) te σ B H s b s1) : Ev Z (pI qI) (tCB rInt1 (tCons te tNil)) σ B H s (b2i b) s1 := fun B1 H1 x c Q q => h B1 H1 x c _ fun v B2 H2 x2 c2 r2 => by
  cases r2
  exact .inr ⟨b, rfl, q _ B2 H2 x2 c2 rfl⟩
def rMax2 : List V → Hp → VK → Prop := fun xs H Q => ∃ i j, xs = [.int i, .int j] ∧ Q (.int (if j > i then j else i)) H
def rMin2 : List V → Hp → VK → Prop := fun xs H Q => ∃ i j, xs = [.int i, .int j] ∧ Q (.int (if j < i then j else i)) H
theorem cl_max {X : Cx} (hc : X.calm = true) : CallR X (.builtin "max") rMax2 := call_max2 hc
theorem cl_min {X : Cx} (hc : X.calm = true) : CallR X (.builtin "min") rMin2 := call_min2 hc
theorem ev_max {i j : Int} (ha : Ev Z (pI qI) ta σ B H s i s1) (hb : Ev Z (pI qI) tb σ B H s1 j s2) : Ev Z (pI qI) (tCB rMax2 (tCons ta (tCons tb tNil))) σ B H s (max i j) s2 := fun B1 H1 x c Q q =>
  ha B1 H1 x c _ fun va B2 H2 x2 c2 r2 => hb B2 H2 (x.trans x2) c2 _ fun vb B3 H3 x3 c3 r3 => by
    cases r2; cases r3
    exact ⟨i, j, rfl, q _ B3 H3 (x2.trans x3) c3 (congrArg V.int (by split <;> omega))⟩
theorem ev_min {i j : Int} (ha : Ev Z (pI qI) ta σ B H s i s1) (hb : Ev Z (pI qI) tb σ B H s1 j s2) : Ev Z (pI qI) (tCB rMin2 (tCons ta (tCons tb tNil))) σ B H s (min i j) s2 := fun B1 H1 x c Q q =>
  ha B1 H1 x c _ fun va B2 H2 x2 c2 r2 => hb B2 H2 (x.trans x2) c2 _ fun vb B3 H3 x3 c3 r3 => by
    cases r2; cases r3
    exact ⟨i, j, rfl, q _ B3 H3 (x2.trans x3) c3 (congrArg V.int (by split <;> omega))⟩
end
end LW
set_option Elab.async false
set_option linter.all false
set_option maxRecDepth 100000
set_option maxHeartbeats 4000000
/-! Lw4: calls, iteration, comprehensions, statements. -/
namespace LW
open PySem L2
/-- what a way of handing on keeps -/
structure Good {α : Type} (p : Post α) : Prop where
  go : ∀ {N N' : NP} {C C' : CP} {B H B' H' : Hp} {d : α} {Q : VK}, (∀ B2 H2, Ext N' B' H' B2 H2 → C' B2 H2 → Ext N B H B2 H2 ∧ C B2 H2) → (∀ l, H' l = none → H l = none) → p N C B H d Q → p N' C' B' H' d Q
theorem gI {α : Type} {R : Rel α} : Good (pI R) := ⟨fun h _ q v B2 H2 x c r => q v B2 H2 (h B2 H2 x c).1 (h B2 H2 x c).2 r⟩
theorem gL {α : Type} {R : Rel α} : Good (pL R) := ⟨fun h k q l vs B2 H2 x c n => q l vs B2 H2 (h B2 H2 x c).1 (h B2 H2 x c).2 (k l n)⟩
theorem gG : Good pG := ⟨fun h k q l rs B2 H2 x c n b hl r m => q l rs B2 H2 (h B2 H2 x c).1 (h B2 H2 x c).2 (k l n) b hl ⟨Pr.imp (fun r g z => ⟨k r z.1, z.2⟩) r.1, r.2⟩ m⟩
theorem Good.up {α : Type} {p : Post α} (g : Good p) {N : NP} {C : CP} {B H B' H' : Hp} {d : α} {Q : VK} (x : Ext N B H B' H') (q : p N C B H d Q) : p N C B' H' d Q := g.go (fun _ _ y c => ⟨x.trans y, c⟩) (fun _ n => x.new_none n) q
theorem Good.lift {α : Type} {p : Post α} (g : Good p) {N N' : NP} {C C' : CP} {B H : Hp} {d : α} {Q : VK} (h : ∀ B' H', Ext N' B H B' H' → C' B' H' → Ext N B H B' H' ∧ C B' H') (q : p N C B H d Q) : p N' C' B H d Q := g.go h (fun _ n => n) q
theorem Rows.back {N : NP} {B H B1 H1 B' H' : Hp} (x : Ext N B H B1 H1) {rs : List Addr} {gs : List (List Int)} (h : Rows H1 B' H' rs gs) : Rows H B' H' rs gs := ⟨Pr.imp (fun _ _ k => ⟨x.new_none k.1, k.2⟩) h.1, h.2⟩
/-- the promise of a def that computes f -/
def spf {α ρ : Type} (A : AR α) (f : α → Option ρ) (p : Post ρ) : Sp := fun vs H Q _ => ∃ B d r, Ex B H ∧ A B vs d ∧ f d = some r ∧ p N0 (fun _ _ => True) B H r Q
/-- .. that draws, the list of draws being its first argument -/
def spd {α ρ : Type} (A : AR α) (f : List Int → α → Option (ρ × List Int)) (p : Post ρ) : Sp := fun vs H Q _ => ∃ B l vs' ds d r ds', vs = .ref l :: vs' ∧ Ex B H ∧ (cD l).at_ ds B H ∧ A B vs' d ∧ f ds d = some (r, ds') ∧
  p (cD l).N ((cD l).at_ ds') B H r Q
section
variable {δ : Type} {α β γ ρ : Type} {Z : Cell δ} {σ : L2.St} {B H B' H' : Hp} {s s1 s2 s3 : δ} {ta tb tc te : TE} {t u : TT} {tas : TA} {K : PySem.W.Frag} {R : Rel α} {S : Rel β} {T : Rel γ}
theorem ev_call {A : AR α} {A' : AR β} {f : α → Option ρ} {p : Post ρ} {d' : β} {d : α} {r : ρ} {dvs : List V} (g : Good p) (ha : EvA Z A' tas σ B H s d' s1) (hA : ∀ B vs, A' B vs d' → A B (vs ++ dvs) d) (h : f d = some r) :
    Ev Z p (tCall (spf A f p) dvs E0 tas) σ B H s r s1 := fun B1 H1 x c Q q => ha B1 H1 x c _ fun vs B2 H2 x2 c2 r2 =>
  ⟨B2, d, r, x2.bh, hA _ _ r2, h, g.lift (fun B' H' y _ => ⟨y.up, Z.ext c2 y⟩) (g.up x2 q)⟩
theorem a_id {A : AR α} {d : α} : ∀ (B : Hp) (vs : List V), A B vs d → A B (vs ++ []) d := fun _ _ h => by rw [List.append_nil]; exact h
theorem ev_calld {l : Addr} {ds ds1 ds2 : List Int} {A : AR α} {f : List Int → α → Option (ρ × List Int)} {p : Post ρ} {d : α} {r : ρ} {i : Nat} (g : Good p) (hi : σ[i]? = some (some (.ref l))) (ha : EvA (cD l) A tas σ B H ds d ds1)
    (h : f ds1 d = some (r, ds2)) : Ev (cD l) p (tCall (spd A f p) [] E0 (tCons (tVar i) tas)) σ B H ds r ds2 := fun B1 H1 x c Q q => ⟨_, hi, ha B1 H1 x c _ fun vs B2 H2 x2 c2 r2 =>
  ⟨B2, l, vs ++ [], ds1, d, r, ds2, rfl, x2.bh, c2, a_id _ _ r2, h, g.up x2 q⟩⟩
/-- a list of the frame's own is lent to a def that hands back a plain value -/
theorem ev_callB {H0 : Hp} {l : Addr} {xs : List β} {A : AR α} {A' : AR γ} {f : α → Option ρ} {P : Rel ρ} {d' : γ} {d : α} {r : ρ} {dvs : List V} (o : Own S Z.N H0 B H l xs) (ha : EvA Z A' tas σ B H s d' s1)
    (hA : ∀ B vs ws, A' B vs d' → Paired (S.r B) ws xs → B l = none → A (upd B l (.lst ws)) (vs ++ dvs) d) (h : f d = some r) (hP : ∀ {B B' v a}, P.r B v a → P.r B' v a) :
    Ev Z (pI P) (tCall (spf A f (pI P)) dvs E0 tas) σ B H s r s1 := fun B1 H1 x c Q q => ha B1 H1 x c _ fun vs B2 H2 x2 c2 r2 => by
  obtain ⟨n0, n, nb, ws, h2, rw2⟩ := o.step (x.trans x2)
  have e2 : Ex (upd B2 l (.lst ws)) H2 := fun a u e => by
    by_cases z : a = l
    · subst z; rw [upd_same] at e; rw [h2]; exact e
    · rw [upd_ne z] at e; exact x2.bh a u e
  refine ⟨upd B2 l (.lst ws), d, r, e2, hA _ _ ws r2 rw2 nb, h, fun v B' H' y _ k => ?_⟩
  have y2 : Ext N0 B2 H2 (fun a => if a = l then none else B' a) H' := by
    refine ⟨fun a u e => ?_, y.h, fun a u e => ?_, fun a u e1 e3 => ?_, y.th⟩
    · have z : a ≠ l := ne_of_none e nb
      show (if a = l then none else B' a) = some u
      rw [if_neg z]
      exact y.b a u (by rw [upd_ne z]; exact e)
    · have e : (if a = l then none else B' a) = some u := e
      by_cases z : a = l
      · rw [if_pos z] at e; cases e
      · rw [if_neg z] at e; exact y.bh a u e
    · show (if a = l then none else B' a) = none
      by_cases z : a = l
      · rw [if_pos z]
      · rw [if_neg z]; exact y.fr a u e1 (by rw [upd_ne z]; exact e3)
  exact q v _ H' (x2.trans y2.up) (Z.ext c2 y2) (hP k)

/-! ### what is walked -/
structure WalkB (J : It) (Bs : Hp) (R : Rel α) (xs : List α) : Prop where
  goes : ∀ i H, i < xs.length → Ex Bs H → J.go i H
  stops : ∀ H, Ex Bs H → J.stop xs.length H
  yields : ∀ i x B H v H', Ex Bs B → Ex B H → xs[i]? = some x → J.yld i H v H' → ∃ B', Ext N0 B H B' H' ∧ R.r B' v x
def EvIt (Z : Cell δ) (R : Rel α) (wi : TI) (σ : L2.St) (B H : Hp) (s : δ) (xs : List α) (s' : δ) : Prop :=
  ∀ B1 H1, Ext Z.N B H B1 H1 → Z.at_ s B1 H1 → ∀ Rk : It → Hp → Prop, (∀ J B2 H2, Ext Z.N B1 H1 B2 H2 → Z.at_ s' B2 H2 → WalkB J B2 R xs → Rk J H2) → wi σ H1 Rk
theorem WalkB.of {J : It} {n : Nat} {G : Hp → Prop} {Y : Nat → Hp → V → Hp → Prop} {Bs : Hp} {xs : List α} (w : Walk J n G Y) (hn : n = xs.length) (hG : ∀ H, Ex Bs H → G H)
    (hY : ∀ i x B H v H', Ex Bs B → Ex B H → xs[i]? = some x → Y i H v H' → ∃ B', Ext N0 B H B' H' ∧ R.r B' v x) : WalkB J Bs R xs := by
  subst hn
  exact ⟨fun i H hi e => w.goes i H hi (hG H e), fun H e => w.stops H (hG H e), fun i x B H v H' e1 e2 hx y => hY i x B H v H' e1 e2 hx (w.yields i H v H' (List.getElem?_eq_some_iff.mp hx).1 (hG H (e1.trans e2)) y)⟩
theorem it_list {xs : List α} (h : Ev Z (pI (qL R)) te σ B H s xs s1) : EvIt Z R (iList K te) σ B H s xs s1 := fun B1 H1 x c Rk q => h B1 H1 x c _ fun v B2 H2 x2 c2 r2 => by
  obtain ⟨a, vs, rfl, h2, r2⟩ := r2
  refine ⟨a, rfl, ⟨vs, SqL.of (x2.bh _ _ h2)⟩, q _ B2 H2 x2 c2 (.of (walk_list (xs := vs)) (Pr.length r2) (fun H e => SqL.of (e _ _ h2)) fun i y B H v H' e1 e2 hy hv => ?_)⟩
  obtain ⟨rfl, hv⟩ := hv
  obtain ⟨w, e3, rw3⟩ := Pr.get r2 hy
  rw [hv] at e3; cases e3
  exact ⟨B, .refl e2, R.mono e1 rw3⟩
theorem it_tup {xs : List α} (h : Ev Z (pI (qT K R)) te σ B H s xs s1) : EvIt Z R (iTup K te) σ B H s xs s1 := fun B1 H1 x c Rk q => h B1 H1 x c _ fun v B2 H2 x2 c2 r2 => by
  obtain ⟨a, vs, rfl, h2, r2⟩ := r2
  refine ⟨a, rfl, ⟨vs, ex_t x2.bh h2⟩, q _ B2 H2 x2 c2 (.of (walk_tup (xs := vs)) (Pr.length r2) (fun H e => ex_t e h2) fun i y B H v H' e1 e2 hy hv => ?_)⟩
  obtain ⟨rfl, hv⟩ := hv
  obtain ⟨w, e3, rw3⟩ := Pr.get r2 hy
  rw [hv] at e3; cases e3
  exact ⟨B, .refl e2, R.mono e1 rw3⟩
/-- lo, lo + 1, .. below hi -/
def rng (lo hi : Int) : List Int := (List.range (hi - lo).toNat).map fun (i : Nat) => lo + (i : Int)
def rngO (lo hi : Int) : Option (List Int) := if -1000000 ≤ lo ∧ lo ≤ 1000000 ∧ -1000000 ≤ hi ∧ hi ≤ 1000000 then some (rng lo hi) else none
theorem rngO_ok {lo hi : Int} {xs : List Int} (h : rngO lo hi = some xs) : (-1000000 ≤ lo ∧ lo ≤ 1000000 ∧ -1000000 ≤ hi ∧ hi ≤ 1000000) ∧ rng lo hi = xs := by
  unfold rngO at h
  rcases iteS h with ⟨h1, h2⟩ | ⟨h1, h2⟩
  · exact ⟨h1, Option.some.inj h2⟩
  · cases h2
theorem rng_len (lo hi : Int) : (rng lo hi).length = (hi - lo).toNat := by unfold rng; rw [List.length_map, List.length_range]
theorem rng_get {lo hi : Int} {i : Nat} {x : Int} (h : (rng lo hi)[i]? = some x) : x = lo + (i : Int) := by
  unfold rng at h
  rw [List.getElem?_map] at h
  cases e : (List.range (hi - lo).toNat)[i]? with
  | none => rw [e] at h; cases h
  | some j =>
    rw [e] at h
    have hj : i = j := by
      obtain ⟨h1, h2⟩ := List.getElem?_eq_some_iff.mp e
      rw [List.getElem_range] at h2
      exact h2
    subst hj
    exact (Option.some.inj h).symm
theorem it_range1 {n : Int} {xs : List Int} (h : Ev Z (pI qI) te σ B H s n s1) (hx : rngO 0 n = some xs) : EvIt Z qI (iRng1 (tCons te tNil)) σ B H s xs s1 := fun B1 H1 x c Rk q => h B1 H1 x c _ fun v B2 H2 x2 c2 r2 => by
  cases r2
  obtain ⟨⟨k1, k2, k3, k4⟩, rfl⟩ := rngO_ok hx
  refine ⟨n, rfl, by omega, by omega, q _ B2 H2 x2 c2 (.of (walk_range (lo := 0) (n := n.toNat)) (by rw [rng_len]; congr 1; omega) (fun _ _ => trivial) fun i y B H v H' e1 e2 hy hv => ?_)⟩
  obtain ⟨rfl, hv⟩ := hv
  exact ⟨B, .refl e2, by rw [rng_get hy]; exact hv⟩
theorem it_range2 {lo n : Int} {xs : List Int} (h0 : Ev Z (pI qI) ta σ B H s lo s1) (h : Ev Z (pI qI) te σ B H s1 n s2) (hx : rngO lo n = some xs) : EvIt Z qI (iRng2 (tCons ta (tCons te tNil))) σ B H s xs s2 := fun B1 H1 x c Rk q =>
  h0 B1 H1 x c _ fun v0 B2 H2 x2 c2 r2 => h B2 H2 (x.trans x2) c2 _ fun v B3 H3 x3 c3 r3 => by
  cases r2; cases r3
  obtain ⟨⟨k1, k2, k3, k4⟩, rfl⟩ := rngO_ok hx
  refine ⟨lo, n, rfl, ⟨by omega, by omega, by omega, by omega⟩, q _ B3 H3 (x2.trans x3) c3 (.of (walk_range (lo := lo) (n := (n - lo).toNat)) (by rw [rng_len]) (fun _ _ => trivial) fun i y B H v H' e1 e2 hy hv => ?_)⟩
  obtain ⟨rfl, hv⟩ := hv
  exact ⟨B, .refl e2, by rw [rng_get hy]; exact hv⟩
def enumL {α : Type} (k : Int) : List α → List (Int × α)
  | [] => []
  | x :: xs => (k, x) :: enumL (k + 1) xs
theorem enumL_len {α : Type} : ∀ (xs : List α) (k : Int), (enumL k xs).length = xs.length
  | [], _ => rfl
  | _ :: xs, k => by unfold enumL; rw [List.length_cons, List.length_cons, enumL_len xs]
theorem enumL_get {α : Type} : ∀ {xs : List α} {k : Int} {i : Nat} {y : Int × α}, (enumL k xs)[i]? = some y → xs[i]? = some y.2 ∧ y.1 = k + (i : Int)
  | [], _, i, _, h => by simp [enumL] at h
  | x :: xs, k, 0, _, h => by
    simp [enumL] at h; subst h; simp
  | x :: xs, k, i + 1, y, h => by
    simp [enumL] at h
    obtain ⟨h1, h2⟩ := enumL_get h
    refine ⟨by simpa using h1, by rw [h2]; push_cast; omega⟩
theorem it_enumL {xs : List α} (h : Ev Z (pI (qL R)) te σ B H s xs s1) : EvIt Z (qP K qI R) (iEnum K (tCons te tNil)) σ B H s (enumL 0 xs) s1 := fun B1 H1 x c Rk q => h B1 H1 x c _ fun v B2 H2 x2 c2 r2 => by
  obtain ⟨a, vs, rfl, h2, r2⟩ := r2
  refine ⟨a, vs, rfl, SqL.of (x2.bh _ _ h2), q _ B2 H2 x2 c2 (.of (walk_enum (xs := vs)) (by rw [enumL_len, Pr.length r2]) (fun H e => SqL.of (e _ _ h2)) fun i y B H v H' e1 e2 hy hv => ?_)⟩
  obtain ⟨T, x1, y1, rfl, hT, rfl, hx1, hy1⟩ := hv
  cases hx1
  obtain ⟨hy2, hy3⟩ := enumL_get hy
  obtain ⟨w, e3, rw3⟩ := Pr.get r2 hy2
  have hy1 : vs[i]? = some y1 := hy1
  rw [hy1] at e3; cases e3
  exact ⟨upd B T _, Ext.newB e2 hT, T, _, _, rfl, SqT.of upd_same, by rw [hy3]; show V.int _ = V.int _; congr 1; omega, R.mono (e1.trans (Ex.new (e2.none hT))) rw3⟩

/-! ### loops -/
inductive Ctl (β ρ : Type) where
  | nx (b : β) | bk (b : β) | rt (r : ρ)
def forC {α β ρ : Type} (step : α → β → Option (Ctl β ρ)) : List α → β → Option (Ctl β ρ)
  | [], b => some (.nx b)
  | x :: xs, b => (step x b).bind fun c => match c with
    | .nx b' => forC step xs b'
    | .bk b' => some (.nx b')
    | .rt r => some (.rt r)
def forO {α β : Type} (step : α → β → Option β) : List α → β → Option β
  | [], b => some b
  | x :: xs, b => (step x b).bind fun b' => forO step xs b'
theorem drop_get {α : Type} {xs : List α} {i : Nat} {x : α} (h : xs[i]? = some x) : xs.drop i = x :: xs.drop (i + 1) := by
  obtain ⟨h1, h2⟩ := List.getElem?_eq_some_iff.mp h
  rw [← h2]; exact List.drop_eq_getElem_cons h1
/-- a for with returns and breaks -/
theorem st_forC {D : Ends} {wi : TI} {g : TG} {tb : TS} {xs : List α} (hit : EvIt Z R wi σ B H s xs s1) (e : Ex B H) (c : Z.at_ s B H) {step : α → β → Option (Ctl β ρ)} {b0 : β} {fin : Ctl β ρ} (hm : forC step xs b0 = some fin)
    (I : Hp → β → L2.St → Hp → Hp → Prop) (hI : ∀ Bs b σ B H, I Bs b σ B H → Ex Bs B ∧ Ex B H) (h0 : ∀ Bs Hs, Ext Z.N B H Bs Hs → Z.at_ s1 Bs Hs → I Bs b0 σ Bs Hs)
    (hs : ∀ Bs x b c σ B H, I Bs b σ B H → step x b = some c → (∀ r, c = .rt r → fin = .rt r) → ∀ v B' H', Ext N0 B H B' H' → R.r B' v x → (∀ b' σ' B' H', c = .bk b' → I Bs b' σ' B' H' → D.nx σ' H') →
      g v σ H' fun σ2 H2 => tb { D with nx := fun σ' H' => ∃ b' B', c = .nx b' ∧ I Bs b' σ' B' H', ct := fun σ' H' => ∃ b' B', c = .nx b' ∧ I Bs b' σ' B' H', bk := D.nx } σ2 H2)
    (hd : ∀ Bs b σ B H, I Bs b σ B H → fin = .nx b → D.nx σ H) : tFor wi g tb D σ H := by
  refine hit B H (.refl e) c _ fun J Bs Hs x1 c1 w => ?_
  refine ⟨fun i m σ H => m = xs.length - i ∧ i ≤ xs.length ∧ ∃ b B, I Bs b σ B H ∧ forC step (xs.drop i) b = some fin, ⟨xs.length, by simp, Nat.zero_le _, b0, Bs, h0 Bs Hs x1 c1, hm⟩, ?_⟩
  rintro i m σ H ⟨rfl, hi, b, B, hb, hf⟩
  obtain ⟨e1, e2⟩ := hI _ _ _ _ _ hb
  by_cases hlt : i < xs.length
  · have hx : xs[i]? = some xs[i] := by simp [hlt]
    generalize xs[i] = x at hx
    rw [drop_get hx] at hf
    obtain ⟨c, hc, hf⟩ := bindS hf
    refine .inr ⟨w.goes i H hlt (e1.trans e2), fun σ' H' => ∃ b' B', c = .nx b' ∧ I Bs b' σ' B' H', ?_, fun v H' y => ?_⟩
    · rintro σ' H' ⟨b', B', rfl, hb'⟩
      exact ⟨xs.length - (i + 1), by omega, rfl, hlt, b', B', hb', hf⟩
    · obtain ⟨B', x2, r2⟩ := w.yields i x B H v H' e1 e2 hx y
      refine hs Bs x b c σ B H hb hc (fun r q => ?_) v B' H' x2 r2 fun b' σ' B' H' q hb' => ?_
      · subst q; exact (Option.some.inj hf).symm
      · subst q; exact hd Bs b' σ' B' H' hb' (Option.some.inj hf).symm
  · have z : i = xs.length := by omega
    subst z
    rw [List.drop_length] at hf
    exact .inl ⟨w.stops H (e1.trans e2), hd Bs b σ B H hb (Option.some.inj hf).symm⟩
/-- a for that goes through -/
theorem st_forO {D : Ends} {wi : TI} {g : TG} {tb : TS} {xs : List α} (hit : EvIt Z R wi σ B H s xs s1) (e : Ex B H) (c : Z.at_ s B H) {step : α → β → Option β} {b0 : β} {fin : β} (hm : forO step xs b0 = some fin)
    (I : Hp → β → L2.St → Hp → Hp → Prop) (hI : ∀ Bs b σ B H, I Bs b σ B H → Ex Bs B ∧ Ex B H) (h0 : ∀ Bs Hs, Ext Z.N B H Bs Hs → Z.at_ s1 Bs Hs → I Bs b0 σ Bs Hs)
    (hs : ∀ Bs x b b1 σ B H, I Bs b σ B H → step x b = some b1 → ∀ v B' H', Ext N0 B H B' H' → R.r B' v x →
      g v σ H' fun σ2 H2 => tb { D with nx := fun σ' H' => ∃ B', I Bs b1 σ' B' H', ct := fun σ' H' => ∃ B', I Bs b1 σ' B' H', bk := D.nx } σ2 H2)
    (hd : ∀ Bs σ B H, I Bs fin σ B H → D.nx σ H) : tFor wi g tb D σ H := by
  refine hit B H (.refl e) c _ fun J Bs Hs x1 c1 w => ?_
  refine ⟨fun i m σ H => m = xs.length - i ∧ i ≤ xs.length ∧ ∃ b B, I Bs b σ B H ∧ forO step (xs.drop i) b = some fin, ⟨xs.length, by simp, Nat.zero_le _, b0, Bs, h0 Bs Hs x1 c1, hm⟩, ?_⟩
  rintro i m σ H ⟨rfl, hi, b, B, hb, hf⟩
  obtain ⟨e1, e2⟩ := hI _ _ _ _ _ hb
  by_cases hlt : i < xs.length
  · have hx : xs[i]? = some xs[i] := by simp [hlt]
    generalize xs[i] = x at hx
    rw [drop_get hx] at hf
    obtain ⟨b1, hc, hf⟩ := bindS hf
    refine .inr ⟨w.goes i H hlt (e1.trans e2), fun σ' H' => ∃ B', I Bs b1 σ' B' H', ?_, fun v H' y => ?_⟩
    · rintro σ' H' ⟨B', hb'⟩
      exact ⟨xs.length - (i + 1), by omega, rfl, hlt, b1, B', hb', hf⟩
    · obtain ⟨B', x2, r2⟩ := w.yields i x B H v H' e1 e2 hx y
      exact hs Bs x b b1 σ B H hb hc v B' H' x2 r2
  · have z : i = xs.length := by omega
    subst z
    rw [List.drop_length] at hf
    cases hf
    exact .inl ⟨w.stops H (e1.trans e2), hd Bs σ B H hb⟩

/-! ### comprehensions -/
def compS {α β δ : Type} (f : α → δ → Option (Option β × δ)) : List α → δ → Option (List β × δ)
  | [], s => some ([], s)
  | x :: xs, s => (f x s).bind fun r => (compS f xs r.2).bind fun q => some (r.1.toList ++ q.1, q.2)
/-- one turn of a comprehension's block: the target's store, the test, the element -/
structure Turn1 {p : Type} (Z : Cell δ) (P : Post β) (g : TG) (tt : TT) (te : TE) (vs : List Nat) (σ : L2.St) (B H : Hp) (v : V) (s : δ) (o : Option β) (s' : δ) : Prop where
  turn : ∃ σ2, (∀ B1 H1, Ext Z.N B H B1 H1 → ∀ Q, Q σ2 H1 → g v (wipe σ vs) H1 Q) ∧ wipe σ2 vs = wipe σ vs ∧ ∃ c s1, EvT Z tt σ2 B H s c s1 ∧ (c = true → ∃ y, o = some y ∧ Ev Z P te σ2 B H s1 y s') ∧ (c = false → o = none ∧ s' = s1)
theorem compS_drop {f : α → δ → Option (Option β × δ)} {xs : List α} {i : Nat} {x : α} {s s2 : δ} {ys : List β} (h : xs[i]? = some x) (hm : compS f (xs.drop i) s = some (ys, s2)) :
    ∃ o s1 zs, f x s = some (o, s1) ∧ compS f (xs.drop (i + 1)) s1 = some (zs, s2) ∧ ys = o.toList ++ zs := by
  rw [drop_get h] at hm
  obtain ⟨⟨o, s1⟩, h1, hm⟩ := bindS hm
  obtain ⟨⟨zs, s2'⟩, h2, hm⟩ := bindS hm
  cases hm
  exact ⟨o, s1, zs, h1, h2, rfl⟩
theorem ev_lcS {wi : TI} {g : TG} {tt : TT} {vs : List Nat} {f : α → δ → Option (Option β × δ)} {xs : List α} {ys : List β} (hit : EvIt Z R wi σ B H s xs s1) (hm : compS f xs s1 = some (ys, s2)) (hz : xs.length ≤ 100000)
    (hb : ∀ x v s o s' B1 H1, Ext Z.N B H B1 H1 → R.r B1 v x → f x s = some (o, s') → Turn1 (p := Unit) Z (pI S) g tt te vs σ B1 H1 v s o s') :
    Ev Z (pL S) (tLc wi g tt te vs) σ B H s ys s2 := fun B1 H1 x c Q q => by
  refine hit B1 H1 x c _ fun J Bs Hs x1 c1 w D hD => ?_
  have nD : ¬ Z.N D := fresh_nN c1 hD
  have h1D : H1 D = none := x1.new_none hD
  refine ⟨fun i m H => m = xs.length - i ∧ i ≤ xs.length ∧ ∃ B s zs acc rest, Ext Z.N B1 H1 B H ∧ Ex Bs B ∧ Z.at_ s B H ∧ B D = none ∧ H D = some (.lst acc) ∧ Paired (S.r B) acc zs ∧ compS f (xs.drop i) s = some (rest, s2) ∧ ys = zs ++ rest ∧ zs.length ≤ i, ⟨xs.length, by simp, Nat.zero_le _, Bs, s1, [], [], ys, ?_⟩, ?_⟩
  · exact ⟨x1.trans (Ext.newH x1.bh hD), .refl _, Z.wr c1 nD, x1.bh.none hD, upd_same, .nil, hm, rfl, Nat.zero_le _⟩
  rintro i m H ⟨rfl, hi, B, s, zs, acc, rest, y, eB, cs, bD, aD, pr, hf, rfl, zl⟩
  by_cases hlt : i < xs.length
  · have hx : xs[i]? = some xs[i] := by simp [hlt]
    generalize xs[i] = a at hx
    obtain ⟨o, s', ws, hf1, hf2, rfl⟩ := compS_drop hx hf
    refine .inr ⟨w.goes i H hlt (eB.trans y.bh), fun H' => ∃ B', Ext Z.N B1 H1 B' H' ∧ Ex Bs B' ∧ Z.at_ s' B' H' ∧ B' D = none ∧ ∃ acc', H' D = some (.lst acc') ∧ Paired (S.r B') acc' (zs ++ o.toList), ?_, fun v H' yl => ?_⟩
    · rintro H' ⟨B', k1, k2, k3, k4, acc', k5, k6⟩
      exact ⟨xs.length - (i + 1), by omega, rfl, hlt, B', s', zs ++ o.toList, acc', ws, k1, k2, k3, k4, k5, k6, hf2, by rw [List.append_assoc], by
        rw [List.length_append]
        have : o.toList.length ≤ 1 := by cases o <;> simp
        omega⟩
    · obtain ⟨B2, x2, r2⟩ := w.yields i a B H v H' eB y.bh hx yl
      have y2 : Ext Z.N B1 H1 B2 H' := y.trans x2.up
      have c2 : Z.at_ s B2 H' := Z.ext cs x2
      have bD2 : B2 D = none := x2.fr _ _ aD bD
      have aD2 : H' D = some (.lst acc) := x2.ex _ _ aD
      obtain ⟨σ2, hg, hw, cc, s1', ht, k1, k2⟩ := (hb a v s o s' B2 H' (x.trans y2) r2 hf1).turn
      refine hg B2 H' (.refl x2.bh) _ ⟨hw, ht B2 H' (.refl x2.bh) c2 _ fun B3 H3 x3 c3 => ?_⟩
      cases cc with
      | true =>
        obtain ⟨yv, rfl, he⟩ := k1 rfl
        show te σ2 H3 _
        refine he B3 H3 x3 c3 _ fun v4 B4 H4 x4 c4 r4 => ?_
        have aD4 : H4 D = some (.lst acc) := x4.h _ _ nD (x3.h _ _ nD aD2)
        have bD4 : B4 D = none := x4.fr _ _ (x3.h _ _ nD aD2) (x3.fr _ _ aD2 bD2)
        refine ⟨acc, aD4, sz_lt (by rw [Pr.length pr]; omega), B4, (y2.trans (x3.trans x4)).write h1D bD4, eB.trans (x2.b.trans (x3.b.trans x4.b)), Z.wr c4 nD, bD4, _, upd_same, ?_⟩
        exact Pr.snoc (Pr.mono (x2.b.trans (x3.b.trans x4.b)) pr) r4
      | false =>
        obtain ⟨rfl, rfl⟩ := k2 rfl
        show ∃ B', _
        exact ⟨B3, y2.trans x3, eB.trans (x2.b.trans x3.b), c3, x3.fr _ _ aD2 bD2, acc, x3.h _ _ nD aD2, by simpa using Pr.mono (x2.b.trans x3.b) pr⟩
  · have z : i = xs.length := by omega
    subst z
    rw [List.drop_length] at hf
    cases hf
    exact .inl ⟨w.stops H (eB.trans y.bh), by rw [List.append_nil] at q; exact q D acc B H y cs h1D bD aD pr⟩
/-- a list of new lists: a grid -/
theorem ev_lcG {wi : TI} {g : TG} {tt : TT} {vs : List Nat} {f : α → δ → Option (Option (List Int) × δ)} {xs : List α} {ys : List (List Int)} (hit : EvIt Z R wi σ B H s xs s1) (hm : compS f xs s1 = some (ys, s2)) (hz : xs.length ≤ 100000)
    (hb : ∀ x v s o s' B1 H1, Ext Z.N B H B1 H1 → R.r B1 v x → f x s = some (o, s') → Turn1 (p := Unit) Z (pL qI) g tt te vs σ B1 H1 v s o s') :
    Ev Z pG (tLc wi g tt te vs) σ B H s ys s2 := fun B1 H1 x c Q q => by
  refine hit B1 H1 x c _ fun J Bs Hs x1 c1 w D hD => ?_
  have nD : ¬ Z.N D := fresh_nN c1 hD
  have h1D : H1 D = none := x1.new_none hD
  refine ⟨fun i m H => m = xs.length - i ∧ i ≤ xs.length ∧ ∃ B s zs rs rest, Ext Z.N B1 H1 B H ∧ Ex Bs B ∧ Z.at_ s B H ∧ B D = none ∧ H D = some (.lst (rs.map V.ref)) ∧ Rows H1 B H rs zs ∧ D ∉ rs ∧ compS f (xs.drop i) s = some (rest, s2) ∧ ys = zs ++ rest ∧ zs.length ≤ i, ⟨xs.length, by simp, Nat.zero_le _, Bs, s1, [], [], ys, ?_⟩, ?_⟩
  · exact ⟨x1.trans (Ext.newH x1.bh hD), .refl _, Z.wr c1 nD, x1.bh.none hD, upd_same, ⟨.nil, .nil⟩, by simp, hm, rfl, Nat.zero_le _⟩
  rintro i m H ⟨rfl, hi, B, s, zs, rs, rest, y, eB, cs, bD, aD, pr, mD, hf, rfl, zl⟩
  have stepR : ∀ {B H B' H' : Hp}, Ext Z.N B1 H1 B H → Rows H1 B H rs zs → Ext Z.N B H B' H' → Rows H1 B' H' rs zs := fun y pr x => ⟨Pr.imp (fun r gg k => ⟨k.1, x.fr _ _ k.2.2 k.2.1, x.h _ _ (fun m => by
    obtain ⟨_, o, e⟩ := Z.out c m
    rw [e] at k; cases k.1) k.2.2⟩) pr.1, pr.2⟩
  by_cases hlt : i < xs.length
  · have hx : xs[i]? = some xs[i] := by simp [hlt]
    generalize xs[i] = a at hx
    obtain ⟨o, s', ws, hf1, hf2, rfl⟩ := compS_drop hx hf
    refine .inr ⟨w.goes i H hlt (eB.trans y.bh), fun H' => ∃ B', Ext Z.N B1 H1 B' H' ∧ Ex Bs B' ∧ Z.at_ s' B' H' ∧ B' D = none ∧ ∃ rs', H' D = some (.lst (rs'.map V.ref)) ∧ Rows H1 B' H' rs' (zs ++ o.toList) ∧ D ∉ rs', ?_, fun v H' yl => ?_⟩
    · rintro H' ⟨B', k1, k2, k3, k4, rs', k5, k6, k7⟩
      exact ⟨xs.length - (i + 1), by omega, rfl, hlt, B', s', zs ++ o.toList, rs', ws, k1, k2, k3, k4, k5, k6, k7, hf2, by rw [List.append_assoc], by
        rw [List.length_append]
        have : o.toList.length ≤ 1 := by cases o <;> simp
        omega⟩
    · obtain ⟨B2, x2, r2⟩ := w.yields i a B H v H' eB y.bh hx yl
      have y2 : Ext Z.N B1 H1 B2 H' := y.trans x2.up
      have c2 : Z.at_ s B2 H' := Z.ext cs x2
      have bD2 : B2 D = none := x2.fr _ _ aD bD
      have aD2 : H' D = some (.lst (rs.map V.ref)) := x2.ex _ _ aD
      obtain ⟨σ2, hg, hw, cc, s1', ht, k1, k2⟩ := (hb a v s o s' B2 H' (x.trans y2) r2 hf1).turn
      refine hg B2 H' (.refl x2.bh) _ ⟨hw, ht B2 H' (.refl x2.bh) c2 _ fun B3 H3 x3 c3 => ?_⟩
      cases cc with
      | true =>
        obtain ⟨yv, rfl, he⟩ := k1 rfl
        show te σ2 H3 _
        refine he B3 H3 x3 c3 _ fun l4 vs4 B4 H4 x4 c4 n4 b4 h4 r4 => ?_
        have aD4 : H4 D = some (.lst (rs.map V.ref)) := x4.h _ _ nD (x3.h _ _ nD aD2)
        have bD4 : B4 D = none := x4.fr _ _ (x3.h _ _ nD aD2) (x3.fr _ _ aD2 bD2)
        have y4 := y2.trans (x3.trans x4)
        have R4 : Rows H1 B4 H4 rs zs := stepR (y2.trans x3) (stepR y2 (stepR y pr x2.up) x3) x4
        have l1 : H1 l4 = none := (y2.trans x3).new_none n4
        have lD : l4 ≠ D := ne_of_none (x3.h _ _ nD aD2) n4 |>.symm
        have lm : l4 ∉ rs := fun hm => by
          obtain ⟨k, hk, hk2⟩ := List.getElem_of_mem hm
          have hk3 : rs[k]? = some l4 := by rw [← hk2]; simp [hk]
          obtain ⟨gg, _, q1, q2, q3⟩ := Pr.getV (stepR y2 (stepR y pr x2.up) x3).1 hk3
          rw [n4] at q3; cases q3
        have ev4 : vs4 = yv.map V.int := Pr.eqmap r4
        subst ev4
        refine ⟨rs.map V.ref, aD4, sz_lt (by rw [List.length_map, Pr.length pr.1]; omega), B4, y4.write h1D bD4, eB.trans (x2.b.trans (x3.b.trans x4.b)), Z.wr c4 nD, bD4, rs ++ [l4], ?_, ⟨?_, ?_⟩, ?_⟩
        · rw [upd_same, List.map_append]; rfl
        · exact Pr.snoc (Pr.impM (fun r gg hr k => ⟨k.1, k.2.1, (by
            have hne : r ≠ D := fun e => mD (by rw [← e]; exact hr)
            rw [upd_ne hne]; exact k.2.2)⟩) R4.1) ⟨l1, b4, by rw [upd_ne lD]; exact h4⟩
        · refine List.nodup_append.mpr ⟨R4.2, by simp, fun a ha b hb e => ?_⟩
          rw [List.mem_singleton] at hb
          subst hb; subst e
          exact lm ha
        · intro hm
          rcases List.mem_append.mp hm with hm | hm
          · exact mD hm
          · exact lD (List.mem_singleton.mp hm).symm
      | false =>
        obtain ⟨rfl, rfl⟩ := k2 rfl
        show ∃ B', _
        exact ⟨B3, y2.trans x3, eB.trans (x2.b.trans x3.b), c3, x3.fr _ _ aD2 bD2, rs, x3.h _ _ nD aD2, by simpa using stepR y2 (stepR y pr x2.up) x3, mD⟩
  · have z : i = xs.length := by omega
    subst z
    rw [List.drop_length] at hf
    cases hf
    exact .inl ⟨w.stops H (eB.trans y.bh), by rw [List.append_nil] at q; exact q D rs B H y cs h1D bD aD pr mD⟩
end
end LW
set_option Elab.async false
set_option linter.all false
set_option maxRecDepth 100000
set_option maxHeartbeats 4000000
/-! Lw5: statements. -/
namespace LW
open PySem L2
theorem Ext.go {N Nf : NP} {B0 H0 B H B1 H1 : Hp} (en : Ext Nf B0 H0 B H) (x : Ext N B H B1 H1) (hN : ∀ a, N a → Nf a ∨ H0 a = none) : Ext Nf B0 H0 B1 H1 :=
  ⟨en.b.trans x.b, fun a o n h => x.h a o (fun m => by
    rcases hN a m with q | q
    · exact n q
    · rw [q] at h; cases h) (en.h a o n h), x.bh, fun a o h n => let ⟨o', h'⟩ := en.th a o h; x.fr a o' h' (en.fr a o h n), fun a o h => let ⟨o', h'⟩ := en.th a o h; x.th a o' h'⟩
/-- where a def stands: entered at (B0, H0), now at (B, H), the cell at s -/
structure Wd {δ : Type} (Nf : NP) (B0 H0 : Hp) (Z : Cell δ) (s : δ) (B H : Hp) : Prop where
  en : Ext Nf B0 H0 B H
  c : Z.at_ s B H
  hN : ∀ a, Z.N a → Nf a ∨ H0 a = none
/-- a grid of this frame's: its rows too are outside the base -/
structure OwnG (N : NP) (H0 B H : Hp) (l : Addr) (rs : List Addr) (gs : List (List Int)) : Prop where
  n0 : H0 l = none
  nN : ¬ N l ∧ ∀ r ∈ rs, ¬ N r
  nb : B l = none
  lst : H l = some (.lst (rs.map V.ref))
  rows : Rows H0 B H rs gs
  ne : l ∉ rs
section
variable {δ : Type} {α β γ ρ : Type} {Z : Cell δ} {σ : L2.St} {B0 H0 B H B1 H1 B' H' : Hp} {Nf : NP} {s s1 s2 s3 : δ} {ta tb tc te : TE} {t u : TT} {tas : TA} {K : PySem.W.Frag} {R : Rel α} {S : Rel β} {T : Rel γ} {D : Ends} {tz tu tw : TS} {i j : Nat}
theorem Wd.e (w : Wd Nf B0 H0 Z s B H) : Ex B H := w.en.bh
theorem Wd.step (w : Wd Nf B0 H0 Z s B H) (x : Ext Z.N B H B1 H1) (c : Z.at_ s1 B1 H1) : Wd Nf B0 H0 Z s1 B1 H1 := ⟨w.en.go x w.hN, c, w.hN⟩
theorem Wd.n0 (w : Wd Nf B0 H0 Z s B H) {l : Addr} (h : H l = none) : H0 l = none := w.en.new_none h
theorem Own.mk' {l : Addr} {vs : List V} {d : List α} (w : Wd Nf B0 H0 Z s B H) (x : Ext Z.N B H B1 H1) (n : H l = none) (nb : B1 l = none) (h : H1 l = some (.lst vs)) (r : Paired (R.r B1) vs d) : Own R Z.N H0 B1 H1 l d := ⟨w.n0 n, fresh_nN w.c n, nb, vs, h, r⟩
/-- apart from what stood -/
theorem Own.ne {l p : Addr} {d : List α} {N : NP} (o : Own R N H0 B H l d) (n : H p = none) : l ≠ p := by
  obtain ⟨_, _, _, vs, h, _⟩ := o
  exact ne_of_none h n
theorem Own.other {l p : Addr} {d : List α} {N : NP} {u : HO} (o : Own R N H0 B H l d) (h : l ≠ p) : Own R N H0 B (upd H p u) l d := by
  obtain ⟨n0, nN, nb, vs, hl, r⟩ := o
  exact ⟨n0, nN, nb, vs, by rw [upd_ne h]; exact hl, r⟩
theorem Own.otherW {l p : Addr} {d : List α} {N : NP} (o : Own R N H0 B H l d) (h : l ≠ p) (w : ∃ u, H' = upd H p u) : Own R N H0 B H' l d := by
  obtain ⟨u, rfl⟩ := w; exact o.other h
theorem Own.otherB {l p : Addr} {d : List α} {N : NP} {u : HO} (o : Own R N H0 B H l d) (h : l ≠ p) (hp : B p = none) : Own R N H0 (upd B p u) H l d := by
  obtain ⟨n0, nN, nb, vs, hl, r⟩ := o
  exact ⟨n0, nN, by rw [upd_ne h]; exact nb, vs, hl, Pr.mono (Ex.new hp) r⟩
/-- a list of the frame's comes into the base for good -/
theorem Own.fz {l : Addr} {d : List α} (o : Own R Z.N H0 B H l d) (w : Wd Nf B0 H0 Z s B H) : ∃ B', Wd Nf B0 H0 Z s B' H ∧ Ex B B' ∧ (qL R).r B' (.ref l) d ∧ ∃ u, B' = upd B l u ∧ B l = none := by
  obtain ⟨n0, nN, nb, vs, hl, r⟩ := o
  exact ⟨_, ⟨w.en.freeze n0 nb hl, Z.fz w.c nN, w.hN⟩, Ex.new nb, ⟨l, vs, rfl, upd_same, Pr.mono (Ex.new nb) r⟩, _, rfl, nb⟩
/-! ### grids -/
theorem OwnG.step {l : Addr} {rs : List Addr} {gs : List (List Int)} {N : NP} (o : OwnG N H0 B H l rs gs) (x : Ext N B H B' H') : OwnG N H0 B' H' l rs gs :=
  ⟨o.n0, o.nN, x.fr _ _ o.lst o.nb, x.h _ _ o.nN.1 o.lst, ⟨Pr.impM (fun r g hr k => ⟨k.1, x.fr _ _ k.2.2 k.2.1, x.h _ _ (o.nN.2 r hr) k.2.2⟩) o.rows.1, o.rows.2⟩, o.ne⟩
theorem rows_some {H B1 H1 : Hp} {rs : List Addr} {gs : List (List Int)} {r : Addr} (h : Rows H B1 H1 rs gs) (hr : r ∈ rs) : H r = none ∧ B1 r = none ∧ ∃ g : List Int, H1 r = some (.lst (g.map V.int)) := by
  obtain ⟨k, hk, hk2⟩ := List.getElem_of_mem hr
  have hk3 : rs[k]? = some r := by rw [← hk2]; simp [hk]
  obtain ⟨g, _, q1, q2, q3⟩ := Pr.getV h.1 hk3
  exact ⟨q1, q2, g, q3⟩
theorem OwnG.mk' {l : Addr} {rs : List Addr} {gs : List (List Int)} (w : Wd Nf B0 H0 Z s B H) (n : H l = none) (nb : B1 l = none) (h : H1 l = some (.lst (rs.map V.ref))) (r : Rows H B1 H1 rs gs) (m : l ∉ rs) : OwnG Z.N H0 B1 H1 l rs gs :=
  ⟨w.n0 n, ⟨fresh_nN w.c n, fun r' hr => fresh_nN w.c (rows_some r hr).1⟩, nb, h, r.back w.en, m⟩
/-- a grid of the frame's comes into the base for good -/
theorem fz_rows {N : NP} : ∀ (rs : List Addr) (gs : List (List Int)) (B : Hp), Paired (fun r (g : List Int) => H0 r = none ∧ B r = none ∧ H r = some (.lst (g.map V.int))) rs gs → rs.Nodup → (∀ r ∈ rs, ¬ Z.N r) → Wd Nf B0 H0 Z s B H →
    ∃ B', Wd Nf B0 H0 Z s B' H ∧ Ex B B' ∧ (∀ p, p ∉ rs → B' p = B p) ∧ Paired ((qL qI).r B') (rs.map V.ref) gs
  | _, _, B, .nil, _, _, w => ⟨B, w, .refl _, fun _ _ => rfl, .nil⟩
  | r :: rs, g :: gs, B, .cons h t, nd, nN, w => by
    obtain ⟨h1, h2, h3⟩ := h
    have nd' := List.nodup_cons.mp nd
    have w1 : Wd Nf B0 H0 Z s (upd B r (.lst (g.map V.int))) H := ⟨w.en.freeze h1 h2 h3, Z.fz w.c (nN r List.mem_cons_self), w.hN⟩
    obtain ⟨B', w', e', k', p'⟩ := fz_rows (N := N) rs gs (upd B r (.lst (g.map V.int))) (Pr.impM (fun q g' hq k => ⟨k.1, (by
      have hne : q ≠ r := fun e => nd'.1 (by rw [← e]; exact hq)
      rw [upd_ne hne]; exact k.2.1), k.2.2⟩) t) nd'.2 (fun q hq => nN q (List.mem_cons_of_mem _ hq)) w1
    refine ⟨B', w', (Ex.new h2).trans e', fun p hp => ?_, .cons ⟨r, _, rfl, e' _ _ upd_same, Pr.map _⟩ p'⟩
    rw [List.mem_cons, not_or] at hp
    rw [k' p hp.2, upd_ne hp.1]
theorem OwnG.fz {l : Addr} {rs : List Addr} {gs : List (List Int)} (o : OwnG Z.N H0 B H l rs gs) (w : Wd Nf B0 H0 Z s B H) : ∃ B', Wd Nf B0 H0 Z s B' H ∧ Ex B B' ∧ (qL (qL qI)).r B' (.ref l) gs ∧ (∀ p, p ≠ l → p ∉ rs → B' p = B p) := by
  obtain ⟨B', w', e', k', p'⟩ := fz_rows (N := Z.N) rs gs B o.rows.1 o.rows.2 o.nN.2 w
  have nb : B' l = none := by rw [k' l o.ne]; exact o.nb
  refine ⟨upd B' l (.lst (rs.map V.ref)), ⟨w'.en.freeze o.n0 nb o.lst, Z.fz w'.c o.nN.1, w.hN⟩, e'.trans (Ex.new nb), ⟨l, _, rfl, upd_same, Pr.mono (Ex.new nb) p'⟩, fun p h1 h2 => ?_⟩
  rw [upd_ne h1, k' p h2]

/-! ### statements -/
theorem st_set {d : α} (h : Ev Z (pI R) te σ B H s d s1) (w : Wd Nf B0 H0 Z s B H) (k : ∀ v B1 H1, Ext Z.N B H B1 H1 → Wd Nf B0 H0 Z s1 B1 H1 → R.r B1 v d → tz D (σ.set i (some v)) H1) : tSeq (tAsg te (gName i)) tz D σ H :=
  h.run w.e w.c fun v B1 H1 x c r => k v B1 H1 x (w.step x c) r
theorem st_setL {d : List α} (h : Ev Z (pL R) te σ B H s d s1) (w : Wd Nf B0 H0 Z s B H) (k : ∀ l B1 H1, Ext Z.N B H B1 H1 → Wd Nf B0 H0 Z s1 B1 H1 → H l = none → Own R Z.N H0 B1 H1 l d → tz D (σ.set i (some (.ref l))) H1) : tSeq (tAsg te (gName i)) tz D σ H :=
  h.run w.e w.c fun l vs B1 H1 x c n b hl r => k l B1 H1 x (w.step x c) n (.mk' w x n b hl r)
theorem st_setG {d : List (List Int)} (h : Ev Z pG te σ B H s d s1) (w : Wd Nf B0 H0 Z s B H) (k : ∀ l rs B1 H1, Ext Z.N B H B1 H1 → Wd Nf B0 H0 Z s1 B1 H1 → H l = none → (∀ r ∈ rs, H r = none) → OwnG Z.N H0 B1 H1 l rs d → tz D (σ.set i (some (.ref l))) H1) : tSeq (tAsg te (gName i)) tz D σ H :=
  h.run w.e w.c fun l rs B1 H1 x c n b hl r m => k l rs B1 H1 x (w.step x c) n (fun r' hr => (rows_some r hr).1) (.mk' w n b hl r m)
theorem st_drop {d : α} (h : Ev Z (pI R) te σ B H s d s1) (w : Wd Nf B0 H0 Z s B H) (k : ∀ B1 H1, Ext Z.N B H B1 H1 → Wd Nf B0 H0 Z s1 B1 H1 → tz D σ H1) : tSeq (tDrop te) tz D σ H :=
  h.run w.e w.c fun v B1 H1 x c r => k B1 H1 x (w.step x c)
theorem st_next (k : D.nx σ H) : tNext D σ H := k
theorem st_ret {p : Post α} {d : α} {Q : VK} {C : CP} {nx bk ct} (g : Good p) (h : Ev Z p te σ B H s d s1) (w : Wd Nf B0 H0 Z s B H) (hC : ∀ B H, Z.at_ s1 B H → C B H) (q : p Nf C B0 H0 d Q) : tSeq (tRet te) tz { nx := nx, rt := Q, bk := bk, ct := ct } σ H :=
  h.run w.e w.c (g.go (fun B2 H2 x c => ⟨w.en.go x w.hN, hC _ _ c⟩) (fun _ n => w.n0 n) q)
/-- the frame's own list is handed back -/
theorem st_retO {d : List α} {l : Addr} {Q : VK} {C : CP} {nx bk ct} (o : Own R Z.N H0 B H l d) (hi : σ[i]? = some (some (.ref l))) (w : Wd Nf B0 H0 Z s B H) (hC : ∀ B H, Z.at_ s B H → C B H) (q : pL R Nf C B0 H0 d Q) : tSeq (tRet (tVar i)) tz { nx := nx, rt := Q, bk := bk, ct := ct } σ H := by
  obtain ⟨n0, nN, nb, vs, h, r⟩ := o
  exact ⟨_, hi, q l vs B H w.en (hC _ _ w.c) n0 nb h r⟩
theorem st_retG {d : List (List Int)} {l : Addr} {rs : List Addr} {Q : VK} {C : CP} {nx bk ct} (o : OwnG Z.N H0 B H l rs d) (hi : σ[i]? = some (some (.ref l))) (w : Wd Nf B0 H0 Z s B H) (hC : ∀ B H, Z.at_ s B H → C B H) (q : pG Nf C B0 H0 d Q) : tSeq (tRet (tVar i)) tz { nx := nx, rt := Q, bk := bk, ct := ct } σ H :=
  ⟨_, hi, q l rs B H w.en (hC _ _ w.c) o.n0 o.nb o.lst o.rows o.ne⟩
theorem st_if {b : Bool} (h : EvT Z t σ B H s b s1) (w : Wd Nf B0 H0 Z s B H) (k1 : b = true → ∀ B1 H1, Ext Z.N B H B1 H1 → Wd Nf B0 H0 Z s1 B1 H1 → tu { D with nx := tz D } σ H1) (k2 : b = false → ∀ B1 H1, Ext Z.N B H B1 H1 → Wd Nf B0 H0 Z s1 B1 H1 → tw { D with nx := tz D } σ H1) : tSeq (tIfS t tu tw) tz D σ H :=
  h.run w.e w.c fun B1 H1 x c => by
    cases b with
    | true => exact k1 rfl B1 H1 x (w.step x c)
    | false => exact k2 rfl B1 H1 x (w.step x c)
/-- behind a statement what follows is shown once, from M -/
theorem st_cut {M : L2.St → Hp → Prop} (h : tu { D with nx := M } σ H) (k : ∀ σ' H', M σ' H' → tz D σ' H') : Evl.tCut tu tz D σ H := ⟨M, h, k⟩
theorem st_ifc {b : Bool} (h : EvT Z t σ B H s b s1) (w : Wd Nf B0 H0 Z s B H) (M : L2.St → Hp → Prop) (k1 : b = true → ∀ B1 H1, Ext Z.N B H B1 H1 → Wd Nf B0 H0 Z s1 B1 H1 → tu { D with nx := M } σ H1) (k2 : b = false → ∀ B1 H1, Ext Z.N B H B1 H1 → Wd Nf B0 H0 Z s1 B1 H1 → tw { D with nx := M } σ H1)
    (k : ∀ σ' H', M σ' H' → tz D σ' H') : Evl.tCut (tIfS t tu tw) tz D σ H :=
  ⟨M, h.run w.e w.c fun B1 H1 x c => by
    cases b with
    | true => exact k1 rfl B1 H1 x (w.step x c)
    | false => exact k2 rfl B1 H1 x (w.step x c), k⟩
theorem st_for {wi : TI} {g : TG} (h : tFor wi g tu { D with nx := tz D } σ H) : tSeq (tFor wi g tu) tz D σ H := h
theorem st_forc {wi : TI} {g : TG} (M : L2.St → Hp → Prop) (h : tFor wi g tu { D with nx := M } σ H) (k : ∀ σ' H', M σ' H' → tz D σ' H') : Evl.tCut (tFor wi g tu) tz D σ H := ⟨M, h, k⟩
theorem st_aug {f : Int → Int → Int} {a b : Int} (hx : σ[i]? = some (some (.int a))) (h : Ev Z (pI qI) te σ B H s b s1) (w : Wd Nf B0 H0 Z s B H) (k : ∀ B1 H1, Ext Z.N B H B1 H1 → Wd Nf B0 H0 Z s1 B1 H1 → tz D (σ.set i (some (.int (f a b)))) H1) : tSeq (tAug i te (ipI f)) tz D σ H :=
  ⟨_, hx, h.run w.e w.c fun v B1 H1 x c r => ⟨a, b, rfl, r, k B1 H1 x (w.step x c)⟩⟩
/-- a, b = e, f, two plain names -/
theorem st_par {a : α} {b : β} (ha : Ev Z (pI R) ta σ B H s a s1) (hb : Ev Z (pI S) tb σ B H s1 b s2) (w : Wd Nf B0 H0 Z s B H) (k : ∀ v u B1 H1, Ext Z.N B H B1 H1 → Wd Nf B0 H0 Z s2 B1 H1 → R.r B1 v a → S.r B1 u b → tz D ((σ.set i (some v)).set j (some u)) H1) : tSeq (tPar i j (tCons ta (tCons tb tNil))) tz D σ H :=
  ha.run w.e w.c fun v B1 H1 x c r => hb B1 H1 x c _ fun u B2 H2 x2 c2 r2 => ⟨v, u, rfl, k v u B2 H2 (x.trans x2) (w.step (x.trans x2) c2) (R.mono x2.b r) r2⟩
/-! ### stores into lists of the frame's -/
def appO {α : Type} (xs : List α) (x : α) : Option (List α) := if xs.length < 1000000 then some (xs ++ [x]) else none
theorem appO_ok {xs ys : List α} {x : α} (h : appO xs x = some ys) : xs.length < 1000000 ∧ xs ++ [x] = ys := by
  unfold appO at h
  rcases iteS h with ⟨h1, h2⟩ | ⟨h1, h2⟩
  · exact ⟨h1, Option.some.inj h2⟩
  · cases h2
theorem Wd.wr {l : Addr} {u : HO} (w : Wd Nf B0 H0 Z s B H) (n0 : H0 l = none) (nN : ¬ Z.N l) (nb : B l = none) : Wd Nf B0 H0 Z s B (upd H l u) := ⟨w.en.write n0 nb, Z.wr w.c nN, w.hN⟩
theorem st_app {l : Addr} {xs ys : List α} {d : α} (o : Own R Z.N H0 B H l xs) (hi : σ[i]? = some (some (.ref l))) (h : Ev Z (pI R) te σ B H s d s1) (w : Wd Nf B0 H0 Z s B H) (hy : appO xs d = some ys)
    (k : ∀ B1 H1 H2, Ext Z.N B H B1 H1 → (∃ u, H2 = upd H1 l u) → Wd Nf B0 H0 Z s1 B1 H2 → Own R Z.N H0 B1 H2 l ys → tz D σ H2) : tSeq (tDrop (tBM K "list" rAppend (tVar i) (tCons te tNil))) tz D σ H := by
  obtain ⟨hz, rfl⟩ := appO_ok hy
  obtain ⟨n0, nN, nb, vs, hl, r⟩ := o
  refine ⟨_, hi, .inl ⟨rfl, vs, SqL.of hl⟩, h.run w.e w.c fun v B1 H1 x c rv => ?_⟩
  have nb1 : B1 l = none := x.fr _ _ hl nb
  have hl1 := x.h _ _ nN hl
  exact ⟨l, vs, v, rfl, rfl, hl1, sz_lt (by rw [Pr.length r]; exact hz), k B1 H1 _ x ⟨_, rfl⟩ ((w.step x c).wr n0 nN nb1) ⟨n0, nN, nb1, _, upd_same, Pr.snoc (Pr.mono x.b r) rv⟩⟩
theorem st_rev {l : Addr} {xs : List α} (o : Own R Z.N H0 B H l xs) (hi : σ[i]? = some (some (.ref l))) (w : Wd Nf B0 H0 Z s B H)
    (k : ∀ H2, (∃ u, H2 = upd H l u) → Wd Nf B0 H0 Z s B H2 → Own R Z.N H0 B H2 l xs.reverse → tz D σ H2) : tSeq (tDrop (tBM0 K "list" rReverse (tVar i))) tz D σ H := by
  obtain ⟨n0, nN, nb, vs, hl, r⟩ := o
  exact ⟨_, hi, .inl ⟨rfl, vs, SqL.of hl⟩, l, vs, rfl, rfl, hl, k _ ⟨_, rfl⟩ (w.wr n0 nN nb) ⟨n0, nN, nb, _, upd_same, Pr.rev r⟩⟩
def setO {α : Type} (xs : List α) (i : Int) (x : α) : Option (List α) := (ixN xs.length i).map fun j => xs.set j x
theorem setO_ok {xs ys : List α} {n : Int} {x : α} (h : setO xs n x = some ys) : ∃ j, ixN xs.length n = some j ∧ xs.set j x = ys := by
  unfold setO at h
  cases q : ixN xs.length n with
  | none => rw [q] at h; cases h
  | some j => rw [q] at h; exact ⟨j, rfl, Option.some.inj h⟩
theorem st_setI {l : Addr} {xs ys : List α} {d : α} {n : Int} (o : Own R Z.N H0 B H l xs) (hi : σ[i]? = some (some (.ref l))) (h : Ev Z (pI R) te σ B H s d s1) (hn : Ev Z (pI qI) ta σ B H s1 n s2) (w : Wd Nf B0 H0 Z s B H) (hy : setO xs n d = some ys)
    (k : ∀ B1 H1 H2, Ext Z.N B H B1 H1 → (∃ u, H2 = upd H1 l u) → Wd Nf B0 H0 Z s2 B1 H2 → Own R Z.N H0 B1 H2 l ys → tz D σ H2) : tSeq (tAsg te (gSub (tVar i) ta rSetL)) tz D σ H := by
  obtain ⟨j, hj, rfl⟩ := setO_ok hy
  obtain ⟨n0, nN, nb, vs, hl, r⟩ := o
  refine h.run w.e w.c fun v B1 H1 x c rv => ⟨_, hi, hn B1 H1 x c _ fun u B2 H2 x2 c2 r2 => ?_⟩
  cases r2
  have nb2 : B2 l = none := (x.trans x2).fr _ _ hl nb
  have hl2 := (x.trans x2).h _ _ nN hl
  exact ⟨l, vs, n, j, rfl, rfl, hl2, by rw [Pr.length r]; exact hj, k B2 H2 _ (x.trans x2) ⟨_, rfl⟩ ((w.step (x.trans x2) c2).wr n0 nN nb2) ⟨n0, nN, nb2, _, upd_same, Pr.set (R.mono x2.b rv) j (Pr.mono (x.trans x2).b r)⟩⟩
/-- xs[a], xs[b] = e, f -/
def set2O {α : Type} (xs : List α) (a : Int) (x : α) (b : Int) (y : α) : Option (List α) := (setO xs a x).bind fun ys => setO ys b y
theorem st_set2 {l : Addr} {xs ys : List α} {d1 d2 : α} {n1 n2 : Int} {tn1 tn2 : TE} (o : Own R Z.N H0 B H l xs) (hi : σ[i]? = some (some (.ref l))) (h1 : Ev Z (pI R) ta σ B H s d1 s) (h2 : Ev Z (pI R) tb σ B H s d2 s)
    (hn1 : Ev Z (pI qI) tn1 σ B H s n1 s) (hn2 : ∀ B H, Ev Z (pI qI) tn2 σ B H s n2 s) (w : Wd Nf B0 H0 Z s B H) (hy : set2O xs n1 d1 n2 d2 = some ys)
    (k : ∀ B1 H1 H2, Ext Z.N B H B1 H1 → (∃ u, H2 = upd H1 l u) → Wd Nf B0 H0 Z s B1 H2 → Own R Z.N H0 B1 H2 l ys → tz D σ H2) :
    tSeq (tAsg (tTup (tCons ta (tCons tb tNil))) (gTup K 2 (gCons (gSub (tVar i) tn1 rSetL) (gCons (gSub (tVar i) tn2 rSetL) gNil)))) tz D σ H := by
  obtain ⟨zs, e1, e2⟩ := bindS hy
  obtain ⟨j1, hj1, rfl⟩ := setO_ok e1
  obtain ⟨j2, hj2, rfl⟩ := setO_ok e2
  have o' := o
  obtain ⟨n0, nN, nb, vs, hl, r⟩ := o'
  refine h1.run w.e w.c fun v1 B1 H1 x1 c1 r1 => h2 B1 H1 x1 c1 _ fun v2 B2 H2 x2 c2 r2 => ⟨sz_of (by show 2 ≤ 1000000; decide), fun p hp => ?_⟩
  have x12 := (x1.trans x2).trans (Ext.newB (N := Z.N) (o := .tup [v1, v2]) x2.bh hp)
  have c3 : Z.at_ s (upd B2 p (.tup [v1, v2])) (upd H2 p (.tup [v1, v2])) := Z.wr (Z.fz c2 (fresh_nN c2 hp)) (fresh_nN c2 hp)
  refine ⟨p, [v1, v2], rfl, SqT.of upd_same, rfl, v1, [v2], rfl, _, hi, hn1 _ _ x12 c3 _ fun u3 B3 H3 x3 c3' r3 => ?_⟩
  cases r3
  have nb3 : B3 l = none := (x12.trans x3).fr _ _ hl nb
  have hl3 := (x12.trans x3).h _ _ nN hl
  have pp : Paired (R.r B3) (vs.set j1 v1) (xs.set j1 d1) := Pr.set (R.mono (x2.b.trans ((Ex.new (x2.bh.none hp)).trans x3.b)) r1) j1 (Pr.mono (x12.trans x3).b r)
  refine ⟨l, vs, n1, j1, rfl, rfl, hl3, by rw [Pr.length r]; exact hj1, v2, [], rfl, _, hi, hn2 B3 (upd H3 l (.lst (vs.set j1 v1))) _ _ (.refl (x3.bh.mut nb3)) (Z.wr c3' nN) _ fun u4 B4 H4 x4 c4 r4 => ?_⟩
  cases r4
  have nb4 : B4 l = none := x4.fr _ _ upd_same nb3
  have hl4 : H4 l = some (.lst (vs.set j1 v1)) := x4.h _ _ nN upd_same
  refine ⟨l, _, n2, j2, rfl, rfl, hl4, by rw [List.length_set, Pr.length r]; rw [List.length_set] at hj2; exact hj2, rfl, ?_⟩
  have w4 : Wd Nf B0 H0 Z s B3 (upd H3 l (.lst (vs.set j1 v1))) := (w.step (x12.trans x3) c3').wr n0 nN nb3
  have r2' : R.r B4 v2 d2 := R.mono ((Ex.new (x2.bh.none hp)).trans (x3.b.trans x4.b)) r2
  -- the heap ahead of the second store, told from (B, H)
  have xx : Ext (fun a => Z.N a ∨ a = l) B H B4 H4 := by
    have y1 : Ext (fun a => Z.N a ∨ a = l) B H B3 (upd H3 l (.lst (vs.set j1 v1))) := by
      have y := x12.trans x3
      refine ⟨y.b, fun a u n h => ?_, y.bh.mut nb3, y.fr, fun a u h => ?_⟩
      · rw [not_or] at n
        rw [upd_ne n.2]; exact y.h a u n.1 h
      · by_cases z : a = l
        · subst z; exact ⟨_, upd_same⟩
        · rw [upd_ne z]; exact y.th a u h
    exact y1.trans ⟨x4.b, fun a u n h => x4.h a u (fun m => n (.inl m)) h, x4.bh, x4.fr, x4.th⟩
  refine k B4 (upd H4 l (.lst vs)) _ ?_ ⟨.lst ((vs.set j1 v1).set j2 v2), by rw [upd_upd]⟩ ((w4.step x4 c4).wr n0 nN nb4) ⟨n0, nN, nb4, _, upd_same, Pr.set r2' j2 (Pr.mono x4.b pp)⟩
  refine ⟨xx.b, fun a u n h => ?_, xx.bh.mut nb4, xx.fr, fun a u h => ?_⟩
  · by_cases z : a = l
    · subst z; rw [upd_same]; rw [hl] at h; exact h
    · rw [upd_ne z]; exact xx.h a u (fun m => m.elim n z) h
  · by_cases z : a = l
    · subst z; exact ⟨_, upd_same⟩
    · rw [upd_ne z]; exact xx.th a u h
def gsetO (g : List (List Int)) (x y d : Int) : Option (List (List Int)) := (ixN g.length x).bind fun i => (g[i]?).bind fun row => (ixN row.length y).map fun j => g.set i (row.set j d)
theorem gsetO_ok {g g' : List (List Int)} {x y d : Int} (h : gsetO g x y d = some g') : ∃ i row j, ixN g.length x = some i ∧ g[i]? = some row ∧ ixN row.length y = some j ∧ g.set i (row.set j d) = g' := by
  unfold gsetO at h
  obtain ⟨i, h1, h⟩ := bindS h
  obtain ⟨row, h2, h⟩ := bindS h
  cases q : ixN row.length y with
  | none => rw [q] at h; cases h
  | some j => rw [q] at h; exact ⟨i, row, j, h1, h2, q, Option.some.inj h⟩
theorem nd_get {rs : List Addr} (h : rs.Nodup) {i j : Nat} {a : Addr} (h1 : rs[i]? = some a) (h2 : rs[j]? = some a) : i = j := L2.nd_ix h h1 h2
theorem rows_set {H B1 H1 : Hp} {rs : List Addr} {gs : List (List Int)} {i : Nat} {r : Addr} {g : List Int} (h : Rows H B1 H1 rs gs) (hr : rs[i]? = some r) : Rows H B1 (upd H1 r (.lst (g.map V.int))) rs (gs.set i g) := by
  refine ⟨?_, h.2⟩
  have key : ∀ (rs : List Addr) (gs : List (List Int)) (i : Nat), Paired (fun r g => H r = none ∧ B1 r = none ∧ H1 r = some (.lst (g.map V.int))) rs gs → rs[i]? = some r → rs.Nodup → Paired (fun q g' => H q = none ∧ B1 q = none ∧ upd H1 r (.lst (g.map V.int)) q = some (.lst (g'.map V.int))) rs (gs.set i g) := by
    intro rs
    induction rs with
    | nil => intro gs i h e _; simp at e
    | cons q qs ih =>
      intro gs i h e nd
      have nd' := List.nodup_cons.mp nd
      cases h with
      | @cons _ g0 _ gs0 h t =>
        cases i with
        | zero =>
          simp at e; subst e
          refine .cons ⟨h.1, h.2.1, upd_same⟩ (Pr.impM (fun z g' hz k => ⟨k.1, k.2.1, ?_⟩) t)
          have hne : z ≠ q := fun e => nd'.1 (by rw [← e]; exact hz)
          rw [upd_ne hne]; exact k.2.2
        | succ i =>
          have e' : qs[i]? = some r := by simpa using e
          have hne : q ≠ r := fun z => nd'.1 (by rw [z]; exact List.mem_of_getElem? e')
          exact .cons ⟨h.1, h.2.1, by rw [upd_ne hne]; exact h.2.2⟩ (ih gs0 i t e' nd'.2)
  exact key rs gs i h.1 hr h.2
/-- g[x][y] = e -/
theorem st_gset {l : Addr} {rs : List Addr} {g g' : List (List Int)} {d n m : Int} (o : OwnG Z.N H0 B H l rs g) (hi : σ[i]? = some (some (.ref l))) (h : Ev Z (pI qI) te σ B H s d s1) (hn : Ev Z (pI qI) ta σ B H s1 n s1) (hm : Ev Z (pI qI) tb σ B H s1 m s1) (w : Wd Nf B0 H0 Z s B H) (hy : gsetO g n m d = some g')
    (k : ∀ B1 H1 H2, Ext Z.N B H B1 H1 → (∃ r u, r ∈ rs ∧ H2 = upd H1 r u) → Wd Nf B0 H0 Z s1 B1 H2 → OwnG Z.N H0 B1 H2 l rs g' → tz D σ H2) : tSeq (tAsg te (gSub (tOp (rIxL K) (tVar i) ta) tb rSetL)) tz D σ H := by
  obtain ⟨x, row, y, hx, hrow, hy2, rfl⟩ := gsetO_ok hy
  refine h.run w.e w.c fun v B1 H1 x1 c1 r1 => ⟨_, hi, hn B1 H1 x1 c1 _ fun u B2 H2 x2 c2 r2 => ?_⟩
  cases r1; cases r2
  have o2 := o.step (x1.trans x2)
  obtain ⟨r, hr, q1, q2, q3⟩ := Pr.get o2.rows.1 hrow
  have hlen : (rs.map V.ref).length = g.length := by rw [List.length_map]; exact Pr.length o2.rows.1
  refine ⟨l, rs.map V.ref, n, .ref r, rfl, rfl, SqL.of o2.lst, ?_, hm B2 H2 (x1.trans x2) c2 _ fun u3 B3 H3 x3 c3 r3 => ?_⟩
  · unfold atI
    rw [hlen, hx]
    show (rs.map V.ref)[x]? = _
    rw [List.getElem?_map, hr]; rfl
  · cases r3
    have o3 := o2.step x3
    obtain ⟨r', hr', p1, p2, p3⟩ := Pr.get o3.rows.1 hrow
    rw [hr] at hr'; cases hr'
    have hmem : r ∈ rs := List.mem_of_getElem? hr
    refine ⟨r, row.map V.int, m, y, rfl, rfl, p3, by rw [List.length_map]; exact hy2, ?_⟩
    have hset : (row.map V.int).set y (.int d) = (row.set y d).map V.int := by rw [List.map_set]
    rw [hset]
    have hlr : l ≠ r := fun e => o.ne (by rw [e]; exact hmem)
    exact k B3 H3 _ ((x1.trans x2).trans x3) ⟨r, _, hmem, rfl⟩ ((w.step ((x1.trans x2).trans x3) c3).wr p1 (o.nN.2 r hmem) p2)
      ⟨o3.n0, o3.nN, o3.nb, by rw [upd_ne hlr]; exact o3.lst, rows_set o3.rows hr, o3.ne⟩
/-- a grid's row is stored for good: g[x] = e is not served; other lists stay -/
theorem Own.otherG {l p : Addr} {d : List α} {N : NP} {rs : List Addr} (o : Own R N H0 B H l d) (h : l ∉ rs) (w : ∃ r u, r ∈ rs ∧ H' = upd H r u) : Own R N H0 B H' l d := by
  obtain ⟨r, u, hr, rfl⟩ := w
  exact o.other fun e => h (by rw [e]; exact hr)
end
end LW
set_option Elab.async false
set_option linter.all false
set_option maxRecDepth 100000
set_option maxHeartbeats 4000000
/-! LwEn: enumerate(tuple). -/
namespace PySem
open Sem (wp)
set_option maxHeartbeats 4000000 in
theorem lw_meets_enum {v : Value} {o : Obj} {H : Heap → Prop} (B : Begins v o H) :
    Meets (Builtin.«enumerate.__new__» ⟨[.type "enumerate", v], []⟩) (fun _ R s => H s.heap ∧
      R (.ok (.ret (.ref (s.heap.push o).objs.size))) { s with heap := (s.heap.push o).push { cls := .type "enumerate", data := .fields #[.none, .bool false, .ref s.heap.objs.size, rawInt 0, .none, .none] } }) :=
  .of_wp fun prog w A R s h => by
    obtain ⟨hp, g, d, tk, os⟩ := s; obtain ⟨h1, h⟩ := h
    have hsub := sub_enumerate
    have q1 : ∀ {A' : Around} {E : Value → Shared → Prop} {Q : Value → Shared → Prop}, Q (.ref hp.objs.size) ⟨hp.push o, g, d, tk, os⟩ → wpAny (model prog w) A' (pyIter v) Q E ⟨hp, g, d, tk, os⟩ :=
      fun q => B.iter prog w _ _ ⟨hp, g, d, tk, os⟩ _ h1 q
    wp_walk using q1
    refine wpAny_stack_any fun st => wpAny_pure ?_
    split
    · rename_i c _ _ _ _ _
      cases (c == Value.type "enumerate")
      · wp_walk using q1
        exact ⟨_, rfl, h⟩
      · wp_walk using q1
        exact ⟨_, rfl, h⟩
    · wp_walk using q1
      exact ⟨_, rfl, h⟩
section
variable {prog : Program} {w : World} {A : Around} {E : Value → Shared → Prop} {s : Shared}
theorem lw_enum_begins {v : Value} {o : Obj} {H : Heap → Prop} {Q : Value → Shared → Prop} (B : Begins v o H) (h1 : H s.heap)
    (h : ∀ h', IsEnum h' (s.heap.objs.size + 1) s.heap.objs.size 0 .none → h'.get? s.heap.objs.size = some o → h'.objs.size = s.heap.objs.size + 2 →
      (∀ b o, s.heap.get? b = some o → h'.get? b = some o) → Q (.ref (s.heap.objs.size + 1)) { s with heap := h' }) :
    wpAny (model prog w) A (call (.type "enumerate") [v]) Q E s := by
  refine callType_new F.called_enumerate (by decide) (F.typeCall_enumerate_1 _) (F.newCall_enumerate_1 _) (fun obj => F.args_object_init_2 obj _) F.entry_enumerate_new
    (lw_meets_enum B) ⟨h1, ?_⟩
  have hz : (s.heap.push o).objs.size = s.heap.objs.size + 1 := Heap.size_push ..
  show _ ∧ _
  rw [hz]
  have he : IsEnum ((s.heap.push o).push { cls := .type "enumerate", data := .fields #[.none, .bool false, .ref s.heap.objs.size, rawInt 0, .none, .none] }) (s.heap.objs.size + 1) s.heap.objs.size 0 .none := by
    have := Heap.get?_push_size (s.heap.push o) (o := { cls := .type "enumerate", data := .fields #[.none, .bool false, .ref s.heap.objs.size, rawInt 0, .none, .none] }) rfl
    rw [hz] at this; exact this
  refine ⟨⟨_, he, rfl⟩, h _ he (Heap.get?_push_of_some _ (Heap.get?_push_size _ B.free)) (by rw [Heap.size_push, hz]) fun b o x => Heap.get?_push_of_some _ (Heap.get?_push_of_some _ x)⟩
theorem lw_enumT_end {e it l : Addr} {i : Nat} {items : Array Value} {old : Value} {Q : Option Value → Shared → Prop} (hh : A.in1.in1.handled = none)
    (he : IsEnum s.heap e it i old) (hit : s.heap.IsTupleIter it l i) (hl : s.heap.IsTuple l items) (hx : items[i]? = none)
    (hQ : ∀ h', Heap.ExtBut it s.heap h' → Q none { s with heap := h' }) : wpAny (model prog w) A (pyNext (.ref e)) Q E s := by
  have hT : s.TypeIs (.ref e) "enumerate" := ⟨_, he, rfl⟩
  unfold pyNext
  refine wpAny_bind (wpAny_attempt (wpAny_callSpecial?_slot (name := Str.ofString "__next__") hT F.slot_enumerate_next
    (wpAny_call_entry F.slot_enumerate_next hT F.entry_enumerate_next ?_ (F.args_enumerate_next_1 _))))
  show wpAny _ _ (field (.ref e) 2 >>= _) _ _ _
  refine wpAny_bind (wpAny_field he rfl (x := .ref it) rfl ?_)
  refine wpAny_bind (wpAny_nextOf_tuple_end hh hit hl hx fun h' x he' hx' => ?_)
  obtain ⟨o, ho, hc⟩ := hx'
  refine wpAny_bind (wpAny_isInstance (T := "StopIteration") (b := true) ⟨o, ho, hc⟩ isSubtype_stop ?_)
  exact wpAny_pure (hQ _ he')
end
end PySem
namespace L2
open PySem PySem.Spec PyProof.Rows
/-- the tuple at a, each item in a new pair -/
def lwIteT (K : PySem.W.Frag) (a : Addr) : It :=
  ⟨fun i H => ∃ (xs : List V) (x : V), SqT K H a xs ∧ xs[i]? = some x, fun i H v H' => ∃ T x, v = .ref T ∧ H T = none ∧ H' = upd H T (.tup [.int (i : Nat), x]) ∧ ∀ xs, SqT K H a xs → xs[i]? = some x, fun i H => ∃ xs : List V, SqT K H a xs ∧ xs.length ≤ i⟩
theorem lw_turn_enumT {P : Program} {w : World} {K : PySem.W.Frag} {elts : List Expr} {kk : Nat} {tpos : Pos} (a e it : Addr) :
    Turn P w K (.Tuple elts kk tpos) (lwIteT K a) [e, it] e (fun i h => (∃ old, IsEnum h e it ((i : Nat) : Int) old) ∧ h.IsTupleIter it a i ∧ e ≠ it) where
  mem := by simp
  obj := fun i h st b hb => by
    obtain ⟨⟨old, he⟩, ⟨o, ho, hc, hd⟩, _⟩ := st
    have e' : b = e ∨ b = it := by simpa using hb
    rcases e' with z | z
    · rw [z]; exact ⟨_, he, fun v q => nomatch q⟩
    · rw [z]; exact ⟨o, ho, fun v q => by rw [hd] at q; cases q⟩
  keep := fun i h h' st k => let ⟨⟨old, he⟩, hi, hne⟩ := st; ⟨⟨old, k e (by simp) _ he⟩, hi.at fun o q => k it (by simp) o q, hne⟩
  item := by
    intro X hP hw hK hc i pins s σ H E I hf st hg
    subst hP hw hK
    obtain ⟨⟨old, he⟩, hit, hne⟩ := st
    obtain ⟨xs, x, hq, hx⟩ := hg
    obtain ⟨its, rv, p, hz⟩ := I.tuple hq
    obtain ⟨u, hu, ru⟩ := rv.get hx
    have hel : e < s.heap.objs.size := Heap.lt_size he
    have hil : it < s.heap.objs.size := by obtain ⟨_, q, _⟩ := hit; exact Heap.lt_size q
    have hal : a ≠ it := fun z => by
      obtain ⟨o1, h1, h2, _⟩ := hit
      obtain ⟨o2, h3, h4, _⟩ := p
      rw [z, h1] at h3; cases h3
      rw [h2] at h4; exact absurd h4 (by simp)
    have hae : a ≠ e := fun z => by
      obtain ⟨o2, h3, h4, _⟩ := p
      rw [z] at h3
      have he' := he
      unfold IsEnum at he'
      rw [he'] at h3; cases h3
      exact absurd h4 (by simp)
    have hlen : i < its.toArray.size := by
      have := (List.getElem?_eq_some_iff.mp hu).1
      simpa using this
    refine wpAny_pyNext_enum_itemD (Draws.tuple (prog := X.prog) (w := X.w) (A := X.A.in1) (show X.A.in1.handled = none from I.ok.hd hc) it a hal its.toArray) he ⟨hit, p⟩ hlen hne (by simp only [List.mem_cons, List.not_mem_nil, or_false, not_or]; exact ⟨hne, Ne.symm hae⟩) fun x' h' tk hx' ho hit' hT hsz hk => ?_
    have ex : x' = u := by
      have : its[i]? = some x' := by simpa using hx'
      rw [hu] at this; exact (Option.some.inj this).symm
    subst ex
    refine ⟨_, rfl, wpAny_letOwnedTupleGo_enum (s := { s with heap := h', toks := tk + 1 }) ho fun h'' he' sb => ?_⟩
    have hT2 : h''.get? s.heap.objs.size = some { cls := .type "tuple", data := .seq #[.int i tk, x'] } := (sb.2 _ (Nat.ne_of_gt hel)).trans hT
    have new : ObjOk X.prog X.w (upd H s.heap.objs.size (.tup [.int (i : Nat), x])) h'' s.heap.objs.size (.tup [.int (i : Nat), x]) :=
      ⟨by show 2 ≤ sizeLine; decide, [.int i tk, x'], .cons ⟨_, rfl⟩ (.cons ru .nil), ⟨_, hT2, rfl, _, rfl⟩⟩
    have I1 : Inv X pins σ (upd H s.heap.objs.size (.tup [.int (i : Nat), x])) { s with heap := h'', toks := tk + 1 } :=
      I.turnedNew (ch := [e, it]) (fun b ob hb q => (sb.2 b (fun z => hb (by simp [z]))).trans (hk b ob (fun z => hb (by simp [z])) (fun z => hb (by simp [z])) q)) hf (Nat.le_refl _) new
    refine ⟨.ref s.heap.objs.size, _, I1, rfl, ⟨_, x, rfl, I.hok.fresh (Nat.le_refl _), rfl, fun ys hy => by rw [I.tuple_inj hy hq]; exact hx⟩, ⟨⟨x', ?_⟩, hit'.1.at fun o q => (sb.2 it (Ne.symm hne)).trans q, hne⟩, fun b hb => ?_⟩
    · have e1 : ((i + 1 : Nat) : Int) = (i : Int) + 1 := by omega
      rw [e1]; exact he'
    · have hb' : b < s.heap.objs.size := by
        have e' : b = e ∨ b = it := by simpa using hb
        rcases e' with z | z
        · rw [z]; exact hel
        · rw [z]; exact hil
      rw [upd_ne (Nat.ne_of_lt hb')]
      exact (hf b hb).1
  done := by
    intro X hP hw hK hc i pins s σ H E I hf st hg
    subst hP hw hK
    obtain ⟨⟨old, he⟩, hit, hne⟩ := st
    obtain ⟨xs, hq, hx⟩ := hg
    obtain ⟨its, rv, p, hz⟩ := I.tuple hq
    obtain ⟨f0, f1, f2, f3, f4, f5⟩ := hf it (by simp)
    have hl := rv.length
    exact lw_enumT_end (show X.A.in1.in1.handled = none from I.ok.hd hc) he hit p (by simp; omega) fun h' eb => ⟨rfl, I.turned (t' := s.toks) (fun b o hb q => eb b o hb q) f0 f1 f3 f4 f5⟩
  self := fun A i s Q E st h => let ⟨⟨_, he⟩, _⟩ := st; wpAny_pyIter_enum he h
def lwIEnumT (K : PySem.W.Frag) (ta : TA) : TI := fun σ H R => ta σ H fun vs H1 => ∃ a xs, vs = [.ref a] ∧ SqT K H1 a xs ∧ R (lwIteT K a) H1
theorem lw_pi_enumT {X : Cx} {e : Expr} {ta : TA} {p pos tpos : Pos} {elts : List Expr} {kk : Nat} (hg : Gl X "enumerate") (hm : X.mg "enumerate" = none) (ha : PA X [e] ta) (hs : starEach [e] X.env = [(false, eval e X.env)] := by rfl) :
    PI X (.Tuple elts kk tpos) (.Call (.Name "enumerate" p) [e] [] pos) (lwIEnumT X.K ta) := by
  refine ⟨fun pins s σ H R I h => ?_⟩
  refine Call_ (ld_blt I hg hm boot_enumerate (PyProof.Rows.callWith_type1 (thn (ha.run pos pins s σ H _ I h) fun us s1 ⟨vs, H1, I1, r1, q1⟩ => ?_) hs rfl))
  obtain ⟨a, xs, ex, hq, q⟩ := q1
  subst ex
  cases r1 with
  | cons r rr =>
    cases rr
    cases r
    obtain ⟨its, rv, p', hz⟩ := I1.tuple hq
    refine lw_enum_begins (begins_tuple a its.toArray) p' fun h' he hit hsz hk => wpAny_pyIter_enum he ?_
    have I2 : Inv X pins σ H1 { s1 with heap := h' } := I1.kept (t' := s1.toks) hk
    refine ⟨s1.heap.objs.size + 1, [s1.heap.objs.size + 1, s1.heap.objs.size], _, _, H1, rfl, I2, lw_turn_enumT a (s1.heap.objs.size + 1) s1.heap.objs.size, ⟨⟨.none, he⟩, ⟨_, hit, rfl, rfl⟩, Nat.succ_ne_self _⟩, fun b hb => ?_, q⟩
    have e' : b = s1.heap.objs.size + 1 ∨ b = s1.heap.objs.size := by simpa using hb
    have hle : s1.heap.objs.size ≤ b := by
      rcases e' with z | z
      · rw [z]; exact Nat.le_add_right _ _
      · rw [z]; exact Nat.le_refl _
    exact I1.fpOk hle (I1.hok.fresh hle)
end L2
set_option Elab.async false
set_option linter.all false
set_option maxRecDepth 100000
set_option maxHeartbeats 4000000
/-! Lw6: defs, isinstance, ==, unpacking, enumerate of tuples, two-clause comprehensions, tables. -/
namespace LW
open PySem L2
/-! ### defs as they stand -/
structure Has (K : PySem.W.Frag) (mg : Str → Option Value) (x : Str) (st : Stmt) : Prop where
  ex : ∃ f fd, mg x = some (.ref f) ∧ Fun K x x st f fd
structure Fn (P : Program) (w : World) (K : PySem.W.Frag) (mg : Str → Option Value) (base : Heap) (k : Nat) (x : Str) (ps : List Str) (dvs : List V) (sp : Sp) : Prop where
  ex : ∃ f fd ds, mg x = some (.ref f) ∧ PySem.W.keepIn K (.ref f) = true ∧ Binds K fd ps ds ∧ Vals dvs ds ∧ FnOk P w K mg base CX0 k f fd ps sp
theorem pe_fn {X : Cx} {k : Nat} {x : Str} {ps : List Str} {dvs : List V} {sp : Sp} {p pos : Pos} {e : Expr} {es : List Expr} {t : TA} (F : Fn X.prog X.w X.K X.mg X.base k x ps dvs sp) (hr : Room k X.A) (hg : Gl X x) (ha : PA X (e :: es) t)
    (hdb : (x == ("__debug__" : Str)) = false := by decide) (he : starEach (e :: es) X.env = (false, eval e X.env) :: starEach es X.env := by rfl) (hpl : (backTo pos (starEach es X.env)).any (·.1) = false := by rfl) :
    PE X (.Call (.Name x p) (e :: es) [] pos) (tCall sp dvs E0 t) := by
  obtain ⟨f, fd, ds, hm, hk, hb, hd, F⟩ := F.ex
  exact pe_call F hr hg hm hk hb hd pass0 ha hdb he hpl
/-- all arguments told in number -/
def AL {α : Type} (n : Nat) (A : AR α) : Prop := ∀ B vs d, A B vs d → vs.length = n
theorem al_nil : AL 0 aNil := fun _ vs _ h => by rw [show vs = [] from h]; rfl
theorem al_cons {α β : Type} {R : Rel α} {A : AR β} {n : Nat} (h : AL n A) : AL (n + 1) (aCons R A) := fun B vs d ⟨v, r, e, _, q⟩ => by rw [e, List.length_cons, h _ _ _ q]
theorem al_spf {α ρ : Type} {n : Nat} {A : AR α} {f : α → Option ρ} {p : Post ρ} (h : AL n A) : ∀ vs H Q E, spf A f p vs H Q E → vs.length = n := fun vs H Q E ⟨B, d, r, _, q, _⟩ => h B vs d q
theorem al_spd {α ρ : Type} {n : Nat} {A : AR α} {f : List Int → α → Option (ρ × List Int)} {p : Post ρ} (h : AL n A) : ∀ vs H Q E, spd A f p vs H Q E → vs.length = n + 1 := fun vs H Q E ⟨B, l, vs', ds, d, r, ds', e, _, _, q, _⟩ => by rw [e, List.length_cons, h _ _ _ q]
theorem wd0 {B H : Hp} (e : Ex B H) : Wd N0 B H c0 () B H := ⟨.refl e, trivial, fun _ h => h.elim⟩
theorem wdD {l : Addr} {ds : List Int} {B H : Hp} (e : Ex B H) (c : (cD l).at_ ds B H) : Wd (cD l).N B H (cD l) ds B H := ⟨.refl e, c, fun _ h => .inl h⟩

section
variable {δ : Type} {α β γ ρ : Type} {Z : Cell δ} {σ : L2.St} {B0 H0 B H B1 H1 B' H' : Hp} {Nf : NP} {s s1 s2 s3 : δ} {ta tb tc te : TE} {t u : TT} {tas : TA} {K : PySem.W.Frag} {R : Rel α} {S : Rel β} {T : Rel γ} {D : Ends} {tz tu tw : TS} {i j : Nat}
/-! ### isinstance -/
theorem ty_I {v : V} {d : Int} (h : qI.r B v d) : TyX K H v (.type "int") := by cases h; exact .base (.int d)
theorem ty_B {v : V} {d : Bool} (h : qB.r B v d) : TyX K H v (.type "bool") := by cases h; exact .base (.bl d)
theorem ty_S {v : V} {d : Str} (h : qS.r B v d) : TyX K H v (.type "str") := by cases h; exact .base (.str d)
theorem ty_U {v : V} {d : Unit} (h : qU.r B v d) : TyX K H v (.type "NoneType") := by cases h; exact .base .non
theorem ty_L {v : V} {d : List α} (e : Ex B H) (h : (qL R).r B v d) : TyX K H v (.type "list") := by obtain ⟨p, vs, rfl, h, _⟩ := h; exact .base (.lst (e _ _ h))
theorem ty_T {v : V} {d : List α} (e : Ex B H) (h : (qT K R).r B v d) : TyX K H v (.type "tuple") := by
  obtain ⟨p, vs, rfl, h, _⟩ := h
  rcases h with h | ⟨o, its, n, h1, h2, _⟩
  · rcases h with h | ⟨o, h⟩
    · exact .base (.tup (e _ _ h))
    · exact .fTuple (e _ _ h)
  · exact .kTuple h1 h2
theorem ty_P {v : V} {d : α × β} (e : Ex B H) (h : (qP K R S).r B v d) : TyX K H v (.type "tuple") := by
  obtain ⟨p, v1, v2, rfl, h, _⟩ := h
  rcases h with h | ⟨o, its, n, h1, h2, _⟩
  · rcases h with h | ⟨o, h⟩
    · exact .base (.tup (e _ _ h))
    · exact .fTuple (e _ _ h)
  · exact .kTuple h1 h2
theorem ev_isi {d : α} {a c : String} {b : Bool} (h : Ev Z (pI R) ta σ B H s d s1) (ht : ∀ B H v, Ex B H → R.r B v d → TyX K H v (.type a)) (hk : kitB a c = some b) : Ev Z (pI qB) (tCB (rIsi K) (tCons ta (tCons (tC (.ty c)) tNil))) σ B H s b s1 := fun B1 H1 x c1 Q q =>
  h B1 H1 x c1 _ fun v B2 H2 x2 c2 r2 => ⟨v, .ty c, .type a, .type c, b, rfl, .ty c, ht B2 H2 v x2.bh r2, kit_ty hk, q _ B2 H2 x2 c2 rfl⟩
theorem ev_isi2 {d : α} {a c1 c2 : String} {b1 b2 : Bool} (h : Ev Z (pI R) ta σ B H s d s1) (ht : ∀ B H v, Ex B H → R.r B v d → TyX K H v (.type a)) (hk1 : kitB a c1 = some b1) (hk2 : kitB a c2 = some b2) :
    Ev Z (pI qB) (tCB (rIsiT K) (tCons ta (tCons (tTup (tCons (tC (.ty c1)) (tCons (tC (.ty c2)) tNil))) tNil))) σ B H s (b1 || b2) s1 := fun B1 H1 x cc Q q =>
  h B1 H1 x cc _ fun v B2 H2 x2 cc2 r2 => ⟨sz_of (by show 2 ≤ 1000000; decide), fun p hp => by
    have x3 := x2.trans (Ext.newB (N := Z.N) (o := .tup [.ty c1, .ty c2]) x2.bh hp)
    refine ⟨v, p, [.ty c1, .ty c2], .type a, [.type c1, .type c2], b1 || b2, rfl, upd_same, .cons (.ty c1) (.cons (.ty c2) .nil), ht _ _ v x3.bh (R.mono (Ex.new (x2.bh.none hp)) r2), ?_, q _ _ _ x3 (Z.wr (Z.fz cc2 (fresh_nN cc2 hp)) (fresh_nN cc2 hp)) rfl⟩
    refine kitAny_cons (kit_ty hk1) (fun e => ?_) (fun e => by rw [e]; rfl)
    refine kitAny_cons (kit_ty hk2) (fun e' => ?_) (fun e' => by rw [e, e']; rfl)
    rw [e, e']; exact kitAny_nil⟩
/-! ### == of data -/
structure Da (K : PySem.W.Frag) (R : Rel α) (f : α → PyData) : Prop where
  dp : ∀ {B v a}, R.r B v a → Dp K B v (f a)
  inj : ∀ a b, PyData.eqv (f a) (f b) = true ↔ a = b
  lay : ∀ a, (f a).canLay0 = true
theorem dp_mono {H H' : Hp} (e : Ex H H') : ∀ (d : PyData) (v : V), Dp K H v d → Dp K H' v d := by
  have key : ∀ n : Nat, (∀ d : PyData, sizeOf d < n → ∀ v, Dp K H v d → Dp K H' v d) := by
    intro n
    induction n with
    | zero => intro d h; omega
    | succ n ih =>
      intro d hd v h
      have all : ∀ (ds : List PyData), sizeOf ds < n → ∀ vs, DpAll K H vs ds → DpAll K H' vs ds := by
        intro ds
        induction ds with
        | nil => intro _ vs h; cases h; exact .nil
        | cons d ds ih2 =>
          intro hs vs h
          cases h with
          | cons h1 h2 =>
            simp only [List.cons.sizeOf_spec] at hs
            exact .cons (ih d (by omega) _ h1) (ih2 (by omega) _ h2)
      cases h with
      | non => exact .non
      | bl b => exact .bl b
      | int i => exact .int i
      | str x => exact .str x
      | lst h1 h2 =>
        simp only [PyData.list.sizeOf_spec] at hd
        exact .lst (ex_l e h1) (all _ (by omega) _ h2)
      | tup h1 h2 =>
        simp only [PyData.tuple.sizeOf_spec] at hd
        exact .tup (ex_t e h1) (all _ (by omega) _ h2)
  exact fun d v h => key (sizeOf d + 1) d (by omega) v h
theorem da_I : Da K qI PyData.int := ⟨fun h => by cases h; exact .int _, fun a b => by simp [PyData.eqv], fun _ => rfl⟩
theorem da_B : Da K qB PyData.bool := ⟨fun h => by cases h; exact .bl _, fun a b => by simp [PyData.eqv], fun _ => rfl⟩
theorem da_all {f : α → PyData} (h : Da K R f) : ∀ {vs : List V} {xs : List α}, Paired (R.r B) vs xs → DpAll K B vs (xs.map f)
  | _, _, .nil => .nil
  | _, _, .cons q r => .cons (h.dp q) (da_all h r)
theorem da_inj {f : α → PyData} (h : Da K R f) : ∀ xs ys : List α, PyData.eqvAll (xs.map f) (ys.map f) = true ↔ xs = ys
  | [], [] => by simp [PyData.eqvAll]
  | [], _ :: _ => by simp [PyData.eqvAll]
  | _ :: _, [] => by simp [PyData.eqvAll]
  | x :: xs, y :: ys => by
    rw [List.map_cons, List.map_cons, PyData.eqvAll, Bool.and_eq_true, h.inj, da_inj h xs ys, List.cons.injEq]
theorem da_lay {f : α → PyData} (h : Da K R f) : ∀ xs : List α, PyData.canLayAll0 (xs.map f) = true
  | [] => rfl
  | x :: xs => by rw [List.map_cons, PyData.canLayAll0, h.lay, da_lay h xs]; rfl
theorem da_L {f : α → PyData} (h : Da K R f) : Da K (qL R) (fun xs => .list (xs.map f)) :=
  ⟨fun ⟨p, vs, e, k, r⟩ => by subst e; exact .lst (SqL.of k) (da_all h r), fun a b => by rw [PyData.eqv]; exact da_inj h a b, fun a => by rw [PyData.canLay0]; exact da_lay h a⟩
theorem da_T {f : α → PyData} (h : Da K R f) : Da K (qT K R) (fun xs => .tuple (xs.map f)) :=
  ⟨fun ⟨p, vs, e, k, r⟩ => by subst e; exact .tup k (da_all h r), fun a b => by rw [PyData.eqv]; exact da_inj h a b, fun a => by rw [PyData.canLay0]; exact da_lay h a⟩
theorem da_P {f : α → PyData} {g : β → PyData} (h : Da K R f) (h2 : Da K S g) : Da K (qP K R S) (fun x => .tuple [f x.1, g x.2]) :=
  ⟨fun ⟨p, v1, v2, e, k, r1, r2⟩ => by subst e; exact .tup k (.cons (h.dp r1) (.cons (h2.dp r2) .nil)), fun a b => by
    rw [PyData.eqv, PyData.eqvAll, PyData.eqvAll, PyData.eqvAll, Bool.and_true, Bool.and_eq_true, h.inj, h2.inj]
    exact ⟨fun ⟨x, y⟩ => Prod.ext x y, fun e => by rw [e]; exact ⟨rfl, rfl⟩⟩, fun a => by simp only [PyData.canLay0, PyData.canLayAll0, h.lay, h2.lay, Bool.and_self]⟩
theorem da_dep {f : α → PyData} {n : Nat} (h : ∀ a, (f a).depth ≤ n) : ∀ xs : List α, PyData.depthAll (xs.map f) ≤ n
  | [] => Nat.zero_le _
  | x :: xs => by
    rw [List.map_cons, PyData.depthAll]
    exact Nat.max_le.mpr ⟨h x, da_dep h xs⟩
theorem dq_0 {f : α → PyData} (h : ∀ a, f a = PyData.none ∨ (∃ i, f a = .int i) ∨ (∃ b, f a = .bool b) ∨ (∃ x, f a = .str x)) : ∀ a, (f a).depth ≤ 0 := fun a => by
  rcases h a with e | ⟨_, e⟩ | ⟨_, e⟩ | ⟨_, e⟩ <;> rw [e] <;> exact Nat.le_refl _
theorem dq_L {f : α → PyData} {n : Nat} (h : ∀ a, (f a).depth ≤ n) : ∀ xs : List α, (PyData.list (xs.map f)).depth ≤ n + 1 := fun xs => by rw [PyData.depth]; exact Nat.succ_le_succ (da_dep h xs)
theorem dq_T {f : α → PyData} {n : Nat} (h : ∀ a, (f a).depth ≤ n) : ∀ xs : List α, (PyData.tuple (xs.map f)).depth ≤ n + 1 := fun xs => by rw [PyData.depth]; exact Nat.succ_le_succ (da_dep h xs)
theorem dq_I : ∀ a, (PyData.int a).depth ≤ 0 := fun _ => Nat.le_refl _
theorem dq_B : ∀ a, (PyData.bool a).depth ≤ 0 := fun _ => Nat.le_refl _
theorem sh_of {f : α → PyData} {n : Nat} (h : Da K R f) (hd : ∀ a, (f a).depth ≤ n) (hn : n ≤ 64) (a : α) : SeqAt.shaped (f a) = true := by
  unfold SeqAt.shaped
  rw [h.lay a, decide_eq_true (Nat.le_trans (hd a) hn)]; rfl
theorem da_eqv [DecidableEq α] {f : α → PyData} (h : Da K R f) (a b : α) : PyData.eqv (f a) (f b) = decide (a = b) := by
  cases q : PyData.eqv (f a) (f b) with
  | true => exact (decide_eq_true ((h.inj a b).mp q)).symm
  | false => exact (decide_eq_false fun e => by rw [(h.inj a b).mpr e] at q; cases q).symm
theorem ev_eqD [DecidableEq α] {f : α → PyData} {n : Nat} {a b : α} (ha : Ev Z (pI R) ta σ B H s a s1) (hb : Ev Z (pI R) tb σ B H s1 b s2) (h : Da K R f) (hd : ∀ a, (f a).depth ≤ n) (hn : n ≤ 64) :
    Ev Z (pI qB) (tOp (rEqD K) ta tb) σ B H s (decide (a = b)) s2 := fun B1 H1 x c Q q =>
  ha B1 H1 x c _ fun va B2 H2 x2 c2 r2 => hb B2 H2 (x.trans x2) c2 _ fun vb B3 H3 x3 c3 r3 =>
    ⟨f a, f b, dp_mono (x3.b.trans x3.bh) _ _ (h.dp r2), dp_mono x3.bh _ _ (h.dp r3), sh_of h hd hn a, sh_of h hd hn b, q _ B3 H3 (x2.trans x3) c3 (congrArg V.bl (da_eqv h a b))⟩
theorem ev_neD [DecidableEq α] {f : α → PyData} {n : Nat} {a b : α} (ha : Ev Z (pI R) ta σ B H s a s1) (hb : Ev Z (pI R) tb σ B H s1 b s2) (h : Da K R f) (hd : ∀ a, (f a).depth ≤ n) (hn : n ≤ 64) :
    Ev Z (pI qB) (tOp (rNeD K) ta tb) σ B H s (!decide (a = b)) s2 := fun B1 H1 x c Q q =>
  ha B1 H1 x c _ fun va B2 H2 x2 c2 r2 => hb B2 H2 (x.trans x2) c2 _ fun vb B3 H3 x3 c3 r3 =>
    ⟨f a, f b, dp_mono (x3.b.trans x3.bh) _ _ (h.dp r2), dp_mono x3.bh _ _ (h.dp r3), sh_of h hd hn a, sh_of h hd hn b, q _ B3 H3 (x2.trans x3) c3 (congrArg V.bl (by rw [da_eqv h a b]))⟩
/-! ### unpacking targets -/
theorem tg_P {v : V} {d : α × β} (h : (qP K R S).r B v d) : ∃ v1 v2, R.r B v1 d.1 ∧ S.r B v2 d.2 ∧ ∀ (σ : L2.St) (B1 H1 : Hp), Ex B B1 → Ex B1 H1 → ∀ Q : L2.St → Hp → Prop, Q ((σ.set i (some v1)).set j (some v2)) H1 → gTup K 2 (gCons (gName i) (gCons (gName j) gNil)) v σ H1 Q := by
  obtain ⟨p, v1, v2, rfl, h, r1, r2⟩ := h
  exact ⟨v1, v2, r1, r2, fun σ B1 H1 e1 e2 Q q => ⟨p, [v1, v2], rfl, ex_t (e1.trans e2) h, rfl, v1, [v2], rfl, v2, [], rfl, rfl, q⟩⟩
theorem tg_T {v : V} {a b : α} (h : (qT K R).r B v [a, b]) : ∃ v1 v2, R.r B v1 a ∧ R.r B v2 b ∧ ∀ (σ : L2.St) (B1 H1 : Hp), Ex B B1 → Ex B1 H1 → ∀ Q : L2.St → Hp → Prop, Q ((σ.set i (some v1)).set j (some v2)) H1 → gTup K 2 (gCons (gName i) (gCons (gName j) gNil)) v σ H1 Q := by
  obtain ⟨p, vs, rfl, h, r⟩ := h
  cases r with
  | cons r1 r =>
    cases r with
    | cons r2 r =>
      cases r
      exact ⟨_, _, r1, r2, fun σ B1 H1 e1 e2 Q q => ⟨p, _, rfl, ex_t (e1.trans e2) h, rfl, _, _, rfl, _, [], rfl, rfl, q⟩⟩
/-- a pair out of a list of two -/
def two {α : Type} : List α → Option (α × α)
  | [a, b] => some (a, b)
  | _ => none
theorem two_ok {xs : List α} {a b : α} (h : two xs = some (a, b)) : xs = [a, b] := by
  unfold two at h
  split at h
  · cases h; rfl
  · cases h
/-! ### enumerate(tuple) -/
theorem walk_enumT {a : Addr} {xs : List V} : Walk (lwIteT K a) xs.length (fun H => SqT K H a xs) (YPair (fun i => some (.int (i : Nat))) (fun i => xs[i]?)) := by
  refine ⟨fun i _ hi q => ⟨xs, xs[i], q, by simp [hi]⟩, fun _ q => ⟨xs, q, Nat.le_refl _⟩, fun i H v H' _ q y => ?_⟩
  obtain ⟨T, x, h1, h2, h3, h4⟩ := y
  exact ⟨T, .int (i : Nat), x, h1, h2, h3, rfl, h4 xs q⟩
theorem it_enumT {xs : List α} (h : Ev Z (pI (qT K R)) te σ B H s xs s1) : EvIt Z (qP K qI R) (lwIEnumT K (tCons te tNil)) σ B H s (enumL 0 xs) s1 := fun B1 H1 x c Rk q => h B1 H1 x c _ fun v B2 H2 x2 c2 r2 => by
  obtain ⟨a, vs, rfl, h2, r2⟩ := r2
  refine ⟨a, vs, rfl, ex_t x2.bh h2, q _ B2 H2 x2 c2 (.of (walk_enumT (xs := vs)) (by rw [enumL_len, Pr.length r2]) (fun H e => ex_t e h2) fun i y B H v H' e1 e2 hy hv => ?_)⟩
  obtain ⟨T, x1, y1, rfl, hT, rfl, hx1, hy1⟩ := hv
  cases hx1
  obtain ⟨hy2, hy3⟩ := enumL_get hy
  obtain ⟨w, e3, rw3⟩ := Pr.get r2 hy2
  have hy1 : vs[i]? = some y1 := hy1
  rw [hy1] at e3; cases e3
  exact ⟨upd B T _, Ext.newB e2 hT, T, _, _, rfl, SqT.of upd_same, by rw [hy3]; show V.int _ = V.int _; congr 1; omega, R.mono (e1.trans (Ex.new (e2.none hT))) rw3⟩
/-! ### [.. for .. in .. for .. in ..] -/
def catS {α β δ : Type} (f : α → δ → Option (List β × δ)) : List α → δ → Option (List β × δ)
  | [], s => some ([], s)
  | x :: xs, s => (f x s).bind fun r => (catS f xs r.2).bind fun q => some (r.1 ++ q.1, q.2)
theorem catS_drop {f : α → δ → Option (List β × δ)} {xs : List α} {i : Nat} {x : α} {s s2 : δ} {ys : List β} (h : xs[i]? = some x) (hm : catS f (xs.drop i) s = some (ys, s2)) :
    ∃ o s1 zs, f x s = some (o, s1) ∧ catS f (xs.drop (i + 1)) s1 = some (zs, s2) ∧ ys = o ++ zs := by
  rw [drop_get h] at hm
  obtain ⟨⟨o, s1⟩, h1, hm⟩ := bindS hm
  obtain ⟨⟨zs, s2'⟩, h2, hm⟩ := bindS hm
  cases hm
  exact ⟨o, s1, zs, h1, h2, rfl⟩
/-- one turn of the outer clause (no test): its store, the inner source, the inner turns -/
structure Turn2 (Z : Cell δ) (P : Post γ) (g : TG) (wi1 : TI) (g1 : TG) (tt1 : TT) (te : TE) (vs vs1 : List Nat) (σ : L2.St) (Bs Hs B H : Hp) (v : V) (s : δ) (o : List γ) (s' : δ) : Prop where
  turn : ∃ (β : Type) (S : Rel β) (σ2 : L2.St), (∀ B1 H1, Ext Z.N B H B1 H1 → ∀ Q, Q σ2 H1 → g v (wipe σ vs) H1 Q) ∧ wipe σ2 vs = wipe σ vs ∧ ∃ (xs : List β) (s1 : δ) (f : β → δ → Option (Option γ × δ)), EvIt Z S wi1 σ2 B H s xs s1 ∧ compS f xs s1 = some (o, s') ∧ xs.length ≤ 1000 ∧
    ∀ x v s o s' B1 H1, Ext Z.N Bs Hs B1 H1 → Ex B B1 → S.r B1 v x → f x s = some (o, s') → Turn1 (p := Unit) Z P g1 tt1 te vs1 σ2 B1 H1 v s o s'
theorem compS_len {f : α → δ → Option (Option β × δ)} : ∀ {xs : List α} {s s' : δ} {ys : List β}, compS f xs s = some (ys, s') → ys.length ≤ xs.length
  | [], s, s', ys, h => by cases h; exact Nat.le_refl _
  | x :: xs, s, s', ys, h => by
    obtain ⟨⟨o, s1⟩, h1, h⟩ := bindS h
    obtain ⟨⟨zs, s2⟩, h2, h⟩ := bindS h
    cases h
    have h3 := compS_len h2
    have h4 : o.toList.length ≤ 1 := by cases o <;> simp
    show (o.toList ++ zs).length ≤ _
    rw [List.length_append, List.length_cons]
    have h5 : zs.length ≤ xs.length := h3
    omega
theorem ev_lc2 {wi wi1 : TI} {g g1 : TG} {tt1 : TT} {vs vs1 : List Nat} {f : α → δ → Option (List γ × δ)} {xs : List α} {ys : List γ} (hit : EvIt Z R wi σ B H s xs s1) (hm : catS f xs s1 = some (ys, s2)) (hz : xs.length ≤ 100)
    (hb : ∀ x v s o s' B1 H1, Ext Z.N B H B1 H1 → R.r B1 v x → f x s = some (o, s') → Turn2 Z (pI T) g wi1 g1 tt1 te vs vs1 σ B H B1 H1 v s o s') :
    Ev Z (pL T) (tLc2 wi g tYes wi1 g1 tt1 te vs vs1) σ B H s ys s2 := fun B1 H1 x c Q q => by
  refine hit B1 H1 x c _ fun J Bs Hs x1 c1 w D hD => ?_
  have nD : ¬ Z.N D := fresh_nN c1 hD
  have h1D : H1 D = none := x1.new_none hD
  refine ⟨fun i m H => m = xs.length - i ∧ i ≤ xs.length ∧ ∃ B s zs acc rest, Ext Z.N B1 H1 B H ∧ Ex Bs B ∧ Z.at_ s B H ∧ B D = none ∧ H D = some (.lst acc) ∧ Paired (T.r B) acc zs ∧ catS f (xs.drop i) s = some (rest, s2) ∧ ys = zs ++ rest ∧ zs.length ≤ i * 1000, ⟨xs.length, by simp, Nat.zero_le _, Bs, s1, [], [], ys, ?_⟩, ?_⟩
  · exact ⟨x1.trans (Ext.newH x1.bh hD), .refl _, Z.wr c1 nD, x1.bh.none hD, upd_same, .nil, hm, rfl, Nat.zero_le _⟩
  rintro i m H ⟨rfl, hi, B, s, zs, acc, rest, y, eB, cs, bD, aD, pr, hf, rfl, zl⟩
  by_cases hlt : i < xs.length
  · have hx : xs[i]? = some xs[i] := by simp [hlt]
    generalize xs[i] = a at hx
    obtain ⟨o, s', ws, hf1, hf2, rfl⟩ := catS_drop hx hf
    refine .inr ⟨w.goes i H hlt (eB.trans y.bh), fun H' => ∃ B', Ext Z.N B1 H1 B' H' ∧ Ex Bs B' ∧ Z.at_ s' B' H' ∧ B' D = none ∧ o.length ≤ 1000 ∧ ∃ acc', H' D = some (.lst acc') ∧ Paired (T.r B') acc' (zs ++ o), ?_, fun v H' yl => ?_⟩
    · rintro H' ⟨B', k1, k2, k3, k4, k7, acc', k5, k6⟩
      exact ⟨xs.length - (i + 1), by omega, rfl, hlt, B', s', zs ++ o, acc', ws, k1, k2, k3, k4, k5, k6, hf2, by rw [List.append_assoc], by rw [List.length_append]; omega⟩
    · obtain ⟨B2, x2, r2⟩ := w.yields i a B H v H' eB y.bh hx yl
      have y2 : Ext Z.N B1 H1 B2 H' := y.trans x2.up
      have c2 : Z.at_ s B2 H' := Z.ext cs x2
      have bD2 : B2 D = none := x2.fr _ _ aD bD
      have aD2 : H' D = some (.lst acc) := x2.ex _ _ aD
      obtain ⟨β, S, σ2, hg, hw, xs1, si, f1, hit1, hm1, hz1, hb1⟩ := (hb a v s o s' B2 H' (x.trans y2) r2 hf1).turn
      refine hg B2 H' (.refl x2.bh) _ ⟨hw, ?_⟩
      show wi1 σ2 H' _
      refine hit1 B2 H' (.refl x2.bh) c2 _ fun J1 Bi Hi xi ci w1 => ?_
      have yi : Ext Z.N B1 H1 Bi Hi := y2.trans xi
      have ol : o.length ≤ 1000 := Nat.le_trans (compS_len hm1) hz1
      refine ⟨fun k m H => m = xs1.length - k ∧ k ≤ xs1.length ∧ ∃ B s us acc' rest', Ex B2 B ∧ Ex Bi B ∧ Z.at_ s B H ∧ B D = none ∧ H D = some (.lst acc') ∧ Paired (T.r B) acc' (zs ++ us) ∧ compS f1 (xs1.drop k) s = some (rest', s') ∧ o = us ++ rest' ∧ Ext Z.N B1 H1 B H, ⟨xs1.length, by simp, Nat.zero_le _, Bi, si, [], acc, o, ?_⟩, ?_⟩
      · exact ⟨xi.b, .refl _, ci, xi.fr _ _ aD2 bD2, xi.h _ _ nD aD2, by rw [List.append_nil]; exact Pr.mono (x2.b.trans xi.b) pr, hm1, rfl, yi⟩
      rintro k m H3 ⟨rfl, hk, B3, s3, us, acc3, rest3, y3, eB3, cs3, bD3, aD3, pr3, hf3, ho, z3⟩
      by_cases hlt3 : k < xs1.length
      · have hx3 : xs1[k]? = some xs1[k] := by simp [hlt3]
        generalize xs1[k] = b at hx3
        obtain ⟨o3, s4, ws3, hf4, hf5, hr3⟩ := compS_drop hx3 hf3
        refine .inr ⟨w1.goes k H3 hlt3 (eB3.trans z3.bh), fun H' => ∃ B', Ex B2 B' ∧ Ex Bi B' ∧ Z.at_ s4 B' H' ∧ B' D = none ∧ Ext Z.N B1 H1 B' H' ∧ ∃ acc', H' D = some (.lst acc') ∧ Paired (T.r B') acc' (zs ++ (us ++ o3.toList)), ?_, fun v4 H4 yl4 => ?_⟩
        · rintro H' ⟨B', k1, k2, k3, k4, k7, acc', k5, k6⟩
          exact ⟨xs1.length - (k + 1), by omega, rfl, hlt3, B', s4, us ++ o3.toList, acc', ws3, k1, k2, k3, k4, k5, k6, hf5, by rw [ho, hr3, List.append_assoc], k7⟩
        · obtain ⟨B4, x4, r4⟩ := w1.yields k b B3 H3 v4 H4 eB3 z3.bh hx3 yl4
          have y4 : Ex B2 B4 := y3.trans x4.b
          have z4 : Ext Z.N B1 H1 B4 H4 := z3.trans x4.up
          have c4 : Z.at_ s3 B4 H4 := Z.ext cs3 x4
          have bD4 : B4 D = none := x4.fr _ _ aD3 bD3
          have aD4 : H4 D = some (.lst acc3) := x4.ex _ _ aD3
          obtain ⟨σ5, hg5, hw5, cc, s5, ht5, k1, k2⟩ := (hb1 b v4 s3 o3 s4 B4 H4 (x.trans z4) y4 r4 hf4).turn
          refine hg5 B4 H4 (.refl x4.bh) _ ⟨hw5, ht5 B4 H4 (.refl x4.bh) c4 _ fun B5 H5 x5 c5 => ?_⟩
          cases cc with
          | true =>
            obtain ⟨yv, rfl, he⟩ := k1 rfl
            show te σ5 H5 _
            refine he B5 H5 x5 c5 _ fun v6 B6 H6 x6 c6 r6 => ?_
            have aD6 : H6 D = some (.lst acc3) := x6.h _ _ nD (x5.h _ _ nD aD4)
            have bD6 : B6 D = none := x6.fr _ _ (x5.h _ _ nD aD4) (x5.fr _ _ aD4 bD4)
            have hl3 : acc3.length < 1000000 := by
              rw [Pr.length pr3, List.length_append]
              have : us.length ≤ o.length := by rw [ho, List.length_append]; omega
              have : i * 1000 < 100000 := by omega
              omega
            refine ⟨acc3, aD6, sz_lt hl3, B6, y4.trans (x5.b.trans x6.b), eB3.trans (x4.b.trans (x5.b.trans x6.b)), Z.wr c6 nD, bD6, (z4.trans (x5.trans x6)).write h1D bD6, _, upd_same, ?_⟩
            rw [← List.append_assoc]
            exact Pr.snoc (Pr.mono (x4.b.trans (x5.b.trans x6.b)) pr3) r6
          | false =>
            obtain ⟨rfl, rfl⟩ := k2 rfl
            show ∃ B', _
            exact ⟨B5, y4.trans x5.b, eB3.trans (x4.b.trans x5.b), c5, x5.fr _ _ aD4 bD4, z4.trans x5, acc3, x5.h _ _ nD aD4, by
              show Paired _ acc3 (zs ++ (us ++ []))
              rw [List.append_nil]; exact Pr.mono (x4.b.trans x5.b) pr3⟩
      · have z : k = xs1.length := by omega
        subst z
        rw [List.drop_length] at hf3
        cases hf3
        rw [List.append_nil] at ho
        subst ho
        exact .inl ⟨w1.stops H3 (eB3.trans z3.bh), B3, z3, eB.trans (x2.b.trans (xi.b.trans eB3)), cs3, bD3, ol, acc3, aD3, pr3⟩
  · have z : i = xs.length := by omega
    subst z
    rw [List.drop_length] at hf
    cases hf
    exact .inl ⟨w.stops H (eB.trans y.bh), by rw [List.append_nil] at q; exact q D acc B H y cs h1D bD aD pr⟩
end
end LW
set_option Elab.async false
set_option linter.all false
set_option maxRecDepth 100000
set_option maxHeartbeats 4000000
/-! Lw7: tables made, their fields read. -/
namespace LW
open PySem L2
/-- the promise of Table.__init__ -/
def spI {ρ : Type} (K : PySem.W.Frag) (C : Addr) (R : Rel ρ) (f : ρ → Option Tab) : Sp := fun vs H Q _ => ∃ B x dx vr d t, vs = [.ref x, vr] ∧ Ex B H ∧ B x = none ∧ B dx = none ∧ x ≠ dx ∧ H x = some (.ins C dx []) ∧ H dx = some (.own x) ∧ R.r B vr d ∧ f d = some t ∧
  ∀ B' H', Ex B B' → Ex B' H' → (∀ a o, a ≠ x → H a = some o → H' a = some o) → (∀ a o, a ≠ x → a ≠ dx → H a = some o → B a = none → B' a = none) → (qTab K C).r B' (.ref x) t → Q .non H'
structure Mkd (P : Program) (w : World) (K : PySem.W.Frag) (mg : Str → Option Value) (base : Heap) (k : Nat) (x : Str) (C : Addr) (ps : List Str) (sp : Sp) : Prop where
  ex : ∃ f fd, mg x = some (.ref C) ∧ Mk K C f ∧ Binds K fd ps [] ∧ FnOk P w K mg base CX0 k f fd ps sp
theorem pe_mkd {X : Cx} {k : Nat} {x : Str} {C : Addr} {ps : List Str} {sp : Sp} {p pos : Pos} {e : Expr} {es : List Expr} {t : TA} (F : Mkd X.prog X.w X.K X.mg X.base k x C ps sp) (hr : Room (k + 1) X.A) (hg : Gl X x) (ha : PA X (e :: es) t)
    (hdb : (x == ("__debug__" : Str)) = false := by decide) (he : starEach (e :: es) X.env = (false, eval e X.env) :: starEach es X.env := by rfl) (hpl : (backTo pos (starEach es X.env)).any (·.1) = false := by rfl) :
    PE X (.Call (.Name x p) (e :: es) [] pos) (tMake C sp [] E0 t) := by
  obtain ⟨f, fd, hm, M, hb, F⟩ := F.ex
  exact pe_make M F hr hg hm hb .nil pass0 ha hdb he hpl
section
variable {δ : Type} {α β γ ρ : Type} {Z : Cell δ} {σ : L2.St} {B0 H0 B H B1 H1 B' H' : Hp} {Nf : NP} {s s1 s2 s3 : δ} {ta tb tc te : TE} {t u : TT} {tas : TA} {K : PySem.W.Frag} {R : Rel α} {S : Rel β} {T : Rel γ} {D : Ends} {tz tu tw : TS} {i j : Nat}
theorem ev_make {C : Addr} {f : α → Option Tab} {d : α} {r : Tab} (h : Ev Z (pI R) te σ B H s d s1) (hf : f d = some r) : Ev Z (pI (qTab K C)) (tMake C (spI K C R f) [] E0 (tCons te tNil)) σ B H s r s1 := fun B1 H1 x c Q q =>
  h B1 H1 x c _ fun v B2 H2 x2 c2 r2 => fun p dx hp hdx hne => by
    have nx : upd (upd H2 dx (.own p)) p (.ins C dx []) p = some (.ins C dx []) := upd_same
    have old : ∀ a o, H2 a = some o → upd (upd H2 dx (.own p)) p (.ins C dx []) a = some o := fun a o e => by rw [upd_ne (ne_of_none e hp), upd_ne (ne_of_none e hdx)]; exact e
    refine ⟨B2, p, dx, v, d, r, rfl, fun a o e => old a o (x2.bh a o e), x2.bh.none hp, x2.bh.none hdx, hne.symm, nx, by rw [upd_ne hne]; exact upd_same, r2, hf, fun B' H' e1 e2 k1 k2 k3 => ⟨rfl, ?_⟩⟩
    have x3 : Ext N0 B2 H2 B' H' := ⟨e1, fun a o _ e => k1 a o (ne_of_none e hp) (old a o e), e2, fun a o e n => k2 a o (ne_of_none e hp) (ne_of_none e hdx) (old a o e) n, fun a o e => ⟨o, k1 a o (ne_of_none e hp) (old a o e)⟩⟩
    exact q _ B' H' (x2.trans x3.up) (Z.ext c2 x3) k3
theorem tabL_rows {r s a : V} : (tabF r s a).lookup ("rows" : Str) = some r := rfl
theorem tabL_size {r s a : V} : (tabF r s a).lookup ("size" : Str) = some s := by
  show (match (("size" : Str) == ("rows" : Str)) with | true => some r | false => _) = _
  rw [show (("size" : Str) == ("rows" : Str)) = false by decide +kernel]; rfl
theorem tabL_arr {r s a : V} : (tabF r s a).lookup ("_arrows" : Str) = some a := by
  show (match (("_arrows" : Str) == ("rows" : Str)) with | true => some r | false => (match (("_arrows" : Str) == ("size" : Str)) with | true => some s | false => _)) = _
  rw [show (("_arrows" : Str) == ("rows" : Str)) = false by decide +kernel, show (("_arrows" : Str) == ("size" : Str)) = false by decide +kernel]; rfl
theorem ev_rows {C : Addr} {d : Tab} (cl : Cls K C) (n : NoAttr K C "rows") (h : Ev Z (pI (qTab K C)) te σ B H s d s1) : Ev Z (pI (qT K (qT K qI))) (tFld K te "rows") σ B H s d.rows s1 := fun B1 H1 x c Q q =>
  h B1 H1 x c _ fun v B2 H2 x2 c2 r2 => by
    obtain ⟨p, dx, r, a, rfl, h2, hr, ha⟩ := r2
    exact ⟨p, C, dx, _, r, rfl, x2.bh _ _ h2, cl, n, tabL_rows, q r B2 H2 x2 c2 hr⟩
theorem ev_size {C : Addr} {d : Tab} (cl : Cls K C) (n : NoAttr K C "size") (h : Ev Z (pI (qTab K C)) te σ B H s d s1) : Ev Z (pI qI) (tFld K te "size") σ B H s d.size s1 := fun B1 H1 x c Q q =>
  h B1 H1 x c _ fun v B2 H2 x2 c2 r2 => by
    obtain ⟨p, dx, r, a, rfl, h2, hr, ha⟩ := r2
    exact ⟨p, C, dx, _, _, rfl, x2.bh _ _ h2, cl, n, tabL_size, q _ B2 H2 x2 c2 rfl⟩
theorem ev_arr {C : Addr} {d : Tab} (cl : Cls K C) (n : NoAttr K C "_arrows") (h : Ev Z (pI (qTab K C)) te σ B H s d s1) : Ev Z (pI (qT K (qT K qI))) (tFld K te "_arrows") σ B H s d.arrows s1 := fun B1 H1 x c Q q =>
  h B1 H1 x c _ fun v B2 H2 x2 c2 r2 => by
    obtain ⟨p, dx, r, a, rfl, h2, hr, ha⟩ := r2
    exact ⟨p, C, dx, _, _, rfl, x2.bh _ _ h2, cl, n, tabL_arr, q _ B2 H2 x2 c2 ha⟩
/-- a field of an instance that the frame alone knows -/
theorem ev_fldH {C p dx : Addr} {fs : List (Str × V)} {f : Str} {v : V} {d : α} (cl : Cls K C) (n : NoAttr K C f) (hi : σ[i]? = some (some (.ref p))) (hp : H p = some (.ins C dx fs)) (hf : fs.lookup f = some v) (r : R.r B v d) : Ev c0 (pI R) (tFld K (tVar i) f) σ B H () d () := fun B1 H1 x c Q q =>
  ⟨_, hi, p, C, dx, fs, v, rfl, x.ex _ _ hp, cl, n, hf, q v B1 H1 (.refl x.bh) c (R.mono x.b r)⟩
end
/-- what Table(rows) makes -/
def mkTab {ρ : Type} (fr : ρ → Option (List (List Int))) (fa : List (List Int) → Option (List (List Int))) (d : ρ) : Option Tab := (fr d).bind fun r => (fa r).bind fun a => some ⟨r, (r.length : Int), a⟩
section
variable {P : Program} {w : World} {K : PySem.W.Frag} {mg : Str → Option Value} {base : Heap} {ρ : Type}
theorem init_tab {C : Addr} {Rr : Rel ρ} {fr : ρ → Option (List (List Int))} {fa : List (List Int) → Option (List (List Int))} {k : Nat} {st : Stmt} {f : Addr} {fd : FuncData} (cl : Cls K C) (n1 : NoAttr K C "rows") (n2 : NoAttr K C "size") (n3 : NoAttr K C "_arrows")
    (Fr : Fn P w K mg base k "table_rows" ["rows"] [] (spf (aCons Rr aNil) (fun d => fr d.1) (pI (qT K (qT K qI))))) (Fa : Fn P w K mg base k "arrows_of" ["rows"] [] (spf (aCons (qT K (qT K qI)) aNil) (fun d => fa d.1) (pI (qT K (qT K qI)))))
    (F : Fun K "__init__" "Table.__init__" st f fd) (hl : mg "len" = none) {p1 p2 p3 p4 p5 p6 q1 q2 q3 q4 q5 q6 q7 r1 r2 r3 r4 r5 r6 r7 : Pos}
    (hst : defBody st = [.Assign [.Attribute (.Name "self" p1) "rows" p2] (.Call (.Name "table_rows" p3) [.Name "rows" p4] [] p5) p6,
      .Assign [.Attribute (.Name "self" q1) "size" q2] (.Call (.Name "len" q3) [.Attribute (.Name "self" q4) "rows" q5] [] q6) q7,
      .Assign [.Attribute (.Name "self" r1) "_arrows" r2] (.Call (.Name "arrows_of" r3) [.Attribute (.Name "self" r4) "rows" r5] [] r6) r7])
    {more : List (Str × NameKind)} (hsc : defScope st = { kind := .function, names := [(PySem.Str.ofString "self", .local), (PySem.Str.ofString "rows", .local), (PySem.Str.ofString "table_rows", .globalImplicit), (PySem.Str.ofString "len", .globalImplicit), (PySem.Str.ofString "arrows_of", .globalImplicit)], isGenerator := false, isCoroutine := false, more := [] }) :
    FnOk P w K mg base CX0 (k + 1) f fd ["self", "rows"] (spI K C Rr (mkTab fr fa)) := by
  have scI : FnScope ["self", "rows"] ["self", "rows"] (defScope st) := by
    rw [hsc]
    exact ⟨rfl, rfl, rfl, by decide +kernel, rfl, by decide +kernel, by decide +kernel⟩
  refine F.ok scI (fun vs H Q E h => ?_) (fun cdv A outer s H vs Q E hr h => ?_)
  · obtain ⟨B, x, dx, vr, d, t, rfl, _⟩ := h
    rfl
  · obtain ⟨B, x, dx, vr, d, t, rfl, e, bx, bd, ne, hx, hd, rr, hf, q⟩ := h
    rw [hst]
    revert hr
    rw [hsc]
    intro hr
    refine ⟨_, pss_cons (ps_fld (pv 0) (pe_fn Fr hr rfl (pa_cons (pv 1) pa_nil)) rfl) (pss_cons (ps_fld (pv 0) (pe_callB cl_len (by rfl) hl PySem.boot_len (pa_cons (pe_fld (pv 0) rfl) pa_nil)) rfl)
      (pss_cons (ps_fld (pv 0) (pe_fn Fa hr rfl (pa_cons (pe_fld (pv 0) rfl) pa_nil)) rfl) pss_nil)), ?_⟩
    obtain ⟨rows, h1, hf⟩ := bindS hf
    obtain ⟨arrs, h2, hf⟩ := bindS hf
    cases hf
    have σ0 : start ["self", "rows"] [V.ref x, vr] = [some (.ref x), some vr] := rfl
    rw [σ0]
    have E1 : Ev c0 (pI (qT K (qT K qI))) (tCall (spf (aCons Rr aNil) (fun d => fr d.1) (pI (qT K (qT K qI)))) [] E0 (tCons (tVar 1) tNil)) [some (.ref x), some vr] B H () rows () := ev_call gI (ea_cons (ev_v rr rfl) ea_nil) a_id h1
    refine E1.run e trivial fun v1 B1 H1 x1 _ rr1 => ?_
    have hx1 := x1.ex _ _ hx
    have hd1 := x1.ex _ _ hd
    have bx1 := x1.fr _ _ hx bx
    have bd1 := x1.fr _ _ hd bd
    refine ⟨_, rfl, x, C, dx, [], rfl, hx1, cl, n1, by decide, ?_⟩
    have e1 : Ex B1 (upd H1 x (.ins C dx [(("rows" : Str), v1)])) := x1.bh.mut bx1
    obtain ⟨p, ws, rfl, hp, rp⟩ := id rr1
    refine ⟨_, rfl, x, C, dx, [(("rows" : Str), V.ref p)], _, rfl, upd_same, cl, n1, rfl, p, ws, rfl, .inr (ex_t e1 hp), _, rfl, x, C, dx, _, rfl, upd_same, cl, n2, (by show 1 < 1000; decide), ?_⟩
    have lz : (V.int ws.length) = V.int rows.length := by rw [Pr.length rp]
    rw [lz]
    have e2 : Ex B1 (upd (upd H1 x (.ins C dx [(("rows" : Str), V.ref p)])) x (.ins C dx (putF "size" (.int rows.length) [(("rows" : Str), V.ref p)]))) := e1.mut bx1
    have hp2 : putF "size" (.int (rows.length : Int)) [(("rows" : Str), V.ref p)] = [(("rows" : Str), V.ref p), (("size" : Str), V.int rows.length)] := by
      show (if ("rows" : Str) = "size" then _ else _) = _
      rw [if_neg (by decide +kernel)]; rfl
    rw [hp2] at e2
    rw [show putF ("rows" : Str) (V.ref p) [] = [(("rows" : Str), V.ref p)] from rfl, hp2]
    have E3 := ev_call (Z := c0) (s := ()) (f := fun d => fa d.1) (A := aCons (qT K (qT K qI)) aNil) (dvs := []) (p := pI (qT K (qT K qI))) gI (ea_cons (ev_fldH (i := 0) (σ := [some (.ref x), some vr]) (H := upd (upd H1 x (.ins C dx [(("rows" : Str), V.ref p)])) x (.ins C dx [(("rows" : Str), V.ref p), (("size" : Str), V.int rows.length)])) cl n1 rfl upd_same rfl rr1) ea_nil) a_id h2
    refine E3.run e2 trivial fun v3 B3 H3 x3 _ r3 => ?_
    have hx3 := x3.ex x _ upd_same
    have bx3 := x3.fr x _ upd_same bx1
    have hd2 : upd (upd H1 x (.ins C dx [(("rows" : Str), V.ref p)])) x (.ins C dx [(("rows" : Str), V.ref p), (("size" : Str), V.int rows.length)]) dx = some (.own x) := by rw [upd_ne ne.symm, upd_ne ne.symm]; exact hd1
    have hd3 := x3.ex dx _ hd2
    have bd3 := x3.fr dx _ hd2 bd1
    refine ⟨_, rfl, x, C, dx, _, rfl, hx3, cl, n3, (by show 2 < 1000; decide), ?_⟩
    have hp3 : putF "_arrows" v3 [(("rows" : Str), V.ref p), (("size" : Str), V.int rows.length)] = tabF (.ref p) (.int rows.length) v3 := by
      show (if ("rows" : Str) = "_arrows" then _ else (("rows" : Str), V.ref p) :: (if ("size" : Str) = "_arrows" then _ else _)) = _
      rw [if_neg (by decide +kernel), if_neg (by decide +kernel)]; rfl
    rw [hp3]
    have e3 : Ex B3 (upd (upd B3 dx (.own x)) x (.ins C dx (tabF (.ref p) (.int rows.length) v3))) := fun a o h => by rw [upd_ne (ne_of_none h bx3), upd_ne (ne_of_none h bd3)]; exact h
    refine q (upd (upd B3 dx (.own x)) x (.ins C dx (tabF (.ref p) (.int rows.length) v3))) _ (x1.b.trans (x3.b.trans e3)) ?_ ?_ ?_ ⟨x, dx, _, _, rfl, upd_same, (qT K (qT K qI)).mono (x3.b.trans e3) rr1, (qT K (qT K qI)).mono e3 r3⟩
    · intro a o h
      by_cases z : a = x
      · subst z; rw [upd_same] at h ⊢; exact h
      · rw [upd_ne z] at h ⊢
        by_cases z2 : a = dx
        · subst z2; rw [upd_same] at h; rw [hd3]; exact h
        · rw [upd_ne z2] at h; exact x3.bh a o h
    · intro a o z h
      rw [upd_ne z]
      exact x3.ex a o (by rw [upd_ne z, upd_ne z]; exact x1.ex a o h)
    · intro a o z z2 h n
      rw [upd_ne z, upd_ne z2]
      exact x3.fr a o (by rw [upd_ne z, upd_ne z]; exact x1.ex a o h) (x1.fr a o h n)
end
end LW
set_option Elab.async false
set_option linter.all false
set_option maxRecDepth 100000
set_option maxHeartbeats 4000000
/-! Lw8: sum of a tuple, the cell read, defs with defaults, the plain forms of comprehensions. -/
namespace LW
open PySem L2 PyProof.Rows
theorem sum_rawT {prog : Program} {w : World} {A : Around} {E : Value → Shared → Prop} {s : Shared} {l : Addr} {its : List Value} {ns : List Int} {Q : Value → Shared → Prop} (hh : A.handled = none) (hl : IsTup s.heap l its.toArray) (hi : IntsAre its ns)
    (h : ∀ h' tk t', (∀ b o, s.heap.get? b = some o → h'.get? b = some o) → Q (.int ns.sum t') { s with heap := h', toks := tk }) : wpAny (model prog w) A (call (.builtin "sum") [.ref l]) Q E s := by
  obtain ⟨xs, e⟩ := hi.allInts.items
  have hn : numsOf (intItems xs).toList = ns := by rw [← e]; exact hi.numsOf
  rw [nums_intItems] at hn
  rw [e] at hl
  refine call_sum_walkG (wpAny_pyIter_tuple hl ?_)
  have hlt : l < s.heap.objs.size := by obtain ⟨_, q, _⟩ := hl; exact Heap.lt_size q
  refine ⟨s.heap.objs.size, [s.heap.objs.size, l], [s.heap.objs.size], _, _, _, numAt xs, rfl, Walks.tuple (A := A.in1) hh _ l (Nat.ne_of_lt hlt) (intItems xs), ⟨⟨_, Heap.get?_push_size _ rfl, rfl, rfl⟩, hl.push _⟩, fun c hc => ?_, fun _ _ => intItems_at, fun h' tk t' hk => ?_⟩
  · show c < (s.heap.push _).objs.size
    rw [Heap.size_push]
    rcases List.mem_cons.mp hc with rfl | hc
    · exact Nat.lt_succ_self _
    · rw [List.mem_singleton.mp hc]; exact Nat.lt_succ_of_lt hlt
  · have := h h' tk t' (fun b o q => hk b o (by rw [List.mem_singleton]; exact Nat.ne_of_lt (Heap.lt_size q)) (Heap.get?_push_of_some _ q))
    rw [preSum_eq, List.take_of_length_le (by simp [intItems]), hn]
    exact this
def rSumT (K : PySem.W.Frag) : List V → Hp → VK → Prop := fun vs H Q => ∃ (a : Addr) (ns : List Int), vs = [V.ref a] ∧ SqT K H a (ns.map V.int) ∧ Q (.int ns.sum) H
theorem cr_sumT {X : Cx} (hc : X.calm = true) : CallR X (.builtin "sum") (rSumT X.K) := by
  intro pins s σ H vs us Q I r h
  obtain ⟨a, ns, rfl, hs, q⟩ := h
  obtain ⟨its, rv, hl, _⟩ := I.tuple hs
  rw [Vals.ref1 r]
  exact sum_rawT (I.ok.hd hc) hl rv.ints fun h' tk t' hk => ⟨.int ns.sum, H, I.kept (t' := tk) hk, ⟨_, rfl⟩, q⟩
section
variable {δ : Type} {α β γ ρ : Type} {Z : Cell δ} {σ : L2.St} {B0 H0 B H B1 H1 B' H' : Hp} {Nf : NP} {s s1 s2 s3 : δ} {ta tb tc te : TE} {t u : TT} {tas : TA} {K : PySem.W.Frag} {R : Rel α} {S : Rel β} {T : Rel γ} {D : Ends} {tz tu tw : TS} {i j : Nat}
theorem ev_sumT {d : List Int} (h : Ev Z (pI (qT K qI)) te σ B H s d s1) : Ev Z (pI qI) (tCB (rSumT K) (tCons te tNil)) σ B H s d.sum s1 := fun B1 H1 x c Q q =>
  h B1 H1 x c _ fun v B2 H2 x2 c2 r2 => by
    obtain ⟨l, vs, rfl, h2, r2⟩ := r2
    have e : vs = d.map V.int := Pr.eqmap r2
    subst e
    exact ⟨l, d, rfl, ex_t x2.bh h2, q _ B2 H2 x2 c2 rfl⟩
theorem et_yes : EvT Z tYes σ B H s true s := fun B1 H1 x c Q q => q B1 H1 (.refl x.bh) c
/-! ### the cell -/
theorem ev_cLen {l : Addr} {ds : List Int} (hi : σ[i]? = some (some (.ref l))) : Ev (cD l) (pI qI) (tCB (rLenS K) (tCons (tVar i) tNil)) σ B H ds (ds.length : Int) ds := fun B1 H1 x c Q q =>
  ⟨_, hi, l, ds.map V.int, rfl, .inl (SqL.of c.2), q _ B1 H1 (.refl x.bh) c (by rw [List.length_map]; rfl)⟩
def popO (ds : List Int) : Option (Int × List Int) := match ds.getLast? with
  | some d => some (d, ds.dropLast)
  | none => none
theorem popO_ok {ds ds' : List Int} {d : Int} (h : popO ds = some (d, ds')) : ds[ds.length - 1]? = some d ∧ ds.dropLast = ds' := by
  unfold popO at h
  rw [List.getLast?_eq_getElem?] at h
  cases q : ds[ds.length - 1]? with
  | none => rw [q] at h; cases h
  | some x => rw [q] at h; cases h; exact ⟨rfl, rfl⟩
theorem ev_cPop {l : Addr} {ds ds' : List Int} {d : Int} (hi : σ[i]? = some (some (.ref l))) (h : popO ds = some (d, ds')) : Ev (cD l) (pI qI) (tBM0 K "list" rPop (tVar i)) σ B H ds d ds' := fun B1 H1 x c Q q => by
  obtain ⟨h1, rfl⟩ := popO_ok h
  obtain ⟨c1, c2⟩ := c
  refine ⟨_, hi, .inl ⟨rfl, ds.map V.int, SqL.of c2⟩, l, ds.map V.int, .int d, rfl, rfl, c2, by rw [List.length_map, List.getElem?_map, h1]; rfl, ?_⟩
  have e : (ds.map V.int).dropLast = ds.dropLast.map V.int := by rw [List.map_dropLast]
  rw [e]
  refine q _ B1 _ ⟨.refl _, fun a o n h => ?_, x.bh.mut c1, fun a o h n => n, fun a o h => ?_⟩ ⟨c1, upd_same⟩ rfl
  · rw [upd_ne n]; exact h
  · by_cases z : a = l
    · subst z; exact ⟨_, upd_same⟩
    · rw [upd_ne z]; exact ⟨o, h⟩
/-! ### plain comprehensions -/
def mapO {α β : Type} (f : α → Option β) : List α → Option (List β)
  | [] => some []
  | x :: xs => (f x).bind fun y => (mapO f xs).bind fun ys => some (y :: ys)
theorem compS_map (f : α → β) (s : δ) : ∀ xs : List α, compS (fun x s => some (some (f x), s)) xs s = some (xs.map f, s)
  | [] => rfl
  | x :: xs => by
    show Option.bind _ _ = _
    rw [Option.bind_some, compS_map f s xs]; rfl
theorem compS_mapO {f : α → Option β} {s : δ} : ∀ {xs : List α} {ys : List β}, mapO f xs = some ys → compS (fun x s => (f x).bind fun y => some (some y, s)) xs s = some (ys, s)
  | [], _, h => by cases h; rfl
  | x :: xs, ys, h => by
    obtain ⟨y, h1, h⟩ := bindS h
    obtain ⟨zs, h2, h⟩ := bindS h
    cases h
    show Option.bind (Option.bind _ _) _ = _
    rw [h1, Option.bind_some, Option.bind_some]
    show Option.bind (compS _ xs s) _ = _
    rw [compS_mapO h2]; rfl
theorem compS_filt (c : α → Bool) (f : α → β) (s : δ) : ∀ xs : List α, compS (fun x s => some (if c x = true then some (f x) else none, s)) xs s = some ((xs.filter c).map f, s)
  | [] => rfl
  | x :: xs => by
    show Option.bind _ _ = _
    rw [Option.bind_some, compS_filt c f s xs, Option.bind_some, List.filter_cons]
    cases c x <;> rfl
/-- kept and reckoned: none is stuck -/
def filtO {α β : Type} (f : α → Option (Option β)) : List α → Option (List β)
  | [] => some []
  | x :: xs => (f x).bind fun o => (filtO f xs).bind fun ys => some (o.toList ++ ys)
theorem compS_filtO {f : α → Option (Option β)} {s : δ} : ∀ {xs : List α} {ys : List β}, filtO f xs = some ys → compS (fun x s => (f x).bind fun o => some (o, s)) xs s = some (ys, s)
  | [], _, h => by cases h; rfl
  | x :: xs, ys, h => by
    obtain ⟨o, h1, h⟩ := bindS h
    obtain ⟨zs, h2, h⟩ := bindS h
    cases h
    show Option.bind (Option.bind _ _) _ = _
    rw [h1, Option.bind_some, Option.bind_some]
    show Option.bind (compS _ xs s) _ = _
    rw [compS_filtO h2]; rfl
def lnO (n : Nat) (xs : List α) : Option (List α) := if xs.length ≤ n then some xs else none
theorem lnO_ok {n : Nat} {xs ys : List α} (h : lnO n xs = some ys) : xs.length ≤ n ∧ xs = ys := by
  unfold lnO at h
  rcases iteS h with ⟨h1, h2⟩ | ⟨h1, h2⟩
  · exact ⟨h1, Option.some.inj h2⟩
  · cases h2
/-- one turn: target a name, no test -/
theorem turn_y {P : Post β} {v : V} {vs : List Nat} {y : β} {o : Option β} {j : Nat} (hw : wipe ((wipe σ vs).set j (some v)) vs = wipe σ vs) (ho : o = some y) (h : Ev Z P te ((wipe σ vs).set j (some v)) B H s y s1) : Turn1 (p := Unit) Z P (gName j) tYes te vs σ B H v s o s1 :=
  ⟨_, fun _ _ _ _ q => q, hw, true, s, et_yes, fun _ => ⟨y, ho, h⟩, fun e => by cases e⟩
/-- .. any target -/
theorem turn_g {P : Post β} {g : TG} {v : V} {vs : List Nat} {y : β} {o : Option β} {σ2 : L2.St} (hg : ∀ B1 H1, Ext Z.N B H B1 H1 → ∀ Q : L2.St → Hp → Prop, Q σ2 H1 → g v (wipe σ vs) H1 Q) (hw : wipe σ2 vs = wipe σ vs) (ho : o = some y) (h : Ev Z P te σ2 B H s y s1) : Turn1 (p := Unit) Z P g tYes te vs σ B H v s o s1 :=
  ⟨σ2, hg, hw, true, s, et_yes, fun _ => ⟨y, ho, h⟩, fun e => by cases e⟩
/-- .. with a test -/
theorem turn_t {P : Post β} {g : TG} {tt : TT} {v : V} {vs : List Nat} {o : Option β} {c : Bool} {σ2 : L2.St} (hg : ∀ B1 H1, Ext Z.N B H B1 H1 → ∀ Q : L2.St → Hp → Prop, Q σ2 H1 → g v (wipe σ vs) H1 Q) (hw : wipe σ2 vs = wipe σ vs) (ht : EvT Z tt σ2 B H s c s1) (h1 : c = true → ∃ y, o = some y ∧ Ev Z P te σ2 B H s1 y s2) (h2 : c = false → o = none ∧ s2 = s1) : Turn1 (p := Unit) Z P g tt te vs σ B H v s o s2 :=
  ⟨σ2, hg, hw, c, s1, ht, h1, h2⟩
end
section
variable {δ : Type} {Z : Cell δ} {σ : L2.St} {B H : Hp} {s s1 : δ} {te : TE}
/-- a new grid comes into the base -/
theorem fzg_rows {N : NP} {Bs Hs H : Hp} : ∀ (rs : List Addr) (gs : List (List Int)) (B : Hp), Paired (fun r (g : List Int) => Hs r = none ∧ B r = none ∧ H r = some (.lst (g.map V.int))) rs gs → rs.Nodup → Ext N Bs Hs B H → Z.at_ s B H → (∀ r ∈ rs, ¬ Z.N r) →
    ∃ B', Ext N Bs Hs B' H ∧ Z.at_ s B' H ∧ Ex B B' ∧ (∀ p, p ∉ rs → B' p = B p) ∧ Paired ((qL qI).r B') (rs.map V.ref) gs
  | _, _, B, .nil, _, x, c, _ => ⟨B, x, c, .refl _, fun _ _ => rfl, .nil⟩
  | r :: rs, g :: gs, B, .cons h t, nd, x, c, nN => by
    obtain ⟨h1, h2, h3⟩ := h
    have nd' := List.nodup_cons.mp nd
    obtain ⟨B', x', c', e', k', p'⟩ := fzg_rows rs gs (upd B r (.lst (g.map V.int))) (Pr.impM (fun q g' hq k => ⟨k.1, (by
      have hne : q ≠ r := fun e => nd'.1 (by rw [← e]; exact hq)
      rw [upd_ne hne]; exact k.2.1), k.2.2⟩) t) nd'.2 (x.freeze h1 h2 h3) (Z.fz c (nN r List.mem_cons_self)) (fun q hq => nN q (List.mem_cons_of_mem _ hq))
    refine ⟨B', x', c', (Ex.new h2).trans e', fun p hp => ?_, .cons ⟨r, _, rfl, e' _ _ upd_same, Pr.map _⟩ p'⟩
    rw [List.mem_cons, not_or] at hp
    rw [k' p hp.2, upd_ne hp.1]
theorem ev_fzG {d : List (List Int)} (h : Ev Z pG te σ B H s d s1) : Ev Z (pI (qL (qL qI))) te σ B H s d s1 := fun B1 H1 x c Q q =>
  h B1 H1 x c _ fun l rs B2 H2 x2 c2 n b2 h2 r2 m => by
    obtain ⟨B', x', c', e', k', p'⟩ := fzg_rows (N := Z.N) rs d B2 r2.1 r2.2 x2 c2 (fun r hr => fresh_nN c (rows_some r2 hr).1)
    have nb : B' l = none := by rw [k' l m]; exact b2
    exact q _ _ H2 (x'.freeze n nb h2) (Z.fz c' (fresh_nN c n)) ⟨l, _, rfl, upd_same, Pr.mono (Ex.new nb) p'⟩
end
/-! ### defs -/
section
variable {P : Program} {w : World} {K : PySem.W.Frag} {mg : Str → Option Value} {base : Heap}
theorem mkFn {x : Str} {st : Stmt} {N ps : List Str} {k : Nat} {sp : Sp} (D : Has K mg x st) (S : FnScope N ps (defScope st)) (len : ∀ vs H Q E, sp vs H Q E → vs.length = ps.length)
    (bind : ∀ (kV doc pm : Value) (an : Option Addr) (cdv ct : Value) (us : List Value), us.length = ps.length → bindArgs (PySem.W.fnOf x x (defArgs st) (defBody st) (defScope st) .none kV doc pm an cdv ct) ⟨us, []⟩ = pure (ps.zip us))
    (body : ∀ (f : Addr) (cdv : Value) (A : Around) (outer : List Env) (s : Shared) (H : Hp) (vs : List V) (Q : VK) (E : XK), Room k (A.deeper (envOfC x (defScope st) s.heap.objs.size f cdv)) → sp vs H Q E →
      ∃ t, PSs (cxOf CX0 P w K mg base N x (defScope st) f cdv A outer s H E).nox (defBody st) t ∧ t { nx := fun _ H' => Q .non H', rt := Q } (start N vs) H) : Fn P w K mg base (k + 1) x ps [] sp := by
  obtain ⟨f, fd, hm, F⟩ := D.ex
  exact ⟨f, fd, [], hm, F.kp, F.binds bind, .nil, F.ok S len fun cdv A outer s H vs Q E hr h => body f cdv A outer s H vs Q E hr h⟩
structure HasD (K : PySem.W.Frag) (mg : Str → Option Value) (x : Str) (st : Stmt) (dvs : List V) : Prop where
  ex : ∃ f fd, mg x = some (.ref f) ∧ FunD K x x (defArgs st) (defBody st) (defScope st) dvs [] f fd
/-- a def with defaults: j of them are written by the caller -/
theorem mkFnD {x : Str} {st : Stmt} {N ps : List Str} {k : Nat} {sp : Sp} {dvs : List V} (n j : Nat) (D : HasD K mg x st dvs) (S : FnScope N ps (defScope st)) (len : ∀ vs H Q E, sp vs H Q E → vs.length = ps.length) (hd : dvs ≠ []) (hn : n + (dvs.length - j) = ps.length)
    (bind : ∀ (T : Addr) (kV doc pm : Value) (an : Option Addr) (cdv ct : Value) (us its : List Value), us.length = n → its.length = dvs.length →
      ∃ k, bindArgs (PySem.W.fnOf x x (defArgs st) (defBody st) (defScope st) (.ref T) kV doc pm an cdv ct) ⟨us, []⟩ = seqItems? (.ref T) >>= k ∧ k (some its.toArray) = pure (ps.zip (us ++ its.drop j)))
    (body : ∀ (f : Addr) (cdv : Value) (A : Around) (outer : List Env) (s : Shared) (H : Hp) (vs : List V) (Q : VK) (E : XK), Room k (A.deeper (envOfC x (defScope st) s.heap.objs.size f cdv)) → sp vs H Q E →
      ∃ t, PSs (cxOf CX0 P w K mg base N x (defScope st) f cdv A outer s H E).nox (defBody st) t ∧ t { nx := fun _ H' => Q .non H', rt := Q } (start N vs) H) : Fn P w K mg base (k + 1) x ps (dvs.drop j) sp := by
  obtain ⟨f, fd, hm, F⟩ := D.ex
  obtain ⟨ds, hv, hb⟩ := F.binds1 n j hd hn bind
  refine ⟨f, fd, ds, hm, F.kp, hb, hv, F.ok S len fun cdv A outer s H vs Q E hr h => ?_⟩
  obtain ⟨t, p, q⟩ := body f cdv A outer s H vs Q E hr h
  exact ⟨t, p.nox, q⟩
/-- the empty tuple that stands as a default -/
def Empty (K : PySem.W.Frag) (T : Addr) : Prop := ∃ (o : Obj) (n : Nat), K.lookup T = some o ∧ o.cls = .type "tuple" ∧ o.data = .seq #[] n
theorem empty_qT {α : Type} {R : Rel α} {T : Addr} {B : Hp} (h : Empty K T) : (qT K R).r B (.ref T) [] := by
  obtain ⟨o, n, h1, h2, h3⟩ := h
  exact ⟨T, [], rfl, .inr ⟨o, #[], n, h1, h2, h3, Nat.zero_le _, .nil⟩, .nil⟩
end
/-- told by a name -/
def lt {α β : Type} (e : α) (f : α → Option β) : Option β := f e
theorem ltS {α β : Type} {e : α} {f : α → Option β} {r : β} (h : lt e f = some r) : ∃ x, e = x ∧ f x = some r := ⟨e, rfl, h⟩
theorem ifT {α : Type} {c : Bool} {a b : Option α} {r : α} (h : (if c = true then a else b) = some r) (hc : c = true) : a = some r := by rw [if_pos hc] at h; exact h
theorem ifF {α : Type} {c : Bool} {a b : Option α} {r : α} (h : (if c = true then a else b) = some r) (hc : c = false) : b = some r := by rw [if_neg (by rw [hc]; exact Bool.false_ne_true)] at h; exact h
theorem pe_globI {X : Cx} {x : Str} {n : Int} {pos : Pos} (hg : Gl X x) (h : ∃ t, X.mg x = some (.int n t)) (hd : (x == ("__debug__" : Str)) = false := by decide) : PE X (.Name x pos) (tC (.int n)) := by
  obtain ⟨t, h⟩ := h
  exact pe_glob hg h ⟨t, rfl⟩ hd
theorem tgn {i : Nat} {v : V} {σ : L2.St} {H : Hp} {Q : L2.St → Hp → Prop} (q : Q (σ.set i (some v)) H) : gName i v σ H Q := q
end LW
set_option Elab.async false
set_option linter.all false
set_option maxRecDepth 100000
set_option maxHeartbeats 4000000
/-! Lw9: what the printed proofs still ask for. -/
namespace LW
open PySem L2 PyProof.Rows
def catO {α β : Type} (f : α → Option (List β)) : List α → Option (List β)
  | [] => some []
  | x :: xs => (f x).bind fun y => (catO f xs).bind fun ys => some (y ++ ys)
theorem catS_catO {α β δ : Type} {f : α → Option (List β)} {s : δ} : ∀ {xs : List α} {ys : List β}, catO f xs = some ys → catS (fun x s => (f x).bind fun y => some (y, s)) xs s = some (ys, s)
  | [], _, h => by cases h; rfl
  | x :: xs, ys, h => by
    obtain ⟨y, h1, h⟩ := bindS h
    obtain ⟨zs, h2, h⟩ := bindS h
    cases h
    show Option.bind (Option.bind _ _) _ = _
    rw [h1, Option.bind_some, Option.bind_some]
    show Option.bind (catS _ xs s) _ = _
    rw [catS_catO h2]; rfl
/-- tuple + tuple, the left one not empty -/
def catTO {α : Type} (xs ys : List α) : Option (List α) := if xs.length = 0 then none else if xs.length + ys.length ≤ 1000000 then some (xs ++ ys) else none
theorem catTO_ok {α : Type} {xs ys zs : List α} (h : catTO xs ys = some zs) : xs ≠ [] ∧ xs.length + ys.length ≤ 1000000 ∧ xs ++ ys = zs := by
  unfold catTO at h
  rcases iteS h with ⟨h1, h2⟩ | ⟨h1, h2⟩
  · cases h2
  · rcases iteS h2 with ⟨h3, h4⟩ | ⟨h3, h4⟩
    · exact ⟨fun e => h1 (by rw [e]; rfl), h3, Option.some.inj h4⟩
    · cases h4
/-- what a loop's end tells -/
def ctl {β ρ τ : Type} (c : Ctl β ρ) (k : ρ → Option τ) (f : β → Option τ) : Option τ := match c with
  | .nx b => f b
  | .bk b => f b
  | .rt r => k r
section
variable {δ : Type} {α β γ ρ : Type} {Z : Cell δ} {σ : L2.St} {B0 H0 B H B1 H1 B' H' : Hp} {Nf : NP} {s s1 s2 s3 : δ} {ta tb tc te : TE} {t u : TT} {tas : TA} {K : PySem.W.Frag} {R : Rel α} {S : Rel β} {T : Rel γ} {D : Ends} {tz tu tw : TS} {i j : Nat}
theorem ev_catT {a b r : List α} (ha : Ev Z (pI (qT K R)) ta σ B H s a s1) (hb : Ev Z (pI (qT K R)) tb σ B H s1 b s2) (h : catTO a b = some r) : Ev Z (pI (qT K R)) (tOp (rCatT K) ta tb) σ B H s r s2 := fun B1 H1 x c Q q => by
  obtain ⟨h1, h2, rfl⟩ := catTO_ok h
  refine ha B1 H1 x c _ fun va B2 H2 x2 c2 r2 => hb B2 H2 (x.trans x2) c2 _ fun vb B3 H3 x3 c3 r3 => ?_
  obtain ⟨p, vs, rfl, hp, r2⟩ := (qT K R).mono x3.b r2
  obtain ⟨p', ws, rfl, hp', r3⟩ := r3
  refine ⟨p, p', vs, ws, rfl, rfl, ex_t x3.bh hp, ex_t x3.bh hp', fun e => h1 ?_, sz_of (by rw [Pr.length r2, Pr.length r3]; exact h2), fun e => ?_, fun e m hm => ?_⟩
  · subst e; cases r2; rfl
  · subst e; cases r3
    exact q _ B3 H3 (x2.trans x3) c3 ⟨p, vs, rfl, hp, by rw [List.append_nil]; exact r2⟩
  · exact q (.ref m) (upd B3 m (.tup (vs ++ ws))) _ ((x2.trans x3).trans (Ext.newB x3.bh hm)) (Z.wr (Z.fz c3 (fresh_nN c3 hm)) (fresh_nN c3 hm)) ⟨m, _, rfl, SqT.of upd_same, Pr.mono (Ex.new (x3.bh.none hm)) (Pr.app r2 r3)⟩
/-! ### arguments left out -/
theorem ad_nil {T : Addr} (h : Empty K T) : ∀ (B : Hp) (vs : List V), aNil B vs () → aCons (qT K R) aNil B (vs ++ [V.ref T]) ([], ()) := fun B vs e => by
  cases e
  exact ⟨.ref T, [], rfl, empty_qT h, rfl⟩
theorem ad_cons {A' : AR β} {A : AR γ} {d' : β} {d : γ} {dvs : List V} {a : α} (h : ∀ (B : Hp) (vs : List V), A' B vs d' → A B (vs ++ dvs) d) : ∀ (B : Hp) (vs : List V), aCons R A' B vs (a, d') → aCons R A B (vs ++ dvs) (a, d) := fun B vs ⟨v, r, e, h1, h2⟩ => ⟨v, r ++ dvs, by rw [e]; rfl, h1, h _ _ h2⟩
/-! ### a list of the frame's lent to a call -/
def aRef (l : Addr) (A : AR β) : AR (α × β) := fun B vs d => ∃ r, vs = .ref l :: r ∧ A B r d.2
theorem ea_ref {l : Addr} {A : AR β} {xs : α} {b : β} (hi : σ[i]? = some (some (.ref l))) (hb : EvA Z A tas σ B H s b s1) : EvA Z (aRef l A) (tCons (tVar i) tas) σ B H s (xs, b) s1 := fun B1 H1 x c Q q =>
  ⟨_, hi, hb B1 H1 x c _ fun vs B2 H2 x2 c2 r2 => q _ B2 H2 x2 c2 ⟨vs, rfl, r2⟩⟩
def Lend (S : Rel β) (l : Addr) (xs : List β) (A' A : AR α) (d : α) : Prop := ∀ (B : Hp) (vs ws : List V), A' B vs d → Paired (S.r B) ws xs → B l = none → A (upd B l (.lst ws)) vs d
theorem lend_nil {l : Addr} {xs : List β} : Lend S l xs aNil aNil () := fun _ _ _ h _ _ => h
theorem lend_cons {l : Addr} {xs : List β} {A' A : AR γ} {a : α} {d : γ} (h : Lend S l xs A' A d) : Lend S l xs (aCons R A') (aCons R A) (a, d) := fun B vs ws ⟨v, r, e, k, h2⟩ rw hb => ⟨v, r, e, R.mono (Ex.new hb) k, h B r ws h2 rw hb⟩
theorem lend_here {l : Addr} {xs : List β} {A' A : AR γ} {d : γ} (h : Lend S l xs A' A d) : Lend S l xs (aRef l A') (aCons (qL S) A) (xs, d) := fun B vs ws ⟨r, e, h2⟩ rw hb => ⟨.ref l, r, e, ⟨l, ws, rfl, upd_same, Pr.mono (Ex.new hb) rw⟩, h B r ws h2 rw hb⟩
theorem ev_lend {l : Addr} {xs : List β} {A A' : AR α} {f : α → Option ρ} {P : Rel ρ} {d : α} {r : ρ} (o : Own S Z.N H0 B H l xs) (ha : EvA Z A' tas σ B H s d s1)
    (hA : Lend S l xs A' A d) (h : f d = some r) (hP : ∀ {B B' v a}, P.r B v a → P.r B' v a) : Ev Z (pI P) (tCall (spf A f (pI P)) [] E0 tas) σ B H s r s1 :=
  ev_callB o ha (fun B vs ws h1 h2 h3 => a_id _ _ (hA B vs ws h1 h2 h3)) h hP
/-- the frame's own list of draws becomes the cell -/
theorem Own.cell {l : Addr} {ds : List Int} (o : Own qI c0.N H0 B H l ds) (w : Wd Nf B0 H0 c0 () B H) : Wd Nf B0 H0 (cD l) ds B H := by
  obtain ⟨n0, nN, nb, vs, h, r⟩ := o
  have e : vs = ds.map V.int := Pr.eqmap r
  subst e
  exact ⟨w.en, ⟨nb, h⟩, fun a e => .inr (by rw [show a = l from e]; exact n0)⟩
end
end LW
namespace LW
open PySem L2
section
variable {α : Type} {R : Rel α} {N : NP} {H0 B B' H : Hp} {l : Addr} {d : List α}
theorem Own.nm {rs : List Addr} (o : Own R N H0 B H l d) (h : ∀ r ∈ rs, H r = none) : l ∉ rs := fun m => o.ne (h l m) rfl
theorem Own.reB (o : Own R N H0 B H l d) (h : B' l = B l) (e : Ex B B') : Own R N H0 B' H l d := by
  obtain ⟨n0, nN, nb, vs, hl, r⟩ := o
  exact ⟨n0, nN, h.trans nb, vs, hl, Pr.mono e r⟩
theorem fnUp {P : Program} {w : World} {K : PySem.W.Frag} {mg : Str → Option Value} {base : Heap} {j k : Nat} {x : Str} {ps : List Str} {dvs : List V} {sp : Sp} (h : j ≤ k) (F : Fn P w K mg base j x ps dvs sp) : Fn P w K mg base k x ps dvs sp := by
  obtain ⟨f, fd, ds, h1, h2, h3, h4, F⟩ := F.ex
  exact ⟨f, fd, ds, h1, h2, h3, h4, F.mono h⟩
end
end LW
/-! ### the rules with the text's known part told -/
namespace LW
open PySem L2 PyProof.Rows
section
variable {X : Cx} {tg : Expr} {tl : TE} {l : Expr} {ta : TA} {p pos tpos : Pos} {elts : List Expr} {kk : Nat} {e : Expr}
theorem kix_list (K : PySem.W.Frag) (h : X.K = K) : IxR X (rIxL K) := by subst h; exact ix_list
theorem kix_tup (K : PySem.W.Frag) (h : X.K = K) : IxR X (rIxT K) := by subst h; exact ix_tup
theorem kop_in (K : PySem.W.Frag) (h : X.K = K) : OpR X (compareOp .In) (rIn K false) := by subst h; exact op_in_seq
theorem kop_notIn (K : PySem.W.Frag) (h : X.K = K) : OpR X (compareOp .NotIn) (rIn K true) := by subst h; exact op_notIn_seq
theorem kop_eqD (K : PySem.W.Frag) (h : X.K = K) (hu : X.A.units + 64 < cLine) : OpR X (compareOp .Eq) (rEqD K) := by subst h; exact op_eqD hu
theorem kop_neD (K : PySem.W.Frag) (h : X.K = K) (hu : X.A.units + 64 < cLine) : OpR X (compareOp .NotEq) (rNeD K) := by subst h; exact op_neD hu
theorem kop_catT (K : PySem.W.Frag) (h : X.K = K) : OpR X (binaryOp .Add) (rCatT K) := by subst h; exact op_catT
theorem kcl_len (K : PySem.W.Frag) (h : X.K = K) : CallR X (.builtin "len") (rLenS K) := by subst h; exact cl_len
theorem kcl_list (K : PySem.W.Frag) (h : X.K = K) : CallR X (.type "list") (rListS K) := by subst h; exact cl_list
theorem kcl_tuple (K : PySem.W.Frag) (h : X.K = K) : CallR X (.type "tuple") (rTupS K) := by subst h; exact cl_tuple
theorem kcr_sum (K : PySem.W.Frag) (h : X.K = K) (hc : X.calm = true) : CallR X (.builtin "sum") (rSum K) := by subst h; exact cr_sum hc
theorem kcr_sumT (K : PySem.W.Frag) (h : X.K = K) (hc : X.calm = true) : CallR X (.builtin "sum") (rSumT K) := by subst h; exact cr_sumT hc
theorem kcr_all (K : PySem.W.Frag) (h : X.K = K) (hc : X.calm = true) : CallR X (.builtin "all") (rAll K) := by subst h; exact cr_all hc
theorem kcr_any (K : PySem.W.Frag) (h : X.K = K) (hc : X.calm = true) : CallR X (.builtin "any") (rAny K) := by subst h; exact cr_any hc
theorem kcr_sortedI (K : PySem.W.Frag) (h : X.K = K) : CallR X (.builtin "sorted") (rSortedI K) := by subst h; exact cr_sortedI
theorem kcall_isi (K : PySem.W.Frag) (h : X.K = K) : CallR X (.builtin "isinstance") (rIsi K) := by subst h; exact call_isi
theorem kcall_isiT (K : PySem.W.Frag) (h : X.K = K) : CallR X (.builtin "isinstance") (rIsiT K) := by subst h; exact call_isiT
theorem ksl_list (K : PySem.W.Frag) (h : X.K = K) : SlR X (rSlL K) := by subst h; exact sl_list
theorem kpi_list (K : PySem.W.Frag) (h : X.K = K) (hl : PE X l tl) : PI X tg l (iList K tl) := by subst h; exact pi_list hl
theorem kpi_tup (K : PySem.W.Frag) (h : X.K = K) (hl : PE X l tl) : PI X tg l (iTup K tl) := by subst h; exact pi_tup hl
theorem kpi_enum (K : PySem.W.Frag) (h : X.K = K) (hg : Gl X "enumerate") (hm : X.mg "enumerate" = none) (ha : PA X [e] ta) (hs : starEach [e] X.env = [(false, eval e X.env)] := by rfl) :
    PI X (.Tuple elts kk tpos) (.Call (.Name "enumerate" p) [e] [] pos) (iEnum K ta) := by subst h; exact pi_enum hg hm ha hs
theorem kpi_enumT (K : PySem.W.Frag) (h : X.K = K) (hg : Gl X "enumerate") (hm : X.mg "enumerate" = none) (ha : PA X [e] ta) (hs : starEach [e] X.env = [(false, eval e X.env)] := by rfl) :
    PI X (.Tuple elts kk tpos) (.Call (.Name "enumerate" p) [e] [] pos) (lwIEnumT K ta) := by subst h; exact lw_pi_enumT hg hm ha hs
end
end LW
namespace LW
open PySem L2
theorem nx_tz {t : TS} {D : Ends} {rt : VK} {bk ct : L2.St → Hp → Prop} {σ : L2.St} {H : Hp} (h : t D σ H) : ({ nx := t D, rt := rt, bk := bk, ct := ct } : Ends).nx σ H := h
theorem st_nextT {t : TS} {D : Ends} {rt : VK} {bk ct : L2.St → Hp → Prop} {σ : L2.St} {H : Hp} (h : t D σ H) : tNext { nx := t D, rt := rt, bk := bk, ct := ct } σ H := h
end LW
set_option Elab.async false
set_option linter.all false
set_option maxRecDepth 100000
set_option maxHeartbeats 4000000
/-! LwX: xs.index(y) on lists of numbers. -/
namespace LW
open PySem L2
/-- the least place of x -/
def idxO : List Int → Int → Option Int
  | [], _ => none
  | y :: ys, x => if y = x then some 0 else (idxO ys x).map fun k => k + 1
theorem idxO_ok : ∀ {ys : List Int} {x k : Int}, idxO ys x = some k → ∃ j : Nat, k = (j : Int) ∧ ys[j]? = some x ∧ ∀ m y', m < j → ys[m]? = some y' → y' ≠ x
  | [], _, _, h => by cases h
  | y :: ys, x, k, h => by
    unfold idxO at h
    by_cases e : y = x
    · rw [if_pos e] at h
      cases h
      exact ⟨0, rfl, by rw [e]; rfl, fun m y' hm => absurd hm (Nat.not_lt_zero m)⟩
    · rw [if_neg e] at h
      obtain ⟨k', h1, rfl⟩ := Option.map_eq_some_iff.mp h
      obtain ⟨j, rfl, h2, h3⟩ := idxO_ok h1
      refine ⟨j + 1, rfl, by simpa using h2, fun m y' hm hy => ?_⟩
      cases m with
      | zero =>
        have : y = y' := by simpa using hy
        rw [← this]; exact e
      | succ m => exact h3 m y' (by omega) (by simpa using hy)
section
variable {δ : Type} {Z : Cell δ} {σ : L2.St} {B H : Hp} {s s1 s2 : δ} {ta tb : TE} {K : PySem.W.Frag}
theorem ev_idx {d : List Int} {i r : Int} (ha : Ev Z (pW qI) ta σ B H s d s1) (hb : Ev Z (pI qI) tb σ B H s1 i s2) (h : idxO d i = some r) : Ev Z (pI qI) (tBM K "list" (rIndex K) ta (tCons tb tNil)) σ B H s r s2 := fun B1 H1 x c Q q =>
  ha B1 H1 x c _ fun l vs B2 H2 x2 c2 n h2 r2 => ⟨.inl ⟨rfl, vs, SqL.of h2⟩, hb B2 H2 (x.trans x2) c2 _ fun w B3 H3 x3 c3 r3 => by
    have e : vs = d.map V.int := Pr.eqmap r2
    subst e
    obtain ⟨j, rfl, h4, h5⟩ := idxO_ok h
    have r3 : w = .int i := r3
    subst r3
    refine ⟨l, d.map V.int, .int i, j, .int i, rfl, rfl, SqL.of (x3.h _ _ n h2), rfl, ?_, by rw [List.getElem?_map, h4]; rfl, ?_, fun m z hm hz => ?_, q _ B3 H3 (x2.trans x3) c3 rfl⟩
    · rw [List.all_map]
      exact List.all_eq_true.mpr fun _ _ => rfl
    · show (i == i) = true
      exact beq_self_eq_true i
    · rw [List.getElem?_map] at hz
      obtain ⟨y', hy, rfl⟩ := Option.map_eq_some_iff.mp hz
      show (y' == i) = false
      exact beq_eq_false_iff_ne.mpr (h5 m y' hm hy)⟩
end
theorem kpe_fld {X : Cx} {e : Expr} {f : Str} {pos : Pos} {ta : TE} (K : PySem.W.Frag) (h : X.K = K) (he : PE X e ta) (hb : attributeBase e f X.env (eval e X.env) = eval e X.env) : PE X (.Attribute e f pos) (tFld K ta f) := by subst h; exact pe_fld he hb
end LW
set_option Elab.async false
set_option linter.all false
set_option maxRecDepth 100000
set_option maxHeartbeats 4000000
set_option pp.maxSteps 400
/-! the mirrors of law_k18_either_pushes_tell_one_number, printed by gen2.py -/
namespace LK
open PySem L2 LW
def M.draws_fi_l2 : Int → ((List Int) × Int) → Option ((List Int) × Int) := fun turn (drawn_3, cell_4) => if (decide ((0 : Int) < cell_4)) = true then ((Option.bind (appO drawn_3 (cell_4 % (30 : Int))) fun drawn_4 => lt ((cell_4 / (30 : Int))) fun cell_5 => some (drawn_4, cell_5))) else (some (drawn_3, cell_4))
def M.draws_fi_l3 (at_ : Int) : Int → ((List Int) × Int) → Option ((List Int) × Int) := fun turn_2 (drawn_6, seed_4) => (Option.bind (mulO seed_4 seed_4) fun t18 => lt (((((t18 + ((5 : Int) * turn_2)) + at_) + (1 : Int)) % (2147483587 : Int))) fun seed_5 => (Option.bind (appO drawn_6 ((seed_5 / (11 : Int)) % (27720 : Int))) fun drawn_7 => some (drawn_7, seed_5)))
def M.draws_fi_l1 (script : (List Int)) : Int → ((List Int) × Int) → Option ((List Int) × Int) := fun at_ (drawn_2, seed_2) => (Option.bind (atI script at_) fun cell => Option.bind (if (decide (cell < (0 : Int))) = true then (lt (((3 : Int) - ((2 : Int) * cell))) fun cell_3 => some (cell_3)) else (some (cell))) fun cell_2 => if (decide ((1000000000000000000 : Int) ≤ cell_2)) = true then ((Option.bind (rngO 0 (44 : Int)) fun r10 => Option.bind (forO M.draws_fi_l2 r10 (drawn_2, cell_2)) fun (drawn_5, cell_6) => some (drawn_5, seed_2))) else (lt (((((seed_2 * (31 : Int)) + (cell_2 * (7919 : Int))) + at_) % (2147483629 : Int))) fun seed_3 => (Option.bind (rngO 0 (5 : Int)) fun r16 => Option.bind (forO (M.draws_fi_l3 at_) r16 (drawn_2, seed_3)) fun (drawn_8, seed_6) => some (drawn_8, seed_6))))
def M.draws_fi (script : (List Int)) : Option (List Int) := lt (([] : List Int)) fun drawn => lt ((911 : Int)) fun seed => (Option.bind (rngO 0 (min (script.length : Int) (63 : Int))) fun r3 => Option.bind (forO (M.draws_fi_l1 script) r3 (drawn, seed)) fun (drawn_9, seed_7) => lt (drawn_9.reverse) fun drawn_10 => some (drawn_10))
def M.take (ds : List Int) (many : Int) : Option (Int × List Int) := if ((decide (many < (2 : Int))) || (decide ((ds.length : Int) = (0 : Int)))) = true then (some ((0 : Int), ds)) else ((Option.bind (popO ds) fun (t2, ds3) => Option.bind (modO t2 many) fun t4 => some (t4, ds3)))
def M.empty (size : Int) : Option (List (List Int)) := (Option.bind (rngO 0 size) fun r1 => Option.bind (lnO 100000 r1) fun z6 => Option.bind (mapO (fun x_ => (Option.bind (rngO 0 size) fun r3 => Option.bind (lnO 100000 r3) fun z5 => some ((r3.map fun y_ => (0 : Int))))) r1) fun t7 => some (t7))
def M.rate (ds : List Int) (style : Int) : Option (Int × List Int) := if (decide (style = (0 : Int))) = true then (some ((1 : Int), ds)) else ((Option.bind (M.take ds (9 : Int)) fun (t2, ds3) => lt (((1 : Int) + t2)) fun rate_here => if ((decide (style = (7 : Int))) && (decide (rate_here = (9 : Int)))) = true then (some (((1000000 : Int) + (3 : Int)), ds3)) else (some (rate_here, ds3))))
def M.hung_grid_l1 (size : Int) (style : Int) : Int → ((List (List Int)) × Int × List Int) → Option ((List (List Int)) × Int × List Int) := fun step (grid_here_2, at__2, ds_2) => if (decide (at__2 < size)) = true then ((Option.bind (M.take ds_2 at__2) fun (old, ds8) => (Option.bind (M.rate ds8 style) fun (t10, ds11) => Option.bind (gsetO grid_here_2 old at__2 t10) fun grid_here_3 => (Option.bind (if (decide ((at__2 + (1 : Int)) < size)) = true then (Option.bind (M.take ds11 (3 : Int)) fun (t13, ds14) => some ((decide (t13 = (2 : Int))), ds14)) else some (false, ds11)) fun (c15, ds16) => Option.bind (if c15 = true then ((Option.bind (M.rate ds16 style) fun (t18, ds19) => Option.bind (gsetO grid_here_3 at__2 (at__2 + (1 : Int)) t18) fun grid_here_5 => lt ((at__2 + (1 : Int))) fun at__4 => some (grid_here_5, at__4, ds19))) else (some (grid_here_3, at__2, ds16))) fun (grid_here_4, at__3, ds_3) => (Option.bind (M.rate ds_3 style) fun (t22, ds23) => Option.bind (gsetO grid_here_4 at__3 old t22) fun grid_here_6 => lt ((at__3 + (1 : Int))) fun at__5 => some (grid_here_6, at__5, ds23)))))) else (some (grid_here_2, at__2, ds_2))
def M.hung_grid (ds : List Int) (size : Int) (style : Int) : Option ((List (List Int)) × List Int) := (Option.bind (M.empty size) fun grid_here => lt ((1 : Int)) fun at_ => (Option.bind (rngO 0 size) fun r4 => Option.bind (forO (M.hung_grid_l1 size style) r4 (grid_here, at_, ds)) fun (grid_here_7, at__6, ds_4) => some (grid_here_7, ds_4)))
def M.lots_grid_l2 (size : Int) (style : Int) (half : Int) (x_ : Int) : Int → ((List (List Int)) × List Int) → Option ((List (List Int)) × List Int) := fun y_ (grid_here_3, ds_3) => lt ((0 : Int)) fun start => lt (half) fun many => Option.bind (if (decide (half ≤ x_)) = true then (lt (half) fun start_3 => lt ((size - half)) fun many_3 => some (start_3, many_3)) else (some (start, many))) fun (start_2, many_2) => lt (((!(decide (y_ = x_))) && ((decide (start_2 ≤ y_)) && (decide (y_ < (start_2 + many_2)))))) fun inside => (Option.bind (modO ((x_ - start_2) + (1 : Int)) many_2) fun t14 => lt ((decide (y_ = (start_2 + t14)))) fun follows => (Option.bind (if inside = true then (Option.bind (if follows = true then some (true, ds_3) else (Option.bind (M.take ds_3 (2 : Int)) fun (t16, ds17) => some ((decide (t16 = (1 : Int))), ds17))) fun (c18, ds19) => some (c18, ds19)) else some (false, ds_3)) fun (c20, ds21) => if c20 = true then ((Option.bind (M.rate ds21 style) fun (t23, ds24) => Option.bind (gsetO grid_here_3 x_ y_ t23) fun grid_here_4 => some (grid_here_4, ds24))) else (some (grid_here_3, ds21))))
def M.lots_grid_l1 (size : Int) (style : Int) (half : Int) : Int → ((List (List Int)) × List Int) → Option ((List (List Int)) × List Int) := fun x_ (grid_here_2, ds_2) => (Option.bind (rngO 0 size) fun r6 => Option.bind (forO (M.lots_grid_l2 size style half x_) r6 (grid_here_2, ds_2)) fun (grid_here_5, ds_4) => some (grid_here_5, ds_4))
def M.lots_grid_l3 (size : Int) (style : Int) (half : Int) : Int → ((List (List Int)) × List Int) → Option ((List (List Int)) × List Int) := fun turn (grid_here_7, ds_6) => (Option.bind (M.take ds_6 half) fun (near, ds29) => (Option.bind (M.take ds29 (size - half)) fun (t31, ds32) => lt ((half + t31)) fun far => if (decide (turn = (0 : Int))) = true then ((Option.bind (M.rate ds32 style) fun (t35, ds36) => Option.bind (gsetO grid_here_7 near far t35) fun grid_here_8 => some (grid_here_8, ds36))) else ((Option.bind (M.rate ds32 style) fun (t38, ds39) => Option.bind (gsetO grid_here_7 far near t38) fun grid_here_9 => some (grid_here_9, ds39)))))
def M.lots_grid (ds : List Int) (size : Int) (style : Int) : Option ((List (List Int)) × List Int) := (Option.bind (M.empty size) fun grid_here => lt ((size / (2 : Int))) fun half => (Option.bind (rngO 0 size) fun r4 => Option.bind (forO (M.lots_grid_l1 size style half) r4 (grid_here, ds)) fun (grid_here_6, ds_5) => (Option.bind (rngO 0 (2 : Int)) fun r26 => Option.bind (forO (M.lots_grid_l3 size style half) r26 (grid_here_6, ds_5)) fun (grid_here_10, ds_7) => some (grid_here_10, ds_7))))
def M.cross_grid_l1 (style : Int) (pairs : (List (List Int))) : Int → ((List (List Int)) × List Int) → Option ((List (List Int)) × List Int) := fun k_ (grid_here_2, ds_2) => (Option.bind (if (decide (k_ < (7 : Int))) = true then some (true, ds_2) else (Option.bind (M.take ds_2 (3 : Int)) fun (t6, ds7) => some ((decide (t6 = (2 : Int))), ds7))) fun (c8, ds9) => if c8 = true then ((Option.bind (M.rate ds9 style) fun (t11, ds12) => Option.bind (atI pairs k_) fun t13 => Option.bind (atI t13 (0 : Int)) fun t14 => Option.bind (atI pairs k_) fun t15 => Option.bind (atI t15 (1 : Int)) fun t16 => Option.bind (gsetO grid_here_2 t14 t16 t11) fun grid_here_3 => some (grid_here_3, ds12))) else (some (grid_here_2, ds9)))
def M.cross_grid (ds : List Int) (size : Int) (style : Int) : Option ((List (List Int)) × List Int) := (Option.bind (M.empty size) fun grid_here => lt ([[(0 : Int), (2 : Int)], [(0 : Int), (3 : Int)], [(1 : Int), (2 : Int)], [(1 : Int), (3 : Int)], [(0 : Int), (1 : Int)], [(2 : Int), (0 : Int)], [(3 : Int), (0 : Int)], [(3 : Int), (1 : Int)], [(2 : Int), (3 : Int)], [(1 : Int), (0 : Int)]]) fun pairs => (Option.bind (rngO 0 (pairs.length : Int)) fun r4 => Option.bind (forO (M.cross_grid_l1 style pairs) r4 (grid_here, ds)) fun (grid_here_4, ds_3) => Option.bind (if (decide (size = (5 : Int))) = true then ((Option.bind (M.rate ds_3 style) fun (t19, ds20) => Option.bind (gsetO grid_here_4 (0 : Int) (4 : Int) t19) fun grid_here_6 => (Option.bind (M.rate ds20 style) fun (t22, ds23) => Option.bind (gsetO grid_here_6 (4 : Int) (2 : Int) t22) fun grid_here_7 => (Option.bind (M.take ds23 (2 : Int)) fun (t25, ds26) => if (decide (t25 = (0 : Int))) = true then ((Option.bind (gsetO grid_here_7 (0 : Int) (2 : Int) (0 : Int)) fun grid_here_8 => some (grid_here_8, ds26))) else (some (grid_here_7, ds26)))))) else (some (grid_here_4, ds_3))) fun (grid_here_5, ds_4) => some (grid_here_5, ds_4)))
def M.ring_grid_l2 (size : Int) (style : Int) (thick : Int) (x_ : Int) : Int → ((List (List Int)) × List Int) → Option ((List (List Int)) × List Int) := fun y_ (grid_here_3, ds_3) => (Option.bind (modO (x_ + (1 : Int)) size) fun t7 => if (decide (y_ = t7)) = true then ((Option.bind (M.rate ds_3 style) fun (t9, ds10) => Option.bind (gsetO grid_here_3 x_ y_ t9) fun grid_here_4 => some (grid_here_4, ds10))) else ((Option.bind (if (!(decide (y_ = x_))) = true then (Option.bind (M.take ds_3 (4 : Int)) fun (t12, ds13) => some ((decide (((4 : Int) - thick) ≤ t12)), ds13)) else some (false, ds_3)) fun (c14, ds15) => if c14 = true then ((Option.bind (M.rate ds15 style) fun (t17, ds18) => Option.bind (gsetO grid_here_3 x_ y_ t17) fun grid_here_5 => some (grid_here_5, ds18))) else (some (grid_here_3, ds15)))))
def M.ring_grid_l1 (size : Int) (style : Int) (thick : Int) : Int → ((List (List Int)) × List Int) → Option ((List (List Int)) × List Int) := fun x_ (grid_here_2, ds_2) => (Option.bind (rngO 0 size) fun r5 => Option.bind (forO (M.ring_grid_l2 size style thick x_) r5 (grid_here_2, ds_2)) fun (grid_here_6, ds_4) => some (grid_here_6, ds_4))
def M.ring_grid (ds : List Int) (size : Int) (style : Int) (thick : Int) : Option ((List (List Int)) × List Int) := (Option.bind (M.empty size) fun grid_here => (Option.bind (rngO 0 size) fun r3 => Option.bind (forO (M.ring_grid_l1 size style thick) r3 (grid_here, ds)) fun (grid_here_7, ds_5) => some (grid_here_7, ds_5)))
def M.moved_llii_l2 (grid_here : (List (List Int))) (shift : Int) (size : Int) (x_ : Int) : Int → ((List (List Int))) → Option ((List (List Int))) := fun y_ moved_here_3 => (Option.bind (atI grid_here x_) fun t8 => Option.bind (atI t8 y_) fun t9 => Option.bind (modO (x_ + shift) size) fun t10 => Option.bind (modO (y_ + shift) size) fun t11 => Option.bind (gsetO moved_here_3 t10 t11 t9) fun moved_here_4 => some (moved_here_4))
def M.moved_llii_l1 (grid_here : (List (List Int))) (shift : Int) (size : Int) : Int → ((List (List Int))) → Option ((List (List Int))) := fun x_ moved_here_2 => (Option.bind (rngO 0 size) fun r6 => Option.bind (forO (M.moved_llii_l2 grid_here shift size x_) r6 moved_here_2) fun moved_here_5 => some (moved_here_5))
def M.moved_llii (grid_here : (List (List Int))) (shift : Int) : Option (List (List Int)) := lt ((grid_here.length : Int)) fun size => (Option.bind (M.empty size) fun moved_here => (Option.bind (rngO 0 size) fun r4 => Option.bind (forO (M.moved_llii_l1 grid_here shift size) r4 moved_here) fun moved_here_6 => some (moved_here_6)))
def M.grid (ds : List Int)  : Option ((List (List Int)) × List Int) := lt ([(3 : Int), (4 : Int), (3 : Int), (4 : Int), (5 : Int), (4 : Int), (3 : Int), (2 : Int)]) fun sizes => (Option.bind (M.take ds (8 : Int)) fun (t2, ds3) => Option.bind (atI sizes t2) fun size => (Option.bind (M.take ds3 (8 : Int)) fun (style, ds7) => (Option.bind (M.take ds7 (8 : Int)) fun (maker, ds10) => lt ([(1 : Int), (2 : Int), (1 : Int), (4 : Int), (0 : Int)]) fun thick => Option.bind (if (decide (maker = (5 : Int))) = true then ((Option.bind (M.hung_grid ds10 size style) fun (grid_here_2, ds15) => some (grid_here_2, ds15))) else (if (decide (maker = (6 : Int))) = true then ((Option.bind (M.lots_grid ds10 size style) fun (grid_here_3, ds19) => some (grid_here_3, ds19))) else (if (decide (maker = (7 : Int))) = true then ((Option.bind (M.take ds10 (2 : Int)) fun (t22, ds23) => Option.bind (M.cross_grid ds23 ((4 : Int) + t22) style) fun (grid_here_4, ds25) => some (grid_here_4, ds25))) else ((Option.bind (atI thick maker) fun t27 => Option.bind (M.ring_grid ds10 size style t27) fun (grid_here_5, ds29) => some (grid_here_5, ds29)))))) fun (grid_here, ds_2) => (Option.bind (M.take ds_2 (grid_here.length : Int)) fun (t31, ds32) => Option.bind (M.moved_llii grid_here t31) fun t33 => some (t33, ds32)))))
def M.loose_l2 (x_ : Int) : Int → ((List (List Int)) × List Int) → Option ((List (List Int)) × List Int) := fun y_ (other_3, ds_3) => if (!(decide (y_ = x_))) = true then ((Option.bind (M.take ds_3 (8 : Int)) fun (t8, ds9) => Option.bind (gsetO other_3 x_ y_ (max (0 : Int) (t8 - (3 : Int)))) fun other_4 => some (other_4, ds9))) else (some (other_3, ds_3))
def M.loose_l1 (size : Int) : Int → ((List (List Int)) × List Int) → Option ((List (List Int)) × List Int) := fun x_ (other_2, ds_2) => (Option.bind (rngO 0 size) fun r5 => Option.bind (forO (M.loose_l2 x_) r5 (other_2, ds_2)) fun (other_5, ds_4) => some (other_5, ds_4))
def M.loose (ds : List Int) (size : Int) : Option ((List (List Int)) × List Int) := (Option.bind (M.empty size) fun other => (Option.bind (rngO 0 size) fun r3 => Option.bind (forO (M.loose_l1 size) r3 (other, ds)) fun (other_6, ds_5) => some (other_6, ds_5)))
def M.same_shape_lli_l2 (grid_here : (List (List Int))) (x_ : Int) : Int → ((List (List Int)) × List Int) → Option ((List (List Int)) × List Int) := fun y_ (other_3, ds_3) => (Option.bind (atI grid_here x_) fun t7 => Option.bind (atI t7 y_) fun t8 => if (decide ((0 : Int) < t8)) = true then ((Option.bind (M.take ds_3 (9 : Int)) fun (t10, ds11) => Option.bind (gsetO other_3 x_ y_ ((1 : Int) + t10)) fun other_4 => some (other_4, ds11))) else (some (other_3, ds_3)))
def M.same_shape_lli_l1 (grid_here : (List (List Int))) : Int → ((List (List Int)) × List Int) → Option ((List (List Int)) × List Int) := fun x_ (other_2, ds_2) => (Option.bind (rngO 0 (grid_here.length : Int)) fun r5 => Option.bind (forO (M.same_shape_lli_l2 grid_here x_) r5 (other_2, ds_2)) fun (other_5, ds_4) => some (other_5, ds_4))
def M.same_shape_lli (ds : List Int) (grid_here : (List (List Int))) : Option ((List (List Int)) × List Int) := (Option.bind (M.empty (grid_here.length : Int)) fun other => (Option.bind (rngO 0 (grid_here.length : Int)) fun r3 => Option.bind (forO (M.same_shape_lli_l1 grid_here) r3 (other, ds)) fun (other_6, ds_5) => some (other_6, ds_5)))
def M.copy_lli (grid_here : (List (List Int))) : Option (List (List Int)) := (Option.bind (lnO 100000 grid_here) fun z2 => some (grid_here.map fun line => line))
def M.is_int (thing : Int) : Option Bool := some (true && (!false))
def M.table_rows_lli_l2 (x_ : Int) : (Int × Int) → (Unit) → Option (Unit) := fun (y_, rate) _ => (Option.bind (M.is_int rate) fun t6 => if ((!t6) || ((decide (rate < (0 : Int))) || ((decide (x_ = y_)) && (!(decide (rate = (0 : Int))))))) = true then (none) else (some ()))
def M.table_rows_lli_l1 (size : Int) : (Int × (List Int)) → (Unit) → Option (Unit) := fun (x_, row) _ => if ((!(true || false)) || (!(decide ((row.length : Int) = size)))) = true then (none) else (Option.bind (forO (M.table_rows_lli_l2 x_) (enumL 0 row) ()) fun _ => some ())
def M.table_rows_lli (rows : (List (List Int))) : Option (List (List Int)) := if ((!(true || false)) || (!((decide ((2 : Int) ≤ (rows.length : Int))) && (decide ((rows.length : Int) ≤ (8 : Int)))))) = true then (none) else (lt ((rows.length : Int)) fun size => Option.bind (forO (M.table_rows_lli_l1 size) (enumL 0 rows) ()) fun _ => (Option.bind (lnO 100000 rows) fun z9 => some (rows.map fun row => row)))
def M.arrows_of_tti (rows : (List (List Int))) : Option (List (List Int)) := lt ((rows.length : Int)) fun size => (Option.bind (rngO 0 size) fun r2 => Option.bind (lnO 100 r2) fun z10 => Option.bind (catO (fun x_ => (Option.bind (rngO 0 size) fun r4 => Option.bind (lnO 1000 r4) fun z5 => Option.bind (filtO (fun y_ => (Option.bind (atI rows x_) fun t7 => Option.bind (atI t7 y_) fun t8 => if (decide ((0 : Int) < t8)) = true then some (some ([x_, y_])) else some none)) r4) fun t9 => some (t9))) r2) fun t11 => some (t11))
def M.pair (ds : List Int) (size : Int) : Option ((List Int) × List Int) := (Option.bind (M.take ds size) fun (x_, ds2) => (Option.bind (M.take ds2 (size - (1 : Int))) fun (t4, ds5) => Option.bind (modO ((x_ + (1 : Int)) + t4) size) fun t6 => some ([x_, t6], ds5)))
def M.lead_lii_l1 (heads : (List Int)) : Int → (Int) → Option (Int) := fun step at__2 => (Option.bind (atI heads at__2) fun at__3 => some (at__3))
def M.lead_lii (heads : (List Int)) (x_ : Int) : Option Int := lt (x_) fun at_ => (Option.bind (rngO 0 (heads.length : Int)) fun r2 => Option.bind (forO (M.lead_lii_l1 heads) r2 at_) fun at__4 => (Option.bind (atI heads at__4) fun t6 => if (decide (t6 = at__4)) = true then (some (at__4)) else (some (-(1 : Int)))))
def M.forests_llili_l3 (line : (List Int)) : Int → ((List (List Int))) → Option ((List (List Int))) := fun y_ longer_3 => (Option.bind (lenO (line ++ [y_])) fun t16 => Option.bind (appO longer_3 t16) fun longer_4 => some (longer_4))
def M.forests_llili_l2 (heads_2 : (List Int)) : (List Int) → ((List (List Int))) → Option ((List (List Int))) := fun line longer_2 => Option.bind (forO (M.forests_llili_l3 line) heads_2 longer_2) fun longer_5 => some (longer_5)
def M.forests_llili_l1 (grid_here : (List (List Int))) (roots : (List Int)) : Int → ((List (List Int))) → Option ((List (List Int))) := fun x_ rows_2 => (Option.bind (rngO 0 (grid_here.length : Int)) fun r4 => Option.bind (lnO 100000 r4) fun z8 => Option.bind (filtO (fun y_ => (Option.bind (atI grid_here x_) fun t6 => Option.bind (atI t6 y_) fun t7 => if (decide ((0 : Int) < t7)) = true then some (some (y_)) else some none)) r4) fun heads => Option.bind (if (decide (x_ ∈ roots)) = true then (lt ([x_]) fun heads_3 => some (heads_3)) else (some (heads))) fun heads_2 => lt (([] : List (List Int))) fun longer => Option.bind (forO (M.forests_llili_l2 heads_2) rows_2 longer) fun longer_6 => lt (longer_6) fun rows_3 => some (rows_3))
def M.forests_llili_l4 (grid_here : (List (List Int))) (roots : (List Int)) : (List Int) → ((List (List Int))) → Option ((List (List Int))) := fun line_2 kept_2 => (Option.bind (rngO 0 (grid_here.length : Int)) fun r21 => Option.bind (lnO 100000 r21) fun z24 => Option.bind (mapO (fun x_ => (Option.bind (M.lead_lii line_2 x_) fun t23 => some ((decide (t23 ∈ roots))))) r21) fun t25 => if (t25.all id) = true then ((Option.bind (appO kept_2 line_2) fun kept_3 => some (kept_3))) else (some (kept_2)))
def M.forests_llili (grid_here : (List (List Int))) (roots : (List Int)) : Option (List (List Int)) := lt ([([] : List Int)]) fun rows => (Option.bind (rngO 0 (grid_here.length : Int)) fun r2 => Option.bind (forO (M.forests_llili_l1 grid_here roots) r2 rows) fun rows_4 => lt (([] : List (List Int))) fun kept => Option.bind (forO (M.forests_llili_l4 grid_here roots) rows_4 kept) fun kept_4 => some (kept_4))
def M.lead_tii_l1 (heads : (List Int)) : Int → (Int) → Option (Int) := fun step at__2 => (Option.bind (atI heads at__2) fun at__3 => some (at__3))
def M.lead_tii (heads : (List Int)) (x_ : Int) : Option Int := lt (x_) fun at_ => (Option.bind (rngO 0 (heads.length : Int)) fun r2 => Option.bind (forO (M.lead_tii_l1 heads) r2 at_) fun at__4 => (Option.bind (atI heads at__4) fun t6 => if (decide (t6 = at__4)) = true then (some (at__4)) else (some (-(1 : Int)))))
def M.weight_lliti_l1 (grid_here : (List (List Int))) (heads : (List Int)) : Int → (Int) → Option (Int) := fun x_ whole_2 => (Option.bind (atI heads x_) fun t4 => if (!(decide (t4 = x_))) = true then ((Option.bind (atI grid_here x_) fun t6 => Option.bind (atI heads x_) fun t7 => Option.bind (atI t6 t7) fun t8 => Option.bind (mulO whole_2 t8) fun whole_3 => some (whole_3))) else (some (whole_2)))
def M.weight_lliti (grid_here : (List (List Int))) (heads : (List Int)) : Option Int := lt ((1 : Int)) fun whole => (Option.bind (rngO 0 (heads.length : Int)) fun r2 => Option.bind (forO (M.weight_lliti_l1 grid_here heads) r2 whole) fun whole_4 => some (whole_4))
def M.sum_llililti_l1 (grid_here : (List (List Int))) (ends : (List (List Int))) : (List Int) → (Int) → Option (Int) := fun heads whole_2 => (Option.bind (lnO 100000 ends) fun z8 => Option.bind (mapO (fun pair_here => (Option.bind (atI pair_here (0 : Int)) fun t5 => Option.bind (M.lead_tii heads t5) fun t6 => Option.bind (atI pair_here (1 : Int)) fun t7 => some ((decide (t6 = t7))))) ends) fun t9 => if (t9.all id) = true then ((Option.bind (M.weight_lliti grid_here heads) fun t11 => lt ((whole_2 + t11)) fun whole_3 => some (whole_3))) else (some (whole_2)))
def M.sum_llililti (grid_here : (List (List Int))) (roots : (List Int)) (ends : (List (List Int))) : Option Int := lt ((0 : Int)) fun whole => (Option.bind (M.forests_llili grid_here roots) fun t2 => Option.bind (forO (M.sum_llililti_l1 grid_here ends) t2 whole) fun whole_4 => some (whole_4))
def M.tree_row_lli (grid_here : (List (List Int))) : Option (List Int) := (Option.bind (rngO 0 (grid_here.length : Int)) fun r1 => Option.bind (lnO 100000 r1) fun z4 => Option.bind (mapO (fun x_ => (Option.bind (M.sum_llililti grid_here [x_] ([] : List (List Int))) fun t3 => some (t3))) r1) fun t5 => some (t5))
def M.is_state (size : Int) (thing : Int) : Option Bool := (Option.bind (M.is_int thing) fun t1 => some (t1 && ((decide ((0 : Int) ≤ thing)) && (decide (thing < size)))))
def M.check_states_ititti_l1 (size : Int) : (Int × Int) → (Unit) → Option (Unit) := fun (place, state) _ => (Option.bind (M.is_state size state) fun t2 => if (!t2) = true then (none) else (some ()))
def M.check_states_ititti_l2 (states : (List Int)) : (List Int) → (Unit) → Option (Unit) := fun it5 _ => Option.bind (two it5) fun (first, second) => (Option.bind (atI states first) fun t6 => Option.bind (atI states second) fun t7 => if (decide (t6 = t7)) = true then (none) else (some ()))
def M.check_states_ititti (size : Int) (states : (List Int)) (unlike : (List (List Int))) : Option Unit := Option.bind (forO (M.check_states_ititti_l1 size) (enumL 0 states) ()) fun _ => Option.bind (forO (M.check_states_ititti_l2 states) unlike ()) fun _ => some ()
def M.states_of_iti_l1 (size : Int) : (Int × Int) → ((List Int)) → Option ((List Int)) := fun (place, entry) found_2 => (Option.bind (M.is_state size entry) fun t4 => if ((!t4) || (decide (entry ∈ found_2))) = true then (none) else ((Option.bind (appO found_2 entry) fun found_3 => some (found_3))))
def M.states_of_iti (size : Int) (thing : (List Int)) : Option (List Int) := if (!(false || true)) = true then (none) else (lt (([] : List Int)) fun found => Option.bind (forO (M.states_of_iti_l1 size) (enumL 0 thing) found) fun found_4 => some (sortI found_4))
def M.states_outside_Tti (table : Tab) (roots : (List Int)) : Option (List Int) := (Option.bind (rngO 0 table.size) fun r1 => Option.bind (lnO 100000 r1) fun z3 => some ((r1.filter fun x_ => (!(decide (x_ ∈ roots)))).map fun x_ => x_))
def M.left_rows_Tli (table : Tab) (outside : (List Int)) : Option (List (List Int)) := lt (table.rows) fun rows => (Option.bind (lnO 100000 outside) fun z10 => Option.bind (mapO (fun x_ => (Option.bind (lnO 100000 outside) fun z8 => Option.bind (mapO (fun y_ => (Option.bind (if (decide (x_ = y_)) = true then (Option.bind (atI rows x_) fun t4 => some ((t4.sum))) else (Option.bind (atI rows x_) fun t5 => Option.bind (atI t5 y_) fun t6 => some ((-t6)))) fun t7 => some (t7))) outside) fun t9 => some (t9))) outside) fun t11 => some (t11))
def M.corner_row_llii_l1 (work : (List (List Int))) (at_ : Int) : Int → (Unit) → Option (Ctl (Unit) (Int)) := fun place _ => (Option.bind (atI work place) fun t3 => Option.bind (atI t3 at_) fun t4 => if (!(decide (t4 = (0 : Int)))) = true then (some (.rt (place))) else (some (.nx ())))
def M.corner_row_llii (work : (List (List Int))) (at_ : Int) : Option Int := (Option.bind (rngO at_ (work.length : Int)) fun r1 => Option.bind (forC (M.corner_row_llii_l1 work at_) r1 ()) fun c2 => ctl c2 some fun _ => some (-(1 : Int)))
def M.cleared_lliii_l1 (at_ : Int) (last : Int) (corner : (List Int)) : (List Int) → ((List (List Int))) → Option ((List (List Int))) := fun row rows_2 => (Option.bind (rngO 0 (row.length : Int)) fun r5 => Option.bind (lnO 100000 r5) fun z13 => Option.bind (mapO (fun k_ => (Option.bind (atI row k_) fun t7 => Option.bind (atI corner at_) fun t8 => Option.bind (mulO t7 t8) fun t9 => Option.bind (atI row at_) fun t10 => Option.bind (atI corner k_) fun t11 => Option.bind (mulO t10 t11) fun t12 => some ((t9 - t12)))) r5) fun crossed => (Option.bind (lnO 100000 crossed) fun z18 => Option.bind (mapO (fun entry => (Option.bind (divO entry last) fun t17 => some (t17))) crossed) fun t19 => Option.bind (appO rows_2 t19) fun rows_3 => some (rows_3)))
def M.cleared_lliii (work : (List (List Int))) (at_ : Int) (last : Int) : Option (List (List Int)) := (Option.bind (atI work at_) fun corner => lt (([] : List (List Int))) fun rows => Option.bind (forO (M.cleared_lliii_l1 at_ last corner) (cutL work (some (at_ + (1 : Int))) none) rows) fun rows_4 => some (rows_4))
def M.determinant_lli_l1 : Int → ((List (List Int)) × Int × Int) → Option (Ctl ((List (List Int)) × Int × Int) (Int)) := fun at_ (work_2, sign_2, last_2) => (Option.bind (M.corner_row_llii work_2 at_) fun place => if (decide (place < (0 : Int))) = true then (some (.rt ((0 : Int)))) else (Option.bind (if (!(decide (place = at_))) = true then ((Option.bind (atI work_2 place) fun t13 => Option.bind (atI work_2 at_) fun t14 => Option.bind (set2O work_2 at_ t13 place t14) fun work_4 => lt ((-sign_2)) fun sign_4 => some (work_4, sign_4))) else (some (work_2, sign_2))) fun (work_3, sign_3) => (Option.bind (M.cleared_lliii work_3 at_ last_2) fun t18 => Option.bind (lenO ((cutL work_3 none (some (at_ + (1 : Int)))) ++ t18)) fun work_5 => (Option.bind (atI work_5 at_) fun t21 => Option.bind (atI t21 at_) fun last_3 => some (.nx (work_5, sign_3, last_3))))))
def M.determinant_lli (rows : (List (List Int))) : Option Int := (Option.bind (lnO 100000 rows) fun z2 => lt ((rows.map fun row => row)) fun work => lt ((1 : Int)) fun sign => lt ((1 : Int)) fun last => (Option.bind (rngO 0 (work.length : Int)) fun r6 => Option.bind (forC M.determinant_lli_l1 r6 (work, sign, last)) fun c7 => ctl c7 some fun (work_6, sign_5, last_4) => (Option.bind (mulO sign_5 last_4) fun t24 => some (t24))))
def M.forest_row_Titi_l2 (table : Tab) (c_ : Int) (place : Int) : (Int × Int) → ((List (List Int))) → Option ((List (List Int))) := fun (at_, y_) crossed_2 => (Option.bind (atI table.rows y_) fun t19 => Option.bind (atI t19 c_) fun t20 => Option.bind (gsetO crossed_2 at_ place t20) fun crossed_3 => some (crossed_3))
def M.forest_row_Titi_l1 (table : Tab) (c_ : Int) (outside : (List Int)) (left : (List (List Int))) : (Int × Int) → ((List Int)) → Option ((List Int)) := fun (place, x_) found_3 => (Option.bind (lnO 100000 left) fun z16 => lt ((left.map fun row => row)) fun crossed => Option.bind (forO (M.forest_row_Titi_l2 table c_ place) (enumL 0 outside) crossed) fun crossed_4 => (Option.bind (M.determinant_lli crossed_4) fun t23 => Option.bind (setO found_3 x_ t23) fun found_4 => some (found_4)))
def M.forest_row_Titi (table : Tab) (c_ : Int) (others : (List Int)) : Option (List Int) := (Option.bind (M.check_states_ititti table.size [c_] []) fun t1 => (Option.bind (M.states_of_iti table.size others) fun t3 => Option.bind (catTO [c_] t3) fun roots => (Option.bind (M.states_outside_Tti table roots) fun outside => (Option.bind (M.left_rows_Tli table outside) fun left => (Option.bind (repO (0 : Int) table.size) fun found => (Option.bind (M.determinant_lli left) fun t12 => Option.bind (setO found c_ t12) fun found_2 => Option.bind (forO (M.forest_row_Titi_l1 table c_ outside left) (enumL 0 outside) found_2) fun found_5 => some (found_5)))))))
def M.coming_row_Tii (table : Tab) (c_ : Int) (e_ : Int) : Option (List Int) := (Option.bind (M.check_states_ititti table.size [c_, e_] [[(0 : Int), (1 : Int)]]) fun t1 => (Option.bind (M.forest_row_Titi table c_ [e_]) fun t3 => some (t3)))
def M.push_rows_Tii (table : Tab) (c_ : Int) (e_ : Int) : Option (List (List Int)) := (Option.bind (M.check_states_ititti table.size [c_, e_] [[(0 : Int), (1 : Int)]]) fun t1 => (Option.bind (M.coming_row_Tii table c_ e_) fun row => (Option.bind (lnO 100000 row) fun z8 => Option.bind (mapO (fun at_tail => (Option.bind (lnO 100000 row) fun z7 => some ((row.map fun at_head => (at_head - at_tail))))) row) fun t9 => some (t9))))
def M.int (value : Int) : Option Bool := some (true && (!false))
def M.ints_tii (value : (List Int)) (size : Int) : Option Bool := if ((!true) || (!(decide ((value.length : Int) = size)))) = true then (some (false)) else ((Option.bind (lnO 100000 value) fun z4 => Option.bind (mapO (fun one => (Option.bind (M.int one) fun t3 => some (t3))) value) fun t5 => some (t5.all id)))
def M.rows_kind_ttii (rows : (List (List Int))) (size : Int) : Option Bool := if ((!true) || (!(decide ((rows.length : Int) = size)))) = true then (some (false)) else ((Option.bind (lnO 100000 rows) fun z4 => Option.bind (mapO (fun line => (Option.bind (M.ints_tii line size) fun t3 => some (t3))) rows) fun t5 => some (t5.all id)))
def M.weighed_llillilitti_l2 (grid_here : (List (List Int))) (other : (List (List Int))) (trees : (List Int)) (rows : (List (List Int))) (a_ : Int) : Int → (Int) → Option (Int) := fun b_ whole_3 => (Option.bind (atI trees a_) fun t6 => Option.bind (atI other a_) fun t7 => Option.bind (atI t7 b_) fun t8 => Option.bind (atI grid_here a_) fun t9 => Option.bind (atI t9 b_) fun t10 => Option.bind (mulO t6 (t8 - t10)) fun t11 => Option.bind (atI rows a_) fun t12 => Option.bind (atI t12 b_) fun t13 => Option.bind (mulO t11 t13) fun t14 => lt ((whole_3 + t14)) fun whole_4 => some (whole_4))
def M.weighed_llillilitti_l1 (grid_here : (List (List Int))) (other : (List (List Int))) (trees : (List Int)) (rows : (List (List Int))) : Int → (Int) → Option (Int) := fun a_ whole_2 => (Option.bind (rngO 0 (grid_here.length : Int)) fun r4 => Option.bind (forO (M.weighed_llillilitti_l2 grid_here other trees rows a_) r4 whole_2) fun whole_5 => some (whole_5))
def M.weighed_llillilitti (grid_here : (List (List Int))) (other : (List (List Int))) (trees : (List Int)) (rows : (List (List Int))) : Option Int := lt ((0 : Int)) fun whole => (Option.bind (rngO 0 (grid_here.length : Int)) fun r2 => Option.bind (forO (M.weighed_llillilitti_l1 grid_here other trees rows) r2 whole) fun whole_6 => some (whole_6))
def M.two_sized_TT (old : Tab) (new : Tab) : Option Int := if (!(decide (old.size = new.size))) = true then (none) else (some (old.size))
def M.some_states_of_iti (size : Int) (thing : (List Int)) : Option (List Int) := (Option.bind (M.states_of_iti size thing) fun found => if (decide ((found.length : Int) = (0 : Int))) = true then (none) else (some (found)))
def M.forest_sum_Tti (table : Tab) (roots : (List Int)) : Option Int := (Option.bind (M.some_states_of_iti table.size roots) fun wanted => (Option.bind (M.states_outside_Tti table wanted) fun t3 => Option.bind (M.left_rows_Tli table t3) fun t4 => Option.bind (M.determinant_lli t4) fun t5 => some (t5)))
def M.tree_sum_Ti (table : Tab) (x_ : Int) : Option Int := (Option.bind (M.check_states_ititti table.size [x_] []) fun t1 => (Option.bind (M.forest_sum_Tti table [x_]) fun t3 => some (t3)))
def M.ratio_gap_TTii (old : Tab) (new : Tab) (c_ : Int) (e_ : Int) : Option Int := (Option.bind (M.two_sized_TT old new) fun t1 => Option.bind (M.check_states_ititti t1 [c_, e_] [[(0 : Int), (1 : Int)]]) fun t2 => (Option.bind (M.tree_sum_Ti new c_) fun t4 => Option.bind (M.tree_sum_Ti old e_) fun t5 => Option.bind (mulO t4 t5) fun t6 => Option.bind (M.tree_sum_Ti new e_) fun t7 => Option.bind (M.tree_sum_Ti old c_) fun t8 => Option.bind (mulO t7 t8) fun t9 => some (t6 - t9)))
def M.gaps_right_TTllillitilili (old : Tab) (new : Tab) (grid_here : (List (List Int))) (other : (List (List Int))) (ends : (List Int)) (trees : (List Int)) (others : (List Int)) : Option Bool := (Option.bind (atI ends (0 : Int)) fun c_ => (Option.bind (atI ends (1 : Int)) fun e_ => lt ((grid_here.length : Int)) fun size => (Option.bind (M.push_rows_Tii old c_ e_) fun rows => (Option.bind (M.push_rows_Tii new c_ e_) fun behind => (Option.bind (M.rows_kind_ttii rows size) fun t10 => Option.bind (if (!t10) = true then some true else (Option.bind (M.rows_kind_ttii behind size) fun t11 => some ((!t11)))) fun c12 => if c12 = true then (some (false)) else ((Option.bind (atI others c_) fun t14 => Option.bind (atI trees e_) fun t15 => Option.bind (mulO t14 t15) fun t16 => Option.bind (atI others e_) fun t17 => Option.bind (atI trees c_) fun t18 => Option.bind (mulO t17 t18) fun t19 => lt ((t16 - t19)) fun due => (Option.bind (M.weighed_llillilitti grid_here other others rows) fun t21 => Option.bind (if (!(decide (t21 = due))) = true then some true else (Option.bind (M.weighed_llillilitti grid_here other trees behind) fun t22 => some ((!(decide (t22 = due)))))) fun c23 => if c23 = true then (some (false)) else ((Option.bind (M.ratio_gap_TTii old new c_ e_) fun t25 => Option.bind (if (decide (t25 = due)) = true then (Option.bind (M.ratio_gap_TTii new old c_ e_) fun t26 => some ((decide (t26 = (-due))))) else some false) fun c27 => some (c27)))))))))))
def M.lw_push_lliiiii_l1 (grid_here : (List (List Int))) (a_ : Int) (b_ : Int) (c_ : Int) : (List Int) → (Int) → Option (Int) := fun heads whole_2 => (Option.bind (M.lead_tii heads b_) fun t4 => Option.bind (M.lead_tii heads a_) fun t5 => lt (((b2i (decide (t4 = c_))) - (b2i (decide (t5 = c_))))) fun side => (Option.bind (M.weight_lliti grid_here heads) fun t7 => Option.bind (mulO side t7) fun t8 => lt ((whole_2 + t8)) fun whole_3 => some (whole_3)))
def M.lw_push_lliiiii (grid_here : (List (List Int))) (a_ : Int) (b_ : Int) (c_ : Int) (e_ : Int) : Option Int := lt ((0 : Int)) fun whole => (Option.bind (M.forests_llili grid_here [c_, e_]) fun t2 => Option.bind (forO (M.lw_push_lliiiii_l1 grid_here a_ b_ c_) t2 whole) fun whole_4 => some (whole_4))
def M.long_past_Ttii_l1 (table : Tab) (x_ : Int) (rest : (List Int)) : Int → ((List (List Int))) → Option ((List (List Int))) := fun y_ rows_2 => (Option.bind (lnO 100000 rest) fun z11 => Option.bind (mapO (fun z_ => (Option.bind (atI table.rows y_) fun t9 => Option.bind (atI t9 z_) fun t10 => some ((-t10)))) rest) fun row => (Option.bind (atI table.rows y_) fun t14 => Option.bind (idxO rest y_) fun t15 => Option.bind (setO row t15 (t14.sum)) fun row_2 => (Option.bind (idxO rest x_) fun t17 => Option.bind (setO row_2 t17 (1 : Int)) fun row_3 => (Option.bind (appO rows_2 row_3) fun rows_3 => some (rows_3)))))
def M.long_past_Ttii (table : Tab) (roots : (List Int)) (x_ : Int) : Option Int := if (decide (x_ ∈ roots)) = true then (some (0 : Int)) else ((Option.bind (rngO 0 table.size) fun r2 => Option.bind (lnO 100000 r2) fun z4 => lt (((r2.filter fun y_ => (!(decide (y_ ∈ roots)))).map fun y_ => y_)) fun rest => lt (([] : List (List Int))) fun rows => Option.bind (forO (M.long_past_Ttii_l1 table x_ rest) rest rows) fun rows_4 => (Option.bind (M.determinant_lli rows_4) fun t22 => some (t22))))
def M.share_push_Tiii (table : Tab) (a_ : Int) (b_ : Int) (c_ : Int) : Option Int := (Option.bind (M.check_states_ititti table.size [a_, b_, c_] [[(0 : Int), (1 : Int)]]) fun t1 => (Option.bind (M.long_past_Ttii table [c_] a_) fun t3 => Option.bind (M.long_past_Ttii table [c_] b_) fun t4 => some (t3 - t4)))
def M.share_pushes_Tii (table : Tab) (a_ : Int) (b_ : Int) : Option (List Int) := (Option.bind (M.check_states_ititti table.size [a_, b_] [[(0 : Int), (1 : Int)]]) fun t1 => (Option.bind (rngO 0 table.size) fun r3 => Option.bind (lnO 100000 r3) fun z6 => Option.bind (mapO (fun c_ => (Option.bind (M.share_push_Tiii table a_ b_ c_) fun t5 => some (t5))) r3) fun t7 => some (t7)))
def M.by_shares_Tiittiliti (old : Tab) (a_ : Int) (b_ : Int) (rows : (List (List Int))) (trees : (List Int)) (ends : (List Int)) : Option Bool := (Option.bind (M.share_pushes_Tii old a_ b_) fun gained => (Option.bind (M.ints_tii gained (trees.length : Int)) fun t3 => if (!t3) = true then (some (false)) else ((Option.bind (atI ends (1 : Int)) fun t5 => Option.bind (atI trees t5) fun t6 => Option.bind (atI ends (0 : Int)) fun t7 => Option.bind (atI gained t7) fun t8 => Option.bind (mulO t6 t8) fun t9 => Option.bind (atI ends (0 : Int)) fun t10 => Option.bind (atI trees t10) fun t11 => Option.bind (atI ends (1 : Int)) fun t12 => Option.bind (atI gained t12) fun t13 => Option.bind (mulO t11 t13) fun t14 => lt ((t9 - t14)) fun due => (Option.bind (atI rows a_) fun t16 => Option.bind (atI t16 b_) fun t17 => Option.bind (mulO (trees.sum) t17) fun t18 => some (decide (t18 = due)))))))
def M.by_forests_lliiittiliti (grid_here : (List (List Int))) (a_ : Int) (b_ : Int) (rows : (List (List Int))) (trees : (List Int)) (ends : (List Int)) : Option Bool := (Option.bind (atI ends (0 : Int)) fun c_ => (Option.bind (atI ends (1 : Int)) fun e_ => if ((decide (a_ = c_)) || (decide (a_ = e_))) = true then (some (true)) else ((Option.bind (atI trees e_) fun t6 => Option.bind (M.sum_llililti grid_here [a_, c_] [[b_, c_]]) fun t7 => Option.bind (mulO t6 t7) fun t8 => Option.bind (atI trees c_) fun t9 => Option.bind (M.sum_llililti grid_here [a_, e_] [[b_, e_]]) fun t10 => Option.bind (mulO t9 t10) fun t11 => lt ((t8 - t11)) fun due => (Option.bind (atI trees a_) fun t13 => Option.bind (atI rows a_) fun t14 => Option.bind (atI t14 b_) fun t15 => Option.bind (mulO t13 t15) fun t16 => some (decide (t16 = due)))))))
def M.push_Tiiii (table : Tab) (a_ : Int) (b_ : Int) (c_ : Int) (e_ : Int) : Option Int := (Option.bind (M.check_states_ititti table.size [a_, b_, c_, e_] [[(0 : Int), (1 : Int)], [(2 : Int), (3 : Int)]]) fun t1 => (Option.bind (M.coming_row_Tii table c_ e_) fun row => (Option.bind (atI row b_) fun t5 => Option.bind (atI row a_) fun t6 => some (t5 - t6))))
def M.three_right_Tiiliiii (old : Tab) (a_ : Int) (b_ : Int) (trees : (List Int)) (c_ : Int) (e_ : Int) (g_ : Int) : Option Bool := (Option.bind (atI trees g_) fun t1 => Option.bind (M.push_Tiiii old a_ b_ c_ e_) fun t2 => Option.bind (mulO t1 t2) fun whole => (Option.bind (atI trees c_) fun t5 => Option.bind (M.push_Tiiii old a_ b_ e_ g_) fun t6 => Option.bind (mulO t5 t6) fun t7 => lt ((whole + t7)) fun whole_2 => (Option.bind (atI trees e_) fun t9 => Option.bind (M.push_Tiiii old a_ b_ g_ c_) fun t10 => Option.bind (mulO t9 t10) fun t11 => some (decide ((whole_2 + t11) = (0 : Int))))))
def M.law_fi_l2 (old : Tab) (ends : (List Int)) (a_ : Int) (trees : (List Int)) (b_ : Int) : Int → (Unit) → Option (Ctl (Unit) (Bool)) := fun g_ _ => (Option.bind (if (!(decide (b_ = a_))) = true then (Option.bind (atI ends (0 : Int)) fun t71 => Option.bind (if (!(decide (g_ = t71))) = true then (Option.bind (atI ends (1 : Int)) fun t72 => some ((!(decide (g_ = t72))))) else some false) fun c73 => some (c73)) else some false) fun c74 => if c74 = true then ((Option.bind (atI ends (0 : Int)) fun t76 => Option.bind (atI ends (1 : Int)) fun t77 => Option.bind (M.three_right_Tiiliiii old a_ b_ trees t76 t77 g_) fun t78 => if (!t78) = true then (some (.rt (false))) else (some (.nx ())))) else (some (.nx ())))
def M.law_fi_l1 (grid_here_4 : (List (List Int))) (size : Int) (old : Tab) (ends : (List Int)) (a_ : Int) (trees : (List Int)) (rows : (List (List Int))) : Int → (Unit) → Option (Ctl (Unit) (Bool)) := fun b_ _ => (Option.bind (if (!(decide (b_ = a_))) = true then (Option.bind (M.by_shares_Tiittiliti old a_ b_ rows trees ends) fun t63 => some ((!t63))) else some false) fun c64 => if c64 = true then (some (.rt (false))) else ((Option.bind (if (!(decide (b_ = a_))) = true then (Option.bind (M.by_forests_lliiittiliti grid_here_4 a_ b_ rows trees ends) fun t66 => some ((!t66))) else some false) fun c67 => if c67 = true then (some (.rt (false))) else ((Option.bind (rngO 0 size) fun r69 => Option.bind (forC (M.law_fi_l2 old ends a_ trees b_) r69 ()) fun c70 => ctl c70 (fun r => some (.rt r)) fun _ => some (.nx ()))))))
def M.law_fi (script : (List Int)) : Option Bool := (Option.bind (M.draws_fi script) fun draws_here => (Option.bind (M.grid draws_here) fun (grid_here, ds4) => (Option.bind (M.take ds4 (4 : Int)) fun (t6, ds7) => Option.bind (if (decide (t6 = (3 : Int))) = true then ((Option.bind (M.loose ds7 (grid_here.length : Int)) fun (grid_here_3, ds10) => some (grid_here_3, ds10))) else (some (grid_here, ds7))) fun (grid_here_2, ds) => (Option.bind (M.same_shape_lli ds grid_here_2) fun (other, ds13) => (Option.bind (M.take ds13 (3 : Int)) fun (t15, ds16) => Option.bind (if (decide (t15 = (2 : Int))) = true then ((Option.bind (M.loose ds16 (grid_here_2.length : Int)) fun (other_3, ds19) => some (other_3, ds19))) else (some (other, ds16))) fun (other_2, ds_2) => (Option.bind (M.take ds_2 (5 : Int)) fun (t21, ds22) => Option.bind (if (decide (t21 = (4 : Int))) = true then ((Option.bind (lnO 100000 grid_here_2) fun z27 => Option.bind (mapO (fun line => (Option.bind (lnO 100000 line) fun z26 => some ((line.map fun rate_here => (rate_here * (100000 : Int)))))) grid_here_2) fun grid_here_5 => some (grid_here_5, ds22))) else (some (grid_here_2, ds22))) fun (grid_here_4, ds_3) => lt ((grid_here_4.length : Int)) fun size => (Option.bind (M.copy_lli grid_here_4) fun t31 => Option.bind (mkTab M.table_rows_lli M.arrows_of_tti t31) fun old => (Option.bind (M.copy_lli other_2) fun t34 => Option.bind (mkTab M.table_rows_lli M.arrows_of_tti t34) fun new => (Option.bind (M.pair ds_3 size) fun (ends, ds38) => (Option.bind (M.take ds38 size) fun (a_, ds41) => (Option.bind (M.tree_row_lli grid_here_4) fun trees => (Option.bind (M.tree_row_lli other_2) fun others => (Option.bind (M.gaps_right_TTllillitilili old new grid_here_4 other_2 ends trees others) fun t47 => if (!t47) = true then (some (false)) else ((Option.bind (atI ends (0 : Int)) fun t49 => Option.bind (atI ends (1 : Int)) fun t50 => Option.bind (M.push_rows_Tii old t49 t50) fun rows => (Option.bind (modO (a_ + (1 : Int)) size) fun near => (Option.bind (atI rows a_) fun t55 => Option.bind (atI t55 near) fun t56 => Option.bind (atI ends (0 : Int)) fun t57 => Option.bind (atI ends (1 : Int)) fun t58 => Option.bind (M.lw_push_lliiiii grid_here_4 a_ near t57 t58) fun t59 => if (!(decide (t56 = t59))) = true then (some (false)) else ((Option.bind (rngO 0 size) fun r61 => Option.bind (forC (M.law_fi_l1 grid_here_4 size old ends a_ trees rows) r61 ()) fun c62 => ctl c62 some fun _ => some (true))))))))))))))))))))
end LK
set_option Elab.async false
set_option linter.all false
set_option maxRecDepth 100000
set_option maxHeartbeats 4000000
set_option pp.maxSteps 400
/-! the walk of law_k18_either_pushes_tell_one_number, printed by gen2.py -/
namespace LK
open PySem L2 LW PyProof.Rows
def topS (i : Nat) : Stmt := PySem.Challenge.pw_lastingshares_k18_either_pushes_tell_one.main.body.getD i (.Pass ⟨0, 0, 0, 0⟩)
abbrev s_draws : Stmt := topS 48
abbrev s_take : Stmt := topS 49
abbrev s_empty : Stmt := topS 50
abbrev s_rate : Stmt := topS 52
abbrev s_hung_grid : Stmt := topS 54
abbrev s_lots_grid : Stmt := topS 55
abbrev s_cross_grid : Stmt := topS 56
abbrev s_ring_grid : Stmt := topS 53
abbrev s_moved : Stmt := topS 57
abbrev s_grid : Stmt := topS 58
abbrev s_loose : Stmt := topS 60
abbrev s_same_shape : Stmt := topS 59
abbrev s_copy : Stmt := topS 51
abbrev s_is_int : Stmt := topS 10
abbrev s_table_rows : Stmt := topS 29
abbrev s_arrows_of : Stmt := topS 30
abbrev s_pair : Stmt := topS 61
abbrev s_lead : Stmt := topS 64
abbrev s_forests : Stmt := topS 65
abbrev s_weight : Stmt := topS 66
abbrev s_sum : Stmt := topS 67
abbrev s_tree_row : Stmt := topS 68
abbrev s_is_state : Stmt := topS 11
abbrev s_check_states : Stmt := topS 15
abbrev s_states_of : Stmt := topS 13
abbrev s_states_outside : Stmt := topS 21
abbrev s_left_rows : Stmt := topS 20
abbrev s_corner_row : Stmt := topS 17
abbrev s_cleared : Stmt := topS 18
abbrev s_determinant : Stmt := topS 19
abbrev s_forest_row : Stmt := topS 23
abbrev s_coming_row : Stmt := topS 25
abbrev s_push_rows : Stmt := topS 41
abbrev s_int : Stmt := topS 62
abbrev s_ints : Stmt := topS 63
abbrev s_rows_kind : Stmt := topS 70
abbrev s_weighed : Stmt := topS 71
abbrev s_two_sized : Stmt := topS 45
abbrev s_some_states_of : Stmt := topS 14
abbrev s_forest_sum : Stmt := topS 22
abbrev s_tree_sum : Stmt := topS 36
abbrev s_ratio_gap : Stmt := topS 46
abbrev s_gaps_right : Stmt := topS 72
abbrev s_lw_push : Stmt := topS 69
abbrev s_long_past : Stmt := topS 38
abbrev s_share_push : Stmt := topS 42
abbrev s_share_pushes : Stmt := topS 43
abbrev s_by_shares : Stmt := topS 73
abbrev s_by_forests : Stmt := topS 75
abbrev s_push : Stmt := topS 40
abbrev s_three_right : Stmt := topS 74
abbrev s_law : Stmt := topS 76
abbrev s_Table_init : Stmt := inClass (topS 34) 1
/-- the law's def, over every base -/
structure FnA (P : Program) (w : World) (K : PySem.W.Frag) (mg : Str → Option Value) (k : Nat) (x : Str) (ps : List Str) (sp : Sp) : Prop where
  ex : ∃ f fd, mg x = some (.ref f) ∧ (∀ us : List Value, us.length = ps.length → bindArgs fd ⟨us, []⟩ = pure (ps.zip us)) ∧ ∀ base, FnOk P w K mg base CX0 k f fd ps sp
theorem mkFnA {P : Program} {w : World} {K : PySem.W.Frag} {mg : Str → Option Value} {x : Str} {st : Stmt} {N ps : List Str} {k : Nat} {sp : Sp} (D : Has K mg x st) (S : FnScope N ps (defScope st)) (len : ∀ vs H Q E, sp vs H Q E → vs.length = ps.length)
    (bind : ∀ (kV doc pm : Value) (an : Option Addr) (cdv ct : Value) (us : List Value), us.length = ps.length → bindArgs (PySem.W.fnOf x x (defArgs st) (defBody st) (defScope st) .none kV doc pm an cdv ct) ⟨us, []⟩ = pure (ps.zip us))
    (body : ∀ (base : Heap) (f : Addr) (cdv : Value) (A : Around) (outer : List Env) (s : Shared) (H : Hp) (vs : List V) (Q : VK) (E : XK), Room k (A.deeper (envOfC x (defScope st) s.heap.objs.size f cdv)) → sp vs H Q E →
      ∃ t, PSs (cxOf CX0 P w K mg base N x (defScope st) f cdv A outer s H E).nox (defBody st) t ∧ t { nx := fun _ H' => Q .non H', rt := Q } (start N vs) H) : FnA P w K mg (k + 1) x ps sp := by
  obtain ⟨f, fd, hm, F⟩ := D.ex
  refine ⟨f, fd, hm, fun us hu => ?_, fun base => F.ok S len fun cdv A outer s H vs Q E hr h => body base f cdv A outer s H vs Q E hr h⟩
  obtain ⟨oc, od, kV, doc, pm, an, cdv, ct, osl, rfl, _, _⟩ := F.ex
  exact bind kV doc pm an cdv ct us hu
structure Top (K : PySem.W.Frag) (mg : Str → Option Value) (C_Table : Addr) (e_check_states : Addr) (e_forest_row : Addr) : Prop where
  b_all : mg "all" = none
  b_bool : mg "bool" = none
  b_enumerate : mg "enumerate" = none
  b_int : mg "int" = none
  b_isinstance : mg "isinstance" = none
  b_len : mg "len" = none
  b_list : mg "list" = none
  b_max : mg "max" = none
  b_min : mg "min" = none
  b_range : mg "range" = none
  b_sorted : mg "sorted" = none
  b_sum : mg "sum" = none
  b_tuple : mg "tuple" = none
  c_LEAST_SIZE : ∃ t, mg "LEAST_SIZE" = some (.int 2 t)
  c_MOST_SIZE : ∃ t, mg "MOST_SIZE" = some (.int 8 t)
  d_draws : Has K mg "_law_draws" s_draws
  d_take : Has K mg "_law_take" s_take
  d_empty : Has K mg "_law_empty" s_empty
  d_rate : Has K mg "_law_rate" s_rate
  d_hung_grid : Has K mg "_law_hung_grid" s_hung_grid
  d_lots_grid : Has K mg "_law_lots_grid" s_lots_grid
  d_cross_grid : Has K mg "_law_cross_grid" s_cross_grid
  d_ring_grid : Has K mg "_law_ring_grid" s_ring_grid
  d_moved : Has K mg "_law_moved" s_moved
  d_grid : Has K mg "_law_grid" s_grid
  d_loose : Has K mg "_law_loose" s_loose
  d_same_shape : Has K mg "_law_same_shape" s_same_shape
  d_copy : Has K mg "_law_copy" s_copy
  d_is_int : Has K mg "is_int" s_is_int
  d_table_rows : Has K mg "table_rows" s_table_rows
  d_arrows_of : Has K mg "arrows_of" s_arrows_of
  d_pair : Has K mg "_law_pair" s_pair
  d_lead : Has K mg "_law_lead" s_lead
  d_forests : Has K mg "_law_forests" s_forests
  d_weight : Has K mg "_law_weight" s_weight
  d_sum : Has K mg "_law_sum" s_sum
  d_tree_row : Has K mg "_law_tree_row" s_tree_row
  d_is_state : Has K mg "is_state" s_is_state
  d_check_states : HasD K mg "check_states" s_check_states [V.ref e_check_states]
  e_check_states_ : Empty K e_check_states
  d_states_of : Has K mg "states_of" s_states_of
  d_states_outside : Has K mg "states_outside" s_states_outside
  d_left_rows : Has K mg "left_rows" s_left_rows
  d_corner_row : Has K mg "corner_row" s_corner_row
  d_cleared : Has K mg "cleared" s_cleared
  d_determinant : Has K mg "determinant" s_determinant
  d_forest_row : HasD K mg "forest_row" s_forest_row [V.ref e_forest_row]
  e_forest_row_ : Empty K e_forest_row
  d_coming_row : Has K mg "coming_row" s_coming_row
  d_push_rows : Has K mg "push_rows" s_push_rows
  d_int : Has K mg "_law_int" s_int
  d_ints : Has K mg "_law_ints" s_ints
  d_rows_kind : Has K mg "_law_rows_kind" s_rows_kind
  d_weighed : Has K mg "_law_weighed" s_weighed
  d_two_sized : Has K mg "two_sized" s_two_sized
  d_some_states_of : Has K mg "some_states_of" s_some_states_of
  d_forest_sum : Has K mg "forest_sum" s_forest_sum
  d_tree_sum : Has K mg "tree_sum" s_tree_sum
  d_ratio_gap : Has K mg "ratio_gap" s_ratio_gap
  d_gaps_right : Has K mg "_law_gaps_right" s_gaps_right
  d_lw_push : Has K mg "_law_push" s_lw_push
  d_long_past : Has K mg "long_past" s_long_past
  d_share_push : Has K mg "share_push" s_share_push
  d_share_pushes : Has K mg "share_pushes" s_share_pushes
  d_by_shares : Has K mg "_law_by_shares" s_by_shares
  d_by_forests : Has K mg "_law_by_forests" s_by_forests
  d_push : Has K mg "push" s_push
  d_three_right : Has K mg "_law_three_right" s_three_right
  d_law : Has K mg "law" s_law
  cl_Table : Cls K C_Table
  n_Table_rows : NoAttr K C_Table "rows"
  n_Table_size : NoAttr K C_Table "size"
  n_Table_arrows : NoAttr K C_Table "_arrows"
  m_Table : ∃ f fd, mg "Table" = some (.ref C_Table) ∧ Mk K C_Table f ∧ Fun K "__init__" "Table.__init__" s_Table_init f fd
section
variable {P : Program} {w' : World} {K : PySem.W.Frag} {mg : Str → Option Value} {base : Heap} {C_Table e_check_states e_forest_row : Addr}
abbrev N_draws_fi : List Str := ["_law_script", "_law_drawn", "_law_seed", "_law_at", "_law_cell", "_law_turn"]
theorem sc_draws_fi : FnScope N_draws_fi ["_law_script"] (defScope s_draws) := ⟨rfl, rfl, rfl, by decide +kernel, rfl, by decide +kernel, by decide +kernel⟩
theorem ok_draws_fi (T : Top K mg C_Table e_check_states e_forest_row) : Fn P w' K mg base 1 "_law_draws" ["_law_script"] [] (spf (aCons (qF K qI) aNil) (fun d => M.draws_fi d.1) (pL qI)) :=
  mkFn T.d_draws sc_draws_fi (al_spf (al_cons al_nil)) (fun _ _ _ _ _ _ us hl => match us, hl with | [_], _ => rfl) (fun f cdv A outer s H0 vs Q E hr h => by
    obtain ⟨B0, d, r, e, hA, hm, q⟩ := h
    obtain ⟨script, ⟨⟩⟩ := d
    obtain ⟨v_script, _, rfl, h_script, rfl⟩ := hA
    have h_script : (qF K qI).r B0 v_script script := h_script
    have hm : M.draws_fi script = some r := hm
    have w := wd0 e
    unfold M.draws_fi at hm
    have sc := sc_draws_fi
    refine ⟨_, (pss_cons (ps_set (i := 1) sc.nd rfl (by first | exact .inl rfl | exact .inr rfl) (pe_lst pa_nil)) (pss_cons (ps_set (i := 2) sc.nd rfl (by first | exact .inl rfl | exact .inr rfl) pe_int) (pss_cons (ps_for PassesOwn.never rfl (pi_range1 (by rfl) T.b_range (pa_cons (pe_callB (cl_min rfl) (by rfl) T.b_min (by decide +kernel) (pa_cons (pe_callB (kcl_len K rfl) (by rfl) T.b_len PySem.boot_len (pa_cons (pv 0) pa_nil)) (pa_cons pe_int pa_nil))) pa_nil)) (pg_name (i := 3) sc.nd rfl (by first | exact .inl rfl | exact .inr rfl)) (pss_cons (ps_set (i := 4) sc.nd rfl (by first | exact .inl rfl | exact .inr rfl) (pe_callTy cl_int (by rfl) T.b_int (by decide +kernel) (pa_cons (pe_ix (kix_list K rfl) (pv 0) (pv 3) (fun _ _ => rfl)) pa_nil))) (Evl.pss_cut (ps_if (pt_cmpR op_lt (pv 4) pe_int (nomark _)) (pss_cons (ps_set (i := 4) sc.nd rfl (by first | exact .inl rfl | exact .inr rfl) (pe_op op_sub pe_int (pe_op op_mul pe_int (pv 4)))) pss_nil) pss_nil) (pss_cons (ps_if (pt_cmpR op_ge (pv 4) (pe_op op_pow pe_int pe_int) (nomark _)) (pss_cons (ps_for PassesOwn.never rfl (pi_range1 (by rfl) T.b_range (pa_cons pe_int pa_nil)) (pg_name (i := 5) sc.nd rfl (by first | exact .inl rfl | exact .inr rfl)) (pss_cons (ps_if (pt_cmpR op_gt (pv 4) pe_int (nomark _)) (pss_cons (ps_expr (pe_bm PySem.F.plainAttrs_list PySem.F.slot_list_append PySem.F.type_list_append mt_append (pv 1) (pa_cons (pe_op op_mod (pe_callTy cl_int (by rfl) T.b_int (by decide +kernel) (pa_cons (pv 4) pa_nil)) pe_int) pa_nil))) (pss_cons (ps_set (i := 4) sc.nd rfl (by first | exact .inl rfl | exact .inr rfl) (pe_op op_fdiv (pv 4) pe_int)) pss_nil)) pss_nil) pss_nil)) pss_nil) (pss_cons (ps_set (i := 2) sc.nd rfl (by first | exact .inl rfl | exact .inr rfl) (pe_op op_mod (pe_callTy cl_int (by rfl) T.b_int (by decide +kernel) (pa_cons (pe_op op_add (pe_op op_add (pe_op op_mul (pv 2) pe_int) (pe_op op_mul (pv 4) pe_int)) (pv 3)) pa_nil)) pe_int)) (pss_cons (ps_for PassesOwn.never rfl (pi_range1 (by rfl) T.b_range (pa_cons pe_int pa_nil)) (pg_name (i := 5) sc.nd rfl (by first | exact .inl rfl | exact .inr rfl)) (pss_cons (ps_set (i := 2) sc.nd rfl (by first | exact .inl rfl | exact .inr rfl) (pe_op op_mod (pe_callTy cl_int (by rfl) T.b_int (by decide +kernel) (pa_cons (pe_op op_add (pe_op op_add (pe_op op_add (pe_op op_mulW (pv 2) (pv 2)) (pe_op op_mul pe_int (pv 5))) (pv 3)) pe_int) pa_nil)) pe_int)) (pss_cons (ps_expr (pe_bm PySem.F.plainAttrs_list PySem.F.slot_list_append PySem.F.type_list_append mt_append (pv 1) (pa_cons (pe_op op_mod (pe_callTy cl_int (by rfl) T.b_int (by decide +kernel) (pa_cons (pe_op op_fdiv (pv 2) pe_int) pa_nil)) pe_int) pa_nil))) pss_nil))) pss_nil))) pss_nil)))) (pss_cons (ps_expr (pe_bm0 PySem.F.plainAttrs_list PySem.F.slot_list_reverse PySem.F.type_list_reverse mt_reverse (pv 1))) (pss_cons (ps_ret (pv 1)) pss_never))))), ?_⟩
    obtain ⟨drawn, e_drawn, hm⟩ := ltS hm
    refine st_setL (i := 1) (Ev.is (ev_lst (R := qI) eb_nil (by show 0 ≤ 1000000; decide)) e_drawn) w (fun l_drawn B1 H1 x1 w1 n1 o_drawn => ?_)
    have h_script := Rel.mono _ x1.b h_script
    obtain ⟨seed, e_seed, hm⟩ := ltS hm
    refine st_set (i := 2) (Ev.is ev_int e_seed) w1 (fun v_seed B2 H2 x2 w2 h_seed => ?_)
    have h_script := Rel.mono _ x2.b h_script
    have o_drawn := o_drawn.step x2
    obtain ⟨r3, h_r3, hm⟩ := bindS hm
    obtain ⟨⟨drawn_9, seed_7⟩, hl4, hm⟩ := bindS hm
    refine st_for (st_forO (it_range1 (ev_min (ev_lenF (ev_v h_script rfl)) ev_int) h_r3) w2.e w2.c hl4 (fun Bs (b : (List Int) × Int) σ B H => ∃ a4_2 : V, ∃ p4_3 : Option V, ∃ p4_4 : Option V, ∃ p4_5 : Option V, σ = [some v_script, some (.ref l_drawn), some a4_2, p4_3, p4_4, p4_5] ∧ Ex Bs B ∧ Ex B2 B ∧ Wd N0 B0 H0 c0 () B H ∧ Own qI c0.N H0 B H l_drawn b.1 ∧ qI.r B a4_2 b.2 ∧ True) ?_ ?_ ?_ ?_)
    · rintro _ _ _ _ _ ⟨_, _, _, _, rfl, e, -, w, -⟩
      exact ⟨e, w.e⟩
    · intro Bs4 Hs4 x4 c4
      have o_drawn := o_drawn.step x4
      have h_seed := Rel.mono _ x4.b h_seed
      exact ⟨v_seed, _, _, _, rfl, .refl _, x4.b, w2.step x4 c4, o_drawn, h_seed, trivial⟩
    · rintro Bs4 at_ ⟨drawn_2, seed_2⟩ b4 σ4 B4p H4p ⟨a4_2, p4_3, p4_4, p4_5, rfl, e4, eo4, w4, f4_0, f4_1, -⟩ hm vi4 B4 H4 x4 r4
      rw [M.draws_fi_l1] at hm
      have o_drawn_2 : Own qI c0.N H0 _ _ l_drawn drawn_2 := f4_0
      have h_seed_2 : qI.r _ a4_2 seed_2 := f4_1
      have h_script := Rel.mono _ (eo4.trans x4.b) h_script
      have o_drawn_2 := o_drawn_2.step x4.up
      have h_seed_2 := Rel.mono _ x4.b h_seed_2
      have e4 := e4.trans x4.b
      have eo4 := eo4.trans x4.b
      have w4 := w4.step x4.up (Cell.ext _ w4.c x4)
      have h_at_ := r4
      refine tgn ?_
      obtain ⟨cell, h_cell, hm⟩ := bindS hm
      refine st_set (i := 4) (ev_intI (ev_ixF (ev_v h_script rfl) (ev_v h_at_ rfl) h_cell)) w4 (fun v_cell B6 H6 x6 w6 h_cell => ?_)
      have h_script := Rel.mono _ x6.b h_script
      have o_drawn_2 := o_drawn_2.step x6
      have h_seed_2 := Rel.mono _ x6.b h_seed_2
      have h_at_ := Rel.mono _ x6.b h_at_
      have e4 := e4.trans x6.b
      have eo4 := eo4.trans x6.b
      obtain ⟨cell_2, hj7, hm⟩ := bindS hm
      refine st_ifc (et_test (ev_lt (ev_v h_cell rfl) ev_int)) w6 (fun σ H => ∃ a7_4 : V, σ = [some v_script, some (.ref l_drawn), some a4_2, some vi4, some a7_4, p4_5] ∧ ∃ B, Ex B6 B ∧ Wd N0 B0 H0 c0 () B H ∧ qI.r B a7_4 cell_2 ∧ Own qI c0.N H0 B H l_drawn drawn_2 ∧ True) (fun hA B7 H7 x7 w7 => ?_) (fun hA B7 H7 x7 w7 => ?_) ?_
      · have hm := ifT hj7 hA
        have ej7 := Ex.refl B6
        have h_script := Rel.mono _ x7.b h_script
        have o_drawn_2 := o_drawn_2.step x7
        have h_seed_2 := Rel.mono _ x7.b h_seed_2
        have h_at_ := Rel.mono _ x7.b h_at_
        have h_cell := Rel.mono _ x7.b h_cell
        have e4 := e4.trans x7.b
        have eo4 := eo4.trans x7.b
        have ej7 := ej7.trans x7.b
        obtain ⟨cell_3, e_cell_3, hm⟩ := ltS hm
        refine st_set (i := 4) (Ev.is (ev_sub ev_int (ev_mulS ev_int (ev_v h_cell rfl) (.inl ⟨by decide, by decide⟩))) e_cell_3) w7 (fun v_cell_3 B8 H8 x8 w8 h_cell_3 => ?_)
        have h_script := Rel.mono _ x8.b h_script
        have o_drawn_2 := o_drawn_2.step x8
        have h_seed_2 := Rel.mono _ x8.b h_seed_2
        have h_at_ := Rel.mono _ x8.b h_at_
        have e4 := e4.trans x8.b
        have eo4 := eo4.trans x8.b
        have ej7 := ej7.trans x8.b
        refine st_next ?_
        have hv := Option.some.inj hm
        subst hv
        exact ⟨v_cell_3, rfl, B8, ej7, w8, h_cell_3, o_drawn_2, trivial⟩
      · have hm := ifF hj7 hA
        have ej7 := Ex.refl B6
        have h_script := Rel.mono _ x7.b h_script
        have o_drawn_2 := o_drawn_2.step x7
        have h_seed_2 := Rel.mono _ x7.b h_seed_2
        have h_at_ := Rel.mono _ x7.b h_at_
        have h_cell := Rel.mono _ x7.b h_cell
        have e4 := e4.trans x7.b
        have eo4 := eo4.trans x7.b
        have ej7 := ej7.trans x7.b
        refine st_next ?_
        have hv := Option.some.inj hm
        subst hv
        exact ⟨v_cell, rfl, B7, ej7, w7, h_cell, o_drawn_2, trivial⟩
      · rintro σ7 G7 ⟨a7_4, rfl, Bj7, eo7, wj7, f7_0, f7_1, -⟩
        have h_cell_2 : qI.r _ a7_4 cell_2 := f7_0
        have o_drawn_2 : Own qI c0.N H0 _ _ l_drawn drawn_2 := f7_1
        have h_script := Rel.mono _ eo7 h_script
        have h_seed_2 := Rel.mono _ eo7 h_seed_2
        have h_at_ := Rel.mono _ eo7 h_at_
        have e4 := e4.trans eo7
        have eo4 := eo4.trans eo7
        refine st_if (et_test (ev_ge (ev_v h_cell_2 rfl) (Ev.is (d' := (1000000000000000000 : Int)) (ev_powS ev_int ev_int ⟨by decide, by decide, by decide⟩) (by decide)))) wj7 (fun hA B9 H9 x9 w9 => ?_) (fun hA B9 H9 x9 w9 => ?_)
        · have hm := ifT hm hA
          have h_script := Rel.mono _ x9.b h_script
          have o_drawn_2 := o_drawn_2.step x9
          have h_seed_2 := Rel.mono _ x9.b h_seed_2
          have h_at_ := Rel.mono _ x9.b h_at_
          have h_cell_2 := Rel.mono _ x9.b h_cell_2
          have e4 := e4.trans x9.b
          have eo4 := eo4.trans x9.b
          obtain ⟨r10, h_r10, hm⟩ := bindS hm
          obtain ⟨⟨drawn_5, cell_6⟩, hl11, hm⟩ := bindS hm
          refine st_for (st_forO (it_range1 ev_int h_r10) w9.e w9.c hl11 (fun Bs (b : (List Int) × Int) σ B H => ∃ a11_4 : V, ∃ p11_5 : Option V, σ = [some v_script, some (.ref l_drawn), some a4_2, some vi4, some a11_4, p11_5] ∧ Ex Bs B ∧ Ex B9 B ∧ Wd N0 B0 H0 c0 () B H ∧ Own qI c0.N H0 B H l_drawn b.1 ∧ qI.r B a11_4 b.2 ∧ True) ?_ ?_ ?_ ?_)
          · rintro _ _ _ _ _ ⟨_, _, rfl, e, -, w, -⟩
            exact ⟨e, w.e⟩
          · intro Bs11 Hs11 x11 c11
            have o_drawn_2 := o_drawn_2.step x11
            have h_cell_2 := Rel.mono _ x11.b h_cell_2
            exact ⟨a7_4, _, rfl, .refl _, x11.b, w9.step x11 c11, o_drawn_2, h_cell_2, trivial⟩
          · rintro Bs11 turn ⟨drawn_3, cell_4⟩ b11 σ11 B11p H11p ⟨a11_4, p11_5, rfl, e11, eo11, w11, f11_0, f11_1, -⟩ hm vi11 B11 H11 x11 r11
            rw [M.draws_fi_l2] at hm
            have o_drawn_3 : Own qI c0.N H0 _ _ l_drawn drawn_3 := f11_0
            have h_cell_4 : qI.r _ a11_4 cell_4 := f11_1
            have h_script := Rel.mono _ (eo11.trans x11.b) h_script
            have o_drawn_3 := o_drawn_3.step x11.up
            have h_seed_2 := Rel.mono _ (eo11.trans x11.b) h_seed_2
            have h_at_ := Rel.mono _ (eo11.trans x11.b) h_at_
            have h_cell_4 := Rel.mono _ x11.b h_cell_4
            have e4 := e4.trans (eo11.trans x11.b)
            have eo4 := eo4.trans (eo11.trans x11.b)
            have e11 := e11.trans x11.b
            have eo11 := eo11.trans x11.b
            have w11 := w11.step x11.up (Cell.ext _ w11.c x11)
            have h_turn := r11
            refine tgn ?_
            refine st_if (et_test (ev_gt (ev_v h_cell_4 rfl) ev_int)) w11 (fun hA B12 H12 x12 w12 => ?_) (fun hA B12 H12 x12 w12 => ?_)
            · have hm := ifT hm hA
              have h_script := Rel.mono _ x12.b h_script
              have o_drawn_3 := o_drawn_3.step x12
              have h_seed_2 := Rel.mono _ x12.b h_seed_2
              have h_at_ := Rel.mono _ x12.b h_at_
              have h_cell_4 := Rel.mono _ x12.b h_cell_4
              have h_turn := Rel.mono _ x12.b h_turn
              have e4 := e4.trans x12.b
              have eo4 := eo4.trans x12.b
              have e11 := e11.trans x12.b
              have eo11 := eo11.trans x12.b
              obtain ⟨drawn_4, h_drawn_4, hm⟩ := bindS hm
              refine st_app o_drawn_3 rfl (ev_modS (ev_intI (ev_v h_cell_4 rfl)) ev_int (by decide)) w12 h_drawn_4 (fun B13 H13 G13 x13 hu13 w13 o_drawn_4 => ?_)
              have h_script := Rel.mono _ x13.b h_script
              have h_seed_2 := Rel.mono _ x13.b h_seed_2
              have h_at_ := Rel.mono _ x13.b h_at_
              have h_cell_4 := Rel.mono _ x13.b h_cell_4
              have h_turn := Rel.mono _ x13.b h_turn
              have e4 := e4.trans x13.b
              have eo4 := eo4.trans x13.b
              have e11 := e11.trans x13.b
              have eo11 := eo11.trans x13.b
              obtain ⟨cell_5, e_cell_5, hm⟩ := ltS hm
              refine st_set (i := 4) (Ev.is (ev_divS (ev_v h_cell_4 rfl) ev_int ⟨by decide, by decide⟩) e_cell_5) w13 (fun v_cell_5 B14 H14 x14 w14 h_cell_5 => ?_)
              have h_script := Rel.mono _ x14.b h_script
              have o_drawn_4 := o_drawn_4.step x14
              have h_seed_2 := Rel.mono _ x14.b h_seed_2
              have h_at_ := Rel.mono _ x14.b h_at_
              have h_turn := Rel.mono _ x14.b h_turn
              have e4 := e4.trans x14.b
              have eo4 := eo4.trans x14.b
              have e11 := e11.trans x14.b
              have eo11 := eo11.trans x14.b
              refine st_nextT ?_
              refine st_next ?_
              have hv := Option.some.inj hm
              subst hv
              exact ⟨_, v_cell_5, _, rfl, e11, eo11, w14, o_drawn_4, h_cell_5, trivial⟩
            · have hm := ifF hm hA
              have h_script := Rel.mono _ x12.b h_script
              have o_drawn_3 := o_drawn_3.step x12
              have h_seed_2 := Rel.mono _ x12.b h_seed_2
              have h_at_ := Rel.mono _ x12.b h_at_
              have h_cell_4 := Rel.mono _ x12.b h_cell_4
              have h_turn := Rel.mono _ x12.b h_turn
              have e4 := e4.trans x12.b
              have eo4 := eo4.trans x12.b
              have e11 := e11.trans x12.b
              have eo11 := eo11.trans x12.b
              refine st_nextT ?_
              refine st_next ?_
              have hv := Option.some.inj hm
              subst hv
              exact ⟨_, a11_4, _, rfl, e11, eo11, w12, o_drawn_3, h_cell_4, trivial⟩
          · rintro Bs11 σ11 Bd11 Hd11 ⟨a11_4, p11_5, rfl, ed11, eo11, wd11, f11_0, f11_1, -⟩
            refine nx_tz ?_
            have o_drawn_5 : Own qI c0.N H0 _ _ l_drawn drawn_5 := f11_0
            have h_cell_6 : qI.r _ a11_4 cell_6 := f11_1
            have h_script := Rel.mono _ eo11 h_script
            have h_seed_2 := Rel.mono _ eo11 h_seed_2
            have h_at_ := Rel.mono _ eo11 h_at_
            have e4 := e4.trans eo11
            have eo4 := eo4.trans eo11
            refine st_nextT ?_
            refine st_next ?_
            have hv := Option.some.inj hm
            subst hv
            exact ⟨_, a4_2, _, _, _, rfl, e4, eo4, wd11, o_drawn_5, h_seed_2, trivial⟩
        · have hm := ifF hm hA
          have h_script := Rel.mono _ x9.b h_script
          have o_drawn_2 := o_drawn_2.step x9
          have h_seed_2 := Rel.mono _ x9.b h_seed_2
          have h_at_ := Rel.mono _ x9.b h_at_
          have h_cell_2 := Rel.mono _ x9.b h_cell_2
          have e4 := e4.trans x9.b
          have eo4 := eo4.trans x9.b
          obtain ⟨seed_3, e_seed_3, hm⟩ := ltS hm
          refine st_set (i := 2) (Ev.is (ev_modS (ev_intI (ev_add (ev_add (ev_mulS (ev_v h_seed_2 rfl) ev_int (.inr ⟨by decide, by decide⟩)) (ev_mulS (ev_v h_cell_2 rfl) ev_int (.inr ⟨by decide, by decide⟩))) (ev_v h_at_ rfl))) ev_int (by decide)) e_seed_3) w9 (fun v_seed_3 B15 H15 x15 w15 h_seed_3 => ?_)
          have h_script := Rel.mono _ x15.b h_script
          have o_drawn_2 := o_drawn_2.step x15
          have h_at_ := Rel.mono _ x15.b h_at_
          have h_cell_2 := Rel.mono _ x15.b h_cell_2
          have e4 := e4.trans x15.b
          have eo4 := eo4.trans x15.b
          obtain ⟨r16, h_r16, hm⟩ := bindS hm
          obtain ⟨⟨drawn_8, seed_6⟩, hl17, hm⟩ := bindS hm
          refine st_for (st_forO (it_range1 ev_int h_r16) w15.e w15.c hl17 (fun Bs (b : (List Int) × Int) σ B H => ∃ a17_2 : V, ∃ p17_5 : Option V, σ = [some v_script, some (.ref l_drawn), some a17_2, some vi4, some a7_4, p17_5] ∧ Ex Bs B ∧ Ex B15 B ∧ Wd N0 B0 H0 c0 () B H ∧ Own qI c0.N H0 B H l_drawn b.1 ∧ qI.r B a17_2 b.2 ∧ True) ?_ ?_ ?_ ?_)
          · rintro _ _ _ _ _ ⟨_, _, rfl, e, -, w, -⟩
            exact ⟨e, w.e⟩
          · intro Bs17 Hs17 x17 c17
            have o_drawn_2 := o_drawn_2.step x17
            have h_seed_3 := Rel.mono _ x17.b h_seed_3
            exact ⟨v_seed_3, _, rfl, .refl _, x17.b, w15.step x17 c17, o_drawn_2, h_seed_3, trivial⟩
          · rintro Bs17 turn_2 ⟨drawn_6, seed_4⟩ b17 σ17 B17p H17p ⟨a17_2, p17_5, rfl, e17, eo17, w17, f17_0, f17_1, -⟩ hm vi17 B17 H17 x17 r17
            rw [M.draws_fi_l3] at hm
            have o_drawn_6 : Own qI c0.N H0 _ _ l_drawn drawn_6 := f17_0
            have h_seed_4 : qI.r _ a17_2 seed_4 := f17_1
            have h_script := Rel.mono _ (eo17.trans x17.b) h_script
            have o_drawn_6 := o_drawn_6.step x17.up
            have h_at_ := Rel.mono _ (eo17.trans x17.b) h_at_
            have h_cell_2 := Rel.mono _ (eo17.trans x17.b) h_cell_2
            have h_seed_4 := Rel.mono _ x17.b h_seed_4
            have e4 := e4.trans (eo17.trans x17.b)
            have eo4 := eo4.trans (eo17.trans x17.b)
            have e17 := e17.trans x17.b
            have eo17 := eo17.trans x17.b
            have w17 := w17.step x17.up (Cell.ext _ w17.c x17)
            have h_turn_2 := r17
            refine tgn ?_
            obtain ⟨t18, h_t18, hm⟩ := bindS hm
            obtain ⟨seed_5, e_seed_5, hm⟩ := ltS hm
            refine st_set (i := 2) (Ev.is (ev_modS (ev_intI (ev_add (ev_add (ev_add (ev_mul (ev_v h_seed_4 rfl) (ev_v h_seed_4 rfl) h_t18) (ev_mulS ev_int (ev_v h_turn_2 rfl) (.inl ⟨by decide, by decide⟩))) (ev_v h_at_ rfl)) ev_int)) ev_int (by decide)) e_seed_5) w17 (fun v_seed_5 B19 H19 x19 w19 h_seed_5 => ?_)
            have h_script := Rel.mono _ x19.b h_script
            have o_drawn_6 := o_drawn_6.step x19
            have h_at_ := Rel.mono _ x19.b h_at_
            have h_cell_2 := Rel.mono _ x19.b h_cell_2
            have h_turn_2 := Rel.mono _ x19.b h_turn_2
            have e4 := e4.trans x19.b
            have eo4 := eo4.trans x19.b
            have e17 := e17.trans x19.b
            have eo17 := eo17.trans x19.b
            obtain ⟨drawn_7, h_drawn_7, hm⟩ := bindS hm
            refine st_app o_drawn_6 rfl (ev_modS (ev_intI (ev_divS (ev_v h_seed_5 rfl) ev_int ⟨by decide, by decide⟩)) ev_int (by decide)) w19 h_drawn_7 (fun B20 H20 G20 x20 hu20 w20 o_drawn_7 => ?_)
            have h_script := Rel.mono _ x20.b h_script
            have h_at_ := Rel.mono _ x20.b h_at_
            have h_cell_2 := Rel.mono _ x20.b h_cell_2
            have h_seed_5 := Rel.mono _ x20.b h_seed_5
            have h_turn_2 := Rel.mono _ x20.b h_turn_2
            have e4 := e4.trans x20.b
            have eo4 := eo4.trans x20.b
            have e17 := e17.trans x20.b
            have eo17 := eo17.trans x20.b
            refine st_next ?_
            have hv := Option.some.inj hm
            subst hv
            exact ⟨_, v_seed_5, _, rfl, e17, eo17, w20, o_drawn_7, h_seed_5, trivial⟩
          · rintro Bs17 σ17 Bd17 Hd17 ⟨a17_2, p17_5, rfl, ed17, eo17, wd17, f17_0, f17_1, -⟩
            refine nx_tz ?_
            have o_drawn_8 : Own qI c0.N H0 _ _ l_drawn drawn_8 := f17_0
            have h_seed_6 : qI.r _ a17_2 seed_6 := f17_1
            have h_script := Rel.mono _ eo17 h_script
            have h_at_ := Rel.mono _ eo17 h_at_
            have h_cell_2 := Rel.mono _ eo17 h_cell_2
            have e4 := e4.trans eo17
            have eo4 := eo4.trans eo17
            refine st_nextT ?_
            refine st_next ?_
            have hv := Option.some.inj hm
            subst hv
            exact ⟨_, a17_2, _, _, _, rfl, e4, eo4, wd17, o_drawn_8, h_seed_6, trivial⟩
    · rintro Bs4 σ4 Bd4 Hd4 ⟨a4_2, p4_3, p4_4, p4_5, rfl, ed4, eo4, wd4, f4_0, f4_1, -⟩
      refine nx_tz ?_
      have o_drawn_9 : Own qI c0.N H0 _ _ l_drawn drawn_9 := f4_0
      have h_seed_7 : qI.r _ a4_2 seed_7 := f4_1
      obtain ⟨drawn_10, e_drawn_10, hm⟩ := ltS hm
      refine st_rev o_drawn_9 rfl wd4 (fun G21 hu21 w21 o_drawn_10 => ?_)
      have o_drawn_10 := e_drawn_10 ▸ o_drawn_10
      have hv := Option.some.inj hm
      subst hv
      exact st_retO o_drawn_10 rfl w21 (fun _ _ _ => trivial) q)
abbrev N_take : List Str := ["_law_draws_here", "_law_many"]
theorem sc_take : FnScope N_take ["_law_draws_here", "_law_many"] (defScope s_take) := ⟨rfl, rfl, rfl, by decide +kernel, rfl, by decide +kernel, by decide +kernel⟩
theorem ok_take (T : Top K mg C_Table e_check_states e_forest_row) : Fn P w' K mg base 1 "_law_take" ["_law_draws_here", "_law_many"] [] (spd (aCons qI aNil) (fun ds d => M.take ds d.1) (pI qI)) :=
  mkFn T.d_take sc_take (al_spd (al_cons al_nil)) (fun _ _ _ _ _ _ us hl => match us, hl with | [_, _], _ => rfl) (fun f cdv A outer s H0 vs Q E hr h => by
    obtain ⟨B0, ld, vs', ds, d, r, ds', rfl, e, cc, hA, hm, q⟩ := h
    obtain ⟨many, ⟨⟩⟩ := d
    obtain ⟨v_many, _, rfl, h_many, rfl⟩ := hA
    have h_many : qI.r B0 v_many many := h_many
    have hm : M.take ds many = some (r, ds') := hm
    have w := wdD e cc
    unfold M.take at hm
    have sc := sc_take
    refine ⟨_, (pss_cons (ps_if (PW.pt (pw_or (pt_cmpR op_lt (pv 1) pe_int (nomark _)) (pw_or1 (pt_cmpR op_eq (pe_callB (kcl_len K rfl) (by rfl) T.b_len PySem.boot_len (pa_cons (pv 0) pa_nil)) pe_int (nomark _))))) (pss_cons (ps_ret pe_int) pss_never) pss_nil) (pss_cons (ps_ret (pe_op op_mod (pe_callTy cl_int (by rfl) T.b_int (by decide +kernel) (pa_cons (pe_bm0 PySem.F.plainAttrs_list PySem.F.slot_list_pop PySem.F.type_list_pop mt_pop (pv 0)) pa_nil)) (pv 1))) pss_never)), ?_⟩
    refine st_if (et_or' (et_test (ev_lt (ev_v h_many rfl) ev_int)) (et_test (ev_eqI (ev_cLen rfl) ev_int))) w (fun hA B1 H1 x1 w1 => ?_) (fun hA B1 H1 x1 w1 => ?_)
    · have hm := ifT hm hA
      have h_many := Rel.mono _ x1.b h_many
      have hv := Option.some.inj hm
      have hv1 := (Prod.mk.inj hv).1
      have hv2 := (Prod.mk.inj hv).2
      subst hv1
      subst hv2
      exact st_ret gI ev_int w1 (fun _ _ h => h) q
    · have hm := ifF hm hA
      have h_many := Rel.mono _ x1.b h_many
      refine st_nextT ?_
      obtain ⟨⟨t2, ds3⟩, h_t2, hm⟩ := bindS hm
      obtain ⟨t4, h_t4, hm⟩ := bindS hm
      have hv := Option.some.inj hm
      have hv1 := (Prod.mk.inj hv).1
      have hv2 := (Prod.mk.inj hv).2
      subst hv1
      subst hv2
      exact st_ret gI (ev_mod (ev_intI (ev_cPop rfl h_t2)) (ev_v h_many rfl) h_t4) w1 (fun _ _ h => h) q)
abbrev N_empty : List Str := ["_law_size", "_law_x", "_law_y"]
theorem sc_empty : FnScope N_empty ["_law_size"] (defScope s_empty) := ⟨rfl, rfl, rfl, by decide +kernel, rfl, by decide +kernel, by decide +kernel⟩
theorem ok_empty (T : Top K mg C_Table e_check_states e_forest_row) : Fn P w' K mg base 1 "_law_empty" ["_law_size"] [] (spf (aCons qI aNil) (fun d => M.empty d.1) pG) :=
  mkFn T.d_empty sc_empty (al_spf (al_cons al_nil)) (fun _ _ _ _ _ _ us hl => match us, hl with | [_], _ => rfl) (fun f cdv A outer s H0 vs Q E hr h => by
    obtain ⟨B0, d, r, e, hA, hm, q⟩ := h
    obtain ⟨size, ⟨⟩⟩ := d
    obtain ⟨v_size, _, rfl, h_size, rfl⟩ := hA
    have h_size : qI.r B0 v_size size := h_size
    have hm : M.empty size = some r := hm
    have w := wd0 e
    unfold M.empty at hm
    have sc := sc_empty
    refine ⟨_, (pss_cons (ps_ret (pe_lc (own := [("_law_x", 1)]) rfl sc.nd (pi_range1 (by rfl) T.b_range (pa_cons (pv 0) pa_nil)) (blkOk_by (own := [("_law_x", 1)]) (N := N_empty) (sc := defScope s_empty) (by decide +kernel)) (fun _ _ _ _ _ => (pg_name (i := 1) sc.nd rfl (by first | exact .inl rfl | exact .inr rfl))) (fun _ _ _ _ _ => pts_nil) (fun _ _ _ _ _ => (pe_lc (own := [("_law_y", 2)]) rfl sc.nd (pi_range1 (by rfl) T.b_range (pa_cons (pv 0) pa_nil)) (by refine blkOk_by (own := [("_law_y", 2)]) (N := N_empty) (sc := L2.relS _ (defScope s_empty)) ?_; decide +kernel) (fun _ _ _ _ _ => (pg_name (i := 2) sc.nd rfl (by first | exact .inl rfl | exact .inr rfl))) (fun _ _ _ _ _ => pts_nil) (fun _ _ _ _ _ => pe_int))))) pss_never), ?_⟩
    obtain ⟨r1, h_r1, hm⟩ := bindS hm
    obtain ⟨z6, h_z6, hm⟩ := bindS hm
    obtain ⟨t7, h_t7, hm⟩ := bindS hm
    have hv := Option.some.inj hm
    subst hv
    exact st_ret gG (ev_lcG (it_range1 (ev_v h_size rfl) h_r1) (compS_mapO h_t7) (lnO_ok h_z6).1 (fun x_ v2_ s2_ o2_ t2_ B2_ H2_ x2_ r2_ hf2_ => by (obtain ⟨y2_, hy2_, hf2_⟩ := bindS hf2_; cases hf2_; have h_size := Rel.mono _ x2_.b h_size; obtain ⟨r3, h_r3, hy2_⟩ := bindS hy2_; obtain ⟨z5, h_z5, hy2_⟩ := bindS hy2_; exact turn_g (fun _ _ _ _ q => q) rfl rfl (Ev.is (ev_lcS (it_range1 (ev_v h_size rfl) h_r3) (compS_map (fun y_ => (0 : Int)) _ r3) (lnO_ok h_z5).1 (fun y_ v4_ s4_ o4_ t4_ B4_ H4_ x4_ r4_ hf4_ => by (cases hf4_; have h_size := Rel.mono _ x4_.b h_size; have r2_ := Rel.mono _ x4_.b r2_; exact turn_g (fun _ _ _ _ q => q) rfl rfl ev_int))) (Option.some.inj hy2_))))) w (fun _ _ _ => trivial) q)
abbrev N_rate : List Str := ["_law_draws_here", "_law_style", "_law_rate_here"]
theorem sc_rate : FnScope N_rate ["_law_draws_here", "_law_style"] (defScope s_rate) := ⟨rfl, rfl, rfl, by decide +kernel, rfl, by decide +kernel, by decide +kernel⟩
theorem ok_rate (T : Top K mg C_Table e_check_states e_forest_row) : Fn P w' K mg base 2 "_law_rate" ["_law_draws_here", "_law_style"] [] (spd (aCons qI aNil) (fun ds d => M.rate ds d.1) (pI qI)) :=
  mkFn T.d_rate sc_rate (al_spd (al_cons al_nil)) (fun _ _ _ _ _ _ us hl => match us, hl with | [_, _], _ => rfl) (fun f cdv A outer s H0 vs Q E hr h => by
    obtain ⟨B0, ld, vs', ds, d, r, ds', rfl, e, cc, hA, hm, q⟩ := h
    obtain ⟨style, ⟨⟩⟩ := d
    obtain ⟨v_style, _, rfl, h_style, rfl⟩ := hA
    have h_style : qI.r B0 v_style style := h_style
    have hm : M.rate ds style = some (r, ds') := hm
    have w := wdD e cc
    unfold M.rate at hm
    have sc := sc_rate
    have F_take := ok_take (P := P) (w' := w') (base := base) T
    refine ⟨_, (pss_cons (ps_if (pt_cmpR op_eq (pv 1) pe_int (nomark _)) (pss_cons (ps_ret pe_int) pss_never) pss_nil) (pss_cons (ps_set (i := 2) sc.nd rfl (by first | exact .inl rfl | exact .inr rfl) (pe_op op_add pe_int (pe_fn F_take (hr.mono (by decide)) rfl (pa_cons (pv 0) (pa_cons pe_int pa_nil))))) (pss_cons (ps_if (PW.pt (pw_and (pt_cmpR op_eq (pv 1) pe_int (nomark _)) (pw_and1 (pt_cmpR op_eq (pv 2) pe_int (nomark _))))) (pss_cons (ps_ret (pe_op op_add (pe_op op_pow pe_int pe_int) pe_int)) pss_never) pss_nil) (pss_cons (ps_ret (pv 2)) pss_never)))), ?_⟩
    refine st_if (et_test (ev_eqI (ev_v h_style rfl) ev_int)) w (fun hA B1 H1 x1 w1 => ?_) (fun hA B1 H1 x1 w1 => ?_)
    · have hm := ifT hm hA
      have h_style := Rel.mono _ x1.b h_style
      have hv := Option.some.inj hm
      have hv1 := (Prod.mk.inj hv).1
      have hv2 := (Prod.mk.inj hv).2
      subst hv1
      subst hv2
      exact st_ret gI ev_int w1 (fun _ _ h => h) q
    · have hm := ifF hm hA
      have h_style := Rel.mono _ x1.b h_style
      refine st_nextT ?_
      obtain ⟨⟨t2, ds3⟩, h_t2, hm⟩ := bindS hm
      obtain ⟨rate_here, e_rate_here, hm⟩ := ltS hm
      refine st_set (i := 2) (Ev.is (ev_add ev_int (ev_calld gI rfl (ea_cons ev_int ea_nil) h_t2)) e_rate_here) w1 (fun v_rate_here B4 H4 x4 w4 h_rate_here => ?_)
      have h_style := Rel.mono _ x4.b h_style
      refine st_if (et_and' (et_test (ev_eqI (ev_v h_style rfl) ev_int)) (et_test (ev_eqI (ev_v h_rate_here rfl) ev_int))) w4 (fun hA B5 H5 x5 w5 => ?_) (fun hA B5 H5 x5 w5 => ?_)
      · have hm := ifT hm hA
        have h_rate_here := Rel.mono _ x5.b h_rate_here
        have hv := Option.some.inj hm
        have hv1 := (Prod.mk.inj hv).1
        have hv2 := (Prod.mk.inj hv).2
        subst hv1
        subst hv2
        exact st_ret gI (ev_add (Ev.is (d' := (1000000 : Int)) (ev_powS ev_int ev_int ⟨by decide, by decide, by decide⟩) (by decide)) ev_int) w5 (fun _ _ h => h) q
      · have hm := ifF hm hA
        have h_rate_here := Rel.mono _ x5.b h_rate_here
        refine st_nextT ?_
        have hv := Option.some.inj hm
        have hv1 := (Prod.mk.inj hv).1
        have hv2 := (Prod.mk.inj hv).2
        subst hv1
        subst hv2
        exact st_ret gI (ev_v h_rate_here rfl) w5 (fun _ _ h => h) q)
abbrev N_hung_grid : List Str := ["_law_draws_here", "_law_size", "_law_style", "_law_grid_here", "_law_at", "_law_step", "_law_old"]
theorem sc_hung_grid : FnScope N_hung_grid ["_law_draws_here", "_law_size", "_law_style"] (defScope s_hung_grid) := ⟨rfl, rfl, rfl, by decide +kernel, rfl, by decide +kernel, by decide +kernel⟩
theorem ok_hung_grid (T : Top K mg C_Table e_check_states e_forest_row) : Fn P w' K mg base 3 "_law_hung_grid" ["_law_draws_here", "_law_size", "_law_style"] [] (spd (aCons qI (aCons qI aNil)) (fun ds d => M.hung_grid ds d.1 d.2.1) pG) :=
  mkFn T.d_hung_grid sc_hung_grid (al_spd (al_cons (al_cons al_nil))) (fun _ _ _ _ _ _ us hl => match us, hl with | [_, _, _], _ => rfl) (fun f cdv A outer s H0 vs Q E hr h => by
    obtain ⟨B0, ld, vs', ds, d, r, ds', rfl, e, cc, hA, hm, q⟩ := h
    obtain ⟨size, style, ⟨⟩⟩ := d
    obtain ⟨v_size, _, rfl, h_size, ⟨v_style, _, rfl, h_style, rfl⟩⟩ := hA
    have h_size : qI.r B0 v_size size := h_size
    have h_style : qI.r B0 v_style style := h_style
    have hm : M.hung_grid ds size style = some (r, ds') := hm
    have w := wdD e cc
    unfold M.hung_grid at hm
    have sc := sc_hung_grid
    have F_empty := ok_empty (P := P) (w' := w') (base := base) T
    have F_take := ok_take (P := P) (w' := w') (base := base) T
    have F_rate := ok_rate (P := P) (w' := w') (base := base) T
    refine ⟨_, (pss_cons (ps_set (i := 3) sc.nd rfl (by first | exact .inl rfl | exact .inr rfl) (pe_fn F_empty (hr.mono (by decide)) rfl (pa_cons (pv 1) pa_nil))) (pss_cons (ps_set (i := 4) sc.nd rfl (by first | exact .inl rfl | exact .inr rfl) pe_int) (pss_cons (ps_for PassesOwn.never rfl (pi_range1 (by rfl) T.b_range (pa_cons (pv 1) pa_nil)) (pg_name (i := 5) sc.nd rfl (by first | exact .inl rfl | exact .inr rfl)) (pss_cons (ps_if (pt_cmpR op_lt (pv 4) (pv 1) (nomark _)) (pss_cons (ps_set (i := 6) sc.nd rfl (by first | exact .inl rfl | exact .inr rfl) (pe_fn F_take (hr.mono (by decide)) rfl (pa_cons (pv 0) (pa_cons (pv 4) pa_nil)))) (pss_cons (ps_asg (pe_fn F_rate (hr.mono (by decide)) rfl (pa_cons (pv 0) (pa_cons (pv 2) pa_nil))) (pg_sub (pe_ix (kix_list K rfl) (pv 3) (pv 6) (fun _ _ => rfl)) (pv 4) set_list)) (Evl.pss_cut (ps_if (PW.pt (pw_and (pt_cmpR op_lt (pe_op op_add (pv 4) pe_int) (pv 1) (nomark _)) (pw_and1 (pt_cmpR op_eq (pe_fn F_take (hr.mono (by decide)) rfl (pa_cons (pv 0) (pa_cons pe_int pa_nil))) pe_int (nomark _))))) (pss_cons (ps_asg (pe_fn F_rate (hr.mono (by decide)) rfl (pa_cons (pv 0) (pa_cons (pv 2) pa_nil))) (pg_sub (pe_ix (kix_list K rfl) (pv 3) (pv 4) (fun _ _ => rfl)) (pe_op op_add (pv 4) pe_int) set_list)) (pss_cons (ps_set (i := 4) sc.nd rfl (by first | exact .inl rfl | exact .inr rfl) (pe_op op_add (pv 4) pe_int)) pss_nil)) pss_nil) (pss_cons (ps_asg (pe_fn F_rate (hr.mono (by decide)) rfl (pa_cons (pv 0) (pa_cons (pv 2) pa_nil))) (pg_sub (pe_ix (kix_list K rfl) (pv 3) (pv 4) (fun _ _ => rfl)) (pv 6) set_list)) (pss_cons (ps_set (i := 4) sc.nd rfl (by first | exact .inl rfl | exact .inr rfl) (pe_op op_add (pv 4) pe_int)) pss_nil))))) pss_nil) pss_nil)) (pss_cons (ps_ret (pv 3)) pss_never)))), ?_⟩
    obtain ⟨grid_here, h_grid_here, hm⟩ := bindS hm
    refine st_setG (i := 3) (ev_call gG (ea_cons (ev_v h_size rfl) ea_nil) a_id h_grid_here) w (fun l_grid_here rs_grid_here B2 H2 x2 w2 n2 nr2 o_grid_here => ?_)
    have h_size := Rel.mono _ x2.b h_size
    have h_style := Rel.mono _ x2.b h_style
    obtain ⟨at_, e_at_, hm⟩ := ltS hm
    refine st_set (i := 4) (Ev.is ev_int e_at_) w2 (fun v_at_ B3 H3 x3 w3 h_at_ => ?_)
    have h_size := Rel.mono _ x3.b h_size
    have h_style := Rel.mono _ x3.b h_style
    have o_grid_here := o_grid_here.step x3
    obtain ⟨r4, h_r4, hm⟩ := bindS hm
    obtain ⟨⟨grid_here_7, at__6, ds_4⟩, hl5, hm⟩ := bindS hm
    refine st_for (st_forO (it_range1 (ev_v h_size rfl) h_r4) w3.e w3.c hl5 (fun Bs (b : (List (List Int)) × Int × List Int) σ B H => ∃ a5_4 : V, ∃ p5_5 : Option V, ∃ p5_6 : Option V, σ = [some (.ref ld), some v_size, some v_style, some (.ref l_grid_here), some a5_4, p5_5, p5_6] ∧ Ex Bs B ∧ Ex B3 B ∧ Wd (cD ld).N B0 H0 (cD ld) b.2.2 B H ∧ OwnG (cD ld).N H0 B H l_grid_here rs_grid_here b.1 ∧ qI.r B a5_4 b.2.1 ∧ True) ?_ ?_ ?_ ?_)
    · rintro _ _ _ _ _ ⟨_, _, _, rfl, e, -, w, -⟩
      exact ⟨e, w.e⟩
    · intro Bs5 Hs5 x5 c5
      have o_grid_here := o_grid_here.step x5
      have h_at_ := Rel.mono _ x5.b h_at_
      exact ⟨v_at_, _, _, rfl, .refl _, x5.b, w3.step x5 c5, o_grid_here, h_at_, trivial⟩
    · rintro Bs5 step ⟨grid_here_2, at__2, ds_2⟩ b5 σ5 B5p H5p ⟨a5_4, p5_5, p5_6, rfl, e5, eo5, w5, f5_0, f5_1, -⟩ hm vi5 B5 H5 x5 r5
      rw [M.hung_grid_l1] at hm
      have o_grid_here_2 : OwnG (cD ld).N H0 _ _ l_grid_here rs_grid_here grid_here_2 := f5_0
      have h_at__2 : qI.r _ a5_4 at__2 := f5_1
      have h_size := Rel.mono _ (eo5.trans x5.b) h_size
      have h_style := Rel.mono _ (eo5.trans x5.b) h_style
      have o_grid_here_2 := o_grid_here_2.step x5.up
      have h_at__2 := Rel.mono _ x5.b h_at__2
      have e5 := e5.trans x5.b
      have eo5 := eo5.trans x5.b
      have w5 := w5.step x5.up (Cell.ext _ w5.c x5)
      have h_step := r5
      refine tgn ?_
      refine st_if (et_test (ev_lt (ev_v h_at__2 rfl) (ev_v h_size rfl))) w5 (fun hA B6 H6 x6 w6 => ?_) (fun hA B6 H6 x6 w6 => ?_)
      · have hm := ifT hm hA
        have h_size := Rel.mono _ x6.b h_size
        have h_style := Rel.mono _ x6.b h_style
        have o_grid_here_2 := o_grid_here_2.step x6
        have h_at__2 := Rel.mono _ x6.b h_at__2
        have e5 := e5.trans x6.b
        have eo5 := eo5.trans x6.b
        obtain ⟨⟨old, ds8⟩, h_old, hm⟩ := bindS hm
        refine st_set (i := 6) (ev_calld gI rfl (ea_cons (ev_v h_at__2 rfl) ea_nil) h_old) w6 (fun v_old B9 H9 x9 w9 h_old => ?_)
        have h_size := Rel.mono _ x9.b h_size
        have h_style := Rel.mono _ x9.b h_style
        have o_grid_here_2 := o_grid_here_2.step x9
        have h_at__2 := Rel.mono _ x9.b h_at__2
        have e5 := e5.trans x9.b
        have eo5 := eo5.trans x9.b
        obtain ⟨⟨t10, ds11⟩, h_t10, hm⟩ := bindS hm
        obtain ⟨grid_here_3, h_grid_here_3, hm⟩ := bindS hm
        refine st_gset o_grid_here_2 rfl (ev_calld gI rfl (ea_cons (ev_v h_style rfl) ea_nil) h_t10) (ev_v h_old rfl) (ev_v h_at__2 rfl) w9 h_grid_here_3 (fun B12 H12 G12 x12 hu12 w12 o_grid_here_3 => ?_)
        have h_size := Rel.mono _ x12.b h_size
        have h_style := Rel.mono _ x12.b h_style
        have h_at__2 := Rel.mono _ x12.b h_at__2
        have h_old := Rel.mono _ x12.b h_old
        have e5 := e5.trans x12.b
        have eo5 := eo5.trans x12.b
        obtain ⟨⟨c15, ds16⟩, h_c15, hm⟩ := bindS hm
        obtain ⟨⟨grid_here_4, at__3, ds_3⟩, hj17, hm⟩ := bindS hm
        refine st_ifc (et_and (b := c15) (s2 := ds16) (et_test (ev_lt (ev_add (ev_v h_at__2 rfl) ev_int) (ev_v h_size rfl))) (fun hA => by (have hk := ifT h_c15 hA; obtain ⟨⟨t13, ds14⟩, h_t13, hk⟩ := bindS hk; have hv := Prod.mk.inj (Option.some.inj hk); have hv1 := hv.1; have hv2 := hv.2; subst hv1; subst hv2; exact (et_test (ev_eqI (ev_calld gI rfl (ea_cons ev_int ea_nil) h_t13) ev_int)))) (fun hA => by (have hk := ifF h_c15 hA; have hv := Prod.mk.inj (Option.some.inj hk); have hv1 := hv.1; have hv2 := hv.2; subst hv1; subst hv2; exact ⟨rfl, rfl⟩))) w12 (fun σ H => ∃ a17_4 : V, σ = [some (.ref ld), some v_size, some v_style, some (.ref l_grid_here), some a17_4, some vi5, some v_old] ∧ ∃ B, Ex B12 B ∧ Wd (cD ld).N B0 H0 (cD ld) ds_3 B H ∧ OwnG (cD ld).N H0 B H l_grid_here rs_grid_here grid_here_4 ∧ qI.r B a17_4 at__3 ∧ True) (fun hA B17 H17 x17 w17 => ?_) (fun hA B17 H17 x17 w17 => ?_) ?_
        · have hm := ifT hj17 hA
          have ej17 := Ex.refl B12
          have h_size := Rel.mono _ x17.b h_size
          have h_style := Rel.mono _ x17.b h_style
          have o_grid_here_3 := o_grid_here_3.step x17
          have h_at__2 := Rel.mono _ x17.b h_at__2
          have h_old := Rel.mono _ x17.b h_old
          have e5 := e5.trans x17.b
          have eo5 := eo5.trans x17.b
          have ej17 := ej17.trans x17.b
          obtain ⟨⟨t18, ds19⟩, h_t18, hm⟩ := bindS hm
          obtain ⟨grid_here_5, h_grid_here_5, hm⟩ := bindS hm
          refine st_gset o_grid_here_3 rfl (ev_calld gI rfl (ea_cons (ev_v h_style rfl) ea_nil) h_t18) (ev_v h_at__2 rfl) (ev_add (ev_v h_at__2 rfl) ev_int) w17 h_grid_here_5 (fun B20 H20 G20 x20 hu20 w20 o_grid_here_5 => ?_)
          have h_size := Rel.mono _ x20.b h_size
          have h_style := Rel.mono _ x20.b h_style
          have h_at__2 := Rel.mono _ x20.b h_at__2
          have h_old := Rel.mono _ x20.b h_old
          have e5 := e5.trans x20.b
          have eo5 := eo5.trans x20.b
          have ej17 := ej17.trans x20.b
          obtain ⟨at__4, e_at__4, hm⟩ := ltS hm
          refine st_set (i := 4) (Ev.is (ev_add (ev_v h_at__2 rfl) ev_int) e_at__4) w20 (fun v_at__4 B21 H21 x21 w21 h_at__4 => ?_)
          have h_size := Rel.mono _ x21.b h_size
          have h_style := Rel.mono _ x21.b h_style
          have o_grid_here_5 := o_grid_here_5.step x21
          have h_old := Rel.mono _ x21.b h_old
          have e5 := e5.trans x21.b
          have eo5 := eo5.trans x21.b
          have ej17 := ej17.trans x21.b
          refine st_next ?_
          have hv := Option.some.inj hm
          have hv0 : grid_here_5 = grid_here_4 := congrArg (fun z => z.1) hv
          have hv1 : at__4 = at__3 := congrArg (fun z => z.2.1) hv
          have hv2 : ds19 = ds_3 := congrArg (fun z => z.2.2) hv
          subst hv0
          subst hv1
          subst hv2
          exact ⟨v_at__4, rfl, B21, ej17, w21, o_grid_here_5, h_at__4, trivial⟩
        · have hm := ifF hj17 hA
          have ej17 := Ex.refl B12
          have h_size := Rel.mono _ x17.b h_size
          have h_style := Rel.mono _ x17.b h_style
          have o_grid_here_3 := o_grid_here_3.step x17
          have h_at__2 := Rel.mono _ x17.b h_at__2
          have h_old := Rel.mono _ x17.b h_old
          have e5 := e5.trans x17.b
          have eo5 := eo5.trans x17.b
          have ej17 := ej17.trans x17.b
          refine st_next ?_
          have hv := Option.some.inj hm
          have hv0 : grid_here_3 = grid_here_4 := congrArg (fun z => z.1) hv
          have hv1 : at__2 = at__3 := congrArg (fun z => z.2.1) hv
          have hv2 : ds16 = ds_3 := congrArg (fun z => z.2.2) hv
          subst hv0
          subst hv1
          subst hv2
          exact ⟨a5_4, rfl, B17, ej17, w17, o_grid_here_3, h_at__2, trivial⟩
        · rintro σ17 G17 ⟨a17_4, rfl, Bj17, eo17, wj17, f17_0, f17_1, -⟩
          have o_grid_here_4 : OwnG (cD ld).N H0 _ _ l_grid_here rs_grid_here grid_here_4 := f17_0
          have h_at__3 : qI.r _ a17_4 at__3 := f17_1
          have h_size := Rel.mono _ eo17 h_size
          have h_style := Rel.mono _ eo17 h_style
          have h_old := Rel.mono _ eo17 h_old
          have e5 := e5.trans eo17
          have eo5 := eo5.trans eo17
          obtain ⟨⟨t22, ds23⟩, h_t22, hm⟩ := bindS hm
          obtain ⟨grid_here_6, h_grid_here_6, hm⟩ := bindS hm
          refine st_gset o_grid_here_4 rfl (ev_calld gI rfl (ea_cons (ev_v h_style rfl) ea_nil) h_t22) (ev_v h_at__3 rfl) (ev_v h_old rfl) wj17 h_grid_here_6 (fun B24 H24 G24 x24 hu24 w24 o_grid_here_6 => ?_)
          have h_size := Rel.mono _ x24.b h_size
          have h_style := Rel.mono _ x24.b h_style
          have h_at__3 := Rel.mono _ x24.b h_at__3
          have h_old := Rel.mono _ x24.b h_old
          have e5 := e5.trans x24.b
          have eo5 := eo5.trans x24.b
          obtain ⟨at__5, e_at__5, hm⟩ := ltS hm
          refine st_set (i := 4) (Ev.is (ev_add (ev_v h_at__3 rfl) ev_int) e_at__5) w24 (fun v_at__5 B25 H25 x25 w25 h_at__5 => ?_)
          have h_size := Rel.mono _ x25.b h_size
          have h_style := Rel.mono _ x25.b h_style
          have o_grid_here_6 := o_grid_here_6.step x25
          have h_old := Rel.mono _ x25.b h_old
          have e5 := e5.trans x25.b
          have eo5 := eo5.trans x25.b
          refine st_nextT ?_
          refine st_next ?_
          have hv := Option.some.inj hm
          subst hv
          exact ⟨_, v_at__5, _, _, rfl, e5, eo5, w25, o_grid_here_6, h_at__5, trivial⟩
      · have hm := ifF hm hA
        have h_size := Rel.mono _ x6.b h_size
        have h_style := Rel.mono _ x6.b h_style
        have o_grid_here_2 := o_grid_here_2.step x6
        have h_at__2 := Rel.mono _ x6.b h_at__2
        have e5 := e5.trans x6.b
        have eo5 := eo5.trans x6.b
        refine st_nextT ?_
        refine st_next ?_
        have hv := Option.some.inj hm
        subst hv
        exact ⟨_, a5_4, _, _, rfl, e5, eo5, w6, o_grid_here_2, h_at__2, trivial⟩
    · rintro Bs5 σ5 Bd5 Hd5 ⟨a5_4, p5_5, p5_6, rfl, ed5, eo5, wd5, f5_0, f5_1, -⟩
      refine nx_tz ?_
      have o_grid_here_7 : OwnG (cD ld).N H0 _ _ l_grid_here rs_grid_here grid_here_7 := f5_0
      have h_at__6 : qI.r _ a5_4 at__6 := f5_1
      have hv := Option.some.inj hm
      have hv1 := (Prod.mk.inj hv).1
      have hv2 := (Prod.mk.inj hv).2
      subst hv1
      subst hv2
      exact st_retG o_grid_here_7 rfl wd5 (fun _ _ h => h) q)
abbrev N_lots_grid : List Str := ["_law_draws_here", "_law_size", "_law_style", "_law_grid_here", "_law_half", "_law_x", "_law_turn", "_law_y", "_law_near", "_law_far", "_law_start", "_law_many", "_law_inside", "_law_follows"]
theorem sc_lots_grid : FnScope N_lots_grid ["_law_draws_here", "_law_size", "_law_style"] (defScope s_lots_grid) := ⟨rfl, rfl, rfl, by decide +kernel, rfl, by decide +kernel, by decide +kernel⟩
theorem ok_lots_grid (T : Top K mg C_Table e_check_states e_forest_row) : Fn P w' K mg base 3 "_law_lots_grid" ["_law_draws_here", "_law_size", "_law_style"] [] (spd (aCons qI (aCons qI aNil)) (fun ds d => M.lots_grid ds d.1 d.2.1) pG) :=
  mkFn T.d_lots_grid sc_lots_grid (al_spd (al_cons (al_cons al_nil))) (fun _ _ _ _ _ _ us hl => match us, hl with | [_, _, _], _ => rfl) (fun f cdv A outer s H0 vs Q E hr h => by
    obtain ⟨B0, ld, vs', ds, d, r, ds', rfl, e, cc, hA, hm, q⟩ := h
    obtain ⟨size, style, ⟨⟩⟩ := d
    obtain ⟨v_size, _, rfl, h_size, ⟨v_style, _, rfl, h_style, rfl⟩⟩ := hA
    have h_size : qI.r B0 v_size size := h_size
    have h_style : qI.r B0 v_style style := h_style
    have hm : M.lots_grid ds size style = some (r, ds') := hm
    have w := wdD e cc
    unfold M.lots_grid at hm
    have sc := sc_lots_grid
    have F_empty := ok_empty (P := P) (w' := w') (base := base) T
    have F_take := ok_take (P := P) (w' := w') (base := base) T
    have F_rate := ok_rate (P := P) (w' := w') (base := base) T
    refine ⟨_, (pss_cons (ps_set (i := 3) sc.nd rfl (by first | exact .inl rfl | exact .inr rfl) (pe_fn F_empty (hr.mono (by decide)) rfl (pa_cons (pv 1) pa_nil))) (pss_cons (ps_set (i := 4) sc.nd rfl (by first | exact .inl rfl | exact .inr rfl) (pe_op op_fdiv (pv 1) pe_int)) (pss_cons (ps_for PassesOwn.never rfl (pi_range1 (by rfl) T.b_range (pa_cons (pv 1) pa_nil)) (pg_name (i := 5) sc.nd rfl (by first | exact .inl rfl | exact .inr rfl)) (pss_cons (ps_for PassesOwn.never rfl (pi_range1 (by rfl) T.b_range (pa_cons (pv 1) pa_nil)) (pg_name (i := 7) sc.nd rfl (by first | exact .inl rfl | exact .inr rfl)) (pss_cons (ps_set (i := 10) sc.nd rfl (by first | exact .inl rfl | exact .inr rfl) pe_int) (pss_cons (ps_set (i := 11) sc.nd rfl (by first | exact .inl rfl | exact .inr rfl) (pv 4)) (Evl.pss_cut (ps_if (pt_cmpR op_ge (pv 5) (pv 4) (nomark _)) (pss_cons (ps_set (i := 10) sc.nd rfl (by first | exact .inl rfl | exact .inr rfl) (pv 4)) (pss_cons (ps_set (i := 11) sc.nd rfl (by first | exact .inl rfl | exact .inr rfl) (pe_op op_sub (pv 1) (pv 4))) pss_nil)) pss_nil) (pss_cons (ps_set (i := 12) sc.nd rfl (by first | exact .inl rfl | exact .inr rfl) (pe_and (pe_cmpR op_ne (pv 7) (pv 5) (nomark _)) (pe_and (pe_cmpR op_ge (pv 7) (pv 10) (nomark _)) (pe_one (pe_cmpR op_lt (pv 7) (pe_op op_add (pv 10) (pv 11)) (nomark _)))))) (pss_cons (ps_set (i := 13) sc.nd rfl (by first | exact .inl rfl | exact .inr rfl) (pe_cmpR op_eq (pv 7) (pe_op op_add (pv 10) (pe_op op_mod (pe_callTy cl_int (by rfl) T.b_int (by decide +kernel) (pa_cons (pe_op op_add (pe_op op_sub (pv 5) (pv 10)) pe_int) pa_nil)) (pv 11))) (nomark _))) (pss_cons (ps_if (PW.pt (pw_and (pt_val (pv 12)) (pw_and1 (PW.pt (pw_or (pt_val (pv 13)) (pw_or1 (pt_cmpR op_eq (pe_fn F_take (hr.mono (by decide)) rfl (pa_cons (pv 0) (pa_cons pe_int pa_nil))) pe_int (nomark _)))))))) (pss_cons (ps_asg (pe_fn F_rate (hr.mono (by decide)) rfl (pa_cons (pv 0) (pa_cons (pv 2) pa_nil))) (pg_sub (pe_ix (kix_list K rfl) (pv 3) (pv 5) (fun _ _ => rfl)) (pv 7) set_list)) pss_nil) pss_nil) pss_nil))))))) pss_nil)) (pss_cons (ps_for PassesOwn.never rfl (pi_range1 (by rfl) T.b_range (pa_cons pe_int pa_nil)) (pg_name (i := 6) sc.nd rfl (by first | exact .inl rfl | exact .inr rfl)) (pss_cons (ps_set (i := 8) sc.nd rfl (by first | exact .inl rfl | exact .inr rfl) (pe_fn F_take (hr.mono (by decide)) rfl (pa_cons (pv 0) (pa_cons (pv 4) pa_nil)))) (pss_cons (ps_set (i := 9) sc.nd rfl (by first | exact .inl rfl | exact .inr rfl) (pe_op op_add (pv 4) (pe_fn F_take (hr.mono (by decide)) rfl (pa_cons (pv 0) (pa_cons (pe_op op_sub (pv 1) (pv 4)) pa_nil))))) (pss_cons (ps_if (pt_cmpR op_eq (pv 6) pe_int (nomark _)) (pss_cons (ps_asg (pe_fn F_rate (hr.mono (by decide)) rfl (pa_cons (pv 0) (pa_cons (pv 2) pa_nil))) (pg_sub (pe_ix (kix_list K rfl) (pv 3) (pv 8) (fun _ _ => rfl)) (pv 9) set_list)) pss_nil) (pss_cons (ps_asg (pe_fn F_rate (hr.mono (by decide)) rfl (pa_cons (pv 0) (pa_cons (pv 2) pa_nil))) (pg_sub (pe_ix (kix_list K rfl) (pv 3) (pv 9) (fun _ _ => rfl)) (pv 8) set_list)) pss_nil)) pss_nil)))) (pss_cons (ps_ret (pv 3)) pss_never))))), ?_⟩
    obtain ⟨grid_here, h_grid_here, hm⟩ := bindS hm
    refine st_setG (i := 3) (ev_call gG (ea_cons (ev_v h_size rfl) ea_nil) a_id h_grid_here) w (fun l_grid_here rs_grid_here B2 H2 x2 w2 n2 nr2 o_grid_here => ?_)
    have h_size := Rel.mono _ x2.b h_size
    have h_style := Rel.mono _ x2.b h_style
    obtain ⟨half, e_half, hm⟩ := ltS hm
    refine st_set (i := 4) (Ev.is (ev_divS (ev_v h_size rfl) ev_int ⟨by decide, by decide⟩) e_half) w2 (fun v_half B3 H3 x3 w3 h_half => ?_)
    have h_size := Rel.mono _ x3.b h_size
    have h_style := Rel.mono _ x3.b h_style
    have o_grid_here := o_grid_here.step x3
    obtain ⟨r4, h_r4, hm⟩ := bindS hm
    obtain ⟨⟨grid_here_6, ds_5⟩, hl5, hm⟩ := bindS hm
    refine st_for (st_forO (it_range1 (ev_v h_size rfl) h_r4) w3.e w3.c hl5 (fun Bs (b : (List (List Int)) × List Int) σ B H => ∃ p5_5 : Option V, ∃ p5_7 : Option V, ∃ p5_10 : Option V, ∃ p5_11 : Option V, ∃ p5_12 : Option V, ∃ p5_13 : Option V, σ = [some (.ref ld), some v_size, some v_style, some (.ref l_grid_here), some v_half, p5_5, none, p5_7, none, none, p5_10, p5_11, p5_12, p5_13] ∧ Ex Bs B ∧ Ex B3 B ∧ Wd (cD ld).N B0 H0 (cD ld) b.2 B H ∧ OwnG (cD ld).N H0 B H l_grid_here rs_grid_here b.1 ∧ True) ?_ ?_ ?_ ?_)
    · rintro _ _ _ _ _ ⟨_, _, _, _, _, _, rfl, e, -, w, -⟩
      exact ⟨e, w.e⟩
    · intro Bs5 Hs5 x5 c5
      have o_grid_here := o_grid_here.step x5
      exact ⟨_, _, _, _, _, _, rfl, .refl _, x5.b, w3.step x5 c5, o_grid_here, trivial⟩
    · rintro Bs5 x_ ⟨grid_here_2, ds_2⟩ b5 σ5 B5p H5p ⟨p5_5, p5_7, p5_10, p5_11, p5_12, p5_13, rfl, e5, eo5, w5, f5_0, -⟩ hm vi5 B5 H5 x5 r5
      rw [M.lots_grid_l1] at hm
      have o_grid_here_2 : OwnG (cD ld).N H0 _ _ l_grid_here rs_grid_here grid_here_2 := f5_0
      have h_size := Rel.mono _ (eo5.trans x5.b) h_size
      have h_style := Rel.mono _ (eo5.trans x5.b) h_style
      have o_grid_here_2 := o_grid_here_2.step x5.up
      have h_half := Rel.mono _ (eo5.trans x5.b) h_half
      have e5 := e5.trans x5.b
      have eo5 := eo5.trans x5.b
      have w5 := w5.step x5.up (Cell.ext _ w5.c x5)
      have h_x_ := r5
      refine tgn ?_
      obtain ⟨r6, h_r6, hm⟩ := bindS hm
      obtain ⟨⟨grid_here_5, ds_4⟩, hl7, hm⟩ := bindS hm
      refine st_for (st_forO (it_range1 (ev_v h_size rfl) h_r6) w5.e w5.c hl7 (fun Bs (b : (List (List Int)) × List Int) σ B H => ∃ p7_7 : Option V, ∃ p7_10 : Option V, ∃ p7_11 : Option V, ∃ p7_12 : Option V, ∃ p7_13 : Option V, σ = [some (.ref ld), some v_size, some v_style, some (.ref l_grid_here), some v_half, some vi5, none, p7_7, none, none, p7_10, p7_11, p7_12, p7_13] ∧ Ex Bs B ∧ Ex B5 B ∧ Wd (cD ld).N B0 H0 (cD ld) b.2 B H ∧ OwnG (cD ld).N H0 B H l_grid_here rs_grid_here b.1 ∧ True) ?_ ?_ ?_ ?_)
      · rintro _ _ _ _ _ ⟨_, _, _, _, _, rfl, e, -, w, -⟩
        exact ⟨e, w.e⟩
      · intro Bs7 Hs7 x7 c7
        have o_grid_here_2 := o_grid_here_2.step x7
        exact ⟨_, _, _, _, _, rfl, .refl _, x7.b, w5.step x7 c7, o_grid_here_2, trivial⟩
      · rintro Bs7 y_ ⟨grid_here_3, ds_3⟩ b7 σ7 B7p H7p ⟨p7_7, p7_10, p7_11, p7_12, p7_13, rfl, e7, eo7, w7, f7_0, -⟩ hm vi7 B7 H7 x7 r7
        rw [M.lots_grid_l2] at hm
        have o_grid_here_3 : OwnG (cD ld).N H0 _ _ l_grid_here rs_grid_here grid_here_3 := f7_0
        have h_size := Rel.mono _ (eo7.trans x7.b) h_size
        have h_style := Rel.mono _ (eo7.trans x7.b) h_style
        have o_grid_here_3 := o_grid_here_3.step x7.up
        have h_half := Rel.mono _ (eo7.trans x7.b) h_half
        have h_x_ := Rel.mono _ (eo7.trans x7.b) h_x_
        have e5 := e5.trans (eo7.trans x7.b)
        have eo5 := eo5.trans (eo7.trans x7.b)
        have e7 := e7.trans x7.b
        have eo7 := eo7.trans x7.b
        have w7 := w7.step x7.up (Cell.ext _ w7.c x7)
        have h_y_ := r7
        refine tgn ?_
        obtain ⟨start, e_start, hm⟩ := ltS hm
        refine st_set (i := 10) (Ev.is ev_int e_start) w7 (fun v_start B8 H8 x8 w8 h_start => ?_)
        have h_size := Rel.mono _ x8.b h_size
        have h_style := Rel.mono _ x8.b h_style
        have o_grid_here_3 := o_grid_here_3.step x8
        have h_half := Rel.mono _ x8.b h_half
        have h_x_ := Rel.mono _ x8.b h_x_
        have h_y_ := Rel.mono _ x8.b h_y_
        have e5 := e5.trans x8.b
        have eo5 := eo5.trans x8.b
        have e7 := e7.trans x8.b
        have eo7 := eo7.trans x8.b
        obtain ⟨many, e_many, hm⟩ := ltS hm
        refine st_set (i := 11) (Ev.is (ev_v h_half rfl) e_many) w8 (fun v_many B9 H9 x9 w9 h_many => ?_)
        have h_size := Rel.mono _ x9.b h_size
        have h_style := Rel.mono _ x9.b h_style
        have o_grid_here_3 := o_grid_here_3.step x9
        have h_half := Rel.mono _ x9.b h_half
        have h_x_ := Rel.mono _ x9.b h_x_
        have h_y_ := Rel.mono _ x9.b h_y_
        have h_start := Rel.mono _ x9.b h_start
        have e5 := e5.trans x9.b
        have eo5 := eo5.trans x9.b
        have e7 := e7.trans x9.b
        have eo7 := eo7.trans x9.b
        obtain ⟨⟨start_2, many_2⟩, hj10, hm⟩ := bindS hm
        refine st_ifc (et_test (ev_ge (ev_v h_x_ rfl) (ev_v h_half rfl))) w9 (fun σ H => ∃ a10_10 : V, ∃ a10_11 : V, σ = [some (.ref ld), some v_size, some v_style, some (.ref l_grid_here), some v_half, some vi5, none, some vi7, none, none, some a10_10, some a10_11, p7_12, p7_13] ∧ ∃ B, Ex B9 B ∧ Wd (cD ld).N B0 H0 (cD ld) ds_3 B H ∧ qI.r B a10_10 start_2 ∧ qI.r B a10_11 many_2 ∧ OwnG (cD ld).N H0 B H l_grid_here rs_grid_here grid_here_3 ∧ True) (fun hA B10 H10 x10 w10 => ?_) (fun hA B10 H10 x10 w10 => ?_) ?_
        · have hm := ifT hj10 hA
          have ej10 := Ex.refl B9
          have h_size := Rel.mono _ x10.b h_size
          have h_style := Rel.mono _ x10.b h_style
          have o_grid_here_3 := o_grid_here_3.step x10
          have h_half := Rel.mono _ x10.b h_half
          have h_x_ := Rel.mono _ x10.b h_x_
          have h_y_ := Rel.mono _ x10.b h_y_
          have h_start := Rel.mono _ x10.b h_start
          have h_many := Rel.mono _ x10.b h_many
          have e5 := e5.trans x10.b
          have eo5 := eo5.trans x10.b
          have e7 := e7.trans x10.b
          have eo7 := eo7.trans x10.b
          have ej10 := ej10.trans x10.b
          obtain ⟨start_3, e_start_3, hm⟩ := ltS hm
          refine st_set (i := 10) (Ev.is (ev_v h_half rfl) e_start_3) w10 (fun v_start_3 B11 H11 x11 w11 h_start_3 => ?_)
          have h_size := Rel.mono _ x11.b h_size
          have h_style := Rel.mono _ x11.b h_style
          have o_grid_here_3 := o_grid_here_3.step x11
          have h_half := Rel.mono _ x11.b h_half
          have h_x_ := Rel.mono _ x11.b h_x_
          have h_y_ := Rel.mono _ x11.b h_y_
          have h_many := Rel.mono _ x11.b h_many
          have e5 := e5.trans x11.b
          have eo5 := eo5.trans x11.b
          have e7 := e7.trans x11.b
          have eo7 := eo7.trans x11.b
          have ej10 := ej10.trans x11.b
          obtain ⟨many_3, e_many_3, hm⟩ := ltS hm
          refine st_set (i := 11) (Ev.is (ev_sub (ev_v h_size rfl) (ev_v h_half rfl)) e_many_3) w11 (fun v_many_3 B12 H12 x12 w12 h_many_3 => ?_)
          have h_size := Rel.mono _ x12.b h_size
          have h_style := Rel.mono _ x12.b h_style
          have o_grid_here_3 := o_grid_here_3.step x12
          have h_half := Rel.mono _ x12.b h_half
          have h_x_ := Rel.mono _ x12.b h_x_
          have h_y_ := Rel.mono _ x12.b h_y_
          have h_start_3 := Rel.mono _ x12.b h_start_3
          have e5 := e5.trans x12.b
          have eo5 := eo5.trans x12.b
          have e7 := e7.trans x12.b
          have eo7 := eo7.trans x12.b
          have ej10 := ej10.trans x12.b
          refine st_next ?_
          have hv := Option.some.inj hm
          have hv0 : start_3 = start_2 := congrArg (fun z => z.1) hv
          have hv1 : many_3 = many_2 := congrArg (fun z => z.2) hv
          subst hv0
          subst hv1
          exact ⟨v_start_3, v_many_3, rfl, B12, ej10, w12, h_start_3, h_many_3, o_grid_here_3, trivial⟩
        · have hm := ifF hj10 hA
          have ej10 := Ex.refl B9
          have h_size := Rel.mono _ x10.b h_size
          have h_style := Rel.mono _ x10.b h_style
          have o_grid_here_3 := o_grid_here_3.step x10
          have h_half := Rel.mono _ x10.b h_half
          have h_x_ := Rel.mono _ x10.b h_x_
          have h_y_ := Rel.mono _ x10.b h_y_
          have h_start := Rel.mono _ x10.b h_start
          have h_many := Rel.mono _ x10.b h_many
          have e5 := e5.trans x10.b
          have eo5 := eo5.trans x10.b
          have e7 := e7.trans x10.b
          have eo7 := eo7.trans x10.b
          have ej10 := ej10.trans x10.b
          refine st_next ?_
          have hv := Option.some.inj hm
          have hv0 : start = start_2 := congrArg (fun z => z.1) hv
          have hv1 : many = many_2 := congrArg (fun z => z.2) hv
          subst hv0
          subst hv1
          exact ⟨v_start, v_many, rfl, B10, ej10, w10, h_start, h_many, o_grid_here_3, trivial⟩
        · rintro σ10 G10 ⟨a10_10, a10_11, rfl, Bj10, eo10, wj10, f10_0, f10_1, f10_2, -⟩
          have h_start_2 : qI.r _ a10_10 start_2 := f10_0
          have h_many_2 : qI.r _ a10_11 many_2 := f10_1
          have o_grid_here_3 : OwnG (cD ld).N H0 _ _ l_grid_here rs_grid_here grid_here_3 := f10_2
          have h_size := Rel.mono _ eo10 h_size
          have h_style := Rel.mono _ eo10 h_style
          have h_half := Rel.mono _ eo10 h_half
          have h_x_ := Rel.mono _ eo10 h_x_
          have h_y_ := Rel.mono _ eo10 h_y_
          have e5 := e5.trans eo10
          have eo5 := eo5.trans eo10
          have e7 := e7.trans eo10
          have eo7 := eo7.trans eo10
          obtain ⟨inside, e_inside, hm⟩ := ltS hm
          refine st_set (i := 12) (Ev.is (ev_andV' (ev_neI (ev_v h_y_ rfl) (ev_v h_x_ rfl)) (ev_andV' (ev_ge (ev_v h_y_ rfl) (ev_v h_start_2 rfl)) (ev_lt (ev_v h_y_ rfl) (ev_add (ev_v h_start_2 rfl) (ev_v h_many_2 rfl))))) e_inside) wj10 (fun v_inside B13 H13 x13 w13 h_inside => ?_)
          have h_size := Rel.mono _ x13.b h_size
          have h_style := Rel.mono _ x13.b h_style
          have o_grid_here_3 := o_grid_here_3.step x13
          have h_half := Rel.mono _ x13.b h_half
          have h_x_ := Rel.mono _ x13.b h_x_
          have h_y_ := Rel.mono _ x13.b h_y_
          have h_start_2 := Rel.mono _ x13.b h_start_2
          have h_many_2 := Rel.mono _ x13.b h_many_2
          have e5 := e5.trans x13.b
          have eo5 := eo5.trans x13.b
          have e7 := e7.trans x13.b
          have eo7 := eo7.trans x13.b
          obtain ⟨t14, h_t14, hm⟩ := bindS hm
          obtain ⟨follows, e_follows, hm⟩ := ltS hm
          refine st_set (i := 13) (Ev.is (ev_eqI (ev_v h_y_ rfl) (ev_add (ev_v h_start_2 rfl) (ev_mod (ev_intI (ev_add (ev_sub (ev_v h_x_ rfl) (ev_v h_start_2 rfl)) ev_int)) (ev_v h_many_2 rfl) h_t14))) e_follows) w13 (fun v_follows B15 H15 x15 w15 h_follows => ?_)
          have h_size := Rel.mono _ x15.b h_size
          have h_style := Rel.mono _ x15.b h_style
          have o_grid_here_3 := o_grid_here_3.step x15
          have h_half := Rel.mono _ x15.b h_half
          have h_x_ := Rel.mono _ x15.b h_x_
          have h_y_ := Rel.mono _ x15.b h_y_
          have h_start_2 := Rel.mono _ x15.b h_start_2
          have h_many_2 := Rel.mono _ x15.b h_many_2
          have h_inside := Rel.mono _ x15.b h_inside
          have e5 := e5.trans x15.b
          have eo5 := eo5.trans x15.b
          have e7 := e7.trans x15.b
          have eo7 := eo7.trans x15.b
          obtain ⟨⟨c20, ds21⟩, h_c20, hm⟩ := bindS hm
          refine st_if (et_and (b := c20) (s2 := ds21) (et_B (ev_v h_inside rfl)) (fun hA => by (have hk := ifT h_c20 hA; obtain ⟨⟨c18, ds19⟩, h_c18, hk⟩ := bindS hk; have hv := Prod.mk.inj (Option.some.inj hk); have hv1 := hv.1; have hv2 := hv.2; subst hv1; subst hv2; exact (et_or (b := c18) (s2 := ds19) (et_B (ev_v h_follows rfl)) (fun hA => by (have hk := ifF h_c18 hA; obtain ⟨⟨t16, ds17⟩, h_t16, hk⟩ := bindS hk; have hv := Prod.mk.inj (Option.some.inj hk); have hv1 := hv.1; have hv2 := hv.2; subst hv1; subst hv2; exact (et_test (ev_eqI (ev_calld gI rfl (ea_cons ev_int ea_nil) h_t16) ev_int)))) (fun hA => by (have hk := ifT h_c18 hA; have hv := Prod.mk.inj (Option.some.inj hk); have hv1 := hv.1; have hv2 := hv.2; subst hv1; subst hv2; exact ⟨rfl, rfl⟩))))) (fun hA => by (have hk := ifF h_c20 hA; have hv := Prod.mk.inj (Option.some.inj hk); have hv1 := hv.1; have hv2 := hv.2; subst hv1; subst hv2; exact ⟨rfl, rfl⟩))) w15 (fun hA B22 H22 x22 w22 => ?_) (fun hA B22 H22 x22 w22 => ?_)
          · have hm := ifT hm hA
            have h_size := Rel.mono _ x22.b h_size
            have h_style := Rel.mono _ x22.b h_style
            have o_grid_here_3 := o_grid_here_3.step x22
            have h_half := Rel.mono _ x22.b h_half
            have h_x_ := Rel.mono _ x22.b h_x_
            have h_y_ := Rel.mono _ x22.b h_y_
            have h_start_2 := Rel.mono _ x22.b h_start_2
            have h_many_2 := Rel.mono _ x22.b h_many_2
            have h_inside := Rel.mono _ x22.b h_inside
            have h_follows := Rel.mono _ x22.b h_follows
            have e5 := e5.trans x22.b
            have eo5 := eo5.trans x22.b
            have e7 := e7.trans x22.b
            have eo7 := eo7.trans x22.b
            obtain ⟨⟨t23, ds24⟩, h_t23, hm⟩ := bindS hm
            obtain ⟨grid_here_4, h_grid_here_4, hm⟩ := bindS hm
            refine st_gset o_grid_here_3 rfl (ev_calld gI rfl (ea_cons (ev_v h_style rfl) ea_nil) h_t23) (ev_v h_x_ rfl) (ev_v h_y_ rfl) w22 h_grid_here_4 (fun B25 H25 G25 x25 hu25 w25 o_grid_here_4 => ?_)
            have h_size := Rel.mono _ x25.b h_size
            have h_style := Rel.mono _ x25.b h_style
            have h_half := Rel.mono _ x25.b h_half
            have h_x_ := Rel.mono _ x25.b h_x_
            have h_y_ := Rel.mono _ x25.b h_y_
            have h_start_2 := Rel.mono _ x25.b h_start_2
            have h_many_2 := Rel.mono _ x25.b h_many_2
            have h_inside := Rel.mono _ x25.b h_inside
            have h_follows := Rel.mono _ x25.b h_follows
            have e5 := e5.trans x25.b
            have eo5 := eo5.trans x25.b
            have e7 := e7.trans x25.b
            have eo7 := eo7.trans x25.b
            refine st_nextT ?_
            refine st_next ?_
            have hv := Option.some.inj hm
            subst hv
            exact ⟨_, _, _, _, _, _, rfl, e7, eo7, w25, o_grid_here_4, trivial⟩
          · have hm := ifF hm hA
            have h_size := Rel.mono _ x22.b h_size
            have h_style := Rel.mono _ x22.b h_style
            have o_grid_here_3 := o_grid_here_3.step x22
            have h_half := Rel.mono _ x22.b h_half
            have h_x_ := Rel.mono _ x22.b h_x_
            have h_y_ := Rel.mono _ x22.b h_y_
            have h_start_2 := Rel.mono _ x22.b h_start_2
            have h_many_2 := Rel.mono _ x22.b h_many_2
            have h_inside := Rel.mono _ x22.b h_inside
            have h_follows := Rel.mono _ x22.b h_follows
            have e5 := e5.trans x22.b
            have eo5 := eo5.trans x22.b
            have e7 := e7.trans x22.b
            have eo7 := eo7.trans x22.b
            refine st_nextT ?_
            refine st_next ?_
            have hv := Option.some.inj hm
            subst hv
            exact ⟨_, _, _, _, _, _, rfl, e7, eo7, w22, o_grid_here_3, trivial⟩
      · rintro Bs7 σ7 Bd7 Hd7 ⟨p7_7, p7_10, p7_11, p7_12, p7_13, rfl, ed7, eo7, wd7, f7_0, -⟩
        refine nx_tz ?_
        have o_grid_here_5 : OwnG (cD ld).N H0 _ _ l_grid_here rs_grid_here grid_here_5 := f7_0
        have h_size := Rel.mono _ eo7 h_size
        have h_style := Rel.mono _ eo7 h_style
        have h_half := Rel.mono _ eo7 h_half
        have h_x_ := Rel.mono _ eo7 h_x_
        have e5 := e5.trans eo7
        have eo5 := eo5.trans eo7
        refine st_next ?_
        have hv := Option.some.inj hm
        subst hv
        exact ⟨_, _, _, _, _, _, _, rfl, e5, eo5, wd7, o_grid_here_5, trivial⟩
    · rintro Bs5 σ5 Bd5 Hd5 ⟨p5_5, p5_7, p5_10, p5_11, p5_12, p5_13, rfl, ed5, eo5, wd5, f5_0, -⟩
      refine nx_tz ?_
      have o_grid_here_6 : OwnG (cD ld).N H0 _ _ l_grid_here rs_grid_here grid_here_6 := f5_0
      have h_size := Rel.mono _ eo5 h_size
      have h_style := Rel.mono _ eo5 h_style
      have h_half := Rel.mono _ eo5 h_half
      obtain ⟨r26, h_r26, hm⟩ := bindS hm
      obtain ⟨⟨grid_here_10, ds_7⟩, hl27, hm⟩ := bindS hm
      refine st_for (st_forO (it_range1 ev_int h_r26) wd5.e wd5.c hl27 (fun Bs (b : (List (List Int)) × List Int) σ B H => ∃ p27_6 : Option V, ∃ p27_8 : Option V, ∃ p27_9 : Option V, σ = [some (.ref ld), some v_size, some v_style, some (.ref l_grid_here), some v_half, p5_5, p27_6, p5_7, p27_8, p27_9, p5_10, p5_11, p5_12, p5_13] ∧ Ex Bs B ∧ Ex Bd5 B ∧ Wd (cD ld).N B0 H0 (cD ld) b.2 B H ∧ OwnG (cD ld).N H0 B H l_grid_here rs_grid_here b.1 ∧ True) ?_ ?_ ?_ ?_)
      · rintro _ _ _ _ _ ⟨_, _, _, rfl, e, -, w, -⟩
        exact ⟨e, w.e⟩
      · intro Bs27 Hs27 x27 c27
        have o_grid_here_6 := o_grid_here_6.step x27
        exact ⟨_, _, _, rfl, .refl _, x27.b, wd5.step x27 c27, o_grid_here_6, trivial⟩
      · rintro Bs27 turn ⟨grid_here_7, ds_6⟩ b27 σ27 B27p H27p ⟨p27_6, p27_8, p27_9, rfl, e27, eo27, w27, f27_0, -⟩ hm vi27 B27 H27 x27 r27
        rw [M.lots_grid_l3] at hm
        have o_grid_here_7 : OwnG (cD ld).N H0 _ _ l_grid_here rs_grid_here grid_here_7 := f27_0
        have h_size := Rel.mono _ (eo27.trans x27.b) h_size
        have h_style := Rel.mono _ (eo27.trans x27.b) h_style
        have o_grid_here_7 := o_grid_here_7.step x27.up
        have h_half := Rel.mono _ (eo27.trans x27.b) h_half
        have e27 := e27.trans x27.b
        have eo27 := eo27.trans x27.b
        have w27 := w27.step x27.up (Cell.ext _ w27.c x27)
        have h_turn := r27
        refine tgn ?_
        obtain ⟨⟨near, ds29⟩, h_near, hm⟩ := bindS hm
        refine st_set (i := 8) (ev_calld gI rfl (ea_cons (ev_v h_half rfl) ea_nil) h_near) w27 (fun v_near B30 H30 x30 w30 h_near => ?_)
        have h_size := Rel.mono _ x30.b h_size
        have h_style := Rel.mono _ x30.b h_style
        have o_grid_here_7 := o_grid_here_7.step x30
        have h_half := Rel.mono _ x30.b h_half
        have h_turn := Rel.mono _ x30.b h_turn
        have e27 := e27.trans x30.b
        have eo27 := eo27.trans x30.b
        obtain ⟨⟨t31, ds32⟩, h_t31, hm⟩ := bindS hm
        obtain ⟨far, e_far, hm⟩ := ltS hm
        refine st_set (i := 9) (Ev.is (ev_add (ev_v h_half rfl) (ev_calld gI rfl (ea_cons (ev_sub (ev_v h_size rfl) (ev_v h_half rfl)) ea_nil) h_t31)) e_far) w30 (fun v_far B33 H33 x33 w33 h_far => ?_)
        have h_size := Rel.mono _ x33.b h_size
        have h_style := Rel.mono _ x33.b h_style
        have o_grid_here_7 := o_grid_here_7.step x33
        have h_half := Rel.mono _ x33.b h_half
        have h_turn := Rel.mono _ x33.b h_turn
        have h_near := Rel.mono _ x33.b h_near
        have e27 := e27.trans x33.b
        have eo27 := eo27.trans x33.b
        refine st_if (et_test (ev_eqI (ev_v h_turn rfl) ev_int)) w33 (fun hA B34 H34 x34 w34 => ?_) (fun hA B34 H34 x34 w34 => ?_)
        · have hm := ifT hm hA
          have h_size := Rel.mono _ x34.b h_size
          have h_style := Rel.mono _ x34.b h_style
          have o_grid_here_7 := o_grid_here_7.step x34
          have h_half := Rel.mono _ x34.b h_half
          have h_turn := Rel.mono _ x34.b h_turn
          have h_near := Rel.mono _ x34.b h_near
          have h_far := Rel.mono _ x34.b h_far
          have e27 := e27.trans x34.b
          have eo27 := eo27.trans x34.b
          obtain ⟨⟨t35, ds36⟩, h_t35, hm⟩ := bindS hm
          obtain ⟨grid_here_8, h_grid_here_8, hm⟩ := bindS hm
          refine st_gset o_grid_here_7 rfl (ev_calld gI rfl (ea_cons (ev_v h_style rfl) ea_nil) h_t35) (ev_v h_near rfl) (ev_v h_far rfl) w34 h_grid_here_8 (fun B37 H37 G37 x37 hu37 w37 o_grid_here_8 => ?_)
          have h_size := Rel.mono _ x37.b h_size
          have h_style := Rel.mono _ x37.b h_style
          have h_half := Rel.mono _ x37.b h_half
          have h_turn := Rel.mono _ x37.b h_turn
          have h_near := Rel.mono _ x37.b h_near
          have h_far := Rel.mono _ x37.b h_far
          have e27 := e27.trans x37.b
          have eo27 := eo27.trans x37.b
          refine st_nextT ?_
          refine st_next ?_
          have hv := Option.some.inj hm
          subst hv
          exact ⟨_, _, _, _, rfl, e27, eo27, w37, o_grid_here_8, trivial⟩
        · have hm := ifF hm hA
          have h_size := Rel.mono _ x34.b h_size
          have h_style := Rel.mono _ x34.b h_style
          have o_grid_here_7 := o_grid_here_7.step x34
          have h_half := Rel.mono _ x34.b h_half
          have h_turn := Rel.mono _ x34.b h_turn
          have h_near := Rel.mono _ x34.b h_near
          have h_far := Rel.mono _ x34.b h_far
          have e27 := e27.trans x34.b
          have eo27 := eo27.trans x34.b
          obtain ⟨⟨t38, ds39⟩, h_t38, hm⟩ := bindS hm
          obtain ⟨grid_here_9, h_grid_here_9, hm⟩ := bindS hm
          refine st_gset o_grid_here_7 rfl (ev_calld gI rfl (ea_cons (ev_v h_style rfl) ea_nil) h_t38) (ev_v h_far rfl) (ev_v h_near rfl) w34 h_grid_here_9 (fun B40 H40 G40 x40 hu40 w40 o_grid_here_9 => ?_)
          have h_size := Rel.mono _ x40.b h_size
          have h_style := Rel.mono _ x40.b h_style
          have h_half := Rel.mono _ x40.b h_half
          have h_turn := Rel.mono _ x40.b h_turn
          have h_near := Rel.mono _ x40.b h_near
          have h_far := Rel.mono _ x40.b h_far
          have e27 := e27.trans x40.b
          have eo27 := eo27.trans x40.b
          refine st_nextT ?_
          refine st_next ?_
          have hv := Option.some.inj hm
          subst hv
          exact ⟨_, _, _, _, rfl, e27, eo27, w40, o_grid_here_9, trivial⟩
      · rintro Bs27 σ27 Bd27 Hd27 ⟨p27_6, p27_8, p27_9, rfl, ed27, eo27, wd27, f27_0, -⟩
        refine nx_tz ?_
        have o_grid_here_10 : OwnG (cD ld).N H0 _ _ l_grid_here rs_grid_here grid_here_10 := f27_0
        have hv := Option.some.inj hm
        have hv1 := (Prod.mk.inj hv).1
        have hv2 := (Prod.mk.inj hv).2
        subst hv1
        subst hv2
        exact st_retG o_grid_here_10 rfl wd27 (fun _ _ h => h) q)
abbrev N_cross_grid : List Str := ["_law_draws_here", "_law_size", "_law_style", "_law_grid_here", "_law_pairs", "_law_k"]
theorem sc_cross_grid : FnScope N_cross_grid ["_law_draws_here", "_law_size", "_law_style"] (defScope s_cross_grid) := ⟨rfl, rfl, rfl, by decide +kernel, rfl, by decide +kernel, by decide +kernel⟩
theorem ok_cross_grid (T : Top K mg C_Table e_check_states e_forest_row) : Fn P w' K mg base 3 "_law_cross_grid" ["_law_draws_here", "_law_size", "_law_style"] [] (spd (aCons qI (aCons qI aNil)) (fun ds d => M.cross_grid ds d.1 d.2.1) pG) :=
  mkFn T.d_cross_grid sc_cross_grid (al_spd (al_cons (al_cons al_nil))) (fun _ _ _ _ _ _ us hl => match us, hl with | [_, _, _], _ => rfl) (fun f cdv A outer s H0 vs Q E hr h => by
    obtain ⟨B0, ld, vs', ds, d, r, ds', rfl, e, cc, hA, hm, q⟩ := h
    obtain ⟨size, style, ⟨⟩⟩ := d
    obtain ⟨v_size, _, rfl, h_size, ⟨v_style, _, rfl, h_style, rfl⟩⟩ := hA
    have h_size : qI.r B0 v_size size := h_size
    have h_style : qI.r B0 v_style style := h_style
    have hm : M.cross_grid ds size style = some (r, ds') := hm
    have w := wdD e cc
    unfold M.cross_grid at hm
    have sc := sc_cross_grid
    have F_empty := ok_empty (P := P) (w' := w') (base := base) T
    have F_take := ok_take (P := P) (w' := w') (base := base) T
    have F_rate := ok_rate (P := P) (w' := w') (base := base) T
    refine ⟨_, (pss_cons (ps_set (i := 3) sc.nd rfl (by first | exact .inl rfl | exact .inr rfl) (pe_fn F_empty (hr.mono (by decide)) rfl (pa_cons (pv 1) pa_nil))) (pss_cons (ps_set (i := 4) sc.nd rfl (by first | exact .inl rfl | exact .inr rfl) (pe_lst (pa_cons (pe_tup (pa_cons pe_int (pa_cons pe_int pa_nil))) (pa_cons (pe_tup (pa_cons pe_int (pa_cons pe_int pa_nil))) (pa_cons (pe_tup (pa_cons pe_int (pa_cons pe_int pa_nil))) (pa_cons (pe_tup (pa_cons pe_int (pa_cons pe_int pa_nil))) (pa_cons (pe_tup (pa_cons pe_int (pa_cons pe_int pa_nil))) (pa_cons (pe_tup (pa_cons pe_int (pa_cons pe_int pa_nil))) (pa_cons (pe_tup (pa_cons pe_int (pa_cons pe_int pa_nil))) (pa_cons (pe_tup (pa_cons pe_int (pa_cons pe_int pa_nil))) (pa_cons (pe_tup (pa_cons pe_int (pa_cons pe_int pa_nil))) (pa_cons (pe_tup (pa_cons pe_int (pa_cons pe_int pa_nil))) pa_nil)))))))))))) (pss_cons (ps_for PassesOwn.never rfl (pi_range1 (by rfl) T.b_range (pa_cons (pe_callB (kcl_len K rfl) (by rfl) T.b_len PySem.boot_len (pa_cons (pv 4) pa_nil)) pa_nil)) (pg_name (i := 5) sc.nd rfl (by first | exact .inl rfl | exact .inr rfl)) (pss_cons (ps_if (PW.pt (pw_or (pt_cmpR op_lt (pv 5) pe_int (nomark _)) (pw_or1 (pt_cmpR op_eq (pe_fn F_take (hr.mono (by decide)) rfl (pa_cons (pv 0) (pa_cons pe_int pa_nil))) pe_int (nomark _))))) (pss_cons (ps_asg (pe_fn F_rate (hr.mono (by decide)) rfl (pa_cons (pv 0) (pa_cons (pv 2) pa_nil))) (pg_sub (pe_ix (kix_list K rfl) (pv 3) (pe_ix (kix_tup K rfl) (pe_ix (kix_list K rfl) (pv 4) (pv 5) (fun _ _ => rfl)) pe_int (fun _ _ => rfl)) (fun _ _ => rfl)) (pe_ix (kix_tup K rfl) (pe_ix (kix_list K rfl) (pv 4) (pv 5) (fun _ _ => rfl)) pe_int (fun _ _ => rfl)) set_list)) pss_nil) pss_nil) pss_nil)) (Evl.pss_cut (ps_if (pt_cmpR op_eq (pv 1) pe_int (nomark _)) (pss_cons (ps_asg (pe_fn F_rate (hr.mono (by decide)) rfl (pa_cons (pv 0) (pa_cons (pv 2) pa_nil))) (pg_sub (pe_ix (kix_list K rfl) (pv 3) pe_int (fun _ _ => rfl)) pe_int set_list)) (pss_cons (ps_asg (pe_fn F_rate (hr.mono (by decide)) rfl (pa_cons (pv 0) (pa_cons (pv 2) pa_nil))) (pg_sub (pe_ix (kix_list K rfl) (pv 3) pe_int (fun _ _ => rfl)) pe_int set_list)) (pss_cons (ps_if (pt_cmpR op_eq (pe_fn F_take (hr.mono (by decide)) rfl (pa_cons (pv 0) (pa_cons pe_int pa_nil))) pe_int (nomark _)) (pss_cons (ps_asg pe_int (pg_sub (pe_ix (kix_list K rfl) (pv 3) pe_int (fun _ _ => rfl)) pe_int set_list)) pss_nil) pss_nil) pss_nil))) pss_nil) (pss_cons (ps_ret (pv 3)) pss_never))))), ?_⟩
    obtain ⟨grid_here, h_grid_here, hm⟩ := bindS hm
    refine st_setG (i := 3) (ev_call gG (ea_cons (ev_v h_size rfl) ea_nil) a_id h_grid_here) w (fun l_grid_here rs_grid_here B2 H2 x2 w2 n2 nr2 o_grid_here => ?_)
    have h_size := Rel.mono _ x2.b h_size
    have h_style := Rel.mono _ x2.b h_style
    obtain ⟨pairs, e_pairs, hm⟩ := ltS hm
    refine st_set (i := 4) (Ev.is (ev_fz (ev_lst (R := (qT K qI)) (eb_cons (ev_tup (R := qI) (eb_cons ev_int (eb_cons ev_int eb_nil)) (by show 2 ≤ 1000000; decide)) (eb_cons (ev_tup (R := qI) (eb_cons ev_int (eb_cons ev_int eb_nil)) (by show 2 ≤ 1000000; decide)) (eb_cons (ev_tup (R := qI) (eb_cons ev_int (eb_cons ev_int eb_nil)) (by show 2 ≤ 1000000; decide)) (eb_cons (ev_tup (R := qI) (eb_cons ev_int (eb_cons ev_int eb_nil)) (by show 2 ≤ 1000000; decide)) (eb_cons (ev_tup (R := qI) (eb_cons ev_int (eb_cons ev_int eb_nil)) (by show 2 ≤ 1000000; decide)) (eb_cons (ev_tup (R := qI) (eb_cons ev_int (eb_cons ev_int eb_nil)) (by show 2 ≤ 1000000; decide)) (eb_cons (ev_tup (R := qI) (eb_cons ev_int (eb_cons ev_int eb_nil)) (by show 2 ≤ 1000000; decide)) (eb_cons (ev_tup (R := qI) (eb_cons ev_int (eb_cons ev_int eb_nil)) (by show 2 ≤ 1000000; decide)) (eb_cons (ev_tup (R := qI) (eb_cons ev_int (eb_cons ev_int eb_nil)) (by show 2 ≤ 1000000; decide)) (eb_cons (ev_tup (R := qI) (eb_cons ev_int (eb_cons ev_int eb_nil)) (by show 2 ≤ 1000000; decide)) eb_nil)))))))))) (by show 10 ≤ 1000000; decide))) e_pairs) w2 (fun v_pairs B3 H3 x3 w3 h_pairs => ?_)
    have h_size := Rel.mono _ x3.b h_size
    have h_style := Rel.mono _ x3.b h_style
    have o_grid_here := o_grid_here.step x3
    obtain ⟨r4, h_r4, hm⟩ := bindS hm
    obtain ⟨⟨grid_here_4, ds_3⟩, hl5, hm⟩ := bindS hm
    refine st_for (st_forO (it_range1 (ev_lenW (ev_wI (ev_v h_pairs rfl))) h_r4) w3.e w3.c hl5 (fun Bs (b : (List (List Int)) × List Int) σ B H => ∃ p5_5 : Option V, σ = [some (.ref ld), some v_size, some v_style, some (.ref l_grid_here), some v_pairs, p5_5] ∧ Ex Bs B ∧ Ex B3 B ∧ Wd (cD ld).N B0 H0 (cD ld) b.2 B H ∧ OwnG (cD ld).N H0 B H l_grid_here rs_grid_here b.1 ∧ True) ?_ ?_ ?_ ?_)
    · rintro _ _ _ _ _ ⟨_, rfl, e, -, w, -⟩
      exact ⟨e, w.e⟩
    · intro Bs5 Hs5 x5 c5
      have o_grid_here := o_grid_here.step x5
      exact ⟨_, rfl, .refl _, x5.b, w3.step x5 c5, o_grid_here, trivial⟩
    · rintro Bs5 k_ ⟨grid_here_2, ds_2⟩ b5 σ5 B5p H5p ⟨p5_5, rfl, e5, eo5, w5, f5_0, -⟩ hm vi5 B5 H5 x5 r5
      rw [M.cross_grid_l1] at hm
      have o_grid_here_2 : OwnG (cD ld).N H0 _ _ l_grid_here rs_grid_here grid_here_2 := f5_0
      have h_size := Rel.mono _ (eo5.trans x5.b) h_size
      have h_style := Rel.mono _ (eo5.trans x5.b) h_style
      have o_grid_here_2 := o_grid_here_2.step x5.up
      have h_pairs := Rel.mono _ (eo5.trans x5.b) h_pairs
      have e5 := e5.trans x5.b
      have eo5 := eo5.trans x5.b
      have w5 := w5.step x5.up (Cell.ext _ w5.c x5)
      have h_k_ := r5
      refine tgn ?_
      obtain ⟨⟨c8, ds9⟩, h_c8, hm⟩ := bindS hm
      refine st_if (et_or (b := c8) (s2 := ds9) (et_test (ev_lt (ev_v h_k_ rfl) ev_int)) (fun hA => by (have hk := ifF h_c8 hA; obtain ⟨⟨t6, ds7⟩, h_t6, hk⟩ := bindS hk; have hv := Prod.mk.inj (Option.some.inj hk); have hv1 := hv.1; have hv2 := hv.2; subst hv1; subst hv2; exact (et_test (ev_eqI (ev_calld gI rfl (ea_cons ev_int ea_nil) h_t6) ev_int)))) (fun hA => by (have hk := ifT h_c8 hA; have hv := Prod.mk.inj (Option.some.inj hk); have hv1 := hv.1; have hv2 := hv.2; subst hv1; subst hv2; exact ⟨rfl, rfl⟩))) w5 (fun hA B10 H10 x10 w10 => ?_) (fun hA B10 H10 x10 w10 => ?_)
      · have hm := ifT hm hA
        have h_size := Rel.mono _ x10.b h_size
        have h_style := Rel.mono _ x10.b h_style
        have o_grid_here_2 := o_grid_here_2.step x10
        have h_pairs := Rel.mono _ x10.b h_pairs
        have h_k_ := Rel.mono _ x10.b h_k_
        have e5 := e5.trans x10.b
        have eo5 := eo5.trans x10.b
        obtain ⟨⟨t11, ds12⟩, h_t11, hm⟩ := bindS hm
        obtain ⟨t13, h_t13, hm⟩ := bindS hm
        obtain ⟨t14, h_t14, hm⟩ := bindS hm
        obtain ⟨t15, h_t15, hm⟩ := bindS hm
        obtain ⟨t16, h_t16, hm⟩ := bindS hm
        obtain ⟨grid_here_3, h_grid_here_3, hm⟩ := bindS hm
        refine st_gset o_grid_here_2 rfl (ev_calld gI rfl (ea_cons (ev_v h_style rfl) ea_nil) h_t11) (ev_ixT (ev_ixW (ev_wI (ev_v h_pairs rfl)) (ev_v h_k_ rfl) h_t13) ev_int h_t14) (ev_ixT (ev_ixW (ev_wI (ev_v h_pairs rfl)) (ev_v h_k_ rfl) h_t15) ev_int h_t16) w10 h_grid_here_3 (fun B17 H17 G17 x17 hu17 w17 o_grid_here_3 => ?_)
        have h_size := Rel.mono _ x17.b h_size
        have h_style := Rel.mono _ x17.b h_style
        have h_pairs := Rel.mono _ x17.b h_pairs
        have h_k_ := Rel.mono _ x17.b h_k_
        have e5 := e5.trans x17.b
        have eo5 := eo5.trans x17.b
        refine st_nextT ?_
        refine st_next ?_
        have hv := Option.some.inj hm
        subst hv
        exact ⟨_, _, rfl, e5, eo5, w17, o_grid_here_3, trivial⟩
      · have hm := ifF hm hA
        have h_size := Rel.mono _ x10.b h_size
        have h_style := Rel.mono _ x10.b h_style
        have o_grid_here_2 := o_grid_here_2.step x10
        have h_pairs := Rel.mono _ x10.b h_pairs
        have h_k_ := Rel.mono _ x10.b h_k_
        have e5 := e5.trans x10.b
        have eo5 := eo5.trans x10.b
        refine st_nextT ?_
        refine st_next ?_
        have hv := Option.some.inj hm
        subst hv
        exact ⟨_, _, rfl, e5, eo5, w10, o_grid_here_2, trivial⟩
    · rintro Bs5 σ5 Bd5 Hd5 ⟨p5_5, rfl, ed5, eo5, wd5, f5_0, -⟩
      refine nx_tz ?_
      have o_grid_here_4 : OwnG (cD ld).N H0 _ _ l_grid_here rs_grid_here grid_here_4 := f5_0
      have h_size := Rel.mono _ eo5 h_size
      have h_style := Rel.mono _ eo5 h_style
      obtain ⟨⟨grid_here_5, ds_4⟩, hj18, hm⟩ := bindS hm
      refine st_ifc (et_test (ev_eqI (ev_v h_size rfl) ev_int)) wd5 (fun σ H => σ = [some (.ref ld), some v_size, some v_style, some (.ref l_grid_here), some v_pairs, p5_5] ∧ ∃ B, Ex Bd5 B ∧ Wd (cD ld).N B0 H0 (cD ld) ds_4 B H ∧ OwnG (cD ld).N H0 B H l_grid_here rs_grid_here grid_here_5 ∧ True) (fun hA B18 H18 x18 w18 => ?_) (fun hA B18 H18 x18 w18 => ?_) ?_
      · have hm := ifT hj18 hA
        have ej18 := Ex.refl Bd5
        have h_style := Rel.mono _ x18.b h_style
        have o_grid_here_4 := o_grid_here_4.step x18
        have ej18 := ej18.trans x18.b
        obtain ⟨⟨t19, ds20⟩, h_t19, hm⟩ := bindS hm
        obtain ⟨grid_here_6, h_grid_here_6, hm⟩ := bindS hm
        refine st_gset o_grid_here_4 rfl (ev_calld gI rfl (ea_cons (ev_v h_style rfl) ea_nil) h_t19) ev_int ev_int w18 h_grid_here_6 (fun B21 H21 G21 x21 hu21 w21 o_grid_here_6 => ?_)
        have h_style := Rel.mono _ x21.b h_style
        have ej18 := ej18.trans x21.b
        obtain ⟨⟨t22, ds23⟩, h_t22, hm⟩ := bindS hm
        obtain ⟨grid_here_7, h_grid_here_7, hm⟩ := bindS hm
        refine st_gset o_grid_here_6 rfl (ev_calld gI rfl (ea_cons (ev_v h_style rfl) ea_nil) h_t22) ev_int ev_int w21 h_grid_here_7 (fun B24 H24 G24 x24 hu24 w24 o_grid_here_7 => ?_)
        have ej18 := ej18.trans x24.b
        obtain ⟨⟨t25, ds26⟩, h_t25, hm⟩ := bindS hm
        refine st_if (et_test (ev_eqI (ev_calld gI rfl (ea_cons ev_int ea_nil) h_t25) ev_int)) w24 (fun hA B27 H27 x27 w27 => ?_) (fun hA B27 H27 x27 w27 => ?_)
        · have hm := ifT hm hA
          have o_grid_here_7 := o_grid_here_7.step x27
          have ej18 := ej18.trans x27.b
          obtain ⟨grid_here_8, h_grid_here_8, hm⟩ := bindS hm
          refine st_gset o_grid_here_7 rfl ev_int ev_int ev_int w27 h_grid_here_8 (fun B28 H28 G28 x28 hu28 w28 o_grid_here_8 => ?_)
          have ej18 := ej18.trans x28.b
          refine st_nextT ?_
          refine st_next ?_
          have hv := Option.some.inj hm
          have hv0 : grid_here_8 = grid_here_5 := congrArg (fun z => z.1) hv
          have hv1 : ds26 = ds_4 := congrArg (fun z => z.2) hv
          subst hv0
          subst hv1
          exact ⟨rfl, B28, ej18, w28, o_grid_here_8, trivial⟩
        · have hm := ifF hm hA
          have o_grid_here_7 := o_grid_here_7.step x27
          have ej18 := ej18.trans x27.b
          refine st_nextT ?_
          refine st_next ?_
          have hv := Option.some.inj hm
          have hv0 : grid_here_7 = grid_here_5 := congrArg (fun z => z.1) hv
          have hv1 : ds26 = ds_4 := congrArg (fun z => z.2) hv
          subst hv0
          subst hv1
          exact ⟨rfl, B27, ej18, w27, o_grid_here_7, trivial⟩
      · have hm := ifF hj18 hA
        have ej18 := Ex.refl Bd5
        have o_grid_here_4 := o_grid_here_4.step x18
        have ej18 := ej18.trans x18.b
        refine st_next ?_
        have hv := Option.some.inj hm
        have hv0 : grid_here_4 = grid_here_5 := congrArg (fun z => z.1) hv
        have hv1 : ds_3 = ds_4 := congrArg (fun z => z.2) hv
        subst hv0
        subst hv1
        exact ⟨rfl, B18, ej18, w18, o_grid_here_4, trivial⟩
      · rintro σ18 G18 ⟨rfl, Bj18, eo18, wj18, f18_0, -⟩
        have o_grid_here_5 : OwnG (cD ld).N H0 _ _ l_grid_here rs_grid_here grid_here_5 := f18_0
        have hv := Option.some.inj hm
        have hv1 := (Prod.mk.inj hv).1
        have hv2 := (Prod.mk.inj hv).2
        subst hv1
        subst hv2
        exact st_retG o_grid_here_5 rfl wj18 (fun _ _ h => h) q)
abbrev N_ring_grid : List Str := ["_law_draws_here", "_law_size", "_law_style", "_law_thick", "_law_grid_here", "_law_x", "_law_y"]
theorem sc_ring_grid : FnScope N_ring_grid ["_law_draws_here", "_law_size", "_law_style", "_law_thick"] (defScope s_ring_grid) := ⟨rfl, rfl, rfl, by decide +kernel, rfl, by decide +kernel, by decide +kernel⟩
theorem ok_ring_grid (T : Top K mg C_Table e_check_states e_forest_row) : Fn P w' K mg base 3 "_law_ring_grid" ["_law_draws_here", "_law_size", "_law_style", "_law_thick"] [] (spd (aCons qI (aCons qI (aCons qI aNil))) (fun ds d => M.ring_grid ds d.1 d.2.1 d.2.2.1) pG) :=
  mkFn T.d_ring_grid sc_ring_grid (al_spd (al_cons (al_cons (al_cons al_nil)))) (fun _ _ _ _ _ _ us hl => match us, hl with | [_, _, _, _], _ => rfl) (fun f cdv A outer s H0 vs Q E hr h => by
    obtain ⟨B0, ld, vs', ds, d, r, ds', rfl, e, cc, hA, hm, q⟩ := h
    obtain ⟨size, style, thick, ⟨⟩⟩ := d
    obtain ⟨v_size, _, rfl, h_size, ⟨v_style, _, rfl, h_style, ⟨v_thick, _, rfl, h_thick, rfl⟩⟩⟩ := hA
    have h_size : qI.r B0 v_size size := h_size
    have h_style : qI.r B0 v_style style := h_style
    have h_thick : qI.r B0 v_thick thick := h_thick
    have hm : M.ring_grid ds size style thick = some (r, ds') := hm
    have w := wdD e cc
    unfold M.ring_grid at hm
    have sc := sc_ring_grid
    have F_empty := ok_empty (P := P) (w' := w') (base := base) T
    have F_rate := ok_rate (P := P) (w' := w') (base := base) T
    have F_take := ok_take (P := P) (w' := w') (base := base) T
    refine ⟨_, (pss_cons (ps_set (i := 4) sc.nd rfl (by first | exact .inl rfl | exact .inr rfl) (pe_fn F_empty (hr.mono (by decide)) rfl (pa_cons (pv 1) pa_nil))) (pss_cons (ps_for PassesOwn.never rfl (pi_range1 (by rfl) T.b_range (pa_cons (pv 1) pa_nil)) (pg_name (i := 5) sc.nd rfl (by first | exact .inl rfl | exact .inr rfl)) (pss_cons (ps_for PassesOwn.never rfl (pi_range1 (by rfl) T.b_range (pa_cons (pv 1) pa_nil)) (pg_name (i := 6) sc.nd rfl (by first | exact .inl rfl | exact .inr rfl)) (pss_cons (ps_if (pt_cmpR op_eq (pv 6) (pe_op op_mod (pe_callTy cl_int (by rfl) T.b_int (by decide +kernel) (pa_cons (pe_op op_add (pv 5) pe_int) pa_nil)) (pv 1)) (nomark _)) (pss_cons (ps_asg (pe_fn F_rate (hr.mono (by decide)) rfl (pa_cons (pv 0) (pa_cons (pv 2) pa_nil))) (pg_sub (pe_ix (kix_list K rfl) (pv 4) (pv 5) (fun _ _ => rfl)) (pv 6) set_list)) pss_nil) (pss_cons (ps_if (PW.pt (pw_and (pt_cmpR op_ne (pv 6) (pv 5) (nomark _)) (pw_and1 (pt_cmpR op_ge (pe_fn F_take (hr.mono (by decide)) rfl (pa_cons (pv 0) (pa_cons pe_int pa_nil))) (pe_op op_sub pe_int (pv 3)) (nomark _))))) (pss_cons (ps_asg (pe_fn F_rate (hr.mono (by decide)) rfl (pa_cons (pv 0) (pa_cons (pv 2) pa_nil))) (pg_sub (pe_ix (kix_list K rfl) (pv 4) (pv 5) (fun _ _ => rfl)) (pv 6) set_list)) pss_nil) pss_nil) pss_nil)) pss_nil)) pss_nil)) (pss_cons (ps_ret (pv 4)) pss_never))), ?_⟩
    obtain ⟨grid_here, h_grid_here, hm⟩ := bindS hm
    refine st_setG (i := 4) (ev_call gG (ea_cons (ev_v h_size rfl) ea_nil) a_id h_grid_here) w (fun l_grid_here rs_grid_here B2 H2 x2 w2 n2 nr2 o_grid_here => ?_)
    have h_size := Rel.mono _ x2.b h_size
    have h_style := Rel.mono _ x2.b h_style
    have h_thick := Rel.mono _ x2.b h_thick
    obtain ⟨r3, h_r3, hm⟩ := bindS hm
    obtain ⟨⟨grid_here_7, ds_5⟩, hl4, hm⟩ := bindS hm
    refine st_for (st_forO (it_range1 (ev_v h_size rfl) h_r3) w2.e w2.c hl4 (fun Bs (b : (List (List Int)) × List Int) σ B H => ∃ p4_5 : Option V, ∃ p4_6 : Option V, σ = [some (.ref ld), some v_size, some v_style, some v_thick, some (.ref l_grid_here), p4_5, p4_6] ∧ Ex Bs B ∧ Ex B2 B ∧ Wd (cD ld).N B0 H0 (cD ld) b.2 B H ∧ OwnG (cD ld).N H0 B H l_grid_here rs_grid_here b.1 ∧ True) ?_ ?_ ?_ ?_)
    · rintro _ _ _ _ _ ⟨_, _, rfl, e, -, w, -⟩
      exact ⟨e, w.e⟩
    · intro Bs4 Hs4 x4 c4
      have o_grid_here := o_grid_here.step x4
      exact ⟨_, _, rfl, .refl _, x4.b, w2.step x4 c4, o_grid_here, trivial⟩
    · rintro Bs4 x_ ⟨grid_here_2, ds_2⟩ b4 σ4 B4p H4p ⟨p4_5, p4_6, rfl, e4, eo4, w4, f4_0, -⟩ hm vi4 B4 H4 x4 r4
      rw [M.ring_grid_l1] at hm
      have o_grid_here_2 : OwnG (cD ld).N H0 _ _ l_grid_here rs_grid_here grid_here_2 := f4_0
      have h_size := Rel.mono _ (eo4.trans x4.b) h_size
      have h_style := Rel.mono _ (eo4.trans x4.b) h_style
      have h_thick := Rel.mono _ (eo4.trans x4.b) h_thick
      have o_grid_here_2 := o_grid_here_2.step x4.up
      have e4 := e4.trans x4.b
      have eo4 := eo4.trans x4.b
      have w4 := w4.step x4.up (Cell.ext _ w4.c x4)
      have h_x_ := r4
      refine tgn ?_
      obtain ⟨r5, h_r5, hm⟩ := bindS hm
      obtain ⟨⟨grid_here_6, ds_4⟩, hl6, hm⟩ := bindS hm
      refine st_for (st_forO (it_range1 (ev_v h_size rfl) h_r5) w4.e w4.c hl6 (fun Bs (b : (List (List Int)) × List Int) σ B H => ∃ p6_6 : Option V, σ = [some (.ref ld), some v_size, some v_style, some v_thick, some (.ref l_grid_here), some vi4, p6_6] ∧ Ex Bs B ∧ Ex B4 B ∧ Wd (cD ld).N B0 H0 (cD ld) b.2 B H ∧ OwnG (cD ld).N H0 B H l_grid_here rs_grid_here b.1 ∧ True) ?_ ?_ ?_ ?_)
      · rintro _ _ _ _ _ ⟨_, rfl, e, -, w, -⟩
        exact ⟨e, w.e⟩
      · intro Bs6 Hs6 x6 c6
        have o_grid_here_2 := o_grid_here_2.step x6
        exact ⟨_, rfl, .refl _, x6.b, w4.step x6 c6, o_grid_here_2, trivial⟩
      · rintro Bs6 y_ ⟨grid_here_3, ds_3⟩ b6 σ6 B6p H6p ⟨p6_6, rfl, e6, eo6, w6, f6_0, -⟩ hm vi6 B6 H6 x6 r6
        rw [M.ring_grid_l2] at hm
        have o_grid_here_3 : OwnG (cD ld).N H0 _ _ l_grid_here rs_grid_here grid_here_3 := f6_0
        have h_size := Rel.mono _ (eo6.trans x6.b) h_size
        have h_style := Rel.mono _ (eo6.trans x6.b) h_style
        have h_thick := Rel.mono _ (eo6.trans x6.b) h_thick
        have o_grid_here_3 := o_grid_here_3.step x6.up
        have h_x_ := Rel.mono _ (eo6.trans x6.b) h_x_
        have e4 := e4.trans (eo6.trans x6.b)
        have eo4 := eo4.trans (eo6.trans x6.b)
        have e6 := e6.trans x6.b
        have eo6 := eo6.trans x6.b
        have w6 := w6.step x6.up (Cell.ext _ w6.c x6)
        have h_y_ := r6
        refine tgn ?_
        obtain ⟨t7, h_t7, hm⟩ := bindS hm
        refine st_if (et_test (ev_eqI (ev_v h_y_ rfl) (ev_mod (ev_intI (ev_add (ev_v h_x_ rfl) ev_int)) (ev_v h_size rfl) h_t7))) w6 (fun hA B8 H8 x8 w8 => ?_) (fun hA B8 H8 x8 w8 => ?_)
        · have hm := ifT hm hA
          have h_size := Rel.mono _ x8.b h_size
          have h_style := Rel.mono _ x8.b h_style
          have h_thick := Rel.mono _ x8.b h_thick
          have o_grid_here_3 := o_grid_here_3.step x8
          have h_x_ := Rel.mono _ x8.b h_x_
          have h_y_ := Rel.mono _ x8.b h_y_
          have e4 := e4.trans x8.b
          have eo4 := eo4.trans x8.b
          have e6 := e6.trans x8.b
          have eo6 := eo6.trans x8.b
          obtain ⟨⟨t9, ds10⟩, h_t9, hm⟩ := bindS hm
          obtain ⟨grid_here_4, h_grid_here_4, hm⟩ := bindS hm
          refine st_gset o_grid_here_3 rfl (ev_calld gI rfl (ea_cons (ev_v h_style rfl) ea_nil) h_t9) (ev_v h_x_ rfl) (ev_v h_y_ rfl) w8 h_grid_here_4 (fun B11 H11 G11 x11 hu11 w11 o_grid_here_4 => ?_)
          have h_size := Rel.mono _ x11.b h_size
          have h_style := Rel.mono _ x11.b h_style
          have h_thick := Rel.mono _ x11.b h_thick
          have h_x_ := Rel.mono _ x11.b h_x_
          have h_y_ := Rel.mono _ x11.b h_y_
          have e4 := e4.trans x11.b
          have eo4 := eo4.trans x11.b
          have e6 := e6.trans x11.b
          have eo6 := eo6.trans x11.b
          refine st_nextT ?_
          refine st_next ?_
          have hv := Option.some.inj hm
          subst hv
          exact ⟨_, _, rfl, e6, eo6, w11, o_grid_here_4, trivial⟩
        · have hm := ifF hm hA
          have h_size := Rel.mono _ x8.b h_size
          have h_style := Rel.mono _ x8.b h_style
          have h_thick := Rel.mono _ x8.b h_thick
          have o_grid_here_3 := o_grid_here_3.step x8
          have h_x_ := Rel.mono _ x8.b h_x_
          have h_y_ := Rel.mono _ x8.b h_y_
          have e4 := e4.trans x8.b
          have eo4 := eo4.trans x8.b
          have e6 := e6.trans x8.b
          have eo6 := eo6.trans x8.b
          obtain ⟨⟨c14, ds15⟩, h_c14, hm⟩ := bindS hm
          refine st_if (et_and (b := c14) (s2 := ds15) (et_test (ev_neI (ev_v h_y_ rfl) (ev_v h_x_ rfl))) (fun hA => by (have hk := ifT h_c14 hA; obtain ⟨⟨t12, ds13⟩, h_t12, hk⟩ := bindS hk; have hv := Prod.mk.inj (Option.some.inj hk); have hv1 := hv.1; have hv2 := hv.2; subst hv1; subst hv2; exact (et_test (ev_ge (ev_calld gI rfl (ea_cons ev_int ea_nil) h_t12) (ev_sub ev_int (ev_v h_thick rfl)))))) (fun hA => by (have hk := ifF h_c14 hA; have hv := Prod.mk.inj (Option.some.inj hk); have hv1 := hv.1; have hv2 := hv.2; subst hv1; subst hv2; exact ⟨rfl, rfl⟩))) w8 (fun hA B16 H16 x16 w16 => ?_) (fun hA B16 H16 x16 w16 => ?_)
          · have hm := ifT hm hA
            have h_size := Rel.mono _ x16.b h_size
            have h_style := Rel.mono _ x16.b h_style
            have h_thick := Rel.mono _ x16.b h_thick
            have o_grid_here_3 := o_grid_here_3.step x16
            have h_x_ := Rel.mono _ x16.b h_x_
            have h_y_ := Rel.mono _ x16.b h_y_
            have e4 := e4.trans x16.b
            have eo4 := eo4.trans x16.b
            have e6 := e6.trans x16.b
            have eo6 := eo6.trans x16.b
            obtain ⟨⟨t17, ds18⟩, h_t17, hm⟩ := bindS hm
            obtain ⟨grid_here_5, h_grid_here_5, hm⟩ := bindS hm
            refine st_gset o_grid_here_3 rfl (ev_calld gI rfl (ea_cons (ev_v h_style rfl) ea_nil) h_t17) (ev_v h_x_ rfl) (ev_v h_y_ rfl) w16 h_grid_here_5 (fun B19 H19 G19 x19 hu19 w19 o_grid_here_5 => ?_)
            have h_size := Rel.mono _ x19.b h_size
            have h_style := Rel.mono _ x19.b h_style
            have h_thick := Rel.mono _ x19.b h_thick
            have h_x_ := Rel.mono _ x19.b h_x_
            have h_y_ := Rel.mono _ x19.b h_y_
            have e4 := e4.trans x19.b
            have eo4 := eo4.trans x19.b
            have e6 := e6.trans x19.b
            have eo6 := eo6.trans x19.b
            refine st_nextT ?_
            refine st_nextT ?_
            refine st_next ?_
            have hv := Option.some.inj hm
            subst hv
            exact ⟨_, _, rfl, e6, eo6, w19, o_grid_here_5, trivial⟩
          · have hm := ifF hm hA
            have h_size := Rel.mono _ x16.b h_size
            have h_style := Rel.mono _ x16.b h_style
            have h_thick := Rel.mono _ x16.b h_thick
            have o_grid_here_3 := o_grid_here_3.step x16
            have h_x_ := Rel.mono _ x16.b h_x_
            have h_y_ := Rel.mono _ x16.b h_y_
            have e4 := e4.trans x16.b
            have eo4 := eo4.trans x16.b
            have e6 := e6.trans x16.b
            have eo6 := eo6.trans x16.b
            refine st_nextT ?_
            refine st_nextT ?_
            refine st_next ?_
            have hv := Option.some.inj hm
            subst hv
            exact ⟨_, _, rfl, e6, eo6, w16, o_grid_here_3, trivial⟩
      · rintro Bs6 σ6 Bd6 Hd6 ⟨p6_6, rfl, ed6, eo6, wd6, f6_0, -⟩
        refine nx_tz ?_
        have o_grid_here_6 : OwnG (cD ld).N H0 _ _ l_grid_here rs_grid_here grid_here_6 := f6_0
        have h_size := Rel.mono _ eo6 h_size
        have h_style := Rel.mono _ eo6 h_style
        have h_thick := Rel.mono _ eo6 h_thick
        have h_x_ := Rel.mono _ eo6 h_x_
        have e4 := e4.trans eo6
        have eo4 := eo4.trans eo6
        refine st_next ?_
        have hv := Option.some.inj hm
        subst hv
        exact ⟨_, _, _, rfl, e4, eo4, wd6, o_grid_here_6, trivial⟩
    · rintro Bs4 σ4 Bd4 Hd4 ⟨p4_5, p4_6, rfl, ed4, eo4, wd4, f4_0, -⟩
      refine nx_tz ?_
      have o_grid_here_7 : OwnG (cD ld).N H0 _ _ l_grid_here rs_grid_here grid_here_7 := f4_0
      have hv := Option.some.inj hm
      have hv1 := (Prod.mk.inj hv).1
      have hv2 := (Prod.mk.inj hv).2
      subst hv1
      subst hv2
      exact st_retG o_grid_here_7 rfl wd4 (fun _ _ h => h) q)
abbrev N_moved_llii : List Str := ["_law_grid_here", "_law_shift", "_law_size", "_law_moved_here", "_law_x", "_law_y"]
theorem sc_moved_llii : FnScope N_moved_llii ["_law_grid_here", "_law_shift"] (defScope s_moved) := ⟨rfl, rfl, rfl, by decide +kernel, rfl, by decide +kernel, by decide +kernel⟩
theorem ok_moved_llii (T : Top K mg C_Table e_check_states e_forest_row) : Fn P w' K mg base 2 "_law_moved" ["_law_grid_here", "_law_shift"] [] (spf (aCons (qL (qL qI)) (aCons qI aNil)) (fun d => M.moved_llii d.1 d.2.1) pG) :=
  mkFn T.d_moved sc_moved_llii (al_spf (al_cons (al_cons al_nil))) (fun _ _ _ _ _ _ us hl => match us, hl with | [_, _], _ => rfl) (fun f cdv A outer s H0 vs Q E hr h => by
    obtain ⟨B0, d, r, e, hA, hm, q⟩ := h
    obtain ⟨grid_here, shift, ⟨⟩⟩ := d
    obtain ⟨v_grid_here, _, rfl, h_grid_here, ⟨v_shift, _, rfl, h_shift, rfl⟩⟩ := hA
    have h_grid_here : (qL (qL qI)).r B0 v_grid_here grid_here := h_grid_here
    have h_shift : qI.r B0 v_shift shift := h_shift
    have hm : M.moved_llii grid_here shift = some r := hm
    have w := wd0 e
    unfold M.moved_llii at hm
    have sc := sc_moved_llii
    have F_empty := ok_empty (P := P) (w' := w') (base := base) T
    refine ⟨_, (pss_cons (ps_set (i := 2) sc.nd rfl (by first | exact .inl rfl | exact .inr rfl) (pe_callB (kcl_len K rfl) (by rfl) T.b_len PySem.boot_len (pa_cons (pv 0) pa_nil))) (pss_cons (ps_set (i := 3) sc.nd rfl (by first | exact .inl rfl | exact .inr rfl) (pe_fn F_empty (hr.mono (by decide)) rfl (pa_cons (pv 2) pa_nil))) (pss_cons (ps_for PassesOwn.never rfl (pi_range1 (by rfl) T.b_range (pa_cons (pv 2) pa_nil)) (pg_name (i := 4) sc.nd rfl (by first | exact .inl rfl | exact .inr rfl)) (pss_cons (ps_for PassesOwn.never rfl (pi_range1 (by rfl) T.b_range (pa_cons (pv 2) pa_nil)) (pg_name (i := 5) sc.nd rfl (by first | exact .inl rfl | exact .inr rfl)) (pss_cons (ps_asg (pe_ix (kix_list K rfl) (pe_ix (kix_list K rfl) (pv 0) (pv 4) (fun _ _ => rfl)) (pv 5) (fun _ _ => rfl)) (pg_sub (pe_ix (kix_list K rfl) (pv 3) (pe_op op_mod (pe_callTy cl_int (by rfl) T.b_int (by decide +kernel) (pa_cons (pe_op op_add (pv 4) (pv 1)) pa_nil)) (pv 2)) (fun _ _ => rfl)) (pe_op op_mod (pe_callTy cl_int (by rfl) T.b_int (by decide +kernel) (pa_cons (pe_op op_add (pv 5) (pv 1)) pa_nil)) (pv 2)) set_list)) pss_nil)) pss_nil)) (pss_cons (ps_ret (pv 3)) pss_never)))), ?_⟩
    obtain ⟨size, e_size, hm⟩ := ltS hm
    refine st_set (i := 2) (Ev.is (ev_lenW (ev_wI (ev_v h_grid_here rfl))) e_size) w (fun v_size B1 H1 x1 w1 h_size => ?_)
    have h_grid_here := Rel.mono _ x1.b h_grid_here
    have h_shift := Rel.mono _ x1.b h_shift
    obtain ⟨moved_here, h_moved_here, hm⟩ := bindS hm
    refine st_setG (i := 3) (ev_call gG (ea_cons (ev_v h_size rfl) ea_nil) a_id h_moved_here) w1 (fun l_moved_here rs_moved_here B3 H3 x3 w3 n3 nr3 o_moved_here => ?_)
    have h_grid_here := Rel.mono _ x3.b h_grid_here
    have h_shift := Rel.mono _ x3.b h_shift
    have h_size := Rel.mono _ x3.b h_size
    obtain ⟨r4, h_r4, hm⟩ := bindS hm
    obtain ⟨moved_here_6, hl5, hm⟩ := bindS hm
    refine st_for (st_forO (it_range1 (ev_v h_size rfl) h_r4) w3.e w3.c hl5 (fun Bs (b : (List (List Int))) σ B H => ∃ p5_4 : Option V, ∃ p5_5 : Option V, σ = [some v_grid_here, some v_shift, some v_size, some (.ref l_moved_here), p5_4, p5_5] ∧ Ex Bs B ∧ Ex B3 B ∧ Wd N0 B0 H0 c0 () B H ∧ OwnG c0.N H0 B H l_moved_here rs_moved_here b ∧ True) ?_ ?_ ?_ ?_)
    · rintro _ _ _ _ _ ⟨_, _, rfl, e, -, w, -⟩
      exact ⟨e, w.e⟩
    · intro Bs5 Hs5 x5 c5
      have o_moved_here := o_moved_here.step x5
      exact ⟨_, _, rfl, .refl _, x5.b, w3.step x5 c5, o_moved_here, trivial⟩
    · rintro Bs5 x_ moved_here_2 b5 σ5 B5p H5p ⟨p5_4, p5_5, rfl, e5, eo5, w5, f5_0, -⟩ hm vi5 B5 H5 x5 r5
      rw [M.moved_llii_l1] at hm
      have o_moved_here_2 : OwnG c0.N H0 _ _ l_moved_here rs_moved_here moved_here_2 := f5_0
      have h_grid_here := Rel.mono _ (eo5.trans x5.b) h_grid_here
      have h_shift := Rel.mono _ (eo5.trans x5.b) h_shift
      have h_size := Rel.mono _ (eo5.trans x5.b) h_size
      have o_moved_here_2 := o_moved_here_2.step x5.up
      have e5 := e5.trans x5.b
      have eo5 := eo5.trans x5.b
      have w5 := w5.step x5.up (Cell.ext _ w5.c x5)
      have h_x_ := r5
      refine tgn ?_
      obtain ⟨r6, h_r6, hm⟩ := bindS hm
      obtain ⟨moved_here_5, hl7, hm⟩ := bindS hm
      refine st_for (st_forO (it_range1 (ev_v h_size rfl) h_r6) w5.e w5.c hl7 (fun Bs (b : (List (List Int))) σ B H => ∃ p7_5 : Option V, σ = [some v_grid_here, some v_shift, some v_size, some (.ref l_moved_here), some vi5, p7_5] ∧ Ex Bs B ∧ Ex B5 B ∧ Wd N0 B0 H0 c0 () B H ∧ OwnG c0.N H0 B H l_moved_here rs_moved_here b ∧ True) ?_ ?_ ?_ ?_)
      · rintro _ _ _ _ _ ⟨_, rfl, e, -, w, -⟩
        exact ⟨e, w.e⟩
      · intro Bs7 Hs7 x7 c7
        have o_moved_here_2 := o_moved_here_2.step x7
        exact ⟨_, rfl, .refl _, x7.b, w5.step x7 c7, o_moved_here_2, trivial⟩
      · rintro Bs7 y_ moved_here_3 b7 σ7 B7p H7p ⟨p7_5, rfl, e7, eo7, w7, f7_0, -⟩ hm vi7 B7 H7 x7 r7
        rw [M.moved_llii_l2] at hm
        have o_moved_here_3 : OwnG c0.N H0 _ _ l_moved_here rs_moved_here moved_here_3 := f7_0
        have h_grid_here := Rel.mono _ (eo7.trans x7.b) h_grid_here
        have h_shift := Rel.mono _ (eo7.trans x7.b) h_shift
        have h_size := Rel.mono _ (eo7.trans x7.b) h_size
        have o_moved_here_3 := o_moved_here_3.step x7.up
        have h_x_ := Rel.mono _ (eo7.trans x7.b) h_x_
        have e5 := e5.trans (eo7.trans x7.b)
        have eo5 := eo5.trans (eo7.trans x7.b)
        have e7 := e7.trans x7.b
        have eo7 := eo7.trans x7.b
        have w7 := w7.step x7.up (Cell.ext _ w7.c x7)
        have h_y_ := r7
        refine tgn ?_
        obtain ⟨t8, h_t8, hm⟩ := bindS hm
        obtain ⟨t9, h_t9, hm⟩ := bindS hm
        obtain ⟨t10, h_t10, hm⟩ := bindS hm
        obtain ⟨t11, h_t11, hm⟩ := bindS hm
        obtain ⟨moved_here_4, h_moved_here_4, hm⟩ := bindS hm
        refine st_gset o_moved_here_3 rfl (ev_ixW (ev_wI (ev_ixW (ev_wI (ev_v h_grid_here rfl)) (ev_v h_x_ rfl) h_t8)) (ev_v h_y_ rfl) h_t9) (ev_mod (ev_intI (ev_add (ev_v h_x_ rfl) (ev_v h_shift rfl))) (ev_v h_size rfl) h_t10) (ev_mod (ev_intI (ev_add (ev_v h_y_ rfl) (ev_v h_shift rfl))) (ev_v h_size rfl) h_t11) w7 h_moved_here_4 (fun B12 H12 G12 x12 hu12 w12 o_moved_here_4 => ?_)
        have h_grid_here := Rel.mono _ x12.b h_grid_here
        have h_shift := Rel.mono _ x12.b h_shift
        have h_size := Rel.mono _ x12.b h_size
        have h_x_ := Rel.mono _ x12.b h_x_
        have h_y_ := Rel.mono _ x12.b h_y_
        have e5 := e5.trans x12.b
        have eo5 := eo5.trans x12.b
        have e7 := e7.trans x12.b
        have eo7 := eo7.trans x12.b
        refine st_next ?_
        have hv := Option.some.inj hm
        subst hv
        exact ⟨_, _, rfl, e7, eo7, w12, o_moved_here_4, trivial⟩
      · rintro Bs7 σ7 Bd7 Hd7 ⟨p7_5, rfl, ed7, eo7, wd7, f7_0, -⟩
        refine nx_tz ?_
        have o_moved_here_5 : OwnG c0.N H0 _ _ l_moved_here rs_moved_here moved_here_5 := f7_0
        have h_grid_here := Rel.mono _ eo7 h_grid_here
        have h_shift := Rel.mono _ eo7 h_shift
        have h_size := Rel.mono _ eo7 h_size
        have h_x_ := Rel.mono _ eo7 h_x_
        have e5 := e5.trans eo7
        have eo5 := eo5.trans eo7
        refine st_next ?_
        have hv := Option.some.inj hm
        subst hv
        exact ⟨_, _, _, rfl, e5, eo5, wd7, o_moved_here_5, trivial⟩
    · rintro Bs5 σ5 Bd5 Hd5 ⟨p5_4, p5_5, rfl, ed5, eo5, wd5, f5_0, -⟩
      refine nx_tz ?_
      have o_moved_here_6 : OwnG c0.N H0 _ _ l_moved_here rs_moved_here moved_here_6 := f5_0
      have hv := Option.some.inj hm
      subst hv
      exact st_retG o_moved_here_6 rfl wd5 (fun _ _ _ => trivial) q)
abbrev N_grid : List Str := ["_law_draws_here", "_law_sizes", "_law_size", "_law_style", "_law_maker", "_law_thick", "_law_grid_here"]
theorem sc_grid : FnScope N_grid ["_law_draws_here"] (defScope s_grid) := ⟨rfl, rfl, rfl, by decide +kernel, rfl, by decide +kernel, by decide +kernel⟩
theorem ok_grid (T : Top K mg C_Table e_check_states e_forest_row) : Fn P w' K mg base 4 "_law_grid" ["_law_draws_here"] [] (spd aNil (fun ds d => M.grid ds ) pG) :=
  mkFn T.d_grid sc_grid (al_spd al_nil) (fun _ _ _ _ _ _ us hl => match us, hl with | [_], _ => rfl) (fun f cdv A outer s H0 vs Q E hr h => by
    obtain ⟨B0, ld, vs', ds, d, r, ds', rfl, e, cc, hA, hm, q⟩ := h
    cases hA
    have hm : M.grid ds  = some (r, ds') := hm
    have w := wdD e cc
    unfold M.grid at hm
    have sc := sc_grid
    have F_take := ok_take (P := P) (w' := w') (base := base) T
    have F_hung_grid := ok_hung_grid (P := P) (w' := w') (base := base) T
    have F_lots_grid := ok_lots_grid (P := P) (w' := w') (base := base) T
    have F_cross_grid := ok_cross_grid (P := P) (w' := w') (base := base) T
    have F_ring_grid := ok_ring_grid (P := P) (w' := w') (base := base) T
    have F_moved_llii := ok_moved_llii (P := P) (w' := w') (base := base) T
    refine ⟨_, (pss_cons (ps_set (i := 1) sc.nd rfl (by first | exact .inl rfl | exact .inr rfl) (pe_lst (pa_cons pe_int (pa_cons pe_int (pa_cons pe_int (pa_cons pe_int (pa_cons pe_int (pa_cons pe_int (pa_cons pe_int (pa_cons pe_int pa_nil)))))))))) (pss_cons (ps_set (i := 2) sc.nd rfl (by first | exact .inl rfl | exact .inr rfl) (pe_ix (kix_list K rfl) (pv 1) (pe_fn F_take (hr.mono (by decide)) rfl (pa_cons (pv 0) (pa_cons pe_int pa_nil))) (fun _ _ => rfl))) (pss_cons (ps_set (i := 3) sc.nd rfl (by first | exact .inl rfl | exact .inr rfl) (pe_fn F_take (hr.mono (by decide)) rfl (pa_cons (pv 0) (pa_cons pe_int pa_nil)))) (pss_cons (ps_set (i := 4) sc.nd rfl (by first | exact .inl rfl | exact .inr rfl) (pe_fn F_take (hr.mono (by decide)) rfl (pa_cons (pv 0) (pa_cons pe_int pa_nil)))) (pss_cons (ps_set (i := 5) sc.nd rfl (by first | exact .inl rfl | exact .inr rfl) (pe_lst (pa_cons pe_int (pa_cons pe_int (pa_cons pe_int (pa_cons pe_int (pa_cons pe_int pa_nil))))))) (Evl.pss_cut (ps_if (pt_cmpR op_eq (pv 4) pe_int (nomark _)) (pss_cons (ps_set (i := 6) sc.nd rfl (by first | exact .inl rfl | exact .inr rfl) (pe_fn F_hung_grid (hr.mono (by decide)) rfl (pa_cons (pv 0) (pa_cons (pv 2) (pa_cons (pv 3) pa_nil))))) pss_nil) (pss_cons (ps_if (pt_cmpR op_eq (pv 4) pe_int (nomark _)) (pss_cons (ps_set (i := 6) sc.nd rfl (by first | exact .inl rfl | exact .inr rfl) (pe_fn F_lots_grid (hr.mono (by decide)) rfl (pa_cons (pv 0) (pa_cons (pv 2) (pa_cons (pv 3) pa_nil))))) pss_nil) (pss_cons (ps_if (pt_cmpR op_eq (pv 4) pe_int (nomark _)) (pss_cons (ps_set (i := 6) sc.nd rfl (by first | exact .inl rfl | exact .inr rfl) (pe_fn F_cross_grid (hr.mono (by decide)) rfl (pa_cons (pv 0) (pa_cons (pe_op op_add pe_int (pe_fn F_take (hr.mono (by decide)) rfl (pa_cons (pv 0) (pa_cons pe_int pa_nil)))) (pa_cons (pv 3) pa_nil))))) pss_nil) (pss_cons (ps_set (i := 6) sc.nd rfl (by first | exact .inl rfl | exact .inr rfl) (pe_fn F_ring_grid (hr.mono (by decide)) rfl (pa_cons (pv 0) (pa_cons (pv 2) (pa_cons (pv 3) (pa_cons (pe_ix (kix_list K rfl) (pv 5) (pv 4) (fun _ _ => rfl)) pa_nil)))))) pss_nil)) pss_nil)) pss_nil)) (pss_cons (ps_ret (pe_fn F_moved_llii (hr.mono (by decide)) rfl (pa_cons (pv 6) (pa_cons (pe_fn F_take (hr.mono (by decide)) rfl (pa_cons (pv 0) (pa_cons (pe_callB (kcl_len K rfl) (by rfl) T.b_len PySem.boot_len (pa_cons (pv 6) pa_nil)) pa_nil))) pa_nil)))) pss_never))))))), ?_⟩
    obtain ⟨sizes, e_sizes, hm⟩ := ltS hm
    refine st_set (i := 1) (Ev.is (ev_fz (ev_lst (R := qI) (eb_cons ev_int (eb_cons ev_int (eb_cons ev_int (eb_cons ev_int (eb_cons ev_int (eb_cons ev_int (eb_cons ev_int (eb_cons ev_int eb_nil)))))))) (by show 8 ≤ 1000000; decide))) e_sizes) w (fun v_sizes B1 H1 x1 w1 h_sizes => ?_)
    obtain ⟨⟨t2, ds3⟩, h_t2, hm⟩ := bindS hm
    obtain ⟨size, h_size, hm⟩ := bindS hm
    refine st_set (i := 2) (ev_ixW (ev_wI (ev_v h_sizes rfl)) (ev_calld gI rfl (ea_cons ev_int ea_nil) h_t2) h_size) w1 (fun v_size B5 H5 x5 w5 h_size => ?_)
    obtain ⟨⟨style, ds7⟩, h_style, hm⟩ := bindS hm
    refine st_set (i := 3) (ev_calld gI rfl (ea_cons ev_int ea_nil) h_style) w5 (fun v_style B8 H8 x8 w8 h_style => ?_)
    have h_size := Rel.mono _ x8.b h_size
    obtain ⟨⟨maker, ds10⟩, h_maker, hm⟩ := bindS hm
    refine st_set (i := 4) (ev_calld gI rfl (ea_cons ev_int ea_nil) h_maker) w8 (fun v_maker B11 H11 x11 w11 h_maker => ?_)
    have h_size := Rel.mono _ x11.b h_size
    have h_style := Rel.mono _ x11.b h_style
    obtain ⟨thick, e_thick, hm⟩ := ltS hm
    refine st_set (i := 5) (Ev.is (ev_fz (ev_lst (R := qI) (eb_cons ev_int (eb_cons ev_int (eb_cons ev_int (eb_cons ev_int (eb_cons ev_int eb_nil))))) (by show 5 ≤ 1000000; decide))) e_thick) w11 (fun v_thick B12 H12 x12 w12 h_thick => ?_)
    have h_size := Rel.mono _ x12.b h_size
    have h_style := Rel.mono _ x12.b h_style
    have h_maker := Rel.mono _ x12.b h_maker
    obtain ⟨⟨grid_here, ds_2⟩, hj13, hm⟩ := bindS hm
    refine st_ifc (et_test (ev_eqI (ev_v h_maker rfl) ev_int)) w12 (fun σ H => ∃ a13_6 : V, σ = [some (.ref ld), some v_sizes, some v_size, some v_style, some v_maker, some v_thick, some a13_6] ∧ ∃ B, Ex B12 B ∧ Wd (cD ld).N B0 H0 (cD ld) ds_2 B H ∧ (qL (qL qI)).r B a13_6 grid_here ∧ True) (fun hA B13 H13 x13 w13 => ?_) (fun hA B13 H13 x13 w13 => ?_) ?_
    · have hm := ifT hj13 hA
      have ej13 := Ex.refl B12
      have h_size := Rel.mono _ x13.b h_size
      have h_style := Rel.mono _ x13.b h_style
      have ej13 := ej13.trans x13.b
      obtain ⟨⟨grid_here_2, ds15⟩, h_grid_here_2, hm⟩ := bindS hm
      refine st_set (i := 6) (ev_fzG (ev_calld gG rfl (ea_cons (ev_v h_size rfl) (ea_cons (ev_v h_style rfl) ea_nil)) h_grid_here_2)) w13 (fun v_grid_here_2 B16 H16 x16 w16 h_grid_here_2 => ?_)
      have ej13 := ej13.trans x16.b
      refine st_next ?_
      have hv := Option.some.inj hm
      have hv0 : grid_here_2 = grid_here := congrArg (fun z => z.1) hv
      have hv1 : ds15 = ds_2 := congrArg (fun z => z.2) hv
      subst hv0
      subst hv1
      exact ⟨v_grid_here_2, rfl, B16, ej13, w16, h_grid_here_2, trivial⟩
    · have hm := ifF hj13 hA
      have ej13 := Ex.refl B12
      have h_size := Rel.mono _ x13.b h_size
      have h_style := Rel.mono _ x13.b h_style
      have h_maker := Rel.mono _ x13.b h_maker
      have h_thick := Rel.mono _ x13.b h_thick
      have ej13 := ej13.trans x13.b
      refine st_if (et_test (ev_eqI (ev_v h_maker rfl) ev_int)) w13 (fun hA B17 H17 x17 w17 => ?_) (fun hA B17 H17 x17 w17 => ?_)
      · have hm := ifT hm hA
        have h_size := Rel.mono _ x17.b h_size
        have h_style := Rel.mono _ x17.b h_style
        have ej13 := ej13.trans x17.b
        obtain ⟨⟨grid_here_3, ds19⟩, h_grid_here_3, hm⟩ := bindS hm
        refine st_set (i := 6) (ev_fzG (ev_calld gG rfl (ea_cons (ev_v h_size rfl) (ea_cons (ev_v h_style rfl) ea_nil)) h_grid_here_3)) w17 (fun v_grid_here_3 B20 H20 x20 w20 h_grid_here_3 => ?_)
        have ej13 := ej13.trans x20.b
        refine st_nextT ?_
        refine st_next ?_
        have hv := Option.some.inj hm
        have hv0 : grid_here_3 = grid_here := congrArg (fun z => z.1) hv
        have hv1 : ds19 = ds_2 := congrArg (fun z => z.2) hv
        subst hv0
        subst hv1
        exact ⟨v_grid_here_3, rfl, B20, ej13, w20, h_grid_here_3, trivial⟩
      · have hm := ifF hm hA
        have h_size := Rel.mono _ x17.b h_size
        have h_style := Rel.mono _ x17.b h_style
        have h_maker := Rel.mono _ x17.b h_maker
        have h_thick := Rel.mono _ x17.b h_thick
        have ej13 := ej13.trans x17.b
        refine st_if (et_test (ev_eqI (ev_v h_maker rfl) ev_int)) w17 (fun hA B21 H21 x21 w21 => ?_) (fun hA B21 H21 x21 w21 => ?_)
        · have hm := ifT hm hA
          have h_style := Rel.mono _ x21.b h_style
          have ej13 := ej13.trans x21.b
          obtain ⟨⟨t22, ds23⟩, h_t22, hm⟩ := bindS hm
          obtain ⟨⟨grid_here_4, ds25⟩, h_grid_here_4, hm⟩ := bindS hm
          refine st_set (i := 6) (ev_fzG (ev_calld gG rfl (ea_cons (ev_add ev_int (ev_calld gI rfl (ea_cons ev_int ea_nil) h_t22)) (ea_cons (ev_v h_style rfl) ea_nil)) h_grid_here_4)) w21 (fun v_grid_here_4 B26 H26 x26 w26 h_grid_here_4 => ?_)
          have ej13 := ej13.trans x26.b
          refine st_nextT ?_
          refine st_nextT ?_
          refine st_next ?_
          have hv := Option.some.inj hm
          have hv0 : grid_here_4 = grid_here := congrArg (fun z => z.1) hv
          have hv1 : ds25 = ds_2 := congrArg (fun z => z.2) hv
          subst hv0
          subst hv1
          exact ⟨v_grid_here_4, rfl, B26, ej13, w26, h_grid_here_4, trivial⟩
        · have hm := ifF hm hA
          have h_size := Rel.mono _ x21.b h_size
          have h_style := Rel.mono _ x21.b h_style
          have h_maker := Rel.mono _ x21.b h_maker
          have h_thick := Rel.mono _ x21.b h_thick
          have ej13 := ej13.trans x21.b
          obtain ⟨t27, h_t27, hm⟩ := bindS hm
          obtain ⟨⟨grid_here_5, ds29⟩, h_grid_here_5, hm⟩ := bindS hm
          refine st_set (i := 6) (ev_fzG (ev_calld gG rfl (ea_cons (ev_v h_size rfl) (ea_cons (ev_v h_style rfl) (ea_cons (ev_ixW (ev_wI (ev_v h_thick rfl)) (ev_v h_maker rfl) h_t27) ea_nil))) h_grid_here_5)) w21 (fun v_grid_here_5 B30 H30 x30 w30 h_grid_here_5 => ?_)
          have ej13 := ej13.trans x30.b
          refine st_nextT ?_
          refine st_nextT ?_
          refine st_next ?_
          have hv := Option.some.inj hm
          have hv0 : grid_here_5 = grid_here := congrArg (fun z => z.1) hv
          have hv1 : ds29 = ds_2 := congrArg (fun z => z.2) hv
          subst hv0
          subst hv1
          exact ⟨v_grid_here_5, rfl, B30, ej13, w30, h_grid_here_5, trivial⟩
    · rintro σ13 G13 ⟨a13_6, rfl, Bj13, eo13, wj13, f13_0, -⟩
      have h_grid_here : (qL (qL qI)).r _ a13_6 grid_here := f13_0
      obtain ⟨⟨t31, ds32⟩, h_t31, hm⟩ := bindS hm
      obtain ⟨t33, h_t33, hm⟩ := bindS hm
      have hv := Option.some.inj hm
      have hv1 := (Prod.mk.inj hv).1
      have hv2 := (Prod.mk.inj hv).2
      subst hv1
      subst hv2
      exact st_ret gG (ev_call gG (ea_cons (ev_v h_grid_here rfl) (ea_cons (ev_calld gI rfl (ea_cons (ev_lenW (ev_wI (ev_v h_grid_here rfl))) ea_nil) h_t31) ea_nil)) a_id h_t33) wj13 (fun _ _ h => h) q)
abbrev N_loose : List Str := ["_law_draws_here", "_law_size", "_law_other", "_law_x", "_law_y"]
theorem sc_loose : FnScope N_loose ["_law_draws_here", "_law_size"] (defScope s_loose) := ⟨rfl, rfl, rfl, by decide +kernel, rfl, by decide +kernel, by decide +kernel⟩
theorem ok_loose (T : Top K mg C_Table e_check_states e_forest_row) : Fn P w' K mg base 2 "_law_loose" ["_law_draws_here", "_law_size"] [] (spd (aCons qI aNil) (fun ds d => M.loose ds d.1) pG) :=
  mkFn T.d_loose sc_loose (al_spd (al_cons al_nil)) (fun _ _ _ _ _ _ us hl => match us, hl with | [_, _], _ => rfl) (fun f cdv A outer s H0 vs Q E hr h => by
    obtain ⟨B0, ld, vs', ds, d, r, ds', rfl, e, cc, hA, hm, q⟩ := h
    obtain ⟨size, ⟨⟩⟩ := d
    obtain ⟨v_size, _, rfl, h_size, rfl⟩ := hA
    have h_size : qI.r B0 v_size size := h_size
    have hm : M.loose ds size = some (r, ds') := hm
    have w := wdD e cc
    unfold M.loose at hm
    have sc := sc_loose
    have F_empty := ok_empty (P := P) (w' := w') (base := base) T
    have F_take := ok_take (P := P) (w' := w') (base := base) T
    refine ⟨_, (pss_cons (ps_set (i := 2) sc.nd rfl (by first | exact .inl rfl | exact .inr rfl) (pe_fn F_empty (hr.mono (by decide)) rfl (pa_cons (pv 1) pa_nil))) (pss_cons (ps_for PassesOwn.never rfl (pi_range1 (by rfl) T.b_range (pa_cons (pv 1) pa_nil)) (pg_name (i := 3) sc.nd rfl (by first | exact .inl rfl | exact .inr rfl)) (pss_cons (ps_for PassesOwn.never rfl (pi_range1 (by rfl) T.b_range (pa_cons (pv 1) pa_nil)) (pg_name (i := 4) sc.nd rfl (by first | exact .inl rfl | exact .inr rfl)) (pss_cons (ps_if (pt_cmpR op_ne (pv 4) (pv 3) (nomark _)) (pss_cons (ps_asg (pe_callB (cl_max rfl) (by rfl) T.b_max (by decide +kernel) (pa_cons pe_int (pa_cons (pe_op op_sub (pe_fn F_take (hr.mono (by decide)) rfl (pa_cons (pv 0) (pa_cons pe_int pa_nil))) pe_int) pa_nil))) (pg_sub (pe_ix (kix_list K rfl) (pv 2) (pv 3) (fun _ _ => rfl)) (pv 4) set_list)) pss_nil) pss_nil) pss_nil)) pss_nil)) (pss_cons (ps_ret (pv 2)) pss_never))), ?_⟩
    obtain ⟨other, h_other, hm⟩ := bindS hm
    refine st_setG (i := 2) (ev_call gG (ea_cons (ev_v h_size rfl) ea_nil) a_id h_other) w (fun l_other rs_other B2 H2 x2 w2 n2 nr2 o_other => ?_)
    have h_size := Rel.mono _ x2.b h_size
    obtain ⟨r3, h_r3, hm⟩ := bindS hm
    obtain ⟨⟨other_6, ds_5⟩, hl4, hm⟩ := bindS hm
    refine st_for (st_forO (it_range1 (ev_v h_size rfl) h_r3) w2.e w2.c hl4 (fun Bs (b : (List (List Int)) × List Int) σ B H => ∃ p4_3 : Option V, ∃ p4_4 : Option V, σ = [some (.ref ld), some v_size, some (.ref l_other), p4_3, p4_4] ∧ Ex Bs B ∧ Ex B2 B ∧ Wd (cD ld).N B0 H0 (cD ld) b.2 B H ∧ OwnG (cD ld).N H0 B H l_other rs_other b.1 ∧ True) ?_ ?_ ?_ ?_)
    · rintro _ _ _ _ _ ⟨_, _, rfl, e, -, w, -⟩
      exact ⟨e, w.e⟩
    · intro Bs4 Hs4 x4 c4
      have o_other := o_other.step x4
      exact ⟨_, _, rfl, .refl _, x4.b, w2.step x4 c4, o_other, trivial⟩
    · rintro Bs4 x_ ⟨other_2, ds_2⟩ b4 σ4 B4p H4p ⟨p4_3, p4_4, rfl, e4, eo4, w4, f4_0, -⟩ hm vi4 B4 H4 x4 r4
      rw [M.loose_l1] at hm
      have o_other_2 : OwnG (cD ld).N H0 _ _ l_other rs_other other_2 := f4_0
      have h_size := Rel.mono _ (eo4.trans x4.b) h_size
      have o_other_2 := o_other_2.step x4.up
      have e4 := e4.trans x4.b
      have eo4 := eo4.trans x4.b
      have w4 := w4.step x4.up (Cell.ext _ w4.c x4)
      have h_x_ := r4
      refine tgn ?_
      obtain ⟨r5, h_r5, hm⟩ := bindS hm
      obtain ⟨⟨other_5, ds_4⟩, hl6, hm⟩ := bindS hm
      refine st_for (st_forO (it_range1 (ev_v h_size rfl) h_r5) w4.e w4.c hl6 (fun Bs (b : (List (List Int)) × List Int) σ B H => ∃ p6_4 : Option V, σ = [some (.ref ld), some v_size, some (.ref l_other), some vi4, p6_4] ∧ Ex Bs B ∧ Ex B4 B ∧ Wd (cD ld).N B0 H0 (cD ld) b.2 B H ∧ OwnG (cD ld).N H0 B H l_other rs_other b.1 ∧ True) ?_ ?_ ?_ ?_)
      · rintro _ _ _ _ _ ⟨_, rfl, e, -, w, -⟩
        exact ⟨e, w.e⟩
      · intro Bs6 Hs6 x6 c6
        have o_other_2 := o_other_2.step x6
        exact ⟨_, rfl, .refl _, x6.b, w4.step x6 c6, o_other_2, trivial⟩
      · rintro Bs6 y_ ⟨other_3, ds_3⟩ b6 σ6 B6p H6p ⟨p6_4, rfl, e6, eo6, w6, f6_0, -⟩ hm vi6 B6 H6 x6 r6
        rw [M.loose_l2] at hm
        have o_other_3 : OwnG (cD ld).N H0 _ _ l_other rs_other other_3 := f6_0
        have h_size := Rel.mono _ (eo6.trans x6.b) h_size
        have o_other_3 := o_other_3.step x6.up
        have h_x_ := Rel.mono _ (eo6.trans x6.b) h_x_
        have e4 := e4.trans (eo6.trans x6.b)
        have eo4 := eo4.trans (eo6.trans x6.b)
        have e6 := e6.trans x6.b
        have eo6 := eo6.trans x6.b
        have w6 := w6.step x6.up (Cell.ext _ w6.c x6)
        have h_y_ := r6
        refine tgn ?_
        refine st_if (et_test (ev_neI (ev_v h_y_ rfl) (ev_v h_x_ rfl))) w6 (fun hA B7 H7 x7 w7 => ?_) (fun hA B7 H7 x7 w7 => ?_)
        · have hm := ifT hm hA
          have h_size := Rel.mono _ x7.b h_size
          have o_other_3 := o_other_3.step x7
          have h_x_ := Rel.mono _ x7.b h_x_
          have h_y_ := Rel.mono _ x7.b h_y_
          have e4 := e4.trans x7.b
          have eo4 := eo4.trans x7.b
          have e6 := e6.trans x7.b
          have eo6 := eo6.trans x7.b
          obtain ⟨⟨t8, ds9⟩, h_t8, hm⟩ := bindS hm
          obtain ⟨other_4, h_other_4, hm⟩ := bindS hm
          refine st_gset o_other_3 rfl (ev_max ev_int (ev_sub (ev_calld gI rfl (ea_cons ev_int ea_nil) h_t8) ev_int)) (ev_v h_x_ rfl) (ev_v h_y_ rfl) w7 h_other_4 (fun B10 H10 G10 x10 hu10 w10 o_other_4 => ?_)
          have h_size := Rel.mono _ x10.b h_size
          have h_x_ := Rel.mono _ x10.b h_x_
          have h_y_ := Rel.mono _ x10.b h_y_
          have e4 := e4.trans x10.b
          have eo4 := eo4.trans x10.b
          have e6 := e6.trans x10.b
          have eo6 := eo6.trans x10.b
          refine st_nextT ?_
          refine st_next ?_
          have hv := Option.some.inj hm
          subst hv
          exact ⟨_, _, rfl, e6, eo6, w10, o_other_4, trivial⟩
        · have hm := ifF hm hA
          have h_size := Rel.mono _ x7.b h_size
          have o_other_3 := o_other_3.step x7
          have h_x_ := Rel.mono _ x7.b h_x_
          have h_y_ := Rel.mono _ x7.b h_y_
          have e4 := e4.trans x7.b
          have eo4 := eo4.trans x7.b
          have e6 := e6.trans x7.b
          have eo6 := eo6.trans x7.b
          refine st_nextT ?_
          refine st_next ?_
          have hv := Option.some.inj hm
          subst hv
          exact ⟨_, _, rfl, e6, eo6, w7, o_other_3, trivial⟩
      · rintro Bs6 σ6 Bd6 Hd6 ⟨p6_4, rfl, ed6, eo6, wd6, f6_0, -⟩
        refine nx_tz ?_
        have o_other_5 : OwnG (cD ld).N H0 _ _ l_other rs_other other_5 := f6_0
        have h_size := Rel.mono _ eo6 h_size
        have h_x_ := Rel.mono _ eo6 h_x_
        have e4 := e4.trans eo6
        have eo4 := eo4.trans eo6
        refine st_next ?_
        have hv := Option.some.inj hm
        subst hv
        exact ⟨_, _, _, rfl, e4, eo4, wd6, o_other_5, trivial⟩
    · rintro Bs4 σ4 Bd4 Hd4 ⟨p4_3, p4_4, rfl, ed4, eo4, wd4, f4_0, -⟩
      refine nx_tz ?_
      have o_other_6 : OwnG (cD ld).N H0 _ _ l_other rs_other other_6 := f4_0
      have hv := Option.some.inj hm
      have hv1 := (Prod.mk.inj hv).1
      have hv2 := (Prod.mk.inj hv).2
      subst hv1
      subst hv2
      exact st_retG o_other_6 rfl wd4 (fun _ _ h => h) q)
abbrev N_same_shape_lli : List Str := ["_law_draws_here", "_law_grid_here", "_law_other", "_law_x", "_law_y"]
theorem sc_same_shape_lli : FnScope N_same_shape_lli ["_law_draws_here", "_law_grid_here"] (defScope s_same_shape) := ⟨rfl, rfl, rfl, by decide +kernel, rfl, by decide +kernel, by decide +kernel⟩
theorem ok_same_shape_lli (T : Top K mg C_Table e_check_states e_forest_row) : Fn P w' K mg base 2 "_law_same_shape" ["_law_draws_here", "_law_grid_here"] [] (spd (aCons (qL (qL qI)) aNil) (fun ds d => M.same_shape_lli ds d.1) pG) :=
  mkFn T.d_same_shape sc_same_shape_lli (al_spd (al_cons al_nil)) (fun _ _ _ _ _ _ us hl => match us, hl with | [_, _], _ => rfl) (fun f cdv A outer s H0 vs Q E hr h => by
    obtain ⟨B0, ld, vs', ds, d, r, ds', rfl, e, cc, hA, hm, q⟩ := h
    obtain ⟨grid_here, ⟨⟩⟩ := d
    obtain ⟨v_grid_here, _, rfl, h_grid_here, rfl⟩ := hA
    have h_grid_here : (qL (qL qI)).r B0 v_grid_here grid_here := h_grid_here
    have hm : M.same_shape_lli ds grid_here = some (r, ds') := hm
    have w := wdD e cc
    unfold M.same_shape_lli at hm
    have sc := sc_same_shape_lli
    have F_empty := ok_empty (P := P) (w' := w') (base := base) T
    have F_take := ok_take (P := P) (w' := w') (base := base) T
    refine ⟨_, (pss_cons (ps_set (i := 2) sc.nd rfl (by first | exact .inl rfl | exact .inr rfl) (pe_fn F_empty (hr.mono (by decide)) rfl (pa_cons (pe_callB (kcl_len K rfl) (by rfl) T.b_len PySem.boot_len (pa_cons (pv 1) pa_nil)) pa_nil))) (pss_cons (ps_for PassesOwn.never rfl (pi_range1 (by rfl) T.b_range (pa_cons (pe_callB (kcl_len K rfl) (by rfl) T.b_len PySem.boot_len (pa_cons (pv 1) pa_nil)) pa_nil)) (pg_name (i := 3) sc.nd rfl (by first | exact .inl rfl | exact .inr rfl)) (pss_cons (ps_for PassesOwn.never rfl (pi_range1 (by rfl) T.b_range (pa_cons (pe_callB (kcl_len K rfl) (by rfl) T.b_len PySem.boot_len (pa_cons (pv 1) pa_nil)) pa_nil)) (pg_name (i := 4) sc.nd rfl (by first | exact .inl rfl | exact .inr rfl)) (pss_cons (ps_if (pt_cmpR op_gt (pe_ix (kix_list K rfl) (pe_ix (kix_list K rfl) (pv 1) (pv 3) (fun _ _ => rfl)) (pv 4) (fun _ _ => rfl)) pe_int (nomark _)) (pss_cons (ps_asg (pe_op op_add pe_int (pe_fn F_take (hr.mono (by decide)) rfl (pa_cons (pv 0) (pa_cons pe_int pa_nil)))) (pg_sub (pe_ix (kix_list K rfl) (pv 2) (pv 3) (fun _ _ => rfl)) (pv 4) set_list)) pss_nil) pss_nil) pss_nil)) pss_nil)) (pss_cons (ps_ret (pv 2)) pss_never))), ?_⟩
    obtain ⟨other, h_other, hm⟩ := bindS hm
    refine st_setG (i := 2) (ev_call gG (ea_cons (ev_lenW (ev_wI (ev_v h_grid_here rfl))) ea_nil) a_id h_other) w (fun l_other rs_other B2 H2 x2 w2 n2 nr2 o_other => ?_)
    have h_grid_here := Rel.mono _ x2.b h_grid_here
    obtain ⟨r3, h_r3, hm⟩ := bindS hm
    obtain ⟨⟨other_6, ds_5⟩, hl4, hm⟩ := bindS hm
    refine st_for (st_forO (it_range1 (ev_lenW (ev_wI (ev_v h_grid_here rfl))) h_r3) w2.e w2.c hl4 (fun Bs (b : (List (List Int)) × List Int) σ B H => ∃ p4_3 : Option V, ∃ p4_4 : Option V, σ = [some (.ref ld), some v_grid_here, some (.ref l_other), p4_3, p4_4] ∧ Ex Bs B ∧ Ex B2 B ∧ Wd (cD ld).N B0 H0 (cD ld) b.2 B H ∧ OwnG (cD ld).N H0 B H l_other rs_other b.1 ∧ True) ?_ ?_ ?_ ?_)
    · rintro _ _ _ _ _ ⟨_, _, rfl, e, -, w, -⟩
      exact ⟨e, w.e⟩
    · intro Bs4 Hs4 x4 c4
      have o_other := o_other.step x4
      exact ⟨_, _, rfl, .refl _, x4.b, w2.step x4 c4, o_other, trivial⟩
    · rintro Bs4 x_ ⟨other_2, ds_2⟩ b4 σ4 B4p H4p ⟨p4_3, p4_4, rfl, e4, eo4, w4, f4_0, -⟩ hm vi4 B4 H4 x4 r4
      rw [M.same_shape_lli_l1] at hm
      have o_other_2 : OwnG (cD ld).N H0 _ _ l_other rs_other other_2 := f4_0
      have h_grid_here := Rel.mono _ (eo4.trans x4.b) h_grid_here
      have o_other_2 := o_other_2.step x4.up
      have e4 := e4.trans x4.b
      have eo4 := eo4.trans x4.b
      have w4 := w4.step x4.up (Cell.ext _ w4.c x4)
      have h_x_ := r4
      refine tgn ?_
      obtain ⟨r5, h_r5, hm⟩ := bindS hm
      obtain ⟨⟨other_5, ds_4⟩, hl6, hm⟩ := bindS hm
      refine st_for (st_forO (it_range1 (ev_lenW (ev_wI (ev_v h_grid_here rfl))) h_r5) w4.e w4.c hl6 (fun Bs (b : (List (List Int)) × List Int) σ B H => ∃ p6_4 : Option V, σ = [some (.ref ld), some v_grid_here, some (.ref l_other), some vi4, p6_4] ∧ Ex Bs B ∧ Ex B4 B ∧ Wd (cD ld).N B0 H0 (cD ld) b.2 B H ∧ OwnG (cD ld).N H0 B H l_other rs_other b.1 ∧ True) ?_ ?_ ?_ ?_)
      · rintro _ _ _ _ _ ⟨_, rfl, e, -, w, -⟩
        exact ⟨e, w.e⟩
      · intro Bs6 Hs6 x6 c6
        have o_other_2 := o_other_2.step x6
        exact ⟨_, rfl, .refl _, x6.b, w4.step x6 c6, o_other_2, trivial⟩
      · rintro Bs6 y_ ⟨other_3, ds_3⟩ b6 σ6 B6p H6p ⟨p6_4, rfl, e6, eo6, w6, f6_0, -⟩ hm vi6 B6 H6 x6 r6
        rw [M.same_shape_lli_l2] at hm
        have o_other_3 : OwnG (cD ld).N H0 _ _ l_other rs_other other_3 := f6_0
        have h_grid_here := Rel.mono _ (eo6.trans x6.b) h_grid_here
        have o_other_3 := o_other_3.step x6.up
        have h_x_ := Rel.mono _ (eo6.trans x6.b) h_x_
        have e4 := e4.trans (eo6.trans x6.b)
        have eo4 := eo4.trans (eo6.trans x6.b)
        have e6 := e6.trans x6.b
        have eo6 := eo6.trans x6.b
        have w6 := w6.step x6.up (Cell.ext _ w6.c x6)
        have h_y_ := r6
        refine tgn ?_
        obtain ⟨t7, h_t7, hm⟩ := bindS hm
        obtain ⟨t8, h_t8, hm⟩ := bindS hm
        refine st_if (et_test (ev_gt (ev_ixW (ev_wI (ev_ixW (ev_wI (ev_v h_grid_here rfl)) (ev_v h_x_ rfl) h_t7)) (ev_v h_y_ rfl) h_t8) ev_int)) w6 (fun hA B9 H9 x9 w9 => ?_) (fun hA B9 H9 x9 w9 => ?_)
        · have hm := ifT hm hA
          have h_grid_here := Rel.mono _ x9.b h_grid_here
          have o_other_3 := o_other_3.step x9
          have h_x_ := Rel.mono _ x9.b h_x_
          have h_y_ := Rel.mono _ x9.b h_y_
          have e4 := e4.trans x9.b
          have eo4 := eo4.trans x9.b
          have e6 := e6.trans x9.b
          have eo6 := eo6.trans x9.b
          obtain ⟨⟨t10, ds11⟩, h_t10, hm⟩ := bindS hm
          obtain ⟨other_4, h_other_4, hm⟩ := bindS hm
          refine st_gset o_other_3 rfl (ev_add ev_int (ev_calld gI rfl (ea_cons ev_int ea_nil) h_t10)) (ev_v h_x_ rfl) (ev_v h_y_ rfl) w9 h_other_4 (fun B12 H12 G12 x12 hu12 w12 o_other_4 => ?_)
          have h_grid_here := Rel.mono _ x12.b h_grid_here
          have h_x_ := Rel.mono _ x12.b h_x_
          have h_y_ := Rel.mono _ x12.b h_y_
          have e4 := e4.trans x12.b
          have eo4 := eo4.trans x12.b
          have e6 := e6.trans x12.b
          have eo6 := eo6.trans x12.b
          refine st_nextT ?_
          refine st_next ?_
          have hv := Option.some.inj hm
          subst hv
          exact ⟨_, _, rfl, e6, eo6, w12, o_other_4, trivial⟩
        · have hm := ifF hm hA
          have h_grid_here := Rel.mono _ x9.b h_grid_here
          have o_other_3 := o_other_3.step x9
          have h_x_ := Rel.mono _ x9.b h_x_
          have h_y_ := Rel.mono _ x9.b h_y_
          have e4 := e4.trans x9.b
          have eo4 := eo4.trans x9.b
          have e6 := e6.trans x9.b
          have eo6 := eo6.trans x9.b
          refine st_nextT ?_
          refine st_next ?_
          have hv := Option.some.inj hm
          subst hv
          exact ⟨_, _, rfl, e6, eo6, w9, o_other_3, trivial⟩
      · rintro Bs6 σ6 Bd6 Hd6 ⟨p6_4, rfl, ed6, eo6, wd6, f6_0, -⟩
        refine nx_tz ?_
        have o_other_5 : OwnG (cD ld).N H0 _ _ l_other rs_other other_5 := f6_0
        have h_grid_here := Rel.mono _ eo6 h_grid_here
        have h_x_ := Rel.mono _ eo6 h_x_
        have e4 := e4.trans eo6
        have eo4 := eo4.trans eo6
        refine st_next ?_
        have hv := Option.some.inj hm
        subst hv
        exact ⟨_, _, _, rfl, e4, eo4, wd6, o_other_5, trivial⟩
    · rintro Bs4 σ4 Bd4 Hd4 ⟨p4_3, p4_4, rfl, ed4, eo4, wd4, f4_0, -⟩
      refine nx_tz ?_
      have o_other_6 : OwnG (cD ld).N H0 _ _ l_other rs_other other_6 := f4_0
      have hv := Option.some.inj hm
      have hv1 := (Prod.mk.inj hv).1
      have hv2 := (Prod.mk.inj hv).2
      subst hv1
      subst hv2
      exact st_retG o_other_6 rfl wd4 (fun _ _ h => h) q)
abbrev N_copy_lli : List Str := ["_law_grid_here", "_law_line"]
theorem sc_copy_lli : FnScope N_copy_lli ["_law_grid_here"] (defScope s_copy) := ⟨rfl, rfl, rfl, by decide +kernel, rfl, by decide +kernel, by decide +kernel⟩
theorem ok_copy_lli (T : Top K mg C_Table e_check_states e_forest_row) : Fn P w' K mg base 1 "_law_copy" ["_law_grid_here"] [] (spf (aCons (qL (qL qI)) aNil) (fun d => M.copy_lli d.1) (pL (qL qI))) :=
  mkFn T.d_copy sc_copy_lli (al_spf (al_cons al_nil)) (fun _ _ _ _ _ _ us hl => match us, hl with | [_], _ => rfl) (fun f cdv A outer s H0 vs Q E hr h => by
    obtain ⟨B0, d, r, e, hA, hm, q⟩ := h
    obtain ⟨grid_here, ⟨⟩⟩ := d
    obtain ⟨v_grid_here, _, rfl, h_grid_here, rfl⟩ := hA
    have h_grid_here : (qL (qL qI)).r B0 v_grid_here grid_here := h_grid_here
    have hm : M.copy_lli grid_here = some r := hm
    have w := wd0 e
    unfold M.copy_lli at hm
    have sc := sc_copy_lli
    refine ⟨_, (pss_cons (ps_ret (pe_lc (own := [("_law_line", 1)]) rfl sc.nd (kpi_list K rfl (pv 0)) (blkOk_by (own := [("_law_line", 1)]) (N := N_copy_lli) (sc := defScope s_copy) (by decide +kernel)) (fun _ _ _ _ _ => (pg_name (i := 1) sc.nd rfl (by first | exact .inl rfl | exact .inr rfl))) (fun _ _ _ _ _ => pts_nil) (fun _ _ _ _ _ => (pe_callTy (kcl_list K rfl) (by rfl) T.b_list (by decide +kernel) (pa_cons (pv 1) pa_nil))))) pss_never), ?_⟩
    obtain ⟨z2, h_z2, hm⟩ := bindS hm
    have hv := Option.some.inj hm
    subst hv
    exact st_ret gL (ev_lcS (it_list (ev_v h_grid_here rfl)) (compS_map (fun line => line) _ grid_here) (lnO_ok h_z2).1 (fun line v1_ s1_ o1_ t1_ B1_ H1_ x1_ r1_ hf1_ => by (cases hf1_; have h_grid_here := Rel.mono _ x1_.b h_grid_here; exact turn_g (fun _ _ _ _ q => q) rfl rfl (ev_fz (ev_listW (ev_wI (ev_v r1_ rfl))))))) w (fun _ _ _ => trivial) q)
abbrev N_is_int : List Str := ["thing"]
theorem sc_is_int : FnScope N_is_int ["thing"] (defScope s_is_int) := ⟨rfl, rfl, rfl, by decide +kernel, rfl, by decide +kernel, by decide +kernel⟩
theorem ok_is_int (T : Top K mg C_Table e_check_states e_forest_row) : Fn P w' K mg base 1 "is_int" ["thing"] [] (spf (aCons qI aNil) (fun d => M.is_int d.1) (pI qB)) :=
  mkFn T.d_is_int sc_is_int (al_spf (al_cons al_nil)) (fun _ _ _ _ _ _ us hl => match us, hl with | [_], _ => rfl) (fun f cdv A outer s H0 vs Q E hr h => by
    obtain ⟨B0, d, r, e, hA, hm, q⟩ := h
    obtain ⟨thing, ⟨⟩⟩ := d
    obtain ⟨v_thing, _, rfl, h_thing, rfl⟩ := hA
    have h_thing : qI.r B0 v_thing thing := h_thing
    have hm : M.is_int thing = some r := hm
    have w := wd0 e
    unfold M.is_int at hm
    have sc := sc_is_int
    refine ⟨_, (pss_cons (ps_ret (pe_and (pe_callB (kcall_isi K rfl) (by rfl) T.b_isinstance (by decide +kernel) (pa_cons (pv 0) (pa_cons (pe_bltn (v := .ty "int") (by rfl) T.b_int (by decide +kernel) rfl) pa_nil))) (pe_one (pe_not (pe_callB (kcall_isi K rfl) (by rfl) T.b_isinstance (by decide +kernel) (pa_cons (pv 0) (pa_cons (pe_bltn (v := .ty "bool") (by rfl) T.b_bool (by decide +kernel) rfl) pa_nil))))))) pss_never), ?_⟩
    have hv := Option.some.inj hm
    subst hv
    exact st_ret gI (ev_andV' (ev_isi (b := true) (ev_v h_thing rfl) (fun B H v e r => ty_I r) (by decide +kernel)) (ev_notV (ev_isi (b := false) (ev_v h_thing rfl) (fun B H v e r => ty_I r) (by decide +kernel)))) w (fun _ _ _ => trivial) q)
abbrev N_table_rows_lli : List Str := ["rows", "size", "x", "row", "y", "rate"]
theorem sc_table_rows_lli : FnScope N_table_rows_lli ["rows"] (defScope s_table_rows) := ⟨rfl, rfl, rfl, by decide +kernel, rfl, by decide +kernel, by decide +kernel⟩
theorem ok_table_rows_lli (T : Top K mg C_Table e_check_states e_forest_row) : Fn P w' K mg base 2 "table_rows" ["rows"] [] (spf (aCons (qL (qL qI)) aNil) (fun d => M.table_rows_lli d.1) (pI (qT K (qT K qI)))) :=
  mkFn T.d_table_rows sc_table_rows_lli (al_spf (al_cons al_nil)) (fun _ _ _ _ _ _ us hl => match us, hl with | [_], _ => rfl) (fun f cdv A outer s H0 vs Q E hr h => by
    obtain ⟨B0, d, r, e, hA, hm, q⟩ := h
    obtain ⟨rows, ⟨⟩⟩ := d
    obtain ⟨v_rows, _, rfl, h_rows, rfl⟩ := hA
    have h_rows : (qL (qL qI)).r B0 v_rows rows := h_rows
    have hm : M.table_rows_lli rows = some r := hm
    have w := wd0 e
    unfold M.table_rows_lli at hm
    have sc := sc_table_rows_lli
    have F_is_int := ok_is_int (P := P) (w' := w') (base := base) T
    refine ⟨_, (pss_cons (ps_if (PW.pt (pw_or (pt_not (pt_val (pe_callB (kcall_isiT K rfl) (by rfl) T.b_isinstance (by decide +kernel) (pa_cons (pv 0) (pa_cons (pe_tup (pa_cons (pe_bltn (v := .ty "list") (by rfl) T.b_list (by decide +kernel) rfl) (pa_cons (pe_bltn (v := .ty "tuple") (by rfl) T.b_tuple (by decide +kernel) rfl) pa_nil))) pa_nil))))) (pw_or1 (pt_not (pt_chain op_le op_le (pe_globI rfl T.c_LEAST_SIZE) (pe_callB (kcl_len K rfl) (by rfl) T.b_len PySem.boot_len (pa_cons (pv 0) pa_nil)) (pe_globI rfl T.c_MOST_SIZE)))))) pss_never pss_nil) (pss_cons (ps_set (i := 1) sc.nd rfl (by first | exact .inl rfl | exact .inr rfl) (pe_callB (kcl_len K rfl) (by rfl) T.b_len PySem.boot_len (pa_cons (pv 0) pa_nil))) (pss_cons (ps_for PassesOwn.never rfl (kpi_enum K rfl (by rfl) T.b_enumerate (pa_cons (pv 0) pa_nil)) (pg_tup rfl (pgs_cons (pg_name (i := 2) sc.nd rfl (by first | exact .inl rfl | exact .inr rfl)) (pgs_cons (pg_name (i := 3) sc.nd rfl (by first | exact .inl rfl | exact .inr rfl)) pgs_nil))) (pss_cons (ps_if (PW.pt (pw_or (pt_not (pt_val (pe_callB (kcall_isiT K rfl) (by rfl) T.b_isinstance (by decide +kernel) (pa_cons (pv 3) (pa_cons (pe_tup (pa_cons (pe_bltn (v := .ty "list") (by rfl) T.b_list (by decide +kernel) rfl) (pa_cons (pe_bltn (v := .ty "tuple") (by rfl) T.b_tuple (by decide +kernel) rfl) pa_nil))) pa_nil))))) (pw_or1 (pt_cmpR op_ne (pe_callB (kcl_len K rfl) (by rfl) T.b_len PySem.boot_len (pa_cons (pv 3) pa_nil)) (pv 1) (nomark _))))) pss_never pss_nil) (pss_cons (ps_for PassesOwn.never rfl (kpi_enum K rfl (by rfl) T.b_enumerate (pa_cons (pv 3) pa_nil)) (pg_tup rfl (pgs_cons (pg_name (i := 4) sc.nd rfl (by first | exact .inl rfl | exact .inr rfl)) (pgs_cons (pg_name (i := 5) sc.nd rfl (by first | exact .inl rfl | exact .inr rfl)) pgs_nil))) (pss_cons (ps_if (PW.pt (pw_or (pt_not (pt_val (pe_fn F_is_int (hr.mono (by decide)) rfl (pa_cons (pv 5) pa_nil)))) (pw_or (pt_cmpR op_lt (pv 5) pe_int (nomark _)) (pw_or1 (PW.pt (pw_and (pt_cmpR op_eq (pv 2) (pv 4) (nomark _)) (pw_and1 (pt_cmpR op_ne (pv 5) pe_int (nomark _))))))))) pss_never pss_nil) pss_nil)) pss_nil))) (pss_cons (ps_ret (pe_callTy (kcl_tuple K rfl) (by rfl) T.b_tuple (by decide +kernel) (pa_cons (pe_lc (own := [("row", 3)]) rfl sc.nd (kpi_list K rfl (pv 0)) (blkOk_by (own := [("row", 3)]) (N := N_table_rows_lli) (sc := defScope s_table_rows) (by decide +kernel)) (fun _ _ _ _ _ => (pg_name (i := 3) sc.nd rfl (by first | exact .inl rfl | exact .inr rfl))) (fun _ _ _ _ _ => pts_nil) (fun _ _ _ _ _ => (pe_callTy (kcl_tuple K rfl) (by rfl) T.b_tuple (by decide +kernel) (pa_cons (pv 3) pa_nil)))) pa_nil))) pss_never)))), ?_⟩
    refine st_if (et_or' (et_not (et_B (ev_isi2 (b1 := true) (b2 := false) (ev_v h_rows rfl) (fun B H v e r => ty_L e r) (by decide +kernel) (by decide +kernel)))) (et_not (et_test (ev_chI (g := (fun i j => decide (i ≤ j))) (g' := (fun i j => decide (i ≤ j))) ev_int (ev_lenW (ev_wI (ev_v h_rows rfl))) ev_int)))) w (fun hA B1 H1 x1 w1 => ?_) (fun hA B1 H1 x1 w1 => ?_)
    · have hm := ifT hm hA
      have h_rows := Rel.mono _ x1.b h_rows
      cases hm
    · have hm := ifF hm hA
      have h_rows := Rel.mono _ x1.b h_rows
      refine st_nextT ?_
      obtain ⟨size, e_size, hm⟩ := ltS hm
      refine st_set (i := 1) (Ev.is (ev_lenW (ev_wI (ev_v h_rows rfl))) e_size) w1 (fun v_size B2 H2 x2 w2 h_size => ?_)
      have h_rows := Rel.mono _ x2.b h_rows
      obtain ⟨⟨⟩, hl3, hm⟩ := bindS hm
      refine st_for (st_forO (it_enumL (ev_v h_rows rfl)) w2.e w2.c hl3 (fun Bs (b : Unit) σ B H => ∃ p3_2 : Option V, ∃ p3_3 : Option V, ∃ p3_4 : Option V, ∃ p3_5 : Option V, σ = [some v_rows, some v_size, p3_2, p3_3, p3_4, p3_5] ∧ Ex Bs B ∧ Ex B2 B ∧ Wd N0 B0 H0 c0 () B H ∧ True) ?_ ?_ ?_ ?_)
      · rintro _ _ _ _ _ ⟨_, _, _, _, rfl, e, -, w, -⟩
        exact ⟨e, w.e⟩
      · intro Bs3 Hs3 x3 c3
        exact ⟨_, _, _, _, rfl, .refl _, x3.b, w2.step x3 c3, trivial⟩
      · rintro Bs3 ⟨x_, row⟩ ⟨⟩ b3 σ3 B3p H3p ⟨p3_2, p3_3, p3_4, p3_5, rfl, e3, eo3, w3, -⟩ hm vi3 B3 H3 x3 r3
        rw [M.table_rows_lli_l1] at hm
        have h_rows := Rel.mono _ (eo3.trans x3.b) h_rows
        have h_size := Rel.mono _ (eo3.trans x3.b) h_size
        have e3 := e3.trans x3.b
        have eo3 := eo3.trans x3.b
        have w3 := w3.step x3.up (Cell.ext _ w3.c x3)
        obtain ⟨va3, vb3, h_x_, h_row, tg3⟩ := tg_P (i := 2) (j := 3) r3
        refine tg3 _ _ _ (.refl _) x3.bh _ ?_
        refine st_if (et_or' (et_not (et_B (ev_isi2 (b1 := true) (b2 := false) (ev_v h_row rfl) (fun B H v e r => ty_L e r) (by decide +kernel) (by decide +kernel)))) (et_test (ev_neI (ev_lenW (ev_wI (ev_v h_row rfl))) (ev_v h_size rfl)))) w3 (fun hA B4 H4 x4 w4 => ?_) (fun hA B4 H4 x4 w4 => ?_)
        · have hm := ifT hm hA
          have h_rows := Rel.mono _ x4.b h_rows
          have h_size := Rel.mono _ x4.b h_size
          have h_x_ := Rel.mono _ x4.b h_x_
          have h_row := Rel.mono _ x4.b h_row
          have e3 := e3.trans x4.b
          have eo3 := eo3.trans x4.b
          cases hm
        · have hm := ifF hm hA
          have h_rows := Rel.mono _ x4.b h_rows
          have h_size := Rel.mono _ x4.b h_size
          have h_x_ := Rel.mono _ x4.b h_x_
          have h_row := Rel.mono _ x4.b h_row
          have e3 := e3.trans x4.b
          have eo3 := eo3.trans x4.b
          refine st_nextT ?_
          obtain ⟨⟨⟩, hl5, hm⟩ := bindS hm
          refine st_for (st_forO (it_enumL (ev_v h_row rfl)) w4.e w4.c hl5 (fun Bs (b : Unit) σ B H => ∃ p5_4 : Option V, ∃ p5_5 : Option V, σ = [some v_rows, some v_size, some va3, some vb3, p5_4, p5_5] ∧ Ex Bs B ∧ Ex B4 B ∧ Wd N0 B0 H0 c0 () B H ∧ True) ?_ ?_ ?_ ?_)
          · rintro _ _ _ _ _ ⟨_, _, rfl, e, -, w, -⟩
            exact ⟨e, w.e⟩
          · intro Bs5 Hs5 x5 c5
            exact ⟨_, _, rfl, .refl _, x5.b, w4.step x5 c5, trivial⟩
          · rintro Bs5 ⟨y_, rate⟩ ⟨⟩ b5 σ5 B5p H5p ⟨p5_4, p5_5, rfl, e5, eo5, w5, -⟩ hm vi5 B5 H5 x5 r5
            rw [M.table_rows_lli_l2] at hm
            have h_rows := Rel.mono _ (eo5.trans x5.b) h_rows
            have h_size := Rel.mono _ (eo5.trans x5.b) h_size
            have h_x_ := Rel.mono _ (eo5.trans x5.b) h_x_
            have h_row := Rel.mono _ (eo5.trans x5.b) h_row
            have e3 := e3.trans (eo5.trans x5.b)
            have eo3 := eo3.trans (eo5.trans x5.b)
            have e5 := e5.trans x5.b
            have eo5 := eo5.trans x5.b
            have w5 := w5.step x5.up (Cell.ext _ w5.c x5)
            obtain ⟨va5, vb5, h_y_, h_rate, tg5⟩ := tg_P (i := 4) (j := 5) r5
            refine tg5 _ _ _ (.refl _) x5.bh _ ?_
            obtain ⟨t6, h_t6, hm⟩ := bindS hm
            refine st_if (et_or' (et_not (et_B (ev_call gI (ea_cons (ev_v h_rate rfl) ea_nil) a_id h_t6))) (et_or' (et_test (ev_lt (ev_v h_rate rfl) ev_int)) (et_and' (et_test (ev_eqI (ev_v h_x_ rfl) (ev_v h_y_ rfl))) (et_test (ev_neI (ev_v h_rate rfl) ev_int))))) w5 (fun hA B7 H7 x7 w7 => ?_) (fun hA B7 H7 x7 w7 => ?_)
            · have hm := ifT hm hA
              have h_rows := Rel.mono _ x7.b h_rows
              have h_size := Rel.mono _ x7.b h_size
              have h_x_ := Rel.mono _ x7.b h_x_
              have h_row := Rel.mono _ x7.b h_row
              have h_y_ := Rel.mono _ x7.b h_y_
              have h_rate := Rel.mono _ x7.b h_rate
              have e3 := e3.trans x7.b
              have eo3 := eo3.trans x7.b
              have e5 := e5.trans x7.b
              have eo5 := eo5.trans x7.b
              cases hm
            · have hm := ifF hm hA
              have h_rows := Rel.mono _ x7.b h_rows
              have h_size := Rel.mono _ x7.b h_size
              have h_x_ := Rel.mono _ x7.b h_x_
              have h_row := Rel.mono _ x7.b h_row
              have h_y_ := Rel.mono _ x7.b h_y_
              have h_rate := Rel.mono _ x7.b h_rate
              have e3 := e3.trans x7.b
              have eo3 := eo3.trans x7.b
              have e5 := e5.trans x7.b
              have eo5 := eo5.trans x7.b
              refine st_nextT ?_
              refine st_next ?_
              have hv := Option.some.inj hm
              subst hv
              exact ⟨_, _, _, rfl, e5, eo5, w7, trivial⟩
          · rintro Bs5 σ5 Bd5 Hd5 ⟨p5_4, p5_5, rfl, ed5, eo5, wd5, -⟩
            refine nx_tz ?_
            have h_rows := Rel.mono _ eo5 h_rows
            have h_size := Rel.mono _ eo5 h_size
            have h_x_ := Rel.mono _ eo5 h_x_
            have h_row := Rel.mono _ eo5 h_row
            have e3 := e3.trans eo5
            have eo3 := eo3.trans eo5
            refine st_next ?_
            have hv := Option.some.inj hm
            subst hv
            exact ⟨_, _, _, _, _, rfl, e3, eo3, wd5, trivial⟩
      · rintro Bs3 σ3 Bd3 Hd3 ⟨p3_2, p3_3, p3_4, p3_5, rfl, ed3, eo3, wd3, -⟩
        refine nx_tz ?_
        have h_rows := Rel.mono _ eo3 h_rows
        obtain ⟨z9, h_z9, hm⟩ := bindS hm
        have hv := Option.some.inj hm
        subst hv
        exact st_ret gI (ev_tupleW (ev_wL (ev_lcS (it_list (ev_v h_rows rfl)) (compS_map (fun row => row) _ rows) (lnO_ok h_z9).1 (fun row v8_ s8_ o8_ t8_ B8_ H8_ x8_ r8_ hf8_ => by (cases hf8_; have h_rows := Rel.mono _ x8_.b h_rows; exact turn_g (fun _ _ _ _ q => q) rfl rfl (ev_tupleW (ev_wI (ev_v r8_ rfl)))))))) wd3 (fun _ _ _ => trivial) q)
abbrev N_arrows_of_tti : List Str := ["rows", "size", "x", "y"]
theorem sc_arrows_of_tti : FnScope N_arrows_of_tti ["rows"] (defScope s_arrows_of) := ⟨rfl, rfl, rfl, by decide +kernel, rfl, by decide +kernel, by decide +kernel⟩
theorem ok_arrows_of_tti (T : Top K mg C_Table e_check_states e_forest_row) : Fn P w' K mg base 1 "arrows_of" ["rows"] [] (spf (aCons (qT K (qT K qI)) aNil) (fun d => M.arrows_of_tti d.1) (pI (qT K (qT K qI)))) :=
  mkFn T.d_arrows_of sc_arrows_of_tti (al_spf (al_cons al_nil)) (fun _ _ _ _ _ _ us hl => match us, hl with | [_], _ => rfl) (fun f cdv A outer s H0 vs Q E hr h => by
    obtain ⟨B0, d, r, e, hA, hm, q⟩ := h
    obtain ⟨rows, ⟨⟩⟩ := d
    obtain ⟨v_rows, _, rfl, h_rows, rfl⟩ := hA
    have h_rows : (qT K (qT K qI)).r B0 v_rows rows := h_rows
    have hm : M.arrows_of_tti rows = some r := hm
    have w := wd0 e
    unfold M.arrows_of_tti at hm
    have sc := sc_arrows_of_tti
    refine ⟨_, (pss_cons (ps_set (i := 1) sc.nd rfl (by first | exact .inl rfl | exact .inr rfl) (pe_callB (kcl_len K rfl) (by rfl) T.b_len PySem.boot_len (pa_cons (pv 0) pa_nil))) (pss_cons (ps_ret (pe_callTy (kcl_tuple K rfl) (by rfl) T.b_tuple (by decide +kernel) (pa_cons (pe_lc2 (own := [("x", 2), ("y", 3)]) (vs1 := [3]) rfl sc.nd (pi_range1 (by rfl) T.b_range (pa_cons (pv 1) pa_nil)) (blkOk_by (own := [("x", 2), ("y", 3)]) (N := N_arrows_of_tti) (sc := defScope s_arrows_of) (by decide +kernel)) (by decide) (fun _ _ _ _ _ => (pg_name (i := 2) sc.nd rfl (by first | exact .inl rfl | exact .inr rfl))) (fun _ _ _ _ _ => pts_nil) (fun _ _ _ _ _ => (pi_range1 (by rfl) T.b_range (pa_cons (pv 1) pa_nil))) (fun _ _ _ _ _ => (pg_name (i := 3) sc.nd rfl (by first | exact .inl rfl | exact .inr rfl))) (fun _ _ _ _ _ => (pts_one (pt_cmpR op_gt (pe_ix (kix_tup K rfl) (pe_ix (kix_tup K rfl) (pv 0) (pv 2) (fun _ _ => rfl)) (pv 3) (fun _ _ => rfl)) pe_int (nomark _)))) (fun _ _ _ _ _ => (pe_tup (pa_cons (pv 2) (pa_cons (pv 3) pa_nil))))) pa_nil))) pss_never)), ?_⟩
    obtain ⟨size, e_size, hm⟩ := ltS hm
    refine st_set (i := 1) (Ev.is (ev_lenT (ev_v h_rows rfl)) e_size) w (fun v_size B1 H1 x1 w1 h_size => ?_)
    have h_rows := Rel.mono _ x1.b h_rows
    obtain ⟨r2, h_r2, hm⟩ := bindS hm
    obtain ⟨z10, h_z10, hm⟩ := bindS hm
    obtain ⟨t11, h_t11, hm⟩ := bindS hm
    have hv := Option.some.inj hm
    subst hv
    exact st_ret gI (ev_tupleW (ev_wL (ev_lc2 (it_range1 (ev_v h_size rfl) h_r2) (catS_catO h_t11) (lnO_ok h_z10).1 (fun x_ v3_ s3_ o3_ t3_ B3_ H3_ x3_ r3_ hf3_ => by (obtain ⟨y3_, hy3_, hf3_⟩ := bindS hf3_; cases hf3_; have h_rows := Rel.mono _ x3_.b h_rows; have h_size := Rel.mono _ x3_.b h_size; obtain ⟨r4, h_r4, hy3_⟩ := bindS hy3_; obtain ⟨z5, h_z5, hy3_⟩ := bindS hy3_; obtain ⟨t9, h_t9, hy3_⟩ := bindS hy3_; cases hy3_; exact ⟨_, _, _, (fun _ _ _ _ q => q), rfl, _, _, _, (it_range1 (ev_v h_size rfl) h_r4), compS_filtO h_t9, (lnO_ok h_z5).1, (fun y_ v6_ s6_ o6_ t6_ B6_ H6_ x6_ eb6_ r6_ hf6_ => by (obtain ⟨y6_, hy6_, hf6_⟩ := bindS hf6_; cases hf6_; have h_rows := Rel.mono _ eb6_ h_rows; have h_size := Rel.mono _ eb6_ h_size; have r3_ := Rel.mono _ eb6_ r3_; obtain ⟨t7, h_t7, hy6_⟩ := bindS hy6_; obtain ⟨t8, h_t8, hy6_⟩ := bindS hy6_; exact turn_t (fun _ _ _ _ q => q) rfl (et_test (ev_gt (ev_ixT (ev_ixT (ev_v h_rows rfl) (ev_v r3_ rfl) h_t7) (ev_v r6_ rfl) h_t8) ev_int)) (fun hA => by (have hk := ifT hy6_ hA; cases hk; exact ⟨_, rfl, (ev_tup (R := qI) (eb_cons (ev_v r3_ rfl) (eb_cons (ev_v r6_ rfl) eb_nil)) (by show 2 ≤ 1000000; decide))⟩)) (fun hA => by (have hk := ifF hy6_ hA; cases hk; exact ⟨rfl, rfl⟩))))⟩))))) w1 (fun _ _ _ => trivial) q)
theorem ok_mk_Table_lli (T : Top K mg C_Table e_check_states e_forest_row) : Mkd P w' K mg base 3 "Table" C_Table ["self", "rows"] (spI K C_Table (qL (qL qI)) (mkTab M.table_rows_lli M.arrows_of_tti)) := by
  obtain ⟨f, fd, hm, M, F⟩ := T.m_Table
  exact ⟨f, fd, hm, M, F.binds fun _ _ _ _ _ _ us hl => match us, hl with | [_, _], _ => rfl, init_tab T.cl_Table T.n_Table_rows T.n_Table_size T.n_Table_arrows (fnUp (by decide) (ok_table_rows_lli (P := P) (w' := w') (base := base) T)) (fnUp (by decide) (ok_arrows_of_tti (P := P) (w' := w') (base := base) T)) F T.b_len rfl (more := []) rfl⟩
abbrev N_pair : List Str := ["_law_draws_here", "_law_size", "_law_x"]
theorem sc_pair : FnScope N_pair ["_law_draws_here", "_law_size"] (defScope s_pair) := ⟨rfl, rfl, rfl, by decide +kernel, rfl, by decide +kernel, by decide +kernel⟩
theorem ok_pair (T : Top K mg C_Table e_check_states e_forest_row) : Fn P w' K mg base 2 "_law_pair" ["_law_draws_here", "_law_size"] [] (spd (aCons qI aNil) (fun ds d => M.pair ds d.1) (pI (qT K qI))) :=
  mkFn T.d_pair sc_pair (al_spd (al_cons al_nil)) (fun _ _ _ _ _ _ us hl => match us, hl with | [_, _], _ => rfl) (fun f cdv A outer s H0 vs Q E hr h => by
    obtain ⟨B0, ld, vs', ds, d, r, ds', rfl, e, cc, hA, hm, q⟩ := h
    obtain ⟨size, ⟨⟩⟩ := d
    obtain ⟨v_size, _, rfl, h_size, rfl⟩ := hA
    have h_size : qI.r B0 v_size size := h_size
    have hm : M.pair ds size = some (r, ds') := hm
    have w := wdD e cc
    unfold M.pair at hm
    have sc := sc_pair
    have F_take := ok_take (P := P) (w' := w') (base := base) T
    refine ⟨_, (pss_cons (ps_set (i := 2) sc.nd rfl (by first | exact .inl rfl | exact .inr rfl) (pe_fn F_take (hr.mono (by decide)) rfl (pa_cons (pv 0) (pa_cons (pv 1) pa_nil)))) (pss_cons (ps_ret (pe_tup (pa_cons (pv 2) (pa_cons (pe_op op_mod (pe_callTy cl_int (by rfl) T.b_int (by decide +kernel) (pa_cons (pe_op op_add (pe_op op_add (pv 2) pe_int) (pe_fn F_take (hr.mono (by decide)) rfl (pa_cons (pv 0) (pa_cons (pe_op op_sub (pv 1) pe_int) pa_nil)))) pa_nil)) (pv 1)) pa_nil)))) pss_never)), ?_⟩
    obtain ⟨⟨x_, ds2⟩, h_x_, hm⟩ := bindS hm
    refine st_set (i := 2) (ev_calld gI rfl (ea_cons (ev_v h_size rfl) ea_nil) h_x_) w (fun v_x_ B3 H3 x3 w3 h_x_ => ?_)
    have h_size := Rel.mono _ x3.b h_size
    obtain ⟨⟨t4, ds5⟩, h_t4, hm⟩ := bindS hm
    obtain ⟨t6, h_t6, hm⟩ := bindS hm
    have hv := Option.some.inj hm
    have hv1 := (Prod.mk.inj hv).1
    have hv2 := (Prod.mk.inj hv).2
    subst hv1
    subst hv2
    exact st_ret gI (ev_tup (R := qI) (eb_cons (ev_v h_x_ rfl) (eb_cons (ev_mod (ev_intI (ev_add (ev_add (ev_v h_x_ rfl) ev_int) (ev_calld gI rfl (ea_cons (ev_sub (ev_v h_size rfl) ev_int) ea_nil) h_t4))) (ev_v h_size rfl) h_t6) eb_nil)) (by show 2 ≤ 1000000; decide)) w3 (fun _ _ h => h) q)
abbrev N_lead_lii : List Str := ["_law_heads", "_law_x", "_law_at", "_law_step"]
theorem sc_lead_lii : FnScope N_lead_lii ["_law_heads", "_law_x"] (defScope s_lead) := ⟨rfl, rfl, rfl, by decide +kernel, rfl, by decide +kernel, by decide +kernel⟩
theorem ok_lead_lii (T : Top K mg C_Table e_check_states e_forest_row) : Fn P w' K mg base 1 "_law_lead" ["_law_heads", "_law_x"] [] (spf (aCons (qL qI) (aCons qI aNil)) (fun d => M.lead_lii d.1 d.2.1) (pI qI)) :=
  mkFn T.d_lead sc_lead_lii (al_spf (al_cons (al_cons al_nil))) (fun _ _ _ _ _ _ us hl => match us, hl with | [_, _], _ => rfl) (fun f cdv A outer s H0 vs Q E hr h => by
    obtain ⟨B0, d, r, e, hA, hm, q⟩ := h
    obtain ⟨heads, x_, ⟨⟩⟩ := d
    obtain ⟨v_heads, _, rfl, h_heads, ⟨v_x_, _, rfl, h_x_, rfl⟩⟩ := hA
    have h_heads : (qL qI).r B0 v_heads heads := h_heads
    have h_x_ : qI.r B0 v_x_ x_ := h_x_
    have hm : M.lead_lii heads x_ = some r := hm
    have w := wd0 e
    unfold M.lead_lii at hm
    have sc := sc_lead_lii
    refine ⟨_, (pss_cons (ps_set (i := 2) sc.nd rfl (by first | exact .inl rfl | exact .inr rfl) (pv 1)) (pss_cons (ps_for PassesOwn.never rfl (pi_range1 (by rfl) T.b_range (pa_cons (pe_callB (kcl_len K rfl) (by rfl) T.b_len PySem.boot_len (pa_cons (pv 0) pa_nil)) pa_nil)) (pg_name (i := 3) sc.nd rfl (by first | exact .inl rfl | exact .inr rfl)) (pss_cons (ps_set (i := 2) sc.nd rfl (by first | exact .inl rfl | exact .inr rfl) (pe_ix (kix_list K rfl) (pv 0) (pv 2) (fun _ _ => rfl))) pss_nil)) (pss_cons (ps_if (pt_cmpR op_eq (pe_ix (kix_list K rfl) (pv 0) (pv 2) (fun _ _ => rfl)) (pv 2) (nomark _)) (pss_cons (ps_ret (pv 2)) pss_never) pss_nil) (pss_cons (ps_ret (pe_un un_neg pe_int)) pss_never)))), ?_⟩
    obtain ⟨at_, e_at_, hm⟩ := ltS hm
    refine st_set (i := 2) (Ev.is (ev_v h_x_ rfl) e_at_) w (fun v_at_ B1 H1 x1 w1 h_at_ => ?_)
    have h_heads := Rel.mono _ x1.b h_heads
    obtain ⟨r2, h_r2, hm⟩ := bindS hm
    obtain ⟨at__4, hl3, hm⟩ := bindS hm
    refine st_for (st_forO (it_range1 (ev_lenW (ev_wI (ev_v h_heads rfl))) h_r2) w1.e w1.c hl3 (fun Bs (b : Int) σ B H => ∃ a3_2 : V, ∃ p3_3 : Option V, σ = [some v_heads, some v_x_, some a3_2, p3_3] ∧ Ex Bs B ∧ Ex B1 B ∧ Wd N0 B0 H0 c0 () B H ∧ qI.r B a3_2 b ∧ True) ?_ ?_ ?_ ?_)
    · rintro _ _ _ _ _ ⟨_, _, rfl, e, -, w, -⟩
      exact ⟨e, w.e⟩
    · intro Bs3 Hs3 x3 c3
      have h_at_ := Rel.mono _ x3.b h_at_
      exact ⟨v_at_, _, rfl, .refl _, x3.b, w1.step x3 c3, h_at_, trivial⟩
    · rintro Bs3 step at__2 b3 σ3 B3p H3p ⟨a3_2, p3_3, rfl, e3, eo3, w3, f3_0, -⟩ hm vi3 B3 H3 x3 r3
      rw [M.lead_lii_l1] at hm
      have h_at__2 : qI.r _ a3_2 at__2 := f3_0
      have h_heads := Rel.mono _ (eo3.trans x3.b) h_heads
      have h_at__2 := Rel.mono _ x3.b h_at__2
      have e3 := e3.trans x3.b
      have eo3 := eo3.trans x3.b
      have w3 := w3.step x3.up (Cell.ext _ w3.c x3)
      have h_step := r3
      refine tgn ?_
      obtain ⟨at__3, h_at__3, hm⟩ := bindS hm
      refine st_set (i := 2) (ev_ixW (ev_wI (ev_v h_heads rfl)) (ev_v h_at__2 rfl) h_at__3) w3 (fun v_at__3 B5 H5 x5 w5 h_at__3 => ?_)
      have h_heads := Rel.mono _ x5.b h_heads
      have e3 := e3.trans x5.b
      have eo3 := eo3.trans x5.b
      refine st_next ?_
      have hv := Option.some.inj hm
      subst hv
      exact ⟨_, v_at__3, _, rfl, e3, eo3, w5, h_at__3, trivial⟩
    · rintro Bs3 σ3 Bd3 Hd3 ⟨a3_2, p3_3, rfl, ed3, eo3, wd3, f3_0, -⟩
      refine nx_tz ?_
      have h_at__4 : qI.r _ a3_2 at__4 := f3_0
      have h_heads := Rel.mono _ eo3 h_heads
      obtain ⟨t6, h_t6, hm⟩ := bindS hm
      refine st_if (et_test (ev_eqI (ev_ixW (ev_wI (ev_v h_heads rfl)) (ev_v h_at__4 rfl) h_t6) (ev_v h_at__4 rfl))) wd3 (fun hA B7 H7 x7 w7 => ?_) (fun hA B7 H7 x7 w7 => ?_)
      · have hm := ifT hm hA
        have h_at__4 := Rel.mono _ x7.b h_at__4
        have hv := Option.some.inj hm
        subst hv
        exact st_ret gI (ev_v h_at__4 rfl) w7 (fun _ _ _ => trivial) q
      · have hm := ifF hm hA
        refine st_nextT ?_
        have hv := Option.some.inj hm
        subst hv
        exact st_ret gI (ev_neg ev_int) w7 (fun _ _ _ => trivial) q)
abbrev N_forests_llili : List Str := ["_law_grid_here", "_law_roots", "_law_rows", "_law_x", "_law_kept", "_law_line", "_law_heads", "_law_longer", "_law_y"]
theorem sc_forests_llili : FnScope N_forests_llili ["_law_grid_here", "_law_roots"] (defScope s_forests) := ⟨rfl, rfl, rfl, by decide +kernel, rfl, by decide +kernel, by decide +kernel⟩
theorem ok_forests_llili (T : Top K mg C_Table e_check_states e_forest_row) : Fn P w' K mg base 2 "_law_forests" ["_law_grid_here", "_law_roots"] [] (spf (aCons (qL (qL qI)) (aCons (qL qI) aNil)) (fun d => M.forests_llili d.1 d.2.1) (pL (qT K qI))) :=
  mkFn T.d_forests sc_forests_llili (al_spf (al_cons (al_cons al_nil))) (fun _ _ _ _ _ _ us hl => match us, hl with | [_, _], _ => rfl) (fun f cdv A outer s H0 vs Q E hr h => by
    obtain ⟨B0, d, r, e, hA, hm, q⟩ := h
    obtain ⟨grid_here, roots, ⟨⟩⟩ := d
    obtain ⟨v_grid_here, _, rfl, h_grid_here, ⟨v_roots, _, rfl, h_roots, rfl⟩⟩ := hA
    have h_grid_here : (qL (qL qI)).r B0 v_grid_here grid_here := h_grid_here
    have h_roots : (qL qI).r B0 v_roots roots := h_roots
    have hm : M.forests_llili grid_here roots = some r := hm
    have w := wd0 e
    unfold M.forests_llili at hm
    have sc := sc_forests_llili
    have F_lead_lii := ok_lead_lii (P := P) (w' := w') (base := base) T
    refine ⟨_, (pss_cons (ps_set (i := 2) sc.nd rfl (by first | exact .inl rfl | exact .inr rfl) (pe_lst (pa_cons (pe_lst pa_nil) pa_nil))) (pss_cons (ps_for PassesOwn.never rfl (pi_range1 (by rfl) T.b_range (pa_cons (pe_callB (kcl_len K rfl) (by rfl) T.b_len PySem.boot_len (pa_cons (pv 0) pa_nil)) pa_nil)) (pg_name (i := 3) sc.nd rfl (by first | exact .inl rfl | exact .inr rfl)) (pss_cons (ps_setLc (i := 6) (own := [("_law_y", 8)]) rfl sc.nd rfl rfl (sw_true rfl rfl rfl (by decide +kernel)) (pi_range1 (by rfl) T.b_range (pa_cons (pe_callB (kcl_len K rfl) (by rfl) T.b_len PySem.boot_len (pa_cons (pv 0) pa_nil)) pa_nil)) (blkOk_by (own := [("_law_y", 8)]) (N := N_forests_llili) (sc := defScope s_forests) (by decide +kernel)) (fun _ _ _ _ _ => (pg_name (i := 8) sc.nd rfl (by first | exact .inl rfl | exact .inr rfl))) (fun _ _ _ _ _ => (pts_one (pt_cmpR op_gt (pe_ix (kix_list K rfl) (pe_ix (kix_list K rfl) (pv 0) (pv 3) (fun _ _ => rfl)) (pv 8) (fun _ _ => rfl)) pe_int (nomark _)))) (fun _ _ _ _ _ => (pv 8))) (Evl.pss_cut (ps_if (pt_cmpR (kop_in K rfl) (pv 3) (pv 1) (by rfl)) (pss_cons (ps_set (i := 6) sc.nd rfl (by first | exact .inl rfl | exact .inr rfl) (pe_lst (pa_cons (pv 3) pa_nil))) pss_nil) pss_nil) (pss_cons (ps_set (i := 7) sc.nd rfl (by first | exact .inl rfl | exact .inr rfl) (pe_lst pa_nil)) (pss_cons (ps_for PassesOwn.never rfl (kpi_list K rfl (pv 2)) (pg_name (i := 5) sc.nd rfl (by first | exact .inl rfl | exact .inr rfl)) (pss_cons (ps_for PassesOwn.never rfl (kpi_list K rfl (pv 6)) (pg_name (i := 8) sc.nd rfl (by first | exact .inl rfl | exact .inr rfl)) (pss_cons (ps_expr (pe_bm PySem.F.plainAttrs_list PySem.F.slot_list_append PySem.F.type_list_append mt_append (pv 7) (pa_cons (pe_op op_cat (pv 5) (pe_lst (pa_cons (pv 8) pa_nil))) pa_nil))) pss_nil)) pss_nil)) (pss_cons (ps_set (i := 2) sc.nd rfl (by first | exact .inl rfl | exact .inr rfl) (pe_callTy (kcl_list K rfl) (by rfl) T.b_list (by decide +kernel) (pa_cons (pv 7) pa_nil))) pss_nil)))))) (pss_cons (ps_set (i := 4) sc.nd rfl (by first | exact .inl rfl | exact .inr rfl) (pe_lst pa_nil)) (pss_cons (ps_for PassesOwn.never rfl (kpi_list K rfl (pv 2)) (pg_name (i := 5) sc.nd rfl (by first | exact .inl rfl | exact .inr rfl)) (pss_cons (ps_if (pt_val (pe_callB (kcr_all K rfl rfl) (by rfl) T.b_all (by decide +kernel) (pa_cons (pe_lc (own := [("_law_x", 3)]) rfl sc.nd (pi_range1 (by rfl) T.b_range (pa_cons (pe_callB (kcl_len K rfl) (by rfl) T.b_len PySem.boot_len (pa_cons (pv 0) pa_nil)) pa_nil)) (blkOk_by (own := [("_law_x", 3)]) (N := N_forests_llili) (sc := defScope s_forests) (by decide +kernel)) (fun _ _ _ _ _ => (pg_name (i := 3) sc.nd rfl (by first | exact .inl rfl | exact .inr rfl))) (fun _ _ _ _ _ => pts_nil) (fun _ _ _ _ _ => (pe_cmpR (kop_in K rfl) (pe_fn F_lead_lii (hr.mono (by decide)) rfl (pa_cons (pv 5) (pa_cons (pv 3) pa_nil))) (pv 1) (by rfl)))) pa_nil))) (pss_cons (ps_expr (pe_bm PySem.F.plainAttrs_list PySem.F.slot_list_append PySem.F.type_list_append mt_append (pv 4) (pa_cons (pe_callTy (kcl_tuple K rfl) (by rfl) T.b_tuple (by decide +kernel) (pa_cons (pv 5) pa_nil)) pa_nil))) pss_nil) pss_nil) pss_nil)) (pss_cons (ps_ret (pv 4)) pss_never))))), ?_⟩
    obtain ⟨rows, e_rows, hm⟩ := ltS hm
    refine st_set (i := 2) (Ev.is (ev_fz (ev_lst (R := (qL qI)) (eb_cons (ev_fz (ev_lst (R := qI) eb_nil (by show 0 ≤ 1000000; decide))) eb_nil) (by show 1 ≤ 1000000; decide))) e_rows) w (fun v_rows B1 H1 x1 w1 h_rows => ?_)
    have h_grid_here := Rel.mono _ x1.b h_grid_here
    have h_roots := Rel.mono _ x1.b h_roots
    obtain ⟨r2, h_r2, hm⟩ := bindS hm
    obtain ⟨rows_4, hl3, hm⟩ := bindS hm
    refine st_for (st_forO (it_range1 (ev_lenW (ev_wI (ev_v h_grid_here rfl))) h_r2) w1.e w1.c hl3 (fun Bs (b : (List (List Int))) σ B H => ∃ a3_2 : V, ∃ p3_3 : Option V, ∃ p3_5 : Option V, ∃ p3_6 : Option V, ∃ p3_7 : Option V, ∃ p3_8 : Option V, σ = [some v_grid_here, some v_roots, some a3_2, p3_3, none, p3_5, p3_6, p3_7, p3_8] ∧ Ex Bs B ∧ Ex B1 B ∧ Wd N0 B0 H0 c0 () B H ∧ (qL (qL qI)).r B a3_2 b ∧ True) ?_ ?_ ?_ ?_)
    · rintro _ _ _ _ _ ⟨_, _, _, _, _, _, rfl, e, -, w, -⟩
      exact ⟨e, w.e⟩
    · intro Bs3 Hs3 x3 c3
      have h_rows := Rel.mono _ x3.b h_rows
      exact ⟨v_rows, _, _, _, _, _, rfl, .refl _, x3.b, w1.step x3 c3, h_rows, trivial⟩
    · rintro Bs3 x_ rows_2 b3 σ3 B3p H3p ⟨a3_2, p3_3, p3_5, p3_6, p3_7, p3_8, rfl, e3, eo3, w3, f3_0, -⟩ hm vi3 B3 H3 x3 r3
      rw [M.forests_llili_l1] at hm
      have h_rows_2 : (qL (qL qI)).r _ a3_2 rows_2 := f3_0
      have h_grid_here := Rel.mono _ (eo3.trans x3.b) h_grid_here
      have h_roots := Rel.mono _ (eo3.trans x3.b) h_roots
      have h_rows_2 := Rel.mono _ x3.b h_rows_2
      have e3 := e3.trans x3.b
      have eo3 := eo3.trans x3.b
      have w3 := w3.step x3.up (Cell.ext _ w3.c x3)
      have h_x_ := r3
      refine tgn ?_
      obtain ⟨r4, h_r4, hm⟩ := bindS hm
      obtain ⟨z8, h_z8, hm⟩ := bindS hm
      obtain ⟨heads, h_heads, hm⟩ := bindS hm
      refine st_set (i := 6) (ev_fz (ev_lcS (it_range1 (ev_lenW (ev_wI (ev_v h_grid_here rfl))) h_r4) (compS_filtO h_heads) (lnO_ok h_z8).1 (fun y_ v5_ s5_ o5_ t5_ B5_ H5_ x5_ r5_ hf5_ => by (obtain ⟨y5_, hy5_, hf5_⟩ := bindS hf5_; cases hf5_; have h_grid_here := Rel.mono _ x5_.b h_grid_here; have h_roots := Rel.mono _ x5_.b h_roots; have h_rows_2 := Rel.mono _ x5_.b h_rows_2; have h_x_ := Rel.mono _ x5_.b h_x_; obtain ⟨t6, h_t6, hy5_⟩ := bindS hy5_; obtain ⟨t7, h_t7, hy5_⟩ := bindS hy5_; exact turn_t (fun _ _ _ _ q => q) rfl (et_test (ev_gt (ev_ixW (ev_wI (ev_ixW (ev_wI (ev_v h_grid_here rfl)) (ev_v h_x_ rfl) h_t6)) (ev_v r5_ rfl) h_t7) ev_int)) (fun hA => by (have hk := ifT hy5_ hA; cases hk; exact ⟨_, rfl, (ev_v r5_ rfl)⟩)) (fun hA => by (have hk := ifF hy5_ hA; cases hk; exact ⟨rfl, rfl⟩)))))) w3 (fun v_heads B10 H10 x10 w10 h_heads => ?_)
      have h_grid_here := Rel.mono _ x10.b h_grid_here
      have h_roots := Rel.mono _ x10.b h_roots
      have h_rows_2 := Rel.mono _ x10.b h_rows_2
      have h_x_ := Rel.mono _ x10.b h_x_
      have e3 := e3.trans x10.b
      have eo3 := eo3.trans x10.b
      obtain ⟨heads_2, hj11, hm⟩ := bindS hm
      refine st_ifc (et_test (ev_inW (ev_v h_x_ rfl) (ev_wI (ev_v h_roots rfl)))) w10 (fun σ H => ∃ a11_6 : V, σ = [some v_grid_here, some v_roots, some a3_2, some vi3, none, p3_5, some a11_6, p3_7, p3_8] ∧ ∃ B, Ex B10 B ∧ Wd N0 B0 H0 c0 () B H ∧ (qL qI).r B a11_6 heads_2 ∧ True) (fun hA B11 H11 x11 w11 => ?_) (fun hA B11 H11 x11 w11 => ?_) ?_
      · have hm := ifT hj11 hA
        have ej11 := Ex.refl B10
        have h_grid_here := Rel.mono _ x11.b h_grid_here
        have h_roots := Rel.mono _ x11.b h_roots
        have h_rows_2 := Rel.mono _ x11.b h_rows_2
        have h_x_ := Rel.mono _ x11.b h_x_
        have h_heads := Rel.mono _ x11.b h_heads
        have e3 := e3.trans x11.b
        have eo3 := eo3.trans x11.b
        have ej11 := ej11.trans x11.b
        obtain ⟨heads_3, e_heads_3, hm⟩ := ltS hm
        refine st_set (i := 6) (Ev.is (ev_fz (ev_lst (R := qI) (eb_cons (ev_v h_x_ rfl) eb_nil) (by show 1 ≤ 1000000; decide))) e_heads_3) w11 (fun v_heads_3 B12 H12 x12 w12 h_heads_3 => ?_)
        have h_grid_here := Rel.mono _ x12.b h_grid_here
        have h_roots := Rel.mono _ x12.b h_roots
        have h_rows_2 := Rel.mono _ x12.b h_rows_2
        have h_x_ := Rel.mono _ x12.b h_x_
        have e3 := e3.trans x12.b
        have eo3 := eo3.trans x12.b
        have ej11 := ej11.trans x12.b
        refine st_next ?_
        have hv := Option.some.inj hm
        subst hv
        exact ⟨v_heads_3, rfl, B12, ej11, w12, h_heads_3, trivial⟩
      · have hm := ifF hj11 hA
        have ej11 := Ex.refl B10
        have h_grid_here := Rel.mono _ x11.b h_grid_here
        have h_roots := Rel.mono _ x11.b h_roots
        have h_rows_2 := Rel.mono _ x11.b h_rows_2
        have h_x_ := Rel.mono _ x11.b h_x_
        have h_heads := Rel.mono _ x11.b h_heads
        have e3 := e3.trans x11.b
        have eo3 := eo3.trans x11.b
        have ej11 := ej11.trans x11.b
        refine st_next ?_
        have hv := Option.some.inj hm
        subst hv
        exact ⟨v_heads, rfl, B11, ej11, w11, h_heads, trivial⟩
      · rintro σ11 G11 ⟨a11_6, rfl, Bj11, eo11, wj11, f11_0, -⟩
        have h_heads_2 : (qL qI).r _ a11_6 heads_2 := f11_0
        have h_grid_here := Rel.mono _ eo11 h_grid_here
        have h_roots := Rel.mono _ eo11 h_roots
        have h_rows_2 := Rel.mono _ eo11 h_rows_2
        have h_x_ := Rel.mono _ eo11 h_x_
        have e3 := e3.trans eo11
        have eo3 := eo3.trans eo11
        obtain ⟨longer, e_longer, hm⟩ := ltS hm
        refine st_setL (i := 7) (Ev.is (ev_lst (R := (qL qI)) eb_nil (by show 0 ≤ 1000000; decide)) e_longer) wj11 (fun l_longer B13 H13 x13 w13 n13 o_longer => ?_)
        have h_grid_here := Rel.mono _ x13.b h_grid_here
        have h_roots := Rel.mono _ x13.b h_roots
        have h_rows_2 := Rel.mono _ x13.b h_rows_2
        have h_x_ := Rel.mono _ x13.b h_x_
        have h_heads_2 := Rel.mono _ x13.b h_heads_2
        have e3 := e3.trans x13.b
        have eo3 := eo3.trans x13.b
        obtain ⟨longer_6, hl14, hm⟩ := bindS hm
        refine st_for (st_forO (it_list (ev_v h_rows_2 rfl)) w13.e w13.c hl14 (fun Bs (b : (List (List Int))) σ B H => ∃ p14_5 : Option V, ∃ p14_8 : Option V, σ = [some v_grid_here, some v_roots, some a3_2, some vi3, none, p14_5, some a11_6, some (.ref l_longer), p14_8] ∧ Ex Bs B ∧ Ex B13 B ∧ Wd N0 B0 H0 c0 () B H ∧ Own (qL qI) c0.N H0 B H l_longer b ∧ True) ?_ ?_ ?_ ?_)
        · rintro _ _ _ _ _ ⟨_, _, rfl, e, -, w, -⟩
          exact ⟨e, w.e⟩
        · intro Bs14 Hs14 x14 c14
          have o_longer := o_longer.step x14
          exact ⟨_, _, rfl, .refl _, x14.b, w13.step x14 c14, o_longer, trivial⟩
        · rintro Bs14 line longer_2 b14 σ14 B14p H14p ⟨p14_5, p14_8, rfl, e14, eo14, w14, f14_0, -⟩ hm vi14 B14 H14 x14 r14
          rw [M.forests_llili_l2] at hm
          have o_longer_2 : Own (qL qI) c0.N H0 _ _ l_longer longer_2 := f14_0
          have h_grid_here := Rel.mono _ (eo14.trans x14.b) h_grid_here
          have h_roots := Rel.mono _ (eo14.trans x14.b) h_roots
          have h_rows_2 := Rel.mono _ (eo14.trans x14.b) h_rows_2
          have h_x_ := Rel.mono _ (eo14.trans x14.b) h_x_
          have h_heads_2 := Rel.mono _ (eo14.trans x14.b) h_heads_2
          have o_longer_2 := o_longer_2.step x14.up
          have e3 := e3.trans (eo14.trans x14.b)
          have eo3 := eo3.trans (eo14.trans x14.b)
          have e14 := e14.trans x14.b
          have eo14 := eo14.trans x14.b
          have w14 := w14.step x14.up (Cell.ext _ w14.c x14)
          have h_line := r14
          refine tgn ?_
          obtain ⟨longer_5, hl15, hm⟩ := bindS hm
          refine st_for (st_forO (it_list (ev_v h_heads_2 rfl)) w14.e w14.c hl15 (fun Bs (b : (List (List Int))) σ B H => ∃ p15_8 : Option V, σ = [some v_grid_here, some v_roots, some a3_2, some vi3, none, some vi14, some a11_6, some (.ref l_longer), p15_8] ∧ Ex Bs B ∧ Ex B14 B ∧ Wd N0 B0 H0 c0 () B H ∧ Own (qL qI) c0.N H0 B H l_longer b ∧ True) ?_ ?_ ?_ ?_)
          · rintro _ _ _ _ _ ⟨_, rfl, e, -, w, -⟩
            exact ⟨e, w.e⟩
          · intro Bs15 Hs15 x15 c15
            have o_longer_2 := o_longer_2.step x15
            exact ⟨_, rfl, .refl _, x15.b, w14.step x15 c15, o_longer_2, trivial⟩
          · rintro Bs15 y_ longer_3 b15 σ15 B15p H15p ⟨p15_8, rfl, e15, eo15, w15, f15_0, -⟩ hm vi15 B15 H15 x15 r15
            rw [M.forests_llili_l3] at hm
            have o_longer_3 : Own (qL qI) c0.N H0 _ _ l_longer longer_3 := f15_0
            have h_grid_here := Rel.mono _ (eo15.trans x15.b) h_grid_here
            have h_roots := Rel.mono _ (eo15.trans x15.b) h_roots
            have h_rows_2 := Rel.mono _ (eo15.trans x15.b) h_rows_2
            have h_x_ := Rel.mono _ (eo15.trans x15.b) h_x_
            have h_heads_2 := Rel.mono _ (eo15.trans x15.b) h_heads_2
            have o_longer_3 := o_longer_3.step x15.up
            have h_line := Rel.mono _ (eo15.trans x15.b) h_line
            have e3 := e3.trans (eo15.trans x15.b)
            have eo3 := eo3.trans (eo15.trans x15.b)
            have e14 := e14.trans (eo15.trans x15.b)
            have eo14 := eo14.trans (eo15.trans x15.b)
            have e15 := e15.trans x15.b
            have eo15 := eo15.trans x15.b
            have w15 := w15.step x15.up (Cell.ext _ w15.c x15)
            have h_y_ := r15
            refine tgn ?_
            obtain ⟨t16, h_t16, hm⟩ := bindS hm
            obtain ⟨longer_4, h_longer_4, hm⟩ := bindS hm
            refine st_app o_longer_3 rfl (ev_fz (ev_cat (ev_wI (ev_v h_line rfl)) (ev_wL (ev_lst (R := qI) (eb_cons (ev_v h_y_ rfl) eb_nil) (by show 1 ≤ 1000000; decide))) h_t16)) w15 h_longer_4 (fun B17 H17 G17 x17 hu17 w17 o_longer_4 => ?_)
            have h_grid_here := Rel.mono _ x17.b h_grid_here
            have h_roots := Rel.mono _ x17.b h_roots
            have h_rows_2 := Rel.mono _ x17.b h_rows_2
            have h_x_ := Rel.mono _ x17.b h_x_
            have h_heads_2 := Rel.mono _ x17.b h_heads_2
            have h_line := Rel.mono _ x17.b h_line
            have h_y_ := Rel.mono _ x17.b h_y_
            have e3 := e3.trans x17.b
            have eo3 := eo3.trans x17.b
            have e14 := e14.trans x17.b
            have eo14 := eo14.trans x17.b
            have e15 := e15.trans x17.b
            have eo15 := eo15.trans x17.b
            refine st_next ?_
            have hv := Option.some.inj hm
            subst hv
            exact ⟨_, _, rfl, e15, eo15, w17, o_longer_4, trivial⟩
          · rintro Bs15 σ15 Bd15 Hd15 ⟨p15_8, rfl, ed15, eo15, wd15, f15_0, -⟩
            refine nx_tz ?_
            have o_longer_5 : Own (qL qI) c0.N H0 _ _ l_longer longer_5 := f15_0
            have h_grid_here := Rel.mono _ eo15 h_grid_here
            have h_roots := Rel.mono _ eo15 h_roots
            have h_rows_2 := Rel.mono _ eo15 h_rows_2
            have h_x_ := Rel.mono _ eo15 h_x_
            have h_heads_2 := Rel.mono _ eo15 h_heads_2
            have h_line := Rel.mono _ eo15 h_line
            have e3 := e3.trans eo15
            have eo3 := eo3.trans eo15
            have e14 := e14.trans eo15
            have eo14 := eo14.trans eo15
            refine st_next ?_
            have hv := Option.some.inj hm
            subst hv
            exact ⟨_, _, _, rfl, e14, eo14, wd15, o_longer_5, trivial⟩
        · rintro Bs14 σ14 Bd14 Hd14 ⟨p14_5, p14_8, rfl, ed14, eo14, wd14, f14_0, -⟩
          refine nx_tz ?_
          have o_longer_6 : Own (qL qI) c0.N H0 _ _ l_longer longer_6 := f14_0
          have h_grid_here := Rel.mono _ eo14 h_grid_here
          have h_roots := Rel.mono _ eo14 h_roots
          have h_rows_2 := Rel.mono _ eo14 h_rows_2
          have h_x_ := Rel.mono _ eo14 h_x_
          have h_heads_2 := Rel.mono _ eo14 h_heads_2
          have e3 := e3.trans eo14
          have eo3 := eo3.trans eo14
          obtain ⟨rows_3, e_rows_3, hm⟩ := ltS hm
          refine st_set (i := 2) (Ev.is (ev_fz (ev_listW (ev_wO o_longer_6 rfl))) e_rows_3) wd14 (fun v_rows_3 B18 H18 x18 w18 h_rows_3 => ?_)
          have h_grid_here := Rel.mono _ x18.b h_grid_here
          have h_roots := Rel.mono _ x18.b h_roots
          have h_x_ := Rel.mono _ x18.b h_x_
          have h_heads_2 := Rel.mono _ x18.b h_heads_2
          have o_longer_6 := o_longer_6.step x18
          have e3 := e3.trans x18.b
          have eo3 := eo3.trans x18.b
          refine st_next ?_
          have hv := Option.some.inj hm
          subst hv
          exact ⟨_, v_rows_3, _, _, _, _, _, rfl, e3, eo3, w18, h_rows_3, trivial⟩
    · rintro Bs3 σ3 Bd3 Hd3 ⟨a3_2, p3_3, p3_5, p3_6, p3_7, p3_8, rfl, ed3, eo3, wd3, f3_0, -⟩
      refine nx_tz ?_
      have h_rows_4 : (qL (qL qI)).r _ a3_2 rows_4 := f3_0
      have h_grid_here := Rel.mono _ eo3 h_grid_here
      have h_roots := Rel.mono _ eo3 h_roots
      obtain ⟨kept, e_kept, hm⟩ := ltS hm
      refine st_setL (i := 4) (Ev.is (ev_lst (R := (qT K qI)) eb_nil (by show 0 ≤ 1000000; decide)) e_kept) wd3 (fun l_kept B19 H19 x19 w19 n19 o_kept => ?_)
      have h_grid_here := Rel.mono _ x19.b h_grid_here
      have h_roots := Rel.mono _ x19.b h_roots
      have h_rows_4 := Rel.mono _ x19.b h_rows_4
      obtain ⟨kept_4, hl20, hm⟩ := bindS hm
      refine st_for (st_forO (it_list (ev_v h_rows_4 rfl)) w19.e w19.c hl20 (fun Bs (b : (List (List Int))) σ B H => ∃ p20_5 : Option V, σ = [some v_grid_here, some v_roots, some a3_2, p3_3, some (.ref l_kept), p20_5, p3_6, p3_7, p3_8] ∧ Ex Bs B ∧ Ex B19 B ∧ Wd N0 B0 H0 c0 () B H ∧ Own (qT K qI) c0.N H0 B H l_kept b ∧ True) ?_ ?_ ?_ ?_)
      · rintro _ _ _ _ _ ⟨_, rfl, e, -, w, -⟩
        exact ⟨e, w.e⟩
      · intro Bs20 Hs20 x20 c20
        have o_kept := o_kept.step x20
        exact ⟨_, rfl, .refl _, x20.b, w19.step x20 c20, o_kept, trivial⟩
      · rintro Bs20 line_2 kept_2 b20 σ20 B20p H20p ⟨p20_5, rfl, e20, eo20, w20, f20_0, -⟩ hm vi20 B20 H20 x20 r20
        rw [M.forests_llili_l4] at hm
        have o_kept_2 : Own (qT K qI) c0.N H0 _ _ l_kept kept_2 := f20_0
        have h_grid_here := Rel.mono _ (eo20.trans x20.b) h_grid_here
        have h_roots := Rel.mono _ (eo20.trans x20.b) h_roots
        have o_kept_2 := o_kept_2.step x20.up
        have e20 := e20.trans x20.b
        have eo20 := eo20.trans x20.b
        have w20 := w20.step x20.up (Cell.ext _ w20.c x20)
        have h_line_2 := r20
        refine tgn ?_
        obtain ⟨r21, h_r21, hm⟩ := bindS hm
        obtain ⟨z24, h_z24, hm⟩ := bindS hm
        obtain ⟨t25, h_t25, hm⟩ := bindS hm
        refine st_if (et_B (ev_allW (ev_wL (ev_lcS (it_range1 (ev_lenW (ev_wI (ev_v h_grid_here rfl))) h_r21) (compS_mapO h_t25) (lnO_ok h_z24).1 (fun x_ v22_ s22_ o22_ t22_ B22_ H22_ x22_ r22_ hf22_ => by (obtain ⟨y22_, hy22_, hf22_⟩ := bindS hf22_; cases hf22_; have h_grid_here := Rel.mono _ x22_.b h_grid_here; have h_roots := Rel.mono _ x22_.b h_roots; have o_kept_2 := o_kept_2.step x22_; have h_line_2 := Rel.mono _ x22_.b h_line_2; obtain ⟨t23, h_t23, hy22_⟩ := bindS hy22_; exact turn_g (fun _ _ _ _ q => q) rfl rfl (Ev.is (ev_inW (ev_call gI (ea_cons (ev_v h_line_2 rfl) (ea_cons (ev_v r22_ rfl) ea_nil)) a_id h_t23) (ev_wI (ev_v h_roots rfl))) (Option.some.inj hy22_)))))))) w20 (fun hA B26 H26 x26 w26 => ?_) (fun hA B26 H26 x26 w26 => ?_)
        · have hm := ifT hm hA
          have h_grid_here := Rel.mono _ x26.b h_grid_here
          have h_roots := Rel.mono _ x26.b h_roots
          have o_kept_2 := o_kept_2.step x26
          have h_line_2 := Rel.mono _ x26.b h_line_2
          have e20 := e20.trans x26.b
          have eo20 := eo20.trans x26.b
          obtain ⟨kept_3, h_kept_3, hm⟩ := bindS hm
          refine st_app o_kept_2 rfl (ev_tupleW (ev_wI (ev_v h_line_2 rfl))) w26 h_kept_3 (fun B27 H27 G27 x27 hu27 w27 o_kept_3 => ?_)
          have h_grid_here := Rel.mono _ x27.b h_grid_here
          have h_roots := Rel.mono _ x27.b h_roots
          have h_line_2 := Rel.mono _ x27.b h_line_2
          have e20 := e20.trans x27.b
          have eo20 := eo20.trans x27.b
          refine st_nextT ?_
          refine st_next ?_
          have hv := Option.some.inj hm
          subst hv
          exact ⟨_, _, rfl, e20, eo20, w27, o_kept_3, trivial⟩
        · have hm := ifF hm hA
          have h_grid_here := Rel.mono _ x26.b h_grid_here
          have h_roots := Rel.mono _ x26.b h_roots
          have o_kept_2 := o_kept_2.step x26
          have h_line_2 := Rel.mono _ x26.b h_line_2
          have e20 := e20.trans x26.b
          have eo20 := eo20.trans x26.b
          refine st_nextT ?_
          refine st_next ?_
          have hv := Option.some.inj hm
          subst hv
          exact ⟨_, _, rfl, e20, eo20, w26, o_kept_2, trivial⟩
      · rintro Bs20 σ20 Bd20 Hd20 ⟨p20_5, rfl, ed20, eo20, wd20, f20_0, -⟩
        refine nx_tz ?_
        have o_kept_4 : Own (qT K qI) c0.N H0 _ _ l_kept kept_4 := f20_0
        have hv := Option.some.inj hm
        subst hv
        exact st_retO o_kept_4 rfl wd20 (fun _ _ _ => trivial) q)
abbrev N_lead_tii : List Str := ["_law_heads", "_law_x", "_law_at", "_law_step"]
theorem sc_lead_tii : FnScope N_lead_tii ["_law_heads", "_law_x"] (defScope s_lead) := ⟨rfl, rfl, rfl, by decide +kernel, rfl, by decide +kernel, by decide +kernel⟩
theorem ok_lead_tii (T : Top K mg C_Table e_check_states e_forest_row) : Fn P w' K mg base 1 "_law_lead" ["_law_heads", "_law_x"] [] (spf (aCons (qT K qI) (aCons qI aNil)) (fun d => M.lead_tii d.1 d.2.1) (pI qI)) :=
  mkFn T.d_lead sc_lead_tii (al_spf (al_cons (al_cons al_nil))) (fun _ _ _ _ _ _ us hl => match us, hl with | [_, _], _ => rfl) (fun f cdv A outer s H0 vs Q E hr h => by
    obtain ⟨B0, d, r, e, hA, hm, q⟩ := h
    obtain ⟨heads, x_, ⟨⟩⟩ := d
    obtain ⟨v_heads, _, rfl, h_heads, ⟨v_x_, _, rfl, h_x_, rfl⟩⟩ := hA
    have h_heads : (qT K qI).r B0 v_heads heads := h_heads
    have h_x_ : qI.r B0 v_x_ x_ := h_x_
    have hm : M.lead_tii heads x_ = some r := hm
    have w := wd0 e
    unfold M.lead_tii at hm
    have sc := sc_lead_tii
    refine ⟨_, (pss_cons (ps_set (i := 2) sc.nd rfl (by first | exact .inl rfl | exact .inr rfl) (pv 1)) (pss_cons (ps_for PassesOwn.never rfl (pi_range1 (by rfl) T.b_range (pa_cons (pe_callB (kcl_len K rfl) (by rfl) T.b_len PySem.boot_len (pa_cons (pv 0) pa_nil)) pa_nil)) (pg_name (i := 3) sc.nd rfl (by first | exact .inl rfl | exact .inr rfl)) (pss_cons (ps_set (i := 2) sc.nd rfl (by first | exact .inl rfl | exact .inr rfl) (pe_ix (kix_tup K rfl) (pv 0) (pv 2) (fun _ _ => rfl))) pss_nil)) (pss_cons (ps_if (pt_cmpR op_eq (pe_ix (kix_tup K rfl) (pv 0) (pv 2) (fun _ _ => rfl)) (pv 2) (nomark _)) (pss_cons (ps_ret (pv 2)) pss_never) pss_nil) (pss_cons (ps_ret (pe_un un_neg pe_int)) pss_never)))), ?_⟩
    obtain ⟨at_, e_at_, hm⟩ := ltS hm
    refine st_set (i := 2) (Ev.is (ev_v h_x_ rfl) e_at_) w (fun v_at_ B1 H1 x1 w1 h_at_ => ?_)
    have h_heads := Rel.mono _ x1.b h_heads
    obtain ⟨r2, h_r2, hm⟩ := bindS hm
    obtain ⟨at__4, hl3, hm⟩ := bindS hm
    refine st_for (st_forO (it_range1 (ev_lenT (ev_v h_heads rfl)) h_r2) w1.e w1.c hl3 (fun Bs (b : Int) σ B H => ∃ a3_2 : V, ∃ p3_3 : Option V, σ = [some v_heads, some v_x_, some a3_2, p3_3] ∧ Ex Bs B ∧ Ex B1 B ∧ Wd N0 B0 H0 c0 () B H ∧ qI.r B a3_2 b ∧ True) ?_ ?_ ?_ ?_)
    · rintro _ _ _ _ _ ⟨_, _, rfl, e, -, w, -⟩
      exact ⟨e, w.e⟩
    · intro Bs3 Hs3 x3 c3
      have h_at_ := Rel.mono _ x3.b h_at_
      exact ⟨v_at_, _, rfl, .refl _, x3.b, w1.step x3 c3, h_at_, trivial⟩
    · rintro Bs3 step at__2 b3 σ3 B3p H3p ⟨a3_2, p3_3, rfl, e3, eo3, w3, f3_0, -⟩ hm vi3 B3 H3 x3 r3
      rw [M.lead_tii_l1] at hm
      have h_at__2 : qI.r _ a3_2 at__2 := f3_0
      have h_heads := Rel.mono _ (eo3.trans x3.b) h_heads
      have h_at__2 := Rel.mono _ x3.b h_at__2
      have e3 := e3.trans x3.b
      have eo3 := eo3.trans x3.b
      have w3 := w3.step x3.up (Cell.ext _ w3.c x3)
      have h_step := r3
      refine tgn ?_
      obtain ⟨at__3, h_at__3, hm⟩ := bindS hm
      refine st_set (i := 2) (ev_ixT (ev_v h_heads rfl) (ev_v h_at__2 rfl) h_at__3) w3 (fun v_at__3 B5 H5 x5 w5 h_at__3 => ?_)
      have h_heads := Rel.mono _ x5.b h_heads
      have e3 := e3.trans x5.b
      have eo3 := eo3.trans x5.b
      refine st_next ?_
      have hv := Option.some.inj hm
      subst hv
      exact ⟨_, v_at__3, _, rfl, e3, eo3, w5, h_at__3, trivial⟩
    · rintro Bs3 σ3 Bd3 Hd3 ⟨a3_2, p3_3, rfl, ed3, eo3, wd3, f3_0, -⟩
      refine nx_tz ?_
      have h_at__4 : qI.r _ a3_2 at__4 := f3_0
      have h_heads := Rel.mono _ eo3 h_heads
      obtain ⟨t6, h_t6, hm⟩ := bindS hm
      refine st_if (et_test (ev_eqI (ev_ixT (ev_v h_heads rfl) (ev_v h_at__4 rfl) h_t6) (ev_v h_at__4 rfl))) wd3 (fun hA B7 H7 x7 w7 => ?_) (fun hA B7 H7 x7 w7 => ?_)
      · have hm := ifT hm hA
        have h_at__4 := Rel.mono _ x7.b h_at__4
        have hv := Option.some.inj hm
        subst hv
        exact st_ret gI (ev_v h_at__4 rfl) w7 (fun _ _ _ => trivial) q
      · have hm := ifF hm hA
        refine st_nextT ?_
        have hv := Option.some.inj hm
        subst hv
        exact st_ret gI (ev_neg ev_int) w7 (fun _ _ _ => trivial) q)
abbrev N_weight_lliti : List Str := ["_law_grid_here", "_law_heads", "_law_whole", "_law_x"]
theorem sc_weight_lliti : FnScope N_weight_lliti ["_law_grid_here", "_law_heads"] (defScope s_weight) := ⟨rfl, rfl, rfl, by decide +kernel, rfl, by decide +kernel, by decide +kernel⟩
theorem ok_weight_lliti (T : Top K mg C_Table e_check_states e_forest_row) : Fn P w' K mg base 1 "_law_weight" ["_law_grid_here", "_law_heads"] [] (spf (aCons (qL (qL qI)) (aCons (qT K qI) aNil)) (fun d => M.weight_lliti d.1 d.2.1) (pI qI)) :=
  mkFn T.d_weight sc_weight_lliti (al_spf (al_cons (al_cons al_nil))) (fun _ _ _ _ _ _ us hl => match us, hl with | [_, _], _ => rfl) (fun f cdv A outer s H0 vs Q E hr h => by
    obtain ⟨B0, d, r, e, hA, hm, q⟩ := h
    obtain ⟨grid_here, heads, ⟨⟩⟩ := d
    obtain ⟨v_grid_here, _, rfl, h_grid_here, ⟨v_heads, _, rfl, h_heads, rfl⟩⟩ := hA
    have h_grid_here : (qL (qL qI)).r B0 v_grid_here grid_here := h_grid_here
    have h_heads : (qT K qI).r B0 v_heads heads := h_heads
    have hm : M.weight_lliti grid_here heads = some r := hm
    have w := wd0 e
    unfold M.weight_lliti at hm
    have sc := sc_weight_lliti
    refine ⟨_, (pss_cons (ps_set (i := 2) sc.nd rfl (by first | exact .inl rfl | exact .inr rfl) pe_int) (pss_cons (ps_for PassesOwn.never rfl (pi_range1 (by rfl) T.b_range (pa_cons (pe_callB (kcl_len K rfl) (by rfl) T.b_len PySem.boot_len (pa_cons (pv 1) pa_nil)) pa_nil)) (pg_name (i := 3) sc.nd rfl (by first | exact .inl rfl | exact .inr rfl)) (pss_cons (ps_if (pt_cmpR op_ne (pe_ix (kix_tup K rfl) (pv 1) (pv 3) (fun _ _ => rfl)) (pv 3) (nomark _)) (pss_cons (ps_set (i := 2) sc.nd rfl (by first | exact .inl rfl | exact .inr rfl) (pe_op op_mulW (pv 2) (pe_ix (kix_list K rfl) (pe_ix (kix_list K rfl) (pv 0) (pv 3) (fun _ _ => rfl)) (pe_ix (kix_tup K rfl) (pv 1) (pv 3) (fun _ _ => rfl)) (fun _ _ => rfl)))) pss_nil) pss_nil) pss_nil)) (pss_cons (ps_ret (pv 2)) pss_never))), ?_⟩
    obtain ⟨whole, e_whole, hm⟩ := ltS hm
    refine st_set (i := 2) (Ev.is ev_int e_whole) w (fun v_whole B1 H1 x1 w1 h_whole => ?_)
    have h_grid_here := Rel.mono _ x1.b h_grid_here
    have h_heads := Rel.mono _ x1.b h_heads
    obtain ⟨r2, h_r2, hm⟩ := bindS hm
    obtain ⟨whole_4, hl3, hm⟩ := bindS hm
    refine st_for (st_forO (it_range1 (ev_lenT (ev_v h_heads rfl)) h_r2) w1.e w1.c hl3 (fun Bs (b : Int) σ B H => ∃ a3_2 : V, ∃ p3_3 : Option V, σ = [some v_grid_here, some v_heads, some a3_2, p3_3] ∧ Ex Bs B ∧ Ex B1 B ∧ Wd N0 B0 H0 c0 () B H ∧ qI.r B a3_2 b ∧ True) ?_ ?_ ?_ ?_)
    · rintro _ _ _ _ _ ⟨_, _, rfl, e, -, w, -⟩
      exact ⟨e, w.e⟩
    · intro Bs3 Hs3 x3 c3
      have h_whole := Rel.mono _ x3.b h_whole
      exact ⟨v_whole, _, rfl, .refl _, x3.b, w1.step x3 c3, h_whole, trivial⟩
    · rintro Bs3 x_ whole_2 b3 σ3 B3p H3p ⟨a3_2, p3_3, rfl, e3, eo3, w3, f3_0, -⟩ hm vi3 B3 H3 x3 r3
      rw [M.weight_lliti_l1] at hm
      have h_whole_2 : qI.r _ a3_2 whole_2 := f3_0
      have h_grid_here := Rel.mono _ (eo3.trans x3.b) h_grid_here
      have h_heads := Rel.mono _ (eo3.trans x3.b) h_heads
      have h_whole_2 := Rel.mono _ x3.b h_whole_2
      have e3 := e3.trans x3.b
      have eo3 := eo3.trans x3.b
      have w3 := w3.step x3.up (Cell.ext _ w3.c x3)
      have h_x_ := r3
      refine tgn ?_
      obtain ⟨t4, h_t4, hm⟩ := bindS hm
      refine st_if (et_test (ev_neI (ev_ixT (ev_v h_heads rfl) (ev_v h_x_ rfl) h_t4) (ev_v h_x_ rfl))) w3 (fun hA B5 H5 x5 w5 => ?_) (fun hA B5 H5 x5 w5 => ?_)
      · have hm := ifT hm hA
        have h_grid_here := Rel.mono _ x5.b h_grid_here
        have h_heads := Rel.mono _ x5.b h_heads
        have h_whole_2 := Rel.mono _ x5.b h_whole_2
        have h_x_ := Rel.mono _ x5.b h_x_
        have e3 := e3.trans x5.b
        have eo3 := eo3.trans x5.b
        obtain ⟨t6, h_t6, hm⟩ := bindS hm
        obtain ⟨t7, h_t7, hm⟩ := bindS hm
        obtain ⟨t8, h_t8, hm⟩ := bindS hm
        obtain ⟨whole_3, h_whole_3, hm⟩ := bindS hm
        refine st_set (i := 2) (ev_mul (ev_v h_whole_2 rfl) (ev_ixW (ev_wI (ev_ixW (ev_wI (ev_v h_grid_here rfl)) (ev_v h_x_ rfl) h_t6)) (ev_ixT (ev_v h_heads rfl) (ev_v h_x_ rfl) h_t7) h_t8) h_whole_3) w5 (fun v_whole_3 B10 H10 x10 w10 h_whole_3 => ?_)
        have h_grid_here := Rel.mono _ x10.b h_grid_here
        have h_heads := Rel.mono _ x10.b h_heads
        have h_x_ := Rel.mono _ x10.b h_x_
        have e3 := e3.trans x10.b
        have eo3 := eo3.trans x10.b
        refine st_nextT ?_
        refine st_next ?_
        have hv := Option.some.inj hm
        subst hv
        exact ⟨_, v_whole_3, _, rfl, e3, eo3, w10, h_whole_3, trivial⟩
      · have hm := ifF hm hA
        have h_grid_here := Rel.mono _ x5.b h_grid_here
        have h_heads := Rel.mono _ x5.b h_heads
        have h_whole_2 := Rel.mono _ x5.b h_whole_2
        have h_x_ := Rel.mono _ x5.b h_x_
        have e3 := e3.trans x5.b
        have eo3 := eo3.trans x5.b
        refine st_nextT ?_
        refine st_next ?_
        have hv := Option.some.inj hm
        subst hv
        exact ⟨_, a3_2, _, rfl, e3, eo3, w5, h_whole_2, trivial⟩
    · rintro Bs3 σ3 Bd3 Hd3 ⟨a3_2, p3_3, rfl, ed3, eo3, wd3, f3_0, -⟩
      refine nx_tz ?_
      have h_whole_4 : qI.r _ a3_2 whole_4 := f3_0
      have hv := Option.some.inj hm
      subst hv
      exact st_ret gI (ev_v h_whole_4 rfl) wd3 (fun _ _ _ => trivial) q)
abbrev N_sum_llililti : List Str := ["_law_grid_here", "_law_roots", "_law_ends", "_law_whole", "_law_heads", "_law_pair_here"]
theorem sc_sum_llililti : FnScope N_sum_llililti ["_law_grid_here", "_law_roots", "_law_ends"] (defScope s_sum) := ⟨rfl, rfl, rfl, by decide +kernel, rfl, by decide +kernel, by decide +kernel⟩
theorem ok_sum_llililti (T : Top K mg C_Table e_check_states e_forest_row) : Fn P w' K mg base 3 "_law_sum" ["_law_grid_here", "_law_roots", "_law_ends"] [] (spf (aCons (qL (qL qI)) (aCons (qL qI) (aCons (qL (qT K qI)) aNil))) (fun d => M.sum_llililti d.1 d.2.1 d.2.2.1) (pI qI)) :=
  mkFn T.d_sum sc_sum_llililti (al_spf (al_cons (al_cons (al_cons al_nil)))) (fun _ _ _ _ _ _ us hl => match us, hl with | [_, _, _], _ => rfl) (fun f cdv A outer s H0 vs Q E hr h => by
    obtain ⟨B0, d, r, e, hA, hm, q⟩ := h
    obtain ⟨grid_here, roots, ends, ⟨⟩⟩ := d
    obtain ⟨v_grid_here, _, rfl, h_grid_here, ⟨v_roots, _, rfl, h_roots, ⟨v_ends, _, rfl, h_ends, rfl⟩⟩⟩ := hA
    have h_grid_here : (qL (qL qI)).r B0 v_grid_here grid_here := h_grid_here
    have h_roots : (qL qI).r B0 v_roots roots := h_roots
    have h_ends : (qL (qT K qI)).r B0 v_ends ends := h_ends
    have hm : M.sum_llililti grid_here roots ends = some r := hm
    have w := wd0 e
    unfold M.sum_llililti at hm
    have sc := sc_sum_llililti
    have F_forests_llili := ok_forests_llili (P := P) (w' := w') (base := base) T
    have F_lead_tii := ok_lead_tii (P := P) (w' := w') (base := base) T
    have F_weight_lliti := ok_weight_lliti (P := P) (w' := w') (base := base) T
    refine ⟨_, (pss_cons (ps_set (i := 3) sc.nd rfl (by first | exact .inl rfl | exact .inr rfl) pe_int) (pss_cons (ps_for PassesOwn.never rfl (kpi_list K rfl (pe_fn F_forests_llili (hr.mono (by decide)) rfl (pa_cons (pv 0) (pa_cons (pv 1) pa_nil)))) (pg_name (i := 4) sc.nd rfl (by first | exact .inl rfl | exact .inr rfl)) (pss_cons (ps_if (pt_val (pe_callB (kcr_all K rfl rfl) (by rfl) T.b_all (by decide +kernel) (pa_cons (pe_lc (own := [("_law_pair_here", 5)]) rfl sc.nd (kpi_list K rfl (pv 2)) (blkOk_by (own := [("_law_pair_here", 5)]) (N := N_sum_llililti) (sc := defScope s_sum) (by decide +kernel)) (fun _ _ _ _ _ => (pg_name (i := 5) sc.nd rfl (by first | exact .inl rfl | exact .inr rfl))) (fun _ _ _ _ _ => pts_nil) (fun _ _ _ _ _ => (pe_cmpR op_eq (pe_fn F_lead_tii (hr.mono (by decide)) rfl (pa_cons (pv 4) (pa_cons (pe_ix (kix_tup K rfl) (pv 5) pe_int (fun _ _ => rfl)) pa_nil))) (pe_ix (kix_tup K rfl) (pv 5) pe_int (fun _ _ => rfl)) (nomark _)))) pa_nil))) (pss_cons (ps_set (i := 3) sc.nd rfl (by first | exact .inl rfl | exact .inr rfl) (pe_op op_add (pv 3) (pe_fn F_weight_lliti (hr.mono (by decide)) rfl (pa_cons (pv 0) (pa_cons (pv 4) pa_nil))))) pss_nil) pss_nil) pss_nil)) (pss_cons (ps_ret (pv 3)) pss_never))), ?_⟩
    obtain ⟨whole, e_whole, hm⟩ := ltS hm
    refine st_set (i := 3) (Ev.is ev_int e_whole) w (fun v_whole B1 H1 x1 w1 h_whole => ?_)
    have h_grid_here := Rel.mono _ x1.b h_grid_here
    have h_roots := Rel.mono _ x1.b h_roots
    have h_ends := Rel.mono _ x1.b h_ends
    obtain ⟨t2, h_t2, hm⟩ := bindS hm
    obtain ⟨whole_4, hl3, hm⟩ := bindS hm
    refine st_for (st_forO (it_list (ev_fz (ev_call gL (ea_cons (ev_v h_grid_here rfl) (ea_cons (ev_v h_roots rfl) ea_nil)) a_id h_t2))) w1.e w1.c hl3 (fun Bs (b : Int) σ B H => ∃ a3_3 : V, ∃ p3_4 : Option V, σ = [some v_grid_here, some v_roots, some v_ends, some a3_3, p3_4, none] ∧ Ex Bs B ∧ Ex B1 B ∧ Wd N0 B0 H0 c0 () B H ∧ qI.r B a3_3 b ∧ True) ?_ ?_ ?_ ?_)
    · rintro _ _ _ _ _ ⟨_, _, rfl, e, -, w, -⟩
      exact ⟨e, w.e⟩
    · intro Bs3 Hs3 x3 c3
      have h_whole := Rel.mono _ x3.b h_whole
      exact ⟨v_whole, _, rfl, .refl _, x3.b, w1.step x3 c3, h_whole, trivial⟩
    · rintro Bs3 heads whole_2 b3 σ3 B3p H3p ⟨a3_3, p3_4, rfl, e3, eo3, w3, f3_0, -⟩ hm vi3 B3 H3 x3 r3
      rw [M.sum_llililti_l1] at hm
      have h_whole_2 : qI.r _ a3_3 whole_2 := f3_0
      have h_grid_here := Rel.mono _ (eo3.trans x3.b) h_grid_here
      have h_ends := Rel.mono _ (eo3.trans x3.b) h_ends
      have h_whole_2 := Rel.mono _ x3.b h_whole_2
      have e3 := e3.trans x3.b
      have eo3 := eo3.trans x3.b
      have w3 := w3.step x3.up (Cell.ext _ w3.c x3)
      have h_heads := r3
      refine tgn ?_
      obtain ⟨z8, h_z8, hm⟩ := bindS hm
      obtain ⟨t9, h_t9, hm⟩ := bindS hm
      refine st_if (et_B (ev_allW (ev_wL (ev_lcS (it_list (ev_v h_ends rfl)) (compS_mapO h_t9) (lnO_ok h_z8).1 (fun pair_here v4_ s4_ o4_ t4_ B4_ H4_ x4_ r4_ hf4_ => by (obtain ⟨y4_, hy4_, hf4_⟩ := bindS hf4_; cases hf4_; have h_grid_here := Rel.mono _ x4_.b h_grid_here; have h_ends := Rel.mono _ x4_.b h_ends; have h_whole_2 := Rel.mono _ x4_.b h_whole_2; have h_heads := Rel.mono _ x4_.b h_heads; obtain ⟨t5, h_t5, hy4_⟩ := bindS hy4_; obtain ⟨t6, h_t6, hy4_⟩ := bindS hy4_; obtain ⟨t7, h_t7, hy4_⟩ := bindS hy4_; exact turn_g (fun _ _ _ _ q => q) rfl rfl (Ev.is (ev_eqI (ev_call gI (ea_cons (ev_v h_heads rfl) (ea_cons (ev_ixT (ev_v r4_ rfl) ev_int h_t5) ea_nil)) a_id h_t6) (ev_ixT (ev_v r4_ rfl) ev_int h_t7)) (Option.some.inj hy4_)))))))) w3 (fun hA B10 H10 x10 w10 => ?_) (fun hA B10 H10 x10 w10 => ?_)
      · have hm := ifT hm hA
        have h_grid_here := Rel.mono _ x10.b h_grid_here
        have h_ends := Rel.mono _ x10.b h_ends
        have h_whole_2 := Rel.mono _ x10.b h_whole_2
        have h_heads := Rel.mono _ x10.b h_heads
        have e3 := e3.trans x10.b
        have eo3 := eo3.trans x10.b
        obtain ⟨t11, h_t11, hm⟩ := bindS hm
        obtain ⟨whole_3, e_whole_3, hm⟩ := ltS hm
        refine st_set (i := 3) (Ev.is (ev_add (ev_v h_whole_2 rfl) (ev_call gI (ea_cons (ev_v h_grid_here rfl) (ea_cons (ev_v h_heads rfl) ea_nil)) a_id h_t11)) e_whole_3) w10 (fun v_whole_3 B12 H12 x12 w12 h_whole_3 => ?_)
        have h_grid_here := Rel.mono _ x12.b h_grid_here
        have h_ends := Rel.mono _ x12.b h_ends
        have h_heads := Rel.mono _ x12.b h_heads
        have e3 := e3.trans x12.b
        have eo3 := eo3.trans x12.b
        refine st_nextT ?_
        refine st_next ?_
        have hv := Option.some.inj hm
        subst hv
        exact ⟨_, v_whole_3, _, rfl, e3, eo3, w12, h_whole_3, trivial⟩
      · have hm := ifF hm hA
        have h_grid_here := Rel.mono _ x10.b h_grid_here
        have h_ends := Rel.mono _ x10.b h_ends
        have h_whole_2 := Rel.mono _ x10.b h_whole_2
        have h_heads := Rel.mono _ x10.b h_heads
        have e3 := e3.trans x10.b
        have eo3 := eo3.trans x10.b
        refine st_nextT ?_
        refine st_next ?_
        have hv := Option.some.inj hm
        subst hv
        exact ⟨_, a3_3, _, rfl, e3, eo3, w10, h_whole_2, trivial⟩
    · rintro Bs3 σ3 Bd3 Hd3 ⟨a3_3, p3_4, rfl, ed3, eo3, wd3, f3_0, -⟩
      refine nx_tz ?_
      have h_whole_4 : qI.r _ a3_3 whole_4 := f3_0
      have hv := Option.some.inj hm
      subst hv
      exact st_ret gI (ev_v h_whole_4 rfl) wd3 (fun _ _ _ => trivial) q)
abbrev N_tree_row_lli : List Str := ["_law_grid_here", "_law_x"]
theorem sc_tree_row_lli : FnScope N_tree_row_lli ["_law_grid_here"] (defScope s_tree_row) := ⟨rfl, rfl, rfl, by decide +kernel, rfl, by decide +kernel, by decide +kernel⟩
theorem ok_tree_row_lli (T : Top K mg C_Table e_check_states e_forest_row) : Fn P w' K mg base 4 "_law_tree_row" ["_law_grid_here"] [] (spf (aCons (qL (qL qI)) aNil) (fun d => M.tree_row_lli d.1) (pL qI)) :=
  mkFn T.d_tree_row sc_tree_row_lli (al_spf (al_cons al_nil)) (fun _ _ _ _ _ _ us hl => match us, hl with | [_], _ => rfl) (fun f cdv A outer s H0 vs Q E hr h => by
    obtain ⟨B0, d, r, e, hA, hm, q⟩ := h
    obtain ⟨grid_here, ⟨⟩⟩ := d
    obtain ⟨v_grid_here, _, rfl, h_grid_here, rfl⟩ := hA
    have h_grid_here : (qL (qL qI)).r B0 v_grid_here grid_here := h_grid_here
    have hm : M.tree_row_lli grid_here = some r := hm
    have w := wd0 e
    unfold M.tree_row_lli at hm
    have sc := sc_tree_row_lli
    have F_sum_llililti := ok_sum_llililti (P := P) (w' := w') (base := base) T
    refine ⟨_, (pss_cons (ps_ret (pe_lc (own := [("_law_x", 1)]) rfl sc.nd (pi_range1 (by rfl) T.b_range (pa_cons (pe_callB (kcl_len K rfl) (by rfl) T.b_len PySem.boot_len (pa_cons (pv 0) pa_nil)) pa_nil)) (blkOk_by (own := [("_law_x", 1)]) (N := N_tree_row_lli) (sc := defScope s_tree_row) (by decide +kernel)) (fun _ _ _ _ _ => (pg_name (i := 1) sc.nd rfl (by first | exact .inl rfl | exact .inr rfl))) (fun _ _ _ _ _ => pts_nil) (fun _ _ _ _ _ => (pe_fn F_sum_llililti (hr.mono (by decide)) rfl (pa_cons (pv 0) (pa_cons (pe_lst (pa_cons (pv 1) pa_nil)) (pa_cons (pe_lst pa_nil) pa_nil))))))) pss_never), ?_⟩
    obtain ⟨r1, h_r1, hm⟩ := bindS hm
    obtain ⟨z4, h_z4, hm⟩ := bindS hm
    obtain ⟨t5, h_t5, hm⟩ := bindS hm
    have hv := Option.some.inj hm
    subst hv
    exact st_ret gL (ev_lcS (it_range1 (ev_lenW (ev_wI (ev_v h_grid_here rfl))) h_r1) (compS_mapO h_t5) (lnO_ok h_z4).1 (fun x_ v2_ s2_ o2_ t2_ B2_ H2_ x2_ r2_ hf2_ => by (obtain ⟨y2_, hy2_, hf2_⟩ := bindS hf2_; cases hf2_; have h_grid_here := Rel.mono _ x2_.b h_grid_here; obtain ⟨t3, h_t3, hy2_⟩ := bindS hy2_; exact turn_g (fun _ _ _ _ q => q) rfl rfl (Ev.is (ev_call gI (ea_cons (ev_v h_grid_here rfl) (ea_cons (ev_fz (ev_lst (R := qI) (eb_cons (ev_v r2_ rfl) eb_nil) (by show 1 ≤ 1000000; decide))) (ea_cons (ev_fz (ev_lst (R := (qT K qI)) eb_nil (by show 0 ≤ 1000000; decide))) ea_nil))) a_id h_t3) (Option.some.inj hy2_))))) w (fun _ _ _ => trivial) q)
abbrev N_is_state : List Str := ["size", "thing"]
theorem sc_is_state : FnScope N_is_state ["size", "thing"] (defScope s_is_state) := ⟨rfl, rfl, rfl, by decide +kernel, rfl, by decide +kernel, by decide +kernel⟩
theorem ok_is_state (T : Top K mg C_Table e_check_states e_forest_row) : Fn P w' K mg base 2 "is_state" ["size", "thing"] [] (spf (aCons qI (aCons qI aNil)) (fun d => M.is_state d.1 d.2.1) (pI qB)) :=
  mkFn T.d_is_state sc_is_state (al_spf (al_cons (al_cons al_nil))) (fun _ _ _ _ _ _ us hl => match us, hl with | [_, _], _ => rfl) (fun f cdv A outer s H0 vs Q E hr h => by
    obtain ⟨B0, d, r, e, hA, hm, q⟩ := h
    obtain ⟨size, thing, ⟨⟩⟩ := d
    obtain ⟨v_size, _, rfl, h_size, ⟨v_thing, _, rfl, h_thing, rfl⟩⟩ := hA
    have h_size : qI.r B0 v_size size := h_size
    have h_thing : qI.r B0 v_thing thing := h_thing
    have hm : M.is_state size thing = some r := hm
    have w := wd0 e
    unfold M.is_state at hm
    have sc := sc_is_state
    have F_is_int := ok_is_int (P := P) (w' := w') (base := base) T
    refine ⟨_, (pss_cons (ps_ret (pe_and (pe_fn F_is_int (hr.mono (by decide)) rfl (pa_cons (pv 1) pa_nil)) (pe_one (pe_chain op_le op_lt pe_int (pv 1) (pv 0))))) pss_never), ?_⟩
    obtain ⟨t1, h_t1, hm⟩ := bindS hm
    have hv := Option.some.inj hm
    subst hv
    exact st_ret gI (ev_andV' (ev_call gI (ea_cons (ev_v h_thing rfl) ea_nil) a_id h_t1) (ev_chI (g := (fun i j => decide (i ≤ j))) (g' := (fun i j => decide (i < j))) ev_int (ev_v h_thing rfl) (ev_v h_size rfl))) w (fun _ _ _ => trivial) q)
abbrev N_check_states_ititti : List Str := ["size", "states", "unlike", "place", "state", "first", "second"]
theorem sc_check_states_ititti : FnScope N_check_states_ititti ["size", "states", "unlike"] (defScope s_check_states) := ⟨rfl, rfl, rfl, by decide +kernel, rfl, by decide +kernel, by decide +kernel⟩
theorem ok_check_states_ititti_0 (T : Top K mg C_Table e_check_states e_forest_row) : Fn P w' K mg base 3 "check_states" ["size", "states", "unlike"] [V.ref e_check_states] (spf (aCons qI (aCons (qT K qI) (aCons (qT K (qT K qI)) aNil))) (fun d => M.check_states_ititti d.1 d.2.1 d.2.2.1) (pI qU)) :=
  mkFnD (dvs := [V.ref e_check_states]) 2 0 T.d_check_states sc_check_states_ititti (al_spf (al_cons (al_cons (al_cons al_nil)))) (by simp) rfl (fun _ _ _ _ _ _ _ us its hl hi => match us, its, hl, hi with | [_, _], [_], _, _ => ⟨_, rfl, rfl⟩) (fun f cdv A outer s H0 vs Q E hr h => by
    obtain ⟨B0, d, r, e, hA, hm, q⟩ := h
    obtain ⟨size, states, unlike, ⟨⟩⟩ := d
    obtain ⟨v_size, _, rfl, h_size, ⟨v_states, _, rfl, h_states, ⟨v_unlike, _, rfl, h_unlike, rfl⟩⟩⟩ := hA
    have h_size : qI.r B0 v_size size := h_size
    have h_states : (qT K qI).r B0 v_states states := h_states
    have h_unlike : (qT K (qT K qI)).r B0 v_unlike unlike := h_unlike
    have hm : M.check_states_ititti size states unlike = some r := hm
    have w := wd0 e
    unfold M.check_states_ititti at hm
    have sc := sc_check_states_ititti
    have F_is_state := ok_is_state (P := P) (w' := w') (base := base) T
    refine ⟨_, (pss_cons (ps_for PassesOwn.never rfl (kpi_enumT K rfl (by rfl) T.b_enumerate (pa_cons (pv 1) pa_nil)) (pg_tup rfl (pgs_cons (pg_name (i := 3) sc.nd rfl (by first | exact .inl rfl | exact .inr rfl)) (pgs_cons (pg_name (i := 4) sc.nd rfl (by first | exact .inl rfl | exact .inr rfl)) pgs_nil))) (pss_cons (ps_if (pt_not (pt_val (pe_fn F_is_state (hr.mono (by decide)) rfl (pa_cons (pv 0) (pa_cons (pv 4) pa_nil))))) pss_never pss_nil) pss_nil)) (pss_cons (ps_for PassesOwn.never rfl (kpi_tup K rfl (pv 2)) (pg_tup rfl (pgs_cons (pg_name (i := 5) sc.nd rfl (by first | exact .inl rfl | exact .inr rfl)) (pgs_cons (pg_name (i := 6) sc.nd rfl (by first | exact .inl rfl | exact .inr rfl)) pgs_nil))) (pss_cons (ps_if (pt_cmpR op_eq (pe_ix (kix_tup K rfl) (pv 1) (pv 5) (fun _ _ => rfl)) (pe_ix (kix_tup K rfl) (pv 1) (pv 6) (fun _ _ => rfl)) (nomark _)) pss_never pss_nil) pss_nil)) pss_nil)), ?_⟩
    obtain ⟨⟨⟩, hl1, hm⟩ := bindS hm
    refine st_for (st_forO (it_enumT (ev_v h_states rfl)) w.e w.c hl1 (fun Bs (b : Unit) σ B H => ∃ p1_3 : Option V, ∃ p1_4 : Option V, σ = [some v_size, some v_states, some v_unlike, p1_3, p1_4, none, none] ∧ Ex Bs B ∧ Ex B0 B ∧ Wd N0 B0 H0 c0 () B H ∧ True) ?_ ?_ ?_ ?_)
    · rintro _ _ _ _ _ ⟨_, _, rfl, e, -, w, -⟩
      exact ⟨e, w.e⟩
    · intro Bs1 Hs1 x1 c1
      exact ⟨_, _, rfl, .refl _, x1.b, w.step x1 c1, trivial⟩
    · rintro Bs1 ⟨place, state⟩ ⟨⟩ b1 σ1 B1p H1p ⟨p1_3, p1_4, rfl, e1, eo1, w1, -⟩ hm vi1 B1 H1 x1 r1
      rw [M.check_states_ititti_l1] at hm
      have h_size := Rel.mono _ (eo1.trans x1.b) h_size
      have h_states := Rel.mono _ (eo1.trans x1.b) h_states
      have h_unlike := Rel.mono _ (eo1.trans x1.b) h_unlike
      have e1 := e1.trans x1.b
      have eo1 := eo1.trans x1.b
      have w1 := w1.step x1.up (Cell.ext _ w1.c x1)
      obtain ⟨va1, vb1, h_place, h_state, tg1⟩ := tg_P (i := 3) (j := 4) r1
      refine tg1 _ _ _ (.refl _) x1.bh _ ?_
      obtain ⟨t2, h_t2, hm⟩ := bindS hm
      refine st_if (et_not (et_B (ev_call gI (ea_cons (ev_v h_size rfl) (ea_cons (ev_v h_state rfl) ea_nil)) a_id h_t2))) w1 (fun hA B3 H3 x3 w3 => ?_) (fun hA B3 H3 x3 w3 => ?_)
      · have hm := ifT hm hA
        have h_size := Rel.mono _ x3.b h_size
        have h_states := Rel.mono _ x3.b h_states
        have h_unlike := Rel.mono _ x3.b h_unlike
        have h_place := Rel.mono _ x3.b h_place
        have h_state := Rel.mono _ x3.b h_state
        have e1 := e1.trans x3.b
        have eo1 := eo1.trans x3.b
        cases hm
      · have hm := ifF hm hA
        have h_size := Rel.mono _ x3.b h_size
        have h_states := Rel.mono _ x3.b h_states
        have h_unlike := Rel.mono _ x3.b h_unlike
        have h_place := Rel.mono _ x3.b h_place
        have h_state := Rel.mono _ x3.b h_state
        have e1 := e1.trans x3.b
        have eo1 := eo1.trans x3.b
        refine st_nextT ?_
        refine st_next ?_
        have hv := Option.some.inj hm
        subst hv
        exact ⟨_, _, _, rfl, e1, eo1, w3, trivial⟩
    · rintro Bs1 σ1 Bd1 Hd1 ⟨p1_3, p1_4, rfl, ed1, eo1, wd1, -⟩
      refine nx_tz ?_
      have h_states := Rel.mono _ eo1 h_states
      have h_unlike := Rel.mono _ eo1 h_unlike
      obtain ⟨⟨⟩, hl4, hm⟩ := bindS hm
      refine st_for (st_forO (it_tup (ev_v h_unlike rfl)) wd1.e wd1.c hl4 (fun Bs (b : Unit) σ B H => ∃ p4_5 : Option V, ∃ p4_6 : Option V, σ = [some v_size, some v_states, some v_unlike, p1_3, p1_4, p4_5, p4_6] ∧ Ex Bs B ∧ Ex Bd1 B ∧ Wd N0 B0 H0 c0 () B H ∧ True) ?_ ?_ ?_ ?_)
      · rintro _ _ _ _ _ ⟨_, _, rfl, e, -, w, -⟩
        exact ⟨e, w.e⟩
      · intro Bs4 Hs4 x4 c4
        exact ⟨_, _, rfl, .refl _, x4.b, wd1.step x4 c4, trivial⟩
      · rintro Bs4 it5 ⟨⟩ b4 σ4 B4p H4p ⟨p4_5, p4_6, rfl, e4, eo4, w4, -⟩ hm vi4 B4 H4 x4 r4
        rw [M.check_states_ititti_l2] at hm
        have h_states := Rel.mono _ (eo4.trans x4.b) h_states
        have e4 := e4.trans x4.b
        have eo4 := eo4.trans x4.b
        have w4 := w4.step x4.up (Cell.ext _ w4.c x4)
        obtain ⟨⟨first, second⟩, h24, hmT⟩ := bindS hm
        clear hm
        have hm := hmT
        clear hmT
        have h24 := two_ok h24
        subst h24
        obtain ⟨va4, vb4, h_first, h_second, tg4⟩ := tg_T (i := 5) (j := 6) r4
        refine tg4 _ _ _ (.refl _) x4.bh _ ?_
        obtain ⟨t6, h_t6, hm⟩ := bindS hm
        obtain ⟨t7, h_t7, hm⟩ := bindS hm
        refine st_if (et_test (ev_eqI (ev_ixT (ev_v h_states rfl) (ev_v h_first rfl) h_t6) (ev_ixT (ev_v h_states rfl) (ev_v h_second rfl) h_t7))) w4 (fun hA B8 H8 x8 w8 => ?_) (fun hA B8 H8 x8 w8 => ?_)
        · have hm := ifT hm hA
          have h_states := Rel.mono _ x8.b h_states
          have h_first := Rel.mono _ x8.b h_first
          have h_second := Rel.mono _ x8.b h_second
          have e4 := e4.trans x8.b
          have eo4 := eo4.trans x8.b
          cases hm
        · have hm := ifF hm hA
          have h_states := Rel.mono _ x8.b h_states
          have h_first := Rel.mono _ x8.b h_first
          have h_second := Rel.mono _ x8.b h_second
          have e4 := e4.trans x8.b
          have eo4 := eo4.trans x8.b
          refine st_nextT ?_
          refine st_next ?_
          have hv := Option.some.inj hm
          subst hv
          exact ⟨_, _, _, rfl, e4, eo4, w8, trivial⟩
      · rintro Bs4 σ4 Bd4 Hd4 ⟨p4_5, p4_6, rfl, ed4, eo4, wd4, -⟩
        refine nx_tz ?_
        refine st_next ?_
        have hv := Option.some.inj hm
        subst hv
        exact q .non _ _ wd4.en trivial rfl)
theorem ok_check_states_ititti_1 (T : Top K mg C_Table e_check_states e_forest_row) : Fn P w' K mg base 3 "check_states" ["size", "states", "unlike"] [] (spf (aCons qI (aCons (qT K qI) (aCons (qT K (qT K qI)) aNil))) (fun d => M.check_states_ititti d.1 d.2.1 d.2.2.1) (pI qU)) :=
  mkFnD (dvs := [V.ref e_check_states]) 3 1 T.d_check_states sc_check_states_ititti (al_spf (al_cons (al_cons (al_cons al_nil)))) (by simp) rfl (fun _ _ _ _ _ _ _ us its hl hi => match us, its, hl, hi with | [_, _, _], [_], _, _ => ⟨_, rfl, rfl⟩) (fun f cdv A outer s H0 vs Q E hr h => by
    obtain ⟨B0, d, r, e, hA, hm, q⟩ := h
    obtain ⟨size, states, unlike, ⟨⟩⟩ := d
    obtain ⟨v_size, _, rfl, h_size, ⟨v_states, _, rfl, h_states, ⟨v_unlike, _, rfl, h_unlike, rfl⟩⟩⟩ := hA
    have h_size : qI.r B0 v_size size := h_size
    have h_states : (qT K qI).r B0 v_states states := h_states
    have h_unlike : (qT K (qT K qI)).r B0 v_unlike unlike := h_unlike
    have hm : M.check_states_ititti size states unlike = some r := hm
    have w := wd0 e
    unfold M.check_states_ititti at hm
    have sc := sc_check_states_ititti
    have F_is_state := ok_is_state (P := P) (w' := w') (base := base) T
    refine ⟨_, (pss_cons (ps_for PassesOwn.never rfl (kpi_enumT K rfl (by rfl) T.b_enumerate (pa_cons (pv 1) pa_nil)) (pg_tup rfl (pgs_cons (pg_name (i := 3) sc.nd rfl (by first | exact .inl rfl | exact .inr rfl)) (pgs_cons (pg_name (i := 4) sc.nd rfl (by first | exact .inl rfl | exact .inr rfl)) pgs_nil))) (pss_cons (ps_if (pt_not (pt_val (pe_fn F_is_state (hr.mono (by decide)) rfl (pa_cons (pv 0) (pa_cons (pv 4) pa_nil))))) pss_never pss_nil) pss_nil)) (pss_cons (ps_for PassesOwn.never rfl (kpi_tup K rfl (pv 2)) (pg_tup rfl (pgs_cons (pg_name (i := 5) sc.nd rfl (by first | exact .inl rfl | exact .inr rfl)) (pgs_cons (pg_name (i := 6) sc.nd rfl (by first | exact .inl rfl | exact .inr rfl)) pgs_nil))) (pss_cons (ps_if (pt_cmpR op_eq (pe_ix (kix_tup K rfl) (pv 1) (pv 5) (fun _ _ => rfl)) (pe_ix (kix_tup K rfl) (pv 1) (pv 6) (fun _ _ => rfl)) (nomark _)) pss_never pss_nil) pss_nil)) pss_nil)), ?_⟩
    obtain ⟨⟨⟩, hl1, hm⟩ := bindS hm
    refine st_for (st_forO (it_enumT (ev_v h_states rfl)) w.e w.c hl1 (fun Bs (b : Unit) σ B H => ∃ p1_3 : Option V, ∃ p1_4 : Option V, σ = [some v_size, some v_states, some v_unlike, p1_3, p1_4, none, none] ∧ Ex Bs B ∧ Ex B0 B ∧ Wd N0 B0 H0 c0 () B H ∧ True) ?_ ?_ ?_ ?_)
    · rintro _ _ _ _ _ ⟨_, _, rfl, e, -, w, -⟩
      exact ⟨e, w.e⟩
    · intro Bs1 Hs1 x1 c1
      exact ⟨_, _, rfl, .refl _, x1.b, w.step x1 c1, trivial⟩
    · rintro Bs1 ⟨place, state⟩ ⟨⟩ b1 σ1 B1p H1p ⟨p1_3, p1_4, rfl, e1, eo1, w1, -⟩ hm vi1 B1 H1 x1 r1
      rw [M.check_states_ititti_l1] at hm
      have h_size := Rel.mono _ (eo1.trans x1.b) h_size
      have h_states := Rel.mono _ (eo1.trans x1.b) h_states
      have h_unlike := Rel.mono _ (eo1.trans x1.b) h_unlike
      have e1 := e1.trans x1.b
      have eo1 := eo1.trans x1.b
      have w1 := w1.step x1.up (Cell.ext _ w1.c x1)
      obtain ⟨va1, vb1, h_place, h_state, tg1⟩ := tg_P (i := 3) (j := 4) r1
      refine tg1 _ _ _ (.refl _) x1.bh _ ?_
      obtain ⟨t2, h_t2, hm⟩ := bindS hm
      refine st_if (et_not (et_B (ev_call gI (ea_cons (ev_v h_size rfl) (ea_cons (ev_v h_state rfl) ea_nil)) a_id h_t2))) w1 (fun hA B3 H3 x3 w3 => ?_) (fun hA B3 H3 x3 w3 => ?_)
      · have hm := ifT hm hA
        have h_size := Rel.mono _ x3.b h_size
        have h_states := Rel.mono _ x3.b h_states
        have h_unlike := Rel.mono _ x3.b h_unlike
        have h_place := Rel.mono _ x3.b h_place
        have h_state := Rel.mono _ x3.b h_state
        have e1 := e1.trans x3.b
        have eo1 := eo1.trans x3.b
        cases hm
      · have hm := ifF hm hA
        have h_size := Rel.mono _ x3.b h_size
        have h_states := Rel.mono _ x3.b h_states
        have h_unlike := Rel.mono _ x3.b h_unlike
        have h_place := Rel.mono _ x3.b h_place
        have h_state := Rel.mono _ x3.b h_state
        have e1 := e1.trans x3.b
        have eo1 := eo1.trans x3.b
        refine st_nextT ?_
        refine st_next ?_
        have hv := Option.some.inj hm
        subst hv
        exact ⟨_, _, _, rfl, e1, eo1, w3, trivial⟩
    · rintro Bs1 σ1 Bd1 Hd1 ⟨p1_3, p1_4, rfl, ed1, eo1, wd1, -⟩
      refine nx_tz ?_
      have h_states := Rel.mono _ eo1 h_states
      have h_unlike := Rel.mono _ eo1 h_unlike
      obtain ⟨⟨⟩, hl4, hm⟩ := bindS hm
      refine st_for (st_forO (it_tup (ev_v h_unlike rfl)) wd1.e wd1.c hl4 (fun Bs (b : Unit) σ B H => ∃ p4_5 : Option V, ∃ p4_6 : Option V, σ = [some v_size, some v_states, some v_unlike, p1_3, p1_4, p4_5, p4_6] ∧ Ex Bs B ∧ Ex Bd1 B ∧ Wd N0 B0 H0 c0 () B H ∧ True) ?_ ?_ ?_ ?_)
      · rintro _ _ _ _ _ ⟨_, _, rfl, e, -, w, -⟩
        exact ⟨e, w.e⟩
      · intro Bs4 Hs4 x4 c4
        exact ⟨_, _, rfl, .refl _, x4.b, wd1.step x4 c4, trivial⟩
      · rintro Bs4 it5 ⟨⟩ b4 σ4 B4p H4p ⟨p4_5, p4_6, rfl, e4, eo4, w4, -⟩ hm vi4 B4 H4 x4 r4
        rw [M.check_states_ititti_l2] at hm
        have h_states := Rel.mono _ (eo4.trans x4.b) h_states
        have e4 := e4.trans x4.b
        have eo4 := eo4.trans x4.b
        have w4 := w4.step x4.up (Cell.ext _ w4.c x4)
        obtain ⟨⟨first, second⟩, h24, hmT⟩ := bindS hm
        clear hm
        have hm := hmT
        clear hmT
        have h24 := two_ok h24
        subst h24
        obtain ⟨va4, vb4, h_first, h_second, tg4⟩ := tg_T (i := 5) (j := 6) r4
        refine tg4 _ _ _ (.refl _) x4.bh _ ?_
        obtain ⟨t6, h_t6, hm⟩ := bindS hm
        obtain ⟨t7, h_t7, hm⟩ := bindS hm
        refine st_if (et_test (ev_eqI (ev_ixT (ev_v h_states rfl) (ev_v h_first rfl) h_t6) (ev_ixT (ev_v h_states rfl) (ev_v h_second rfl) h_t7))) w4 (fun hA B8 H8 x8 w8 => ?_) (fun hA B8 H8 x8 w8 => ?_)
        · have hm := ifT hm hA
          have h_states := Rel.mono _ x8.b h_states
          have h_first := Rel.mono _ x8.b h_first
          have h_second := Rel.mono _ x8.b h_second
          have e4 := e4.trans x8.b
          have eo4 := eo4.trans x8.b
          cases hm
        · have hm := ifF hm hA
          have h_states := Rel.mono _ x8.b h_states
          have h_first := Rel.mono _ x8.b h_first
          have h_second := Rel.mono _ x8.b h_second
          have e4 := e4.trans x8.b
          have eo4 := eo4.trans x8.b
          refine st_nextT ?_
          refine st_next ?_
          have hv := Option.some.inj hm
          subst hv
          exact ⟨_, _, _, rfl, e4, eo4, w8, trivial⟩
      · rintro Bs4 σ4 Bd4 Hd4 ⟨p4_5, p4_6, rfl, ed4, eo4, wd4, -⟩
        refine nx_tz ?_
        refine st_next ?_
        have hv := Option.some.inj hm
        subst hv
        exact q .non _ _ wd4.en trivial rfl)
abbrev N_states_of_iti : List Str := ["size", "thing", "found", "place", "entry"]
theorem sc_states_of_iti : FnScope N_states_of_iti ["size", "thing"] (defScope s_states_of) := ⟨rfl, rfl, rfl, by decide +kernel, rfl, by decide +kernel, by decide +kernel⟩
theorem ok_states_of_iti (T : Top K mg C_Table e_check_states e_forest_row) : Fn P w' K mg base 3 "states_of" ["size", "thing"] [] (spf (aCons qI (aCons (qT K qI) aNil)) (fun d => M.states_of_iti d.1 d.2.1) (pI (qT K qI))) :=
  mkFn T.d_states_of sc_states_of_iti (al_spf (al_cons (al_cons al_nil))) (fun _ _ _ _ _ _ us hl => match us, hl with | [_, _], _ => rfl) (fun f cdv A outer s H0 vs Q E hr h => by
    obtain ⟨B0, d, r, e, hA, hm, q⟩ := h
    obtain ⟨size, thing, ⟨⟩⟩ := d
    obtain ⟨v_size, _, rfl, h_size, ⟨v_thing, _, rfl, h_thing, rfl⟩⟩ := hA
    have h_size : qI.r B0 v_size size := h_size
    have h_thing : (qT K qI).r B0 v_thing thing := h_thing
    have hm : M.states_of_iti size thing = some r := hm
    have w := wd0 e
    unfold M.states_of_iti at hm
    have sc := sc_states_of_iti
    have F_is_state := ok_is_state (P := P) (w' := w') (base := base) T
    refine ⟨_, (pss_cons (ps_if (pt_not (pt_val (pe_callB (kcall_isiT K rfl) (by rfl) T.b_isinstance (by decide +kernel) (pa_cons (pv 1) (pa_cons (pe_tup (pa_cons (pe_bltn (v := .ty "list") (by rfl) T.b_list (by decide +kernel) rfl) (pa_cons (pe_bltn (v := .ty "tuple") (by rfl) T.b_tuple (by decide +kernel) rfl) pa_nil))) pa_nil))))) pss_never pss_nil) (pss_cons (ps_set (i := 2) sc.nd rfl (by first | exact .inl rfl | exact .inr rfl) (pe_lst pa_nil)) (pss_cons (ps_for PassesOwn.never rfl (kpi_enumT K rfl (by rfl) T.b_enumerate (pa_cons (pv 1) pa_nil)) (pg_tup rfl (pgs_cons (pg_name (i := 3) sc.nd rfl (by first | exact .inl rfl | exact .inr rfl)) (pgs_cons (pg_name (i := 4) sc.nd rfl (by first | exact .inl rfl | exact .inr rfl)) pgs_nil))) (pss_cons (ps_if (PW.pt (pw_or (pt_not (pt_val (pe_fn F_is_state (hr.mono (by decide)) rfl (pa_cons (pv 0) (pa_cons (pv 4) pa_nil))))) (pw_or1 (pt_cmpR (kop_in K rfl) (pv 4) (pv 2) (by rfl))))) pss_never pss_nil) (pss_cons (ps_expr (pe_bm PySem.F.plainAttrs_list PySem.F.slot_list_append PySem.F.type_list_append mt_append (pv 2) (pa_cons (pv 4) pa_nil))) pss_nil))) (pss_cons (ps_ret (pe_callTy (kcl_tuple K rfl) (by rfl) T.b_tuple (by decide +kernel) (pa_cons (pe_callB (kcr_sortedI K rfl) (by rfl) T.b_sorted (by decide +kernel) (pa_cons (pv 2) pa_nil)) pa_nil))) pss_never)))), ?_⟩
    refine st_if (et_not (et_B (ev_isi2 (b1 := false) (b2 := true) (ev_v h_thing rfl) (fun B H v e r => ty_T e r) (by decide +kernel) (by decide +kernel)))) w (fun hA B1 H1 x1 w1 => ?_) (fun hA B1 H1 x1 w1 => ?_)
    · have hm := ifT hm hA
      have h_size := Rel.mono _ x1.b h_size
      have h_thing := Rel.mono _ x1.b h_thing
      cases hm
    · have hm := ifF hm hA
      have h_size := Rel.mono _ x1.b h_size
      have h_thing := Rel.mono _ x1.b h_thing
      refine st_nextT ?_
      obtain ⟨found, e_found, hm⟩ := ltS hm
      refine st_setL (i := 2) (Ev.is (ev_lst (R := qI) eb_nil (by show 0 ≤ 1000000; decide)) e_found) w1 (fun l_found B2 H2 x2 w2 n2 o_found => ?_)
      have h_size := Rel.mono _ x2.b h_size
      have h_thing := Rel.mono _ x2.b h_thing
      obtain ⟨found_4, hl3, hm⟩ := bindS hm
      refine st_for (st_forO (it_enumT (ev_v h_thing rfl)) w2.e w2.c hl3 (fun Bs (b : (List Int)) σ B H => ∃ p3_3 : Option V, ∃ p3_4 : Option V, σ = [some v_size, some v_thing, some (.ref l_found), p3_3, p3_4] ∧ Ex Bs B ∧ Ex B2 B ∧ Wd N0 B0 H0 c0 () B H ∧ Own qI c0.N H0 B H l_found b ∧ True) ?_ ?_ ?_ ?_)
      · rintro _ _ _ _ _ ⟨_, _, rfl, e, -, w, -⟩
        exact ⟨e, w.e⟩
      · intro Bs3 Hs3 x3 c3
        have o_found := o_found.step x3
        exact ⟨_, _, rfl, .refl _, x3.b, w2.step x3 c3, o_found, trivial⟩
      · rintro Bs3 ⟨place, entry⟩ found_2 b3 σ3 B3p H3p ⟨p3_3, p3_4, rfl, e3, eo3, w3, f3_0, -⟩ hm vi3 B3 H3 x3 r3
        rw [M.states_of_iti_l1] at hm
        have o_found_2 : Own qI c0.N H0 _ _ l_found found_2 := f3_0
        have h_size := Rel.mono _ (eo3.trans x3.b) h_size
        have o_found_2 := o_found_2.step x3.up
        have e3 := e3.trans x3.b
        have eo3 := eo3.trans x3.b
        have w3 := w3.step x3.up (Cell.ext _ w3.c x3)
        obtain ⟨va3, vb3, h_place, h_entry, tg3⟩ := tg_P (i := 3) (j := 4) r3
        refine tg3 _ _ _ (.refl _) x3.bh _ ?_
        obtain ⟨t4, h_t4, hm⟩ := bindS hm
        refine st_if (et_or' (et_not (et_B (ev_call gI (ea_cons (ev_v h_size rfl) (ea_cons (ev_v h_entry rfl) ea_nil)) a_id h_t4))) (et_test (ev_inW (ev_v h_entry rfl) (ev_wO o_found_2 rfl)))) w3 (fun hA B5 H5 x5 w5 => ?_) (fun hA B5 H5 x5 w5 => ?_)
        · have hm := ifT hm hA
          have h_size := Rel.mono _ x5.b h_size
          have o_found_2 := o_found_2.step x5
          have h_place := Rel.mono _ x5.b h_place
          have h_entry := Rel.mono _ x5.b h_entry
          have e3 := e3.trans x5.b
          have eo3 := eo3.trans x5.b
          cases hm
        · have hm := ifF hm hA
          have h_size := Rel.mono _ x5.b h_size
          have o_found_2 := o_found_2.step x5
          have h_place := Rel.mono _ x5.b h_place
          have h_entry := Rel.mono _ x5.b h_entry
          have e3 := e3.trans x5.b
          have eo3 := eo3.trans x5.b
          refine st_nextT ?_
          obtain ⟨found_3, h_found_3, hm⟩ := bindS hm
          refine st_app o_found_2 rfl (ev_v h_entry rfl) w5 h_found_3 (fun B6 H6 G6 x6 hu6 w6 o_found_3 => ?_)
          have h_size := Rel.mono _ x6.b h_size
          have h_place := Rel.mono _ x6.b h_place
          have h_entry := Rel.mono _ x6.b h_entry
          have e3 := e3.trans x6.b
          have eo3 := eo3.trans x6.b
          refine st_next ?_
          have hv := Option.some.inj hm
          subst hv
          exact ⟨_, _, _, rfl, e3, eo3, w6, o_found_3, trivial⟩
      · rintro Bs3 σ3 Bd3 Hd3 ⟨p3_3, p3_4, rfl, ed3, eo3, wd3, f3_0, -⟩
        refine nx_tz ?_
        have o_found_4 : Own qI c0.N H0 _ _ l_found found_4 := f3_0
        have hv := Option.some.inj hm
        subst hv
        exact st_ret gI (ev_tupleW (ev_wL (ev_sortI (ev_wO o_found_4 rfl)))) wd3 (fun _ _ _ => trivial) q)
abbrev N_states_outside_Tti : List Str := ["table", "roots", "x"]
theorem sc_states_outside_Tti : FnScope N_states_outside_Tti ["table", "roots"] (defScope s_states_outside) := ⟨rfl, rfl, rfl, by decide +kernel, rfl, by decide +kernel, by decide +kernel⟩
theorem ok_states_outside_Tti (T : Top K mg C_Table e_check_states e_forest_row) : Fn P w' K mg base 1 "states_outside" ["table", "roots"] [] (spf (aCons (qTab K C_Table) (aCons (qT K qI) aNil)) (fun d => M.states_outside_Tti d.1 d.2.1) (pL qI)) :=
  mkFn T.d_states_outside sc_states_outside_Tti (al_spf (al_cons (al_cons al_nil))) (fun _ _ _ _ _ _ us hl => match us, hl with | [_, _], _ => rfl) (fun f cdv A outer s H0 vs Q E hr h => by
    obtain ⟨B0, d, r, e, hA, hm, q⟩ := h
    obtain ⟨table, roots, ⟨⟩⟩ := d
    obtain ⟨v_table, _, rfl, h_table, ⟨v_roots, _, rfl, h_roots, rfl⟩⟩ := hA
    have h_table : (qTab K C_Table).r B0 v_table table := h_table
    have h_roots : (qT K qI).r B0 v_roots roots := h_roots
    have hm : M.states_outside_Tti table roots = some r := hm
    have w := wd0 e
    unfold M.states_outside_Tti at hm
    have sc := sc_states_outside_Tti
    refine ⟨_, (pss_cons (ps_ret (pe_lc (own := [("x", 2)]) rfl sc.nd (pi_range1 (by rfl) T.b_range (pa_cons (kpe_fld K rfl (pv 0) rfl) pa_nil)) (blkOk_by (own := [("x", 2)]) (N := N_states_outside_Tti) (sc := defScope s_states_outside) (by decide +kernel)) (fun _ _ _ _ _ => (pg_name (i := 2) sc.nd rfl (by first | exact .inl rfl | exact .inr rfl))) (fun _ _ _ _ _ => (pts_one (pt_cmpR (kop_notIn K rfl) (pv 2) (pv 1) (by rfl)))) (fun _ _ _ _ _ => (pv 2)))) pss_never), ?_⟩
    obtain ⟨r1, h_r1, hm⟩ := bindS hm
    obtain ⟨z3, h_z3, hm⟩ := bindS hm
    have hv := Option.some.inj hm
    subst hv
    exact st_ret gL (ev_lcS (it_range1 (ev_size T.cl_Table T.n_Table_size (ev_v h_table rfl)) h_r1) (compS_filt (fun x_ => (!(decide (x_ ∈ roots)))) (fun x_ => x_) _ r1) (lnO_ok h_z3).1 (fun x_ v2_ s2_ o2_ t2_ B2_ H2_ x2_ r2_ hf2_ => by (cases hf2_; have h_table := Rel.mono _ x2_.b h_table; have h_roots := Rel.mono _ x2_.b h_roots; exact turn_t (fun _ _ _ _ q => q) rfl (et_test (ev_niT (ev_v r2_ rfl) (ev_v h_roots rfl))) (fun hA => ⟨_, if_pos hA, (ev_v r2_ rfl)⟩) (fun hA => ⟨if_neg (by rw [hA]; exact Bool.false_ne_true), rfl⟩)))) w (fun _ _ _ => trivial) q)
abbrev N_left_rows_Tli : List Str := ["table", "outside", "rows", "x", "y"]
theorem sc_left_rows_Tli : FnScope N_left_rows_Tli ["table", "outside"] (defScope s_left_rows) := ⟨rfl, rfl, rfl, by decide +kernel, rfl, by decide +kernel, by decide +kernel⟩
theorem ok_left_rows_Tli (T : Top K mg C_Table e_check_states e_forest_row) : Fn P w' K mg base 1 "left_rows" ["table", "outside"] [] (spf (aCons (qTab K C_Table) (aCons (qL qI) aNil)) (fun d => M.left_rows_Tli d.1 d.2.1) (pL (qL qI))) :=
  mkFn T.d_left_rows sc_left_rows_Tli (al_spf (al_cons (al_cons al_nil))) (fun _ _ _ _ _ _ us hl => match us, hl with | [_, _], _ => rfl) (fun f cdv A outer s H0 vs Q E hr h => by
    obtain ⟨B0, d, r, e, hA, hm, q⟩ := h
    obtain ⟨table, outside, ⟨⟩⟩ := d
    obtain ⟨v_table, _, rfl, h_table, ⟨v_outside, _, rfl, h_outside, rfl⟩⟩ := hA
    have h_table : (qTab K C_Table).r B0 v_table table := h_table
    have h_outside : (qL qI).r B0 v_outside outside := h_outside
    have hm : M.left_rows_Tli table outside = some r := hm
    have w := wd0 e
    unfold M.left_rows_Tli at hm
    have sc := sc_left_rows_Tli
    refine ⟨_, (pss_cons (ps_set (i := 2) sc.nd rfl (by first | exact .inl rfl | exact .inr rfl) (kpe_fld K rfl (pv 0) rfl)) (pss_cons (ps_ret (pe_lc (own := [("x", 3)]) rfl sc.nd (kpi_list K rfl (pv 1)) (blkOk_by (own := [("x", 3)]) (N := N_left_rows_Tli) (sc := defScope s_left_rows) (by decide +kernel)) (fun _ _ _ _ _ => (pg_name (i := 3) sc.nd rfl (by first | exact .inl rfl | exact .inr rfl))) (fun _ _ _ _ _ => pts_nil) (fun _ _ _ _ _ => (pe_lc (own := [("y", 4)]) rfl sc.nd (kpi_list K rfl (pv 1)) (by refine blkOk_by (own := [("y", 4)]) (N := N_left_rows_Tli) (sc := L2.relS _ (defScope s_left_rows)) ?_; decide +kernel) (fun _ _ _ _ _ => (pg_name (i := 4) sc.nd rfl (by first | exact .inl rfl | exact .inr rfl))) (fun _ _ _ _ _ => pts_nil) (fun _ _ _ _ _ => (pe_ifExp (pt_cmpR op_eq (pv 3) (pv 4) (nomark _)) (pe_callB (kcr_sumT K rfl rfl) (by rfl) T.b_sum (by decide +kernel) (pa_cons (pe_ix (kix_tup K rfl) (pv 2) (pv 3) (fun _ _ => rfl)) pa_nil)) (pe_un un_neg (pe_ix (kix_tup K rfl) (pe_ix (kix_tup K rfl) (pv 2) (pv 3) (fun _ _ => rfl)) (pv 4) (fun _ _ => rfl))))))))) pss_never)), ?_⟩
    obtain ⟨rows, e_rows, hm⟩ := ltS hm
    refine st_set (i := 2) (Ev.is (ev_rows T.cl_Table T.n_Table_rows (ev_v h_table rfl)) e_rows) w (fun v_rows B1 H1 x1 w1 h_rows => ?_)
    have h_outside := Rel.mono _ x1.b h_outside
    obtain ⟨z10, h_z10, hm⟩ := bindS hm
    obtain ⟨t11, h_t11, hm⟩ := bindS hm
    have hv := Option.some.inj hm
    subst hv
    exact st_ret gL (ev_lcS (it_list (ev_v h_outside rfl)) (compS_mapO h_t11) (lnO_ok h_z10).1 (fun x_ v2_ s2_ o2_ t2_ B2_ H2_ x2_ r2_ hf2_ => by (obtain ⟨y2_, hy2_, hf2_⟩ := bindS hf2_; cases hf2_; have h_outside := Rel.mono _ x2_.b h_outside; have h_rows := Rel.mono _ x2_.b h_rows; obtain ⟨z8, h_z8, hy2_⟩ := bindS hy2_; obtain ⟨t9, h_t9, hy2_⟩ := bindS hy2_; exact turn_g (fun _ _ _ _ q => q) rfl rfl (Ev.is (ev_fz (ev_lcS (it_list (ev_v h_outside rfl)) (compS_mapO h_t9) (lnO_ok h_z8).1 (fun y_ v3_ s3_ o3_ t3_ B3_ H3_ x3_ r3_ hf3_ => by (obtain ⟨y3_, hy3_, hf3_⟩ := bindS hf3_; cases hf3_; have h_outside := Rel.mono _ x3_.b h_outside; have h_rows := Rel.mono _ x3_.b h_rows; have r2_ := Rel.mono _ x3_.b r2_; obtain ⟨t7, h_t7, hy3_⟩ := bindS hy3_; exact turn_g (fun _ _ _ _ q => q) rfl rfl (Ev.is (ev_if (d := t7) (et_test (ev_eqI (ev_v r2_ rfl) (ev_v r3_ rfl))) (fun hA => by (have hk := ifT h_t7 hA; obtain ⟨t4, h_t4, hk⟩ := bindS hk; have hv := Option.some.inj hk; subst hv; exact (ev_sumT (ev_ixT (ev_v h_rows rfl) (ev_v r2_ rfl) h_t4)))) (fun hA => by (have hk := ifF h_t7 hA; obtain ⟨t5, h_t5, hk⟩ := bindS hk; obtain ⟨t6, h_t6, hk⟩ := bindS hk; have hv := Option.some.inj hk; subst hv; exact (ev_neg (ev_ixT (ev_ixT (ev_v h_rows rfl) (ev_v r2_ rfl) h_t5) (ev_v r3_ rfl) h_t6))))) (Option.some.inj hy3_)))))) (Option.some.inj hy2_))))) w1 (fun _ _ _ => trivial) q)
abbrev N_corner_row_llii : List Str := ["work", "at", "place"]
theorem sc_corner_row_llii : FnScope N_corner_row_llii ["work", "at"] (defScope s_corner_row) := ⟨rfl, rfl, rfl, by decide +kernel, rfl, by decide +kernel, by decide +kernel⟩
theorem ok_corner_row_llii (T : Top K mg C_Table e_check_states e_forest_row) : Fn P w' K mg base 1 "corner_row" ["work", "at"] [] (spf (aCons (qL (qL qI)) (aCons qI aNil)) (fun d => M.corner_row_llii d.1 d.2.1) (pI qI)) :=
  mkFn T.d_corner_row sc_corner_row_llii (al_spf (al_cons (al_cons al_nil))) (fun _ _ _ _ _ _ us hl => match us, hl with | [_, _], _ => rfl) (fun f cdv A outer s H0 vs Q E hr h => by
    obtain ⟨B0, d, r, e, hA, hm, q⟩ := h
    obtain ⟨work, at_, ⟨⟩⟩ := d
    obtain ⟨v_work, _, rfl, h_work, ⟨v_at_, _, rfl, h_at_, rfl⟩⟩ := hA
    have h_work : (qL (qL qI)).r B0 v_work work := h_work
    have h_at_ : qI.r B0 v_at_ at_ := h_at_
    have hm : M.corner_row_llii work at_ = some r := hm
    have w := wd0 e
    unfold M.corner_row_llii at hm
    have sc := sc_corner_row_llii
    refine ⟨_, (pss_cons (ps_for PassesOwn.never rfl (pi_range2 (by rfl) T.b_range (pa_cons (pv 1) (pa_cons (pe_callB (kcl_len K rfl) (by rfl) T.b_len PySem.boot_len (pa_cons (pv 0) pa_nil)) pa_nil))) (pg_name (i := 2) sc.nd rfl (by first | exact .inl rfl | exact .inr rfl)) (pss_cons (ps_if (pt_cmpR op_ne (pe_ix (kix_list K rfl) (pe_ix (kix_list K rfl) (pv 0) (pv 2) (fun _ _ => rfl)) (pv 1) (fun _ _ => rfl)) pe_int (nomark _)) (pss_cons (ps_ret (pv 2)) pss_never) pss_nil) pss_nil)) (pss_cons (ps_ret (pe_un un_neg pe_int)) pss_never)), ?_⟩
    obtain ⟨r1, h_r1, hm⟩ := bindS hm
    obtain ⟨c2, hl2, hm⟩ := bindS hm
    have k2 : ∀ r', c2 = .rt r' → r' = r := fun r' e => by (subst e; exact Option.some.inj hm)
    refine st_for (st_forC (it_range2 (ev_v h_at_ rfl) (ev_lenW (ev_wI (ev_v h_work rfl))) h_r1) w.e w.c hl2 (fun Bs (b : Unit) σ B H => ∃ p2_2 : Option V, σ = [some v_work, some v_at_, p2_2] ∧ Ex Bs B ∧ Ex B0 B ∧ Wd N0 B0 H0 c0 () B H ∧ True) ?_ ?_ ?_ ?_)
    · rintro _ _ _ _ _ ⟨_, rfl, e, -, w, -⟩
      exact ⟨e, w.e⟩
    · intro Bs2 Hs2 x2 c2
      exact ⟨_, rfl, .refl _, x2.b, w.step x2 c2, trivial⟩
    · rintro Bs2 place ⟨⟩ b2 σ2 B2p H2p ⟨p2_2, rfl, e2, eo2, w2, -⟩ hm hq2 vi2 B2 H2 x2 r2 -
      rw [M.corner_row_llii_l1] at hm
      have h_work := Rel.mono _ (eo2.trans x2.b) h_work
      have h_at_ := Rel.mono _ (eo2.trans x2.b) h_at_
      have e2 := e2.trans x2.b
      have eo2 := eo2.trans x2.b
      have w2 := w2.step x2.up (Cell.ext _ w2.c x2)
      have h_place := r2
      refine tgn ?_
      obtain ⟨t3, h_t3, hm⟩ := bindS hm
      obtain ⟨t4, h_t4, hm⟩ := bindS hm
      refine st_if (et_test (ev_neI (ev_ixW (ev_wI (ev_ixW (ev_wI (ev_v h_work rfl)) (ev_v h_place rfl) h_t3)) (ev_v h_at_ rfl) h_t4) ev_int)) w2 (fun hA B5 H5 x5 w5 => ?_) (fun hA B5 H5 x5 w5 => ?_)
      · have hm := ifT hm hA
        have h_work := Rel.mono _ x5.b h_work
        have h_at_ := Rel.mono _ x5.b h_at_
        have h_place := Rel.mono _ x5.b h_place
        have e2 := e2.trans x5.b
        have eo2 := eo2.trans x5.b
        have hm := Option.some.inj hm
        have hv := k2 _ (hq2 _ hm.symm)
        subst hv
        exact st_ret gI (ev_v h_place rfl) w5 (fun _ _ _ => trivial) q
      · have hm := ifF hm hA
        have h_work := Rel.mono _ x5.b h_work
        have h_at_ := Rel.mono _ x5.b h_at_
        have h_place := Rel.mono _ x5.b h_place
        have e2 := e2.trans x5.b
        have eo2 := eo2.trans x5.b
        refine st_nextT ?_
        refine st_next ?_
        have hv := Option.some.inj hm
        subst hv
        exact ⟨_, _, rfl, _, rfl, e2, eo2, w5, trivial⟩
    · rintro Bs2 ⟨⟩ σ2 Bd2 Hd2 ⟨p2_2, rfl, ed2, eo2, wd2, -⟩ hf2
      subst hf2
      refine nx_tz ?_
      have hv := Option.some.inj hm
      subst hv
      exact st_ret gI (ev_neg ev_int) wd2 (fun _ _ _ => trivial) q)
abbrev N_cleared_lliii : List Str := ["work", "at", "last", "corner", "rows", "row", "crossed", "k", "entry"]
theorem sc_cleared_lliii : FnScope N_cleared_lliii ["work", "at", "last"] (defScope s_cleared) := ⟨rfl, rfl, rfl, by decide +kernel, rfl, by decide +kernel, by decide +kernel⟩
theorem ok_cleared_lliii (T : Top K mg C_Table e_check_states e_forest_row) : Fn P w' K mg base 1 "cleared" ["work", "at", "last"] [] (spf (aCons (qL (qL qI)) (aCons qI (aCons qI aNil))) (fun d => M.cleared_lliii d.1 d.2.1 d.2.2.1) (pL (qL qI))) :=
  mkFn T.d_cleared sc_cleared_lliii (al_spf (al_cons (al_cons (al_cons al_nil)))) (fun _ _ _ _ _ _ us hl => match us, hl with | [_, _, _], _ => rfl) (fun f cdv A outer s H0 vs Q E hr h => by
    obtain ⟨B0, d, r, e, hA, hm, q⟩ := h
    obtain ⟨work, at_, last, ⟨⟩⟩ := d
    obtain ⟨v_work, _, rfl, h_work, ⟨v_at_, _, rfl, h_at_, ⟨v_last, _, rfl, h_last, rfl⟩⟩⟩ := hA
    have h_work : (qL (qL qI)).r B0 v_work work := h_work
    have h_at_ : qI.r B0 v_at_ at_ := h_at_
    have h_last : qI.r B0 v_last last := h_last
    have hm : M.cleared_lliii work at_ last = some r := hm
    have w := wd0 e
    unfold M.cleared_lliii at hm
    have sc := sc_cleared_lliii
    refine ⟨_, (pss_cons (ps_set (i := 3) sc.nd rfl (by first | exact .inl rfl | exact .inr rfl) (pe_ix (kix_list K rfl) (pv 0) (pv 1) (fun _ _ => rfl))) (pss_cons (ps_set (i := 4) sc.nd rfl (by first | exact .inl rfl | exact .inr rfl) (pe_lst pa_nil)) (pss_cons (ps_for PassesOwn.never rfl (kpi_list K rfl (pe_slice (ksl_list K rfl) (pv 0) (po_some (pe_op op_add (pv 1) pe_int)) po_none)) (pg_name (i := 5) sc.nd rfl (by first | exact .inl rfl | exact .inr rfl)) (pss_cons (ps_setLc (i := 6) (own := [("k", 7)]) rfl sc.nd rfl rfl (sw_true rfl rfl rfl (by decide +kernel)) (pi_range1 (by rfl) T.b_range (pa_cons (pe_callB (kcl_len K rfl) (by rfl) T.b_len PySem.boot_len (pa_cons (pv 5) pa_nil)) pa_nil)) (blkOk_by (own := [("k", 7)]) (N := N_cleared_lliii) (sc := defScope s_cleared) (by decide +kernel)) (fun _ _ _ _ _ => (pg_name (i := 7) sc.nd rfl (by first | exact .inl rfl | exact .inr rfl))) (fun _ _ _ _ _ => pts_nil) (fun _ _ _ _ _ => (pe_op op_sub (pe_op op_mulW (pe_ix (kix_list K rfl) (pv 5) (pv 7) (fun _ _ => rfl)) (pe_ix (kix_list K rfl) (pv 3) (pv 1) (fun _ _ => rfl))) (pe_op op_mulW (pe_ix (kix_list K rfl) (pv 5) (pv 1) (fun _ _ => rfl)) (pe_ix (kix_list K rfl) (pv 3) (pv 7) (fun _ _ => rfl)))))) (pss_cons (ps_expr (pe_bm PySem.F.plainAttrs_list PySem.F.slot_list_append PySem.F.type_list_append mt_append (pv 4) (pa_cons (pe_lc (own := [("entry", 8)]) rfl sc.nd (kpi_list K rfl (pv 6)) (blkOk_by (own := [("entry", 8)]) (N := N_cleared_lliii) (sc := defScope s_cleared) (by decide +kernel)) (fun _ _ _ _ _ => (pg_name (i := 8) sc.nd rfl (by first | exact .inl rfl | exact .inr rfl))) (fun _ _ _ _ _ => pts_nil) (fun _ _ _ _ _ => (pe_op op_fdivZ (pv 8) (pv 2)))) pa_nil))) pss_nil))) (pss_cons (ps_ret (pv 4)) pss_never)))), ?_⟩
    obtain ⟨corner, h_corner, hm⟩ := bindS hm
    refine st_set (i := 3) (ev_ixW (ev_wI (ev_v h_work rfl)) (ev_v h_at_ rfl) h_corner) w (fun v_corner B2 H2 x2 w2 h_corner => ?_)
    have h_work := Rel.mono _ x2.b h_work
    have h_at_ := Rel.mono _ x2.b h_at_
    have h_last := Rel.mono _ x2.b h_last
    obtain ⟨rows, e_rows, hm⟩ := ltS hm
    refine st_setL (i := 4) (Ev.is (ev_lst (R := (qL qI)) eb_nil (by show 0 ≤ 1000000; decide)) e_rows) w2 (fun l_rows B3 H3 x3 w3 n3 o_rows => ?_)
    have h_work := Rel.mono _ x3.b h_work
    have h_at_ := Rel.mono _ x3.b h_at_
    have h_last := Rel.mono _ x3.b h_last
    have h_corner := Rel.mono _ x3.b h_corner
    obtain ⟨rows_4, hl4, hm⟩ := bindS hm
    refine st_for (st_forO (it_list (ev_fz (ev_slL (ev_wI (ev_v h_work rfl)) (eo_some (ev_add (ev_v h_at_ rfl) ev_int)) eo_none))) w3.e w3.c hl4 (fun Bs (b : (List (List Int))) σ B H => ∃ p4_5 : Option V, ∃ p4_6 : Option V, σ = [some v_work, some v_at_, some v_last, some v_corner, some (.ref l_rows), p4_5, p4_6, none, none] ∧ Ex Bs B ∧ Ex B3 B ∧ Wd N0 B0 H0 c0 () B H ∧ Own (qL qI) c0.N H0 B H l_rows b ∧ True) ?_ ?_ ?_ ?_)
    · rintro _ _ _ _ _ ⟨_, _, rfl, e, -, w, -⟩
      exact ⟨e, w.e⟩
    · intro Bs4 Hs4 x4 c4
      have o_rows := o_rows.step x4
      exact ⟨_, _, rfl, .refl _, x4.b, w3.step x4 c4, o_rows, trivial⟩
    · rintro Bs4 row rows_2 b4 σ4 B4p H4p ⟨p4_5, p4_6, rfl, e4, eo4, w4, f4_0, -⟩ hm vi4 B4 H4 x4 r4
      rw [M.cleared_lliii_l1] at hm
      have o_rows_2 : Own (qL qI) c0.N H0 _ _ l_rows rows_2 := f4_0
      have h_at_ := Rel.mono _ (eo4.trans x4.b) h_at_
      have h_last := Rel.mono _ (eo4.trans x4.b) h_last
      have h_corner := Rel.mono _ (eo4.trans x4.b) h_corner
      have o_rows_2 := o_rows_2.step x4.up
      have e4 := e4.trans x4.b
      have eo4 := eo4.trans x4.b
      have w4 := w4.step x4.up (Cell.ext _ w4.c x4)
      have h_row := r4
      refine tgn ?_
      obtain ⟨r5, h_r5, hm⟩ := bindS hm
      obtain ⟨z13, h_z13, hm⟩ := bindS hm
      obtain ⟨crossed, h_crossed, hm⟩ := bindS hm
      refine st_set (i := 6) (ev_fz (ev_lcS (it_range1 (ev_lenW (ev_wI (ev_v h_row rfl))) h_r5) (compS_mapO h_crossed) (lnO_ok h_z13).1 (fun k_ v6_ s6_ o6_ t6_ B6_ H6_ x6_ r6_ hf6_ => by (obtain ⟨y6_, hy6_, hf6_⟩ := bindS hf6_; cases hf6_; have h_at_ := Rel.mono _ x6_.b h_at_; have h_last := Rel.mono _ x6_.b h_last; have h_corner := Rel.mono _ x6_.b h_corner; have o_rows_2 := o_rows_2.step x6_; have h_row := Rel.mono _ x6_.b h_row; obtain ⟨t7, h_t7, hy6_⟩ := bindS hy6_; obtain ⟨t8, h_t8, hy6_⟩ := bindS hy6_; obtain ⟨t9, h_t9, hy6_⟩ := bindS hy6_; obtain ⟨t10, h_t10, hy6_⟩ := bindS hy6_; obtain ⟨t11, h_t11, hy6_⟩ := bindS hy6_; obtain ⟨t12, h_t12, hy6_⟩ := bindS hy6_; exact turn_g (fun _ _ _ _ q => q) rfl rfl (Ev.is (ev_sub (ev_mul (ev_ixW (ev_wI (ev_v h_row rfl)) (ev_v r6_ rfl) h_t7) (ev_ixW (ev_wI (ev_v h_corner rfl)) (ev_v h_at_ rfl) h_t8) h_t9) (ev_mul (ev_ixW (ev_wI (ev_v h_row rfl)) (ev_v h_at_ rfl) h_t10) (ev_ixW (ev_wI (ev_v h_corner rfl)) (ev_v r6_ rfl) h_t11) h_t12)) (Option.some.inj hy6_)))))) w4 (fun v_crossed B15 H15 x15 w15 h_crossed => ?_)
      have h_at_ := Rel.mono _ x15.b h_at_
      have h_last := Rel.mono _ x15.b h_last
      have h_corner := Rel.mono _ x15.b h_corner
      have o_rows_2 := o_rows_2.step x15
      have h_row := Rel.mono _ x15.b h_row
      have e4 := e4.trans x15.b
      have eo4 := eo4.trans x15.b
      obtain ⟨z18, h_z18, hm⟩ := bindS hm
      obtain ⟨t19, h_t19, hm⟩ := bindS hm
      obtain ⟨rows_3, h_rows_3, hm⟩ := bindS hm
      refine st_app o_rows_2 rfl (ev_fz (ev_lcS (it_list (ev_v h_crossed rfl)) (compS_mapO h_t19) (lnO_ok h_z18).1 (fun entry v16_ s16_ o16_ t16_ B16_ H16_ x16_ r16_ hf16_ => by (obtain ⟨y16_, hy16_, hf16_⟩ := bindS hf16_; cases hf16_; have h_at_ := Rel.mono _ x16_.b h_at_; have h_last := Rel.mono _ x16_.b h_last; have h_corner := Rel.mono _ x16_.b h_corner; have o_rows_2 := o_rows_2.step x16_; have h_row := Rel.mono _ x16_.b h_row; have h_crossed := Rel.mono _ x16_.b h_crossed; obtain ⟨t17, h_t17, hy16_⟩ := bindS hy16_; exact turn_g (fun _ _ _ _ q => q) rfl rfl (Ev.is (ev_div (ev_v r16_ rfl) (ev_v h_last rfl) h_t17) (Option.some.inj hy16_)))))) w15 h_rows_3 (fun B20 H20 G20 x20 hu20 w20 o_rows_3 => ?_)
      have h_at_ := Rel.mono _ x20.b h_at_
      have h_last := Rel.mono _ x20.b h_last
      have h_corner := Rel.mono _ x20.b h_corner
      have h_row := Rel.mono _ x20.b h_row
      have h_crossed := Rel.mono _ x20.b h_crossed
      have e4 := e4.trans x20.b
      have eo4 := eo4.trans x20.b
      refine st_next ?_
      have hv := Option.some.inj hm
      subst hv
      exact ⟨_, _, _, rfl, e4, eo4, w20, o_rows_3, trivial⟩
    · rintro Bs4 σ4 Bd4 Hd4 ⟨p4_5, p4_6, rfl, ed4, eo4, wd4, f4_0, -⟩
      refine nx_tz ?_
      have o_rows_4 : Own (qL qI) c0.N H0 _ _ l_rows rows_4 := f4_0
      have hv := Option.some.inj hm
      subst hv
      exact st_retO o_rows_4 rfl wd4 (fun _ _ _ => trivial) q)
abbrev N_determinant_lli : List Str := ["rows", "work", "sign", "last", "at", "place", "row"]
theorem sc_determinant_lli : FnScope N_determinant_lli ["rows"] (defScope s_determinant) := ⟨rfl, rfl, rfl, by decide +kernel, rfl, by decide +kernel, by decide +kernel⟩
theorem ok_determinant_lli (T : Top K mg C_Table e_check_states e_forest_row) : Fn P w' K mg base 2 "determinant" ["rows"] [] (spf (aCons (qL (qL qI)) aNil) (fun d => M.determinant_lli d.1) (pI qI)) :=
  mkFn T.d_determinant sc_determinant_lli (al_spf (al_cons al_nil)) (fun _ _ _ _ _ _ us hl => match us, hl with | [_], _ => rfl) (fun f cdv A outer s H0 vs Q E hr h => by
    obtain ⟨B0, d, r, e, hA, hm, q⟩ := h
    obtain ⟨rows, ⟨⟩⟩ := d
    obtain ⟨v_rows, _, rfl, h_rows, rfl⟩ := hA
    have h_rows : (qL (qL qI)).r B0 v_rows rows := h_rows
    have hm : M.determinant_lli rows = some r := hm
    have w := wd0 e
    unfold M.determinant_lli at hm
    have sc := sc_determinant_lli
    have F_corner_row_llii := ok_corner_row_llii (P := P) (w' := w') (base := base) T
    have F_cleared_lliii := ok_cleared_lliii (P := P) (w' := w') (base := base) T
    refine ⟨_, (pss_cons (ps_setLc (i := 1) (own := [("row", 6)]) rfl sc.nd rfl rfl (sw_true rfl rfl rfl (by decide +kernel)) (kpi_list K rfl (pv 0)) (blkOk_by (own := [("row", 6)]) (N := N_determinant_lli) (sc := defScope s_determinant) (by decide +kernel)) (fun _ _ _ _ _ => (pg_name (i := 6) sc.nd rfl (by first | exact .inl rfl | exact .inr rfl))) (fun _ _ _ _ _ => pts_nil) (fun _ _ _ _ _ => (pe_callTy (kcl_list K rfl) (by rfl) T.b_list (by decide +kernel) (pa_cons (pv 6) pa_nil)))) (pss_cons (ps_set (i := 2) sc.nd rfl (by first | exact .inl rfl | exact .inr rfl) pe_int) (pss_cons (ps_set (i := 3) sc.nd rfl (by first | exact .inl rfl | exact .inr rfl) pe_int) (pss_cons (ps_for PassesOwn.never rfl (pi_range1 (by rfl) T.b_range (pa_cons (pe_callB (kcl_len K rfl) (by rfl) T.b_len PySem.boot_len (pa_cons (pv 1) pa_nil)) pa_nil)) (pg_name (i := 4) sc.nd rfl (by first | exact .inl rfl | exact .inr rfl)) (pss_cons (ps_set (i := 5) sc.nd rfl (by first | exact .inl rfl | exact .inr rfl) (pe_fn F_corner_row_llii (hr.mono (by decide)) rfl (pa_cons (pv 1) (pa_cons (pv 4) pa_nil)))) (pss_cons (ps_if (pt_cmpR op_lt (pv 5) pe_int (nomark _)) (pss_cons (ps_ret pe_int) pss_never) pss_nil) (Evl.pss_cut (ps_if (pt_cmpR op_ne (pv 5) (pv 4) (nomark _)) (pss_cons (ps_asg (pe_tup (pa_cons (pe_ix (kix_list K rfl) (pv 1) (pv 5) (fun _ _ => rfl)) (pa_cons (pe_ix (kix_list K rfl) (pv 1) (pv 4) (fun _ _ => rfl)) pa_nil))) (pg_tup rfl (pgs_cons (pg_sub (pv 1) (pv 4) set_list) (pgs_cons (pg_sub (pv 1) (pv 5) set_list) pgs_nil)))) (pss_cons (ps_set (i := 2) sc.nd rfl (by first | exact .inl rfl | exact .inr rfl) (pe_un un_neg (pv 2))) pss_nil)) pss_nil) (pss_cons (ps_set (i := 1) sc.nd rfl (by first | exact .inl rfl | exact .inr rfl) (pe_op op_cat (pe_slice (ksl_list K rfl) (pv 1) po_none (po_some (pe_op op_add (pv 4) pe_int))) (pe_fn F_cleared_lliii (hr.mono (by decide)) rfl (pa_cons (pv 1) (pa_cons (pv 4) (pa_cons (pv 3) pa_nil)))))) (pss_cons (ps_set (i := 3) sc.nd rfl (by first | exact .inl rfl | exact .inr rfl) (pe_ix (kix_list K rfl) (pe_ix (kix_list K rfl) (pv 1) (pv 4) (fun _ _ => rfl)) (pv 4) (fun _ _ => rfl))) pss_nil)))))) (pss_cons (ps_ret (pe_op op_mulW (pv 2) (pv 3))) pss_never))))), ?_⟩
    obtain ⟨z2, h_z2, hm⟩ := bindS hm
    obtain ⟨work, e_work, hm⟩ := ltS hm
    refine st_setL (i := 1) (Ev.is (ev_lcS (it_list (ev_v h_rows rfl)) (compS_map (fun row => row) _ rows) (lnO_ok h_z2).1 (fun row v1_ s1_ o1_ t1_ B1_ H1_ x1_ r1_ hf1_ => by (cases hf1_; have h_rows := Rel.mono _ x1_.b h_rows; exact turn_g (fun _ _ _ _ q => q) rfl rfl (ev_fz (ev_listW (ev_wI (ev_v r1_ rfl))))))) e_work) w (fun l_work B3 H3 x3 w3 n3 o_work => ?_)
    obtain ⟨sign, e_sign, hm⟩ := ltS hm
    refine st_set (i := 2) (Ev.is ev_int e_sign) w3 (fun v_sign B4 H4 x4 w4 h_sign => ?_)
    have o_work := o_work.step x4
    obtain ⟨last, e_last, hm⟩ := ltS hm
    refine st_set (i := 3) (Ev.is ev_int e_last) w4 (fun v_last B5 H5 x5 w5 h_last => ?_)
    have o_work := o_work.step x5
    have h_sign := Rel.mono _ x5.b h_sign
    obtain ⟨r6, h_r6, hm⟩ := bindS hm
    obtain ⟨c7, hl7, hm⟩ := bindS hm
    have k7 : ∀ r', c7 = .rt r' → r' = r := fun r' e => by (subst e; exact Option.some.inj hm)
    refine st_for (st_forC (it_range1 (ev_lenW (ev_wO o_work rfl)) h_r6) w5.e w5.c hl7 (fun Bs (b : (List (List Int)) × Int × Int) σ B H => ∃ l7_1 : Addr, ∃ a7_2 : V, ∃ a7_3 : V, ∃ p7_4 : Option V, ∃ p7_5 : Option V, σ = [some v_rows, some (.ref l7_1), some a7_2, some a7_3, p7_4, p7_5, none] ∧ Ex Bs B ∧ Ex B5 B ∧ Wd N0 B0 H0 c0 () B H ∧ Own (qL qI) c0.N H0 B H l7_1 b.1 ∧ qI.r B a7_2 b.2.1 ∧ qI.r B a7_3 b.2.2 ∧ True) ?_ ?_ ?_ ?_)
    · rintro _ _ _ _ _ ⟨_, _, _, _, _, rfl, e, -, w, -⟩
      exact ⟨e, w.e⟩
    · intro Bs7 Hs7 x7 c7
      have o_work := o_work.step x7
      have h_sign := Rel.mono _ x7.b h_sign
      have h_last := Rel.mono _ x7.b h_last
      exact ⟨l_work, v_sign, v_last, _, _, rfl, .refl _, x7.b, w5.step x7 c7, o_work, h_sign, h_last, trivial⟩
    · rintro Bs7 at_ ⟨work_2, sign_2, last_2⟩ b7 σ7 B7p H7p ⟨l7_1, a7_2, a7_3, p7_4, p7_5, rfl, e7, eo7, w7, f7_0, f7_1, f7_2, -⟩ hm hq7 vi7 B7 H7 x7 r7 -
      rw [M.determinant_lli_l1] at hm
      have o_work_2 : Own (qL qI) c0.N H0 _ _ l7_1 work_2 := f7_0
      have h_sign_2 : qI.r _ a7_2 sign_2 := f7_1
      have h_last_2 : qI.r _ a7_3 last_2 := f7_2
      have o_work_2 := o_work_2.step x7.up
      have h_sign_2 := Rel.mono _ x7.b h_sign_2
      have h_last_2 := Rel.mono _ x7.b h_last_2
      have e7 := e7.trans x7.b
      have eo7 := eo7.trans x7.b
      have w7 := w7.step x7.up (Cell.ext _ w7.c x7)
      have h_at_ := r7
      refine tgn ?_
      obtain ⟨place, h_place, hm⟩ := bindS hm
      refine st_set (i := 5) (ev_lend o_work_2 (ea_ref rfl (ea_cons (ev_v h_at_ rfl) ea_nil)) (lend_here (lend_cons lend_nil)) h_place (fun h => h)) w7 (fun v_place B10 H10 x10 w10 h_place => ?_)
      have o_work_2 := o_work_2.step x10
      have h_sign_2 := Rel.mono _ x10.b h_sign_2
      have h_last_2 := Rel.mono _ x10.b h_last_2
      have h_at_ := Rel.mono _ x10.b h_at_
      have e7 := e7.trans x10.b
      have eo7 := eo7.trans x10.b
      refine st_if (et_test (ev_lt (ev_v h_place rfl) ev_int)) w10 (fun hA B11 H11 x11 w11 => ?_) (fun hA B11 H11 x11 w11 => ?_)
      · have hm := ifT hm hA
        have o_work_2 := o_work_2.step x11
        have h_sign_2 := Rel.mono _ x11.b h_sign_2
        have h_last_2 := Rel.mono _ x11.b h_last_2
        have h_at_ := Rel.mono _ x11.b h_at_
        have h_place := Rel.mono _ x11.b h_place
        have e7 := e7.trans x11.b
        have eo7 := eo7.trans x11.b
        have hm := Option.some.inj hm
        have hv := k7 _ (hq7 _ hm.symm)
        subst hv
        exact st_ret gI ev_int w11 (fun _ _ _ => trivial) q
      · have hm := ifF hm hA
        have o_work_2 := o_work_2.step x11
        have h_sign_2 := Rel.mono _ x11.b h_sign_2
        have h_last_2 := Rel.mono _ x11.b h_last_2
        have h_at_ := Rel.mono _ x11.b h_at_
        have h_place := Rel.mono _ x11.b h_place
        have e7 := e7.trans x11.b
        have eo7 := eo7.trans x11.b
        refine st_nextT ?_
        obtain ⟨⟨work_3, sign_3⟩, hj12, hm⟩ := bindS hm
        refine st_ifc (et_test (ev_neI (ev_v h_place rfl) (ev_v h_at_ rfl))) w11 (fun σ H => ∃ a12_2 : V, σ = [some v_rows, some (.ref l7_1), some a12_2, some a7_3, some vi7, some v_place, none] ∧ ∃ B, Ex B11 B ∧ Wd N0 B0 H0 c0 () B H ∧ Own (qL qI) c0.N H0 B H l7_1 work_3 ∧ qI.r B a12_2 sign_3 ∧ True) (fun hA B12 H12 x12 w12 => ?_) (fun hA B12 H12 x12 w12 => ?_) ?_
        · have hm := ifT hj12 hA
          have ej12 := Ex.refl B11
          have o_work_2 := o_work_2.step x12
          have h_sign_2 := Rel.mono _ x12.b h_sign_2
          have h_last_2 := Rel.mono _ x12.b h_last_2
          have h_at_ := Rel.mono _ x12.b h_at_
          have h_place := Rel.mono _ x12.b h_place
          have e7 := e7.trans x12.b
          have eo7 := eo7.trans x12.b
          have ej12 := ej12.trans x12.b
          obtain ⟨t13, h_t13, hm⟩ := bindS hm
          obtain ⟨t14, h_t14, hm⟩ := bindS hm
          obtain ⟨work_4, h_work_4, hm⟩ := bindS hm
          refine st_set2 o_work_2 rfl (ev_ixW (ev_wO o_work_2 rfl) (ev_v h_place rfl) h_t13) (ev_ixW (ev_wO o_work_2 rfl) (ev_v h_at_ rfl) h_t14) (ev_v h_at_ rfl) (fun _ _ => ev_v (R := qI) (v := v_place) (B := _) (d := place) (by exact h_place) rfl) w12 h_work_4 (fun B15 H15 G15 x15 hu15 w15 o_work_4 => ?_)
          have h_sign_2 := Rel.mono _ x15.b h_sign_2
          have h_last_2 := Rel.mono _ x15.b h_last_2
          have h_at_ := Rel.mono _ x15.b h_at_
          have h_place := Rel.mono _ x15.b h_place
          have e7 := e7.trans x15.b
          have eo7 := eo7.trans x15.b
          have ej12 := ej12.trans x15.b
          obtain ⟨sign_4, e_sign_4, hm⟩ := ltS hm
          refine st_set (i := 2) (Ev.is (ev_neg (ev_v h_sign_2 rfl)) e_sign_4) w15 (fun v_sign_4 B16 H16 x16 w16 h_sign_4 => ?_)
          have o_work_4 := o_work_4.step x16
          have h_last_2 := Rel.mono _ x16.b h_last_2
          have h_at_ := Rel.mono _ x16.b h_at_
          have h_place := Rel.mono _ x16.b h_place
          have e7 := e7.trans x16.b
          have eo7 := eo7.trans x16.b
          have ej12 := ej12.trans x16.b
          refine st_next ?_
          have hv := Option.some.inj hm
          have hv0 : work_4 = work_3 := congrArg (fun z => z.1) hv
          have hv1 : sign_4 = sign_3 := congrArg (fun z => z.2) hv
          subst hv0
          subst hv1
          exact ⟨v_sign_4, rfl, B16, ej12, w16, o_work_4, h_sign_4, trivial⟩
        · have hm := ifF hj12 hA
          have ej12 := Ex.refl B11
          have o_work_2 := o_work_2.step x12
          have h_sign_2 := Rel.mono _ x12.b h_sign_2
          have h_last_2 := Rel.mono _ x12.b h_last_2
          have h_at_ := Rel.mono _ x12.b h_at_
          have h_place := Rel.mono _ x12.b h_place
          have e7 := e7.trans x12.b
          have eo7 := eo7.trans x12.b
          have ej12 := ej12.trans x12.b
          refine st_next ?_
          have hv := Option.some.inj hm
          have hv0 : work_2 = work_3 := congrArg (fun z => z.1) hv
          have hv1 : sign_2 = sign_3 := congrArg (fun z => z.2) hv
          subst hv0
          subst hv1
          exact ⟨a7_2, rfl, B12, ej12, w12, o_work_2, h_sign_2, trivial⟩
        · rintro σ12 G12 ⟨a12_2, rfl, Bj12, eo12, wj12, f12_0, f12_1, -⟩
          have o_work_3 : Own (qL qI) c0.N H0 _ _ l7_1 work_3 := f12_0
          have h_sign_3 : qI.r _ a12_2 sign_3 := f12_1
          have h_last_2 := Rel.mono _ eo12 h_last_2
          have h_at_ := Rel.mono _ eo12 h_at_
          have h_place := Rel.mono _ eo12 h_place
          have e7 := e7.trans eo12
          have eo7 := eo7.trans eo12
          obtain ⟨B17, w17, e17, h_work_f, u17, hu17, hb17⟩ := o_work_3.fz wj12
          have h_sign_3 := Rel.mono _ e17 h_sign_3
          have h_last_2 := Rel.mono _ e17 h_last_2
          have h_at_ := Rel.mono _ e17 h_at_
          have h_place := Rel.mono _ e17 h_place
          have e7 := e7.trans e17
          have eo7 := eo7.trans e17
          obtain ⟨t18, h_t18, hm⟩ := bindS hm
          obtain ⟨work_5, h_work_5, hm⟩ := bindS hm
          refine st_setL (i := 1) (ev_cat (ev_wL (ev_slL (ev_wI (ev_v h_work_f rfl)) eo_none (eo_some (ev_add (ev_v h_at_ rfl) ev_int)))) (ev_wL (ev_call gL (ea_cons (ev_v h_work_f rfl) (ea_cons (ev_v h_at_ rfl) (ea_cons (ev_v h_last_2 rfl) ea_nil))) a_id h_t18)) h_work_5) w17 (fun l_work_5 B20 H20 x20 w20 n20 o_work_5 => ?_)
          have h_sign_3 := Rel.mono _ x20.b h_sign_3
          have h_last_2 := Rel.mono _ x20.b h_last_2
          have h_at_ := Rel.mono _ x20.b h_at_
          have h_place := Rel.mono _ x20.b h_place
          have e7 := e7.trans x20.b
          have eo7 := eo7.trans x20.b
          obtain ⟨t21, h_t21, hm⟩ := bindS hm
          obtain ⟨last_3, h_last_3, hm⟩ := bindS hm
          refine st_set (i := 3) (ev_ixW (ev_wI (ev_ixW (ev_wO o_work_5 rfl) (ev_v h_at_ rfl) h_t21)) (ev_v h_at_ rfl) h_last_3) w20 (fun v_last_3 B23 H23 x23 w23 h_last_3 => ?_)
          have o_work_5 := o_work_5.step x23
          have h_sign_3 := Rel.mono _ x23.b h_sign_3
          have h_at_ := Rel.mono _ x23.b h_at_
          have h_place := Rel.mono _ x23.b h_place
          have e7 := e7.trans x23.b
          have eo7 := eo7.trans x23.b
          refine st_next ?_
          have hv := Option.some.inj hm
          subst hv
          exact ⟨_, _, rfl, l_work_5, a12_2, v_last_3, _, _, rfl, e7, eo7, w23, o_work_5, h_sign_3, h_last_3, trivial⟩
    · rintro Bs7 ⟨work_6, sign_5, last_4⟩ σ7 Bd7 Hd7 ⟨l7_1, a7_2, a7_3, p7_4, p7_5, rfl, ed7, eo7, wd7, f7_0, f7_1, f7_2, -⟩ hf7
      subst hf7
      refine nx_tz ?_
      have o_work_6 : Own (qL qI) c0.N H0 _ _ l7_1 work_6 := f7_0
      have h_sign_5 : qI.r _ a7_2 sign_5 := f7_1
      have h_last_4 : qI.r _ a7_3 last_4 := f7_2
      obtain ⟨t24, h_t24, hm⟩ := bindS hm
      have hv := Option.some.inj hm
      subst hv
      exact st_ret gI (ev_mul (ev_v h_sign_5 rfl) (ev_v h_last_4 rfl) h_t24) wd7 (fun _ _ _ => trivial) q)
abbrev N_forest_row_Titi : List Str := ["table", "c", "others", "roots", "outside", "left", "found", "place", "x", "crossed", "at", "y", "row"]
theorem sc_forest_row_Titi : FnScope N_forest_row_Titi ["table", "c", "others"] (defScope s_forest_row) := ⟨rfl, rfl, rfl, by decide +kernel, rfl, by decide +kernel, by decide +kernel⟩
theorem ok_forest_row_Titi_1 (T : Top K mg C_Table e_check_states e_forest_row) : Fn P w' K mg base 4 "forest_row" ["table", "c", "others"] [] (spf (aCons (qTab K C_Table) (aCons qI (aCons (qT K qI) aNil))) (fun d => M.forest_row_Titi d.1 d.2.1 d.2.2.1) (pI (qT K qI))) :=
  mkFnD (dvs := [V.ref e_forest_row]) 3 1 T.d_forest_row sc_forest_row_Titi (al_spf (al_cons (al_cons (al_cons al_nil)))) (by simp) rfl (fun _ _ _ _ _ _ _ us its hl hi => match us, its, hl, hi with | [_, _, _], [_], _, _ => ⟨_, rfl, rfl⟩) (fun f cdv A outer s H0 vs Q E hr h => by
    obtain ⟨B0, d, r, e, hA, hm, q⟩ := h
    obtain ⟨table, c_, others, ⟨⟩⟩ := d
    obtain ⟨v_table, _, rfl, h_table, ⟨v_c_, _, rfl, h_c_, ⟨v_others, _, rfl, h_others, rfl⟩⟩⟩ := hA
    have h_table : (qTab K C_Table).r B0 v_table table := h_table
    have h_c_ : qI.r B0 v_c_ c_ := h_c_
    have h_others : (qT K qI).r B0 v_others others := h_others
    have hm : M.forest_row_Titi table c_ others = some r := hm
    have w := wd0 e
    unfold M.forest_row_Titi at hm
    have sc := sc_forest_row_Titi
    have F_check_states_ititti_0 := ok_check_states_ititti_0 (P := P) (w' := w') (base := base) T
    have F_check_states_ititti_1 := ok_check_states_ititti_1 (P := P) (w' := w') (base := base) T
    have F_states_of_iti := ok_states_of_iti (P := P) (w' := w') (base := base) T
    have F_states_outside_Tti := ok_states_outside_Tti (P := P) (w' := w') (base := base) T
    have F_left_rows_Tli := ok_left_rows_Tli (P := P) (w' := w') (base := base) T
    have F_determinant_lli := ok_determinant_lli (P := P) (w' := w') (base := base) T
    refine ⟨_, (pss_cons (ps_expr (pe_fn F_check_states_ititti_0 (hr.mono (by decide)) rfl (pa_cons (kpe_fld K rfl (pv 0) rfl) (pa_cons (pe_tup (pa_cons (pv 1) pa_nil)) pa_nil)))) (pss_cons (ps_set (i := 3) sc.nd rfl (by first | exact .inl rfl | exact .inr rfl) (pe_op (kop_catT K rfl) (pe_tup (pa_cons (pv 1) pa_nil)) (pe_fn F_states_of_iti (hr.mono (by decide)) rfl (pa_cons (kpe_fld K rfl (pv 0) rfl) (pa_cons (pv 2) pa_nil))))) (pss_cons (ps_set (i := 4) sc.nd rfl (by first | exact .inl rfl | exact .inr rfl) (pe_fn F_states_outside_Tti (hr.mono (by decide)) rfl (pa_cons (pv 0) (pa_cons (pv 3) pa_nil)))) (pss_cons (ps_set (i := 5) sc.nd rfl (by first | exact .inl rfl | exact .inr rfl) (pe_fn F_left_rows_Tli (hr.mono (by decide)) rfl (pa_cons (pv 0) (pa_cons (pv 4) pa_nil)))) (pss_cons (ps_set (i := 6) sc.nd rfl (by first | exact .inl rfl | exact .inr rfl) (pe_op op_rep (pe_lst (pa_cons pe_int pa_nil)) (kpe_fld K rfl (pv 0) rfl))) (pss_cons (ps_asg (pe_fn F_determinant_lli (hr.mono (by decide)) rfl (pa_cons (pv 5) pa_nil)) (pg_sub (pv 6) (pv 1) set_list)) (pss_cons (ps_for PassesOwn.never rfl (kpi_enum K rfl (by rfl) T.b_enumerate (pa_cons (pv 4) pa_nil)) (pg_tup rfl (pgs_cons (pg_name (i := 7) sc.nd rfl (by first | exact .inl rfl | exact .inr rfl)) (pgs_cons (pg_name (i := 8) sc.nd rfl (by first | exact .inl rfl | exact .inr rfl)) pgs_nil))) (pss_cons (ps_setLc (i := 9) (own := [("row", 12)]) rfl sc.nd rfl rfl (sw_true rfl rfl rfl (by decide +kernel)) (kpi_list K rfl (pv 5)) (blkOk_by (own := [("row", 12)]) (N := N_forest_row_Titi) (sc := defScope s_forest_row) (by decide +kernel)) (fun _ _ _ _ _ => (pg_name (i := 12) sc.nd rfl (by first | exact .inl rfl | exact .inr rfl))) (fun _ _ _ _ _ => pts_nil) (fun _ _ _ _ _ => (pe_callTy (kcl_list K rfl) (by rfl) T.b_list (by decide +kernel) (pa_cons (pv 12) pa_nil)))) (pss_cons (ps_for PassesOwn.never rfl (kpi_enum K rfl (by rfl) T.b_enumerate (pa_cons (pv 4) pa_nil)) (pg_tup rfl (pgs_cons (pg_name (i := 10) sc.nd rfl (by first | exact .inl rfl | exact .inr rfl)) (pgs_cons (pg_name (i := 11) sc.nd rfl (by first | exact .inl rfl | exact .inr rfl)) pgs_nil))) (pss_cons (ps_asg (pe_ix (kix_tup K rfl) (pe_ix (kix_tup K rfl) (kpe_fld K rfl (pv 0) rfl) (pv 11) (fun _ _ => rfl)) (pv 1) (fun _ _ => rfl)) (pg_sub (pe_ix (kix_list K rfl) (pv 9) (pv 10) (fun _ _ => rfl)) (pv 7) set_list)) pss_nil)) (pss_cons (ps_asg (pe_fn F_determinant_lli (hr.mono (by decide)) rfl (pa_cons (pv 9) pa_nil)) (pg_sub (pv 6) (pv 8) set_list)) pss_nil)))) (pss_cons (ps_ret (pe_callTy (kcl_tuple K rfl) (by rfl) T.b_tuple (by decide +kernel) (pa_cons (pv 6) pa_nil))) pss_never)))))))), ?_⟩
    obtain ⟨t1, h_t1, hm⟩ := bindS hm
    refine st_drop (ev_call gI (ea_cons (ev_size T.cl_Table T.n_Table_size (ev_v h_table rfl)) (ea_cons (ev_tup (R := qI) (eb_cons (ev_v h_c_ rfl) eb_nil) (by show 1 ≤ 1000000; decide)) ea_nil)) (ad_cons (ad_cons (ad_nil T.e_check_states_))) h_t1) w (fun B2 H2 x2 w2 => ?_)
    have h_table := Rel.mono _ x2.b h_table
    have h_c_ := Rel.mono _ x2.b h_c_
    have h_others := Rel.mono _ x2.b h_others
    obtain ⟨t3, h_t3, hm⟩ := bindS hm
    obtain ⟨roots, h_roots, hm⟩ := bindS hm
    refine st_set (i := 3) (ev_catT (ev_tup (R := qI) (eb_cons (ev_v h_c_ rfl) eb_nil) (by show 1 ≤ 1000000; decide)) (ev_call gI (ea_cons (ev_size T.cl_Table T.n_Table_size (ev_v h_table rfl)) (ea_cons (ev_v h_others rfl) ea_nil)) a_id h_t3) h_roots) w2 (fun v_roots B5 H5 x5 w5 h_roots => ?_)
    have h_table := Rel.mono _ x5.b h_table
    have h_c_ := Rel.mono _ x5.b h_c_
    obtain ⟨outside, h_outside, hm⟩ := bindS hm
    refine st_set (i := 4) (ev_fz (ev_call gL (ea_cons (ev_v h_table rfl) (ea_cons (ev_v h_roots rfl) ea_nil)) a_id h_outside)) w5 (fun v_outside B7 H7 x7 w7 h_outside => ?_)
    have h_table := Rel.mono _ x7.b h_table
    have h_c_ := Rel.mono _ x7.b h_c_
    obtain ⟨left, h_left, hm⟩ := bindS hm
    refine st_set (i := 5) (ev_fz (ev_call gL (ea_cons (ev_v h_table rfl) (ea_cons (ev_v h_outside rfl) ea_nil)) a_id h_left)) w7 (fun v_left B9 H9 x9 w9 h_left => ?_)
    have h_table := Rel.mono _ x9.b h_table
    have h_c_ := Rel.mono _ x9.b h_c_
    have h_outside := Rel.mono _ x9.b h_outside
    obtain ⟨found, h_found, hm⟩ := bindS hm
    refine st_setL (i := 6) (ev_rep (ev_lst (R := qI) (eb_cons ev_int eb_nil) (by show 1 ≤ 1000000; decide)) (ev_size T.cl_Table T.n_Table_size (ev_v h_table rfl)) h_found) w9 (fun l_found B11 H11 x11 w11 n11 o_found => ?_)
    have h_table := Rel.mono _ x11.b h_table
    have h_c_ := Rel.mono _ x11.b h_c_
    have h_outside := Rel.mono _ x11.b h_outside
    have h_left := Rel.mono _ x11.b h_left
    obtain ⟨t12, h_t12, hm⟩ := bindS hm
    obtain ⟨found_2, h_found_2, hm⟩ := bindS hm
    refine st_setI o_found rfl (ev_call gI (ea_cons (ev_v h_left rfl) ea_nil) a_id h_t12) (ev_v h_c_ rfl) w11 h_found_2 (fun B13 H13 G13 x13 hu13 w13 o_found_2 => ?_)
    have h_table := Rel.mono _ x13.b h_table
    have h_c_ := Rel.mono _ x13.b h_c_
    have h_outside := Rel.mono _ x13.b h_outside
    have h_left := Rel.mono _ x13.b h_left
    obtain ⟨found_5, hl14, hm⟩ := bindS hm
    refine st_for (st_forO (it_enumL (ev_v h_outside rfl)) w13.e w13.c hl14 (fun Bs (b : (List Int)) σ B H => ∃ p14_7 : Option V, ∃ p14_8 : Option V, ∃ p14_9 : Option V, ∃ p14_10 : Option V, ∃ p14_11 : Option V, σ = [some v_table, some v_c_, some v_others, some v_roots, some v_outside, some v_left, some (.ref l_found), p14_7, p14_8, p14_9, p14_10, p14_11, none] ∧ Ex Bs B ∧ Ex B13 B ∧ Wd N0 B0 H0 c0 () B H ∧ Own qI c0.N H0 B H l_found b ∧ True) ?_ ?_ ?_ ?_)
    · rintro _ _ _ _ _ ⟨_, _, _, _, _, rfl, e, -, w, -⟩
      exact ⟨e, w.e⟩
    · intro Bs14 Hs14 x14 c14
      have o_found_2 := o_found_2.step x14
      exact ⟨_, _, _, _, _, rfl, .refl _, x14.b, w13.step x14 c14, o_found_2, trivial⟩
    · rintro Bs14 ⟨place, x_⟩ found_3 b14 σ14 B14p H14p ⟨p14_7, p14_8, p14_9, p14_10, p14_11, rfl, e14, eo14, w14, f14_0, -⟩ hm vi14 B14 H14 x14 r14
      rw [M.forest_row_Titi_l1] at hm
      have o_found_3 : Own qI c0.N H0 _ _ l_found found_3 := f14_0
      have h_table := Rel.mono _ (eo14.trans x14.b) h_table
      have h_c_ := Rel.mono _ (eo14.trans x14.b) h_c_
      have h_outside := Rel.mono _ (eo14.trans x14.b) h_outside
      have h_left := Rel.mono _ (eo14.trans x14.b) h_left
      have o_found_3 := o_found_3.step x14.up
      have e14 := e14.trans x14.b
      have eo14 := eo14.trans x14.b
      have w14 := w14.step x14.up (Cell.ext _ w14.c x14)
      obtain ⟨va14, vb14, h_place, h_x_, tg14⟩ := tg_P (i := 7) (j := 8) r14
      refine tg14 _ _ _ (.refl _) x14.bh _ ?_
      obtain ⟨z16, h_z16, hm⟩ := bindS hm
      obtain ⟨crossed, e_crossed, hm⟩ := ltS hm
      refine st_setG (i := 9) (Ev.is (ev_lcG (it_list (ev_v h_left rfl)) (compS_map (fun row => row) _ left) (lnO_ok h_z16).1 (fun row v15_ s15_ o15_ t15_ B15_ H15_ x15_ r15_ hf15_ => by (cases hf15_; have h_table := Rel.mono _ x15_.b h_table; have h_c_ := Rel.mono _ x15_.b h_c_; have h_outside := Rel.mono _ x15_.b h_outside; have h_left := Rel.mono _ x15_.b h_left; have o_found_3 := o_found_3.step x15_; have h_place := Rel.mono _ x15_.b h_place; have h_x_ := Rel.mono _ x15_.b h_x_; exact turn_g (fun _ _ _ _ q => q) rfl rfl (ev_listW (ev_wI (ev_v r15_ rfl)))))) e_crossed) w14 (fun l_crossed rs_crossed B17 H17 x17 w17 n17 nr17 o_crossed => ?_)
      have ne_crossed_found_3 := o_found_3.ne n17
      have nm_crossed_found_3 := o_found_3.nm nr17
      have h_table := Rel.mono _ x17.b h_table
      have h_c_ := Rel.mono _ x17.b h_c_
      have h_outside := Rel.mono _ x17.b h_outside
      have h_left := Rel.mono _ x17.b h_left
      have o_found_3 := o_found_3.step x17
      have h_place := Rel.mono _ x17.b h_place
      have h_x_ := Rel.mono _ x17.b h_x_
      have e14 := e14.trans x17.b
      have eo14 := eo14.trans x17.b
      obtain ⟨crossed_4, hl18, hm⟩ := bindS hm
      refine st_for (st_forO (it_enumL (ev_v h_outside rfl)) w17.e w17.c hl18 (fun Bs (b : (List (List Int))) σ B H => ∃ p18_10 : Option V, ∃ p18_11 : Option V, σ = [some v_table, some v_c_, some v_others, some v_roots, some v_outside, some v_left, some (.ref l_found), some va14, some vb14, some (.ref l_crossed), p18_10, p18_11, none] ∧ Ex Bs B ∧ Ex B17 B ∧ Wd N0 B0 H0 c0 () B H ∧ OwnG c0.N H0 B H l_crossed rs_crossed b ∧ Own qI c0.N H0 B H l_found found_3 ∧ l_found ≠ l_crossed ∧ l_found ∉ rs_crossed ∧ True) ?_ ?_ ?_ ?_)
      · rintro _ _ _ _ _ ⟨_, _, rfl, e, -, w, -⟩
        exact ⟨e, w.e⟩
      · intro Bs18 Hs18 x18 c18
        have o_found_3 := o_found_3.step x18
        have o_crossed := o_crossed.step x18
        exact ⟨_, _, rfl, .refl _, x18.b, w17.step x18 c18, o_crossed, o_found_3, ne_crossed_found_3, nm_crossed_found_3, trivial⟩
      · rintro Bs18 ⟨at_, y_⟩ crossed_2 b18 σ18 B18p H18p ⟨p18_10, p18_11, rfl, e18, eo18, w18, f18_0, f18_1, f18_2, f18_3, -⟩ hm vi18 B18 H18 x18 r18
        rw [M.forest_row_Titi_l2] at hm
        have o_crossed_2 : OwnG c0.N H0 _ _ l_crossed rs_crossed crossed_2 := f18_0
        have o_found_3 : Own qI c0.N H0 _ _ l_found found_3 := f18_1
        have h_table := Rel.mono _ (eo18.trans x18.b) h_table
        have h_c_ := Rel.mono _ (eo18.trans x18.b) h_c_
        have h_outside := Rel.mono _ (eo18.trans x18.b) h_outside
        have h_left := Rel.mono _ (eo18.trans x18.b) h_left
        have o_found_3 := o_found_3.step x18.up
        have h_place := Rel.mono _ (eo18.trans x18.b) h_place
        have h_x_ := Rel.mono _ (eo18.trans x18.b) h_x_
        have o_crossed_2 := o_crossed_2.step x18.up
        have e14 := e14.trans (eo18.trans x18.b)
        have eo14 := eo14.trans (eo18.trans x18.b)
        have e18 := e18.trans x18.b
        have eo18 := eo18.trans x18.b
        have w18 := w18.step x18.up (Cell.ext _ w18.c x18)
        obtain ⟨va18, vb18, h_at_, h_y_, tg18⟩ := tg_P (i := 10) (j := 11) r18
        refine tg18 _ _ _ (.refl _) x18.bh _ ?_
        obtain ⟨t19, h_t19, hm⟩ := bindS hm
        obtain ⟨t20, h_t20, hm⟩ := bindS hm
        obtain ⟨crossed_3, h_crossed_3, hm⟩ := bindS hm
        refine st_gset o_crossed_2 rfl (ev_ixT (ev_ixT (ev_rows T.cl_Table T.n_Table_rows (ev_v h_table rfl)) (ev_v h_y_ rfl) h_t19) (ev_v h_c_ rfl) h_t20) (ev_v h_at_ rfl) (ev_v h_place rfl) w18 h_crossed_3 (fun B21 H21 G21 x21 hu21 w21 o_crossed_3 => ?_)
        have h_table := Rel.mono _ x21.b h_table
        have h_c_ := Rel.mono _ x21.b h_c_
        have h_outside := Rel.mono _ x21.b h_outside
        have h_left := Rel.mono _ x21.b h_left
        have o_found_3 := (o_found_3.step x21).otherG (p := l_found) f18_3 hu21
        have h_place := Rel.mono _ x21.b h_place
        have h_x_ := Rel.mono _ x21.b h_x_
        have h_at_ := Rel.mono _ x21.b h_at_
        have h_y_ := Rel.mono _ x21.b h_y_
        have e14 := e14.trans x21.b
        have eo14 := eo14.trans x21.b
        have e18 := e18.trans x21.b
        have eo18 := eo18.trans x21.b
        refine st_next ?_
        have hv := Option.some.inj hm
        subst hv
        exact ⟨_, _, _, rfl, e18, eo18, w21, o_crossed_3, o_found_3, f18_2, f18_3, trivial⟩
      · rintro Bs18 σ18 Bd18 Hd18 ⟨p18_10, p18_11, rfl, ed18, eo18, wd18, f18_0, f18_1, f18_2, f18_3, -⟩
        refine nx_tz ?_
        have o_crossed_4 : OwnG c0.N H0 _ _ l_crossed rs_crossed crossed_4 := f18_0
        have o_found_3 : Own qI c0.N H0 _ _ l_found found_3 := f18_1
        have h_table := Rel.mono _ eo18 h_table
        have h_c_ := Rel.mono _ eo18 h_c_
        have h_outside := Rel.mono _ eo18 h_outside
        have h_left := Rel.mono _ eo18 h_left
        have h_place := Rel.mono _ eo18 h_place
        have h_x_ := Rel.mono _ eo18 h_x_
        have e14 := e14.trans eo18
        have eo14 := eo14.trans eo18
        obtain ⟨B22, w22, e22, h_crossed_f, hu22⟩ := o_crossed_4.fz wd18
        have o_found_3 := o_found_3.reB (hu22 _ f18_2 f18_3) e22
        have h_table := Rel.mono _ e22 h_table
        have h_c_ := Rel.mono _ e22 h_c_
        have h_outside := Rel.mono _ e22 h_outside
        have h_left := Rel.mono _ e22 h_left
        have h_place := Rel.mono _ e22 h_place
        have h_x_ := Rel.mono _ e22 h_x_
        have e14 := e14.trans e22
        have eo14 := eo14.trans e22
        obtain ⟨t23, h_t23, hm⟩ := bindS hm
        obtain ⟨found_4, h_found_4, hm⟩ := bindS hm
        refine st_setI o_found_3 rfl (ev_call gI (ea_cons (ev_v h_crossed_f rfl) ea_nil) a_id h_t23) (ev_v h_x_ rfl) w22 h_found_4 (fun B24 H24 G24 x24 hu24 w24 o_found_4 => ?_)
        have h_table := Rel.mono _ x24.b h_table
        have h_c_ := Rel.mono _ x24.b h_c_
        have h_outside := Rel.mono _ x24.b h_outside
        have h_left := Rel.mono _ x24.b h_left
        have h_place := Rel.mono _ x24.b h_place
        have h_x_ := Rel.mono _ x24.b h_x_
        have h_crossed_f := Rel.mono _ x24.b h_crossed_f
        have e14 := e14.trans x24.b
        have eo14 := eo14.trans x24.b
        refine st_next ?_
        have hv := Option.some.inj hm
        subst hv
        exact ⟨_, _, _, _, _, _, rfl, e14, eo14, w24, o_found_4, trivial⟩
    · rintro Bs14 σ14 Bd14 Hd14 ⟨p14_7, p14_8, p14_9, p14_10, p14_11, rfl, ed14, eo14, wd14, f14_0, -⟩
      refine nx_tz ?_
      have o_found_5 : Own qI c0.N H0 _ _ l_found found_5 := f14_0
      have hv := Option.some.inj hm
      subst hv
      exact st_ret gI (ev_tupleW (ev_wO o_found_5 rfl)) wd14 (fun _ _ _ => trivial) q)
abbrev N_coming_row_Tii : List Str := ["table", "c", "e"]
theorem sc_coming_row_Tii : FnScope N_coming_row_Tii ["table", "c", "e"] (defScope s_coming_row) := ⟨rfl, rfl, rfl, by decide +kernel, rfl, by decide +kernel, by decide +kernel⟩
theorem ok_coming_row_Tii (T : Top K mg C_Table e_check_states e_forest_row) : Fn P w' K mg base 5 "coming_row" ["table", "c", "e"] [] (spf (aCons (qTab K C_Table) (aCons qI (aCons qI aNil))) (fun d => M.coming_row_Tii d.1 d.2.1 d.2.2.1) (pI (qT K qI))) :=
  mkFn T.d_coming_row sc_coming_row_Tii (al_spf (al_cons (al_cons (al_cons al_nil)))) (fun _ _ _ _ _ _ us hl => match us, hl with | [_, _, _], _ => rfl) (fun f cdv A outer s H0 vs Q E hr h => by
    obtain ⟨B0, d, r, e, hA, hm, q⟩ := h
    obtain ⟨table, c_, e_, ⟨⟩⟩ := d
    obtain ⟨v_table, _, rfl, h_table, ⟨v_c_, _, rfl, h_c_, ⟨v_e_, _, rfl, h_e_, rfl⟩⟩⟩ := hA
    have h_table : (qTab K C_Table).r B0 v_table table := h_table
    have h_c_ : qI.r B0 v_c_ c_ := h_c_
    have h_e_ : qI.r B0 v_e_ e_ := h_e_
    have hm : M.coming_row_Tii table c_ e_ = some r := hm
    have w := wd0 e
    unfold M.coming_row_Tii at hm
    have sc := sc_coming_row_Tii
    have F_check_states_ititti_0 := ok_check_states_ititti_0 (P := P) (w' := w') (base := base) T
    have F_check_states_ititti_1 := ok_check_states_ititti_1 (P := P) (w' := w') (base := base) T
    have F_forest_row_Titi_1 := ok_forest_row_Titi_1 (P := P) (w' := w') (base := base) T
    refine ⟨_, (pss_cons (ps_expr (pe_fn F_check_states_ititti_1 (hr.mono (by decide)) rfl (pa_cons (kpe_fld K rfl (pv 0) rfl) (pa_cons (pe_tup (pa_cons (pv 1) (pa_cons (pv 2) pa_nil))) (pa_cons (pe_tup (pa_cons (pe_tup (pa_cons pe_int (pa_cons pe_int pa_nil))) pa_nil)) pa_nil))))) (pss_cons (ps_ret (pe_fn F_forest_row_Titi_1 (hr.mono (by decide)) rfl (pa_cons (pv 0) (pa_cons (pv 1) (pa_cons (pe_tup (pa_cons (pv 2) pa_nil)) pa_nil))))) pss_never)), ?_⟩
    obtain ⟨t1, h_t1, hm⟩ := bindS hm
    refine st_drop (ev_call gI (ea_cons (ev_size T.cl_Table T.n_Table_size (ev_v h_table rfl)) (ea_cons (ev_tup (R := qI) (eb_cons (ev_v h_c_ rfl) (eb_cons (ev_v h_e_ rfl) eb_nil)) (by show 2 ≤ 1000000; decide)) (ea_cons (ev_tup (R := (qT K qI)) (eb_cons (ev_tup (R := qI) (eb_cons ev_int (eb_cons ev_int eb_nil)) (by show 2 ≤ 1000000; decide)) eb_nil) (by show 1 ≤ 1000000; decide)) ea_nil))) a_id h_t1) w (fun B2 H2 x2 w2 => ?_)
    have h_table := Rel.mono _ x2.b h_table
    have h_c_ := Rel.mono _ x2.b h_c_
    have h_e_ := Rel.mono _ x2.b h_e_
    obtain ⟨t3, h_t3, hm⟩ := bindS hm
    have hv := Option.some.inj hm
    subst hv
    exact st_ret gI (ev_call gI (ea_cons (ev_v h_table rfl) (ea_cons (ev_v h_c_ rfl) (ea_cons (ev_tup (R := qI) (eb_cons (ev_v h_e_ rfl) eb_nil) (by show 1 ≤ 1000000; decide)) ea_nil))) a_id h_t3) w2 (fun _ _ _ => trivial) q)
abbrev N_push_rows_Tii : List Str := ["table", "c", "e", "row", "at_tail", "at_head"]
theorem sc_push_rows_Tii : FnScope N_push_rows_Tii ["table", "c", "e"] (defScope s_push_rows) := ⟨rfl, rfl, rfl, by decide +kernel, rfl, by decide +kernel, by decide +kernel⟩
theorem ok_push_rows_Tii (T : Top K mg C_Table e_check_states e_forest_row) : Fn P w' K mg base 6 "push_rows" ["table", "c", "e"] [] (spf (aCons (qTab K C_Table) (aCons qI (aCons qI aNil))) (fun d => M.push_rows_Tii d.1 d.2.1 d.2.2.1) (pI (qT K (qT K qI)))) :=
  mkFn T.d_push_rows sc_push_rows_Tii (al_spf (al_cons (al_cons (al_cons al_nil)))) (fun _ _ _ _ _ _ us hl => match us, hl with | [_, _, _], _ => rfl) (fun f cdv A outer s H0 vs Q E hr h => by
    obtain ⟨B0, d, r, e, hA, hm, q⟩ := h
    obtain ⟨table, c_, e_, ⟨⟩⟩ := d
    obtain ⟨v_table, _, rfl, h_table, ⟨v_c_, _, rfl, h_c_, ⟨v_e_, _, rfl, h_e_, rfl⟩⟩⟩ := hA
    have h_table : (qTab K C_Table).r B0 v_table table := h_table
    have h_c_ : qI.r B0 v_c_ c_ := h_c_
    have h_e_ : qI.r B0 v_e_ e_ := h_e_
    have hm : M.push_rows_Tii table c_ e_ = some r := hm
    have w := wd0 e
    unfold M.push_rows_Tii at hm
    have sc := sc_push_rows_Tii
    have F_check_states_ititti_0 := ok_check_states_ititti_0 (P := P) (w' := w') (base := base) T
    have F_check_states_ititti_1 := ok_check_states_ititti_1 (P := P) (w' := w') (base := base) T
    have F_coming_row_Tii := ok_coming_row_Tii (P := P) (w' := w') (base := base) T
    refine ⟨_, (pss_cons (ps_expr (pe_fn F_check_states_ititti_1 (hr.mono (by decide)) rfl (pa_cons (kpe_fld K rfl (pv 0) rfl) (pa_cons (pe_tup (pa_cons (pv 1) (pa_cons (pv 2) pa_nil))) (pa_cons (pe_tup (pa_cons (pe_tup (pa_cons pe_int (pa_cons pe_int pa_nil))) pa_nil)) pa_nil))))) (pss_cons (ps_set (i := 3) sc.nd rfl (by first | exact .inl rfl | exact .inr rfl) (pe_fn F_coming_row_Tii (hr.mono (by decide)) rfl (pa_cons (pv 0) (pa_cons (pv 1) (pa_cons (pv 2) pa_nil))))) (pss_cons (ps_ret (pe_callTy (kcl_tuple K rfl) (by rfl) T.b_tuple (by decide +kernel) (pa_cons (pe_lc (own := [("at_tail", 4)]) rfl sc.nd (kpi_tup K rfl (pv 3)) (blkOk_by (own := [("at_tail", 4)]) (N := N_push_rows_Tii) (sc := defScope s_push_rows) (by decide +kernel)) (fun _ _ _ _ _ => (pg_name (i := 4) sc.nd rfl (by first | exact .inl rfl | exact .inr rfl))) (fun _ _ _ _ _ => pts_nil) (fun _ _ _ _ _ => (pe_callTy (kcl_tuple K rfl) (by rfl) T.b_tuple (by decide +kernel) (pa_cons (pe_lc (own := [("at_head", 5)]) rfl sc.nd (kpi_tup K rfl (pv 3)) (by refine blkOk_by (own := [("at_head", 5)]) (N := N_push_rows_Tii) (sc := L2.relS _ (defScope s_push_rows)) ?_; decide +kernel) (fun _ _ _ _ _ => (pg_name (i := 5) sc.nd rfl (by first | exact .inl rfl | exact .inr rfl))) (fun _ _ _ _ _ => pts_nil) (fun _ _ _ _ _ => (pe_op op_sub (pv 5) (pv 4)))) pa_nil)))) pa_nil))) pss_never))), ?_⟩
    obtain ⟨t1, h_t1, hm⟩ := bindS hm
    refine st_drop (ev_call gI (ea_cons (ev_size T.cl_Table T.n_Table_size (ev_v h_table rfl)) (ea_cons (ev_tup (R := qI) (eb_cons (ev_v h_c_ rfl) (eb_cons (ev_v h_e_ rfl) eb_nil)) (by show 2 ≤ 1000000; decide)) (ea_cons (ev_tup (R := (qT K qI)) (eb_cons (ev_tup (R := qI) (eb_cons ev_int (eb_cons ev_int eb_nil)) (by show 2 ≤ 1000000; decide)) eb_nil) (by show 1 ≤ 1000000; decide)) ea_nil))) a_id h_t1) w (fun B2 H2 x2 w2 => ?_)
    have h_table := Rel.mono _ x2.b h_table
    have h_c_ := Rel.mono _ x2.b h_c_
    have h_e_ := Rel.mono _ x2.b h_e_
    obtain ⟨row, h_row, hm⟩ := bindS hm
    refine st_set (i := 3) (ev_call gI (ea_cons (ev_v h_table rfl) (ea_cons (ev_v h_c_ rfl) (ea_cons (ev_v h_e_ rfl) ea_nil))) a_id h_row) w2 (fun v_row B4 H4 x4 w4 h_row => ?_)
    obtain ⟨z8, h_z8, hm⟩ := bindS hm
    obtain ⟨t9, h_t9, hm⟩ := bindS hm
    have hv := Option.some.inj hm
    subst hv
    exact st_ret gI (ev_tupleW (ev_wL (ev_lcS (it_tup (ev_v h_row rfl)) (compS_mapO h_t9) (lnO_ok h_z8).1 (fun at_tail v5_ s5_ o5_ t5_ B5_ H5_ x5_ r5_ hf5_ => by (obtain ⟨y5_, hy5_, hf5_⟩ := bindS hf5_; cases hf5_; have h_row := Rel.mono _ x5_.b h_row; obtain ⟨z7, h_z7, hy5_⟩ := bindS hy5_; exact turn_g (fun _ _ _ _ q => q) rfl rfl (Ev.is (ev_tupleW (ev_wL (ev_lcS (it_tup (ev_v h_row rfl)) (compS_map (fun at_head => (at_head - at_tail)) _ row) (lnO_ok h_z7).1 (fun at_head v6_ s6_ o6_ t6_ B6_ H6_ x6_ r6_ hf6_ => by (cases hf6_; have h_row := Rel.mono _ x6_.b h_row; have r5_ := Rel.mono _ x6_.b r5_; exact turn_g (fun _ _ _ _ q => q) rfl rfl (ev_sub (ev_v r6_ rfl) (ev_v r5_ rfl))))))) (Option.some.inj hy5_))))))) w4 (fun _ _ _ => trivial) q)
abbrev N_int : List Str := ["_law_value"]
theorem sc_int : FnScope N_int ["_law_value"] (defScope s_int) := ⟨rfl, rfl, rfl, by decide +kernel, rfl, by decide +kernel, by decide +kernel⟩
theorem ok_int (T : Top K mg C_Table e_check_states e_forest_row) : Fn P w' K mg base 1 "_law_int" ["_law_value"] [] (spf (aCons qI aNil) (fun d => M.int d.1) (pI qB)) :=
  mkFn T.d_int sc_int (al_spf (al_cons al_nil)) (fun _ _ _ _ _ _ us hl => match us, hl with | [_], _ => rfl) (fun f cdv A outer s H0 vs Q E hr h => by
    obtain ⟨B0, d, r, e, hA, hm, q⟩ := h
    obtain ⟨value, ⟨⟩⟩ := d
    obtain ⟨v_value, _, rfl, h_value, rfl⟩ := hA
    have h_value : qI.r B0 v_value value := h_value
    have hm : M.int value = some r := hm
    have w := wd0 e
    unfold M.int at hm
    have sc := sc_int
    refine ⟨_, (pss_cons (ps_ret (pe_and (pe_callB (kcall_isi K rfl) (by rfl) T.b_isinstance (by decide +kernel) (pa_cons (pv 0) (pa_cons (pe_bltn (v := .ty "int") (by rfl) T.b_int (by decide +kernel) rfl) pa_nil))) (pe_one (pe_not (pe_callB (kcall_isi K rfl) (by rfl) T.b_isinstance (by decide +kernel) (pa_cons (pv 0) (pa_cons (pe_bltn (v := .ty "bool") (by rfl) T.b_bool (by decide +kernel) rfl) pa_nil))))))) pss_never), ?_⟩
    have hv := Option.some.inj hm
    subst hv
    exact st_ret gI (ev_andV' (ev_isi (b := true) (ev_v h_value rfl) (fun B H v e r => ty_I r) (by decide +kernel)) (ev_notV (ev_isi (b := false) (ev_v h_value rfl) (fun B H v e r => ty_I r) (by decide +kernel)))) w (fun _ _ _ => trivial) q)
abbrev N_ints_tii : List Str := ["_law_value", "_law_size", "_law_one"]
theorem sc_ints_tii : FnScope N_ints_tii ["_law_value", "_law_size"] (defScope s_ints) := ⟨rfl, rfl, rfl, by decide +kernel, rfl, by decide +kernel, by decide +kernel⟩
theorem ok_ints_tii (T : Top K mg C_Table e_check_states e_forest_row) : Fn P w' K mg base 2 "_law_ints" ["_law_value", "_law_size"] [] (spf (aCons (qT K qI) (aCons qI aNil)) (fun d => M.ints_tii d.1 d.2.1) (pI qB)) :=
  mkFn T.d_ints sc_ints_tii (al_spf (al_cons (al_cons al_nil))) (fun _ _ _ _ _ _ us hl => match us, hl with | [_, _], _ => rfl) (fun f cdv A outer s H0 vs Q E hr h => by
    obtain ⟨B0, d, r, e, hA, hm, q⟩ := h
    obtain ⟨value, size, ⟨⟩⟩ := d
    obtain ⟨v_value, _, rfl, h_value, ⟨v_size, _, rfl, h_size, rfl⟩⟩ := hA
    have h_value : (qT K qI).r B0 v_value value := h_value
    have h_size : qI.r B0 v_size size := h_size
    have hm : M.ints_tii value size = some r := hm
    have w := wd0 e
    unfold M.ints_tii at hm
    have sc := sc_ints_tii
    have F_int := ok_int (P := P) (w' := w') (base := base) T
    refine ⟨_, (pss_cons (ps_if (PW.pt (pw_or (pt_not (pt_val (pe_callB (kcall_isi K rfl) (by rfl) T.b_isinstance (by decide +kernel) (pa_cons (pv 0) (pa_cons (pe_bltn (v := .ty "tuple") (by rfl) T.b_tuple (by decide +kernel) rfl) pa_nil))))) (pw_or1 (pt_cmpR op_ne (pe_callB (kcl_len K rfl) (by rfl) T.b_len PySem.boot_len (pa_cons (pv 0) pa_nil)) (pv 1) (nomark _))))) (pss_cons (ps_ret pe_bl) pss_never) pss_nil) (pss_cons (ps_ret (pe_callB (kcr_all K rfl rfl) (by rfl) T.b_all (by decide +kernel) (pa_cons (pe_lc (own := [("_law_one", 2)]) rfl sc.nd (kpi_tup K rfl (pv 0)) (blkOk_by (own := [("_law_one", 2)]) (N := N_ints_tii) (sc := defScope s_ints) (by decide +kernel)) (fun _ _ _ _ _ => (pg_name (i := 2) sc.nd rfl (by first | exact .inl rfl | exact .inr rfl))) (fun _ _ _ _ _ => pts_nil) (fun _ _ _ _ _ => (pe_fn F_int (hr.mono (by decide)) rfl (pa_cons (pv 2) pa_nil)))) pa_nil))) pss_never)), ?_⟩
    refine st_if (et_or' (et_not (et_B (ev_isi (b := true) (ev_v h_value rfl) (fun B H v e r => ty_T e r) (by decide +kernel)))) (et_test (ev_neI (ev_lenT (ev_v h_value rfl)) (ev_v h_size rfl)))) w (fun hA B1 H1 x1 w1 => ?_) (fun hA B1 H1 x1 w1 => ?_)
    · have hm := ifT hm hA
      have h_value := Rel.mono _ x1.b h_value
      have hv := Option.some.inj hm
      subst hv
      exact st_ret gI ev_bl w1 (fun _ _ _ => trivial) q
    · have hm := ifF hm hA
      have h_value := Rel.mono _ x1.b h_value
      refine st_nextT ?_
      obtain ⟨z4, h_z4, hm⟩ := bindS hm
      obtain ⟨t5, h_t5, hm⟩ := bindS hm
      have hv := Option.some.inj hm
      subst hv
      exact st_ret gI (ev_allW (ev_wL (ev_lcS (it_tup (ev_v h_value rfl)) (compS_mapO h_t5) (lnO_ok h_z4).1 (fun one v2_ s2_ o2_ t2_ B2_ H2_ x2_ r2_ hf2_ => by (obtain ⟨y2_, hy2_, hf2_⟩ := bindS hf2_; cases hf2_; have h_value := Rel.mono _ x2_.b h_value; obtain ⟨t3, h_t3, hy2_⟩ := bindS hy2_; exact turn_g (fun _ _ _ _ q => q) rfl rfl (Ev.is (ev_call gI (ea_cons (ev_v r2_ rfl) ea_nil) a_id h_t3) (Option.some.inj hy2_))))))) w1 (fun _ _ _ => trivial) q)
abbrev N_rows_kind_ttii : List Str := ["_law_rows", "_law_size", "_law_line"]
theorem sc_rows_kind_ttii : FnScope N_rows_kind_ttii ["_law_rows", "_law_size"] (defScope s_rows_kind) := ⟨rfl, rfl, rfl, by decide +kernel, rfl, by decide +kernel, by decide +kernel⟩
theorem ok_rows_kind_ttii (T : Top K mg C_Table e_check_states e_forest_row) : Fn P w' K mg base 3 "_law_rows_kind" ["_law_rows", "_law_size"] [] (spf (aCons (qT K (qT K qI)) (aCons qI aNil)) (fun d => M.rows_kind_ttii d.1 d.2.1) (pI qB)) :=
  mkFn T.d_rows_kind sc_rows_kind_ttii (al_spf (al_cons (al_cons al_nil))) (fun _ _ _ _ _ _ us hl => match us, hl with | [_, _], _ => rfl) (fun f cdv A outer s H0 vs Q E hr h => by
    obtain ⟨B0, d, r, e, hA, hm, q⟩ := h
    obtain ⟨rows, size, ⟨⟩⟩ := d
    obtain ⟨v_rows, _, rfl, h_rows, ⟨v_size, _, rfl, h_size, rfl⟩⟩ := hA
    have h_rows : (qT K (qT K qI)).r B0 v_rows rows := h_rows
    have h_size : qI.r B0 v_size size := h_size
    have hm : M.rows_kind_ttii rows size = some r := hm
    have w := wd0 e
    unfold M.rows_kind_ttii at hm
    have sc := sc_rows_kind_ttii
    have F_ints_tii := ok_ints_tii (P := P) (w' := w') (base := base) T
    refine ⟨_, (pss_cons (ps_if (PW.pt (pw_or (pt_not (pt_val (pe_callB (kcall_isi K rfl) (by rfl) T.b_isinstance (by decide +kernel) (pa_cons (pv 0) (pa_cons (pe_bltn (v := .ty "tuple") (by rfl) T.b_tuple (by decide +kernel) rfl) pa_nil))))) (pw_or1 (pt_cmpR op_ne (pe_callB (kcl_len K rfl) (by rfl) T.b_len PySem.boot_len (pa_cons (pv 0) pa_nil)) (pv 1) (nomark _))))) (pss_cons (ps_ret pe_bl) pss_never) pss_nil) (pss_cons (ps_ret (pe_callB (kcr_all K rfl rfl) (by rfl) T.b_all (by decide +kernel) (pa_cons (pe_lc (own := [("_law_line", 2)]) rfl sc.nd (kpi_tup K rfl (pv 0)) (blkOk_by (own := [("_law_line", 2)]) (N := N_rows_kind_ttii) (sc := defScope s_rows_kind) (by decide +kernel)) (fun _ _ _ _ _ => (pg_name (i := 2) sc.nd rfl (by first | exact .inl rfl | exact .inr rfl))) (fun _ _ _ _ _ => pts_nil) (fun _ _ _ _ _ => (pe_fn F_ints_tii (hr.mono (by decide)) rfl (pa_cons (pv 2) (pa_cons (pv 1) pa_nil))))) pa_nil))) pss_never)), ?_⟩
    refine st_if (et_or' (et_not (et_B (ev_isi (b := true) (ev_v h_rows rfl) (fun B H v e r => ty_T e r) (by decide +kernel)))) (et_test (ev_neI (ev_lenT (ev_v h_rows rfl)) (ev_v h_size rfl)))) w (fun hA B1 H1 x1 w1 => ?_) (fun hA B1 H1 x1 w1 => ?_)
    · have hm := ifT hm hA
      have h_rows := Rel.mono _ x1.b h_rows
      have h_size := Rel.mono _ x1.b h_size
      have hv := Option.some.inj hm
      subst hv
      exact st_ret gI ev_bl w1 (fun _ _ _ => trivial) q
    · have hm := ifF hm hA
      have h_rows := Rel.mono _ x1.b h_rows
      have h_size := Rel.mono _ x1.b h_size
      refine st_nextT ?_
      obtain ⟨z4, h_z4, hm⟩ := bindS hm
      obtain ⟨t5, h_t5, hm⟩ := bindS hm
      have hv := Option.some.inj hm
      subst hv
      exact st_ret gI (ev_allW (ev_wL (ev_lcS (it_tup (ev_v h_rows rfl)) (compS_mapO h_t5) (lnO_ok h_z4).1 (fun line v2_ s2_ o2_ t2_ B2_ H2_ x2_ r2_ hf2_ => by (obtain ⟨y2_, hy2_, hf2_⟩ := bindS hf2_; cases hf2_; have h_rows := Rel.mono _ x2_.b h_rows; have h_size := Rel.mono _ x2_.b h_size; obtain ⟨t3, h_t3, hy2_⟩ := bindS hy2_; exact turn_g (fun _ _ _ _ q => q) rfl rfl (Ev.is (ev_call gI (ea_cons (ev_v r2_ rfl) (ea_cons (ev_v h_size rfl) ea_nil)) a_id h_t3) (Option.some.inj hy2_))))))) w1 (fun _ _ _ => trivial) q)
abbrev N_weighed_llillilitti : List Str := ["_law_grid_here", "_law_other", "_law_trees", "_law_rows", "_law_whole", "_law_a", "_law_b"]
theorem sc_weighed_llillilitti : FnScope N_weighed_llillilitti ["_law_grid_here", "_law_other", "_law_trees", "_law_rows"] (defScope s_weighed) := ⟨rfl, rfl, rfl, by decide +kernel, rfl, by decide +kernel, by decide +kernel⟩
theorem ok_weighed_llillilitti (T : Top K mg C_Table e_check_states e_forest_row) : Fn P w' K mg base 1 "_law_weighed" ["_law_grid_here", "_law_other", "_law_trees", "_law_rows"] [] (spf (aCons (qL (qL qI)) (aCons (qL (qL qI)) (aCons (qL qI) (aCons (qT K (qT K qI)) aNil)))) (fun d => M.weighed_llillilitti d.1 d.2.1 d.2.2.1 d.2.2.2.1) (pI qI)) :=
  mkFn T.d_weighed sc_weighed_llillilitti (al_spf (al_cons (al_cons (al_cons (al_cons al_nil))))) (fun _ _ _ _ _ _ us hl => match us, hl with | [_, _, _, _], _ => rfl) (fun f cdv A outer s H0 vs Q E hr h => by
    obtain ⟨B0, d, r, e, hA, hm, q⟩ := h
    obtain ⟨grid_here, other, trees, rows, ⟨⟩⟩ := d
    obtain ⟨v_grid_here, _, rfl, h_grid_here, ⟨v_other, _, rfl, h_other, ⟨v_trees, _, rfl, h_trees, ⟨v_rows, _, rfl, h_rows, rfl⟩⟩⟩⟩ := hA
    have h_grid_here : (qL (qL qI)).r B0 v_grid_here grid_here := h_grid_here
    have h_other : (qL (qL qI)).r B0 v_other other := h_other
    have h_trees : (qL qI).r B0 v_trees trees := h_trees
    have h_rows : (qT K (qT K qI)).r B0 v_rows rows := h_rows
    have hm : M.weighed_llillilitti grid_here other trees rows = some r := hm
    have w := wd0 e
    unfold M.weighed_llillilitti at hm
    have sc := sc_weighed_llillilitti
    refine ⟨_, (pss_cons (ps_set (i := 4) sc.nd rfl (by first | exact .inl rfl | exact .inr rfl) pe_int) (pss_cons (ps_for PassesOwn.never rfl (pi_range1 (by rfl) T.b_range (pa_cons (pe_callB (kcl_len K rfl) (by rfl) T.b_len PySem.boot_len (pa_cons (pv 0) pa_nil)) pa_nil)) (pg_name (i := 5) sc.nd rfl (by first | exact .inl rfl | exact .inr rfl)) (pss_cons (ps_for PassesOwn.never rfl (pi_range1 (by rfl) T.b_range (pa_cons (pe_callB (kcl_len K rfl) (by rfl) T.b_len PySem.boot_len (pa_cons (pv 0) pa_nil)) pa_nil)) (pg_name (i := 6) sc.nd rfl (by first | exact .inl rfl | exact .inr rfl)) (pss_cons (ps_set (i := 4) sc.nd rfl (by first | exact .inl rfl | exact .inr rfl) (pe_op op_add (pv 4) (pe_op op_mulW (pe_op op_mulW (pe_ix (kix_list K rfl) (pv 2) (pv 5) (fun _ _ => rfl)) (pe_op op_sub (pe_ix (kix_list K rfl) (pe_ix (kix_list K rfl) (pv 1) (pv 5) (fun _ _ => rfl)) (pv 6) (fun _ _ => rfl)) (pe_ix (kix_list K rfl) (pe_ix (kix_list K rfl) (pv 0) (pv 5) (fun _ _ => rfl)) (pv 6) (fun _ _ => rfl)))) (pe_ix (kix_tup K rfl) (pe_ix (kix_tup K rfl) (pv 3) (pv 5) (fun _ _ => rfl)) (pv 6) (fun _ _ => rfl))))) pss_nil)) pss_nil)) (pss_cons (ps_ret (pv 4)) pss_never))), ?_⟩
    obtain ⟨whole, e_whole, hm⟩ := ltS hm
    refine st_set (i := 4) (Ev.is ev_int e_whole) w (fun v_whole B1 H1 x1 w1 h_whole => ?_)
    have h_grid_here := Rel.mono _ x1.b h_grid_here
    have h_other := Rel.mono _ x1.b h_other
    have h_trees := Rel.mono _ x1.b h_trees
    have h_rows := Rel.mono _ x1.b h_rows
    obtain ⟨r2, h_r2, hm⟩ := bindS hm
    obtain ⟨whole_6, hl3, hm⟩ := bindS hm
    refine st_for (st_forO (it_range1 (ev_lenW (ev_wI (ev_v h_grid_here rfl))) h_r2) w1.e w1.c hl3 (fun Bs (b : Int) σ B H => ∃ a3_4 : V, ∃ p3_5 : Option V, ∃ p3_6 : Option V, σ = [some v_grid_here, some v_other, some v_trees, some v_rows, some a3_4, p3_5, p3_6] ∧ Ex Bs B ∧ Ex B1 B ∧ Wd N0 B0 H0 c0 () B H ∧ qI.r B a3_4 b ∧ True) ?_ ?_ ?_ ?_)
    · rintro _ _ _ _ _ ⟨_, _, _, rfl, e, -, w, -⟩
      exact ⟨e, w.e⟩
    · intro Bs3 Hs3 x3 c3
      have h_whole := Rel.mono _ x3.b h_whole
      exact ⟨v_whole, _, _, rfl, .refl _, x3.b, w1.step x3 c3, h_whole, trivial⟩
    · rintro Bs3 a_ whole_2 b3 σ3 B3p H3p ⟨a3_4, p3_5, p3_6, rfl, e3, eo3, w3, f3_0, -⟩ hm vi3 B3 H3 x3 r3
      rw [M.weighed_llillilitti_l1] at hm
      have h_whole_2 : qI.r _ a3_4 whole_2 := f3_0
      have h_grid_here := Rel.mono _ (eo3.trans x3.b) h_grid_here
      have h_other := Rel.mono _ (eo3.trans x3.b) h_other
      have h_trees := Rel.mono _ (eo3.trans x3.b) h_trees
      have h_rows := Rel.mono _ (eo3.trans x3.b) h_rows
      have h_whole_2 := Rel.mono _ x3.b h_whole_2
      have e3 := e3.trans x3.b
      have eo3 := eo3.trans x3.b
      have w3 := w3.step x3.up (Cell.ext _ w3.c x3)
      have h_a_ := r3
      refine tgn ?_
      obtain ⟨r4, h_r4, hm⟩ := bindS hm
      obtain ⟨whole_5, hl5, hm⟩ := bindS hm
      refine st_for (st_forO (it_range1 (ev_lenW (ev_wI (ev_v h_grid_here rfl))) h_r4) w3.e w3.c hl5 (fun Bs (b : Int) σ B H => ∃ a5_4 : V, ∃ p5_6 : Option V, σ = [some v_grid_here, some v_other, some v_trees, some v_rows, some a5_4, some vi3, p5_6] ∧ Ex Bs B ∧ Ex B3 B ∧ Wd N0 B0 H0 c0 () B H ∧ qI.r B a5_4 b ∧ True) ?_ ?_ ?_ ?_)
      · rintro _ _ _ _ _ ⟨_, _, rfl, e, -, w, -⟩
        exact ⟨e, w.e⟩
      · intro Bs5 Hs5 x5 c5
        have h_whole_2 := Rel.mono _ x5.b h_whole_2
        exact ⟨a3_4, _, rfl, .refl _, x5.b, w3.step x5 c5, h_whole_2, trivial⟩
      · rintro Bs5 b_ whole_3 b5 σ5 B5p H5p ⟨a5_4, p5_6, rfl, e5, eo5, w5, f5_0, -⟩ hm vi5 B5 H5 x5 r5
        rw [M.weighed_llillilitti_l2] at hm
        have h_whole_3 : qI.r _ a5_4 whole_3 := f5_0
        have h_grid_here := Rel.mono _ (eo5.trans x5.b) h_grid_here
        have h_other := Rel.mono _ (eo5.trans x5.b) h_other
        have h_trees := Rel.mono _ (eo5.trans x5.b) h_trees
        have h_rows := Rel.mono _ (eo5.trans x5.b) h_rows
        have h_a_ := Rel.mono _ (eo5.trans x5.b) h_a_
        have h_whole_3 := Rel.mono _ x5.b h_whole_3
        have e3 := e3.trans (eo5.trans x5.b)
        have eo3 := eo3.trans (eo5.trans x5.b)
        have e5 := e5.trans x5.b
        have eo5 := eo5.trans x5.b
        have w5 := w5.step x5.up (Cell.ext _ w5.c x5)
        have h_b_ := r5
        refine tgn ?_
        obtain ⟨t6, h_t6, hm⟩ := bindS hm
        obtain ⟨t7, h_t7, hm⟩ := bindS hm
        obtain ⟨t8, h_t8, hm⟩ := bindS hm
        obtain ⟨t9, h_t9, hm⟩ := bindS hm
        obtain ⟨t10, h_t10, hm⟩ := bindS hm
        obtain ⟨t11, h_t11, hm⟩ := bindS hm
        obtain ⟨t12, h_t12, hm⟩ := bindS hm
        obtain ⟨t13, h_t13, hm⟩ := bindS hm
        obtain ⟨t14, h_t14, hm⟩ := bindS hm
        obtain ⟨whole_4, e_whole_4, hm⟩ := ltS hm
        refine st_set (i := 4) (Ev.is (ev_add (ev_v h_whole_3 rfl) (ev_mul (ev_mul (ev_ixW (ev_wI (ev_v h_trees rfl)) (ev_v h_a_ rfl) h_t6) (ev_sub (ev_ixW (ev_wI (ev_ixW (ev_wI (ev_v h_other rfl)) (ev_v h_a_ rfl) h_t7)) (ev_v h_b_ rfl) h_t8) (ev_ixW (ev_wI (ev_ixW (ev_wI (ev_v h_grid_here rfl)) (ev_v h_a_ rfl) h_t9)) (ev_v h_b_ rfl) h_t10)) h_t11) (ev_ixT (ev_ixT (ev_v h_rows rfl) (ev_v h_a_ rfl) h_t12) (ev_v h_b_ rfl) h_t13) h_t14)) e_whole_4) w5 (fun v_whole_4 B15 H15 x15 w15 h_whole_4 => ?_)
        have h_grid_here := Rel.mono _ x15.b h_grid_here
        have h_other := Rel.mono _ x15.b h_other
        have h_trees := Rel.mono _ x15.b h_trees
        have h_rows := Rel.mono _ x15.b h_rows
        have h_a_ := Rel.mono _ x15.b h_a_
        have h_b_ := Rel.mono _ x15.b h_b_
        have e3 := e3.trans x15.b
        have eo3 := eo3.trans x15.b
        have e5 := e5.trans x15.b
        have eo5 := eo5.trans x15.b
        refine st_next ?_
        have hv := Option.some.inj hm
        subst hv
        exact ⟨_, v_whole_4, _, rfl, e5, eo5, w15, h_whole_4, trivial⟩
      · rintro Bs5 σ5 Bd5 Hd5 ⟨a5_4, p5_6, rfl, ed5, eo5, wd5, f5_0, -⟩
        refine nx_tz ?_
        have h_whole_5 : qI.r _ a5_4 whole_5 := f5_0
        have h_grid_here := Rel.mono _ eo5 h_grid_here
        have h_other := Rel.mono _ eo5 h_other
        have h_trees := Rel.mono _ eo5 h_trees
        have h_rows := Rel.mono _ eo5 h_rows
        have h_a_ := Rel.mono _ eo5 h_a_
        have e3 := e3.trans eo5
        have eo3 := eo3.trans eo5
        refine st_next ?_
        have hv := Option.some.inj hm
        subst hv
        exact ⟨_, a5_4, _, _, rfl, e3, eo3, wd5, h_whole_5, trivial⟩
    · rintro Bs3 σ3 Bd3 Hd3 ⟨a3_4, p3_5, p3_6, rfl, ed3, eo3, wd3, f3_0, -⟩
      refine nx_tz ?_
      have h_whole_6 : qI.r _ a3_4 whole_6 := f3_0
      have hv := Option.some.inj hm
      subst hv
      exact st_ret gI (ev_v h_whole_6 rfl) wd3 (fun _ _ _ => trivial) q)
abbrev N_two_sized_TT : List Str := ["old", "new"]
theorem sc_two_sized_TT : FnScope N_two_sized_TT ["old", "new"] (defScope s_two_sized) := ⟨rfl, rfl, rfl, by decide +kernel, rfl, by decide +kernel, by decide +kernel⟩
theorem ok_two_sized_TT (T : Top K mg C_Table e_check_states e_forest_row) : Fn P w' K mg base 1 "two_sized" ["old", "new"] [] (spf (aCons (qTab K C_Table) (aCons (qTab K C_Table) aNil)) (fun d => M.two_sized_TT d.1 d.2.1) (pI qI)) :=
  mkFn T.d_two_sized sc_two_sized_TT (al_spf (al_cons (al_cons al_nil))) (fun _ _ _ _ _ _ us hl => match us, hl with | [_, _], _ => rfl) (fun f cdv A outer s H0 vs Q E hr h => by
    obtain ⟨B0, d, r, e, hA, hm, q⟩ := h
    obtain ⟨old, new, ⟨⟩⟩ := d
    obtain ⟨v_old, _, rfl, h_old, ⟨v_new, _, rfl, h_new, rfl⟩⟩ := hA
    have h_old : (qTab K C_Table).r B0 v_old old := h_old
    have h_new : (qTab K C_Table).r B0 v_new new := h_new
    have hm : M.two_sized_TT old new = some r := hm
    have w := wd0 e
    unfold M.two_sized_TT at hm
    have sc := sc_two_sized_TT
    refine ⟨_, (pss_cons (ps_if (pt_cmpR op_ne (kpe_fld K rfl (pv 0) rfl) (kpe_fld K rfl (pv 1) rfl) (nomark _)) pss_never pss_nil) (pss_cons (ps_ret (kpe_fld K rfl (pv 0) rfl)) pss_never)), ?_⟩
    refine st_if (et_test (ev_neI (ev_size T.cl_Table T.n_Table_size (ev_v h_old rfl)) (ev_size T.cl_Table T.n_Table_size (ev_v h_new rfl)))) w (fun hA B1 H1 x1 w1 => ?_) (fun hA B1 H1 x1 w1 => ?_)
    · have hm := ifT hm hA
      have h_old := Rel.mono _ x1.b h_old
      have h_new := Rel.mono _ x1.b h_new
      cases hm
    · have hm := ifF hm hA
      have h_old := Rel.mono _ x1.b h_old
      refine st_nextT ?_
      have hv := Option.some.inj hm
      subst hv
      exact st_ret gI (ev_size T.cl_Table T.n_Table_size (ev_v h_old rfl)) w1 (fun _ _ _ => trivial) q)
abbrev N_some_states_of_iti : List Str := ["size", "thing", "found"]
theorem sc_some_states_of_iti : FnScope N_some_states_of_iti ["size", "thing"] (defScope s_some_states_of) := ⟨rfl, rfl, rfl, by decide +kernel, rfl, by decide +kernel, by decide +kernel⟩
theorem ok_some_states_of_iti (T : Top K mg C_Table e_check_states e_forest_row) : Fn P w' K mg base 4 "some_states_of" ["size", "thing"] [] (spf (aCons qI (aCons (qT K qI) aNil)) (fun d => M.some_states_of_iti d.1 d.2.1) (pI (qT K qI))) :=
  mkFn T.d_some_states_of sc_some_states_of_iti (al_spf (al_cons (al_cons al_nil))) (fun _ _ _ _ _ _ us hl => match us, hl with | [_, _], _ => rfl) (fun f cdv A outer s H0 vs Q E hr h => by
    obtain ⟨B0, d, r, e, hA, hm, q⟩ := h
    obtain ⟨size, thing, ⟨⟩⟩ := d
    obtain ⟨v_size, _, rfl, h_size, ⟨v_thing, _, rfl, h_thing, rfl⟩⟩ := hA
    have h_size : qI.r B0 v_size size := h_size
    have h_thing : (qT K qI).r B0 v_thing thing := h_thing
    have hm : M.some_states_of_iti size thing = some r := hm
    have w := wd0 e
    unfold M.some_states_of_iti at hm
    have sc := sc_some_states_of_iti
    have F_states_of_iti := ok_states_of_iti (P := P) (w' := w') (base := base) T
    refine ⟨_, (pss_cons (ps_set (i := 2) sc.nd rfl (by first | exact .inl rfl | exact .inr rfl) (pe_fn F_states_of_iti (hr.mono (by decide)) rfl (pa_cons (pv 0) (pa_cons (pv 1) pa_nil)))) (pss_cons (ps_if (pt_cmpR op_eq (pe_callB (kcl_len K rfl) (by rfl) T.b_len PySem.boot_len (pa_cons (pv 2) pa_nil)) pe_int (nomark _)) pss_never pss_nil) (pss_cons (ps_ret (pv 2)) pss_never))), ?_⟩
    obtain ⟨found, h_found, hm⟩ := bindS hm
    refine st_set (i := 2) (ev_call gI (ea_cons (ev_v h_size rfl) (ea_cons (ev_v h_thing rfl) ea_nil)) a_id h_found) w (fun v_found B2 H2 x2 w2 h_found => ?_)
    refine st_if (et_test (ev_eqI (ev_lenT (ev_v h_found rfl)) ev_int)) w2 (fun hA B3 H3 x3 w3 => ?_) (fun hA B3 H3 x3 w3 => ?_)
    · have hm := ifT hm hA
      have h_found := Rel.mono _ x3.b h_found
      cases hm
    · have hm := ifF hm hA
      have h_found := Rel.mono _ x3.b h_found
      refine st_nextT ?_
      have hv := Option.some.inj hm
      subst hv
      exact st_ret gI (ev_v h_found rfl) w3 (fun _ _ _ => trivial) q)
abbrev N_forest_sum_Tti : List Str := ["table", "roots", "wanted"]
theorem sc_forest_sum_Tti : FnScope N_forest_sum_Tti ["table", "roots"] (defScope s_forest_sum) := ⟨rfl, rfl, rfl, by decide +kernel, rfl, by decide +kernel, by decide +kernel⟩
theorem ok_forest_sum_Tti (T : Top K mg C_Table e_check_states e_forest_row) : Fn P w' K mg base 5 "forest_sum" ["table", "roots"] [] (spf (aCons (qTab K C_Table) (aCons (qT K qI) aNil)) (fun d => M.forest_sum_Tti d.1 d.2.1) (pI qI)) :=
  mkFn T.d_forest_sum sc_forest_sum_Tti (al_spf (al_cons (al_cons al_nil))) (fun _ _ _ _ _ _ us hl => match us, hl with | [_, _], _ => rfl) (fun f cdv A outer s H0 vs Q E hr h => by
    obtain ⟨B0, d, r, e, hA, hm, q⟩ := h
    obtain ⟨table, roots, ⟨⟩⟩ := d
    obtain ⟨v_table, _, rfl, h_table, ⟨v_roots, _, rfl, h_roots, rfl⟩⟩ := hA
    have h_table : (qTab K C_Table).r B0 v_table table := h_table
    have h_roots : (qT K qI).r B0 v_roots roots := h_roots
    have hm : M.forest_sum_Tti table roots = some r := hm
    have w := wd0 e
    unfold M.forest_sum_Tti at hm
    have sc := sc_forest_sum_Tti
    have F_some_states_of_iti := ok_some_states_of_iti (P := P) (w' := w') (base := base) T
    have F_states_outside_Tti := ok_states_outside_Tti (P := P) (w' := w') (base := base) T
    have F_left_rows_Tli := ok_left_rows_Tli (P := P) (w' := w') (base := base) T
    have F_determinant_lli := ok_determinant_lli (P := P) (w' := w') (base := base) T
    refine ⟨_, (pss_cons (ps_set (i := 2) sc.nd rfl (by first | exact .inl rfl | exact .inr rfl) (pe_fn F_some_states_of_iti (hr.mono (by decide)) rfl (pa_cons (kpe_fld K rfl (pv 0) rfl) (pa_cons (pv 1) pa_nil)))) (pss_cons (ps_ret (pe_fn F_determinant_lli (hr.mono (by decide)) rfl (pa_cons (pe_fn F_left_rows_Tli (hr.mono (by decide)) rfl (pa_cons (pv 0) (pa_cons (pe_fn F_states_outside_Tti (hr.mono (by decide)) rfl (pa_cons (pv 0) (pa_cons (pv 2) pa_nil))) pa_nil))) pa_nil))) pss_never)), ?_⟩
    obtain ⟨wanted, h_wanted, hm⟩ := bindS hm
    refine st_set (i := 2) (ev_call gI (ea_cons (ev_size T.cl_Table T.n_Table_size (ev_v h_table rfl)) (ea_cons (ev_v h_roots rfl) ea_nil)) a_id h_wanted) w (fun v_wanted B2 H2 x2 w2 h_wanted => ?_)
    have h_table := Rel.mono _ x2.b h_table
    obtain ⟨t3, h_t3, hm⟩ := bindS hm
    obtain ⟨t4, h_t4, hm⟩ := bindS hm
    obtain ⟨t5, h_t5, hm⟩ := bindS hm
    have hv := Option.some.inj hm
    subst hv
    exact st_ret gI (ev_call gI (ea_cons (ev_fz (ev_call gL (ea_cons (ev_v h_table rfl) (ea_cons (ev_fz (ev_call gL (ea_cons (ev_v h_table rfl) (ea_cons (ev_v h_wanted rfl) ea_nil)) a_id h_t3)) ea_nil)) a_id h_t4)) ea_nil) a_id h_t5) w2 (fun _ _ _ => trivial) q)
abbrev N_tree_sum_Ti : List Str := ["table", "x"]
theorem sc_tree_sum_Ti : FnScope N_tree_sum_Ti ["table", "x"] (defScope s_tree_sum) := ⟨rfl, rfl, rfl, by decide +kernel, rfl, by decide +kernel, by decide +kernel⟩
theorem ok_tree_sum_Ti (T : Top K mg C_Table e_check_states e_forest_row) : Fn P w' K mg base 6 "tree_sum" ["table", "x"] [] (spf (aCons (qTab K C_Table) (aCons qI aNil)) (fun d => M.tree_sum_Ti d.1 d.2.1) (pI qI)) :=
  mkFn T.d_tree_sum sc_tree_sum_Ti (al_spf (al_cons (al_cons al_nil))) (fun _ _ _ _ _ _ us hl => match us, hl with | [_, _], _ => rfl) (fun f cdv A outer s H0 vs Q E hr h => by
    obtain ⟨B0, d, r, e, hA, hm, q⟩ := h
    obtain ⟨table, x_, ⟨⟩⟩ := d
    obtain ⟨v_table, _, rfl, h_table, ⟨v_x_, _, rfl, h_x_, rfl⟩⟩ := hA
    have h_table : (qTab K C_Table).r B0 v_table table := h_table
    have h_x_ : qI.r B0 v_x_ x_ := h_x_
    have hm : M.tree_sum_Ti table x_ = some r := hm
    have w := wd0 e
    unfold M.tree_sum_Ti at hm
    have sc := sc_tree_sum_Ti
    have F_check_states_ititti_0 := ok_check_states_ititti_0 (P := P) (w' := w') (base := base) T
    have F_check_states_ititti_1 := ok_check_states_ititti_1 (P := P) (w' := w') (base := base) T
    have F_forest_sum_Tti := ok_forest_sum_Tti (P := P) (w' := w') (base := base) T
    refine ⟨_, (pss_cons (ps_expr (pe_fn F_check_states_ititti_0 (hr.mono (by decide)) rfl (pa_cons (kpe_fld K rfl (pv 0) rfl) (pa_cons (pe_tup (pa_cons (pv 1) pa_nil)) pa_nil)))) (pss_cons (ps_ret (pe_fn F_forest_sum_Tti (hr.mono (by decide)) rfl (pa_cons (pv 0) (pa_cons (pe_tup (pa_cons (pv 1) pa_nil)) pa_nil)))) pss_never)), ?_⟩
    obtain ⟨t1, h_t1, hm⟩ := bindS hm
    refine st_drop (ev_call gI (ea_cons (ev_size T.cl_Table T.n_Table_size (ev_v h_table rfl)) (ea_cons (ev_tup (R := qI) (eb_cons (ev_v h_x_ rfl) eb_nil) (by show 1 ≤ 1000000; decide)) ea_nil)) (ad_cons (ad_cons (ad_nil T.e_check_states_))) h_t1) w (fun B2 H2 x2 w2 => ?_)
    have h_table := Rel.mono _ x2.b h_table
    have h_x_ := Rel.mono _ x2.b h_x_
    obtain ⟨t3, h_t3, hm⟩ := bindS hm
    have hv := Option.some.inj hm
    subst hv
    exact st_ret gI (ev_call gI (ea_cons (ev_v h_table rfl) (ea_cons (ev_tup (R := qI) (eb_cons (ev_v h_x_ rfl) eb_nil) (by show 1 ≤ 1000000; decide)) ea_nil)) a_id h_t3) w2 (fun _ _ _ => trivial) q)
abbrev N_ratio_gap_TTii : List Str := ["old", "new", "c", "e"]
theorem sc_ratio_gap_TTii : FnScope N_ratio_gap_TTii ["old", "new", "c", "e"] (defScope s_ratio_gap) := ⟨rfl, rfl, rfl, by decide +kernel, rfl, by decide +kernel, by decide +kernel⟩
theorem ok_ratio_gap_TTii (T : Top K mg C_Table e_check_states e_forest_row) : Fn P w' K mg base 7 "ratio_gap" ["old", "new", "c", "e"] [] (spf (aCons (qTab K C_Table) (aCons (qTab K C_Table) (aCons qI (aCons qI aNil)))) (fun d => M.ratio_gap_TTii d.1 d.2.1 d.2.2.1 d.2.2.2.1) (pI qI)) :=
  mkFn T.d_ratio_gap sc_ratio_gap_TTii (al_spf (al_cons (al_cons (al_cons (al_cons al_nil))))) (fun _ _ _ _ _ _ us hl => match us, hl with | [_, _, _, _], _ => rfl) (fun f cdv A outer s H0 vs Q E hr h => by
    obtain ⟨B0, d, r, e, hA, hm, q⟩ := h
    obtain ⟨old, new, c_, e_, ⟨⟩⟩ := d
    obtain ⟨v_old, _, rfl, h_old, ⟨v_new, _, rfl, h_new, ⟨v_c_, _, rfl, h_c_, ⟨v_e_, _, rfl, h_e_, rfl⟩⟩⟩⟩ := hA
    have h_old : (qTab K C_Table).r B0 v_old old := h_old
    have h_new : (qTab K C_Table).r B0 v_new new := h_new
    have h_c_ : qI.r B0 v_c_ c_ := h_c_
    have h_e_ : qI.r B0 v_e_ e_ := h_e_
    have hm : M.ratio_gap_TTii old new c_ e_ = some r := hm
    have w := wd0 e
    unfold M.ratio_gap_TTii at hm
    have sc := sc_ratio_gap_TTii
    have F_two_sized_TT := ok_two_sized_TT (P := P) (w' := w') (base := base) T
    have F_check_states_ititti_0 := ok_check_states_ititti_0 (P := P) (w' := w') (base := base) T
    have F_check_states_ititti_1 := ok_check_states_ititti_1 (P := P) (w' := w') (base := base) T
    have F_tree_sum_Ti := ok_tree_sum_Ti (P := P) (w' := w') (base := base) T
    refine ⟨_, (pss_cons (ps_expr (pe_fn F_check_states_ititti_1 (hr.mono (by decide)) rfl (pa_cons (pe_fn F_two_sized_TT (hr.mono (by decide)) rfl (pa_cons (pv 0) (pa_cons (pv 1) pa_nil))) (pa_cons (pe_tup (pa_cons (pv 2) (pa_cons (pv 3) pa_nil))) (pa_cons (pe_tup (pa_cons (pe_tup (pa_cons pe_int (pa_cons pe_int pa_nil))) pa_nil)) pa_nil))))) (pss_cons (ps_ret (pe_op op_sub (pe_op op_mulW (pe_fn F_tree_sum_Ti (hr.mono (by decide)) rfl (pa_cons (pv 1) (pa_cons (pv 2) pa_nil))) (pe_fn F_tree_sum_Ti (hr.mono (by decide)) rfl (pa_cons (pv 0) (pa_cons (pv 3) pa_nil)))) (pe_op op_mulW (pe_fn F_tree_sum_Ti (hr.mono (by decide)) rfl (pa_cons (pv 1) (pa_cons (pv 3) pa_nil))) (pe_fn F_tree_sum_Ti (hr.mono (by decide)) rfl (pa_cons (pv 0) (pa_cons (pv 2) pa_nil)))))) pss_never)), ?_⟩
    obtain ⟨t1, h_t1, hm⟩ := bindS hm
    obtain ⟨t2, h_t2, hm⟩ := bindS hm
    refine st_drop (ev_call gI (ea_cons (ev_call gI (ea_cons (ev_v h_old rfl) (ea_cons (ev_v h_new rfl) ea_nil)) a_id h_t1) (ea_cons (ev_tup (R := qI) (eb_cons (ev_v h_c_ rfl) (eb_cons (ev_v h_e_ rfl) eb_nil)) (by show 2 ≤ 1000000; decide)) (ea_cons (ev_tup (R := (qT K qI)) (eb_cons (ev_tup (R := qI) (eb_cons ev_int (eb_cons ev_int eb_nil)) (by show 2 ≤ 1000000; decide)) eb_nil) (by show 1 ≤ 1000000; decide)) ea_nil))) a_id h_t2) w (fun B3 H3 x3 w3 => ?_)
    have h_old := Rel.mono _ x3.b h_old
    have h_new := Rel.mono _ x3.b h_new
    have h_c_ := Rel.mono _ x3.b h_c_
    have h_e_ := Rel.mono _ x3.b h_e_
    obtain ⟨t4, h_t4, hm⟩ := bindS hm
    obtain ⟨t5, h_t5, hm⟩ := bindS hm
    obtain ⟨t6, h_t6, hm⟩ := bindS hm
    obtain ⟨t7, h_t7, hm⟩ := bindS hm
    obtain ⟨t8, h_t8, hm⟩ := bindS hm
    obtain ⟨t9, h_t9, hm⟩ := bindS hm
    have hv := Option.some.inj hm
    subst hv
    exact st_ret gI (ev_sub (ev_mul (ev_call gI (ea_cons (ev_v h_new rfl) (ea_cons (ev_v h_c_ rfl) ea_nil)) a_id h_t4) (ev_call gI (ea_cons (ev_v h_old rfl) (ea_cons (ev_v h_e_ rfl) ea_nil)) a_id h_t5) h_t6) (ev_mul (ev_call gI (ea_cons (ev_v h_new rfl) (ea_cons (ev_v h_e_ rfl) ea_nil)) a_id h_t7) (ev_call gI (ea_cons (ev_v h_old rfl) (ea_cons (ev_v h_c_ rfl) ea_nil)) a_id h_t8) h_t9)) w3 (fun _ _ _ => trivial) q)
abbrev N_gaps_right_TTllillitilili : List Str := ["_law_old", "_law_new", "_law_grid_here", "_law_other", "_law_ends", "_law_trees", "_law_others", "_law_c", "_law_e", "_law_size", "_law_rows", "_law_behind", "_law_due"]
theorem sc_gaps_right_TTllillitilili : FnScope N_gaps_right_TTllillitilili ["_law_old", "_law_new", "_law_grid_here", "_law_other", "_law_ends", "_law_trees", "_law_others"] (defScope s_gaps_right) := ⟨rfl, rfl, rfl, by decide +kernel, rfl, by decide +kernel, by decide +kernel⟩
theorem ok_gaps_right_TTllillitilili (T : Top K mg C_Table e_check_states e_forest_row) : Fn P w' K mg base 8 "_law_gaps_right" ["_law_old", "_law_new", "_law_grid_here", "_law_other", "_law_ends", "_law_trees", "_law_others"] [] (spf (aCons (qTab K C_Table) (aCons (qTab K C_Table) (aCons (qL (qL qI)) (aCons (qL (qL qI)) (aCons (qT K qI) (aCons (qL qI) (aCons (qL qI) aNil))))))) (fun d => M.gaps_right_TTllillitilili d.1 d.2.1 d.2.2.1 d.2.2.2.1 d.2.2.2.2.1 d.2.2.2.2.2.1 d.2.2.2.2.2.2.1) (pI qB)) :=
  mkFn T.d_gaps_right sc_gaps_right_TTllillitilili (al_spf (al_cons (al_cons (al_cons (al_cons (al_cons (al_cons (al_cons al_nil)))))))) (fun _ _ _ _ _ _ us hl => match us, hl with | [_, _, _, _, _, _, _], _ => rfl) (fun f cdv A outer s H0 vs Q E hr h => by
    obtain ⟨B0, d, r, e, hA, hm, q⟩ := h
    obtain ⟨old, new, grid_here, other, ends, trees, others, ⟨⟩⟩ := d
    obtain ⟨v_old, _, rfl, h_old, ⟨v_new, _, rfl, h_new, ⟨v_grid_here, _, rfl, h_grid_here, ⟨v_other, _, rfl, h_other, ⟨v_ends, _, rfl, h_ends, ⟨v_trees, _, rfl, h_trees, ⟨v_others, _, rfl, h_others, rfl⟩⟩⟩⟩⟩⟩⟩ := hA
    have h_old : (qTab K C_Table).r B0 v_old old := h_old
    have h_new : (qTab K C_Table).r B0 v_new new := h_new
    have h_grid_here : (qL (qL qI)).r B0 v_grid_here grid_here := h_grid_here
    have h_other : (qL (qL qI)).r B0 v_other other := h_other
    have h_ends : (qT K qI).r B0 v_ends ends := h_ends
    have h_trees : (qL qI).r B0 v_trees trees := h_trees
    have h_others : (qL qI).r B0 v_others others := h_others
    have hm : M.gaps_right_TTllillitilili old new grid_here other ends trees others = some r := hm
    have w := wd0 e
    unfold M.gaps_right_TTllillitilili at hm
    have sc := sc_gaps_right_TTllillitilili
    have F_push_rows_Tii := ok_push_rows_Tii (P := P) (w' := w') (base := base) T
    have F_rows_kind_ttii := ok_rows_kind_ttii (P := P) (w' := w') (base := base) T
    have F_weighed_llillilitti := ok_weighed_llillilitti (P := P) (w' := w') (base := base) T
    have F_ratio_gap_TTii := ok_ratio_gap_TTii (P := P) (w' := w') (base := base) T
    refine ⟨_, (pss_cons (ps_set (i := 7) sc.nd rfl (by first | exact .inl rfl | exact .inr rfl) (pe_ix (kix_tup K rfl) (pv 4) pe_int (fun _ _ => rfl))) (pss_cons (ps_set (i := 8) sc.nd rfl (by first | exact .inl rfl | exact .inr rfl) (pe_ix (kix_tup K rfl) (pv 4) pe_int (fun _ _ => rfl))) (pss_cons (ps_set (i := 9) sc.nd rfl (by first | exact .inl rfl | exact .inr rfl) (pe_callB (kcl_len K rfl) (by rfl) T.b_len PySem.boot_len (pa_cons (pv 2) pa_nil))) (pss_cons (ps_set (i := 10) sc.nd rfl (by first | exact .inl rfl | exact .inr rfl) (pe_fn F_push_rows_Tii (hr.mono (by decide)) rfl (pa_cons (pv 0) (pa_cons (pv 7) (pa_cons (pv 8) pa_nil))))) (pss_cons (ps_set (i := 11) sc.nd rfl (by first | exact .inl rfl | exact .inr rfl) (pe_fn F_push_rows_Tii (hr.mono (by decide)) rfl (pa_cons (pv 1) (pa_cons (pv 7) (pa_cons (pv 8) pa_nil))))) (pss_cons (ps_if (PW.pt (pw_or (pt_not (pt_val (pe_fn F_rows_kind_ttii (hr.mono (by decide)) rfl (pa_cons (pv 10) (pa_cons (pv 9) pa_nil))))) (pw_or1 (pt_not (pt_val (pe_fn F_rows_kind_ttii (hr.mono (by decide)) rfl (pa_cons (pv 11) (pa_cons (pv 9) pa_nil)))))))) (pss_cons (ps_ret pe_bl) pss_never) pss_nil) (pss_cons (ps_set (i := 12) sc.nd rfl (by first | exact .inl rfl | exact .inr rfl) (pe_op op_sub (pe_op op_mulW (pe_ix (kix_list K rfl) (pv 6) (pv 7) (fun _ _ => rfl)) (pe_ix (kix_list K rfl) (pv 5) (pv 8) (fun _ _ => rfl))) (pe_op op_mulW (pe_ix (kix_list K rfl) (pv 6) (pv 8) (fun _ _ => rfl)) (pe_ix (kix_list K rfl) (pv 5) (pv 7) (fun _ _ => rfl))))) (pss_cons (ps_if (PW.pt (pw_or (pt_cmpR op_ne (pe_fn F_weighed_llillilitti (hr.mono (by decide)) rfl (pa_cons (pv 2) (pa_cons (pv 3) (pa_cons (pv 6) (pa_cons (pv 10) pa_nil))))) (pv 12) (nomark _)) (pw_or1 (pt_cmpR op_ne (pe_fn F_weighed_llillilitti (hr.mono (by decide)) rfl (pa_cons (pv 2) (pa_cons (pv 3) (pa_cons (pv 5) (pa_cons (pv 11) pa_nil))))) (pv 12) (nomark _))))) (pss_cons (ps_ret pe_bl) pss_never) pss_nil) (pss_cons (ps_ret (pe_and (pe_cmpR op_eq (pe_fn F_ratio_gap_TTii (hr.mono (by decide)) rfl (pa_cons (pv 0) (pa_cons (pv 1) (pa_cons (pv 7) (pa_cons (pv 8) pa_nil))))) (pv 12) (nomark _)) (pe_one (pe_cmpR op_eq (pe_fn F_ratio_gap_TTii (hr.mono (by decide)) rfl (pa_cons (pv 1) (pa_cons (pv 0) (pa_cons (pv 7) (pa_cons (pv 8) pa_nil))))) (pe_un un_neg (pv 12)) (nomark _))))) pss_never))))))))), ?_⟩
    obtain ⟨c_, h_c_, hm⟩ := bindS hm
    refine st_set (i := 7) (ev_ixT (ev_v h_ends rfl) ev_int h_c_) w (fun v_c_ B2 H2 x2 w2 h_c_ => ?_)
    have h_old := Rel.mono _ x2.b h_old
    have h_new := Rel.mono _ x2.b h_new
    have h_grid_here := Rel.mono _ x2.b h_grid_here
    have h_other := Rel.mono _ x2.b h_other
    have h_ends := Rel.mono _ x2.b h_ends
    have h_trees := Rel.mono _ x2.b h_trees
    have h_others := Rel.mono _ x2.b h_others
    obtain ⟨e_, h_e_, hm⟩ := bindS hm
    refine st_set (i := 8) (ev_ixT (ev_v h_ends rfl) ev_int h_e_) w2 (fun v_e_ B4 H4 x4 w4 h_e_ => ?_)
    have h_old := Rel.mono _ x4.b h_old
    have h_new := Rel.mono _ x4.b h_new
    have h_grid_here := Rel.mono _ x4.b h_grid_here
    have h_other := Rel.mono _ x4.b h_other
    have h_trees := Rel.mono _ x4.b h_trees
    have h_others := Rel.mono _ x4.b h_others
    have h_c_ := Rel.mono _ x4.b h_c_
    obtain ⟨size, e_size, hm⟩ := ltS hm
    refine st_set (i := 9) (Ev.is (ev_lenW (ev_wI (ev_v h_grid_here rfl))) e_size) w4 (fun v_size B5 H5 x5 w5 h_size => ?_)
    have h_old := Rel.mono _ x5.b h_old
    have h_new := Rel.mono _ x5.b h_new
    have h_grid_here := Rel.mono _ x5.b h_grid_here
    have h_other := Rel.mono _ x5.b h_other
    have h_trees := Rel.mono _ x5.b h_trees
    have h_others := Rel.mono _ x5.b h_others
    have h_c_ := Rel.mono _ x5.b h_c_
    have h_e_ := Rel.mono _ x5.b h_e_
    obtain ⟨rows, h_rows, hm⟩ := bindS hm
    refine st_set (i := 10) (ev_call gI (ea_cons (ev_v h_old rfl) (ea_cons (ev_v h_c_ rfl) (ea_cons (ev_v h_e_ rfl) ea_nil))) a_id h_rows) w5 (fun v_rows B7 H7 x7 w7 h_rows => ?_)
    have h_old := Rel.mono _ x7.b h_old
    have h_new := Rel.mono _ x7.b h_new
    have h_grid_here := Rel.mono _ x7.b h_grid_here
    have h_other := Rel.mono _ x7.b h_other
    have h_trees := Rel.mono _ x7.b h_trees
    have h_others := Rel.mono _ x7.b h_others
    have h_c_ := Rel.mono _ x7.b h_c_
    have h_e_ := Rel.mono _ x7.b h_e_
    have h_size := Rel.mono _ x7.b h_size
    obtain ⟨behind, h_behind, hm⟩ := bindS hm
    refine st_set (i := 11) (ev_call gI (ea_cons (ev_v h_new rfl) (ea_cons (ev_v h_c_ rfl) (ea_cons (ev_v h_e_ rfl) ea_nil))) a_id h_behind) w7 (fun v_behind B9 H9 x9 w9 h_behind => ?_)
    have h_old := Rel.mono _ x9.b h_old
    have h_new := Rel.mono _ x9.b h_new
    have h_grid_here := Rel.mono _ x9.b h_grid_here
    have h_other := Rel.mono _ x9.b h_other
    have h_trees := Rel.mono _ x9.b h_trees
    have h_others := Rel.mono _ x9.b h_others
    have h_c_ := Rel.mono _ x9.b h_c_
    have h_e_ := Rel.mono _ x9.b h_e_
    have h_size := Rel.mono _ x9.b h_size
    have h_rows := Rel.mono _ x9.b h_rows
    obtain ⟨t10, h_t10, hm⟩ := bindS hm
    obtain ⟨c12, h_c12, hm⟩ := bindS hm
    refine st_if (et_or (b := c12) (et_not (et_B (ev_call gI (ea_cons (ev_v h_rows rfl) (ea_cons (ev_v h_size rfl) ea_nil)) a_id h_t10))) (fun hA => by (have hk := ifF h_c12 hA; obtain ⟨t11, h_t11, hk⟩ := bindS hk; have hv := Option.some.inj hk; subst hv; exact (et_not (et_B (ev_call gI (ea_cons (ev_v h_behind rfl) (ea_cons (ev_v h_size rfl) ea_nil)) a_id h_t11))))) (fun hA => by (have hk := ifT h_c12 hA; have hv := Option.some.inj hk; subst hv; exact ⟨rfl, rfl⟩))) w9 (fun hA B13 H13 x13 w13 => ?_) (fun hA B13 H13 x13 w13 => ?_)
    · have hm := ifT hm hA
      have h_old := Rel.mono _ x13.b h_old
      have h_new := Rel.mono _ x13.b h_new
      have h_grid_here := Rel.mono _ x13.b h_grid_here
      have h_other := Rel.mono _ x13.b h_other
      have h_trees := Rel.mono _ x13.b h_trees
      have h_others := Rel.mono _ x13.b h_others
      have h_c_ := Rel.mono _ x13.b h_c_
      have h_e_ := Rel.mono _ x13.b h_e_
      have h_rows := Rel.mono _ x13.b h_rows
      have h_behind := Rel.mono _ x13.b h_behind
      have hv := Option.some.inj hm
      subst hv
      exact st_ret gI ev_bl w13 (fun _ _ _ => trivial) q
    · have hm := ifF hm hA
      have h_old := Rel.mono _ x13.b h_old
      have h_new := Rel.mono _ x13.b h_new
      have h_grid_here := Rel.mono _ x13.b h_grid_here
      have h_other := Rel.mono _ x13.b h_other
      have h_trees := Rel.mono _ x13.b h_trees
      have h_others := Rel.mono _ x13.b h_others
      have h_c_ := Rel.mono _ x13.b h_c_
      have h_e_ := Rel.mono _ x13.b h_e_
      have h_rows := Rel.mono _ x13.b h_rows
      have h_behind := Rel.mono _ x13.b h_behind
      refine st_nextT ?_
      obtain ⟨t14, h_t14, hm⟩ := bindS hm
      obtain ⟨t15, h_t15, hm⟩ := bindS hm
      obtain ⟨t16, h_t16, hm⟩ := bindS hm
      obtain ⟨t17, h_t17, hm⟩ := bindS hm
      obtain ⟨t18, h_t18, hm⟩ := bindS hm
      obtain ⟨t19, h_t19, hm⟩ := bindS hm
      obtain ⟨due, e_due, hm⟩ := ltS hm
      refine st_set (i := 12) (Ev.is (ev_sub (ev_mul (ev_ixW (ev_wI (ev_v h_others rfl)) (ev_v h_c_ rfl) h_t14) (ev_ixW (ev_wI (ev_v h_trees rfl)) (ev_v h_e_ rfl) h_t15) h_t16) (ev_mul (ev_ixW (ev_wI (ev_v h_others rfl)) (ev_v h_e_ rfl) h_t17) (ev_ixW (ev_wI (ev_v h_trees rfl)) (ev_v h_c_ rfl) h_t18) h_t19)) e_due) w13 (fun v_due B20 H20 x20 w20 h_due => ?_)
      have h_old := Rel.mono _ x20.b h_old
      have h_new := Rel.mono _ x20.b h_new
      have h_grid_here := Rel.mono _ x20.b h_grid_here
      have h_other := Rel.mono _ x20.b h_other
      have h_trees := Rel.mono _ x20.b h_trees
      have h_others := Rel.mono _ x20.b h_others
      have h_c_ := Rel.mono _ x20.b h_c_
      have h_e_ := Rel.mono _ x20.b h_e_
      have h_rows := Rel.mono _ x20.b h_rows
      have h_behind := Rel.mono _ x20.b h_behind
      obtain ⟨t21, h_t21, hm⟩ := bindS hm
      obtain ⟨c23, h_c23, hm⟩ := bindS hm
      refine st_if (et_or (b := c23) (et_test (ev_neI (ev_call gI (ea_cons (ev_v h_grid_here rfl) (ea_cons (ev_v h_other rfl) (ea_cons (ev_v h_others rfl) (ea_cons (ev_v h_rows rfl) ea_nil)))) a_id h_t21) (ev_v h_due rfl))) (fun hA => by (have hk := ifF h_c23 hA; obtain ⟨t22, h_t22, hk⟩ := bindS hk; have hv := Option.some.inj hk; subst hv; exact (et_test (ev_neI (ev_call gI (ea_cons (ev_v h_grid_here rfl) (ea_cons (ev_v h_other rfl) (ea_cons (ev_v h_trees rfl) (ea_cons (ev_v h_behind rfl) ea_nil)))) a_id h_t22) (ev_v h_due rfl))))) (fun hA => by (have hk := ifT h_c23 hA; have hv := Option.some.inj hk; subst hv; exact ⟨rfl, rfl⟩))) w20 (fun hA B24 H24 x24 w24 => ?_) (fun hA B24 H24 x24 w24 => ?_)
      · have hm := ifT hm hA
        have h_old := Rel.mono _ x24.b h_old
        have h_new := Rel.mono _ x24.b h_new
        have h_c_ := Rel.mono _ x24.b h_c_
        have h_e_ := Rel.mono _ x24.b h_e_
        have h_due := Rel.mono _ x24.b h_due
        have hv := Option.some.inj hm
        subst hv
        exact st_ret gI ev_bl w24 (fun _ _ _ => trivial) q
      · have hm := ifF hm hA
        have h_old := Rel.mono _ x24.b h_old
        have h_new := Rel.mono _ x24.b h_new
        have h_c_ := Rel.mono _ x24.b h_c_
        have h_e_ := Rel.mono _ x24.b h_e_
        have h_due := Rel.mono _ x24.b h_due
        refine st_nextT ?_
        obtain ⟨t25, h_t25, hm⟩ := bindS hm
        obtain ⟨c27, h_c27, hm⟩ := bindS hm
        have hv := Option.some.inj hm
        subst hv
        exact st_ret gI (ev_andV (b := c27) (ev_eqI (ev_call gI (ea_cons (ev_v h_old rfl) (ea_cons (ev_v h_new rfl) (ea_cons (ev_v h_c_ rfl) (ea_cons (ev_v h_e_ rfl) ea_nil)))) a_id h_t25) (ev_v h_due rfl)) (fun hA => by (have hk := ifT h_c27 hA; obtain ⟨t26, h_t26, hk⟩ := bindS hk; have hv := Option.some.inj hk; subst hv; exact (ev_eqI (ev_call gI (ea_cons (ev_v h_new rfl) (ea_cons (ev_v h_old rfl) (ea_cons (ev_v h_c_ rfl) (ea_cons (ev_v h_e_ rfl) ea_nil)))) a_id h_t26) (ev_neg (ev_v h_due rfl))))) (fun hA => by (have hk := ifF h_c27 hA; have hv := Option.some.inj hk; subst hv; exact ⟨rfl, rfl⟩))) w24 (fun _ _ _ => trivial) q)
abbrev N_lw_push_lliiiii : List Str := ["_law_grid_here", "_law_a", "_law_b", "_law_c", "_law_e", "_law_whole", "_law_heads", "_law_side"]
theorem sc_lw_push_lliiiii : FnScope N_lw_push_lliiiii ["_law_grid_here", "_law_a", "_law_b", "_law_c", "_law_e"] (defScope s_lw_push) := ⟨rfl, rfl, rfl, by decide +kernel, rfl, by decide +kernel, by decide +kernel⟩
theorem ok_lw_push_lliiiii (T : Top K mg C_Table e_check_states e_forest_row) : Fn P w' K mg base 3 "_law_push" ["_law_grid_here", "_law_a", "_law_b", "_law_c", "_law_e"] [] (spf (aCons (qL (qL qI)) (aCons qI (aCons qI (aCons qI (aCons qI aNil))))) (fun d => M.lw_push_lliiiii d.1 d.2.1 d.2.2.1 d.2.2.2.1 d.2.2.2.2.1) (pI qI)) :=
  mkFn T.d_lw_push sc_lw_push_lliiiii (al_spf (al_cons (al_cons (al_cons (al_cons (al_cons al_nil)))))) (fun _ _ _ _ _ _ us hl => match us, hl with | [_, _, _, _, _], _ => rfl) (fun f cdv A outer s H0 vs Q E hr h => by
    obtain ⟨B0, d, r, e, hA, hm, q⟩ := h
    obtain ⟨grid_here, a_, b_, c_, e_, ⟨⟩⟩ := d
    obtain ⟨v_grid_here, _, rfl, h_grid_here, ⟨v_a_, _, rfl, h_a_, ⟨v_b_, _, rfl, h_b_, ⟨v_c_, _, rfl, h_c_, ⟨v_e_, _, rfl, h_e_, rfl⟩⟩⟩⟩⟩ := hA
    have h_grid_here : (qL (qL qI)).r B0 v_grid_here grid_here := h_grid_here
    have h_a_ : qI.r B0 v_a_ a_ := h_a_
    have h_b_ : qI.r B0 v_b_ b_ := h_b_
    have h_c_ : qI.r B0 v_c_ c_ := h_c_
    have h_e_ : qI.r B0 v_e_ e_ := h_e_
    have hm : M.lw_push_lliiiii grid_here a_ b_ c_ e_ = some r := hm
    have w := wd0 e
    unfold M.lw_push_lliiiii at hm
    have sc := sc_lw_push_lliiiii
    have F_forests_llili := ok_forests_llili (P := P) (w' := w') (base := base) T
    have F_lead_tii := ok_lead_tii (P := P) (w' := w') (base := base) T
    have F_weight_lliti := ok_weight_lliti (P := P) (w' := w') (base := base) T
    refine ⟨_, (pss_cons (ps_set (i := 5) sc.nd rfl (by first | exact .inl rfl | exact .inr rfl) pe_int) (pss_cons (ps_for PassesOwn.never rfl (kpi_list K rfl (pe_fn F_forests_llili (hr.mono (by decide)) rfl (pa_cons (pv 0) (pa_cons (pe_lst (pa_cons (pv 3) (pa_cons (pv 4) pa_nil))) pa_nil)))) (pg_name (i := 6) sc.nd rfl (by first | exact .inl rfl | exact .inr rfl)) (pss_cons (ps_set (i := 7) sc.nd rfl (by first | exact .inl rfl | exact .inr rfl) (pe_op op_sub (pe_callTy cl_int (by rfl) T.b_int (by decide +kernel) (pa_cons (pe_cmpR op_eq (pe_fn F_lead_tii (hr.mono (by decide)) rfl (pa_cons (pv 6) (pa_cons (pv 2) pa_nil))) (pv 3) (nomark _)) pa_nil)) (pe_callTy cl_int (by rfl) T.b_int (by decide +kernel) (pa_cons (pe_cmpR op_eq (pe_fn F_lead_tii (hr.mono (by decide)) rfl (pa_cons (pv 6) (pa_cons (pv 1) pa_nil))) (pv 3) (nomark _)) pa_nil)))) (pss_cons (ps_set (i := 5) sc.nd rfl (by first | exact .inl rfl | exact .inr rfl) (pe_op op_add (pv 5) (pe_op op_mulW (pv 7) (pe_fn F_weight_lliti (hr.mono (by decide)) rfl (pa_cons (pv 0) (pa_cons (pv 6) pa_nil)))))) pss_nil))) (pss_cons (ps_ret (pv 5)) pss_never))), ?_⟩
    obtain ⟨whole, e_whole, hm⟩ := ltS hm
    refine st_set (i := 5) (Ev.is ev_int e_whole) w (fun v_whole B1 H1 x1 w1 h_whole => ?_)
    have h_grid_here := Rel.mono _ x1.b h_grid_here
    have h_a_ := Rel.mono _ x1.b h_a_
    have h_b_ := Rel.mono _ x1.b h_b_
    have h_c_ := Rel.mono _ x1.b h_c_
    have h_e_ := Rel.mono _ x1.b h_e_
    obtain ⟨t2, h_t2, hm⟩ := bindS hm
    obtain ⟨whole_4, hl3, hm⟩ := bindS hm
    refine st_for (st_forO (it_list (ev_fz (ev_call gL (ea_cons (ev_v h_grid_here rfl) (ea_cons (ev_fz (ev_lst (R := qI) (eb_cons (ev_v h_c_ rfl) (eb_cons (ev_v h_e_ rfl) eb_nil)) (by show 2 ≤ 1000000; decide))) ea_nil)) a_id h_t2))) w1.e w1.c hl3 (fun Bs (b : Int) σ B H => ∃ a3_5 : V, ∃ p3_6 : Option V, ∃ p3_7 : Option V, σ = [some v_grid_here, some v_a_, some v_b_, some v_c_, some v_e_, some a3_5, p3_6, p3_7] ∧ Ex Bs B ∧ Ex B1 B ∧ Wd N0 B0 H0 c0 () B H ∧ qI.r B a3_5 b ∧ True) ?_ ?_ ?_ ?_)
    · rintro _ _ _ _ _ ⟨_, _, _, rfl, e, -, w, -⟩
      exact ⟨e, w.e⟩
    · intro Bs3 Hs3 x3 c3
      have h_whole := Rel.mono _ x3.b h_whole
      exact ⟨v_whole, _, _, rfl, .refl _, x3.b, w1.step x3 c3, h_whole, trivial⟩
    · rintro Bs3 heads whole_2 b3 σ3 B3p H3p ⟨a3_5, p3_6, p3_7, rfl, e3, eo3, w3, f3_0, -⟩ hm vi3 B3 H3 x3 r3
      rw [M.lw_push_lliiiii_l1] at hm
      have h_whole_2 : qI.r _ a3_5 whole_2 := f3_0
      have h_grid_here := Rel.mono _ (eo3.trans x3.b) h_grid_here
      have h_a_ := Rel.mono _ (eo3.trans x3.b) h_a_
      have h_b_ := Rel.mono _ (eo3.trans x3.b) h_b_
      have h_c_ := Rel.mono _ (eo3.trans x3.b) h_c_
      have h_whole_2 := Rel.mono _ x3.b h_whole_2
      have e3 := e3.trans x3.b
      have eo3 := eo3.trans x3.b
      have w3 := w3.step x3.up (Cell.ext _ w3.c x3)
      have h_heads := r3
      refine tgn ?_
      obtain ⟨t4, h_t4, hm⟩ := bindS hm
      obtain ⟨t5, h_t5, hm⟩ := bindS hm
      obtain ⟨side, e_side, hm⟩ := ltS hm
      refine st_set (i := 7) (Ev.is (ev_sub (ev_intB (ev_eqI (ev_call gI (ea_cons (ev_v h_heads rfl) (ea_cons (ev_v h_b_ rfl) ea_nil)) a_id h_t4) (ev_v h_c_ rfl))) (ev_intB (ev_eqI (ev_call gI (ea_cons (ev_v h_heads rfl) (ea_cons (ev_v h_a_ rfl) ea_nil)) a_id h_t5) (ev_v h_c_ rfl)))) e_side) w3 (fun v_side B6 H6 x6 w6 h_side => ?_)
      have h_grid_here := Rel.mono _ x6.b h_grid_here
      have h_a_ := Rel.mono _ x6.b h_a_
      have h_b_ := Rel.mono _ x6.b h_b_
      have h_c_ := Rel.mono _ x6.b h_c_
      have h_whole_2 := Rel.mono _ x6.b h_whole_2
      have h_heads := Rel.mono _ x6.b h_heads
      have e3 := e3.trans x6.b
      have eo3 := eo3.trans x6.b
      obtain ⟨t7, h_t7, hm⟩ := bindS hm
      obtain ⟨t8, h_t8, hm⟩ := bindS hm
      obtain ⟨whole_3, e_whole_3, hm⟩ := ltS hm
      refine st_set (i := 5) (Ev.is (ev_add (ev_v h_whole_2 rfl) (ev_mul (ev_v h_side rfl) (ev_call gI (ea_cons (ev_v h_grid_here rfl) (ea_cons (ev_v h_heads rfl) ea_nil)) a_id h_t7) h_t8)) e_whole_3) w6 (fun v_whole_3 B9 H9 x9 w9 h_whole_3 => ?_)
      have h_grid_here := Rel.mono _ x9.b h_grid_here
      have h_a_ := Rel.mono _ x9.b h_a_
      have h_b_ := Rel.mono _ x9.b h_b_
      have h_c_ := Rel.mono _ x9.b h_c_
      have h_heads := Rel.mono _ x9.b h_heads
      have h_side := Rel.mono _ x9.b h_side
      have e3 := e3.trans x9.b
      have eo3 := eo3.trans x9.b
      refine st_next ?_
      have hv := Option.some.inj hm
      subst hv
      exact ⟨_, v_whole_3, _, _, rfl, e3, eo3, w9, h_whole_3, trivial⟩
    · rintro Bs3 σ3 Bd3 Hd3 ⟨a3_5, p3_6, p3_7, rfl, ed3, eo3, wd3, f3_0, -⟩
      refine nx_tz ?_
      have h_whole_4 : qI.r _ a3_5 whole_4 := f3_0
      have hv := Option.some.inj hm
      subst hv
      exact st_ret gI (ev_v h_whole_4 rfl) wd3 (fun _ _ _ => trivial) q)
abbrev N_long_past_Ttii : List Str := ["table", "roots", "x", "rest", "rows", "y", "row", "z"]
theorem sc_long_past_Ttii : FnScope N_long_past_Ttii ["table", "roots", "x"] (defScope s_long_past) := ⟨rfl, rfl, rfl, by decide +kernel, rfl, by decide +kernel, by decide +kernel⟩
theorem ok_long_past_Ttii (T : Top K mg C_Table e_check_states e_forest_row) : Fn P w' K mg base 3 "long_past" ["table", "roots", "x"] [] (spf (aCons (qTab K C_Table) (aCons (qT K qI) (aCons qI aNil))) (fun d => M.long_past_Ttii d.1 d.2.1 d.2.2.1) (pI qI)) :=
  mkFn T.d_long_past sc_long_past_Ttii (al_spf (al_cons (al_cons (al_cons al_nil)))) (fun _ _ _ _ _ _ us hl => match us, hl with | [_, _, _], _ => rfl) (fun f cdv A outer s H0 vs Q E hr h => by
    obtain ⟨B0, d, r, e, hA, hm, q⟩ := h
    obtain ⟨table, roots, x_, ⟨⟩⟩ := d
    obtain ⟨v_table, _, rfl, h_table, ⟨v_roots, _, rfl, h_roots, ⟨v_x_, _, rfl, h_x_, rfl⟩⟩⟩ := hA
    have h_table : (qTab K C_Table).r B0 v_table table := h_table
    have h_roots : (qT K qI).r B0 v_roots roots := h_roots
    have h_x_ : qI.r B0 v_x_ x_ := h_x_
    have hm : M.long_past_Ttii table roots x_ = some r := hm
    have w := wd0 e
    unfold M.long_past_Ttii at hm
    have sc := sc_long_past_Ttii
    have F_determinant_lli := ok_determinant_lli (P := P) (w' := w') (base := base) T
    refine ⟨_, (pss_cons (ps_if (pt_cmpR (kop_in K rfl) (pv 2) (pv 1) (by rfl)) (pss_cons (ps_ret pe_int) pss_never) pss_nil) (pss_cons (ps_setLc (i := 3) (own := [("y", 5)]) rfl sc.nd rfl rfl (sw_true rfl rfl rfl (by decide +kernel)) (pi_range1 (by rfl) T.b_range (pa_cons (kpe_fld K rfl (pv 0) rfl) pa_nil)) (blkOk_by (own := [("y", 5)]) (N := N_long_past_Ttii) (sc := defScope s_long_past) (by decide +kernel)) (fun _ _ _ _ _ => (pg_name (i := 5) sc.nd rfl (by first | exact .inl rfl | exact .inr rfl))) (fun _ _ _ _ _ => (pts_one (pt_cmpR (kop_notIn K rfl) (pv 5) (pv 1) (by rfl)))) (fun _ _ _ _ _ => (pv 5))) (pss_cons (ps_set (i := 4) sc.nd rfl (by first | exact .inl rfl | exact .inr rfl) (pe_lst pa_nil)) (pss_cons (ps_for PassesOwn.never rfl (kpi_list K rfl (pv 3)) (pg_name (i := 5) sc.nd rfl (by first | exact .inl rfl | exact .inr rfl)) (pss_cons (ps_setLc (i := 6) (own := [("z", 7)]) rfl sc.nd rfl rfl (sw_true rfl rfl rfl (by decide +kernel)) (kpi_list K rfl (pv 3)) (blkOk_by (own := [("z", 7)]) (N := N_long_past_Ttii) (sc := defScope s_long_past) (by decide +kernel)) (fun _ _ _ _ _ => (pg_name (i := 7) sc.nd rfl (by first | exact .inl rfl | exact .inr rfl))) (fun _ _ _ _ _ => pts_nil) (fun _ _ _ _ _ => (pe_un un_neg (pe_ix (kix_tup K rfl) (pe_ix (kix_tup K rfl) (kpe_fld K rfl (pv 0) rfl) (pv 5) (fun _ _ => rfl)) (pv 7) (fun _ _ => rfl))))) (pss_cons (ps_asg (pe_callB (kcr_sumT K rfl rfl) (by rfl) T.b_sum (by decide +kernel) (pa_cons (pe_ix (kix_tup K rfl) (kpe_fld K rfl (pv 0) rfl) (pv 5) (fun _ _ => rfl)) pa_nil)) (pg_sub (pv 6) (pe_bm PySem.F.plainAttrs_list PySem.F.slot_list_index PySem.F.type_list_index mt_index (pv 3) (pa_cons (pv 5) pa_nil)) set_list)) (pss_cons (ps_asg pe_int (pg_sub (pv 6) (pe_bm PySem.F.plainAttrs_list PySem.F.slot_list_index PySem.F.type_list_index mt_index (pv 3) (pa_cons (pv 2) pa_nil)) set_list)) (pss_cons (ps_expr (pe_bm PySem.F.plainAttrs_list PySem.F.slot_list_append PySem.F.type_list_append mt_append (pv 4) (pa_cons (pv 6) pa_nil))) pss_nil))))) (pss_cons (ps_ret (pe_fn F_determinant_lli (hr.mono (by decide)) rfl (pa_cons (pv 4) pa_nil))) pss_never))))), ?_⟩
    refine st_if (et_test (ev_inT (ev_v h_x_ rfl) (ev_v h_roots rfl))) w (fun hA B1 H1 x1 w1 => ?_) (fun hA B1 H1 x1 w1 => ?_)
    · have hm := ifT hm hA
      have h_table := Rel.mono _ x1.b h_table
      have h_roots := Rel.mono _ x1.b h_roots
      have h_x_ := Rel.mono _ x1.b h_x_
      have hv := Option.some.inj hm
      subst hv
      exact st_ret gI ev_int w1 (fun _ _ _ => trivial) q
    · have hm := ifF hm hA
      have h_table := Rel.mono _ x1.b h_table
      have h_roots := Rel.mono _ x1.b h_roots
      have h_x_ := Rel.mono _ x1.b h_x_
      refine st_nextT ?_
      obtain ⟨r2, h_r2, hm⟩ := bindS hm
      obtain ⟨z4, h_z4, hm⟩ := bindS hm
      obtain ⟨rest, e_rest, hm⟩ := ltS hm
      refine st_set (i := 3) (Ev.is (ev_fz (ev_lcS (it_range1 (ev_size T.cl_Table T.n_Table_size (ev_v h_table rfl)) h_r2) (compS_filt (fun y_ => (!(decide (y_ ∈ roots)))) (fun y_ => y_) _ r2) (lnO_ok h_z4).1 (fun y_ v3_ s3_ o3_ t3_ B3_ H3_ x3_ r3_ hf3_ => by (cases hf3_; have h_table := Rel.mono _ x3_.b h_table; have h_roots := Rel.mono _ x3_.b h_roots; have h_x_ := Rel.mono _ x3_.b h_x_; exact turn_t (fun _ _ _ _ q => q) rfl (et_test (ev_niT (ev_v r3_ rfl) (ev_v h_roots rfl))) (fun hA => ⟨_, if_pos hA, (ev_v r3_ rfl)⟩) (fun hA => ⟨if_neg (by rw [hA]; exact Bool.false_ne_true), rfl⟩))))) e_rest) w1 (fun v_rest B5 H5 x5 w5 h_rest => ?_)
      have h_table := Rel.mono _ x5.b h_table
      have h_x_ := Rel.mono _ x5.b h_x_
      obtain ⟨rows, e_rows, hm⟩ := ltS hm
      refine st_setL (i := 4) (Ev.is (ev_lst (R := (qL qI)) eb_nil (by show 0 ≤ 1000000; decide)) e_rows) w5 (fun l_rows B6 H6 x6 w6 n6 o_rows => ?_)
      have h_table := Rel.mono _ x6.b h_table
      have h_x_ := Rel.mono _ x6.b h_x_
      have h_rest := Rel.mono _ x6.b h_rest
      obtain ⟨rows_4, hl7, hm⟩ := bindS hm
      refine st_for (st_forO (it_list (ev_v h_rest rfl)) w6.e w6.c hl7 (fun Bs (b : (List (List Int))) σ B H => ∃ p7_5 : Option V, ∃ p7_6 : Option V, σ = [some v_table, some v_roots, some v_x_, some v_rest, some (.ref l_rows), p7_5, p7_6, none] ∧ Ex Bs B ∧ Ex B6 B ∧ Wd N0 B0 H0 c0 () B H ∧ Own (qL qI) c0.N H0 B H l_rows b ∧ True) ?_ ?_ ?_ ?_)
      · rintro _ _ _ _ _ ⟨_, _, rfl, e, -, w, -⟩
        exact ⟨e, w.e⟩
      · intro Bs7 Hs7 x7 c7
        have o_rows := o_rows.step x7
        exact ⟨_, _, rfl, .refl _, x7.b, w6.step x7 c7, o_rows, trivial⟩
      · rintro Bs7 y_ rows_2 b7 σ7 B7p H7p ⟨p7_5, p7_6, rfl, e7, eo7, w7, f7_0, -⟩ hm vi7 B7 H7 x7 r7
        rw [M.long_past_Ttii_l1] at hm
        have o_rows_2 : Own (qL qI) c0.N H0 _ _ l_rows rows_2 := f7_0
        have h_table := Rel.mono _ (eo7.trans x7.b) h_table
        have h_x_ := Rel.mono _ (eo7.trans x7.b) h_x_
        have h_rest := Rel.mono _ (eo7.trans x7.b) h_rest
        have o_rows_2 := o_rows_2.step x7.up
        have e7 := e7.trans x7.b
        have eo7 := eo7.trans x7.b
        have w7 := w7.step x7.up (Cell.ext _ w7.c x7)
        have h_y_ := r7
        refine tgn ?_
        obtain ⟨z11, h_z11, hm⟩ := bindS hm
        obtain ⟨row, h_row, hm⟩ := bindS hm
        refine st_setL (i := 6) (ev_lcS (it_list (ev_v h_rest rfl)) (compS_mapO h_row) (lnO_ok h_z11).1 (fun z_ v8_ s8_ o8_ t8_ B8_ H8_ x8_ r8_ hf8_ => by (obtain ⟨y8_, hy8_, hf8_⟩ := bindS hf8_; cases hf8_; have h_table := Rel.mono _ x8_.b h_table; have h_x_ := Rel.mono _ x8_.b h_x_; have h_rest := Rel.mono _ x8_.b h_rest; have o_rows_2 := o_rows_2.step x8_; have h_y_ := Rel.mono _ x8_.b h_y_; obtain ⟨t9, h_t9, hy8_⟩ := bindS hy8_; obtain ⟨t10, h_t10, hy8_⟩ := bindS hy8_; exact turn_g (fun _ _ _ _ q => q) rfl rfl (Ev.is (ev_neg (ev_ixT (ev_ixT (ev_rows T.cl_Table T.n_Table_rows (ev_v h_table rfl)) (ev_v h_y_ rfl) h_t9) (ev_v r8_ rfl) h_t10)) (Option.some.inj hy8_))))) w7 (fun l_row B13 H13 x13 w13 n13 o_row => ?_)
        have ne_row_rows_2 := o_rows_2.ne n13
        have h_table := Rel.mono _ x13.b h_table
        have h_x_ := Rel.mono _ x13.b h_x_
        have h_rest := Rel.mono _ x13.b h_rest
        have o_rows_2 := o_rows_2.step x13
        have h_y_ := Rel.mono _ x13.b h_y_
        have e7 := e7.trans x13.b
        have eo7 := eo7.trans x13.b
        obtain ⟨t14, h_t14, hm⟩ := bindS hm
        obtain ⟨t15, h_t15, hm⟩ := bindS hm
        obtain ⟨row_2, h_row_2, hm⟩ := bindS hm
        refine st_setI o_row rfl (ev_sumT (ev_ixT (ev_rows T.cl_Table T.n_Table_rows (ev_v h_table rfl)) (ev_v h_y_ rfl) h_t14)) (ev_idx (ev_wI (ev_v h_rest rfl)) (ev_v h_y_ rfl) h_t15) w13 h_row_2 (fun B16 H16 G16 x16 hu16 w16 o_row_2 => ?_)
        have h_table := Rel.mono _ x16.b h_table
        have h_x_ := Rel.mono _ x16.b h_x_
        have h_rest := Rel.mono _ x16.b h_rest
        have o_rows_2 := (o_rows_2.step x16).otherW ne_row_rows_2 hu16
        have h_y_ := Rel.mono _ x16.b h_y_
        have e7 := e7.trans x16.b
        have eo7 := eo7.trans x16.b
        obtain ⟨t17, h_t17, hm⟩ := bindS hm
        obtain ⟨row_3, h_row_3, hm⟩ := bindS hm
        refine st_setI o_row_2 rfl ev_int (ev_idx (ev_wI (ev_v h_rest rfl)) (ev_v h_x_ rfl) h_t17) w16 h_row_3 (fun B18 H18 G18 x18 hu18 w18 o_row_3 => ?_)
        have h_table := Rel.mono _ x18.b h_table
        have h_x_ := Rel.mono _ x18.b h_x_
        have h_rest := Rel.mono _ x18.b h_rest
        have o_rows_2 := (o_rows_2.step x18).otherW ne_row_rows_2 hu18
        have h_y_ := Rel.mono _ x18.b h_y_
        have e7 := e7.trans x18.b
        have eo7 := eo7.trans x18.b
        obtain ⟨B19, w19, e19, h_row_f, u19, hu19, hb19⟩ := o_row_3.fz w18
        have o_rows_2 := hu19 ▸ o_rows_2.otherB ne_row_rows_2 hb19
        have h_table := Rel.mono _ e19 h_table
        have h_x_ := Rel.mono _ e19 h_x_
        have h_rest := Rel.mono _ e19 h_rest
        have h_y_ := Rel.mono _ e19 h_y_
        have e7 := e7.trans e19
        have eo7 := eo7.trans e19
        obtain ⟨rows_3, h_rows_3, hm⟩ := bindS hm
        refine st_app o_rows_2 rfl (ev_v h_row_f rfl) w19 h_rows_3 (fun B20 H20 G20 x20 hu20 w20 o_rows_3 => ?_)
        have h_table := Rel.mono _ x20.b h_table
        have h_x_ := Rel.mono _ x20.b h_x_
        have h_rest := Rel.mono _ x20.b h_rest
        have h_y_ := Rel.mono _ x20.b h_y_
        have h_row_f := Rel.mono _ x20.b h_row_f
        have e7 := e7.trans x20.b
        have eo7 := eo7.trans x20.b
        refine st_next ?_
        have hv := Option.some.inj hm
        subst hv
        exact ⟨_, _, _, rfl, e7, eo7, w20, o_rows_3, trivial⟩
      · rintro Bs7 σ7 Bd7 Hd7 ⟨p7_5, p7_6, rfl, ed7, eo7, wd7, f7_0, -⟩
        refine nx_tz ?_
        have o_rows_4 : Own (qL qI) c0.N H0 _ _ l_rows rows_4 := f7_0
        obtain ⟨t22, h_t22, hm⟩ := bindS hm
        have hv := Option.some.inj hm
        subst hv
        exact st_ret gI (ev_lend o_rows_4 (ea_ref rfl ea_nil) (lend_here lend_nil) h_t22 (fun h => h)) wd7 (fun _ _ _ => trivial) q)
abbrev N_share_push_Tiii : List Str := ["table", "a", "b", "c"]
theorem sc_share_push_Tiii : FnScope N_share_push_Tiii ["table", "a", "b", "c"] (defScope s_share_push) := ⟨rfl, rfl, rfl, by decide +kernel, rfl, by decide +kernel, by decide +kernel⟩
theorem ok_share_push_Tiii (T : Top K mg C_Table e_check_states e_forest_row) : Fn P w' K mg base 4 "share_push" ["table", "a", "b", "c"] [] (spf (aCons (qTab K C_Table) (aCons qI (aCons qI (aCons qI aNil)))) (fun d => M.share_push_Tiii d.1 d.2.1 d.2.2.1 d.2.2.2.1) (pI qI)) :=
  mkFn T.d_share_push sc_share_push_Tiii (al_spf (al_cons (al_cons (al_cons (al_cons al_nil))))) (fun _ _ _ _ _ _ us hl => match us, hl with | [_, _, _, _], _ => rfl) (fun f cdv A outer s H0 vs Q E hr h => by
    obtain ⟨B0, d, r, e, hA, hm, q⟩ := h
    obtain ⟨table, a_, b_, c_, ⟨⟩⟩ := d
    obtain ⟨v_table, _, rfl, h_table, ⟨v_a_, _, rfl, h_a_, ⟨v_b_, _, rfl, h_b_, ⟨v_c_, _, rfl, h_c_, rfl⟩⟩⟩⟩ := hA
    have h_table : (qTab K C_Table).r B0 v_table table := h_table
    have h_a_ : qI.r B0 v_a_ a_ := h_a_
    have h_b_ : qI.r B0 v_b_ b_ := h_b_
    have h_c_ : qI.r B0 v_c_ c_ := h_c_
    have hm : M.share_push_Tiii table a_ b_ c_ = some r := hm
    have w := wd0 e
    unfold M.share_push_Tiii at hm
    have sc := sc_share_push_Tiii
    have F_check_states_ititti_0 := ok_check_states_ititti_0 (P := P) (w' := w') (base := base) T
    have F_check_states_ititti_1 := ok_check_states_ititti_1 (P := P) (w' := w') (base := base) T
    have F_long_past_Ttii := ok_long_past_Ttii (P := P) (w' := w') (base := base) T
    refine ⟨_, (pss_cons (ps_expr (pe_fn F_check_states_ititti_1 (hr.mono (by decide)) rfl (pa_cons (kpe_fld K rfl (pv 0) rfl) (pa_cons (pe_tup (pa_cons (pv 1) (pa_cons (pv 2) (pa_cons (pv 3) pa_nil)))) (pa_cons (pe_tup (pa_cons (pe_tup (pa_cons pe_int (pa_cons pe_int pa_nil))) pa_nil)) pa_nil))))) (pss_cons (ps_ret (pe_op op_sub (pe_fn F_long_past_Ttii (hr.mono (by decide)) rfl (pa_cons (pv 0) (pa_cons (pe_tup (pa_cons (pv 3) pa_nil)) (pa_cons (pv 1) pa_nil)))) (pe_fn F_long_past_Ttii (hr.mono (by decide)) rfl (pa_cons (pv 0) (pa_cons (pe_tup (pa_cons (pv 3) pa_nil)) (pa_cons (pv 2) pa_nil)))))) pss_never)), ?_⟩
    obtain ⟨t1, h_t1, hm⟩ := bindS hm
    refine st_drop (ev_call gI (ea_cons (ev_size T.cl_Table T.n_Table_size (ev_v h_table rfl)) (ea_cons (ev_tup (R := qI) (eb_cons (ev_v h_a_ rfl) (eb_cons (ev_v h_b_ rfl) (eb_cons (ev_v h_c_ rfl) eb_nil))) (by show 3 ≤ 1000000; decide)) (ea_cons (ev_tup (R := (qT K qI)) (eb_cons (ev_tup (R := qI) (eb_cons ev_int (eb_cons ev_int eb_nil)) (by show 2 ≤ 1000000; decide)) eb_nil) (by show 1 ≤ 1000000; decide)) ea_nil))) a_id h_t1) w (fun B2 H2 x2 w2 => ?_)
    have h_table := Rel.mono _ x2.b h_table
    have h_a_ := Rel.mono _ x2.b h_a_
    have h_b_ := Rel.mono _ x2.b h_b_
    have h_c_ := Rel.mono _ x2.b h_c_
    obtain ⟨t3, h_t3, hm⟩ := bindS hm
    obtain ⟨t4, h_t4, hm⟩ := bindS hm
    have hv := Option.some.inj hm
    subst hv
    exact st_ret gI (ev_sub (ev_call gI (ea_cons (ev_v h_table rfl) (ea_cons (ev_tup (R := qI) (eb_cons (ev_v h_c_ rfl) eb_nil) (by show 1 ≤ 1000000; decide)) (ea_cons (ev_v h_a_ rfl) ea_nil))) a_id h_t3) (ev_call gI (ea_cons (ev_v h_table rfl) (ea_cons (ev_tup (R := qI) (eb_cons (ev_v h_c_ rfl) eb_nil) (by show 1 ≤ 1000000; decide)) (ea_cons (ev_v h_b_ rfl) ea_nil))) a_id h_t4)) w2 (fun _ _ _ => trivial) q)
abbrev N_share_pushes_Tii : List Str := ["table", "a", "b", "c"]
theorem sc_share_pushes_Tii : FnScope N_share_pushes_Tii ["table", "a", "b"] (defScope s_share_pushes) := ⟨rfl, rfl, rfl, by decide +kernel, rfl, by decide +kernel, by decide +kernel⟩
theorem ok_share_pushes_Tii (T : Top K mg C_Table e_check_states e_forest_row) : Fn P w' K mg base 5 "share_pushes" ["table", "a", "b"] [] (spf (aCons (qTab K C_Table) (aCons qI (aCons qI aNil))) (fun d => M.share_pushes_Tii d.1 d.2.1 d.2.2.1) (pI (qT K qI))) :=
  mkFn T.d_share_pushes sc_share_pushes_Tii (al_spf (al_cons (al_cons (al_cons al_nil)))) (fun _ _ _ _ _ _ us hl => match us, hl with | [_, _, _], _ => rfl) (fun f cdv A outer s H0 vs Q E hr h => by
    obtain ⟨B0, d, r, e, hA, hm, q⟩ := h
    obtain ⟨table, a_, b_, ⟨⟩⟩ := d
    obtain ⟨v_table, _, rfl, h_table, ⟨v_a_, _, rfl, h_a_, ⟨v_b_, _, rfl, h_b_, rfl⟩⟩⟩ := hA
    have h_table : (qTab K C_Table).r B0 v_table table := h_table
    have h_a_ : qI.r B0 v_a_ a_ := h_a_
    have h_b_ : qI.r B0 v_b_ b_ := h_b_
    have hm : M.share_pushes_Tii table a_ b_ = some r := hm
    have w := wd0 e
    unfold M.share_pushes_Tii at hm
    have sc := sc_share_pushes_Tii
    have F_check_states_ititti_0 := ok_check_states_ititti_0 (P := P) (w' := w') (base := base) T
    have F_check_states_ititti_1 := ok_check_states_ititti_1 (P := P) (w' := w') (base := base) T
    have F_share_push_Tiii := ok_share_push_Tiii (P := P) (w' := w') (base := base) T
    refine ⟨_, (pss_cons (ps_expr (pe_fn F_check_states_ititti_1 (hr.mono (by decide)) rfl (pa_cons (kpe_fld K rfl (pv 0) rfl) (pa_cons (pe_tup (pa_cons (pv 1) (pa_cons (pv 2) pa_nil))) (pa_cons (pe_tup (pa_cons (pe_tup (pa_cons pe_int (pa_cons pe_int pa_nil))) pa_nil)) pa_nil))))) (pss_cons (ps_ret (pe_callTy (kcl_tuple K rfl) (by rfl) T.b_tuple (by decide +kernel) (pa_cons (pe_lc (own := [("c", 3)]) rfl sc.nd (pi_range1 (by rfl) T.b_range (pa_cons (kpe_fld K rfl (pv 0) rfl) pa_nil)) (blkOk_by (own := [("c", 3)]) (N := N_share_pushes_Tii) (sc := defScope s_share_pushes) (by decide +kernel)) (fun _ _ _ _ _ => (pg_name (i := 3) sc.nd rfl (by first | exact .inl rfl | exact .inr rfl))) (fun _ _ _ _ _ => pts_nil) (fun _ _ _ _ _ => (pe_fn F_share_push_Tiii (hr.mono (by decide)) rfl (pa_cons (pv 0) (pa_cons (pv 1) (pa_cons (pv 2) (pa_cons (pv 3) pa_nil))))))) pa_nil))) pss_never)), ?_⟩
    obtain ⟨t1, h_t1, hm⟩ := bindS hm
    refine st_drop (ev_call gI (ea_cons (ev_size T.cl_Table T.n_Table_size (ev_v h_table rfl)) (ea_cons (ev_tup (R := qI) (eb_cons (ev_v h_a_ rfl) (eb_cons (ev_v h_b_ rfl) eb_nil)) (by show 2 ≤ 1000000; decide)) (ea_cons (ev_tup (R := (qT K qI)) (eb_cons (ev_tup (R := qI) (eb_cons ev_int (eb_cons ev_int eb_nil)) (by show 2 ≤ 1000000; decide)) eb_nil) (by show 1 ≤ 1000000; decide)) ea_nil))) a_id h_t1) w (fun B2 H2 x2 w2 => ?_)
    have h_table := Rel.mono _ x2.b h_table
    have h_a_ := Rel.mono _ x2.b h_a_
    have h_b_ := Rel.mono _ x2.b h_b_
    obtain ⟨r3, h_r3, hm⟩ := bindS hm
    obtain ⟨z6, h_z6, hm⟩ := bindS hm
    obtain ⟨t7, h_t7, hm⟩ := bindS hm
    have hv := Option.some.inj hm
    subst hv
    exact st_ret gI (ev_tupleW (ev_wL (ev_lcS (it_range1 (ev_size T.cl_Table T.n_Table_size (ev_v h_table rfl)) h_r3) (compS_mapO h_t7) (lnO_ok h_z6).1 (fun c_ v4_ s4_ o4_ t4_ B4_ H4_ x4_ r4_ hf4_ => by (obtain ⟨y4_, hy4_, hf4_⟩ := bindS hf4_; cases hf4_; have h_table := Rel.mono _ x4_.b h_table; have h_a_ := Rel.mono _ x4_.b h_a_; have h_b_ := Rel.mono _ x4_.b h_b_; obtain ⟨t5, h_t5, hy4_⟩ := bindS hy4_; exact turn_g (fun _ _ _ _ q => q) rfl rfl (Ev.is (ev_call gI (ea_cons (ev_v h_table rfl) (ea_cons (ev_v h_a_ rfl) (ea_cons (ev_v h_b_ rfl) (ea_cons (ev_v r4_ rfl) ea_nil)))) a_id h_t5) (Option.some.inj hy4_))))))) w2 (fun _ _ _ => trivial) q)
abbrev N_by_shares_Tiittiliti : List Str := ["_law_old", "_law_a", "_law_b", "_law_rows", "_law_trees", "_law_ends", "_law_gained", "_law_due"]
theorem sc_by_shares_Tiittiliti : FnScope N_by_shares_Tiittiliti ["_law_old", "_law_a", "_law_b", "_law_rows", "_law_trees", "_law_ends"] (defScope s_by_shares) := ⟨rfl, rfl, rfl, by decide +kernel, rfl, by decide +kernel, by decide +kernel⟩
theorem ok_by_shares_Tiittiliti (T : Top K mg C_Table e_check_states e_forest_row) : Fn P w' K mg base 6 "_law_by_shares" ["_law_old", "_law_a", "_law_b", "_law_rows", "_law_trees", "_law_ends"] [] (spf (aCons (qTab K C_Table) (aCons qI (aCons qI (aCons (qT K (qT K qI)) (aCons (qL qI) (aCons (qT K qI) aNil)))))) (fun d => M.by_shares_Tiittiliti d.1 d.2.1 d.2.2.1 d.2.2.2.1 d.2.2.2.2.1 d.2.2.2.2.2.1) (pI qB)) :=
  mkFn T.d_by_shares sc_by_shares_Tiittiliti (al_spf (al_cons (al_cons (al_cons (al_cons (al_cons (al_cons al_nil))))))) (fun _ _ _ _ _ _ us hl => match us, hl with | [_, _, _, _, _, _], _ => rfl) (fun f cdv A outer s H0 vs Q E hr h => by
    obtain ⟨B0, d, r, e, hA, hm, q⟩ := h
    obtain ⟨old, a_, b_, rows, trees, ends, ⟨⟩⟩ := d
    obtain ⟨v_old, _, rfl, h_old, ⟨v_a_, _, rfl, h_a_, ⟨v_b_, _, rfl, h_b_, ⟨v_rows, _, rfl, h_rows, ⟨v_trees, _, rfl, h_trees, ⟨v_ends, _, rfl, h_ends, rfl⟩⟩⟩⟩⟩⟩ := hA
    have h_old : (qTab K C_Table).r B0 v_old old := h_old
    have h_a_ : qI.r B0 v_a_ a_ := h_a_
    have h_b_ : qI.r B0 v_b_ b_ := h_b_
    have h_rows : (qT K (qT K qI)).r B0 v_rows rows := h_rows
    have h_trees : (qL qI).r B0 v_trees trees := h_trees
    have h_ends : (qT K qI).r B0 v_ends ends := h_ends
    have hm : M.by_shares_Tiittiliti old a_ b_ rows trees ends = some r := hm
    have w := wd0 e
    unfold M.by_shares_Tiittiliti at hm
    have sc := sc_by_shares_Tiittiliti
    have F_share_pushes_Tii := ok_share_pushes_Tii (P := P) (w' := w') (base := base) T
    have F_ints_tii := ok_ints_tii (P := P) (w' := w') (base := base) T
    refine ⟨_, (pss_cons (ps_set (i := 6) sc.nd rfl (by first | exact .inl rfl | exact .inr rfl) (pe_fn F_share_pushes_Tii (hr.mono (by decide)) rfl (pa_cons (pv 0) (pa_cons (pv 1) (pa_cons (pv 2) pa_nil))))) (pss_cons (ps_if (pt_not (pt_val (pe_fn F_ints_tii (hr.mono (by decide)) rfl (pa_cons (pv 6) (pa_cons (pe_callB (kcl_len K rfl) (by rfl) T.b_len PySem.boot_len (pa_cons (pv 4) pa_nil)) pa_nil))))) (pss_cons (ps_ret pe_bl) pss_never) pss_nil) (pss_cons (ps_set (i := 7) sc.nd rfl (by first | exact .inl rfl | exact .inr rfl) (pe_op op_sub (pe_op op_mulW (pe_ix (kix_list K rfl) (pv 4) (pe_ix (kix_tup K rfl) (pv 5) pe_int (fun _ _ => rfl)) (fun _ _ => rfl)) (pe_ix (kix_tup K rfl) (pv 6) (pe_ix (kix_tup K rfl) (pv 5) pe_int (fun _ _ => rfl)) (fun _ _ => rfl))) (pe_op op_mulW (pe_ix (kix_list K rfl) (pv 4) (pe_ix (kix_tup K rfl) (pv 5) pe_int (fun _ _ => rfl)) (fun _ _ => rfl)) (pe_ix (kix_tup K rfl) (pv 6) (pe_ix (kix_tup K rfl) (pv 5) pe_int (fun _ _ => rfl)) (fun _ _ => rfl))))) (pss_cons (ps_ret (pe_cmpR op_eq (pe_op op_mulW (pe_callB (kcr_sum K rfl rfl) (by rfl) T.b_sum (by decide +kernel) (pa_cons (pv 4) pa_nil)) (pe_ix (kix_tup K rfl) (pe_ix (kix_tup K rfl) (pv 3) (pv 1) (fun _ _ => rfl)) (pv 2) (fun _ _ => rfl))) (pv 7) (nomark _))) pss_never)))), ?_⟩
    obtain ⟨gained, h_gained, hm⟩ := bindS hm
    refine st_set (i := 6) (ev_call gI (ea_cons (ev_v h_old rfl) (ea_cons (ev_v h_a_ rfl) (ea_cons (ev_v h_b_ rfl) ea_nil))) a_id h_gained) w (fun v_gained B2 H2 x2 w2 h_gained => ?_)
    have h_a_ := Rel.mono _ x2.b h_a_
    have h_b_ := Rel.mono _ x2.b h_b_
    have h_rows := Rel.mono _ x2.b h_rows
    have h_trees := Rel.mono _ x2.b h_trees
    have h_ends := Rel.mono _ x2.b h_ends
    obtain ⟨t3, h_t3, hm⟩ := bindS hm
    refine st_if (et_not (et_B (ev_call gI (ea_cons (ev_v h_gained rfl) (ea_cons (ev_lenW (ev_wI (ev_v h_trees rfl))) ea_nil)) a_id h_t3))) w2 (fun hA B4 H4 x4 w4 => ?_) (fun hA B4 H4 x4 w4 => ?_)
    · have hm := ifT hm hA
      have h_a_ := Rel.mono _ x4.b h_a_
      have h_b_ := Rel.mono _ x4.b h_b_
      have h_rows := Rel.mono _ x4.b h_rows
      have h_trees := Rel.mono _ x4.b h_trees
      have h_ends := Rel.mono _ x4.b h_ends
      have h_gained := Rel.mono _ x4.b h_gained
      have hv := Option.some.inj hm
      subst hv
      exact st_ret gI ev_bl w4 (fun _ _ _ => trivial) q
    · have hm := ifF hm hA
      have h_a_ := Rel.mono _ x4.b h_a_
      have h_b_ := Rel.mono _ x4.b h_b_
      have h_rows := Rel.mono _ x4.b h_rows
      have h_trees := Rel.mono _ x4.b h_trees
      have h_ends := Rel.mono _ x4.b h_ends
      have h_gained := Rel.mono _ x4.b h_gained
      refine st_nextT ?_
      obtain ⟨t5, h_t5, hm⟩ := bindS hm
      obtain ⟨t6, h_t6, hm⟩ := bindS hm
      obtain ⟨t7, h_t7, hm⟩ := bindS hm
      obtain ⟨t8, h_t8, hm⟩ := bindS hm
      obtain ⟨t9, h_t9, hm⟩ := bindS hm
      obtain ⟨t10, h_t10, hm⟩ := bindS hm
      obtain ⟨t11, h_t11, hm⟩ := bindS hm
      obtain ⟨t12, h_t12, hm⟩ := bindS hm
      obtain ⟨t13, h_t13, hm⟩ := bindS hm
      obtain ⟨t14, h_t14, hm⟩ := bindS hm
      obtain ⟨due, e_due, hm⟩ := ltS hm
      refine st_set (i := 7) (Ev.is (ev_sub (ev_mul (ev_ixW (ev_wI (ev_v h_trees rfl)) (ev_ixT (ev_v h_ends rfl) ev_int h_t5) h_t6) (ev_ixT (ev_v h_gained rfl) (ev_ixT (ev_v h_ends rfl) ev_int h_t7) h_t8) h_t9) (ev_mul (ev_ixW (ev_wI (ev_v h_trees rfl)) (ev_ixT (ev_v h_ends rfl) ev_int h_t10) h_t11) (ev_ixT (ev_v h_gained rfl) (ev_ixT (ev_v h_ends rfl) ev_int h_t12) h_t13) h_t14)) e_due) w4 (fun v_due B15 H15 x15 w15 h_due => ?_)
      have h_a_ := Rel.mono _ x15.b h_a_
      have h_b_ := Rel.mono _ x15.b h_b_
      have h_rows := Rel.mono _ x15.b h_rows
      have h_trees := Rel.mono _ x15.b h_trees
      obtain ⟨t16, h_t16, hm⟩ := bindS hm
      obtain ⟨t17, h_t17, hm⟩ := bindS hm
      obtain ⟨t18, h_t18, hm⟩ := bindS hm
      have hv := Option.some.inj hm
      subst hv
      exact st_ret gI (ev_eqI (ev_mul (ev_sumW (ev_wI (ev_v h_trees rfl))) (ev_ixT (ev_ixT (ev_v h_rows rfl) (ev_v h_a_ rfl) h_t16) (ev_v h_b_ rfl) h_t17) h_t18) (ev_v h_due rfl)) w15 (fun _ _ _ => trivial) q)
abbrev N_by_forests_lliiittiliti : List Str := ["_law_grid_here", "_law_a", "_law_b", "_law_rows", "_law_trees", "_law_ends", "_law_c", "_law_e", "_law_due"]
theorem sc_by_forests_lliiittiliti : FnScope N_by_forests_lliiittiliti ["_law_grid_here", "_law_a", "_law_b", "_law_rows", "_law_trees", "_law_ends"] (defScope s_by_forests) := ⟨rfl, rfl, rfl, by decide +kernel, rfl, by decide +kernel, by decide +kernel⟩
theorem ok_by_forests_lliiittiliti (T : Top K mg C_Table e_check_states e_forest_row) : Fn P w' K mg base 4 "_law_by_forests" ["_law_grid_here", "_law_a", "_law_b", "_law_rows", "_law_trees", "_law_ends"] [] (spf (aCons (qL (qL qI)) (aCons qI (aCons qI (aCons (qT K (qT K qI)) (aCons (qL qI) (aCons (qT K qI) aNil)))))) (fun d => M.by_forests_lliiittiliti d.1 d.2.1 d.2.2.1 d.2.2.2.1 d.2.2.2.2.1 d.2.2.2.2.2.1) (pI qB)) :=
  mkFn T.d_by_forests sc_by_forests_lliiittiliti (al_spf (al_cons (al_cons (al_cons (al_cons (al_cons (al_cons al_nil))))))) (fun _ _ _ _ _ _ us hl => match us, hl with | [_, _, _, _, _, _], _ => rfl) (fun f cdv A outer s H0 vs Q E hr h => by
    obtain ⟨B0, d, r, e, hA, hm, q⟩ := h
    obtain ⟨grid_here, a_, b_, rows, trees, ends, ⟨⟩⟩ := d
    obtain ⟨v_grid_here, _, rfl, h_grid_here, ⟨v_a_, _, rfl, h_a_, ⟨v_b_, _, rfl, h_b_, ⟨v_rows, _, rfl, h_rows, ⟨v_trees, _, rfl, h_trees, ⟨v_ends, _, rfl, h_ends, rfl⟩⟩⟩⟩⟩⟩ := hA
    have h_grid_here : (qL (qL qI)).r B0 v_grid_here grid_here := h_grid_here
    have h_a_ : qI.r B0 v_a_ a_ := h_a_
    have h_b_ : qI.r B0 v_b_ b_ := h_b_
    have h_rows : (qT K (qT K qI)).r B0 v_rows rows := h_rows
    have h_trees : (qL qI).r B0 v_trees trees := h_trees
    have h_ends : (qT K qI).r B0 v_ends ends := h_ends
    have hm : M.by_forests_lliiittiliti grid_here a_ b_ rows trees ends = some r := hm
    have w := wd0 e
    unfold M.by_forests_lliiittiliti at hm
    have sc := sc_by_forests_lliiittiliti
    have F_sum_llililti := ok_sum_llililti (P := P) (w' := w') (base := base) T
    refine ⟨_, (pss_cons (ps_set (i := 6) sc.nd rfl (by first | exact .inl rfl | exact .inr rfl) (pe_ix (kix_tup K rfl) (pv 5) pe_int (fun _ _ => rfl))) (pss_cons (ps_set (i := 7) sc.nd rfl (by first | exact .inl rfl | exact .inr rfl) (pe_ix (kix_tup K rfl) (pv 5) pe_int (fun _ _ => rfl))) (pss_cons (ps_if (PW.pt (pw_or (pt_cmpR op_eq (pv 1) (pv 6) (nomark _)) (pw_or1 (pt_cmpR op_eq (pv 1) (pv 7) (nomark _))))) (pss_cons (ps_ret pe_bl) pss_never) pss_nil) (pss_cons (ps_set (i := 8) sc.nd rfl (by first | exact .inl rfl | exact .inr rfl) (pe_op op_sub (pe_op op_mulW (pe_ix (kix_list K rfl) (pv 4) (pv 7) (fun _ _ => rfl)) (pe_fn F_sum_llililti (hr.mono (by decide)) rfl (pa_cons (pv 0) (pa_cons (pe_lst (pa_cons (pv 1) (pa_cons (pv 6) pa_nil))) (pa_cons (pe_lst (pa_cons (pe_tup (pa_cons (pv 2) (pa_cons (pv 6) pa_nil))) pa_nil)) pa_nil))))) (pe_op op_mulW (pe_ix (kix_list K rfl) (pv 4) (pv 6) (fun _ _ => rfl)) (pe_fn F_sum_llililti (hr.mono (by decide)) rfl (pa_cons (pv 0) (pa_cons (pe_lst (pa_cons (pv 1) (pa_cons (pv 7) pa_nil))) (pa_cons (pe_lst (pa_cons (pe_tup (pa_cons (pv 2) (pa_cons (pv 7) pa_nil))) pa_nil)) pa_nil))))))) (pss_cons (ps_ret (pe_cmpR op_eq (pe_op op_mulW (pe_ix (kix_list K rfl) (pv 4) (pv 1) (fun _ _ => rfl)) (pe_ix (kix_tup K rfl) (pe_ix (kix_tup K rfl) (pv 3) (pv 1) (fun _ _ => rfl)) (pv 2) (fun _ _ => rfl))) (pv 8) (nomark _))) pss_never))))), ?_⟩
    obtain ⟨c_, h_c_, hm⟩ := bindS hm
    refine st_set (i := 6) (ev_ixT (ev_v h_ends rfl) ev_int h_c_) w (fun v_c_ B2 H2 x2 w2 h_c_ => ?_)
    have h_grid_here := Rel.mono _ x2.b h_grid_here
    have h_a_ := Rel.mono _ x2.b h_a_
    have h_b_ := Rel.mono _ x2.b h_b_
    have h_rows := Rel.mono _ x2.b h_rows
    have h_trees := Rel.mono _ x2.b h_trees
    have h_ends := Rel.mono _ x2.b h_ends
    obtain ⟨e_, h_e_, hm⟩ := bindS hm
    refine st_set (i := 7) (ev_ixT (ev_v h_ends rfl) ev_int h_e_) w2 (fun v_e_ B4 H4 x4 w4 h_e_ => ?_)
    have h_grid_here := Rel.mono _ x4.b h_grid_here
    have h_a_ := Rel.mono _ x4.b h_a_
    have h_b_ := Rel.mono _ x4.b h_b_
    have h_rows := Rel.mono _ x4.b h_rows
    have h_trees := Rel.mono _ x4.b h_trees
    have h_c_ := Rel.mono _ x4.b h_c_
    refine st_if (et_or' (et_test (ev_eqI (ev_v h_a_ rfl) (ev_v h_c_ rfl))) (et_test (ev_eqI (ev_v h_a_ rfl) (ev_v h_e_ rfl)))) w4 (fun hA B5 H5 x5 w5 => ?_) (fun hA B5 H5 x5 w5 => ?_)
    · have hm := ifT hm hA
      have h_grid_here := Rel.mono _ x5.b h_grid_here
      have h_a_ := Rel.mono _ x5.b h_a_
      have h_b_ := Rel.mono _ x5.b h_b_
      have h_rows := Rel.mono _ x5.b h_rows
      have h_trees := Rel.mono _ x5.b h_trees
      have h_c_ := Rel.mono _ x5.b h_c_
      have h_e_ := Rel.mono _ x5.b h_e_
      have hv := Option.some.inj hm
      subst hv
      exact st_ret gI ev_bl w5 (fun _ _ _ => trivial) q
    · have hm := ifF hm hA
      have h_grid_here := Rel.mono _ x5.b h_grid_here
      have h_a_ := Rel.mono _ x5.b h_a_
      have h_b_ := Rel.mono _ x5.b h_b_
      have h_rows := Rel.mono _ x5.b h_rows
      have h_trees := Rel.mono _ x5.b h_trees
      have h_c_ := Rel.mono _ x5.b h_c_
      have h_e_ := Rel.mono _ x5.b h_e_
      refine st_nextT ?_
      obtain ⟨t6, h_t6, hm⟩ := bindS hm
      obtain ⟨t7, h_t7, hm⟩ := bindS hm
      obtain ⟨t8, h_t8, hm⟩ := bindS hm
      obtain ⟨t9, h_t9, hm⟩ := bindS hm
      obtain ⟨t10, h_t10, hm⟩ := bindS hm
      obtain ⟨t11, h_t11, hm⟩ := bindS hm
      obtain ⟨due, e_due, hm⟩ := ltS hm
      refine st_set (i := 8) (Ev.is (ev_sub (ev_mul (ev_ixW (ev_wI (ev_v h_trees rfl)) (ev_v h_e_ rfl) h_t6) (ev_call gI (ea_cons (ev_v h_grid_here rfl) (ea_cons (ev_fz (ev_lst (R := qI) (eb_cons (ev_v h_a_ rfl) (eb_cons (ev_v h_c_ rfl) eb_nil)) (by show 2 ≤ 1000000; decide))) (ea_cons (ev_fz (ev_lst (R := (qT K qI)) (eb_cons (ev_tup (R := qI) (eb_cons (ev_v h_b_ rfl) (eb_cons (ev_v h_c_ rfl) eb_nil)) (by show 2 ≤ 1000000; decide)) eb_nil) (by show 1 ≤ 1000000; decide))) ea_nil))) a_id h_t7) h_t8) (ev_mul (ev_ixW (ev_wI (ev_v h_trees rfl)) (ev_v h_c_ rfl) h_t9) (ev_call gI (ea_cons (ev_v h_grid_here rfl) (ea_cons (ev_fz (ev_lst (R := qI) (eb_cons (ev_v h_a_ rfl) (eb_cons (ev_v h_e_ rfl) eb_nil)) (by show 2 ≤ 1000000; decide))) (ea_cons (ev_fz (ev_lst (R := (qT K qI)) (eb_cons (ev_tup (R := qI) (eb_cons (ev_v h_b_ rfl) (eb_cons (ev_v h_e_ rfl) eb_nil)) (by show 2 ≤ 1000000; decide)) eb_nil) (by show 1 ≤ 1000000; decide))) ea_nil))) a_id h_t10) h_t11)) e_due) w5 (fun v_due B12 H12 x12 w12 h_due => ?_)
      have h_a_ := Rel.mono _ x12.b h_a_
      have h_b_ := Rel.mono _ x12.b h_b_
      have h_rows := Rel.mono _ x12.b h_rows
      have h_trees := Rel.mono _ x12.b h_trees
      obtain ⟨t13, h_t13, hm⟩ := bindS hm
      obtain ⟨t14, h_t14, hm⟩ := bindS hm
      obtain ⟨t15, h_t15, hm⟩ := bindS hm
      obtain ⟨t16, h_t16, hm⟩ := bindS hm
      have hv := Option.some.inj hm
      subst hv
      exact st_ret gI (ev_eqI (ev_mul (ev_ixW (ev_wI (ev_v h_trees rfl)) (ev_v h_a_ rfl) h_t13) (ev_ixT (ev_ixT (ev_v h_rows rfl) (ev_v h_a_ rfl) h_t14) (ev_v h_b_ rfl) h_t15) h_t16) (ev_v h_due rfl)) w12 (fun _ _ _ => trivial) q)
abbrev N_push_Tiiii : List Str := ["table", "a", "b", "c", "e", "row"]
theorem sc_push_Tiiii : FnScope N_push_Tiiii ["table", "a", "b", "c", "e"] (defScope s_push) := ⟨rfl, rfl, rfl, by decide +kernel, rfl, by decide +kernel, by decide +kernel⟩
theorem ok_push_Tiiii (T : Top K mg C_Table e_check_states e_forest_row) : Fn P w' K mg base 6 "push" ["table", "a", "b", "c", "e"] [] (spf (aCons (qTab K C_Table) (aCons qI (aCons qI (aCons qI (aCons qI aNil))))) (fun d => M.push_Tiiii d.1 d.2.1 d.2.2.1 d.2.2.2.1 d.2.2.2.2.1) (pI qI)) :=
  mkFn T.d_push sc_push_Tiiii (al_spf (al_cons (al_cons (al_cons (al_cons (al_cons al_nil)))))) (fun _ _ _ _ _ _ us hl => match us, hl with | [_, _, _, _, _], _ => rfl) (fun f cdv A outer s H0 vs Q E hr h => by
    obtain ⟨B0, d, r, e, hA, hm, q⟩ := h
    obtain ⟨table, a_, b_, c_, e_, ⟨⟩⟩ := d
    obtain ⟨v_table, _, rfl, h_table, ⟨v_a_, _, rfl, h_a_, ⟨v_b_, _, rfl, h_b_, ⟨v_c_, _, rfl, h_c_, ⟨v_e_, _, rfl, h_e_, rfl⟩⟩⟩⟩⟩ := hA
    have h_table : (qTab K C_Table).r B0 v_table table := h_table
    have h_a_ : qI.r B0 v_a_ a_ := h_a_
    have h_b_ : qI.r B0 v_b_ b_ := h_b_
    have h_c_ : qI.r B0 v_c_ c_ := h_c_
    have h_e_ : qI.r B0 v_e_ e_ := h_e_
    have hm : M.push_Tiiii table a_ b_ c_ e_ = some r := hm
    have w := wd0 e
    unfold M.push_Tiiii at hm
    have sc := sc_push_Tiiii
    have F_check_states_ititti_0 := ok_check_states_ititti_0 (P := P) (w' := w') (base := base) T
    have F_check_states_ititti_1 := ok_check_states_ititti_1 (P := P) (w' := w') (base := base) T
    have F_coming_row_Tii := ok_coming_row_Tii (P := P) (w' := w') (base := base) T
    refine ⟨_, (pss_cons (ps_expr (pe_fn F_check_states_ititti_1 (hr.mono (by decide)) rfl (pa_cons (kpe_fld K rfl (pv 0) rfl) (pa_cons (pe_tup (pa_cons (pv 1) (pa_cons (pv 2) (pa_cons (pv 3) (pa_cons (pv 4) pa_nil))))) (pa_cons (pe_tup (pa_cons (pe_tup (pa_cons pe_int (pa_cons pe_int pa_nil))) (pa_cons (pe_tup (pa_cons pe_int (pa_cons pe_int pa_nil))) pa_nil))) pa_nil))))) (pss_cons (ps_set (i := 5) sc.nd rfl (by first | exact .inl rfl | exact .inr rfl) (pe_fn F_coming_row_Tii (hr.mono (by decide)) rfl (pa_cons (pv 0) (pa_cons (pv 3) (pa_cons (pv 4) pa_nil))))) (pss_cons (ps_ret (pe_op op_sub (pe_ix (kix_tup K rfl) (pv 5) (pv 2) (fun _ _ => rfl)) (pe_ix (kix_tup K rfl) (pv 5) (pv 1) (fun _ _ => rfl)))) pss_never))), ?_⟩
    obtain ⟨t1, h_t1, hm⟩ := bindS hm
    refine st_drop (ev_call gI (ea_cons (ev_size T.cl_Table T.n_Table_size (ev_v h_table rfl)) (ea_cons (ev_tup (R := qI) (eb_cons (ev_v h_a_ rfl) (eb_cons (ev_v h_b_ rfl) (eb_cons (ev_v h_c_ rfl) (eb_cons (ev_v h_e_ rfl) eb_nil)))) (by show 4 ≤ 1000000; decide)) (ea_cons (ev_tup (R := (qT K qI)) (eb_cons (ev_tup (R := qI) (eb_cons ev_int (eb_cons ev_int eb_nil)) (by show 2 ≤ 1000000; decide)) (eb_cons (ev_tup (R := qI) (eb_cons ev_int (eb_cons ev_int eb_nil)) (by show 2 ≤ 1000000; decide)) eb_nil)) (by show 2 ≤ 1000000; decide)) ea_nil))) a_id h_t1) w (fun B2 H2 x2 w2 => ?_)
    have h_table := Rel.mono _ x2.b h_table
    have h_a_ := Rel.mono _ x2.b h_a_
    have h_b_ := Rel.mono _ x2.b h_b_
    have h_c_ := Rel.mono _ x2.b h_c_
    have h_e_ := Rel.mono _ x2.b h_e_
    obtain ⟨row, h_row, hm⟩ := bindS hm
    refine st_set (i := 5) (ev_call gI (ea_cons (ev_v h_table rfl) (ea_cons (ev_v h_c_ rfl) (ea_cons (ev_v h_e_ rfl) ea_nil))) a_id h_row) w2 (fun v_row B4 H4 x4 w4 h_row => ?_)
    have h_a_ := Rel.mono _ x4.b h_a_
    have h_b_ := Rel.mono _ x4.b h_b_
    obtain ⟨t5, h_t5, hm⟩ := bindS hm
    obtain ⟨t6, h_t6, hm⟩ := bindS hm
    have hv := Option.some.inj hm
    subst hv
    exact st_ret gI (ev_sub (ev_ixT (ev_v h_row rfl) (ev_v h_b_ rfl) h_t5) (ev_ixT (ev_v h_row rfl) (ev_v h_a_ rfl) h_t6)) w4 (fun _ _ _ => trivial) q)
abbrev N_three_right_Tiiliiii : List Str := ["_law_old", "_law_a", "_law_b", "_law_trees", "_law_c", "_law_e", "_law_g", "_law_whole"]
theorem sc_three_right_Tiiliiii : FnScope N_three_right_Tiiliiii ["_law_old", "_law_a", "_law_b", "_law_trees", "_law_c", "_law_e", "_law_g"] (defScope s_three_right) := ⟨rfl, rfl, rfl, by decide +kernel, rfl, by decide +kernel, by decide +kernel⟩
theorem ok_three_right_Tiiliiii (T : Top K mg C_Table e_check_states e_forest_row) : Fn P w' K mg base 7 "_law_three_right" ["_law_old", "_law_a", "_law_b", "_law_trees", "_law_c", "_law_e", "_law_g"] [] (spf (aCons (qTab K C_Table) (aCons qI (aCons qI (aCons (qL qI) (aCons qI (aCons qI (aCons qI aNil))))))) (fun d => M.three_right_Tiiliiii d.1 d.2.1 d.2.2.1 d.2.2.2.1 d.2.2.2.2.1 d.2.2.2.2.2.1 d.2.2.2.2.2.2.1) (pI qB)) :=
  mkFn T.d_three_right sc_three_right_Tiiliiii (al_spf (al_cons (al_cons (al_cons (al_cons (al_cons (al_cons (al_cons al_nil)))))))) (fun _ _ _ _ _ _ us hl => match us, hl with | [_, _, _, _, _, _, _], _ => rfl) (fun f cdv A outer s H0 vs Q E hr h => by
    obtain ⟨B0, d, r, e, hA, hm, q⟩ := h
    obtain ⟨old, a_, b_, trees, c_, e_, g_, ⟨⟩⟩ := d
    obtain ⟨v_old, _, rfl, h_old, ⟨v_a_, _, rfl, h_a_, ⟨v_b_, _, rfl, h_b_, ⟨v_trees, _, rfl, h_trees, ⟨v_c_, _, rfl, h_c_, ⟨v_e_, _, rfl, h_e_, ⟨v_g_, _, rfl, h_g_, rfl⟩⟩⟩⟩⟩⟩⟩ := hA
    have h_old : (qTab K C_Table).r B0 v_old old := h_old
    have h_a_ : qI.r B0 v_a_ a_ := h_a_
    have h_b_ : qI.r B0 v_b_ b_ := h_b_
    have h_trees : (qL qI).r B0 v_trees trees := h_trees
    have h_c_ : qI.r B0 v_c_ c_ := h_c_
    have h_e_ : qI.r B0 v_e_ e_ := h_e_
    have h_g_ : qI.r B0 v_g_ g_ := h_g_
    have hm : M.three_right_Tiiliiii old a_ b_ trees c_ e_ g_ = some r := hm
    have w := wd0 e
    unfold M.three_right_Tiiliiii at hm
    have sc := sc_three_right_Tiiliiii
    have F_push_Tiiii := ok_push_Tiiii (P := P) (w' := w') (base := base) T
    refine ⟨_, (pss_cons (ps_set (i := 7) sc.nd rfl (by first | exact .inl rfl | exact .inr rfl) (pe_op op_mulW (pe_ix (kix_list K rfl) (pv 3) (pv 6) (fun _ _ => rfl)) (pe_fn F_push_Tiiii (hr.mono (by decide)) rfl (pa_cons (pv 0) (pa_cons (pv 1) (pa_cons (pv 2) (pa_cons (pv 4) (pa_cons (pv 5) pa_nil)))))))) (pss_cons (ps_set (i := 7) sc.nd rfl (by first | exact .inl rfl | exact .inr rfl) (pe_op op_add (pv 7) (pe_op op_mulW (pe_ix (kix_list K rfl) (pv 3) (pv 4) (fun _ _ => rfl)) (pe_fn F_push_Tiiii (hr.mono (by decide)) rfl (pa_cons (pv 0) (pa_cons (pv 1) (pa_cons (pv 2) (pa_cons (pv 5) (pa_cons (pv 6) pa_nil))))))))) (pss_cons (ps_ret (pe_cmpR op_eq (pe_op op_add (pv 7) (pe_op op_mulW (pe_ix (kix_list K rfl) (pv 3) (pv 5) (fun _ _ => rfl)) (pe_fn F_push_Tiiii (hr.mono (by decide)) rfl (pa_cons (pv 0) (pa_cons (pv 1) (pa_cons (pv 2) (pa_cons (pv 6) (pa_cons (pv 4) pa_nil)))))))) pe_int (nomark _))) pss_never))), ?_⟩
    obtain ⟨t1, h_t1, hm⟩ := bindS hm
    obtain ⟨t2, h_t2, hm⟩ := bindS hm
    obtain ⟨whole, h_whole, hm⟩ := bindS hm
    refine st_set (i := 7) (ev_mul (ev_ixW (ev_wI (ev_v h_trees rfl)) (ev_v h_g_ rfl) h_t1) (ev_call gI (ea_cons (ev_v h_old rfl) (ea_cons (ev_v h_a_ rfl) (ea_cons (ev_v h_b_ rfl) (ea_cons (ev_v h_c_ rfl) (ea_cons (ev_v h_e_ rfl) ea_nil))))) a_id h_t2) h_whole) w (fun v_whole B4 H4 x4 w4 h_whole => ?_)
    have h_old := Rel.mono _ x4.b h_old
    have h_a_ := Rel.mono _ x4.b h_a_
    have h_b_ := Rel.mono _ x4.b h_b_
    have h_trees := Rel.mono _ x4.b h_trees
    have h_c_ := Rel.mono _ x4.b h_c_
    have h_e_ := Rel.mono _ x4.b h_e_
    have h_g_ := Rel.mono _ x4.b h_g_
    obtain ⟨t5, h_t5, hm⟩ := bindS hm
    obtain ⟨t6, h_t6, hm⟩ := bindS hm
    obtain ⟨t7, h_t7, hm⟩ := bindS hm
    obtain ⟨whole_2, e_whole_2, hm⟩ := ltS hm
    refine st_set (i := 7) (Ev.is (ev_add (ev_v h_whole rfl) (ev_mul (ev_ixW (ev_wI (ev_v h_trees rfl)) (ev_v h_c_ rfl) h_t5) (ev_call gI (ea_cons (ev_v h_old rfl) (ea_cons (ev_v h_a_ rfl) (ea_cons (ev_v h_b_ rfl) (ea_cons (ev_v h_e_ rfl) (ea_cons (ev_v h_g_ rfl) ea_nil))))) a_id h_t6) h_t7)) e_whole_2) w4 (fun v_whole_2 B8 H8 x8 w8 h_whole_2 => ?_)
    have h_old := Rel.mono _ x8.b h_old
    have h_a_ := Rel.mono _ x8.b h_a_
    have h_b_ := Rel.mono _ x8.b h_b_
    have h_trees := Rel.mono _ x8.b h_trees
    have h_c_ := Rel.mono _ x8.b h_c_
    have h_e_ := Rel.mono _ x8.b h_e_
    have h_g_ := Rel.mono _ x8.b h_g_
    obtain ⟨t9, h_t9, hm⟩ := bindS hm
    obtain ⟨t10, h_t10, hm⟩ := bindS hm
    obtain ⟨t11, h_t11, hm⟩ := bindS hm
    have hv := Option.some.inj hm
    subst hv
    exact st_ret gI (ev_eqI (ev_add (ev_v h_whole_2 rfl) (ev_mul (ev_ixW (ev_wI (ev_v h_trees rfl)) (ev_v h_e_ rfl) h_t9) (ev_call gI (ea_cons (ev_v h_old rfl) (ea_cons (ev_v h_a_ rfl) (ea_cons (ev_v h_b_ rfl) (ea_cons (ev_v h_g_ rfl) (ea_cons (ev_v h_c_ rfl) ea_nil))))) a_id h_t10) h_t11)) ev_int) w8 (fun _ _ _ => trivial) q)
abbrev N_law_fi : List Str := ["_law_script", "_law_draws_here", "_law_grid_here", "_law_other", "_law_size", "_law_old", "_law_new", "_law_ends", "_law_a", "_law_trees", "_law_others", "_law_rows", "_law_near", "_law_b", "_law_g", "_law_line", "_law_rate_here"]
theorem sc_law_fi : FnScope N_law_fi ["_law_script"] (defScope s_law) := ⟨rfl, rfl, rfl, by decide +kernel, rfl, by decide +kernel, by decide +kernel⟩
theorem ok_law_fi (T : Top K mg C_Table e_check_states e_forest_row) : FnA P w' K mg 9 "law" ["_law_script"] (spf (aCons (qF K qI) aNil) (fun d => M.law_fi d.1) (pI qB)) :=
  mkFnA T.d_law sc_law_fi (al_spf (al_cons al_nil)) (fun _ _ _ _ _ _ us hl => match us, hl with | [_], _ => rfl) (fun base f cdv A outer s H0 vs Q E hr h => by
    obtain ⟨B0, d, r, e, hA, hm, q⟩ := h
    obtain ⟨script, ⟨⟩⟩ := d
    obtain ⟨v_script, _, rfl, h_script, rfl⟩ := hA
    have h_script : (qF K qI).r B0 v_script script := h_script
    have hm : M.law_fi script = some r := hm
    have w := wd0 e
    unfold M.law_fi at hm
    have sc := sc_law_fi
    have F_draws_fi := ok_draws_fi (P := P) (w' := w') (base := base) T
    have F_grid := ok_grid (P := P) (w' := w') (base := base) T
    have F_take := ok_take (P := P) (w' := w') (base := base) T
    have F_loose := ok_loose (P := P) (w' := w') (base := base) T
    have F_same_shape_lli := ok_same_shape_lli (P := P) (w' := w') (base := base) T
    have F_copy_lli := ok_copy_lli (P := P) (w' := w') (base := base) T
    have F_mk_Table_lli := ok_mk_Table_lli (P := P) (w' := w') (base := base) T
    have F_pair := ok_pair (P := P) (w' := w') (base := base) T
    have F_tree_row_lli := ok_tree_row_lli (P := P) (w' := w') (base := base) T
    have F_gaps_right_TTllillitilili := ok_gaps_right_TTllillitilili (P := P) (w' := w') (base := base) T
    have F_push_rows_Tii := ok_push_rows_Tii (P := P) (w' := w') (base := base) T
    have F_lw_push_lliiiii := ok_lw_push_lliiiii (P := P) (w' := w') (base := base) T
    have F_by_shares_Tiittiliti := ok_by_shares_Tiittiliti (P := P) (w' := w') (base := base) T
    have F_by_forests_lliiittiliti := ok_by_forests_lliiittiliti (P := P) (w' := w') (base := base) T
    have F_three_right_Tiiliiii := ok_three_right_Tiiliiii (P := P) (w' := w') (base := base) T
    refine ⟨_, (pss_cons (ps_set (i := 1) sc.nd rfl (by first | exact .inl rfl | exact .inr rfl) (pe_fn F_draws_fi (hr.mono (by decide)) rfl (pa_cons (pv 0) pa_nil))) (pss_cons (ps_set (i := 2) sc.nd rfl (by first | exact .inl rfl | exact .inr rfl) (pe_fn F_grid (hr.mono (by decide)) rfl (pa_cons (pv 1) pa_nil))) (Evl.pss_cut (ps_if (pt_cmpR op_eq (pe_fn F_take (hr.mono (by decide)) rfl (pa_cons (pv 1) (pa_cons pe_int pa_nil))) pe_int (nomark _)) (pss_cons (ps_set (i := 2) sc.nd rfl (by first | exact .inl rfl | exact .inr rfl) (pe_fn F_loose (hr.mono (by decide)) rfl (pa_cons (pv 1) (pa_cons (pe_callB (kcl_len K rfl) (by rfl) T.b_len PySem.boot_len (pa_cons (pv 2) pa_nil)) pa_nil)))) pss_nil) pss_nil) (pss_cons (ps_set (i := 3) sc.nd rfl (by first | exact .inl rfl | exact .inr rfl) (pe_fn F_same_shape_lli (hr.mono (by decide)) rfl (pa_cons (pv 1) (pa_cons (pv 2) pa_nil)))) (Evl.pss_cut (ps_if (pt_cmpR op_eq (pe_fn F_take (hr.mono (by decide)) rfl (pa_cons (pv 1) (pa_cons pe_int pa_nil))) pe_int (nomark _)) (pss_cons (ps_set (i := 3) sc.nd rfl (by first | exact .inl rfl | exact .inr rfl) (pe_fn F_loose (hr.mono (by decide)) rfl (pa_cons (pv 1) (pa_cons (pe_callB (kcl_len K rfl) (by rfl) T.b_len PySem.boot_len (pa_cons (pv 2) pa_nil)) pa_nil)))) pss_nil) pss_nil) (Evl.pss_cut (ps_if (pt_cmpR op_eq (pe_fn F_take (hr.mono (by decide)) rfl (pa_cons (pv 1) (pa_cons pe_int pa_nil))) pe_int (nomark _)) (pss_cons (ps_setLc (i := 2) (own := [("_law_line", 15)]) rfl sc.nd rfl rfl (sw_true rfl rfl rfl (by decide +kernel)) (kpi_list K rfl (pv 2)) (blkOk_by (own := [("_law_line", 15)]) (N := N_law_fi) (sc := defScope s_law) (by decide +kernel)) (fun _ _ _ _ _ => (pg_name (i := 15) sc.nd rfl (by first | exact .inl rfl | exact .inr rfl))) (fun _ _ _ _ _ => pts_nil) (fun _ _ _ _ _ => (pe_lc (own := [("_law_rate_here", 16)]) rfl sc.nd (kpi_list K rfl (pv 15)) (by refine blkOk_by (own := [("_law_rate_here", 16)]) (N := N_law_fi) (sc := L2.relS _ (defScope s_law)) ?_; decide +kernel) (fun _ _ _ _ _ => (pg_name (i := 16) sc.nd rfl (by first | exact .inl rfl | exact .inr rfl))) (fun _ _ _ _ _ => pts_nil) (fun _ _ _ _ _ => (pe_op op_mul (pv 16) (pe_op op_pow pe_int pe_int)))))) pss_nil) pss_nil) (pss_cons (ps_set (i := 4) sc.nd rfl (by first | exact .inl rfl | exact .inr rfl) (pe_callB (kcl_len K rfl) (by rfl) T.b_len PySem.boot_len (pa_cons (pv 2) pa_nil))) (pss_cons (ps_set (i := 5) sc.nd rfl (by first | exact .inl rfl | exact .inr rfl) (pe_mkd F_mk_Table_lli (hr.mono (by decide)) rfl (pa_cons (pe_fn F_copy_lli (hr.mono (by decide)) rfl (pa_cons (pv 2) pa_nil)) pa_nil))) (pss_cons (ps_set (i := 6) sc.nd rfl (by first | exact .inl rfl | exact .inr rfl) (pe_mkd F_mk_Table_lli (hr.mono (by decide)) rfl (pa_cons (pe_fn F_copy_lli (hr.mono (by decide)) rfl (pa_cons (pv 3) pa_nil)) pa_nil))) (pss_cons (ps_set (i := 7) sc.nd rfl (by first | exact .inl rfl | exact .inr rfl) (pe_fn F_pair (hr.mono (by decide)) rfl (pa_cons (pv 1) (pa_cons (pv 4) pa_nil)))) (pss_cons (ps_set (i := 8) sc.nd rfl (by first | exact .inl rfl | exact .inr rfl) (pe_fn F_take (hr.mono (by decide)) rfl (pa_cons (pv 1) (pa_cons (pv 4) pa_nil)))) (pss_cons (ps_set (i := 9) sc.nd rfl (by first | exact .inl rfl | exact .inr rfl) (pe_fn F_tree_row_lli (hr.mono (by decide)) rfl (pa_cons (pv 2) pa_nil))) (pss_cons (ps_set (i := 10) sc.nd rfl (by first | exact .inl rfl | exact .inr rfl) (pe_fn F_tree_row_lli (hr.mono (by decide)) rfl (pa_cons (pv 3) pa_nil))) (pss_cons (ps_if (pt_not (pt_val (pe_fn F_gaps_right_TTllillitilili (hr.mono (by decide)) rfl (pa_cons (pv 5) (pa_cons (pv 6) (pa_cons (pv 2) (pa_cons (pv 3) (pa_cons (pv 7) (pa_cons (pv 9) (pa_cons (pv 10) pa_nil)))))))))) (pss_cons (ps_ret pe_bl) pss_never) pss_nil) (pss_cons (ps_set (i := 11) sc.nd rfl (by first | exact .inl rfl | exact .inr rfl) (pe_fn F_push_rows_Tii (hr.mono (by decide)) rfl (pa_cons (pv 5) (pa_cons (pe_ix (kix_tup K rfl) (pv 7) pe_int (fun _ _ => rfl)) (pa_cons (pe_ix (kix_tup K rfl) (pv 7) pe_int (fun _ _ => rfl)) pa_nil))))) (pss_cons (ps_set (i := 12) sc.nd rfl (by first | exact .inl rfl | exact .inr rfl) (pe_op op_mod (pe_callTy cl_int (by rfl) T.b_int (by decide +kernel) (pa_cons (pe_op op_add (pv 8) pe_int) pa_nil)) (pv 4))) (pss_cons (ps_if (pt_cmpR op_ne (pe_ix (kix_tup K rfl) (pe_ix (kix_tup K rfl) (pv 11) (pv 8) (fun _ _ => rfl)) (pv 12) (fun _ _ => rfl)) (pe_fn F_lw_push_lliiiii (hr.mono (by decide)) rfl (pa_cons (pv 2) (pa_cons (pv 8) (pa_cons (pv 12) (pa_cons (pe_ix (kix_tup K rfl) (pv 7) pe_int (fun _ _ => rfl)) (pa_cons (pe_ix (kix_tup K rfl) (pv 7) pe_int (fun _ _ => rfl)) pa_nil)))))) (nomark _)) (pss_cons (ps_ret pe_bl) pss_never) pss_nil) (pss_cons (ps_for PassesOwn.never rfl (pi_range1 (by rfl) T.b_range (pa_cons (pv 4) pa_nil)) (pg_name (i := 13) sc.nd rfl (by first | exact .inl rfl | exact .inr rfl)) (pss_cons (ps_if (PW.pt (pw_and (pt_cmpR op_ne (pv 13) (pv 8) (nomark _)) (pw_and1 (pt_not (pt_val (pe_fn F_by_shares_Tiittiliti (hr.mono (by decide)) rfl (pa_cons (pv 5) (pa_cons (pv 8) (pa_cons (pv 13) (pa_cons (pv 11) (pa_cons (pv 9) (pa_cons (pv 7) pa_nil)))))))))))) (pss_cons (ps_ret pe_bl) pss_never) pss_nil) (pss_cons (ps_if (PW.pt (pw_and (pt_cmpR op_ne (pv 13) (pv 8) (nomark _)) (pw_and1 (pt_not (pt_val (pe_fn F_by_forests_lliiittiliti (hr.mono (by decide)) rfl (pa_cons (pv 2) (pa_cons (pv 8) (pa_cons (pv 13) (pa_cons (pv 11) (pa_cons (pv 9) (pa_cons (pv 7) pa_nil)))))))))))) (pss_cons (ps_ret pe_bl) pss_never) pss_nil) (pss_cons (ps_for PassesOwn.never rfl (pi_range1 (by rfl) T.b_range (pa_cons (pv 4) pa_nil)) (pg_name (i := 14) sc.nd rfl (by first | exact .inl rfl | exact .inr rfl)) (pss_cons (ps_if (PW.pt (pw_and (pt_cmpR op_ne (pv 13) (pv 8) (nomark _)) (pw_and (pt_cmpR op_ne (pv 14) (pe_ix (kix_tup K rfl) (pv 7) pe_int (fun _ _ => rfl)) (nomark _)) (pw_and1 (pt_cmpR op_ne (pv 14) (pe_ix (kix_tup K rfl) (pv 7) pe_int (fun _ _ => rfl)) (nomark _)))))) (pss_cons (ps_if (pt_not (pt_val (pe_fn F_three_right_Tiiliiii (hr.mono (by decide)) rfl (pa_cons (pv 5) (pa_cons (pv 8) (pa_cons (pv 13) (pa_cons (pv 9) (pa_cons (pe_ix (kix_tup K rfl) (pv 7) pe_int (fun _ _ => rfl)) (pa_cons (pe_ix (kix_tup K rfl) (pv 7) pe_int (fun _ _ => rfl)) (pa_cons (pv 14) pa_nil)))))))))) (pss_cons (ps_ret pe_bl) pss_never) pss_nil) pss_nil) pss_nil) pss_nil)) pss_nil)))) (pss_cons (ps_ret pe_bl) pss_never))))))))))))))))))), ?_⟩
    obtain ⟨draws_here, h_draws_here, hm⟩ := bindS hm
    refine st_setL (i := 1) (ev_call gL (ea_cons (ev_v h_script rfl) ea_nil) a_id h_draws_here) w (fun ld B2 H2 x2 w2 n2 o2 => ?_)
    have w2 := o2.cell w2
    obtain ⟨⟨grid_here, ds4⟩, h_grid_here, hm⟩ := bindS hm
    refine st_set (i := 2) (ev_fzG (ev_calld gG rfl ea_nil h_grid_here)) w2 (fun v_grid_here B5 H5 x5 w5 h_grid_here => ?_)
    obtain ⟨⟨t6, ds7⟩, h_t6, hm⟩ := bindS hm
    obtain ⟨⟨grid_here_2, ds⟩, hj8, hm⟩ := bindS hm
    refine st_ifc (et_test (ev_eqI (ev_calld gI rfl (ea_cons ev_int ea_nil) h_t6) ev_int)) w5 (fun σ H => ∃ a8_2 : V, σ = [some v_script, some (.ref ld), some a8_2, none, none, none, none, none, none, none, none, none, none, none, none, none, none] ∧ ∃ B, Ex B5 B ∧ Wd N0 B0 H0 (cD ld) ds B H ∧ (qL (qL qI)).r B a8_2 grid_here_2 ∧ True) (fun hA B8 H8 x8 w8 => ?_) (fun hA B8 H8 x8 w8 => ?_) ?_
    · have hm := ifT hj8 hA
      have ej8 := Ex.refl B5
      have h_grid_here := Rel.mono _ x8.b h_grid_here
      have ej8 := ej8.trans x8.b
      obtain ⟨⟨grid_here_3, ds10⟩, h_grid_here_3, hm⟩ := bindS hm
      refine st_set (i := 2) (ev_fzG (ev_calld gG rfl (ea_cons (ev_lenW (ev_wI (ev_v h_grid_here rfl))) ea_nil) h_grid_here_3)) w8 (fun v_grid_here_3 B11 H11 x11 w11 h_grid_here_3 => ?_)
      have ej8 := ej8.trans x11.b
      refine st_next ?_
      have hv := Option.some.inj hm
      have hv0 : grid_here_3 = grid_here_2 := congrArg (fun z => z.1) hv
      have hv1 : ds10 = ds := congrArg (fun z => z.2) hv
      subst hv0
      subst hv1
      exact ⟨v_grid_here_3, rfl, B11, ej8, w11, h_grid_here_3, trivial⟩
    · have hm := ifF hj8 hA
      have ej8 := Ex.refl B5
      have h_grid_here := Rel.mono _ x8.b h_grid_here
      have ej8 := ej8.trans x8.b
      refine st_next ?_
      have hv := Option.some.inj hm
      have hv0 : grid_here = grid_here_2 := congrArg (fun z => z.1) hv
      have hv1 : ds7 = ds := congrArg (fun z => z.2) hv
      subst hv0
      subst hv1
      exact ⟨v_grid_here, rfl, B8, ej8, w8, h_grid_here, trivial⟩
    · rintro σ8 G8 ⟨a8_2, rfl, Bj8, eo8, wj8, f8_0, -⟩
      have h_grid_here_2 : (qL (qL qI)).r _ a8_2 grid_here_2 := f8_0
      obtain ⟨⟨other, ds13⟩, h_other, hm⟩ := bindS hm
      refine st_set (i := 3) (ev_fzG (ev_calld gG rfl (ea_cons (ev_v h_grid_here_2 rfl) ea_nil) h_other)) wj8 (fun v_other B14 H14 x14 w14 h_other => ?_)
      have h_grid_here_2 := Rel.mono _ x14.b h_grid_here_2
      obtain ⟨⟨t15, ds16⟩, h_t15, hm⟩ := bindS hm
      obtain ⟨⟨other_2, ds_2⟩, hj17, hm⟩ := bindS hm
      refine st_ifc (et_test (ev_eqI (ev_calld gI rfl (ea_cons ev_int ea_nil) h_t15) ev_int)) w14 (fun σ H => ∃ a17_3 : V, σ = [some v_script, some (.ref ld), some a8_2, some a17_3, none, none, none, none, none, none, none, none, none, none, none, none, none] ∧ ∃ B, Ex B14 B ∧ Wd N0 B0 H0 (cD ld) ds_2 B H ∧ (qL (qL qI)).r B a17_3 other_2 ∧ True) (fun hA B17 H17 x17 w17 => ?_) (fun hA B17 H17 x17 w17 => ?_) ?_
      · have hm := ifT hj17 hA
        have ej17 := Ex.refl B14
        have h_grid_here_2 := Rel.mono _ x17.b h_grid_here_2
        have h_other := Rel.mono _ x17.b h_other
        have ej17 := ej17.trans x17.b
        obtain ⟨⟨other_3, ds19⟩, h_other_3, hm⟩ := bindS hm
        refine st_set (i := 3) (ev_fzG (ev_calld gG rfl (ea_cons (ev_lenW (ev_wI (ev_v h_grid_here_2 rfl))) ea_nil) h_other_3)) w17 (fun v_other_3 B20 H20 x20 w20 h_other_3 => ?_)
        have h_grid_here_2 := Rel.mono _ x20.b h_grid_here_2
        have ej17 := ej17.trans x20.b
        refine st_next ?_
        have hv := Option.some.inj hm
        have hv0 : other_3 = other_2 := congrArg (fun z => z.1) hv
        have hv1 : ds19 = ds_2 := congrArg (fun z => z.2) hv
        subst hv0
        subst hv1
        exact ⟨v_other_3, rfl, B20, ej17, w20, h_other_3, trivial⟩
      · have hm := ifF hj17 hA
        have ej17 := Ex.refl B14
        have h_grid_here_2 := Rel.mono _ x17.b h_grid_here_2
        have h_other := Rel.mono _ x17.b h_other
        have ej17 := ej17.trans x17.b
        refine st_next ?_
        have hv := Option.some.inj hm
        have hv0 : other = other_2 := congrArg (fun z => z.1) hv
        have hv1 : ds16 = ds_2 := congrArg (fun z => z.2) hv
        subst hv0
        subst hv1
        exact ⟨v_other, rfl, B17, ej17, w17, h_other, trivial⟩
      · rintro σ17 G17 ⟨a17_3, rfl, Bj17, eo17, wj17, f17_0, -⟩
        have h_other_2 : (qL (qL qI)).r _ a17_3 other_2 := f17_0
        have h_grid_here_2 := Rel.mono _ eo17 h_grid_here_2
        obtain ⟨⟨t21, ds22⟩, h_t21, hm⟩ := bindS hm
        obtain ⟨⟨grid_here_4, ds_3⟩, hj23, hm⟩ := bindS hm
        refine st_ifc (et_test (ev_eqI (ev_calld gI rfl (ea_cons ev_int ea_nil) h_t21) ev_int)) wj17 (fun σ H => ∃ a23_2 : V, σ = [some v_script, some (.ref ld), some a23_2, some a17_3, none, none, none, none, none, none, none, none, none, none, none, none, none] ∧ ∃ B, Ex Bj17 B ∧ Wd N0 B0 H0 (cD ld) ds_3 B H ∧ (qL (qL qI)).r B a23_2 grid_here_4 ∧ True) (fun hA B23 H23 x23 w23 => ?_) (fun hA B23 H23 x23 w23 => ?_) ?_
        · have hm := ifT hj23 hA
          have ej23 := Ex.refl Bj17
          have h_grid_here_2 := Rel.mono _ x23.b h_grid_here_2
          have h_other_2 := Rel.mono _ x23.b h_other_2
          have ej23 := ej23.trans x23.b
          obtain ⟨z27, h_z27, hm⟩ := bindS hm
          obtain ⟨grid_here_5, h_grid_here_5, hm⟩ := bindS hm
          refine st_set (i := 2) (ev_fz (ev_lcS (it_list (ev_v h_grid_here_2 rfl)) (compS_mapO h_grid_here_5) (lnO_ok h_z27).1 (fun line v24_ s24_ o24_ t24_ B24_ H24_ x24_ r24_ hf24_ => by (obtain ⟨y24_, hy24_, hf24_⟩ := bindS hf24_; cases hf24_; have h_grid_here_2 := Rel.mono _ x24_.b h_grid_here_2; have h_other_2 := Rel.mono _ x24_.b h_other_2; obtain ⟨z26, h_z26, hy24_⟩ := bindS hy24_; exact turn_g (fun _ _ _ _ q => q) rfl rfl (Ev.is (ev_fz (ev_lcS (it_list (ev_v r24_ rfl)) (compS_map (fun rate_here => (rate_here * (100000 : Int))) _ line) (lnO_ok h_z26).1 (fun rate_here v25_ s25_ o25_ t25_ B25_ H25_ x25_ r25_ hf25_ => by (cases hf25_; have h_grid_here_2 := Rel.mono _ x25_.b h_grid_here_2; have h_other_2 := Rel.mono _ x25_.b h_other_2; have r24_ := Rel.mono _ x25_.b r24_; exact turn_g (fun _ _ _ _ q => q) rfl rfl (ev_mulS (ev_v r25_ rfl) (Ev.is (d' := (100000 : Int)) (ev_powS ev_int ev_int ⟨by decide, by decide, by decide⟩) (by decide)) (.inr ⟨by decide, by decide⟩)))))) (Option.some.inj hy24_)))))) w23 (fun v_grid_here_5 B29 H29 x29 w29 h_grid_here_5 => ?_)
          have h_other_2 := Rel.mono _ x29.b h_other_2
          have ej23 := ej23.trans x29.b
          refine st_next ?_
          have hv := Option.some.inj hm
          have hv0 : grid_here_5 = grid_here_4 := congrArg (fun z => z.1) hv
          have hv1 : ds22 = ds_3 := congrArg (fun z => z.2) hv
          subst hv0
          subst hv1
          exact ⟨v_grid_here_5, rfl, B29, ej23, w29, h_grid_here_5, trivial⟩
        · have hm := ifF hj23 hA
          have ej23 := Ex.refl Bj17
          have h_grid_here_2 := Rel.mono _ x23.b h_grid_here_2
          have h_other_2 := Rel.mono _ x23.b h_other_2
          have ej23 := ej23.trans x23.b
          refine st_next ?_
          have hv := Option.some.inj hm
          have hv0 : grid_here_2 = grid_here_4 := congrArg (fun z => z.1) hv
          have hv1 : ds22 = ds_3 := congrArg (fun z => z.2) hv
          subst hv0
          subst hv1
          exact ⟨a8_2, rfl, B23, ej23, w23, h_grid_here_2, trivial⟩
        · rintro σ23 G23 ⟨a23_2, rfl, Bj23, eo23, wj23, f23_0, -⟩
          have h_grid_here_4 : (qL (qL qI)).r _ a23_2 grid_here_4 := f23_0
          have h_other_2 := Rel.mono _ eo23 h_other_2
          obtain ⟨size, e_size, hm⟩ := ltS hm
          refine st_set (i := 4) (Ev.is (ev_lenW (ev_wI (ev_v h_grid_here_4 rfl))) e_size) wj23 (fun v_size B30 H30 x30 w30 h_size => ?_)
          have h_grid_here_4 := Rel.mono _ x30.b h_grid_here_4
          have h_other_2 := Rel.mono _ x30.b h_other_2
          obtain ⟨t31, h_t31, hm⟩ := bindS hm
          obtain ⟨old, h_old, hm⟩ := bindS hm
          refine st_set (i := 5) (ev_make (ev_fz (ev_call gL (ea_cons (ev_v h_grid_here_4 rfl) ea_nil) a_id h_t31)) h_old) w30 (fun v_old B33 H33 x33 w33 h_old => ?_)
          have h_grid_here_4 := Rel.mono _ x33.b h_grid_here_4
          have h_other_2 := Rel.mono _ x33.b h_other_2
          have h_size := Rel.mono _ x33.b h_size
          obtain ⟨t34, h_t34, hm⟩ := bindS hm
          obtain ⟨new, h_new, hm⟩ := bindS hm
          refine st_set (i := 6) (ev_make (ev_fz (ev_call gL (ea_cons (ev_v h_other_2 rfl) ea_nil) a_id h_t34)) h_new) w33 (fun v_new B36 H36 x36 w36 h_new => ?_)
          have h_grid_here_4 := Rel.mono _ x36.b h_grid_here_4
          have h_other_2 := Rel.mono _ x36.b h_other_2
          have h_size := Rel.mono _ x36.b h_size
          have h_old := Rel.mono _ x36.b h_old
          obtain ⟨⟨ends, ds38⟩, h_ends, hm⟩ := bindS hm
          refine st_set (i := 7) (ev_calld gI rfl (ea_cons (ev_v h_size rfl) ea_nil) h_ends) w36 (fun v_ends B39 H39 x39 w39 h_ends => ?_)
          have h_grid_here_4 := Rel.mono _ x39.b h_grid_here_4
          have h_other_2 := Rel.mono _ x39.b h_other_2
          have h_size := Rel.mono _ x39.b h_size
          have h_old := Rel.mono _ x39.b h_old
          have h_new := Rel.mono _ x39.b h_new
          obtain ⟨⟨a_, ds41⟩, h_a_, hm⟩ := bindS hm
          refine st_set (i := 8) (ev_calld gI rfl (ea_cons (ev_v h_size rfl) ea_nil) h_a_) w39 (fun v_a_ B42 H42 x42 w42 h_a_ => ?_)
          have h_grid_here_4 := Rel.mono _ x42.b h_grid_here_4
          have h_other_2 := Rel.mono _ x42.b h_other_2
          have h_size := Rel.mono _ x42.b h_size
          have h_old := Rel.mono _ x42.b h_old
          have h_new := Rel.mono _ x42.b h_new
          have h_ends := Rel.mono _ x42.b h_ends
          obtain ⟨trees, h_trees, hm⟩ := bindS hm
          refine st_set (i := 9) (ev_fz (ev_call gL (ea_cons (ev_v h_grid_here_4 rfl) ea_nil) a_id h_trees)) w42 (fun v_trees B44 H44 x44 w44 h_trees => ?_)
          have h_grid_here_4 := Rel.mono _ x44.b h_grid_here_4
          have h_other_2 := Rel.mono _ x44.b h_other_2
          have h_size := Rel.mono _ x44.b h_size
          have h_old := Rel.mono _ x44.b h_old
          have h_new := Rel.mono _ x44.b h_new
          have h_ends := Rel.mono _ x44.b h_ends
          have h_a_ := Rel.mono _ x44.b h_a_
          obtain ⟨others, h_others, hm⟩ := bindS hm
          refine st_set (i := 10) (ev_fz (ev_call gL (ea_cons (ev_v h_other_2 rfl) ea_nil) a_id h_others)) w44 (fun v_others B46 H46 x46 w46 h_others => ?_)
          have h_grid_here_4 := Rel.mono _ x46.b h_grid_here_4
          have h_other_2 := Rel.mono _ x46.b h_other_2
          have h_size := Rel.mono _ x46.b h_size
          have h_old := Rel.mono _ x46.b h_old
          have h_new := Rel.mono _ x46.b h_new
          have h_ends := Rel.mono _ x46.b h_ends
          have h_a_ := Rel.mono _ x46.b h_a_
          have h_trees := Rel.mono _ x46.b h_trees
          obtain ⟨t47, h_t47, hm⟩ := bindS hm
          refine st_if (et_not (et_B (ev_call gI (ea_cons (ev_v h_old rfl) (ea_cons (ev_v h_new rfl) (ea_cons (ev_v h_grid_here_4 rfl) (ea_cons (ev_v h_other_2 rfl) (ea_cons (ev_v h_ends rfl) (ea_cons (ev_v h_trees rfl) (ea_cons (ev_v h_others rfl) ea_nil))))))) a_id h_t47))) w46 (fun hA B48 H48 x48 w48 => ?_) (fun hA B48 H48 x48 w48 => ?_)
          · have hm := ifT hm hA
            have h_grid_here_4 := Rel.mono _ x48.b h_grid_here_4
            have h_size := Rel.mono _ x48.b h_size
            have h_old := Rel.mono _ x48.b h_old
            have h_ends := Rel.mono _ x48.b h_ends
            have h_a_ := Rel.mono _ x48.b h_a_
            have h_trees := Rel.mono _ x48.b h_trees
            have hv := Option.some.inj hm
            subst hv
            exact st_ret gI ev_bl w48 (fun _ _ _ => trivial) q
          · have hm := ifF hm hA
            have h_grid_here_4 := Rel.mono _ x48.b h_grid_here_4
            have h_size := Rel.mono _ x48.b h_size
            have h_old := Rel.mono _ x48.b h_old
            have h_ends := Rel.mono _ x48.b h_ends
            have h_a_ := Rel.mono _ x48.b h_a_
            have h_trees := Rel.mono _ x48.b h_trees
            refine st_nextT ?_
            obtain ⟨t49, h_t49, hm⟩ := bindS hm
            obtain ⟨t50, h_t50, hm⟩ := bindS hm
            obtain ⟨rows, h_rows, hm⟩ := bindS hm
            refine st_set (i := 11) (ev_call gI (ea_cons (ev_v h_old rfl) (ea_cons (ev_ixT (ev_v h_ends rfl) ev_int h_t49) (ea_cons (ev_ixT (ev_v h_ends rfl) ev_int h_t50) ea_nil))) a_id h_rows) w48 (fun v_rows B52 H52 x52 w52 h_rows => ?_)
            have h_grid_here_4 := Rel.mono _ x52.b h_grid_here_4
            have h_size := Rel.mono _ x52.b h_size
            have h_old := Rel.mono _ x52.b h_old
            have h_ends := Rel.mono _ x52.b h_ends
            have h_a_ := Rel.mono _ x52.b h_a_
            have h_trees := Rel.mono _ x52.b h_trees
            obtain ⟨near, h_near, hm⟩ := bindS hm
            refine st_set (i := 12) (ev_mod (ev_intI (ev_add (ev_v h_a_ rfl) ev_int)) (ev_v h_size rfl) h_near) w52 (fun v_near B54 H54 x54 w54 h_near => ?_)
            have h_grid_here_4 := Rel.mono _ x54.b h_grid_here_4
            have h_size := Rel.mono _ x54.b h_size
            have h_old := Rel.mono _ x54.b h_old
            have h_ends := Rel.mono _ x54.b h_ends
            have h_a_ := Rel.mono _ x54.b h_a_
            have h_trees := Rel.mono _ x54.b h_trees
            have h_rows := Rel.mono _ x54.b h_rows
            obtain ⟨t55, h_t55, hm⟩ := bindS hm
            obtain ⟨t56, h_t56, hm⟩ := bindS hm
            obtain ⟨t57, h_t57, hm⟩ := bindS hm
            obtain ⟨t58, h_t58, hm⟩ := bindS hm
            obtain ⟨t59, h_t59, hm⟩ := bindS hm
            refine st_if (et_test (ev_neI (ev_ixT (ev_ixT (ev_v h_rows rfl) (ev_v h_a_ rfl) h_t55) (ev_v h_near rfl) h_t56) (ev_call gI (ea_cons (ev_v h_grid_here_4 rfl) (ea_cons (ev_v h_a_ rfl) (ea_cons (ev_v h_near rfl) (ea_cons (ev_ixT (ev_v h_ends rfl) ev_int h_t57) (ea_cons (ev_ixT (ev_v h_ends rfl) ev_int h_t58) ea_nil))))) a_id h_t59))) w54 (fun hA B60 H60 x60 w60 => ?_) (fun hA B60 H60 x60 w60 => ?_)
            · have hm := ifT hm hA
              have h_grid_here_4 := Rel.mono _ x60.b h_grid_here_4
              have h_size := Rel.mono _ x60.b h_size
              have h_old := Rel.mono _ x60.b h_old
              have h_ends := Rel.mono _ x60.b h_ends
              have h_a_ := Rel.mono _ x60.b h_a_
              have h_trees := Rel.mono _ x60.b h_trees
              have h_rows := Rel.mono _ x60.b h_rows
              have hv := Option.some.inj hm
              subst hv
              exact st_ret gI ev_bl w60 (fun _ _ _ => trivial) q
            · have hm := ifF hm hA
              have h_grid_here_4 := Rel.mono _ x60.b h_grid_here_4
              have h_size := Rel.mono _ x60.b h_size
              have h_old := Rel.mono _ x60.b h_old
              have h_ends := Rel.mono _ x60.b h_ends
              have h_a_ := Rel.mono _ x60.b h_a_
              have h_trees := Rel.mono _ x60.b h_trees
              have h_rows := Rel.mono _ x60.b h_rows
              refine st_nextT ?_
              obtain ⟨r61, h_r61, hm⟩ := bindS hm
              obtain ⟨c62, hl62, hm⟩ := bindS hm
              have k62 : ∀ r', c62 = .rt r' → r' = r := fun r' e => by (subst e; exact Option.some.inj hm)
              refine st_for (st_forC (it_range1 (ev_v h_size rfl) h_r61) w60.e w60.c hl62 (fun Bs (b : Unit) σ B H => ∃ p62_13 : Option V, ∃ p62_14 : Option V, σ = [some v_script, some (.ref ld), some a23_2, some a17_3, some v_size, some v_old, some v_new, some v_ends, some v_a_, some v_trees, some v_others, some v_rows, some v_near, p62_13, p62_14, none, none] ∧ Ex Bs B ∧ Ex B60 B ∧ Wd N0 B0 H0 (cD ld) ds41 B H ∧ True) ?_ ?_ ?_ ?_)
              · rintro _ _ _ _ _ ⟨_, _, rfl, e, -, w, -⟩
                exact ⟨e, w.e⟩
              · intro Bs62 Hs62 x62 c62
                exact ⟨_, _, rfl, .refl _, x62.b, w60.step x62 c62, trivial⟩
              · rintro Bs62 b_ ⟨⟩ b62 σ62 B62p H62p ⟨p62_13, p62_14, rfl, e62, eo62, w62, -⟩ hm hq62 vi62 B62 H62 x62 r62 -
                rw [M.law_fi_l1] at hm
                have h_grid_here_4 := Rel.mono _ (eo62.trans x62.b) h_grid_here_4
                have h_size := Rel.mono _ (eo62.trans x62.b) h_size
                have h_old := Rel.mono _ (eo62.trans x62.b) h_old
                have h_ends := Rel.mono _ (eo62.trans x62.b) h_ends
                have h_a_ := Rel.mono _ (eo62.trans x62.b) h_a_
                have h_trees := Rel.mono _ (eo62.trans x62.b) h_trees
                have h_rows := Rel.mono _ (eo62.trans x62.b) h_rows
                have e62 := e62.trans x62.b
                have eo62 := eo62.trans x62.b
                have w62 := w62.step x62.up (Cell.ext _ w62.c x62)
                have h_b_ := r62
                refine tgn ?_
                obtain ⟨c64, h_c64, hm⟩ := bindS hm
                refine st_if (et_and (b := c64) (et_test (ev_neI (ev_v h_b_ rfl) (ev_v h_a_ rfl))) (fun hA => by (have hk := ifT h_c64 hA; obtain ⟨t63, h_t63, hk⟩ := bindS hk; have hv := Option.some.inj hk; subst hv; exact (et_not (et_B (ev_call gI (ea_cons (ev_v h_old rfl) (ea_cons (ev_v h_a_ rfl) (ea_cons (ev_v h_b_ rfl) (ea_cons (ev_v h_rows rfl) (ea_cons (ev_v h_trees rfl) (ea_cons (ev_v h_ends rfl) ea_nil)))))) a_id h_t63))))) (fun hA => by (have hk := ifF h_c64 hA; have hv := Option.some.inj hk; subst hv; exact ⟨rfl, rfl⟩))) w62 (fun hA B65 H65 x65 w65 => ?_) (fun hA B65 H65 x65 w65 => ?_)
                · have hm := ifT hm hA
                  have h_grid_here_4 := Rel.mono _ x65.b h_grid_here_4
                  have h_size := Rel.mono _ x65.b h_size
                  have h_old := Rel.mono _ x65.b h_old
                  have h_ends := Rel.mono _ x65.b h_ends
                  have h_a_ := Rel.mono _ x65.b h_a_
                  have h_trees := Rel.mono _ x65.b h_trees
                  have h_rows := Rel.mono _ x65.b h_rows
                  have h_b_ := Rel.mono _ x65.b h_b_
                  have e62 := e62.trans x65.b
                  have eo62 := eo62.trans x65.b
                  have hm := Option.some.inj hm
                  have hv := k62 _ (hq62 _ hm.symm)
                  subst hv
                  exact st_ret gI ev_bl w65 (fun _ _ _ => trivial) q
                · have hm := ifF hm hA
                  have h_grid_here_4 := Rel.mono _ x65.b h_grid_here_4
                  have h_size := Rel.mono _ x65.b h_size
                  have h_old := Rel.mono _ x65.b h_old
                  have h_ends := Rel.mono _ x65.b h_ends
                  have h_a_ := Rel.mono _ x65.b h_a_
                  have h_trees := Rel.mono _ x65.b h_trees
                  have h_rows := Rel.mono _ x65.b h_rows
                  have h_b_ := Rel.mono _ x65.b h_b_
                  have e62 := e62.trans x65.b
                  have eo62 := eo62.trans x65.b
                  refine st_nextT ?_
                  obtain ⟨c67, h_c67, hm⟩ := bindS hm
                  refine st_if (et_and (b := c67) (et_test (ev_neI (ev_v h_b_ rfl) (ev_v h_a_ rfl))) (fun hA => by (have hk := ifT h_c67 hA; obtain ⟨t66, h_t66, hk⟩ := bindS hk; have hv := Option.some.inj hk; subst hv; exact (et_not (et_B (ev_call gI (ea_cons (ev_v h_grid_here_4 rfl) (ea_cons (ev_v h_a_ rfl) (ea_cons (ev_v h_b_ rfl) (ea_cons (ev_v h_rows rfl) (ea_cons (ev_v h_trees rfl) (ea_cons (ev_v h_ends rfl) ea_nil)))))) a_id h_t66))))) (fun hA => by (have hk := ifF h_c67 hA; have hv := Option.some.inj hk; subst hv; exact ⟨rfl, rfl⟩))) w65 (fun hA B68 H68 x68 w68 => ?_) (fun hA B68 H68 x68 w68 => ?_)
                  · have hm := ifT hm hA
                    have h_grid_here_4 := Rel.mono _ x68.b h_grid_here_4
                    have h_size := Rel.mono _ x68.b h_size
                    have h_old := Rel.mono _ x68.b h_old
                    have h_ends := Rel.mono _ x68.b h_ends
                    have h_a_ := Rel.mono _ x68.b h_a_
                    have h_trees := Rel.mono _ x68.b h_trees
                    have h_rows := Rel.mono _ x68.b h_rows
                    have h_b_ := Rel.mono _ x68.b h_b_
                    have e62 := e62.trans x68.b
                    have eo62 := eo62.trans x68.b
                    have hm := Option.some.inj hm
                    have hv := k62 _ (hq62 _ hm.symm)
                    subst hv
                    exact st_ret gI ev_bl w68 (fun _ _ _ => trivial) q
                  · have hm := ifF hm hA
                    have h_grid_here_4 := Rel.mono _ x68.b h_grid_here_4
                    have h_size := Rel.mono _ x68.b h_size
                    have h_old := Rel.mono _ x68.b h_old
                    have h_ends := Rel.mono _ x68.b h_ends
                    have h_a_ := Rel.mono _ x68.b h_a_
                    have h_trees := Rel.mono _ x68.b h_trees
                    have h_rows := Rel.mono _ x68.b h_rows
                    have h_b_ := Rel.mono _ x68.b h_b_
                    have e62 := e62.trans x68.b
                    have eo62 := eo62.trans x68.b
                    refine st_nextT ?_
                    obtain ⟨r69, h_r69, hm⟩ := bindS hm
                    obtain ⟨c70, hl70, hm⟩ := bindS hm
                    have k70 : ∀ r', c70 = .rt r' → r' = r := fun r' e => by (subst e; exact k62 _ (hq62 _ (Option.some.inj hm).symm))
                    refine st_for (st_forC (it_range1 (ev_v h_size rfl) h_r69) w68.e w68.c hl70 (fun Bs (b : Unit) σ B H => ∃ p70_14 : Option V, σ = [some v_script, some (.ref ld), some a23_2, some a17_3, some v_size, some v_old, some v_new, some v_ends, some v_a_, some v_trees, some v_others, some v_rows, some v_near, some vi62, p70_14, none, none] ∧ Ex Bs B ∧ Ex B68 B ∧ Wd N0 B0 H0 (cD ld) ds41 B H ∧ True) ?_ ?_ ?_ ?_)
                    · rintro _ _ _ _ _ ⟨_, rfl, e, -, w, -⟩
                      exact ⟨e, w.e⟩
                    · intro Bs70 Hs70 x70 c70
                      exact ⟨_, rfl, .refl _, x70.b, w68.step x70 c70, trivial⟩
                    · rintro Bs70 g_ ⟨⟩ b70 σ70 B70p H70p ⟨p70_14, rfl, e70, eo70, w70, -⟩ hm hq70 vi70 B70 H70 x70 r70 -
                      rw [M.law_fi_l2] at hm
                      have h_grid_here_4 := Rel.mono _ (eo70.trans x70.b) h_grid_here_4
                      have h_size := Rel.mono _ (eo70.trans x70.b) h_size
                      have h_old := Rel.mono _ (eo70.trans x70.b) h_old
                      have h_ends := Rel.mono _ (eo70.trans x70.b) h_ends
                      have h_a_ := Rel.mono _ (eo70.trans x70.b) h_a_
                      have h_trees := Rel.mono _ (eo70.trans x70.b) h_trees
                      have h_rows := Rel.mono _ (eo70.trans x70.b) h_rows
                      have h_b_ := Rel.mono _ (eo70.trans x70.b) h_b_
                      have e62 := e62.trans (eo70.trans x70.b)
                      have eo62 := eo62.trans (eo70.trans x70.b)
                      have e70 := e70.trans x70.b
                      have eo70 := eo70.trans x70.b
                      have w70 := w70.step x70.up (Cell.ext _ w70.c x70)
                      have h_g_ := r70
                      refine tgn ?_
                      obtain ⟨c74, h_c74, hm⟩ := bindS hm
                      refine st_if (et_and (b := c74) (et_test (ev_neI (ev_v h_b_ rfl) (ev_v h_a_ rfl))) (fun hA => by (have hk := ifT h_c74 hA; obtain ⟨t71, h_t71, hk⟩ := bindS hk; obtain ⟨c73, h_c73, hk⟩ := bindS hk; have hv := Option.some.inj hk; subst hv; exact (et_and (b := c73) (et_test (ev_neI (ev_v h_g_ rfl) (ev_ixT (ev_v h_ends rfl) ev_int h_t71))) (fun hA => by (have hk := ifT h_c73 hA; obtain ⟨t72, h_t72, hk⟩ := bindS hk; have hv := Option.some.inj hk; subst hv; exact (et_test (ev_neI (ev_v h_g_ rfl) (ev_ixT (ev_v h_ends rfl) ev_int h_t72))))) (fun hA => by (have hk := ifF h_c73 hA; have hv := Option.some.inj hk; subst hv; exact ⟨rfl, rfl⟩))))) (fun hA => by (have hk := ifF h_c74 hA; have hv := Option.some.inj hk; subst hv; exact ⟨rfl, rfl⟩))) w70 (fun hA B75 H75 x75 w75 => ?_) (fun hA B75 H75 x75 w75 => ?_)
                      · have hm := ifT hm hA
                        have h_grid_here_4 := Rel.mono _ x75.b h_grid_here_4
                        have h_size := Rel.mono _ x75.b h_size
                        have h_old := Rel.mono _ x75.b h_old
                        have h_ends := Rel.mono _ x75.b h_ends
                        have h_a_ := Rel.mono _ x75.b h_a_
                        have h_trees := Rel.mono _ x75.b h_trees
                        have h_rows := Rel.mono _ x75.b h_rows
                        have h_b_ := Rel.mono _ x75.b h_b_
                        have h_g_ := Rel.mono _ x75.b h_g_
                        have e62 := e62.trans x75.b
                        have eo62 := eo62.trans x75.b
                        have e70 := e70.trans x75.b
                        have eo70 := eo70.trans x75.b
                        obtain ⟨t76, h_t76, hm⟩ := bindS hm
                        obtain ⟨t77, h_t77, hm⟩ := bindS hm
                        obtain ⟨t78, h_t78, hm⟩ := bindS hm
                        refine st_if (et_not (et_B (ev_call gI (ea_cons (ev_v h_old rfl) (ea_cons (ev_v h_a_ rfl) (ea_cons (ev_v h_b_ rfl) (ea_cons (ev_v h_trees rfl) (ea_cons (ev_ixT (ev_v h_ends rfl) ev_int h_t76) (ea_cons (ev_ixT (ev_v h_ends rfl) ev_int h_t77) (ea_cons (ev_v h_g_ rfl) ea_nil))))))) a_id h_t78))) w75 (fun hA B79 H79 x79 w79 => ?_) (fun hA B79 H79 x79 w79 => ?_)
                        · have hm := ifT hm hA
                          have h_grid_here_4 := Rel.mono _ x79.b h_grid_here_4
                          have h_size := Rel.mono _ x79.b h_size
                          have h_old := Rel.mono _ x79.b h_old
                          have h_ends := Rel.mono _ x79.b h_ends
                          have h_a_ := Rel.mono _ x79.b h_a_
                          have h_trees := Rel.mono _ x79.b h_trees
                          have h_rows := Rel.mono _ x79.b h_rows
                          have h_b_ := Rel.mono _ x79.b h_b_
                          have h_g_ := Rel.mono _ x79.b h_g_
                          have e62 := e62.trans x79.b
                          have eo62 := eo62.trans x79.b
                          have e70 := e70.trans x79.b
                          have eo70 := eo70.trans x79.b
                          have hm := Option.some.inj hm
                          have hv := k70 _ (hq70 _ hm.symm)
                          subst hv
                          exact st_ret gI ev_bl w79 (fun _ _ _ => trivial) q
                        · have hm := ifF hm hA
                          have h_grid_here_4 := Rel.mono _ x79.b h_grid_here_4
                          have h_size := Rel.mono _ x79.b h_size
                          have h_old := Rel.mono _ x79.b h_old
                          have h_ends := Rel.mono _ x79.b h_ends
                          have h_a_ := Rel.mono _ x79.b h_a_
                          have h_trees := Rel.mono _ x79.b h_trees
                          have h_rows := Rel.mono _ x79.b h_rows
                          have h_b_ := Rel.mono _ x79.b h_b_
                          have h_g_ := Rel.mono _ x79.b h_g_
                          have e62 := e62.trans x79.b
                          have eo62 := eo62.trans x79.b
                          have e70 := e70.trans x79.b
                          have eo70 := eo70.trans x79.b
                          refine st_nextT ?_
                          refine st_nextT ?_
                          refine st_next ?_
                          have hv := Option.some.inj hm
                          subst hv
                          exact ⟨_, _, rfl, _, rfl, e70, eo70, w79, trivial⟩
                      · have hm := ifF hm hA
                        have h_grid_here_4 := Rel.mono _ x75.b h_grid_here_4
                        have h_size := Rel.mono _ x75.b h_size
                        have h_old := Rel.mono _ x75.b h_old
                        have h_ends := Rel.mono _ x75.b h_ends
                        have h_a_ := Rel.mono _ x75.b h_a_
                        have h_trees := Rel.mono _ x75.b h_trees
                        have h_rows := Rel.mono _ x75.b h_rows
                        have h_b_ := Rel.mono _ x75.b h_b_
                        have h_g_ := Rel.mono _ x75.b h_g_
                        have e62 := e62.trans x75.b
                        have eo62 := eo62.trans x75.b
                        have e70 := e70.trans x75.b
                        have eo70 := eo70.trans x75.b
                        refine st_nextT ?_
                        refine st_next ?_
                        have hv := Option.some.inj hm
                        subst hv
                        exact ⟨_, _, rfl, _, rfl, e70, eo70, w75, trivial⟩
                    · rintro Bs70 ⟨⟩ σ70 Bd70 Hd70 ⟨p70_14, rfl, ed70, eo70, wd70, -⟩ hf70
                      subst hf70
                      refine nx_tz ?_
                      have h_grid_here_4 := Rel.mono _ eo70 h_grid_here_4
                      have h_size := Rel.mono _ eo70 h_size
                      have h_old := Rel.mono _ eo70 h_old
                      have h_ends := Rel.mono _ eo70 h_ends
                      have h_a_ := Rel.mono _ eo70 h_a_
                      have h_trees := Rel.mono _ eo70 h_trees
                      have h_rows := Rel.mono _ eo70 h_rows
                      have h_b_ := Rel.mono _ eo70 h_b_
                      have e62 := e62.trans eo70
                      have eo62 := eo62.trans eo70
                      refine st_next ?_
                      have hv := Option.some.inj hm
                      subst hv
                      exact ⟨_, _, rfl, _, _, rfl, e62, eo62, wd70, trivial⟩
              · rintro Bs62 ⟨⟩ σ62 Bd62 Hd62 ⟨p62_13, p62_14, rfl, ed62, eo62, wd62, -⟩ hf62
                subst hf62
                refine nx_tz ?_
                have hv := Option.some.inj hm
                subst hv
                exact st_ret gI ev_bl wd62 (fun _ _ _ => trivial) q)
end
end LK
set_option Elab.async false
set_option linter.all false
set_option maxRecDepth 100000
set_option maxHeartbeats 0
/-! the head of law_k18_either_pushes_tell_one_number, printed by gen3.py -/
namespace LH
open PySem PySem.Spec PyProof.Rows L2 LW LK
/-! ### the Hook: facts, defs, empty defaults -/
def emptyB (K : PySem.W.Frag) (T : Addr) : Bool := match K.lookup T with
  | some ⟨.type c, _, .seq its _, _⟩ => decide (c = "tuple") && its.toList.isEmpty
  | _ => false
theorem empty_of {K : PySem.W.Frag} {T : Addr} (h : emptyB K T = true) : Empty K T := by
  unfold emptyB at h
  cases q : K.lookup T with
  | none => rw [q] at h; cases h
  | some o =>
    obtain ⟨oc, od, dt, osl⟩ := o
    rw [q] at h
    cases oc with
    | type c =>
      cases dt with
      | seq its n =>
        obtain ⟨h1, h2⟩ := He.ba (show (decide (c = "tuple") && its.toList.isEmpty) = true from h)
        have e1 : c = "tuple" := of_decide_eq_true h1
        have e2 : its = #[] := by
          rw [List.isEmpty_iff] at h2
          exact Array.toList_inj.mp h2
        subst e1 e2
        exact ⟨_, n, q, rfl, rfl⟩
      | _ => cases h
    | _ => cases dt <;> cases h
abbrev AlX : Type := He.AlD × Bool
def emB (em : List (Str × Nat)) (K : PySem.W.Frag) : Bool := em.all fun p => emptyB K (He.dflAt (p.1, none) p.2 K)
def obsX (n : Nat) (fa : List He.Fa) (fn : List He.DefD) (em : List (Str × Nat)) (g : Addr → Option Obj) : AlX := (fun K => (He.obsD fa fn K, emB em K)) (He.frG g (He.asD g n))
def hookX (n : Nat) (fa : List He.Fa) (fn : List He.DefD) (em : List (Str × Nat)) : PySem.W.Hook where
  α := AlX
  obs := fun s => obsX n fa fn em s.heap.get?
  val := fun _ => (He.valD fn, true)
  says := fun _ h => ∃ K : PySem.W.Frag, K.In h ∧ He.SaysD fa fn K ∧ emB em K = true
  of := fun _ _ e => ⟨_, He.frG_in, congrArg Prod.fst e, congrArg Prod.snd e⟩
  keeps := fun _ _ _ ⟨K, hK, c⟩ k => ⟨K, PySem.W.Frag.In.keeps hK k, c⟩
theorem obsX_eq {n : Nat} {fa : List He.Fa} {fn : List He.DefD} {em : List (Str × Nat)} {g : Addr → Option Obj} {s : Shared} (h : ∀ a, g a = s.heap.get? a) : obsX n fa fn em g = (hookX n fa fn em).obs s := by
  have e : g = s.heap.get? := funext h
  rw [e] <;> rfl
section
variable {K : PySem.W.Frag} {mg : Str → Option Value} {x q : Str} {st : Stmt}
theorem fun_of {f : Addr} {fd : FuncData} (F : FunD K x q (defArgs st) (defBody st) (defScope st) [] [] f fd) : Fun K x q st f fd := by
  obtain ⟨oc, od, dV, kV, doc, pm, an, cdv, ct, osl, e, lk, cd, dv, _⟩ := F.ex
  rcases dv with ⟨_, rfl⟩ | ⟨h, _⟩
  · exact ⟨⟨oc, od, kV, doc, pm, an, cdv, ct, osl, e, lk, cd⟩, F.kp⟩
  · exact absurd rfl h
theorem has_of (g : mg x = some (.ref (He.ga K x))) (F : ∃ fd, FunD K x x (defArgs st) (defBody st) (defScope st) [] [] (He.ga K x) fd) : Has K mg x st := by
  obtain ⟨fd, F⟩ := F
  exact ⟨_, fd, g, fun_of F⟩
theorem hasD_of {dvs : List V} (g : mg x = some (.ref (He.ga K x))) (F : ∃ fd, FunD K x x (defArgs st) (defBody st) (defScope st) dvs [] (He.ga K x) fd) : HasD K mg x st dvs := by
  obtain ⟨fd, F⟩ := F
  exact ⟨_, fd, g, F⟩
theorem mk_of {C f : Addr} (g : mg x = some (.ref C)) (m : Mk K C f) (F : ∃ fd, FunD K "__init__" q (defArgs st) (defBody st) (defScope st) [] [] f fd) : ∃ f fd, mg x = some (.ref C) ∧ Mk K C f ∧ Fun K "__init__" q st f fd := by
  obtain ⟨fd, F⟩ := F
  exact ⟨f, fd, g, m, fun_of F⟩
end
/-! ### what is looked at -/
def d0 : He.DefD := ⟨("_law_draws", none), "_law_draws", "_law_draws", defArgs s_draws, defBody s_draws, defScope s_draws, [], []⟩
def d1 : He.DefD := ⟨("_law_take", none), "_law_take", "_law_take", defArgs s_take, defBody s_take, defScope s_take, [], []⟩
def d2 : He.DefD := ⟨("_law_empty", none), "_law_empty", "_law_empty", defArgs s_empty, defBody s_empty, defScope s_empty, [], []⟩
def d3 : He.DefD := ⟨("_law_rate", none), "_law_rate", "_law_rate", defArgs s_rate, defBody s_rate, defScope s_rate, [], []⟩
def d4 : He.DefD := ⟨("_law_hung_grid", none), "_law_hung_grid", "_law_hung_grid", defArgs s_hung_grid, defBody s_hung_grid, defScope s_hung_grid, [], []⟩
def d5 : He.DefD := ⟨("_law_lots_grid", none), "_law_lots_grid", "_law_lots_grid", defArgs s_lots_grid, defBody s_lots_grid, defScope s_lots_grid, [], []⟩
def d6 : He.DefD := ⟨("_law_cross_grid", none), "_law_cross_grid", "_law_cross_grid", defArgs s_cross_grid, defBody s_cross_grid, defScope s_cross_grid, [], []⟩
def d7 : He.DefD := ⟨("_law_ring_grid", none), "_law_ring_grid", "_law_ring_grid", defArgs s_ring_grid, defBody s_ring_grid, defScope s_ring_grid, [], []⟩
def d8 : He.DefD := ⟨("_law_moved", none), "_law_moved", "_law_moved", defArgs s_moved, defBody s_moved, defScope s_moved, [], []⟩
def d9 : He.DefD := ⟨("_law_grid", none), "_law_grid", "_law_grid", defArgs s_grid, defBody s_grid, defScope s_grid, [], []⟩
def d10 : He.DefD := ⟨("_law_loose", none), "_law_loose", "_law_loose", defArgs s_loose, defBody s_loose, defScope s_loose, [], []⟩
def d11 : He.DefD := ⟨("_law_same_shape", none), "_law_same_shape", "_law_same_shape", defArgs s_same_shape, defBody s_same_shape, defScope s_same_shape, [], []⟩
def d12 : He.DefD := ⟨("_law_copy", none), "_law_copy", "_law_copy", defArgs s_copy, defBody s_copy, defScope s_copy, [], []⟩
def d13 : He.DefD := ⟨("is_int", none), "is_int", "is_int", defArgs s_is_int, defBody s_is_int, defScope s_is_int, [], []⟩
def d14 : He.DefD := ⟨("table_rows", none), "table_rows", "table_rows", defArgs s_table_rows, defBody s_table_rows, defScope s_table_rows, [], []⟩
def d15 : He.DefD := ⟨("arrows_of", none), "arrows_of", "arrows_of", defArgs s_arrows_of, defBody s_arrows_of, defScope s_arrows_of, [], []⟩
def d16 : He.DefD := ⟨("_law_pair", none), "_law_pair", "_law_pair", defArgs s_pair, defBody s_pair, defScope s_pair, [], []⟩
def d17 : He.DefD := ⟨("_law_lead", none), "_law_lead", "_law_lead", defArgs s_lead, defBody s_lead, defScope s_lead, [], []⟩
def d18 : He.DefD := ⟨("_law_forests", none), "_law_forests", "_law_forests", defArgs s_forests, defBody s_forests, defScope s_forests, [], []⟩
def d19 : He.DefD := ⟨("_law_weight", none), "_law_weight", "_law_weight", defArgs s_weight, defBody s_weight, defScope s_weight, [], []⟩
def d20 : He.DefD := ⟨("_law_sum", none), "_law_sum", "_law_sum", defArgs s_sum, defBody s_sum, defScope s_sum, [], []⟩
def d21 : He.DefD := ⟨("_law_tree_row", none), "_law_tree_row", "_law_tree_row", defArgs s_tree_row, defBody s_tree_row, defScope s_tree_row, [], []⟩
def d22 : He.DefD := ⟨("is_state", none), "is_state", "is_state", defArgs s_is_state, defBody s_is_state, defScope s_is_state, [], []⟩
def d23 : He.DefD := ⟨("check_states", none), "check_states", "check_states", defArgs s_check_states, defBody s_check_states, defScope s_check_states, [.adr (He.dflAt ("check_states", none) 0)], []⟩
def d24 : He.DefD := ⟨("states_of", none), "states_of", "states_of", defArgs s_states_of, defBody s_states_of, defScope s_states_of, [], []⟩
def d25 : He.DefD := ⟨("states_outside", none), "states_outside", "states_outside", defArgs s_states_outside, defBody s_states_outside, defScope s_states_outside, [], []⟩
def d26 : He.DefD := ⟨("left_rows", none), "left_rows", "left_rows", defArgs s_left_rows, defBody s_left_rows, defScope s_left_rows, [], []⟩
def d27 : He.DefD := ⟨("corner_row", none), "corner_row", "corner_row", defArgs s_corner_row, defBody s_corner_row, defScope s_corner_row, [], []⟩
def d28 : He.DefD := ⟨("cleared", none), "cleared", "cleared", defArgs s_cleared, defBody s_cleared, defScope s_cleared, [], []⟩
def d29 : He.DefD := ⟨("determinant", none), "determinant", "determinant", defArgs s_determinant, defBody s_determinant, defScope s_determinant, [], []⟩
def d30 : He.DefD := ⟨("forest_row", none), "forest_row", "forest_row", defArgs s_forest_row, defBody s_forest_row, defScope s_forest_row, [.adr (He.dflAt ("forest_row", none) 0)], []⟩
def d31 : He.DefD := ⟨("coming_row", none), "coming_row", "coming_row", defArgs s_coming_row, defBody s_coming_row, defScope s_coming_row, [], []⟩
def d32 : He.DefD := ⟨("push_rows", none), "push_rows", "push_rows", defArgs s_push_rows, defBody s_push_rows, defScope s_push_rows, [], []⟩
def d33 : He.DefD := ⟨("_law_int", none), "_law_int", "_law_int", defArgs s_int, defBody s_int, defScope s_int, [], []⟩
def d34 : He.DefD := ⟨("_law_ints", none), "_law_ints", "_law_ints", defArgs s_ints, defBody s_ints, defScope s_ints, [], []⟩
def d35 : He.DefD := ⟨("_law_rows_kind", none), "_law_rows_kind", "_law_rows_kind", defArgs s_rows_kind, defBody s_rows_kind, defScope s_rows_kind, [], []⟩
def d36 : He.DefD := ⟨("_law_weighed", none), "_law_weighed", "_law_weighed", defArgs s_weighed, defBody s_weighed, defScope s_weighed, [], []⟩
def d37 : He.DefD := ⟨("two_sized", none), "two_sized", "two_sized", defArgs s_two_sized, defBody s_two_sized, defScope s_two_sized, [], []⟩
def d38 : He.DefD := ⟨("some_states_of", none), "some_states_of", "some_states_of", defArgs s_some_states_of, defBody s_some_states_of, defScope s_some_states_of, [], []⟩
def d39 : He.DefD := ⟨("forest_sum", none), "forest_sum", "forest_sum", defArgs s_forest_sum, defBody s_forest_sum, defScope s_forest_sum, [], []⟩
def d40 : He.DefD := ⟨("tree_sum", none), "tree_sum", "tree_sum", defArgs s_tree_sum, defBody s_tree_sum, defScope s_tree_sum, [], []⟩
def d41 : He.DefD := ⟨("ratio_gap", none), "ratio_gap", "ratio_gap", defArgs s_ratio_gap, defBody s_ratio_gap, defScope s_ratio_gap, [], []⟩
def d42 : He.DefD := ⟨("_law_gaps_right", none), "_law_gaps_right", "_law_gaps_right", defArgs s_gaps_right, defBody s_gaps_right, defScope s_gaps_right, [], []⟩
def d43 : He.DefD := ⟨("_law_push", none), "_law_push", "_law_push", defArgs s_lw_push, defBody s_lw_push, defScope s_lw_push, [], []⟩
def d44 : He.DefD := ⟨("long_past", none), "long_past", "long_past", defArgs s_long_past, defBody s_long_past, defScope s_long_past, [], []⟩
def d45 : He.DefD := ⟨("share_push", none), "share_push", "share_push", defArgs s_share_push, defBody s_share_push, defScope s_share_push, [], []⟩
def d46 : He.DefD := ⟨("share_pushes", none), "share_pushes", "share_pushes", defArgs s_share_pushes, defBody s_share_pushes, defScope s_share_pushes, [], []⟩
def d47 : He.DefD := ⟨("_law_by_shares", none), "_law_by_shares", "_law_by_shares", defArgs s_by_shares, defBody s_by_shares, defScope s_by_shares, [], []⟩
def d48 : He.DefD := ⟨("_law_by_forests", none), "_law_by_forests", "_law_by_forests", defArgs s_by_forests, defBody s_by_forests, defScope s_by_forests, [], []⟩
def d49 : He.DefD := ⟨("push", none), "push", "push", defArgs s_push, defBody s_push, defScope s_push, [], []⟩
def d50 : He.DefD := ⟨("_law_three_right", none), "_law_three_right", "_law_three_right", defArgs s_three_right, defBody s_three_right, defScope s_three_right, [], []⟩
def d51 : He.DefD := ⟨("law", none), "law", "law", defArgs s_law, defBody s_law, defScope s_law, [], []⟩
def d52 : He.DefD := ⟨("Table", some "__init__"), "__init__", "Table.__init__", defArgs s_Table_init, defBody s_Table_init, defScope s_Table_init, [], []⟩
def fn_0 : List He.DefD := [d0, d1, d2, d3, d4, d5, d6, d7, d8, d9, d10, d11, d12, d13, d14, d15, d16, d17, d18, d19, d20, d21, d22, d23, d24, d25, d26, d27, d28, d29]
def fn_1 : List He.DefD := [d30, d31, d32, d33, d34, d35, d36, d37, d38, d39, d40, d41, d42, d43, d44, d45, d46, d47, d48, d49, d50, d51, d52]
def fn : List He.DefD := fn_0 ++ fn_1
def fa_0 : List He.Fa := [.free "all", .free "bool", .free "enumerate", .free "int", .free "isinstance", .free "len", .free "list", .free "max", .free "min", .free "range", .free "sorted", .free "sum", .free "tuple", .int "LEAST_SIZE" 2, .int "MOST_SIZE" 8, .glo "_law_draws", .glo "_law_take", .glo "_law_empty", .glo "_law_rate", .glo "_law_hung_grid", .glo "_law_lots_grid", .glo "_law_cross_grid", .glo "_law_ring_grid", .glo "_law_moved", .glo "_law_grid", .glo "_law_loose", .glo "_law_same_shape", .glo "_law_copy", .glo "is_int", .glo "table_rows"]
def fa_1 : List He.Fa := [.glo "arrows_of", .glo "_law_pair", .glo "_law_lead", .glo "_law_forests", .glo "_law_weight", .glo "_law_sum", .glo "_law_tree_row", .glo "is_state", .glo "check_states", .glo "states_of", .glo "states_outside", .glo "left_rows", .glo "corner_row", .glo "cleared", .glo "determinant", .glo "forest_row", .glo "coming_row", .glo "push_rows", .glo "_law_int", .glo "_law_ints", .glo "_law_rows_kind", .glo "_law_weighed", .glo "two_sized", .glo "some_states_of", .glo "forest_sum", .glo "tree_sum", .glo "ratio_gap", .glo "_law_gaps_right", .glo "_law_push", .glo "long_past"]
def fa_2 : List He.Fa := [.glo "share_push", .glo "share_pushes", .glo "_law_by_shares", .glo "_law_by_forests", .glo "push", .glo "_law_three_right", .glo "law", .cls "Table", .noat "Table" "rows", .noat "Table" "size", .noat "Table" "_arrows", .glo "Table", .mkr "Table"]
def fa : List He.Fa := fa_0 ++ fa_1 ++ fa_2
def em : List (Str × Nat) := [("check_states", 0), ("forest_row", 0)]
def names_0 : List PySem.Str := ["_wall", "__name__", "ChainError", "BadNumber", "BadState", "SameState", "BadSet", "BadTable", "OtherSize", "is_int", "is_state", "is_pair", "states_of", "some_states_of", "check_states", "corner_row", "cleared", "determinant", "left_rows", "states_outside", "forest_sum", "forest_row", "coming_row", "LEAST_SIZE", "MOST_SIZE", "table_rows", "arrows_of", "added_rows", "scaled_rows", "turned_rows"]
def names_1 : List PySem.Str := ["Table", "tree_sum", "long_past", "push", "push_rows", "share_push", "share_pushes", "two_sized", "ratio_gap", "_law_draws", "_law_take", "_law_empty", "_law_copy", "_law_rate", "_law_ring_grid", "_law_hung_grid", "_law_lots_grid", "_law_cross_grid", "_law_moved", "_law_grid", "_law_same_shape", "_law_loose", "_law_pair", "_law_int", "_law_ints", "_law_lead", "_law_forests", "_law_weight", "_law_sum", "_law_tree_row"]
def names_2 : List PySem.Str := ["_law_push", "_law_rows_kind", "_law_weighed", "_law_gaps_right", "_law_by_shares", "_law_three_right", "_law_by_forests"]
def names : List PySem.Str := names_0 ++ names_1 ++ names_2
abbrev R : PySem.W.OpenRow := PySem.W.OpenLaw.row PySem.Challenge.rw_lastingshares_k18_either_pushes_tell_one
abbrev hk : PySem.W.Hook := hookX 5 fa fn em
def ob (s : PySem.W.SharedT) : AlX := obsX 5 fa fn em (HandSHeadRun.getT s)
theorem ob_eq (s : PySem.W.SharedT) : ob s = hk.obs s.abs := obsX_eq (HandSHeadRun.getT_eq s)
set_option maxHeartbeats 0 in
theorem run (w : World) : HandSHeadRun.RunEq R (PySem.W.view R.prog [76]) hk ob 6000 names w := by
  intro os
  kernel_rfl
theorem top_of {K : PySem.W.Frag} {h : Heap} {mg : Str → Option Value} (X : K.In h) (G : h.Ns mainGlobals mg) (c : He.SaysD fa fn K) (e : emB em K = true) : LK.Top K mg (He.ga K "Table") (He.dflAt ("check_states", none) 0 K) (He.dflAt ("forest_row", none) 0 K) := by
  have ce : ∀ (i : Nat) {p : Str × Nat}, em[i]? = some p → emptyB K (He.dflAt (p.1, none) p.2 K) = true := fun i p hi => List.all_eq_true.mp e p (List.mem_of_getElem? hi)
  exact ⟨He.free_ok X G (c.fact 0 (f := .free "all") rfl),
    He.free_ok X G (c.fact 1 (f := .free "bool") rfl),
    He.free_ok X G (c.fact 2 (f := .free "enumerate") rfl),
    He.free_ok X G (c.fact 3 (f := .free "int") rfl),
    He.free_ok X G (c.fact 4 (f := .free "isinstance") rfl),
    He.free_ok X G (c.fact 5 (f := .free "len") rfl),
    He.free_ok X G (c.fact 6 (f := .free "list") rfl),
    He.free_ok X G (c.fact 7 (f := .free "max") rfl),
    He.free_ok X G (c.fact 8 (f := .free "min") rfl),
    He.free_ok X G (c.fact 9 (f := .free "range") rfl),
    He.free_ok X G (c.fact 10 (f := .free "sorted") rfl),
    He.free_ok X G (c.fact 11 (f := .free "sum") rfl),
    He.free_ok X G (c.fact 12 (f := .free "tuple") rfl),
    He.int_ok X G (c.fact 13 (f := .int "LEAST_SIZE" 2) rfl),
    He.int_ok X G (c.fact 14 (f := .int "MOST_SIZE" 8) rfl),
    has_of (He.glo_ok X G (c.fact 15 (f := .glo "_law_draws") rfl)) (c.def_ 0 (d := d0) rfl),
    has_of (He.glo_ok X G (c.fact 16 (f := .glo "_law_take") rfl)) (c.def_ 1 (d := d1) rfl),
    has_of (He.glo_ok X G (c.fact 17 (f := .glo "_law_empty") rfl)) (c.def_ 2 (d := d2) rfl),
    has_of (He.glo_ok X G (c.fact 18 (f := .glo "_law_rate") rfl)) (c.def_ 3 (d := d3) rfl),
    has_of (He.glo_ok X G (c.fact 19 (f := .glo "_law_hung_grid") rfl)) (c.def_ 4 (d := d4) rfl),
    has_of (He.glo_ok X G (c.fact 20 (f := .glo "_law_lots_grid") rfl)) (c.def_ 5 (d := d5) rfl),
    has_of (He.glo_ok X G (c.fact 21 (f := .glo "_law_cross_grid") rfl)) (c.def_ 6 (d := d6) rfl),
    has_of (He.glo_ok X G (c.fact 22 (f := .glo "_law_ring_grid") rfl)) (c.def_ 7 (d := d7) rfl),
    has_of (He.glo_ok X G (c.fact 23 (f := .glo "_law_moved") rfl)) (c.def_ 8 (d := d8) rfl),
    has_of (He.glo_ok X G (c.fact 24 (f := .glo "_law_grid") rfl)) (c.def_ 9 (d := d9) rfl),
    has_of (He.glo_ok X G (c.fact 25 (f := .glo "_law_loose") rfl)) (c.def_ 10 (d := d10) rfl),
    has_of (He.glo_ok X G (c.fact 26 (f := .glo "_law_same_shape") rfl)) (c.def_ 11 (d := d11) rfl),
    has_of (He.glo_ok X G (c.fact 27 (f := .glo "_law_copy") rfl)) (c.def_ 12 (d := d12) rfl),
    has_of (He.glo_ok X G (c.fact 28 (f := .glo "is_int") rfl)) (c.def_ 13 (d := d13) rfl),
    has_of (He.glo_ok X G (c.fact 29 (f := .glo "table_rows") rfl)) (c.def_ 14 (d := d14) rfl),
    has_of (He.glo_ok X G (c.fact 30 (f := .glo "arrows_of") rfl)) (c.def_ 15 (d := d15) rfl),
    has_of (He.glo_ok X G (c.fact 31 (f := .glo "_law_pair") rfl)) (c.def_ 16 (d := d16) rfl),
    has_of (He.glo_ok X G (c.fact 32 (f := .glo "_law_lead") rfl)) (c.def_ 17 (d := d17) rfl),
    has_of (He.glo_ok X G (c.fact 33 (f := .glo "_law_forests") rfl)) (c.def_ 18 (d := d18) rfl),
    has_of (He.glo_ok X G (c.fact 34 (f := .glo "_law_weight") rfl)) (c.def_ 19 (d := d19) rfl),
    has_of (He.glo_ok X G (c.fact 35 (f := .glo "_law_sum") rfl)) (c.def_ 20 (d := d20) rfl),
    has_of (He.glo_ok X G (c.fact 36 (f := .glo "_law_tree_row") rfl)) (c.def_ 21 (d := d21) rfl),
    has_of (He.glo_ok X G (c.fact 37 (f := .glo "is_state") rfl)) (c.def_ 22 (d := d22) rfl),
    hasD_of (He.glo_ok X G (c.fact 38 (f := .glo "check_states") rfl)) (c.def_ 23 (d := d23) rfl),
    empty_of (ce 0 (p := ("check_states", 0)) rfl),
    has_of (He.glo_ok X G (c.fact 39 (f := .glo "states_of") rfl)) (c.def_ 24 (d := d24) rfl),
    has_of (He.glo_ok X G (c.fact 40 (f := .glo "states_outside") rfl)) (c.def_ 25 (d := d25) rfl),
    has_of (He.glo_ok X G (c.fact 41 (f := .glo "left_rows") rfl)) (c.def_ 26 (d := d26) rfl),
    has_of (He.glo_ok X G (c.fact 42 (f := .glo "corner_row") rfl)) (c.def_ 27 (d := d27) rfl),
    has_of (He.glo_ok X G (c.fact 43 (f := .glo "cleared") rfl)) (c.def_ 28 (d := d28) rfl),
    has_of (He.glo_ok X G (c.fact 44 (f := .glo "determinant") rfl)) (c.def_ 29 (d := d29) rfl),
    hasD_of (He.glo_ok X G (c.fact 45 (f := .glo "forest_row") rfl)) (c.def_ 30 (d := d30) rfl),
    empty_of (ce 1 (p := ("forest_row", 0)) rfl),
    has_of (He.glo_ok X G (c.fact 46 (f := .glo "coming_row") rfl)) (c.def_ 31 (d := d31) rfl),
    has_of (He.glo_ok X G (c.fact 47 (f := .glo "push_rows") rfl)) (c.def_ 32 (d := d32) rfl),
    has_of (He.glo_ok X G (c.fact 48 (f := .glo "_law_int") rfl)) (c.def_ 33 (d := d33) rfl),
    has_of (He.glo_ok X G (c.fact 49 (f := .glo "_law_ints") rfl)) (c.def_ 34 (d := d34) rfl),
    has_of (He.glo_ok X G (c.fact 50 (f := .glo "_law_rows_kind") rfl)) (c.def_ 35 (d := d35) rfl),
    has_of (He.glo_ok X G (c.fact 51 (f := .glo "_law_weighed") rfl)) (c.def_ 36 (d := d36) rfl),
    has_of (He.glo_ok X G (c.fact 52 (f := .glo "two_sized") rfl)) (c.def_ 37 (d := d37) rfl),
    has_of (He.glo_ok X G (c.fact 53 (f := .glo "some_states_of") rfl)) (c.def_ 38 (d := d38) rfl),
    has_of (He.glo_ok X G (c.fact 54 (f := .glo "forest_sum") rfl)) (c.def_ 39 (d := d39) rfl),
    has_of (He.glo_ok X G (c.fact 55 (f := .glo "tree_sum") rfl)) (c.def_ 40 (d := d40) rfl),
    has_of (He.glo_ok X G (c.fact 56 (f := .glo "ratio_gap") rfl)) (c.def_ 41 (d := d41) rfl),
    has_of (He.glo_ok X G (c.fact 57 (f := .glo "_law_gaps_right") rfl)) (c.def_ 42 (d := d42) rfl),
    has_of (He.glo_ok X G (c.fact 58 (f := .glo "_law_push") rfl)) (c.def_ 43 (d := d43) rfl),
    has_of (He.glo_ok X G (c.fact 59 (f := .glo "long_past") rfl)) (c.def_ 44 (d := d44) rfl),
    has_of (He.glo_ok X G (c.fact 60 (f := .glo "share_push") rfl)) (c.def_ 45 (d := d45) rfl),
    has_of (He.glo_ok X G (c.fact 61 (f := .glo "share_pushes") rfl)) (c.def_ 46 (d := d46) rfl),
    has_of (He.glo_ok X G (c.fact 62 (f := .glo "_law_by_shares") rfl)) (c.def_ 47 (d := d47) rfl),
    has_of (He.glo_ok X G (c.fact 63 (f := .glo "_law_by_forests") rfl)) (c.def_ 48 (d := d48) rfl),
    has_of (He.glo_ok X G (c.fact 64 (f := .glo "push") rfl)) (c.def_ 49 (d := d49) rfl),
    has_of (He.glo_ok X G (c.fact 65 (f := .glo "_law_three_right") rfl)) (c.def_ 50 (d := d50) rfl),
    has_of (He.glo_ok X G (c.fact 66 (f := .glo "law") rfl)) (c.def_ 51 (d := d51) rfl),
    He.cls_ok (c.fact 67 (f := .cls "Table") rfl),
    He.noat_ok (c.fact 68 (f := .noat "Table" "rows") rfl),
    He.noat_ok (c.fact 69 (f := .noat "Table" "size") rfl),
    He.noat_ok (c.fact 70 (f := .noat "Table" "_arrows") rfl),
    mk_of (He.glo_ok X G (c.fact 71 (f := .glo "Table") rfl)) (He.mkr_ok (c.fact 72 (f := .mkr "Table") rfl)) (c.def_ 52 (d := d52) rfl)⟩
end LH
set_option Elab.async false
set_option linter.all false
set_option maxRecDepth 100000
set_option maxHeartbeats 4000000
/-! Ma1: determinants by rows (any labels) and columns (functions of the label). -/
namespace MT
section
variable {ρ : Type}
abbrev Co (ρ : Type) := ρ → Int
/-- expansion along the row u: f is the determinant of the rest -/
def E (u : ρ) : (List (Co ρ) → Int) → List (Co ρ) → Int
  | _, [] => 0
  | f, c :: l => c u * f l - E u (fun l' => f (c :: l')) l
def base : List (Co ρ) → Int
  | [] => 1
  | _ :: _ => 0
def det : List ρ → List (Co ρ) → Int
  | [] => base
  | u :: us => E u (det us)
theorem E_lin (u : ρ) (a b : Int) : ∀ (l : List (Co ρ)) (f g : List (Co ρ) → Int), E u (fun l => a * f l + b * g l) l = a * E u f l + b * E u g l
  | [], f, g => by simp [E]
  | c :: l, f, g => by
    have h := E_lin u a b l (fun l' => f (c :: l')) (fun l' => g (c :: l'))
    simp only [E]
    rw [h]; grind
theorem E_neg (u : ρ) (f : List (Co ρ) → Int) (l : List (Co ρ)) : E u (fun l => - f l) l = - E u f l := by
  have h := E_lin u (-1) 0 l f f
  have e : (fun l => -1 * f l + 0 * f l) = fun l : List (Co ρ) => - f l := by funext l; grind
  rw [e] at h; rw [h]; grind
theorem E_zero (u : ρ) (l : List (Co ρ)) : E u (fun _ => 0) l = 0 := by
  have h := E_lin u 0 0 l (fun _ => 0) (fun _ => 0)
  have e : (fun l : List (Co ρ) => (0 : Int) * (fun _ => (0 : Int)) l + 0 * (fun _ => (0 : Int)) l) = fun _ => 0 := by funext l; grind
  rw [e] at h; rw [h]; grind
theorem E_sub (u : ρ) (l : List (Co ρ)) (f g : List (Co ρ) → Int) (a : Int) : E u (fun l => a * f l - g l) l = a * E u f l - E u g l := by
  have h := E_lin u a (-1) l f g
  have e : (fun l => a * f l + -1 * g l) = fun l : List (Co ρ) => a * f l - g l := by funext l; grind
  rw [e] at h; rw [h]; grind
/-- two rows change places -/
theorem E_anti (u v : ρ) : ∀ (l : List (Co ρ)) (f : List (Co ρ) → Int), E u (E v f) l = - E v (E u f) l
  | [], f => by simp [E]
  | c :: l, f => by
    have h := E_anti u v l (fun l' => f (c :: l'))
    have h1 := E_sub u l f (E v fun l'' => f (c :: l'')) (c v)
    have h2 := E_sub v l f (E u fun l'' => f (c :: l'')) (c u)
    show c u * E v f l - E u (fun l' => c v * f l' - E v (fun l'' => f (c :: l'')) l') l = - (c v * E u f l - E v (fun l' => c u * f l' - E u (fun l'' => f (c :: l'')) l') l)
    rw [h1, h2, h]; grind
theorem E_same (u : ρ) (f : List (Co ρ) → Int) (l : List (Co ρ)) : E u (E u f) l = 0 := by
  have h := E_anti u u l f
  omega
theorem E_congr (u : ρ) {f g : List (Co ρ) → Int} (h : ∀ l, f l = g l) (l : List (Co ρ)) : E u f l = E u g l := by
  have e : f = g := funext h
  rw [e]
theorem det_swap (u v : ρ) : ∀ (us vs : List ρ) (l : List (Co ρ)), det (us ++ u :: v :: vs) l = - det (us ++ v :: u :: vs) l
  | [], vs, l => E_anti u v l (det vs)
  | w :: us, vs, l => by
    show E w (det (us ++ u :: v :: vs)) l = - E w (det (us ++ v :: u :: vs)) l
    rw [E_congr w (fun l => det_swap u v us vs l), E_neg]
theorem det_rep {s : ρ} : ∀ {S : List ρ} (l : List (Co ρ)), s ∈ S → det (s :: S) l = 0
  | [], l, h => by simp at h
  | t :: S, l, h => by
    rcases List.mem_cons.mp h with e | h
    · subst e; exact E_same s (det S) l
    · show E s (E t (det S)) l = 0
      rw [E_anti, E_congr t (f := E s (det S)) (g := fun _ => 0) (fun l => det_rep (s := s) l h), E_zero]; rfl
/-- columns: alternating and linear -/
def Alt (f : List (Co ρ) → Int) : Prop := ∀ l1 c d l2, f (l1 ++ c :: d :: l2) = - f (l1 ++ d :: c :: l2)
def Lin (f : List (Co ρ) → Int) : Prop := ∀ l1 c d l2 (a b : Int), f (l1 ++ (fun r => a * c r + b * d r) :: l2) = a * f (l1 ++ c :: l2) + b * f (l1 ++ d :: l2)
theorem Alt.cons {f : List (Co ρ) → Int} (h : Alt f) (a : Co ρ) : Alt (fun l => f (a :: l)) := fun l1 c d l2 => h (a :: l1) c d l2
theorem Lin.cons {f : List (Co ρ) → Int} (h : Lin f) (a : Co ρ) : Lin (fun l => f (a :: l)) := fun l1 c d l2 => h (a :: l1) c d l2
theorem E_alt (u : ρ) : ∀ {l1 : List (Co ρ)} {f : List (Co ρ) → Int} (c d : Co ρ) (l2 : List (Co ρ)), Alt f → E u f (l1 ++ c :: d :: l2) = - E u f (l1 ++ d :: c :: l2)
  | [], f, c, d, l2, h => by
    have e := E_congr u (f := fun l => f (c :: d :: l)) (g := fun l => - f (d :: c :: l)) (fun l => h [] c d l) l2
    rw [E_neg] at e
    show c u * f (d :: l2) - (d u * f (c :: l2) - E u (fun l => f (c :: d :: l)) l2) = - (d u * f (c :: l2) - (c u * f (d :: l2) - E u (fun l => f (d :: c :: l)) l2))
    rw [e]; grind
  | a :: l1, f, c, d, l2, h => by
    have e := E_alt u (l1 := l1) c d l2 (h.cons a)
    show a u * f (l1 ++ c :: d :: l2) - E u (fun l => f (a :: l)) (l1 ++ c :: d :: l2) = - (a u * f (l1 ++ d :: c :: l2) - E u (fun l => f (a :: l)) (l1 ++ d :: c :: l2))
    rw [e, h l1 c d l2]; grind
theorem E_linC (u : ρ) : ∀ {l1 : List (Co ρ)} {f : List (Co ρ) → Int} (c d : Co ρ) (l2 : List (Co ρ)) (a b : Int), Lin f → E u f (l1 ++ (fun r => a * c r + b * d r) :: l2) = a * E u f (l1 ++ c :: l2) + b * E u f (l1 ++ d :: l2)
  | [], f, c, d, l2, a, b, h => by
    have e := E_congr u (f := fun l => f ((fun r => a * c r + b * d r) :: l)) (g := fun l => a * f (c :: l) + b * f (d :: l)) (fun l => h [] c d l a b) l2
    rw [E_lin] at e
    show (a * c u + b * d u) * f l2 - E u (fun l => f ((fun r => a * c r + b * d r) :: l)) l2 = a * (c u * f l2 - E u (fun l => f (c :: l)) l2) + b * (d u * f l2 - E u (fun l => f (d :: l)) l2)
    rw [e]; grind
  | x :: l1, f, c, d, l2, a, b, h => by
    have e := E_linC u (l1 := l1) c d l2 a b (h.cons x)
    show x u * f (l1 ++ _ :: l2) - E u (fun l => f (x :: l)) (l1 ++ _ :: l2) = a * (x u * f (l1 ++ c :: l2) - E u (fun l => f (x :: l)) (l1 ++ c :: l2)) + b * (x u * f (l1 ++ d :: l2) - E u (fun l => f (x :: l)) (l1 ++ d :: l2))
    rw [e, h l1 c d l2 a b]; grind
theorem base_app (l1 l2 : List (Co ρ)) (c : Co ρ) : base (l1 ++ c :: l2) = 0 := by cases l1 <;> rfl
theorem det_alt : ∀ us : List ρ, Alt (det us)
  | [] => fun l1 c d l2 => by
    show base (l1 ++ c :: d :: l2) = - base (l1 ++ d :: c :: l2)
    rw [base_app, base_app]; rfl
  | u :: us => fun l1 c d l2 => E_alt u c d l2 (det_alt us)
theorem det_lin : ∀ us : List ρ, Lin (det us)
  | [] => fun l1 c d l2 a b => by
    show base (l1 ++ _ :: l2) = a * base (l1 ++ c :: l2) + b * base (l1 ++ d :: l2)
    rw [base_app, base_app, base_app]; grind
  | u :: us => fun l1 c d l2 a b => E_linC u c d l2 a b (det_lin us)
theorem alt_rep {f : List (Co ρ) → Int} (h : Alt f) (c : Co ρ) : ∀ (l2 l1 l3 : List (Co ρ)), f (l1 ++ c :: (l2 ++ c :: l3)) = 0
  | [], l1, l3 => by
    have e := h l1 c c l3
    show f (l1 ++ c :: c :: l3) = 0
    omega
  | a :: l2, l1, l3 => by
    have e := alt_rep h c l2 (l1 ++ [a]) l3
    show f (l1 ++ c :: a :: (l2 ++ c :: l3)) = 0
    rw [h l1 c a]
    rw [List.append_assoc] at e
    have e' : f (l1 ++ a :: c :: (l2 ++ c :: l3)) = 0 := e
    rw [e']; rfl
/-- a column that stands elsewhere too -/
theorem alt_mem {f : List (Co ρ) → Int} (h : Alt f) {c : Co ρ} {l1 l2 : List (Co ρ)} (hc : c ∈ l1 ∨ c ∈ l2) : f (l1 ++ c :: l2) = 0 := by
  rcases hc with hc | hc
  · obtain ⟨a, b, rfl⟩ := List.append_of_mem hc
    rw [List.append_assoc]
    exact alt_rep h c b a l2
  · obtain ⟨a, b, rfl⟩ := List.append_of_mem hc
    exact alt_rep h c a l1 b
/-- a column that is a sum of others -/
theorem span0 {f : List (Co ρ) → Int} (ha : Alt f) (hl : Lin f) : ∀ (C : List (Co ρ)) (g : List (Co ρ) → Int) (l1 l2 : List (Co ρ)), (∀ c ∈ C, c ∈ l1 ∨ c ∈ l2) → f (l1 ++ (fun r => E r g C) :: l2) = 0
  | [], g, l1, l2, _ => by
    have e := hl l1 (fun _ => 0) (fun _ => 0) l2 0 0
    have z : (fun r : ρ => (0 : Int) * (fun _ => (0 : Int)) r + 0 * (fun _ => (0 : Int)) r) = fun r => E r g [] := by funext r; simp [E]
    rw [z] at e; rw [e]; grind
  | c :: C, g, l1, l2, h => by
    have e := hl l1 c (fun r => E r (fun l' => g (c :: l')) C) l2 (g C) (-1)
    have z : (fun r => g C * c r + -1 * E r (fun l' => g (c :: l')) C) = fun r => E r g (c :: C) := by funext r; simp only [E]; grind
    rw [z] at e
    rw [e, alt_mem ha (h c List.mem_cons_self), span0 ha hl C _ l1 l2 (fun c' m => h c' (List.mem_cons_of_mem _ m))]
    grind
/-- the bordered minor as a column -/
def bd (S : List ρ) (C : List (Co ρ)) (e : Co ρ) : Co ρ := fun r => det (r :: S) (e :: C)
theorem bd_eq (S : List ρ) (C : List (Co ρ)) (e : Co ρ) : bd S C e = fun r => det S C * e r + -1 * E r (fun l => det S (e :: l)) C := by
  funext r
  show e r * det S C - E r (fun l => det S (e :: l)) C = _
  grind
theorem bd_col {f : List (Co ρ) → Int} (ha : Alt f) (hl : Lin f) (S : List ρ) (C : List (Co ρ)) (e : Co ρ) (l1 l2 : List (Co ρ)) (h : ∀ c ∈ C, c ∈ l1 ∨ c ∈ l2) : f (l1 ++ bd S C e :: l2) = det S C * f (l1 ++ e :: l2) := by
  have z := hl l1 e (fun r => E r (fun l => det S (e :: l)) C) l2 (det S C) (-1)
  rw [bd_eq, z, span0 ha hl C _ l1 l2 h]; grind
theorem bd_row {S : List ρ} {C : List (Co ρ)} {e : Co ρ} {s : ρ} (h : s ∈ S) : bd S C e s = 0 := det_rep _ h
/-- a column that is 0 on all rows -/
theorem det_col0 : ∀ {S : List ρ} {x : Co ρ} {l1 l2 : List (Co ρ)}, (∀ s ∈ S, x s = 0) → det S (l1 ++ x :: l2) = 0
  | [], x, l1, l2, _ => base_app l1 l2 x
  | u :: S, x, l1, l2, h => by
    have key : ∀ (l1 : List (Co ρ)) (f : List (Co ρ) → Int), (∀ k l2, f (k ++ x :: l2) = 0) → E u f (l1 ++ x :: l2) = 0 := by
      intro l1
      induction l1 with
      | nil =>
        intro f hf
        show x u * f l2 - E u (fun l => f (x :: l)) l2 = 0
        rw [h u List.mem_cons_self, E_congr u (f := fun l => f (x :: l)) (g := fun _ => 0) (fun l => hf [] l), E_zero]; grind
      | cons a l1 ih =>
        intro f hf
        show a u * f (l1 ++ x :: l2) - E u (fun l => f (a :: l)) (l1 ++ x :: l2) = 0
        rw [hf l1 l2, ih (fun l => f (a :: l)) (fun k l2 => hf (a :: k) l2)]; grind
    exact key l1 (det S) (fun k l2 => det_col0 fun s m => h s (List.mem_cons_of_mem _ m))
/-- the step: from minors to minors one greater -/
theorem sylv {S : List ρ} {C : List (Co ρ)} (hd : det S C ≠ 0) (r u : ρ) (e c : Co ρ) : det S C * det (r :: u :: S) (e :: c :: C) = bd S C e r * bd S C c u - bd S C c r * bd S C e u := by
  have h1 := bd_col (det_alt (r :: u :: S)) (det_lin (r :: u :: S)) S C e [] (c :: C) (fun c' m => .inr (List.mem_cons_of_mem _ m))
  have h2 := bd_col (det_alt (r :: u :: S)) (det_lin (r :: u :: S)) S C c [bd S C e] C (fun c' m => .inr m)
  simp only [List.nil_append] at h1
  have h2' : det (r :: u :: S) (bd S C e :: bd S C c :: C) = det S C * det (r :: u :: S) (bd S C e :: c :: C) := h2
  rw [h1] at h2'
  -- the same, expanded
  have z : ∀ (x : Co ρ) (l : List (Co ρ)), (∀ s ∈ S, x s = 0) → det S (x :: l) = 0 := fun x l h => det_col0 (l1 := []) h
  have zx : ∀ s ∈ S, bd S C e s = 0 := fun s m => bd_row m
  have zy : ∀ s ∈ S, bd S C c s = 0 := fun s m => bd_row m
  have f1 : ∀ (x : Co ρ) (l : List (Co ρ)), (∀ s ∈ S, x s = 0) → E u (det S) (x :: l) = x u * det S l := fun x l h => by
    show x u * det S l - E u (fun l => det S (x :: l)) l = _
    rw [E_congr u (g := fun _ => 0) (fun l => z x l h), E_zero]; grind
  have e1 : det (r :: u :: S) (bd S C e :: bd S C c :: C) = (bd S C e r * bd S C c u - bd S C c r * bd S C e u) * det S C := by
    show bd S C e r * E u (det S) (bd S C c :: C) - (bd S C c r * E u (det S) (bd S C e :: C) - E r (fun l => E u (det S) (bd S C e :: bd S C c :: l)) C) = _
    rw [f1 _ _ zy, f1 _ _ zx, E_congr r (g := fun _ => 0) (fun l => by rw [f1 _ _ zx, z _ _ zy]; grind), E_zero]; grind
  rw [e1] at h2'
  have h3 : det S C * (det S C * det (r :: u :: S) (e :: c :: C)) = det S C * (bd S C e r * bd S C c u - bd S C c r * bd S C e u) := by rw [← h2']; grind
  exact Int.eq_of_mul_eq_mul_left hd h3
end
end MT
set_option Elab.async false
set_option linter.all false
set_option maxRecDepth 100000
set_option maxHeartbeats 4000000
/-! Ma2: the determinant of what is left of a table, and its columns replaced, as sums over forests. -/
namespace MT
def sm (l : List Nat) (t : Nat → Int) : Int := (l.map t).sum
theorem sm_nil (t : Nat → Int) : sm [] t = 0 := rfl
theorem sm_cons (a : Nat) (l : List Nat) (t : Nat → Int) : sm (a :: l) t = t a + sm l t := by simp [sm]
theorem sm_app (l m : List Nat) (t : Nat → Int) : sm (l ++ m) t = sm l t + sm m t := by
  induction l with
  | nil => simp [sm_nil]
  | cons a l ih => rw [List.cons_append, sm_cons, sm_cons, ih]; grind
theorem sm_congr {l : List Nat} {t s : Nat → Int} (h : ∀ a ∈ l, t a = s a) : sm l t = sm l s := by
  induction l with
  | nil => rfl
  | cons a l ih => rw [sm_cons, sm_cons, h a List.mem_cons_self, ih fun b m => h b (List.mem_cons_of_mem _ m)]
theorem sm_add (l : List Nat) (t s : Nat → Int) : sm l (fun a => t a + s a) = sm l t + sm l s := by
  induction l with
  | nil => rfl
  | cons a l ih => rw [sm_cons, sm_cons, sm_cons, ih]; grind
theorem sm_mul (l : List Nat) (t : Nat → Int) (k : Int) : sm l (fun a => t a * k) = sm l t * k := by
  induction l with
  | nil => simp [sm_nil]
  | cons a l ih => rw [sm_cons, sm_cons, ih]; grind
theorem sm_mulL (l : List Nat) (t : Nat → Int) (k : Int) : sm l (fun a => k * t a) = k * sm l t := by
  induction l with
  | nil => simp [sm_nil]
  | cons a l ih => rw [sm_cons, sm_cons, ih]; grind
theorem sm_neg (l : List Nat) (t : Nat → Int) : sm l (fun a => - t a) = - sm l t := by
  induction l with
  | nil => rfl
  | cons a l ih => rw [sm_cons, sm_cons, ih]; grind
theorem sm_zero {l : List Nat} {t : Nat → Int} (h : ∀ a ∈ l, t a = 0) : sm l t = 0 := by
  induction l with
  | nil => rfl
  | cons a l ih => rw [sm_cons, h a List.mem_cons_self, ih fun b m => h b (List.mem_cons_of_mem _ m)]; rfl
theorem sm_perm {l m : List Nat} (t : Nat → Int) (h : l.Perm m) : sm l t = sm m t := by
  induction h with
  | nil => rfl
  | cons a _ ih => rw [sm_cons, sm_cons, ih]
  | swap a b l => rw [sm_cons, sm_cons, sm_cons, sm_cons]; grind
  | trans _ _ h1 h2 => rw [h1, h2]
theorem sm_one {l : List Nat} (hn : l.Nodup) {b : Nat} (hb : b ∈ l) (k : Int) : sm l (fun a => if a = b then k else 0) = k := by
  induction l with
  | nil => simp at hb
  | cons a l ih =>
    rw [sm_cons]
    have hn' := List.nodup_cons.mp hn
    by_cases e : a = b
    · subst e
      rw [if_pos rfl, sm_zero fun c m => if_neg fun e => hn'.1 (by rw [← e]; exact m)]; grind
    · rw [if_neg e]
      rcases List.mem_cons.mp hb with h | h
      · exact absurd h.symm e
      · rw [ih hn'.2 h]; grind
/-- one column changed -/
def up {α : Type} (g : Nat → α) (w : Nat) (c : α) : Nat → α := fun v => if v = w then c else g v
theorem up_same {α : Type} {g : Nat → α} {w : Nat} {c : α} : up g w c w = c := if_pos rfl
theorem up_ne {α : Type} {g : Nat → α} {w v : Nat} {c : α} (h : v ≠ w) : up g w c v = g v := if_neg h
theorem map_up_not {α : Type} {g : Nat → α} {w : Nat} {c : α} {X : List Nat} (h : w ∉ X) : X.map (up g w c) = X.map g :=
  List.map_congr_left fun v m => up_ne fun e => h (by rw [← e]; exact m)
theorem E_move {ρ : Type} (u : ρ) (g : Nat → Co ρ) (c : Co ρ) : ∀ (X : List Nat) (f : List (Co ρ) → Int), X.Nodup → Alt f → E u (fun l => f (c :: l)) (X.map g) = sm X (fun w => g w u * f (X.map (up g w c)))
  | [], f, _, _ => rfl
  | w :: X, f, hn, ha => by
    have hn' := List.nodup_cons.mp hn
    have e := E_congr u (f := fun l => f (c :: g w :: l)) (g := fun l => - f (g w :: c :: l)) (fun l => ha [] c (g w) l) (X.map g)
    rw [E_neg, E_move u g c X (fun l => f (g w :: l)) hn'.2 (ha.cons (g w))] at e
    rw [List.map_cons, sm_cons]
    show g w u * f (c :: X.map g) - E u (fun l => f (c :: g w :: l)) (X.map g) = _
    rw [e]
    have h1 : (w :: X).map (up g w c) = c :: X.map g := by rw [List.map_cons, up_same, map_up_not hn'.1]
    have h2 : sm X (fun v => g v u * f ((w :: X).map (up g v c))) = sm X (fun v => g v u * f (g w :: X.map (up g v c))) := sm_congr fun v m => by
      rw [List.map_cons, up_ne fun e => hn'.1 (by rw [e]; exact m)]
    rw [h1, h2]; grind
/-- expansion along the first row, told by the columns replaced -/
theorem det_first {ρ : Type} (x : ρ) (X' : List ρ) (g : Nat → Co ρ) (y : Nat) (Y : List Nat) (hn : Y.Nodup) : det (x :: X') ((y :: Y).map g) = g y x * det X' (Y.map g) - sm Y (fun w => g w x * det X' (Y.map (up g w (g y)))) := by
  rw [← E_move x g (g y) Y (det X') hn (det_alt X')]; rfl
theorem det_up {ρ : Type} (us : List ρ) (g : Nat → Co ρ) (c d : Co ρ) (a b : Int) {w : Nat} {X : List Nat} (hn : X.Nodup) (hw : w ∈ X) :
    det us (X.map (up g w (fun r => a * c r + b * d r))) = a * det us (X.map (up g w c)) + b * det us (X.map (up g w d)) := by
  obtain ⟨l1, l2, rfl⟩ := List.append_of_mem hw
  have h := List.nodup_append.mp hn
  have n1 : w ∉ l1 := fun m => h.2.2 w m w List.mem_cons_self rfl
  have n2 : w ∉ l2 := (List.nodup_cons.mp h.2.1).1
  have k : ∀ c : Co ρ, (l1 ++ w :: l2).map (up g w c) = l1.map g ++ c :: l2.map g := fun c => by
    rw [List.map_append, List.map_cons, up_same, map_up_not n1, map_up_not n2]
  rw [k, k, k, det_lin us]
/-- only the entries tell -/
theorem E_ext {ρ : Type} (u : ρ) (g h : Nat → Co ρ) : ∀ (X : List Nat) (f f' : List (Co ρ) → Int), (∀ Y : List Nat, Y.Sublist X → f (Y.map g) = f' (Y.map h)) → (∀ w ∈ X, g w u = h w u) → E u f (X.map g) = E u f' (X.map h)
  | [], f, f', _, _ => rfl
  | w :: X, f, f', hf, hw => by
    show g w u * f (X.map g) - E u (fun l => f (g w :: l)) (X.map g) = h w u * f' (X.map h) - E u (fun l => f' (h w :: l)) (X.map h)
    rw [hf X (List.sublist_cons_self w X), hw w List.mem_cons_self, E_ext u g h X (fun l => f (g w :: l)) (fun l => f' (h w :: l)) (fun Y hY => hf (w :: Y) (hY.cons_cons w)) (fun v m => hw v (List.mem_cons_of_mem _ m))]
theorem det_ext {ρ : Type} : ∀ (us : List ρ) (g h : Nat → Co ρ) (X : List Nat), (∀ u ∈ us, ∀ w ∈ X, g w u = h w u) → det us (X.map g) = det us (X.map h)
  | [], g, h, X, _ => by cases X <;> rfl
  | u :: us, g, h, X, k => E_ext u g h X (det us) (det us) (fun Y hY => det_ext us g h Y fun v m w m2 => k v (List.mem_cons_of_mem _ m) w (hY.subset m2)) (fun w m => k u List.mem_cons_self w m)

/-! ### what is left of a table -/
abbrev Gr := Nat → Nat → Int
def dg (A : Gr) (V : List Nat) (u : Nat) : Int := sm V (fun y => if y = u then 0 else A u y)
def lc (A : Gr) (V : List Nat) (w : Nat) : Co Nat := fun u => if u = w then dg A V u else - A u w
def mg (A : Gr) (x y : Nat) : Gr := fun u v => if v = y then A u y + A u x else A u v
theorem dg_mg {A : Gr} {x y u : Nat} {V : List Nat} (hn : (x :: V).Nodup) (hy : y ∈ V) (hu : u ≠ x) (huy : u ≠ y) : dg (mg A x y) V u = dg A (x :: V) u := by
  unfold dg
  rw [sm_cons, if_neg hu.symm]
  have h : ∀ v ∈ V, (if v = u then 0 else mg A x y u v) = (if v = u then 0 else A u v) + (if v = y then A u x else 0) := fun v m => by
    unfold mg
    by_cases e : v = y
    · subst e
      rw [if_neg huy.symm, if_pos rfl, if_neg huy.symm, if_pos rfl]
    · rw [if_neg e, if_neg e]; grind
  rw [sm_congr h, sm_add, sm_one (List.nodup_cons.mp hn).2 hy]; grind
theorem dg_mg_self {A : Gr} {x y : Nat} {V : List Nat} (hn : (x :: V).Nodup) (hy : y ∈ V) : dg (mg A x y) V y = dg A (x :: V) y - A y x := by
  have hxy : x ≠ y := fun e => (List.nodup_cons.mp hn).1 (by rw [e]; exact hy)
  unfold dg
  rw [sm_cons, if_neg hxy]
  have h : ∀ v ∈ V, (if v = y then 0 else mg A x y y v) = (if v = y then 0 else A y v) := fun v m => by
    unfold mg
    by_cases e : v = y
    · rw [if_pos e, if_pos e]
    · rw [if_neg e, if_neg e, if_neg e]
  rw [sm_congr h]; grind
theorem dg_out {A : Gr} {x : Nat} {V : List Nat} (hx : x ∉ V) : dg A (x :: V) x = sm V (A x) := by
  unfold dg
  rw [sm_cons, if_pos rfl, sm_congr (s := A x) fun v m => if_neg fun e => hx (by rw [← e]; exact m)]; grind
def D (A : Gr) (X R : List Nat) : Int := det X (X.map (lc A (X ++ R)))
def T (A : Gr) (X R : List Nat) (v c : Nat) : Int := det X (X.map (up (lc A (X ++ R)) v (fun u => A u c)))
section
variable {A : Gr} {x y v c : Nat} {X R : List Nat}
/-- entries behind a merge into y: columns of y apart -/
theorem lc_mg (hn : (x :: (X ++ R)).Nodup) (hy : y ∈ X ++ R) {u w : Nat} (hu : u ∈ X) (hw : w ∈ X) (hwy : w ≠ y) : lc (mg A x y) (X ++ R) w u = lc A (x :: (X ++ R)) w u := by
  have hux : u ≠ x := fun e => (List.nodup_cons.mp hn).1 (by rw [← e]; exact List.mem_append_left _ hu)
  unfold lc
  by_cases e : u = w
  · rw [if_pos e, if_pos e]
    subst e
    exact dg_mg hn hy hux hwy
  · rw [if_neg e, if_neg e]
    unfold mg
    rw [if_neg hwy]
theorem lc_mg_self (hn : (x :: (X ++ R)).Nodup) {u w : Nat} (hu : u ∈ X) (hw : w ∈ X) : lc (mg A x w) (X ++ R) w u = 1 * lc A (x :: (X ++ R)) w u + 1 * lc A (x :: (X ++ R)) x u := by
  have hux : u ≠ x := fun e => (List.nodup_cons.mp hn).1 (by rw [← e]; exact List.mem_append_left _ hu)
  unfold lc
  rw [if_neg hux]
  by_cases e : u = w
  · rw [if_pos e, if_pos e]
    subst e
    rw [dg_mg_self hn (List.mem_append_left _ hu)]; grind
  · rw [if_neg e, if_neg e]
    unfold mg
    rw [if_pos rfl]; grind
theorem D_rec (hn : (x :: (X ++ R)).Nodup) : D A (x :: X) R = sm (X ++ R) (fun y => A x y * D (mg A x y) X R) := by
  have hx := (List.nodup_cons.mp hn).1
  have hX : X.Nodup := (List.nodup_append.mp (List.nodup_cons.mp hn).2).1
  have hd := (List.nodup_append.mp (List.nodup_cons.mp hn).2).2.2
  have hxX : x ∉ X := fun m => hx (List.mem_append_left _ m)
  unfold D
  rw [det_first x X (lc A (x :: X ++ R)) x X hX]
  rw [List.cons_append]
  have h0 : lc A (x :: (X ++ R)) x x = sm (X ++ R) (A x) := by
    unfold lc; rw [if_pos rfl, dg_out hx]
  have h1 : ∀ w ∈ X, lc A (x :: (X ++ R)) w x = - A x w := fun w m => by
    unfold lc; rw [if_neg fun e => hxX (by rw [e]; exact m)]
  rw [h0, sm_app, sm_app]
  have hr : ∀ y ∈ R, A x y * det X (X.map (lc (mg A x y) (X ++ R))) = A x y * det X (X.map (lc A (x :: (X ++ R)))) := fun y m => by
    rw [det_ext X _ _ X fun u hu w hw => lc_mg hn (List.mem_append_right _ m) hu hw fun e => hd w hw y m e]
  have hl : ∀ w ∈ X, A x w * det X (X.map (lc (mg A x w) (X ++ R))) = A x w * det X (X.map (lc A (x :: (X ++ R)))) + - (lc A (x :: (X ++ R)) w x * det X (X.map (up (lc A (x :: (X ++ R))) w (lc A (x :: (X ++ R)) x)))) := fun w m => by
    have e1 : det X (X.map (lc (mg A x w) (X ++ R))) = det X (X.map (up (lc A (x :: (X ++ R))) w (fun r => 1 * lc A (x :: (X ++ R)) w r + 1 * lc A (x :: (X ++ R)) x r))) := det_ext X _ _ X fun u hu z hz => by
      by_cases e : z = w
      · subst e; rw [up_same]; exact lc_mg_self hn hu hz
      · rw [up_ne e]; exact lc_mg hn (List.mem_append_left _ m) hu hz e
    have e2 : up (lc A (x :: (X ++ R))) w (lc A (x :: (X ++ R)) w) = lc A (x :: (X ++ R)) := by
      funext z; unfold up; by_cases e : z = w
      · rw [if_pos e, e]
      · rw [if_neg e]
    rw [e1, det_up X _ _ _ 1 1 hX m, e2, h1 w m]; grind
  rw [sm_congr hr, sm_congr hl, sm_add, sm_mul, sm_mul, sm_neg]; grind
theorem T_rec_ne (hn : (x :: (X ++ R)).Nodup) (hv : v ∈ X) (hc : c ∈ R) : T A (x :: X) R v c = sm (X ++ R) (fun y => A x y * T (mg A x y) X R v c) := by
  have hx := (List.nodup_cons.mp hn).1
  have hXR := List.nodup_append.mp (List.nodup_cons.mp hn).2
  have hX : X.Nodup := hXR.1
  have hR : R.Nodup := hXR.2.1
  have hd := hXR.2.2
  have hxX : x ∉ X := fun m => hx (List.mem_append_left _ m)
  have hxv : x ≠ v := fun e => hxX (by rw [e]; exact hv)
  have hxc : x ≠ c := fun e => hx (by rw [e]; exact List.mem_append_right _ hc)
  unfold T
  rw [det_first x X _ x X hX]
  rw [List.cons_append]
  generalize hL : lc A (x :: (X ++ R)) = L
  generalize hb : (fun u => A u c : Co Nat) = b
  have hL' : ∀ w u, L w u = lc A (x :: (X ++ R)) w u := fun w u => by rw [hL]
  have gx : up L v b x = L x := up_ne hxv
  have h0 : up L v b x x = sm (X ++ R) (A x) := by
    rw [gx, hL']; unfold lc; rw [if_pos rfl, dg_out hx]
  have h1 : ∀ w ∈ X, w ≠ v → up L v b w x = - A x w := fun w m e => by
    rw [up_ne e, hL']; unfold lc; rw [if_neg fun e => hxX (by rw [e]; exact m)]
  have h2 : up L v b v x = A x c := by rw [up_same, ← hb]
  have Lx : ∀ u ∈ X, L x u = - A u x := fun u hu => by
    rw [hL']; unfold lc; rw [if_neg fun e => hxX (by rw [← e]; exact hu)]
  rw [h0, gx, sm_app, sm_app]
  -- what the columns are behind a merge
  have hr : ∀ y ∈ R, A x y * det X (X.map (up (lc (mg A x y) (X ++ R)) v (fun u => mg A x y u c))) = A x y * det X (X.map (up L v b)) + (if y = c then - (A x c * det X (X.map (up (up L v b) v (L x)))) else 0) := fun y m => by
    have hyv : v ≠ y := fun e => hd v hv y m e
    by_cases e : y = c
    · subst e
      rw [if_pos rfl]
      have e1 : det X (X.map (up (lc (mg A x y) (X ++ R)) v (fun u => mg A x y u y))) = det X (X.map (up (up L v b) v (fun r => 1 * b r + (-1) * L x r))) := det_ext X _ _ X fun u hu z hz => by
        by_cases e : z = v
        · subst e
          rw [up_same, up_same, Lx u hu, ← hb]
          show mg A x y u y = _
          unfold mg; rw [if_pos rfl]; grind
        · rw [up_ne e, up_ne e, up_ne e, hL']; exact lc_mg hn (List.mem_append_right _ m) hu hz fun e => hd z hz y m e
      have e3 : up (up L v b) v b = up L v b := by
        funext z; unfold up; by_cases e : z = v
        · rw [if_pos e, if_pos e]
        · rw [if_neg e]
      rw [e1, det_up X _ _ _ 1 (-1) hX hv, e3]; grind
    · rw [if_neg e]
      have e1 : det X (X.map (up (lc (mg A x y) (X ++ R)) v (fun u => mg A x y u c))) = det X (X.map (up L v b)) := det_ext X _ _ X fun u hu z hz => by
        by_cases e' : z = v
        · subst e'
          rw [up_same, up_same, ← hb]
          show mg A x y u c = _
          unfold mg; rw [if_neg fun e' => e e'.symm]
        · rw [up_ne e', up_ne e', hL']; exact lc_mg hn (List.mem_append_right _ m) hu hz fun e => hd z hz y m e
      rw [e1]; grind
  have hl : ∀ w ∈ X, A x w * det X (X.map (up (lc (mg A x w) (X ++ R)) v (fun u => mg A x w u c))) = A x w * det X (X.map (up L v b)) + (if w = v then 0 else - (up L v b w x * det X (X.map (up (up L v b) w (L x))))) := fun w m => by
    have hwc : c ≠ w := fun e => hd w m c hc e.symm
    by_cases e : w = v
    · subst e
      rw [if_pos rfl]
      have e1 : det X (X.map (up (lc (mg A x w) (X ++ R)) w (fun u => mg A x w u c))) = det X (X.map (up L w b)) := det_ext X _ _ X fun u hu z hz => by
        by_cases e' : z = w
        · subst e'
          rw [up_same, up_same, ← hb]
          show mg A x z u c = _
          unfold mg; rw [if_neg hwc]
        · rw [up_ne e', up_ne e', hL']; exact lc_mg hn (List.mem_append_left _ m) hu hz e'
      rw [e1]; grind
    · rw [if_neg e]
      have e1 : det X (X.map (up (lc (mg A x w) (X ++ R)) v (fun u => mg A x w u c))) = det X (X.map (up (up L v b) w (fun r => 1 * up L v b w r + 1 * L x r))) := det_ext X _ _ X fun u hu z hz => by
        by_cases e' : z = v
        · subst e'
          rw [up_same, up_ne fun e' => e e'.symm, up_same, ← hb]
          show mg A x w u c = _
          unfold mg; rw [if_neg hwc]
        · rw [up_ne e']
          by_cases e2 : z = w
          · subst e2
            rw [up_same, up_ne e', hL', hL']; exact lc_mg_self hn hu hz
          · rw [up_ne e2, up_ne e', hL']; exact lc_mg hn (List.mem_append_left _ m) hu hz e2
      have e3 : up (up L v b) w (up L v b w) = up L v b := by
        funext z; unfold up; by_cases e : z = w
        · rw [if_pos e, e]
        · rw [if_neg e]
      rw [e1, det_up X _ _ _ 1 1 hX m, e3, h1 w m e]; grind
  rw [sm_congr hr, sm_congr hl, sm_add, sm_add, sm_mul, sm_mul, sm_one hR hc]
  have hs : sm X (fun w => up L v b w x * det X (X.map (up (up L v b) w (L x)))) = A x c * det X (X.map (up (up L v b) v (L x))) + - sm X (fun w => if w = v then 0 else - (up L v b w x * det X (X.map (up (up L v b) w (L x))))) := by
    rw [← sm_neg, ← sm_one hX hv (A x c * det X (X.map (up (up L v b) v (L x)))), ← sm_add]
    refine sm_congr fun w m => ?_
    by_cases e : w = v
    · subst e; rw [if_pos rfl, if_pos rfl, h2]; grind
    · rw [if_neg e, if_neg e]; grind
  rw [hs]; grind
theorem T_rec_eq (hn : (x :: (X ++ R)).Nodup) (hc : c ∈ R) : T A (x :: X) R x c = sm X (fun y => A x y * T (mg A x y) X R y c) + A x c * D (mg A x c) X R := by
  have hx := (List.nodup_cons.mp hn).1
  have hXR := List.nodup_append.mp (List.nodup_cons.mp hn).2
  have hX : X.Nodup := hXR.1
  have hd := hXR.2.2
  have hxX : x ∉ X := fun m => hx (List.mem_append_left _ m)
  unfold T D
  rw [det_first x X _ x X hX]
  rw [List.cons_append]
  generalize hL : lc A (x :: (X ++ R)) = L
  generalize hb : (fun u => A u c : Co Nat) = b
  have hL' : ∀ w u, L w u = lc A (x :: (X ++ R)) w u := fun w u => by rw [hL]
  have h0 : up L x b x x = A x c := by rw [up_same, ← hb]
  have hm : X.map (up L x b) = X.map L := map_up_not hxX
  have h1 : ∀ w ∈ X, up L x b w x = - A x w := fun w m => by
    rw [up_ne fun e => hxX (by rw [← e]; exact m), hL']; unfold lc; rw [if_neg fun e => hxX (by rw [e]; exact m)]
  have e0 : det X (X.map (lc (mg A x c) (X ++ R))) = det X (X.map L) := det_ext X _ _ X fun u hu w hw => by
    rw [hL']; exact lc_mg hn (List.mem_append_right _ hc) hu hw fun e => hd w hw c hc e
  rw [h0, hm, e0, up_same]
  have hs : sm X (fun w => up L x b w x * det X (X.map (up (up L x b) w b))) = - sm X (fun y => A x y * det X (X.map (up (lc (mg A x y) (X ++ R)) y (fun u => mg A x y u c)))) := by
    rw [← sm_neg]
    refine sm_congr fun w m => ?_
    have hwc : c ≠ w := fun e => hd w m c hc e.symm
    have e1 : det X (X.map (up (up L x b) w b)) = det X (X.map (up (lc (mg A x w) (X ++ R)) w (fun u => mg A x w u c))) := det_ext X _ _ X fun u hu z hz => by
      by_cases e' : z = w
      · subst e'
        rw [up_same, up_same, ← hb]
        show A u c = mg A x z u c
        unfold mg; rw [if_neg hwc]
      · rw [up_ne e', up_ne e', up_ne fun e => hxX (by rw [← e]; exact hz), hL']; exact (lc_mg hn (List.mem_append_left _ m) hu hz e').symm
    rw [h1 w m, e1]; grind
  rw [hs]; grind
end
end MT
set_option Elab.async false
set_option linter.all false
set_option maxRecDepth 100000
set_option maxHeartbeats 4000000
/-! Ma3: sums over forests: by merging, by choosing a head for each state. -/
namespace MT
/-- k is told of where each state leads -/
def FS : List Nat → Gr → List Nat → ((Nat → Nat) → Int) → Int
  | [], _, _, k => k id
  | x :: X, A, R, k => sm (X ++ R) (fun y => A x y * FS X (mg A x y) R (fun σ => k (fun u => if u = x then σ y else σ u)))
/-- a map that leads each state to a root -/
def Ld (X R : List Nat) (σ : Nat → Nat) : Prop := (∀ r ∈ R, σ r = r) ∧ ∀ u ∈ X, σ u ∈ R
theorem Ld.ext {x y : Nat} {X R : List Nat} {σ : Nat → Nat} (hn : (x :: (X ++ R)).Nodup) (h : Ld X R σ) (hy : y ∈ X ++ R) : Ld (x :: X) R (fun u => if u = x then σ y else σ u) := by
  have hx := (List.nodup_cons.mp hn).1
  have hR : ∀ r ∈ R, r ≠ x := fun r m e => hx (by rw [← e]; exact List.mem_append_right _ m)
  refine ⟨fun r m => ?_, fun u m => ?_⟩
  · show (if r = x then σ y else σ r) = r
    rw [if_neg (hR r m)]; exact h.1 r m
  · show (if u = x then σ y else σ u) ∈ R
    by_cases e : u = x
    · rw [if_pos e]
      rcases List.mem_append.mp hy with m2 | m2
      · exact h.2 y m2
      · rw [h.1 y m2]; exact m2
    · rw [if_neg e]
      rcases List.mem_cons.mp m with m | m
      · exact absurd m e
      · exact h.2 u m
theorem FS_congr : ∀ {X : List Nat} {A : Gr} {R : List Nat} {k k' : (Nat → Nat) → Int}, (X ++ R).Nodup → (∀ σ, Ld X R σ → k σ = k' σ) → FS X A R k = FS X A R k'
  | [], A, R, k, k', _, h => h id ⟨fun _ _ => rfl, fun _ m => by simp at m⟩
  | x :: X, A, R, k, k', hn, h => sm_congr fun y m => by
    rw [FS_congr (k := fun σ => k (fun u => if u = x then σ y else σ u)) (k' := fun σ => k' (fun u => if u = x then σ y else σ u)) (List.nodup_cons.mp hn).2 fun σ hσ => h _ (hσ.ext hn m)]
theorem FS_zero : ∀ {X : List Nat} {A : Gr} {R : List Nat}, FS X A R (fun _ => 0) = 0
  | [], _, _ => rfl
  | x :: X, A, R => sm_zero fun y _ => by rw [FS_zero]; exact Int.mul_zero _
theorem FS_lin : ∀ {X : List Nat} {A : Gr} {R : List Nat} (k k' : (Nat → Nat) → Int) (a b : Int), FS X A R (fun σ => a * k σ + b * k' σ) = a * FS X A R k + b * FS X A R k'
  | [], _, _, _, _, _, _ => rfl
  | x :: X, A, R, k, k', a, b => by
    show sm (X ++ R) (fun y => A x y * FS X (mg A x y) R (fun σ => a * k (fun u => if u = x then σ y else σ u) + b * k' (fun u => if u = x then σ y else σ u))) = _
    have h : ∀ y ∈ X ++ R, A x y * FS X (mg A x y) R (fun σ => a * k (fun u => if u = x then σ y else σ u) + b * k' (fun u => if u = x then σ y else σ u)) =
        a * (A x y * FS X (mg A x y) R (fun σ => k (fun u => if u = x then σ y else σ u))) + b * (A x y * FS X (mg A x y) R (fun σ => k' (fun u => if u = x then σ y else σ u))) := fun y _ => by
      rw [FS_lin]; grind
    rw [sm_congr h, sm_add, sm_mulL, sm_mulL]; rfl
theorem D_FS : ∀ {X : List Nat} {A : Gr} {R : List Nat}, (X ++ R).Nodup → D A X R = FS X A R (fun _ => 1)
  | [], _, _, _ => rfl
  | x :: X, A, R, hn => by
    rw [D_rec hn]
    exact sm_congr fun y _ => by rw [D_FS (List.nodup_cons.mp hn).2]
theorem T_FS : ∀ {X : List Nat} {A : Gr} {R : List Nat} {v c : Nat}, (X ++ R).Nodup → v ∈ X → c ∈ R → T A X R v c = FS X A R (fun σ => if σ v = c then 1 else 0)
  | x :: X, A, R, v, c, hn, hv, hc => by
    have hn' := (List.nodup_cons.mp hn).2
    by_cases e : v = x
    · subst e
      rw [T_rec_eq hn hc]
      show _ = sm (X ++ R) (fun y => A v y * FS X (mg A v y) R (fun σ => if (if v = v then σ y else σ v) = c then 1 else 0))
      rw [sm_app]
      have h1 : sm X (fun y => A v y * FS X (mg A v y) R (fun σ => if (if v = v then σ y else σ v) = c then 1 else 0)) = sm X (fun y => A v y * T (mg A v y) X R y c) := sm_congr fun y m => by
        rw [T_FS hn' m hc]; simp only [if_true]
      have h2 : sm R (fun y => A v y * FS X (mg A v y) R (fun σ => if (if v = v then σ y else σ v) = c then 1 else 0)) = A v c * D (mg A v c) X R := by
        rw [← sm_one (List.nodup_append.mp hn').2.1 hc (A v c * D (mg A v c) X R)]
        refine sm_congr fun y m => ?_
        by_cases e : y = c
        · subst e
          rw [if_pos rfl, D_FS hn', FS_congr (k' := fun _ => 1) hn' fun σ hσ => ?_]
          rw [if_pos rfl, hσ.1 y m, if_pos rfl]
        · rw [if_neg e, FS_congr (k' := fun _ => 0) hn' fun σ hσ => ?_, FS_zero]; exact Int.mul_zero _
          rw [if_pos rfl, hσ.1 y m, if_neg e]
      rw [h1, h2]
    · have hv' : v ∈ X := by
        rcases List.mem_cons.mp hv with h | h
        · exact absurd h e
        · exact h
      rw [T_rec_ne hn hv' hc]
      show _ = sm (X ++ R) (fun y => A x y * FS X (mg A x y) R (fun σ => if (if v = x then σ y else σ v) = c then 1 else 0))
      refine sm_congr fun y m => ?_
      rw [T_FS hn' hv' hc]; simp only [if_neg e]
/-! ### by heads -/
/-- a head for each state of X -/
def SW : List Nat → Gr → (Nat → List Nat) → ((Nat → Nat) → Int) → (Nat → Nat) → Int
  | [], _, _, g, h => g h
  | x :: X, A, V, g, h => sm (V x) (fun y => A x y * SW X A V g (up h x y))
/-- led to a root -/
inductive Rch (R : List Nat) (h : Nat → Nat) : Nat → Nat → Prop where
  | here {r : Nat} : r ∈ R → Rch R h r r
  | on {u r : Nat} : u ∉ R → Rch R h (h u) r → Rch R h u r
theorem Rch.mem {R : List Nat} {h : Nat → Nat} {u r : Nat} (q : Rch R h u r) : r ∈ R := by
  induction q with
  | here m => exact m
  | on _ _ ih => exact ih
theorem Rch.det {R : List Nat} {h : Nat → Nat} {u r r' : Nat} (q : Rch R h u r) (q' : Rch R h u r') : r = r' := by
  induction q with
  | here m =>
    cases q' with
    | here _ => rfl
    | on n _ => exact absurd m n
  | on n _ ih =>
    cases q' with
    | here m => exact absurd m n
    | on _ q => exact ih q
/-- x is merged into y -/
structure Mrg (x y : Nat) (h h' : Nat → Nat) : Prop where
  at_ : h x = y
  o : ∀ u, u ≠ x → h' u = if h u = x then y else h u
section
variable {x y : Nat} {R : List Nat} {h h' : Nat → Nat}
theorem Mrg.to (m : Mrg x y h h') (hx : x ∉ R) (hxy : x ≠ y) {u r : Nat} (q : Rch R h u r) : Rch R h' (if u = x then y else u) r := by
  induction q with
  | @here r mr =>
    rw [if_neg fun e => hx (by rw [← e]; exact mr)]; exact .here mr
  | @on u r nu q ih =>
    by_cases e : u = x
    · rw [if_pos e]
      subst e
      rw [m.at_, if_neg hxy.symm] at ih
      exact ih
    · rw [if_neg e]
      refine .on nu ?_
      rw [m.o u e]; exact ih
theorem Mrg.fro (m : Mrg x y h h') (hx : x ∉ R) (hxy : x ≠ y) {u r : Nat} (q : Rch R h' u r) : u ≠ x → Rch R h u r := by
  induction q with
  | here mr => exact fun _ => .here mr
  | @on u r nu q ih =>
    intro e
    rw [m.o u e] at ih
    by_cases e2 : h u = x
    · rw [if_pos e2] at ih
      refine .on nu ?_
      rw [e2]
      refine .on hx ?_
      rw [m.at_]
      exact ih fun e => hxy e.symm
    · rw [if_neg e2] at ih
      exact .on nu (ih e2)
end
open Classical in
/-- where a state leads -/
noncomputable def led (R : List Nat) (h : Nat → Nat) (u : Nat) : Nat := if q : ∃ r, Rch R h u r then q.choose else u
open Classical in
/-- what is told of a choice of heads: k of where the states lead, if all lead to roots -/
noncomputable def vk (X R : List Nat) (k : (Nat → Nat) → Int) (h : Nat → Nat) : Int := if ∀ u ∈ X, ∃ r, Rch R h u r then k (led R h) else 0
theorem led_of {R : List Nat} {h : Nat → Nat} {u r : Nat} (q : Rch R h u r) : led R h u = r := by
  have e : ∃ r, Rch R h u r := ⟨r, q⟩
  unfold led
  rw [dif_pos e]
  exact e.choose_spec.det q
/-- merging in the sum -/
theorem SW_mg {x y : Nat} {V : List Nat} {A : Gr} (hV : V.Nodup) (hy : y ∈ V) (hx : x ∉ V) {F F' : (Nat → Nat) → Int} (hF : ∀ h h', Mrg x y h h' → F h = F' h') :
    ∀ (X : List Nat), x ∉ X → ∀ h h', Mrg x y h h' → SW X A (fun _ => x :: V) F h = SW X (mg A x y) (fun _ => V) F' h'
  | [], _, h, h', m => hF h h' m
  | u :: X, hX, h, h', m => by
    have hxu : x ≠ u := fun e => hX (by rw [e]; exact List.mem_cons_self)
    have hX' : x ∉ X := fun e => hX (List.mem_cons_of_mem _ e)
    show sm (x :: V) (fun v => A u v * SW X A (fun _ => x :: V) F (up h u v)) = sm V (fun v => mg A x y u v * SW X (mg A x y) (fun _ => V) F' (up h' u v))
    rw [sm_cons]
    have step : ∀ v, SW X A (fun _ => x :: V) F (up h u v) = SW X (mg A x y) (fun _ => V) F' (up h' u (if v = x then y else v)) := fun v => SW_mg hV hy hx hF X hX' _ _ ⟨by rw [up_ne hxu]; exact m.at_, fun w hw => by
      by_cases e : w = u
      · subst e; rw [up_same, up_same]
      · rw [up_ne e, up_ne e]; exact m.o w hw⟩
    have h2 : ∀ v ∈ V, mg A x y u v * SW X (mg A x y) (fun _ => V) F' (up h' u v) = A u v * SW X A (fun _ => x :: V) F (up h u v) + (if v = y then A u x * SW X (mg A x y) (fun _ => V) F' (up h' u y) else 0) := fun v mv => by
      rw [step v, if_neg fun e => hx (by rw [← e]; exact mv)]
      unfold mg
      by_cases e : v = y
      · subst e; rw [if_pos rfl, if_pos rfl]; grind
      · rw [if_neg e, if_neg e]; grind
    rw [sm_congr h2, sm_add, sm_one hV hy, step x, if_pos rfl]; grind
/-- where k asks nothing beyond the states -/
def Loc (V : List Nat) (k : (Nat → Nat) → Int) : Prop := ∀ σ σ', (∀ u ∈ V, σ u = σ' u) → k σ = k σ'
theorem Rch.loop {R : List Nat} {h : Nat → Nat} {u r : Nat} (q : Rch R h u r) : u ∉ R → h u = u → False := by
  induction q with
  | here m => exact fun n _ => n m
  | @on u r _ _ ih => exact fun n e => ih (by rw [e]; exact n) (by rw [e, e])
theorem vk_loop {X R : List Nat} {k : (Nat → Nat) → Int} {h : Nat → Nat} {u : Nat} (mu : u ∈ X) (nu : u ∉ R) (e : h u = u) : vk X R k h = 0 := by
  unfold vk
  rw [if_neg fun ok => ?_]
  obtain ⟨r, q⟩ := ok u mu
  exact q.loop nu e
theorem SW_loop {X R : List Nat} {k : (Nat → Nat) → Int} {A : Gr} {V : Nat → List Nat} {u : Nat} (mu : u ∈ X) (nu : u ∉ R) : ∀ (Y : List Nat) (h : Nat → Nat), u ∉ Y → h u = u → SW Y A V (vk X R k) h = 0
  | [], h, _, e => vk_loop mu nu e
  | w :: Y, h, n, e => sm_zero fun y _ => by
    rw [SW_loop mu nu Y (up h w y) (fun m => n (List.mem_cons_of_mem _ m)) (by rw [up_ne fun e => n (by rw [e]; exact List.mem_cons_self)]; exact e)]
    exact Int.mul_zero _
theorem SW_FS : ∀ {X : List Nat} {A : Gr} {R : List Nat} {k : (Nat → Nat) → Int}, (X ++ R).Nodup → Loc (X ++ R) k → SW X A (fun _ => X ++ R) (vk X R k) id = FS X A R k
  | [], A, R, k, hn, hk => by
    show vk [] R k id = k id
    unfold vk
    rw [if_pos fun u m => by simp at m]
    exact hk _ _ fun u m => led_of (.here m)
  | x :: X, A, R, k, hn, hk => by
    have hx := (List.nodup_cons.mp hn).1
    have hn' := (List.nodup_cons.mp hn).2
    have hxX : x ∉ X := fun m => hx (List.mem_append_left _ m)
    have hxR : x ∉ R := fun m => hx (List.mem_append_right _ m)
    show sm (x :: (X ++ R)) (fun y => A x y * SW X A (fun _ => x :: (X ++ R)) (vk (x :: X) R k) (up id x y)) = sm (X ++ R) (fun y => A x y * FS X (mg A x y) R (fun σ => k (fun u => if u = x then σ y else σ u)))
    rw [sm_cons, SW_loop (u := x) List.mem_cons_self hxR X (up id x x) hxX up_same]
    have h : ∀ y ∈ X ++ R, A x y * SW X A (fun _ => x :: (X ++ R)) (vk (x :: X) R k) (up id x y) = A x y * FS X (mg A x y) R (fun σ => k (fun u => if u = x then σ y else σ u)) := fun y m => by
      have hxy : x ≠ y := fun e => hx (by rw [e]; exact m)
      have hF : ∀ h h', Mrg x y h h' → vk (x :: X) R k h = vk X R (fun σ => k (fun u => if u = x then σ y else σ u)) h' := fun h h' mm => by
        unfold vk
        by_cases ok : ∀ u ∈ X, ∃ r, Rch R h' u r
        · have oky : ∃ r, Rch R h' y r := by
            rcases List.mem_append.mp m with m | m
            · exact ok y m
            · exact ⟨y, .here m⟩
          have okh : ∀ u ∈ x :: X, ∃ r, Rch R h u r := fun u mu => by
            rcases List.mem_cons.mp mu with e | mu
            · obtain ⟨r, q⟩ := oky
              rw [e]
              exact ⟨r, .on hxR (by rw [mm.at_]; exact mm.fro hxR hxy q fun e => hxy e.symm)⟩
            · obtain ⟨r, q⟩ := ok u mu
              exact ⟨r, mm.fro hxR hxy q fun e => hxX (by rw [← e]; exact mu)⟩
          rw [if_pos ok, if_pos okh]
          refine hk _ _ fun u mu => ?_
          by_cases e : u = x
          · rw [if_pos e]
            obtain ⟨r, q⟩ := oky
            rw [led_of q, e]
            exact led_of (.on hxR (by rw [mm.at_]; exact mm.fro hxR hxy q fun e => hxy e.symm))
          · rw [if_neg e]
            have mu' : u ∈ X ++ R := by
              rcases List.mem_cons.mp mu with e' | mu
              · exact absurd e' e
              · exact mu
            obtain ⟨r, q⟩ : ∃ r, Rch R h' u r := by
              rcases List.mem_append.mp mu' with m | m
              · exact ok u m
              · exact ⟨u, .here m⟩
            rw [led_of q, led_of (mm.fro hxR hxy q e)]
        · rw [if_neg ok, if_neg fun okh => ok fun u mu => ?_]
          obtain ⟨r, q⟩ := okh u (List.mem_cons_of_mem _ mu)
          have q' := mm.to hxR hxy q
          rw [if_neg fun e => hxX (by rw [← e]; exact mu)] at q'
          exact ⟨r, q'⟩
      have e1 := SW_mg (x := x) (y := y) (V := X ++ R) (A := A) hn' m hx hF X hxX (up id x y) id ⟨up_same, fun u hu => by
        rw [up_ne hu]
        show u = if u = x then y else u
        rw [if_neg hu]⟩
      rw [e1, SW_FS (A := mg A x y) hn' (k := fun σ => k (fun u => if u = x then σ y else σ u)) fun σ σ' hs => hk _ _ fun u mu => by
        by_cases e : u = x
        · rw [if_pos e, if_pos e]; exact hs y m
        · rw [if_neg e, if_neg e]
          rcases List.mem_cons.mp mu with e' | mu
          · exact absurd e' e
          · exact hs u mu]
    rw [sm_congr h]; grind
end MT
set_option Elab.async false
set_option linter.all false
set_option maxRecDepth 100000
set_option maxHeartbeats 4000000
/-! Ma4: heads in lists, leads by stepping. -/
namespace MT
def it (h : Nat → Nat) : Nat → Nat → Nat
  | 0, u => u
  | k + 1, u => it h k (h u)
theorem it_add (h : Nat → Nat) : ∀ (j k u : Nat), it h (j + k) u = it h k (it h j u)
  | 0, k, u => by rw [Nat.zero_add]; rfl
  | j + 1, k, u => by
    rw [Nat.succ_add]
    exact it_add h j k (h u)
theorem it_fix {h : Nat → Nat} {r : Nat} (e : h r = r) : ∀ k, it h k r = r
  | 0 => rfl
  | k + 1 => by
    show it h k (h r) = r
    rw [e]; exact it_fix e k
theorem it_succ (h : Nat → Nat) : ∀ (k u : Nat), it h (k + 1) u = h (it h k u)
  | 0, u => rfl
  | k + 1, u => it_succ h k (h u)
theorem Rch.of_it {R : List Nat} {h : Nat → Nat} : ∀ {k u : Nat}, (∀ r ∈ R, h r = r) → it h k u ∈ R → Rch R h u (it h k u)
  | 0, u, _, m => .here m
  | k + 1, u, hR, m => by
    by_cases e : u ∈ R
    · rw [it_fix (hR u e)]; exact .here e
    · exact .on e (Rch.of_it (k := k) (u := h u) hR m)
inductive RchL (R : List Nat) (h : Nat → Nat) : Nat → Nat → List Nat → Prop where
  | here {r : Nat} : r ∈ R → RchL R h r r []
  | on {u r : Nat} {P : List Nat} : u ∉ R → RchL R h (h u) r P → RchL R h u r (u :: P)
theorem Rch.path {R : List Nat} {h : Nat → Nat} {u r : Nat} (q : Rch R h u r) : ∃ P, RchL R h u r P := by
  induction q with
  | here m => exact ⟨[], .here m⟩
  | on n _ ih =>
    obtain ⟨P, q⟩ := ih
    exact ⟨_, .on n q⟩
theorem RchL.det {R : List Nat} {h : Nat → Nat} {u r r' : Nat} {P P' : List Nat} (q : RchL R h u r P) (q' : RchL R h u r' P') : P = P' := by
  induction q generalizing P' with
  | here m =>
    cases q' with
    | here _ => rfl
    | on n _ => exact absurd m n
  | on n _ ih =>
    cases q' with
    | here m => exact absurd m n
    | on _ q => rw [ih q]
theorem RchL.sub {R : List Nat} {h : Nat → Nat} {u r w : Nat} {P : List Nat} (q : RchL R h u r P) : w ∈ P → ∃ Q, RchL R h w r Q ∧ Q.length ≤ P.length := by
  induction q with
  | here m => exact fun e => by simp at e
  | @on u r P n q ih =>
    intro m
    rcases List.mem_cons.mp m with e | m
    · rw [e]; exact ⟨_, .on n q, Nat.le_refl _⟩
    · obtain ⟨Q, h1, h2⟩ := ih m
      exact ⟨Q, h1, Nat.le_trans h2 (Nat.le_succ _)⟩
theorem RchL.nd {R : List Nat} {h : Nat → Nat} {u r : Nat} {P : List Nat} (q : RchL R h u r P) : P.Nodup := by
  induction q with
  | here _ => exact List.nodup_nil
  | @on u r P n q ih =>
    refine List.nodup_cons.mpr ⟨fun m => ?_, ih⟩
    obtain ⟨Q, h1, h2⟩ := q.sub m
    have e := h1.det (.on n q)
    rw [e, List.length_cons] at h2
    omega
theorem RchL.it {R : List Nat} {h : Nat → Nat} {u r : Nat} {P : List Nat} (q : RchL R h u r P) : it h P.length u = r := by
  induction q with
  | here _ => rfl
  | on _ _ ih => exact ih
theorem RchL.inn {R X : List Nat} {h : Nat → Nat} {u r : Nat} {P : List Nat} (hX : ∀ w ∈ X, w ∉ R → h w ∈ X) (q : RchL R h u r P) : u ∈ X → ∀ w ∈ P, w ∈ X := by
  induction q with
  | here _ => exact fun _ w m => by simp at m
  | @on u r P n q ih =>
    intro mu w m
    rcases List.mem_cons.mp m with e | m
    · rw [e]; exact mu
    · exact ih (hX _ mu n) w m
theorem nd_len : ∀ {l m : List Nat}, l.Nodup → (∀ a ∈ l, a ∈ m) → l.length ≤ m.length
  | [], m, _, _ => Nat.zero_le _
  | a :: l, m, h, k => by
    have h' := List.nodup_cons.mp h
    have e := nd_len (l := l) (m := m.erase a) h'.2 fun b mb => (List.mem_erase_of_ne fun e => h'.1 (by rw [← e]; exact mb)).mpr (k b (List.mem_cons_of_mem _ mb))
    rw [List.length_erase_of_mem (k a List.mem_cons_self)] at e
    have e2 : 0 < m.length := List.length_pos_of_mem (k a List.mem_cons_self)
    rw [List.length_cons]
    omega
/-- within as many steps as there are states -/
theorem Rch.it {R X : List Nat} {h : Nat → Nat} {u r : Nat} (hR : ∀ r ∈ R, h r = r) (hX : ∀ w ∈ X, w ∉ R → h w ∈ X) (mu : u ∈ X) (q : Rch R h u r) : it h X.length u = r := by
  obtain ⟨P, p⟩ := q.path
  have e := nd_len p.nd (p.inn hX mu)
  have e2 : X.length = P.length + (X.length - P.length) := by omega
  rw [e2, it_add, p.it, it_fix (hR r q.mem)]

/-! ### the order of the states does not matter -/
theorem up_up {α : Type} {g : Nat → α} {u v : Nat} {a b : α} (h : u ≠ v) : up (up g u a) v b = up (up g v b) u a := by
  funext w; unfold up
  by_cases e : w = v
  · by_cases e2 : w = u
    · exact absurd (e2.symm.trans e) h
    · rw [if_pos e, if_neg e2, if_pos e]
  · rw [if_neg e]
    by_cases e2 : w = u
    · rw [if_pos e2, if_pos e2]
    · rw [if_neg e2, if_neg e2, if_neg e]
theorem sm_comm (l m : List Nat) (t : Nat → Nat → Int) : sm l (fun a => sm m (fun b => t a b)) = sm m (fun b => sm l (fun a => t a b)) := by
  induction l with
  | nil => exact (sm_zero fun _ _ => rfl).symm
  | cons a l ih =>
    rw [sm_cons, ih, ← sm_add]
    exact sm_congr fun b _ => by rw [sm_cons]
theorem SW_swap (x y : Nat) (X : List Nat) (A : Gr) (V : Nat → List Nat) (g : (Nat → Nat) → Int) (h : Nat → Nat) (hxy : x ≠ y) : SW (x :: y :: X) A V g h = SW (y :: x :: X) A V g h := by
  show sm (V x) (fun a => A x a * sm (V y) (fun b => A y b * SW X A V g (up (up h x a) y b))) = sm (V y) (fun b => A y b * sm (V x) (fun a => A x a * SW X A V g (up (up h y b) x a)))
  have e1 : ∀ a ∈ V x, A x a * sm (V y) (fun b => A y b * SW X A V g (up (up h x a) y b)) = sm (V y) (fun b => A x a * (A y b * SW X A V g (up (up h x a) y b))) := fun a _ => (sm_mulL _ _ _).symm
  have e2 : ∀ b ∈ V y, A y b * sm (V x) (fun a => A x a * SW X A V g (up (up h y b) x a)) = sm (V x) (fun a => A x a * (A y b * SW X A V g (up (up h x a) y b))) := fun b _ => by
    rw [← sm_mulL]
    exact sm_congr fun a _ => by rw [up_up hxy]; grind
  rw [sm_congr e1, sm_congr e2, sm_comm]
theorem SW_perm {X Y : List Nat} (p : X.Perm Y) {A : Gr} {V : Nat → List Nat} {g : (Nat → Nat) → Int} : X.Nodup → ∀ h, SW X A V g h = SW Y A V g h := by
  induction p with
  | nil => exact fun _ _ => rfl
  | cons x _ ih => exact fun hn h => sm_congr fun y _ => by rw [ih (List.nodup_cons.mp hn).2]
  | swap x y l => exact fun hn h => SW_swap _ _ _ _ _ _ _ fun e => (List.nodup_cons.mp hn).1 (by rw [e]; exact List.mem_cons_self)
  | trans p1 p2 h1 h2 => exact fun hn h => (h1 hn h).trans (h2 (p1.nodup_iff.mp hn) h)
theorem SW_V {A B : Gr} {V W : Nat → List Nat} {g g' : (Nat → Nat) → Int} : ∀ (X : List Nat), (∀ x ∈ X, ∀ t : Nat → Int, sm (V x) (fun y => A x y * t y) = sm (W x) (fun y => B x y * t y)) → (∀ h, g h = g' h) → ∀ h, SW X A V g h = SW X B W g' h
  | [], _, hg, h => hg h
  | x :: X, hV, hg, h => by
    show sm (V x) (fun y => A x y * SW X A V g (up h x y)) = sm (W x) (fun y => B x y * SW X B W g' (up h x y))
    rw [← hV x List.mem_cons_self]
    exact sm_congr fun y _ => by rw [SW_V X (fun z m => hV z (List.mem_cons_of_mem _ m)) hg]
/-- roots have but themselves -/
theorem SW_roots {A A1 : Gr} {V W : Nat → List Nat} {R : List Nat} {g : (Nat → Nat) → Int} (hR : ∀ r ∈ R, V r = [r] ∧ A1 r r = 1) (hN : ∀ x, x ∉ R → ∀ t : Nat → Int, sm (V x) (fun y => A1 x y * t y) = sm (W x) (fun y => A x y * t y)) :
    ∀ (X : List Nat) (h : Nat → Nat), X.Nodup → (∀ r ∈ R, r ∈ X → h r = r) → SW X A1 V g h = SW (X.filter fun x => decide (x ∉ R)) A W g h
  | [], h, _, _ => rfl
  | x :: X, h, hn, hf => by
    have hn' := List.nodup_cons.mp hn
    by_cases e : x ∈ R
    · rw [List.filter_cons_of_neg (by simpa using e)]
      show sm (V x) (fun y => A1 x y * SW X A1 V g (up h x y)) = _
      have eu : up h x x = h := by
        funext w; unfold up
        by_cases e2 : w = x
        · rw [if_pos e2, e2, hf x e List.mem_cons_self]
        · rw [if_neg e2]
      rw [(hR x e).1, sm_cons, sm_nil, (hR x e).2, eu, SW_roots hR hN X h hn'.2 fun r m m2 => hf r m (List.mem_cons_of_mem _ m2)]; grind
    · rw [List.filter_cons_of_pos (by simpa using e)]
      show sm (V x) (fun y => A1 x y * SW X A1 V g (up h x y)) = sm (W x) (fun y => A x y * SW (X.filter _) A W g (up h x y))
      rw [← hN x e]
      exact sm_congr fun y _ => by
        rw [SW_roots hR hN X (up h x y) hn'.2 fun r m m2 => ?_]
        rw [up_ne fun e2 => e (by rw [← e2]; exact m)]
        exact hf r m (List.mem_cons_of_mem _ m2)
/-! ### lines: lists of heads -/
/-- lines grown by a head each -/
def grow (V : Nat → List Nat) : List Nat → List (List Nat) → List (List Nat)
  | [], L => L
  | x :: xs, L => grow V xs (L.flatMap fun l => (V x).map fun y => l ++ [y])
def sl (L : List (List Nat)) (t : List Nat → Int) : Int := (L.map t).sum
theorem sl_cons (a : List Nat) (L : List (List Nat)) (t : List Nat → Int) : sl (a :: L) t = t a + sl L t := by simp [sl]
theorem sl_app (L M : List (List Nat)) (t : List Nat → Int) : sl (L ++ M) t = sl L t + sl M t := by
  induction L with
  | nil => simp [sl]
  | cons a l ih => rw [List.cons_append, sl_cons, sl_cons, ih]; grind
theorem sl_congr {L : List (List Nat)} {t s : List Nat → Int} (h : ∀ a ∈ L, t a = s a) : sl L t = sl L s := by
  induction L with
  | nil => rfl
  | cons a l ih => rw [sl_cons, sl_cons, h a List.mem_cons_self, ih fun b m => h b (List.mem_cons_of_mem _ m)]
theorem sl_map (V : List Nat) (l : List Nat) (t : List Nat → Int) : sl (V.map fun y => l ++ [y]) t = sm V (fun y => t (l ++ [y])) := by
  induction V with
  | nil => rfl
  | cons a V ih => rw [List.map_cons, sl_cons, sm_cons, ih]
/-- the sum over the lines grown from l -/
def PS (V : Nat → List Nat) : List Nat → (List Nat → Int) → List Nat → Int
  | [], t, l => t l
  | x :: xs, t, l => sm (V x) (fun y => PS V xs t (l ++ [y]))
theorem grow_PS (V : Nat → List Nat) : ∀ (xs : List Nat) (L : List (List Nat)) (t : List Nat → Int), sl (grow V xs L) t = sl L (PS V xs t)
  | [], L, t => rfl
  | x :: xs, L, t => by
    show sl (grow V xs (L.flatMap fun l => (V x).map fun y => l ++ [y])) t = _
    rw [grow_PS V xs _ t]
    induction L with
    | nil => rfl
    | cons l L ih =>
      rw [List.flatMap_cons, sl_app, sl_map, sl_cons, ih]; rfl
/-- heads told by a line -/
def hd (l : List Nat) (u : Nat) : Nat := (l[u]?).getD u
/-- the weight of a line from the place i on -/
def wl (A : Gr) : Nat → List Nat → Int
  | _, [] => 1
  | i, y :: l => A i y * wl A (i + 1) l
theorem wl_snoc (A : Gr) : ∀ (l : List Nat) (i y : Nat), wl A i (l ++ [y]) = wl A i l * A (i + l.length) y
  | [], i, y => by simp [wl]
  | z :: l, i, y => by
    show A i z * wl A (i + 1) (l ++ [y]) = A i z * wl A (i + 1) l * A (i + (l.length + 1)) y
    rw [wl_snoc A l (i + 1) y]
    have e : i + 1 + l.length = i + (l.length + 1) := by omega
    rw [e]; grind
theorem hd_snoc (l : List Nat) (y : Nat) : hd (l ++ [y]) = up (hd l) l.length y := by
  funext u
  unfold hd up
  by_cases e : u = l.length
  · subst e; simp
  · rw [if_neg e]
    by_cases h : u < l.length
    · rw [List.getElem?_append_left h]
    · show ((l ++ [y])[u]?).getD u = (l[u]?).getD u
      rw [List.getElem?_eq_none (by rw [List.length_append, List.length_singleton]; omega), List.getElem?_eq_none (by omega)]
theorem PS_SW (V : Nat → List Nat) (A : Gr) (g : (Nat → Nat) → Int) : ∀ (m : Nat) (l : List Nat), PS V (List.range' l.length m) (fun l => wl A 0 l * g (hd l)) l = wl A 0 l * SW (List.range' l.length m) A V g (hd l)
  | 0, l => rfl
  | m + 1, l => by
    rw [List.range'_succ]
    show sm (V l.length) (fun y => PS V (List.range' (l.length + 1) m) _ (l ++ [y])) = wl A 0 l * sm (V l.length) (fun y => A l.length y * SW (List.range' (l.length + 1) m) A V g (up (hd l) l.length y))
    rw [← sm_mulL]
    refine sm_congr fun y _ => ?_
    have h := PS_SW V A g m (l ++ [y])
    rw [List.length_append, List.length_singleton] at h
    rw [h, wl_snoc, hd_snoc, Nat.zero_add]; grind
theorem grow_SW (V : Nat → List Nat) (A : Gr) (g : (Nat → Nat) → Int) (n : Nat) : sl (grow V (List.range n) [[]]) (fun l => wl A 0 l * g (hd l)) = SW (List.range n) A V g id := by
  rw [grow_PS, sl_cons]
  have h := PS_SW V A g n []
  have e : hd [] = id := by funext u; rfl
  rw [List.length_nil, e] at h
  rw [List.range_eq_range', h]
  show wl A 0 [] * _ + 0 = _
  simp [wl]
theorem grow_mem (V : Nat → List Nat) : ∀ (xs : List Nat) (L : List (List Nat)) (l : List Nat), l ∈ grow V xs L → ∃ l0 ∈ L, ∃ ys : List Nat, l = l0 ++ ys ∧ ys.length = xs.length ∧ ∀ (i x y : Nat), xs[i]? = some x → ys[i]? = some y → y ∈ V x
  | [], L, l, m => ⟨l, m, [], by simp, rfl, fun i x y h => by simp at h⟩
  | x :: xs, L, l, m => by
    obtain ⟨l1, m1, ys, rfl, e2, e3⟩ := grow_mem V xs _ l m
    rw [List.mem_flatMap] at m1
    obtain ⟨l0, m0, m1⟩ := m1
    rw [List.mem_map] at m1
    obtain ⟨y, my, rfl⟩ := m1
    refine ⟨l0, m0, y :: ys, by simp, by simp [e2], fun i x' y' h1 h2 => ?_⟩
    cases i with
    | zero =>
      simp at h1 h2
      subst h1; subst h2; exact my
    | succ i => exact e3 i x' y' (by simpa using h1) (by simpa using h2)
end MT
set_option Elab.async false
set_option linter.all false
set_option maxRecDepth 100000
set_option maxHeartbeats 4000000
/-! Ma5: the law's list of forests and its sums; signs and sizes. -/
namespace MT
theorem SW_congr {A : Gr} {V : Nat → List Nat} {g g' : (Nat → Nat) → Int} : ∀ (X : List Nat) (h : Nat → Nat), X.Nodup → (∀ h', (∀ u ∈ X, h' u ∈ V u) → (∀ u, u ∉ X → h' u = h u) → g h' = g' h') → SW X A V g h = SW X A V g' h
  | [], h, _, k => k h (fun u m => by simp at m) (fun _ _ => rfl)
  | x :: X, h, hn, k => sm_congr fun y my => by
    have hn' := List.nodup_cons.mp hn
    rw [SW_congr X (up h x y) hn'.2 fun h' k1 k2 => k h' (fun u m => by
      rcases List.mem_cons.mp m with e | m
      · rw [e, k2 x hn'.1, up_same]; exact my
      · exact k1 u m) (fun u n => by
      rw [List.mem_cons, not_or] at n
      rw [k2 u n.2, up_ne n.1])]
def ld (n : Nat) (l : List Nat) (u : Nat) : Nat := it (hd l) n u
def okL (n : Nat) (R : List Nat) (l : List Nat) : Bool := (List.range n).all fun u => decide (ld n l u ∈ R)
def hds (A : Gr) (n : Nat) (R : List Nat) (x : Nat) : List Nat := if x ∈ R then [x] else (List.range n).filter fun y => decide (0 < A x y)
def w1 (A : Gr) (R : List Nat) : Gr := fun x y => if x ∈ R then 1 else A x y
def fors (A : Gr) (n : Nat) (R : List Nat) : List (List Nat) := (grow (hds A n R) (List.range n) [[]]).filter (okL n R)
theorem sl_filter (L : List (List Nat)) (p : List Nat → Bool) (t : List Nat → Int) : sl (L.filter p) t = sl L (fun l => if p l = true then t l else 0) := by
  induction L with
  | nil => rfl
  | cons a L ih =>
    rw [sl_cons, List.filter_cons]
    by_cases e : p a = true
    · rw [if_pos e, if_pos e, sl_cons, ih]
    · rw [if_neg e, if_neg e, ih]; grind
theorem sm_filter (L : List Nat) (p : Nat → Bool) (t : Nat → Int) : sm (L.filter p) t = sm L (fun l => if p l = true then t l else 0) := by
  induction L with
  | nil => rfl
  | cons a L ih =>
    rw [sm_cons, List.filter_cons]
    by_cases e : p a = true
    · rw [if_pos e, if_pos e, sm_cons, ih]
    · rw [if_neg e, if_neg e, ih]; grind
theorem law_sum {A : Gr} {n : Nat} {X R : List Nat} {k : (Nat → Nat) → Int} (hp : (X ++ R).Perm (List.range n)) (hA : ∀ x y, 0 ≤ A x y) (hk : Loc (List.range n) k) :
    sl (fors A n R) (fun l => wl (w1 A R) 0 l * k (ld n l)) = FS X A R k := by
  have hn : (X ++ R).Nodup := hp.nodup_iff.mpr List.nodup_range
  have hd := (List.nodup_append.mp hn).2.2
  have hXn : X.Nodup := (List.nodup_append.mp hn).1
  have mem : ∀ u, u ∈ X ++ R ↔ u < n := fun u => by rw [hp.mem_iff, List.mem_range]
  unfold fors
  rw [sl_filter]
  let g : (Nat → Nat) → Int := fun h => if ((List.range n).all fun u => decide (it h n u ∈ R)) = true then k (it h n) else 0
  have e0 : ∀ l ∈ grow (hds A n R) (List.range n) [[]], (if okL n R l = true then wl (w1 A R) 0 l * k (ld n l) else 0) = wl (w1 A R) 0 l * g (MT.hd l) := fun l _ => by
    show _ = wl (w1 A R) 0 l * (if okL n R l = true then k (ld n l) else 0)
    by_cases e : okL n R l = true
    · rw [if_pos e, if_pos e]
    · rw [if_neg e, if_neg e]; grind
  rw [sl_congr e0, grow_SW]
  -- what the heads tell
  have e1 : SW (List.range n) (w1 A R) (hds A n R) g id = SW (List.range n) (w1 A R) (hds A n R) (vk X R k) id := SW_congr _ id List.nodup_range fun h k1 k2 => by
    have fR : ∀ r ∈ R, h r = r := fun r m => by
      have q := k1 r (List.mem_range.mpr ((mem r).mp (List.mem_append_right _ m)))
      unfold hds at q
      rw [if_pos m, List.mem_singleton] at q
      exact q
    have fX : ∀ w ∈ List.range n, w ∉ R → h w ∈ List.range n := fun w m hw => by
      have q := k1 w m
      unfold hds at q
      rw [if_neg hw] at q
      exact (List.mem_filter.mp q).1
    have lead : ∀ u, u < n → ∀ r, Rch R h u r → it h n u = r := fun u hu r q => by
      have z := Rch.it fR fX (List.mem_range.mpr hu) q
      rw [List.length_range] at z
      exact z
    by_cases ok : ((List.range n).all fun u => decide (it h n u ∈ R)) = true
    · have ok' : ∀ u ∈ List.range n, it h n u ∈ R := fun u m => of_decide_eq_true (List.all_eq_true.mp ok u m)
      have okv : ∀ u ∈ X, ∃ r, Rch R h u r := fun u m => ⟨_, Rch.of_it fR (ok' u (List.mem_range.mpr ((mem u).mp (List.mem_append_left _ m))))⟩
      show (if _ then _ else _) = _
      unfold vk
      rw [if_pos ok, if_pos okv]
      refine hk _ _ fun u m => ?_
      exact (led_of (Rch.of_it fR (ok' u m))).symm
    · show (if _ then _ else _) = _
      unfold vk
      rw [if_neg ok, if_neg fun okv => ok (List.all_eq_true.mpr fun u m => decide_eq_true ?_)]
      have hu := List.mem_range.mp m
      rcases List.mem_append.mp ((mem u).mpr hu) with m2 | m2
      · obtain ⟨r, q⟩ := okv u m2
        rw [lead u hu r q]; exact q.mem
      · rw [it_fix (fR u m2)]; exact m2
  rw [e1, SW_roots (A := A) (A1 := w1 A R) (V := hds A n R) (W := fun _ => List.range n) (R := R) (fun r m => ⟨by unfold hds; rw [if_pos m], by unfold w1; rw [if_pos m]⟩) (fun x nx t => ?_) (List.range n) id List.nodup_range fun _ _ _ => rfl]
  · have e2 : ((List.range n).filter fun x => decide (x ∉ R)).Perm X := by
      have p := (hp.filter fun x => decide (x ∉ R)).symm
      have e3 : (X ++ R).filter (fun x => decide (x ∉ R)) = X := by
        have f1 : X.filter (fun x => decide (x ∉ R)) = X := List.filter_eq_self.mpr fun x m => decide_eq_true (p := x ∉ R) fun m2 => hd x m x m2 rfl
        have f2 : R.filter (fun x => decide (x ∉ R)) = [] := List.filter_eq_nil_iff.mpr fun x m => by simpa using m
        rw [List.filter_append, f1, f2, List.append_nil]
      rw [e3] at p
      exact p
    rw [SW_perm e2 ((List.nodup_range).filter _), SW_V (B := A) (W := fun _ => X ++ R) (g' := vk X R k) X (fun x _ t => sm_perm _ hp.symm) (fun _ => rfl)]
    exact SW_FS hn fun σ σ' h => hk σ σ' fun u m => h u ((mem u).mpr (List.mem_range.mp m))
  · unfold hds
    rw [if_neg nx, sm_filter]
    refine sm_congr fun y _ => ?_
    unfold w1
    rw [if_neg nx]
    by_cases e : 0 < A x y
    · rw [if_pos (decide_eq_true e)]
    · rw [if_neg (by rw [decide_eq_false e]; exact Bool.false_ne_true)]
      have z : A x y = 0 := by have := hA x y; omega
      rw [z]; grind
/-! ### signs -/
theorem sm_le {l : List Nat} {t s : Nat → Int} (h : ∀ a ∈ l, t a ≤ s a) : sm l t ≤ sm l s := by
  induction l with
  | nil => exact Int.le_refl _
  | cons a l ih =>
    rw [sm_cons, sm_cons]
    have h1 := h a List.mem_cons_self
    have h2 := ih fun b m => h b (List.mem_cons_of_mem _ m)
    omega
theorem mg_nn {A : Gr} (hA : ∀ x y, 0 ≤ A x y) (x y : Nat) : ∀ u v, 0 ≤ mg A x y u v := fun u v => by
  unfold mg
  by_cases e : v = y
  · rw [if_pos e]; have := hA u y; have := hA u x; subst e; omega
  · rw [if_neg e]; exact hA u v
theorem FS_le : ∀ {X : List Nat} {A : Gr} {R : List Nat} {k k' : (Nat → Nat) → Int}, (∀ x y, 0 ≤ A x y) → (∀ σ, k σ ≤ k' σ) → FS X A R k ≤ FS X A R k'
  | [], _, _, _, _, _, h => h id
  | x :: X, A, R, k, k', hA, h => sm_le fun y _ => Int.mul_le_mul_of_nonneg_left (FS_le (mg_nn hA x y) fun σ => h _) (hA x y)
theorem FS_nn {X : List Nat} {A : Gr} {R : List Nat} {k : (Nat → Nat) → Int} (hA : ∀ x y, 0 ≤ A x y) (h : ∀ σ, 0 ≤ k σ) : 0 ≤ FS X A R k := by
  have e := FS_le (X := X) (R := R) (k := fun _ => 0) hA h
  rw [FS_zero] at e
  exact e
/-! ### sizes -/
theorem E_bd {ρ : Type} (u : ρ) (M B : Int) (hM : 0 ≤ M) (hB : 0 ≤ B) : ∀ (l : List (Co ρ)) (f : List (Co ρ) → Int), (∀ c ∈ l, -M ≤ c u ∧ c u ≤ M) → (∀ l' : List (Co ρ), l'.Sublist l → -B ≤ f l' ∧ f l' ≤ B) → -((l.length : Int) * (M * B)) ≤ E u f l ∧ E u f l ≤ (l.length : Int) * (M * B)
  | [], f, _, _ => by simp [E]
  | c :: l, f, hc, hf => by
    have h1 := E_bd u M B hM hB l (fun l' => f (c :: l')) (fun d m => hc d (List.mem_cons_of_mem _ m)) (fun l' s => hf (c :: l') (s.cons_cons c))
    have h2 := hc c List.mem_cons_self
    have h3 := hf l (List.sublist_cons_self c l)
    have h4 : -(M * B) ≤ c u * f l ∧ c u * f l ≤ M * B := by
      have k : (c u * f l).natAbs ≤ (M * B).natAbs := by
        rw [Int.natAbs_mul, Int.natAbs_mul]
        exact Nat.mul_le_mul (by omega) (by omega)
      have k2 : 0 ≤ M * B := Int.mul_nonneg hM hB
      omega
    show _ ≤ c u * f l - E u (fun l' => f (c :: l')) l ∧ c u * f l - E u (fun l' => f (c :: l')) l ≤ _
    have e : ((c :: l).length : Int) * (M * B) = (l.length : Int) * (M * B) + M * B := by
      rw [List.length_cons]; push_cast; grind
    rw [e]
    omega
theorem det_bd {ρ : Type} (M : Int) (m : Nat) (hM : 1 ≤ M) (hm : 1 ≤ m) : ∀ (us : List ρ) (l : List (Co ρ)), (∀ u ∈ us, ∀ c ∈ l, -M ≤ c u ∧ c u ≤ M) → l.length ≤ m → -(((m : Int) * M) ^ us.length) ≤ det us l ∧ det us l ≤ ((m : Int) * M) ^ us.length
  | [], l, _, _ => by
    show _ ≤ base l ∧ base l ≤ _
    cases l <;> simp [base]
  | u :: us, l, h, hl => by
    have mM : 0 ≤ (m : Int) * M := Int.mul_nonneg (by omega) (by omega)
    have hB : 0 ≤ ((m : Int) * M) ^ us.length := Int.pow_nonneg mM
    have e := E_bd u M (((m : Int) * M) ^ us.length) (by omega) hB l (det us) (fun c hc => h u List.mem_cons_self c hc) fun l' s => det_bd M m hM hm us l' (fun v mv c mc => h v (List.mem_cons_of_mem _ mv) c (s.subset mc)) (Nat.le_trans s.length_le hl)
    have e2 : (l.length : Int) * (M * ((m : Int) * M) ^ us.length) ≤ ((m : Int) * M) ^ (us.length + 1) := by
      have k : (l.length : Int) ≤ m := by omega
      have k2 : 0 ≤ M * ((m : Int) * M) ^ us.length := Int.mul_nonneg (by omega) hB
      have k3 := Int.mul_le_mul_of_nonneg_right k k2
      have k4 : ((m : Int) * M) ^ (us.length + 1) = (m : Int) * (M * ((m : Int) * M) ^ us.length) := by rw [Int.pow_succ]; grind
      omega
    show _ ≤ E u (det us) l ∧ E u (det us) l ≤ _
    rw [List.length_cons]
    omega
end MT
set_option Elab.async false
set_option linter.all false
set_option maxRecDepth 100000
set_option maxHeartbeats 4000000
/-! Ma6: harmonic rows, one rate changed. -/
namespace MT
section
variable {A B : Gr} {X R : List Nat} {c v : Nat}
/-- the columns weighed with the replaced determinants -/
theorem cramer (hn : (X ++ R).Nodup) {u : Nat} (hu : u ∈ X) : sm X (fun w => lc A (X ++ R) w u * T A X R w c) = A u c * D A X R := by
  have hX := (List.nodup_append.mp hn).1
  have h := det_rep (s := u) (S := X) ((fun r => A r c) :: X.map (lc A (X ++ R))) hu
  have e : det (u :: X) ((fun r => A r c) :: X.map (lc A (X ++ R))) = A u c * det X (X.map (lc A (X ++ R))) - sm X (fun w => lc A (X ++ R) w u * det X (X.map (up (lc A (X ++ R)) w (fun r => A r c)))) := by
    rw [← E_move u (lc A (X ++ R)) (fun r => A r c) X (det X) hX (det_alt X)]; rfl
  rw [e] at h
  show sm X (fun w => lc A (X ++ R) w u * det X (X.map (up (lc A (X ++ R)) w (fun r => A r c)))) = A u c * det X (X.map (lc A (X ++ R)))
  omega
/-- a row of numbers weighed with the columns -/
theorem lc_sum (hn : (X ++ R).Nodup) {u : Nat} (hu : u ∈ X) (f : Nat → Int) : sm X (fun w => lc A (X ++ R) w u * f w) = sm (X ++ R) (fun y => A u y * (f u - f y)) + sm R (fun y => A u y * f y) := by
  have hX := (List.nodup_append.mp hn).1
  have e1 : sm X (fun w => lc A (X ++ R) w u * f w) = sm X (fun w => (if w = u then (dg A (X ++ R) u + A u u) * f u else 0) + - (A u w * f w)) := sm_congr fun w _ => by
    unfold lc
    by_cases e : w = u
    · subst e; rw [if_pos rfl, if_pos rfl]; grind
    · rw [if_neg (fun q => e q.symm), if_neg e]; grind
  have e2 : sm (X ++ R) (fun y => A u y * (f u - f y)) = (dg A (X ++ R) u + A u u) * f u + - sm (X ++ R) (fun y => A u y * f y) := by
    have k : dg A (X ++ R) u + A u u = sm (X ++ R) (A u) := by
      unfold dg
      have e3 : sm (X ++ R) (A u) = sm (X ++ R) (fun y => (if y = u then 0 else A u y) + (if y = u then A u u else 0)) := sm_congr fun y _ => by
        by_cases e : y = u
        · rw [if_pos e, if_pos e, e]; grind
        · rw [if_neg e, if_neg e]; grind
      rw [e3, sm_add, sm_one hn (List.mem_append_left _ hu)]
    rw [k, ← sm_mul, ← sm_neg, ← sm_add]
    exact sm_congr fun y _ => by grind
  rw [e1, sm_add, sm_one hX hu, e2, sm_neg, sm_app]; grind
theorem harm (hn : (X ++ R).Nodup) (hc : c ∈ R) {u : Nat} (hu : u ∈ X) : sm (X ++ R) (fun y => A u y * (FS X A R (fun σ => if σ u = c then 1 else 0) - FS X A R (fun σ => if σ y = c then 1 else 0))) = 0 := by
  have h1 := lc_sum (A := A) hn hu (fun y => FS X A R (fun σ => if σ y = c then 1 else 0))
  have h2 := cramer (A := A) (c := c) hn hu
  have h3 : sm X (fun w => lc A (X ++ R) w u * FS X A R (fun σ => if σ w = c then 1 else 0)) = sm X (fun w => lc A (X ++ R) w u * T A X R w c) := sm_congr fun w mw => by rw [T_FS hn mw hc]
  have h4 : sm R (fun y => A u y * FS X A R (fun σ => if σ y = c then 1 else 0)) = A u c * D A X R := by
    rw [← sm_one (List.nodup_append.mp hn).2.1 hc (A u c * D A X R)]
    refine sm_congr fun y m => ?_
    by_cases e : y = c
    · rw [if_pos e, e, D_FS hn, FS_congr (k' := fun _ => 1) hn fun σ hσ => by rw [hσ.1 c hc, if_pos rfl]]
    · rw [if_neg e, FS_congr (k' := fun _ => 0) hn fun σ hσ => by rw [hσ.1 y m, if_neg e], FS_zero]; exact Int.mul_zero _
  rw [h3, h2, h4] at h1
  omega
theorem det_comb (us : List Nat) (g : Nat → Co Nat) (f : Nat → Int) (hX : X.Nodup) (hv : v ∈ X) : ∀ Y : List Nat, det us (X.map (up g v (fun u => sm Y (fun w => g w u * f w)))) = sm Y (fun w => f w * det us (X.map (up g v (g w))))
  | [] => by
    have e := det_up us g (fun _ => 0) (fun _ => 0) 0 0 hX hv
    have z : (fun r : Nat => (0 : Int) * (fun _ => (0 : Int)) r + 0 * (fun _ => (0 : Int)) r) = fun u => sm [] (fun w => g w u * f w) := by funext r; simp [sm]
    rw [z] at e; rw [e, sm_nil]; grind
  | y :: Y => by
    have e := det_up us g (g y) (fun u => sm Y (fun w => g w u * f w)) (f y) 1 hX hv
    have z : (fun r : Nat => f y * g y r + 1 * sm Y (fun w => g w r * f w)) = fun u => sm (y :: Y) (fun w => g w u * f w) := by funext r; rw [sm_cons]; grind
    rw [z] at e; rw [e, det_comb us g f hX hv Y, sm_cons]; grind
/-- a harmonic row that is 0 at the roots is 0 -/
theorem uniq (hn : (X ++ R).Nodup) (hD : D A X R ≠ 0) {f : Nat → Int} (hR : ∀ r ∈ R, f r = 0) (hf : ∀ u ∈ X, sm (X ++ R) (fun y => A u y * (f u - f y)) = 0) (hv : v ∈ X) : f v = 0 := by
  have hX := (List.nodup_append.mp hn).1
  have h1 := det_comb X (lc A (X ++ R)) f hX hv X
  have h2 : ∀ u ∈ X, sm X (fun w => lc A (X ++ R) w u * f w) = 0 := fun u mu => by
    rw [lc_sum hn mu, hf u mu, sm_zero fun r m => by rw [hR r m]; exact Int.mul_zero _]; rfl
  obtain ⟨l1, l2, e⟩ := List.append_of_mem hv
  have n1 : v ∉ l1 ∧ v ∉ l2 := by
    rw [e] at hX
    have h := List.nodup_append.mp hX
    exact ⟨fun m => h.2.2 v m v List.mem_cons_self rfl, (List.nodup_cons.mp h.2.1).1⟩
  have k0 : ∀ (L : Nat → Co Nat) (d : Co Nat), X.map (up L v d) = l1.map L ++ d :: l2.map L := fun L d => by
    rw [e, List.map_append, List.map_cons, up_same, map_up_not n1.1, map_up_not n1.2]
  have k : ∀ d : Co Nat, X.map (up (lc A (X ++ R)) v d) = l1.map (lc A (X ++ R)) ++ d :: l2.map (lc A (X ++ R)) := k0 _
  rw [k, det_col0 h2] at h1
  have h3 : sm X (fun w => f w * det X (X.map (up (lc A (X ++ R)) v (lc A (X ++ R) w)))) = f v * D A X R := by
    rw [← sm_one hX hv (f v * D A X R)]
    refine sm_congr fun w mw => ?_
    by_cases ew : w = v
    · rw [if_pos ew, ew]
      have e2 : up (lc A (X ++ R)) v (lc A (X ++ R) v) = lc A (X ++ R) := by
        funext z; unfold up; by_cases e : z = v
        · rw [if_pos e, e]
        · rw [if_neg e]
      rw [e2]; rfl
    · rw [if_neg ew, k, alt_mem (det_alt X)]
      · exact Int.mul_zero _
      · rw [e] at mw
        rcases List.mem_append.mp mw with m | m
        · exact .inl (List.mem_map_of_mem m)
        · rcases List.mem_cons.mp m with m | m
          · exact absurd m ew
          · exact .inr (List.mem_map_of_mem m)
  rw [h3] at h1
  rcases Int.mul_eq_zero.mp h1.symm with q | q
  · exact q
  · exact absurd q hD
/-- only the rows of the states that are no roots tell -/
theorem FS_rows : ∀ {X : List Nat} {A B : Gr} {R : List Nat} {k : (Nat → Nat) → Int}, (∀ u ∈ X, ∀ v, A u v = B u v) → FS X A R k = FS X B R k
  | [], _, _, _, _, _ => rfl
  | x :: X, A, B, R, k, h => sm_congr fun y _ => by
    rw [h x List.mem_cons_self, FS_rows fun u mu v => ?_]
    unfold mg
    rw [h u (List.mem_cons_of_mem _ mu), h u (List.mem_cons_of_mem _ mu), h u (List.mem_cons_of_mem _ mu)]
theorem FS_permX {Y : List Nat} {k : (Nat → Nat) → Int} (p : X.Perm Y) (hn : (X ++ R).Nodup) (hk : Loc (X ++ R) k) : FS X A R k = FS Y A R k := by
  have pp : (X ++ R).Perm (Y ++ R) := p.append_right R
  have hn' : (Y ++ R).Nodup := pp.nodup_iff.mp hn
  have hk' : Loc (Y ++ R) k := fun σ σ' h => hk σ σ' fun u m => h u (pp.mem_iff.mp m)
  rw [← SW_FS hn hk, ← SW_FS hn' hk', SW_perm p (List.nodup_append.mp hn).1]
  refine SW_V Y (fun x _ t => sm_perm _ pp) (fun h => ?_) id
  unfold vk
  by_cases ok : ∀ u ∈ X, ∃ r, Rch R h u r
  · rw [if_pos ok, if_pos fun u m => ok u (p.mem_iff.mpr m)]
  · rw [if_neg ok, if_neg fun q => ok fun u m => q u (p.mem_iff.mp m)]
end
theorem FS_ext : ∀ {X : List Nat} {A B : Gr} {R : List Nat} {k : (Nat → Nat) → Int}, (∀ u ∈ X, ∀ v ∈ X ++ R, A u v = B u v) → FS X A R k = FS X B R k
  | [], _, _, _, _, _ => rfl
  | x :: X, A, B, R, k, h => sm_congr fun y my => by
    rw [h x List.mem_cons_self y (List.mem_cons_of_mem _ my), FS_ext fun u mu v mv => ?_]
    unfold mg
    rw [h u (List.mem_cons_of_mem _ mu) y (List.mem_cons_of_mem _ my), h u (List.mem_cons_of_mem _ mu) x List.mem_cons_self, h u (List.mem_cons_of_mem _ mu) v (List.mem_cons_of_mem _ mv)]
/-- merging a state into y, told by the forests that have it as a root -/
theorem FS_cut : ∀ {X : List Nat} {A : Gr} {R : List Nat} {q y : Nat} {k : (Nat → Nat) → Int}, (q :: (X ++ R)).Nodup → y ∈ X ++ R → Loc (X ++ R) k →
    FS X (mg A q y) R k = FS X A (q :: R) (fun σ => if σ y = q then 0 else k (fun u => if σ u = q then σ y else σ u))
  | [], A, R, q, y, k, hn, hy, hk => by
    have hq := (List.nodup_cons.mp hn).1
    show k id = if y = q then 0 else k (fun u => if u = q then y else u)
    rw [if_neg fun e => hq (by rw [← e]; exact hy)]
    exact hk _ _ fun u m => by
      show u = if u = q then y else u
      rw [if_neg fun e => hq (by rw [← e]; exact m)]
  | x :: X, A, R, q, y, k, hn, hy, hk => by
    have hq := (List.nodup_cons.mp hn).1
    have hn1 := (List.nodup_cons.mp hn).2
    have hx := (List.nodup_cons.mp hn1).1
    have hn2 : (X ++ R).Nodup := (List.nodup_cons.mp hn1).2
    have hqx : q ≠ x := fun e => hq (by rw [e]; exact List.mem_cons_self)
    have hq' : q ∉ X ++ R := fun m => hq (List.mem_cons_of_mem _ m)
    have hn3 : (q :: (X ++ R)).Nodup := List.nodup_cons.mpr ⟨hq', hn2⟩
    have hn4 : (X ++ q :: R).Nodup := List.perm_middle.nodup_iff.mpr hn3
    have hkz : ∀ z ∈ X ++ R, Loc (X ++ R) (fun σ => k (fun u => if u = x then σ z else σ u)) := fun z mz σ σ' h => hk _ _ fun u mu => by
      by_cases e : u = x
      · rw [if_pos e, if_pos e]; exact h z mz
      · rw [if_neg e, if_neg e]
        rcases List.mem_cons.mp mu with e' | mu
        · exact absurd e' e
        · exact h u mu
    have ne_x : ∀ z ∈ X ++ R, z ≠ x := fun z mz e => hx (by rw [← e]; exact mz)
    have ne_q : ∀ z ∈ X ++ R, z ≠ q := fun z mz e => hq' (by rw [← e]; exact mz)
    show sm (X ++ R) (fun z => mg A q y x z * FS X (mg (mg A q y) x z) R (fun σ => k (fun u => if u = x then σ z else σ u))) =
      sm (X ++ q :: R) (fun z => A x z * FS X (mg A x z) (q :: R) (fun σ => if (if y = x then σ z else σ y) = q then 0 else k (fun u => if (if u = x then σ z else σ u) = q then (if y = x then σ z else σ y) else (if u = x then σ z else σ u))))
    have esum : ∀ t : Nat → Int, sm (X ++ q :: R) t = t q + sm (X ++ R) t := fun t => by rw [sm_perm t List.perm_middle, sm_cons]
    rw [esum]
    by_cases e : y = x
    · subst e
      have h0 : A y q * FS X (mg A y q) (q :: R) (fun σ => if (if y = y then σ q else σ y) = q then 0 else k (fun u => if (if u = y then σ q else σ u) = q then (if y = y then σ q else σ y) else (if u = y then σ q else σ u))) = 0 := by
        rw [FS_congr (k' := fun _ => 0) hn4 fun σ hσ => ?_, FS_zero]
        · exact Int.mul_zero _
        · rw [if_pos rfl, hσ.1 q List.mem_cons_self, if_pos rfl]
      rw [h0, Int.zero_add]
      refine sm_congr fun z mz => ?_
      have c1 : mg A q y y z = A y z := by unfold mg; rw [if_neg (ne_x z mz)]
      have c2 : FS X (mg (mg A q y) y z) R (fun σ => k (fun u => if u = y then σ z else σ u)) = FS X (mg (mg A y z) q z) R (fun σ => k (fun u => if u = y then σ z else σ u)) := FS_ext fun u mu v mv => by
        unfold mg
        by_cases e1 : v = z
        · rw [if_pos e1, if_pos e1, if_neg (ne_x z mz), if_pos rfl, if_pos rfl, if_neg (fun e => ne_q z mz e.symm)]; grind
        · rw [if_neg e1, if_neg e1, if_neg e1, if_neg (ne_x v mv)]
      rw [c1, c2, FS_cut hn3 mz (hkz z mz)]
      congr 1
      refine FS_congr hn4 fun σ hσ => ?_
      rw [if_pos rfl]
      by_cases e2 : σ z = q
      · rw [if_pos e2, if_pos e2]
      · rw [if_neg e2, if_neg e2]
        congr 1
        funext u
        by_cases e3 : u = y
        · simp [e3, e2]
        · simp [e3]
    · have hy' : y ∈ X ++ R := by
        rcases List.mem_cons.mp hy with q | q
        · exact absurd q e
        · exact q
      have hz : ∀ z ∈ X ++ R, mg A q y x z * FS X (mg (mg A q y) x z) R (fun σ => k (fun u => if u = x then σ z else σ u)) =
          A x z * FS X (mg A x z) (q :: R) (fun σ => if (if y = x then σ z else σ y) = q then 0 else k (fun u => if (if u = x then σ z else σ u) = q then (if y = x then σ z else σ y) else (if u = x then σ z else σ u))) +
          (if z = y then A x q * FS X (mg (mg A q y) x y) R (fun σ => k (fun u => if u = x then σ y else σ u)) else 0) := fun z mz => by
        have c2 : FS X (mg (mg A q y) x z) R (fun σ => k (fun u => if u = x then σ z else σ u)) = FS X (mg (mg A x z) q y) R (fun σ => k (fun u => if u = x then σ z else σ u)) := FS_ext fun u mu v mv => by
          unfold mg
          by_cases e1 : v = z
          · by_cases e2 : v = y
            · rw [if_pos e1, if_pos e2, if_pos (e1.symm.trans e2), if_neg (fun q => e q.symm), if_pos (e2.symm.trans e1), if_neg (fun e => ne_q z mz e.symm)]
              rw [← e1, ← e2]; grind
            · rw [if_pos e1, if_neg e2, if_neg (fun q => e2 (e1.trans q)), if_neg (fun q => e q.symm), if_pos e1]
          · rw [if_neg e1]
            by_cases e2 : v = y
            · rw [if_pos e2, if_pos e2, if_neg (fun q => e1 (e2.trans q)), if_neg (fun e => ne_q z mz e.symm)]
            · rw [if_neg e2, if_neg e2, if_neg e1]
        have c3 : FS X (mg (mg A x z) q y) R (fun σ => k (fun u => if u = x then σ z else σ u)) = FS X (mg A x z) (q :: R) (fun σ => if (if y = x then σ z else σ y) = q then 0 else k (fun u => if (if u = x then σ z else σ u) = q then (if y = x then σ z else σ y) else (if u = x then σ z else σ u))) := by
          rw [FS_cut hn3 hy' (hkz z mz)]
          refine FS_congr hn4 fun σ hσ => ?_
          rw [if_neg e]
          by_cases e2 : σ y = q
          · rw [if_pos e2, if_pos e2]
          · rw [if_neg e2, if_neg e2]
            congr 1
            funext u
            by_cases e3 : u = x
            · rw [if_pos e3, if_pos e3]
            · rw [if_neg e3, if_neg e3]
        by_cases e2 : z = y
        · subst e2
          rw [if_pos rfl]
          have c4 : mg A q z x z = A x z + A x q := by unfold mg; rw [if_pos rfl]
          rw [c4, c2, c3]; grind
        · rw [if_neg e2]
          have c4 : mg A q y x z = A x z := by unfold mg; rw [if_neg e2]
          rw [c4, c2, c3]; grind
      rw [sm_congr hz, sm_add, sm_one hn2 hy']
      have c5 : FS X (mg (mg A q y) x y) R (fun σ => k (fun u => if u = x then σ y else σ u)) = FS X (mg (mg A x q) q y) R (fun σ => k (fun u => if u = x then σ y else σ u)) := FS_ext fun u mu v mv => by
        unfold mg
        by_cases e1 : v = y
        · rw [if_pos e1, if_pos e1, if_pos rfl, if_neg (fun q => e q.symm), if_neg (ne_q y hy'), if_pos rfl]; grind
        · rw [if_neg e1, if_neg e1, if_neg e1, if_neg (ne_q v mv)]
      have c6 : FS X (mg (mg A x q) q y) R (fun σ => k (fun u => if u = x then σ y else σ u)) = FS X (mg A x q) (q :: R) (fun σ => if (if y = x then σ q else σ y) = q then 0 else k (fun u => if (if u = x then σ q else σ u) = q then (if y = x then σ q else σ y) else (if u = x then σ q else σ u))) := by
        rw [FS_cut hn3 hy' (hkz y hy')]
        refine FS_congr hn4 fun σ hσ => ?_
        rw [if_neg e, hσ.1 q List.mem_cons_self]
        by_cases e2 : σ y = q
        · rw [if_pos e2, if_pos e2]
        · rw [if_neg e2, if_neg e2]
          congr 1
          funext u
          by_cases e3 : u = x
          · simp [e3, e2]
          · simp [e3]
      rw [c5, c6]; grind
/-! ### one rate changed -/
theorem sm_hm {V : List Nat} {a f1 f2 f3 : Nat → Int} {u : Nat} (x1 x2 x3 : Int) (h1 : sm V (fun y => a y * (f1 u - f1 y)) = 0) (h2 : sm V (fun y => a y * (f2 u - f2 y)) = 0) (h3 : sm V (fun y => a y * (f3 u - f3 y)) = 0) :
    sm V (fun y => a y * ((x1 * f1 u + x2 * f2 u + x3 * f3 u) - (x1 * f1 y + x2 * f2 y + x3 * f3 y))) = 0 := by
  have e : sm V (fun y => a y * ((x1 * f1 u + x2 * f2 u + x3 * f3 u) - (x1 * f1 y + x2 * f2 y + x3 * f3 y))) = sm V (fun y => x1 * (a y * (f1 u - f1 y)) + (x2 * (a y * (f2 u - f2 y)) + x3 * (a y * (f3 u - f3 y)))) := sm_congr fun y _ => by grind
  rw [e, sm_add, sm_add, sm_mulL, sm_mulL, sm_mulL, h1, h2, h3]; grind
section
variable {A : Gr} {X R : List Nat} {q h c : Nat}
theorem FS_at (hn : (X ++ R).Nodup) {x : Nat} (hx : x ∈ R) : FS X A R (fun σ => if σ x = c then 1 else 0) = if x = c then FS X A R (fun _ => 1) else 0 := by
  by_cases e : x = c
  · rw [if_pos e]
    exact FS_congr hn fun σ hσ => by rw [hσ.1 x hx, if_pos e]
  · rw [if_neg e, FS_congr (k' := fun _ => 0) hn fun σ hσ => by rw [hσ.1 x hx, if_neg e], FS_zero]
theorem key (hA : ∀ x y, 0 ≤ A x y) (hn : (q :: (X ++ R)).Nodup) (hh : h ∈ X ++ R) (hc : c ∈ R) {x : Nat} (hx : x ∈ q :: (X ++ R)) :
    FS (q :: X) A R (fun _ => 1) * FS X (mg A q h) R (fun σ => if (if x = q then σ h else σ x) = c then 1 else 0) - FS X (mg A q h) R (fun _ => 1) * FS (q :: X) A R (fun σ => if σ x = c then 1 else 0) =
      FS X A (q :: R) (fun σ => if σ x = q then 1 else 0) * (FS (q :: X) A R (fun σ => if σ h = c then 1 else 0) - FS (q :: X) A R (fun σ => if σ q = c then 1 else 0)) := by
  have hq := (List.nodup_cons.mp hn).1
  have hn2 : (X ++ R).Nodup := (List.nodup_cons.mp hn).2
  have hnF : (q :: X ++ R).Nodup := hn
  have pm : (X ++ q :: R).Perm (q :: X ++ R) := List.perm_middle
  have hn3 : (X ++ q :: R).Nodup := pm.nodup_iff.mpr hn
  have ne_q : ∀ z ∈ X ++ R, z ≠ q := fun z mz e => hq (by rw [← e]; exact mz)
  have hcq : c ≠ q := ne_q c (List.mem_append_right _ hc)
  have hhq : h ≠ q := ne_q h hh
  -- the table whose row q is one arrow to h
  let Au : Gr := fun u v => if u = q then (if v = h then 1 else 0) else A u v
  have eAu : ∀ k : (Nat → Nat) → Int, FS (q :: X) Au R k = FS X (mg A q h) R (fun σ => k (fun u => if u = q then σ h else σ u)) := fun k => by
    show sm (X ++ R) (fun y => (if q = q then (if y = h then 1 else 0) else A q y) * FS X (mg Au q y) R (fun σ => k (fun u => if u = q then σ y else σ u))) = _
    rw [← sm_one hn2 hh (FS X (mg A q h) R (fun σ => k (fun u => if u = q then σ h else σ u)))]
    refine sm_congr fun y my => ?_
    rw [if_pos rfl]
    by_cases e : y = h
    · rw [if_pos e, if_pos e, e, Int.one_mul]
      refine FS_rows fun u mu v => ?_
      have huq : u ≠ q := ne_q u (List.mem_append_left _ mu)
      show (if v = h then (if u = q then (if h = h then 1 else 0) else A u h) + (if u = q then (if q = h then 1 else 0) else A u q) else (if u = q then (if v = h then 1 else 0) else A u v)) = _
      rw [if_neg huq, if_neg huq, if_neg huq]; rfl
    · rw [if_neg e, if_neg e, Int.zero_mul]
  let P : Nat → Int := fun x => FS (q :: X) A R (fun σ => if σ x = c then 1 else 0)
  let Ph : Nat → Int := fun x => FS (q :: X) Au R (fun σ => if σ x = c then 1 else 0)
  let G : Nat → Int := fun x => FS X A (q :: R) (fun σ => if σ x = q then 1 else 0)
  let H : Nat → Int := fun x => FS X A (q :: R) (fun σ => if σ x = c then 1 else 0)
  generalize hF : FS (q :: X) A R (fun _ => 1) = F
  generalize hFh : FS X (mg A q h) R (fun _ => 1) = Fh
  generalize hFq : FS X A (q :: R) (fun _ => 1) = Fq
  have ePh : ∀ x, FS X (mg A q h) R (fun σ => if (if x = q then σ h else σ x) = c then 1 else 0) = Ph x := fun x => (eAu fun σ => if σ x = c then 1 else 0).symm
  have eFh : FS (q :: X) Au R (fun _ => 1) = Fh := by rw [eAu, hFh]
  rw [ePh x]
  show F * Ph x - Fh * P x = G x * (P h - P q)
  -- at the roots
  have Pr : ∀ r ∈ R, P r = if r = c then F else 0 := fun r m => by rw [← hF]; exact FS_at hnF m
  have Phr : ∀ r ∈ R, Ph r = if r = c then Fh else 0 := fun r m => by rw [← eFh]; exact FS_at hnF m
  have Gr_ : ∀ r ∈ q :: R, G r = if r = q then Fq else 0 := fun r m => by rw [← hFq]; exact FS_at hn3 m
  have Hr : ∀ r ∈ q :: R, H r = if r = c then Fq else 0 := fun r m => by rw [← hFq]; exact FS_at hn3 m
  have locc : ∀ y ∈ X ++ R, Loc (X ++ R) (fun σ => if σ y = c then 1 else 0) := fun y my σ σ' k => by
    show (if σ y = c then (1 : Int) else 0) = if σ' y = c then 1 else 0
    rw [k y my]
  -- F is a sum over q's arrows
  have cut1 : ∀ y ∈ X ++ R, FS X (mg A q y) R (fun _ => 1) = Fq - G y := fun y my => by
    rw [FS_cut hn my (fun _ _ _ => rfl), ← hFq]
    have e := FS_lin (X := X) (A := A) (R := q :: R) (fun _ => 1) (fun σ => if σ y = q then 1 else 0) 1 (-1)
    have e2 : (fun σ : Nat → Nat => (1 : Int) * (fun _ => (1 : Int)) σ + -1 * (fun σ : Nat → Nat => if σ y = q then (1 : Int) else 0) σ) = fun σ => if σ y = q then 0 else 1 := by
      funext σ
      by_cases e : σ y = q
      · simp [e]
      · simp [e]
    rw [e2] at e
    rw [e]
    show _ = _ - G y
    show 1 * _ + -1 * G y = _
    grind
  by_cases F0 : F = 0
  · have z : ∀ y, P y = 0 := fun y => by
      have h1 : 0 ≤ P y := FS_nn hA fun σ => by by_cases e : σ y = c <;> simp [e]
      have h2 : P y ≤ F := by rw [← hF]; exact FS_le hA fun σ => by by_cases e : σ y = c <;> simp [e]
      omega
    rw [F0, z x, z h, z q]; grind
  · have Fq0 : Fq ≠ 0 := fun e => F0 (by
      rw [← hF]
      show sm (X ++ R) (fun y => A q y * FS X (mg A q y) R (fun _ => 1)) = 0
      refine sm_zero fun y my => ?_
      have h1 : 0 ≤ G y := FS_nn hA fun σ => by by_cases e : σ y = q <;> simp [e]
      have h2 : 0 ≤ FS X (mg A q y) R (fun _ => 1) := FS_nn (mg_nn hA q y) fun _ => by decide
      have h3 := cut1 y my
      have h4 : FS X (mg A q y) R (fun _ => 1) = 0 := by omega
      rw [h4]; exact Int.mul_zero _)
    have hD : D A X (q :: R) ≠ 0 := by rw [D_FS hn3, hFq]; exact Fq0
    have hmP : ∀ u ∈ X, sm (X ++ q :: R) (fun y => A u y * (P u - P y)) = 0 := fun u mu => by
      rw [sm_perm _ pm]
      exact harm hnF hc (List.mem_cons_of_mem _ mu)
    have hmPh : ∀ u ∈ X, sm (X ++ q :: R) (fun y => A u y * (Ph u - Ph y)) = 0 := fun u mu => by
      rw [sm_perm _ pm, ← harm (A := Au) hnF hc (List.mem_cons_of_mem _ mu)]
      refine sm_congr fun y _ => ?_
      show _ = (if u = q then _ else A u y) * _
      rw [if_neg (ne_q u (List.mem_append_left _ mu))]
    have hmG : ∀ u ∈ X, sm (X ++ q :: R) (fun y => A u y * (G u - G y)) = 0 := fun u mu => harm hn3 List.mem_cons_self mu
    have hmH : ∀ u ∈ X, sm (X ++ q :: R) (fun y => A u y * (H u - H y)) = 0 := fun u mu => harm hn3 (List.mem_cons_of_mem _ hc) mu
    have Pc := Pr c hc
    rw [if_pos rfl] at Pc
    have Gq := Gr_ q List.mem_cons_self
    rw [if_pos rfl] at Gq
    have Hq := Hr q List.mem_cons_self
    rw [if_neg fun e => hcq e.symm] at Hq
    -- the first identity
    have S1 : ∀ y ∈ q :: (X ++ R), Fq * P y + (- P q) * G y + (-F) * H y = 0 := fun y my => by
      have bq : Fq * P q + (- P q) * G q + (-F) * H q = 0 := by rw [Gq, Hq]; grind
      have br : ∀ r ∈ R, Fq * P r + (- P q) * G r + (-F) * H r = 0 := fun r m => by
        rw [Pr r m, Gr_ r (List.mem_cons_of_mem _ m), Hr r (List.mem_cons_of_mem _ m), if_neg (ne_q r (List.mem_append_right _ m))]
        by_cases e : r = c
        · rw [if_pos e, if_pos e]; grind
        · rw [if_neg e, if_neg e]; grind
      rcases List.mem_cons.mp my with e | my
      · rw [e]; exact bq
      · rcases List.mem_append.mp my with m | m
        · exact uniq (f := fun y => Fq * P y + (- P q) * G y + (-F) * H y) hn3 hD (fun r mr => by
            rcases List.mem_cons.mp mr with e | mr
            · rw [e]; exact bq
            · exact br r mr) (fun u mu => sm_hm Fq (- P q) (-F) (hmP u mu) (hmG u mu) (hmH u mu)) m
        · exact br y m
    -- the rows behind q's only arrow
    have Phq : Ph q = H h := by
      have e0 : (fun σ : Nat → Nat => if (if q = q then σ h else σ q) = c then (1 : Int) else 0) = fun σ => if σ h = c then 1 else 0 := by funext σ; simp
      rw [← ePh q, e0, FS_cut hn hh (locc h hh)]
      refine FS_congr hn3 fun σ hσ => ?_
      by_cases e : σ h = q
      · rw [if_pos e, e, if_neg fun e => hcq e.symm]
      · rw [if_neg e]
        show (if (if σ h = q then σ h else σ h) = c then (1 : Int) else 0) = _
        rw [if_neg e]
    have eF := cut1 h hh
    rw [hFh] at eF
    have S1h := S1 h (List.mem_cons_of_mem _ hh)
    have S2 : F * Ph x + (-Fh) * P x + (-(P h - P q)) * G x = 0 := by
      have bq : F * Ph q + (-Fh) * P q + (-(P h - P q)) * G q = 0 := by rw [Phq, Gq, eF]; grind
      have br : ∀ r ∈ R, F * Ph r + (-Fh) * P r + (-(P h - P q)) * G r = 0 := fun r m => by
        rw [Pr r m, Phr r m, Gr_ r (List.mem_cons_of_mem _ m), if_neg (ne_q r (List.mem_append_right _ m))]
        by_cases e : r = c
        · rw [if_pos e, if_pos e]; grind
        · rw [if_neg e, if_neg e]; grind
      rcases List.mem_cons.mp hx with e | mx
      · rw [e]; exact bq
      · rcases List.mem_append.mp mx with m | m
        · exact uniq (f := fun y => F * Ph y + (-Fh) * P y + (-(P h - P q)) * G y) hn3 hD (fun r mr => by
            rcases List.mem_cons.mp mr with e | mr
            · rw [e]; exact bq
            · exact br r mr) (fun u mu => sm_hm F (-Fh) (-(P h - P q)) (hmPh u mu) (hmP u mu) (hmG u mu)) m
        · exact br x m
    grind
/-- the sums of a table whose rate from q to h was changed -/
theorem FS_change {A' : Gr} {δ : Int} {k : (Nat → Nat) → Int} (hn : (q :: (X ++ R)).Nodup) (hh : h ∈ X ++ R) (hq : A' q h = A q h + δ) (ho : ∀ u v, ¬ (u = q ∧ v = h) → A' u v = A u v) :
    FS (q :: X) A' R k = FS (q :: X) A R k + δ * FS X (mg A q h) R (fun σ => k (fun u => if u = q then σ h else σ u)) := by
  have hn2 : (X ++ R).Nodup := (List.nodup_cons.mp hn).2
  have nq : ∀ u ∈ X, u ≠ q := fun u mu e => (List.nodup_cons.mp hn).1 (by rw [← e]; exact List.mem_append_left _ mu)
  show sm (X ++ R) (fun y => A' q y * FS X (mg A' q y) R (fun σ => k (fun u => if u = q then σ y else σ u))) = sm (X ++ R) (fun y => A q y * FS X (mg A q y) R (fun σ => k (fun u => if u = q then σ y else σ u))) + _
  rw [← sm_one hn2 hh (δ * FS X (mg A q h) R (fun σ => k (fun u => if u = q then σ h else σ u))), ← sm_add]
  refine sm_congr fun y my => ?_
  have e1 : FS X (mg A' q y) R (fun σ => k (fun u => if u = q then σ y else σ u)) = FS X (mg A q y) R (fun σ => k (fun u => if u = q then σ y else σ u)) := FS_rows fun u mu v => by
    unfold mg
    rw [ho u y fun e => nq u mu e.1, ho u q fun e => nq u mu e.1, ho u v fun e => nq u mu e.1]
  rw [e1]
  by_cases e : y = h
  · rw [if_pos e, e, hq]; grind
  · rw [if_neg e, ho q y fun q => e q.2]; grind
end
end MT
set_option Elab.async false
set_option linter.all false
set_option maxRecDepth 100000
set_option maxHeartbeats 4000000
/-! Mb0: what the mirrors' parts come to. -/
namespace MB
open PySem L2 LW
theorem lt_eq {α β : Type} (e : α) (f : α → Option β) : lt e f = f e := rfl
theorem ob {α β : Type} {m : Option α} {x : α} {f : α → Option β} (h : m = some x) : Option.bind m f = f x := by rw [h]; rfl
def zs (l : List Nat) : List Int := l.map fun (i : Nat) => (i : Int)
theorem zs_len (l : List Nat) : (zs l).length = l.length := by unfold zs; rw [List.length_map]
theorem ixN_nat {n i : Nat} (h : i < n) : ixN n (i : Int) = some i := by
  unfold ixN
  rw [if_pos (by omega), if_pos (by omega), Int.toNat_natCast]
theorem atI_nat {α : Type} (xs : List α) (i : Nat) (h : i < xs.length) : atI xs (i : Int) = some xs[i] := by
  unfold atI
  rw [ixN_nat h]
  show xs[i]? = _
  simp [h]
theorem atI_get {α : Type} {xs : List α} {i : Nat} {x : α} (h : xs[i]? = some x) : atI xs (i : Int) = some x := by
  obtain ⟨h1, h2⟩ := List.getElem?_eq_some_iff.mp h
  rw [atI_nat xs i h1, h2]
theorem atI_0 {α : Type} (x : α) (xs : List α) : atI (x :: xs) 0 = some x := atI_get (i := 0) rfl
theorem atI_1 {α : Type} (x y : α) (xs : List α) : atI (x :: y :: xs) 1 = some y := atI_get (i := 1) rfl
theorem rng_eq (lo n : Nat) (h : lo ≤ n) : rng (lo : Int) (n : Int) = zs (List.range' lo (n - lo)) := by
  unfold rng zs
  have e : ((n : Int) - (lo : Int)).toNat = n - lo := by omega
  rw [e, List.range'_eq_map_range, List.map_map]
  refine List.map_congr_left fun i _ => ?_
  show (lo : Int) + (i : Int) = ((lo + i : Nat) : Int)
  omega
theorem rngO_nat (n : Nat) (h : n ≤ 1000000) : rngO 0 (n : Int) = some (zs (List.range n)) := by
  unfold rngO
  rw [if_pos (by omega)]
  have e := rng_eq 0 n (Nat.zero_le _)
  rw [Nat.sub_zero, ← List.range_eq_range'] at e
  exact congrArg some e
theorem rngO_from (lo n : Nat) (h : n ≤ 1000000) (hl : lo ≤ n) : rngO (lo : Int) (n : Int) = some (zs (List.range' lo (n - lo))) := by
  unfold rngO
  rw [if_pos (by omega), rng_eq lo n hl]
theorem lnO_eq {α : Type} {n : Nat} {xs : List α} (h : xs.length ≤ n) : lnO n xs = some xs := if_pos h
theorem lenO_eq {α : Type} {xs : List α} (h : xs.length ≤ 1000000) : lenO xs = some xs := if_pos h
theorem appO_eq {α : Type} {xs : List α} {x : α} (h : xs.length < 1000000) : appO xs x = some (xs ++ [x]) := if_pos h
theorem mulO_eq {i j : Int} (h : i.natAbs.log2 + j.natAbs.log2 < 1000000) : mulO i j = some (i * j) := if_pos h
theorem divO_eq {i j : Int} (h : j ≠ 0 ∧ j.natAbs.log2 < 9000) : divO i j = some (i.fdiv j) := if_pos h
theorem modO_eq {i j : Int} (h : 0 < j) : modO i j = some (i % j) := if_pos h
theorem log2_lt {i : Int} {b : Nat} (hb : 0 < b) (h : i.natAbs < 2 ^ b) : i.natAbs.log2 < b := PySem.Flt.log2_lt_of hb h
theorem mapO_eq {α β : Type} {f : α → Option β} {g : α → β} : ∀ {xs : List α}, (∀ x ∈ xs, f x = some (g x)) → mapO f xs = some (xs.map g)
  | [], _ => rfl
  | x :: xs, h => by
    show Option.bind (f x) _ = _
    rw [h x List.mem_cons_self, Option.bind_some, mapO_eq (g := g) fun y m => h y (List.mem_cons_of_mem _ m)]; rfl
theorem filtO_eq {α β : Type} {f : α → Option (Option β)} {c : α → Bool} {g : α → β} : ∀ {xs : List α}, (∀ x ∈ xs, f x = some (if c x = true then some (g x) else none)) → filtO f xs = some ((xs.filter c).map g)
  | [], _ => rfl
  | x :: xs, h => by
    show Option.bind (f x) _ = _
    rw [h x List.mem_cons_self, Option.bind_some, filtO_eq (c := c) (g := g) fun y m => h y (List.mem_cons_of_mem _ m), List.filter_cons]
    by_cases e : c x = true
    · rw [if_pos e, if_pos e]; rfl
    · rw [if_neg e, if_neg e]; rfl
/-- a loop that goes through, by what stands at its head -/
theorem forO_inv {α β : Type} {step : α → β → Option β} (I : Nat → β → Prop) : ∀ {xs : List α} {k : Nat} {b : β}, I k b → (∀ i x b, xs[i]? = some x → I (k + i) b → ∃ b', step x b = some b' ∧ I (k + i + 1) b') → ∃ b', forO step xs b = some b' ∧ I (k + xs.length) b'
  | [], k, b, h, _ => ⟨b, rfl, h⟩
  | x :: xs, k, b, h, hs => by
    obtain ⟨b1, e1, h1⟩ := hs 0 x b rfl h
    obtain ⟨b2, e2, h2⟩ := forO_inv (step := step) I (xs := xs) (k := k + 1) (b := b1) h1 fun i y b hy hb => by
      have e : k + 1 + i = k + (i + 1) := by omega
      rw [e] at hb
      have q := hs (i + 1) y b (by simpa using hy) hb
      have e2 : k + 1 + i + 1 = k + (i + 1) + 1 := by omega
      rw [e2]; exact q
    refine ⟨b2, ?_, ?_⟩
    · show Option.bind (step x b) _ = _
      rw [e1, Option.bind_some]; exact e2
    · have e : k + 1 + xs.length = k + (x :: xs).length := by rw [List.length_cons]; omega
      rw [e] at h2; exact h2
theorem forO_fold {α β : Type} {step : α → β → Option β} {f : α → β → β} : ∀ {xs : List α} {b : β}, (∀ x ∈ xs, ∀ b, step x b = some (f x b)) → forO step xs b = some (xs.foldl (fun b x => f x b) b)
  | [], b, _ => rfl
  | x :: xs, b, h => by
    show Option.bind (step x b) _ = _
    rw [h x List.mem_cons_self, Option.bind_some, forO_fold fun y m => h y (List.mem_cons_of_mem _ m)]; rfl
/-- a loop that seeks -/
theorem forC_find {α ρ : Type} {step : α → Unit → Option (Ctl Unit ρ)} {p : α → Bool} {f : α → ρ} : ∀ {xs : List α}, (∀ x ∈ xs, step x () = some (if p x = true then .rt (f x) else .nx ())) → forC step xs () = some (match xs.find? p with | some x => .rt (f x) | none => .nx ())
  | [], _ => rfl
  | x :: xs, h => by
    show Option.bind (step x ()) _ = _
    rw [h x List.mem_cons_self, Option.bind_some, List.find?_cons]
    by_cases e : p x = true
    · rw [if_pos e, e]
    · rw [if_neg e]
      have e' : p x = false := by simpa using e
      rw [e']
      exact forC_find fun y m => h y (List.mem_cons_of_mem _ m)
/-- a loop with an invariant that may hand back -/
theorem forC_inv {α β ρ : Type} {step : α → β → Option (Ctl β ρ)} (I : Nat → β → Prop) (J : ρ → Prop) : ∀ {xs : List α} {k : Nat} {b : β}, I k b → (∀ i x b, xs[i]? = some x → I (k + i) b → (∃ b', step x b = some (.nx b') ∧ I (k + i + 1) b') ∨ ∃ r, step x b = some (.rt r) ∧ J r) →
    (∃ b', forC step xs b = some (.nx b') ∧ I (k + xs.length) b') ∨ ∃ r, forC step xs b = some (.rt r) ∧ J r
  | [], k, b, h, _ => .inl ⟨b, rfl, h⟩
  | x :: xs, k, b, h, hs => by
    rcases hs 0 x b rfl h with ⟨b1, e1, h1⟩ | ⟨r, e1, h1⟩
    · have q := forC_inv (step := step) I J (xs := xs) (k := k + 1) (b := b1) h1 fun i y b hy hb => by
        have e : k + 1 + i = k + (i + 1) := by omega
        rw [e] at hb
        have q := hs (i + 1) y b (by simpa using hy) hb
        have e2 : k + 1 + i + 1 = k + (i + 1) + 1 := by omega
        rw [e2]; exact q
      have e0 : forC step (x :: xs) b = forC step xs b1 := by
        show Option.bind (step x b) _ = _
        rw [e1]; rfl
      rw [e0]
      have e : k + 1 + xs.length = k + (x :: xs).length := by rw [List.length_cons]; omega
      rw [e] at q; exact q
    · refine .inr ⟨r, ?_, h1⟩
      show Option.bind (step x b) _ = _
      rw [e1]; rfl
theorem cut_from {α : Type} (xs : List α) (k : Nat) (h : k ≤ xs.length) : cutL xs (some (k : Int)) none = xs.drop k := by
  unfold cutL
  have e1 : HT.sIx xs.length 0 (some (k : Int)) = k := by rw [HT.sIx_nat]; exact Nat.min_eq_left h
  have e2 : HT.sIx xs.length xs.length none = xs.length := by simp [HT.sIx]
  rw [e1, e2]
  exact List.take_of_length_le (by rw [List.length_drop]; omega)
theorem cut_to {α : Type} (xs : List α) (k : Nat) (h : k ≤ xs.length) : cutL xs none (some (k : Int)) = xs.take k := by
  unfold cutL
  have e1 : HT.sIx xs.length xs.length (some (k : Int)) = k := by rw [HT.sIx_nat]; exact Nat.min_eq_left h
  have e2 : HT.sIx xs.length 0 none = 0 := by simp [HT.sIx]
  rw [e1, e2, Nat.sub_zero, List.drop_zero]
theorem enumL_get' {α : Type} : ∀ (xs : List α) (k : Nat) (i : Nat), (enumL (k : Int) xs)[i]? = (xs[i]?).map fun x => (((k + i : Nat) : Int), x)
  | [], k, i => by simp [enumL]
  | x :: xs, k, 0 => by simp [enumL]
  | x :: xs, k, i + 1 => by
    have h := enumL_get' xs (k + 1) i
    have e : ((k + 1 : Nat) : Int) = (k : Int) + 1 := by omega
    rw [e] at h
    simp only [enumL, List.getElem?_cons_succ]
    rw [h]
    have e2 : k + 1 + i = k + (i + 1) := by omega
    rw [e2]
theorem setO_nat {α : Type} {xs : List α} {i : Nat} {x : α} (h : i < xs.length) : setO xs (i : Int) x = some (xs.set i x) := by
  unfold setO
  rw [ixN_nat h]; rfl
theorem set2O_nat {α : Type} {xs : List α} {i j : Nat} {x y : α} (h : i < xs.length) (hj : j < xs.length) : set2O xs (i : Int) x (j : Int) y = some ((xs.set i x).set j y) := by
  unfold set2O
  rw [setO_nat h, Option.bind_some, setO_nat (by rw [List.length_set]; exact hj)]
theorem gsetO_nat {g : List (List Int)} {i j : Nat} {row : List Int} {d : Int} (h : g[i]? = some row) (hj : j < row.length) : gsetO g (i : Int) (j : Int) d = some (g.set i (row.set j d)) := by
  obtain ⟨h1, h2⟩ := List.getElem?_eq_some_iff.mp h
  unfold gsetO
  rw [ixN_nat h1, Option.bind_some, h, Option.bind_some, ixN_nat hj]; rfl
end MB
set_option Elab.async false
set_option linter.all false
set_option maxRecDepth 100000
set_option maxHeartbeats 4000000
/-! Mb1: the program's determinant is the determinant. -/
namespace MB
open PySem L2 LW MT LK
section
variable {ρ : Type}
theorem det_trans (u v : ρ) (l3 : List ρ) (l : List (Co ρ)) : ∀ (l2 l1 : List ρ), det (l1 ++ u :: (l2 ++ v :: l3)) l = - det (l1 ++ v :: (l2 ++ u :: l3)) l
  | [], l1 => det_swap u v l1 l3 l
  | a :: l2, l1 => by
    have e := det_trans u v l3 l l2 (l1 ++ [a])
    rw [List.append_assoc, List.append_assoc] at e
    have e' : det (l1 ++ a :: u :: (l2 ++ v :: l3)) l = - det (l1 ++ a :: v :: (l2 ++ u :: l3)) l := e
    show det (l1 ++ u :: a :: (l2 ++ v :: l3)) l = - det (l1 ++ v :: a :: (l2 ++ u :: l3)) l
    rw [det_swap u a, e', det_swap v a]
/-- two rows exchanged, told by places -/
theorem det_set {S Rs : List ρ} {l : List (Co ρ)} {i : Nat} {a b : ρ} (ha : Rs[0]? = some a) (hb : Rs[i]? = some b) (hi : 0 < i) : det (((Rs.set 0 b).set i a).reverse ++ S) l = - det (Rs.reverse ++ S) l := by
  cases Rs with
  | nil => simp at ha
  | cons a' R =>
    simp at ha
    subst ha
    obtain ⟨j, rfl⟩ : ∃ j, i = j + 1 := ⟨i - 1, by omega⟩
    rw [List.getElem?_cons_succ] at hb
    obtain ⟨h1, h2⟩ := List.getElem?_eq_some_iff.mp hb
    have e1 : R = R.take j ++ b :: R.drop (j + 1) := by
      rw [← h2, ← List.drop_eq_getElem_cons h1, List.take_append_drop]
    have e2 : R.set j a' = R.take j ++ a' :: R.drop (j + 1) := List.set_eq_take_append_cons_drop.trans (if_pos h1)
    show det ((b :: R.set j a').reverse ++ S) l = - det ((a' :: R).reverse ++ S) l
    rw [e2, List.reverse_cons, List.reverse_cons]
    have e3 : (a' :: R).reverse = (R.take j ++ b :: R.drop (j + 1)).reverse ++ [a'] := by rw [← e1, List.reverse_cons]
    rw [List.reverse_cons] at e3
    rw [e3]
    simp only [List.reverse_append, List.reverse_cons, List.append_assoc, List.singleton_append, List.cons_append, List.nil_append]
    exact det_trans a' b S l _ _
/-- no row of those left has anything in the column: the whole is 0 -/
theorem det_none {Rs S : List ρ} {c : Co ρ} {C L : List (Co ρ)} (hd : det S C ≠ 0) (h : ∀ r ∈ Rs, det (r :: S) (c :: C) = 0) : det (Rs ++ S) (L ++ c :: C) = 0 := by
  have e := bd_col (det_alt (Rs ++ S)) (det_lin (Rs ++ S)) S C c L C fun c' m => .inr m
  have z : det (Rs ++ S) (L ++ bd S C c :: C) = 0 := det_col0 fun s m => by
    rcases List.mem_append.mp m with m | m
    · exact h s m
    · exact bd_row m
  rw [z] at e
  rcases Int.mul_eq_zero.mp e.symm with q | q
  · exact absurd q hd
  · exact q
end
/-- columns of a list of rows -/
def cl (j : Nat) : Co (List Int) := fun r => r.getD j 0
def cs : Nat → List (Co (List Int))
  | 0 => []
  | k + 1 => cl k :: cs k
theorem cs_len : ∀ k, (cs k).length = k
  | 0 => rfl
  | k + 1 => by rw [cs, List.length_cons, cs_len k]
theorem cs_split : ∀ (m k : Nat), k < m → ∃ L, cs m = L ++ cl k :: cs k
  | 0, k, h => by omega
  | m + 1, k, h => by
    by_cases e : k = m
    · subst e; exact ⟨[], rfl⟩
    · obtain ⟨L, e⟩ := cs_split m k (by omega)
      exact ⟨cl m :: L, by rw [cs, e]; rfl⟩
theorem cs_mem : ∀ {k : Nat} {c : Co (List Int)}, c ∈ cs k → ∃ j, j < k ∧ c = cl j
  | 0, c, h => by simp [cs] at h
  | k + 1, c, h => by
    rcases List.mem_cons.mp h with e | h
    · exact ⟨k, by omega, e⟩
    · obtain ⟨j, h1, h2⟩ := cs_mem h
      exact ⟨j, by omega, h2⟩
theorem cl_get {r : List Int} {j : Nat} (h : j < r.length) : r[j]? = some (cl j r) := by
  unfold cl
  rw [List.getD_eq_getElem?_getD]
  have e : r[j]? = some r[j] := by simp [h]
  rw [e]; rfl
/-- numbers that are small enough for every step -/
structure Fit (Mx : Int) (m : Nat) : Prop where
  M1 : 1 ≤ Mx
  m1 : 1 ≤ m
  b : ((m : Int) * Mx) ^ (m + 1) < 2 ^ 4000
def Bnd (Mx : Int) (r : List Int) : Prop := ∀ j, -Mx ≤ cl j r ∧ cl j r ≤ Mx
theorem pow_le {b : Int} (h : 1 ≤ b) : ∀ {i j : Nat}, i ≤ j → b ^ i ≤ b ^ j
  | i, 0, hi => by
    have e : i = 0 := by omega
    subst e; exact Int.le_refl _
  | i, j + 1, hi => by
    by_cases e : i = j + 1
    · subst e; exact Int.le_refl _
    · have h1 := pow_le h (i := i) (j := j) (by omega)
      rw [Int.pow_succ]
      have h2 : (0 : Int) ≤ b ^ j := Int.pow_nonneg (by omega)
      have h3 := Int.mul_le_mul_of_nonneg_left h h2
      omega
theorem Fit.det {Mx : Int} {m : Nat} (f : Fit Mx m) {us : List (List Int)} {l : List (Co (List Int))} (hu : ∀ u ∈ us, Bnd Mx u) (hl : ∀ c ∈ l, ∃ j, c = cl j) (h1 : us.length ≤ m + 1) (h2 : l.length ≤ m) : (det us l).natAbs.log2 < 4000 := by
  refine log2_lt (by decide) ?_
  have e := det_bd Mx m f.M1 f.m1 us l (fun u mu c mc => by
    obtain ⟨j, rfl⟩ := hl c mc
    exact hu u mu j) h2
  have mM : (1 : Int) ≤ (m : Int) * Mx := by
    have := Int.mul_le_mul (show (1 : Int) ≤ (m : Int) from by have := f.m1; omega) f.M1 (by omega) (by omega)
    omega
  have e2 := pow_le mM h1
  have e3 := f.b
  have e4 : ((2 : Int) ^ 4000) = (((2 ^ 4000 : Nat)) : Int) := by norm_cast
  rw [e4] at e3
  omega
section
variable {Mx : Int} {m : Nat}
/-- how a row of the work stands to a row of the start -/
def Qr (m : Nat) (S : List (List Int)) (k : Nat) (w r : List Int) : Prop := w.length = m ∧ ∀ j, j < m → cl j w = det (r :: S) (cl j :: cs k)
structure St (Mx : Int) (m : Nat) (D : Int) (k : Nat) (W : List (List Int)) (s d : Int) (S Rs : List (List Int)) : Prop where
  wl : W.length = m
  sl : S.length = k
  km : k ≤ m
  dd : d = det S (cs k)
  nz : d ≠ 0
  pr : Paired (Qr m S k) (W.drop k) Rs
  sg : det (Rs.reverse ++ S) (cs m) * s = D
  s1 : s = 1 ∨ s = -1
  bs : ∀ r ∈ S, Bnd Mx r
  br : ∀ r ∈ Rs, Bnd Mx r
theorem corner_ok {W : List (List Int)} {k : Nat} (hW : ∀ i w, W[i]? = some w → k ≤ i → k < w.length) (hk : k ≤ W.length) (hm : W.length ≤ 1000000) :
    M.corner_row_llii W (k : Int) = some (match (zs (List.range' k (W.length - k))).find? (fun p => decide (((W[p.toNat]?).getD []).getD k 0 ≠ 0)) with | some p => p | none => -1) := by
  unfold M.corner_row_llii
  rw [ob (rngO_from k W.length hm hk), ob (forC_find (p := fun p => decide (((W[p.toNat]?).getD []).getD k 0 ≠ 0)) (f := fun p => p) fun x mx => ?_)]
  · cases (zs (List.range' k (W.length - k))).find? (fun p => decide (((W[p.toNat]?).getD []).getD k 0 ≠ 0)) <;> rfl
  · unfold zs at mx
    rw [List.mem_map] at mx
    obtain ⟨i, mi, rfl⟩ := mx
    rw [List.mem_range'_1] at mi
    obtain ⟨w, hw⟩ : ∃ w, W[i]? = some w := ⟨W[i]'(by omega), List.getElem?_eq_getElem (by omega)⟩
    have hkw := hW i w hw mi.1
    rw [M.corner_row_llii_l1, ob (atI_get hw), ob (atI_get (cl_get hkw)), Int.toNat_natCast, hw]
    show (if (!decide (cl k w = 0)) = true then _ else _) = some (if decide (cl k w ≠ 0) = true then _ else _)
    by_cases e : cl k w = 0
    · rw [decide_eq_true e, decide_eq_false (by simpa using e)]; rfl
    · rw [decide_eq_false e, decide_eq_true (by simpa using e)]; rfl
theorem zs_find {p : Int → Bool} : ∀ {l : List Nat} {x : Int}, (zs l).find? p = some x → ∃ i ∈ l, x = (i : Int) ∧ p x = true := fun {l x} h => by
  have h1 := List.mem_of_find?_eq_some h
  have h2 := List.find?_some h
  unfold zs at h1
  rw [List.mem_map] at h1
  obtain ⟨i, mi, rfl⟩ := h1
  exact ⟨i, mi, rfl, h2⟩
/-- one row cleared -/
def clr (k : Nat) (last : Int) (m : Nat) (co row : List Int) : List Int := (List.range m).map fun j => (cl j row * cl k co - cl k row * cl j co).fdiv last
theorem cleared_ok {W : List (List Int)} {k : Nat} {last : Int} {co : List Int} (hco : W[k]? = some co) (hlen : ∀ w ∈ W.drop k, w.length = m) (hk : k < m) (hm : m ≤ 100000) (hWm : W.length ≤ 100000) (hz : last ≠ 0) (hlz : last.natAbs.log2 < 9000)
    (hb : ∀ w ∈ W.drop k, ∀ j, j < m → (cl j w).natAbs.log2 < 4000) : M.cleared_lliii W (k : Int) last = some ((W.drop (k + 1)).map (clr k last m co)) := by
  obtain ⟨hk1, hk2⟩ := List.getElem?_eq_some_iff.mp hco
  have eD : W.drop k = co :: W.drop (k + 1) := by rw [← hk2]; exact List.drop_eq_getElem_cons hk1
  have hc1 : co.length = m := hlen co (by rw [eD]; exact List.mem_cons_self)
  have hcb := hb co (by rw [eD]; exact List.mem_cons_self)
  unfold M.cleared_lliii
  rw [ob (atI_get hco), lt_eq]
  have ek : ((k : Int) + 1) = ((k + 1 : Nat) : Int) := by omega
  rw [ek, cut_from W (k + 1) (by omega)]
  have step : ∀ (i : Nat) (row : List Int) (acc : List (List Int)), (W.drop (k + 1))[i]? = some row → acc.length = 0 + i ∧ acc = ((W.drop (k + 1)).take i).map (clr k last m co) → ∃ b', M.cleared_lliii_l1 (k : Int) last co row acc = some b' ∧ b'.length = 0 + i + 1 ∧ b' = ((W.drop (k + 1)).take (i + 1)).map (clr k last m co) := by
    intro i row acc hrow hacc
    have mrow : row ∈ W.drop k := by rw [eD]; exact List.mem_cons_of_mem _ (List.mem_of_getElem? hrow)
    have hr1 := hlen row mrow
    have hrb := hb row mrow
    rw [M.cleared_lliii_l1, hr1, ob (rngO_nat m (by omega)), ob (lnO_eq (by rw [zs_len, List.length_range]; omega))]
    have hmap : mapO (fun k_ => (Option.bind (atI row k_) fun t7 => Option.bind (atI co (k : Int)) fun t8 => Option.bind (mulO t7 t8) fun t9 => Option.bind (atI row (k : Int)) fun t10 => Option.bind (atI co k_) fun t11 => Option.bind (mulO t10 t11) fun t12 => some ((t9 - t12)))) (zs (List.range m)) = some ((zs (List.range m)).map fun j => cl j.toNat row * cl k co - cl k row * cl j.toNat co) := mapO_eq fun x mx => by
      unfold zs at mx
      rw [List.mem_map] at mx
      obtain ⟨j, mj, rfl⟩ := mx
      rw [List.mem_range] at mj
      have l1 := hrb j mj
      have l2 := hcb k hk
      have l3 := hrb k hk
      have l4 := hcb j mj
      rw [ob (atI_get (cl_get (by rw [hr1]; exact mj))), ob (atI_get (cl_get (by rw [hc1]; exact hk))), ob (mulO_eq (by omega)), ob (atI_get (cl_get (by rw [hr1]; exact hk))), ob (atI_get (cl_get (by rw [hc1]; exact mj))), ob (mulO_eq (by omega)), Int.toNat_natCast]
    rw [ob hmap, ob (lnO_eq (by rw [List.length_map, zs_len, List.length_range]; omega))]
    have hdiv : mapO (fun entry => (Option.bind (divO entry last) fun t17 => some (t17))) ((zs (List.range m)).map fun j => cl j.toNat row * cl k co - cl k row * cl j.toNat co) = some (((zs (List.range m)).map fun j => cl j.toNat row * cl k co - cl k row * cl j.toNat co).map fun e => e.fdiv last) := mapO_eq fun x _ => by rw [ob (divO_eq ⟨hz, hlz⟩)]
    obtain ⟨hi, _⟩ := List.getElem?_eq_some_iff.mp hrow
    rw [List.length_drop] at hi
    rw [ob hdiv, ob (appO_eq (by rw [hacc.1]; omega))]
    have ez : (((zs (List.range m)).map fun j => cl j.toNat row * cl k co - cl k row * cl j.toNat co).map fun e => e.fdiv last) = clr k last m co row := by
      unfold zs clr
      rw [List.map_map, List.map_map]
      exact List.map_congr_left fun j _ => by simp
    refine ⟨_, rfl, by rw [List.length_append, hacc.1]; simp, ?_⟩
    rw [ez, hacc.2, List.take_succ, hrow, List.map_append]; rfl
  obtain ⟨b', e1, e2⟩ := forO_inv (step := M.cleared_lliii_l1 (k : Int) last co) (fun i acc => acc.length = 0 + i ∧ acc = ((W.drop (k + 1)).take i).map (clr k last m co)) (xs := W.drop (k + 1)) (k := 0) (b := []) ⟨rfl, rfl⟩ (fun i x b hx hb => by
    simp only [Nat.zero_add] at hb ⊢
    obtain ⟨b', q1, q2, q3⟩ := step i x b hx ⟨by omega, hb.2⟩
    exact ⟨b', q1, by omega, q3⟩)
  rw [ob e1, e2.2, Nat.zero_add, List.take_length]
theorem step2 {W : List (List Int)} {k : Nat} {s d D : Int} {S Rs : List (List Int)} (f : Fit Mx m) (hm : m ≤ 100000) (st : St Mx m D k W s d S Rs) {co : List Int} (hco : W[k]? = some co) (hk : k < m) (h0 : cl k co ≠ 0) :
    ∃ W5 d5 S5 R5, (Option.bind (M.cleared_lliii W (k : Int) d) fun t18 => Option.bind (lenO ((cutL W none (some ((k : Int) + (1 : Int)))) ++ t18)) fun work_5 => (Option.bind (atI work_5 (k : Int)) fun t21 => Option.bind (atI t21 (k : Int)) fun last_3 => some (Ctl.nx (β := List (List Int) × Int × Int) (ρ := Int) (work_5, s, last_3)))) = some (.nx (W5, s, d5)) ∧ St Mx m D (k + 1) W5 s d5 S5 R5 := by
  obtain ⟨hk1, hk2⟩ := List.getElem?_eq_some_iff.mp hco
  have eD : W.drop k = co :: W.drop (k + 1) := by rw [← hk2]; exact List.drop_eq_getElem_cons hk1
  have pr := st.pr
  rw [eD] at pr
  cases pr with
  | @cons _ u _ Rt qu pt =>
    have hd : det S (cs k) ≠ 0 := by rw [← st.dd]; exact st.nz
    have all : ∀ w ∈ W.drop k, w.length = m ∧ ∀ j, j < m → (cl j w).natAbs.log2 < 4000 := fun w mw => by
      obtain ⟨i, hi, e⟩ := List.getElem_of_mem mw
      obtain ⟨r, hr, q⟩ := Pr.getV st.pr (i := i) (v := w) (by rw [← e]; exact List.getElem?_eq_getElem hi)
      refine ⟨q.1, fun j hj => ?_⟩
      rw [q.2 j hj]
      refine f.det (fun x mx => ?_) (fun c mc => ?_) (by rw [List.length_cons, st.sl]; omega) (by rw [List.length_cons, cs_len]; omega)
      · rcases List.mem_cons.mp mx with e | mx
        · rw [e]; exact st.br r (List.mem_of_getElem? hr)
        · exact st.bs x mx
      · rcases List.mem_cons.mp mc with e | mc
        · exact ⟨j, e⟩
        · obtain ⟨j, _, e⟩ := cs_mem mc
          exact ⟨j, e⟩
    have hld : d.natAbs.log2 < 4000 := by
      rw [st.dd]
      refine f.det (fun x mx => st.bs x mx) (fun c mc => ?_) (by rw [st.sl]; omega) (by rw [cs_len]; omega)
      obtain ⟨j, _, e⟩ := cs_mem mc
      exact ⟨j, e⟩
    have hWm : W.length ≤ 100000 := by rw [st.wl]; exact hm
    have hcl := cleared_ok (m := m) (last := d) hco (fun w mw => (all w mw).1) hk hm hWm st.nz (by omega) (fun w mw => (all w mw).2)
    have ek : ((k : Int) + 1) = ((k + 1 : Nat) : Int) := by omega
    have hlen : (W.take (k + 1) ++ (W.drop (k + 1)).map (clr k d m co)).length = m := by rw [List.length_append, List.length_take, List.length_map, List.length_drop, st.wl]; omega
    have hg : (W.take (k + 1) ++ (W.drop (k + 1)).map (clr k d m co))[k]? = some co := by
      rw [List.getElem?_append_left (by rw [List.length_take]; omega), List.getElem?_take_of_lt (by omega)]; exact hco
    have hcol : co.length = m := (all co (by rw [eD]; exact List.mem_cons_self)).1
    refine ⟨W.take (k + 1) ++ (W.drop (k + 1)).map (clr k d m co), cl k co, u :: S, Rt, ?_, ?_⟩
    · rw [ob hcl, ek, cut_to W (k + 1) (by omega), ob (lenO_eq (by rw [hlen]; omega)), ob (atI_get hg), ob (atI_get (cl_get (by rw [hcol]; exact hk)))]
    · have ed : cl k co = det (u :: S) (cs (k + 1)) := qu.2 k hk
      refine ⟨hlen, by rw [List.length_cons, st.sl], by omega, ed, h0, ?_, ?_, st.s1, fun r mr => ?_, fun r mr => st.br r (List.mem_cons_of_mem _ mr)⟩
      · have e1 : (W.take (k + 1) ++ (W.drop (k + 1)).map (clr k d m co)).drop (k + 1) = (W.drop (k + 1)).map (clr k d m co) := by
          rw [List.drop_append_of_le_length (by rw [List.length_take]; omega), List.drop_eq_nil_of_le (by rw [List.length_take]; omega)]; rfl
        rw [e1]
        have key : ∀ (ws rs : List (List Int)), Paired (Qr m S k) ws rs → Paired (Qr m (u :: S) (k + 1)) (ws.map (clr k d m co)) rs := by
          intro ws rs p
          induction p with
          | nil => exact .nil
          | @cons w r ws rs q _ ih =>
            refine .cons ⟨by unfold clr; simp, fun j hj => ?_⟩ ih
            have sy := sylv hd r u (cl j) (cl k)
            have e2 : cl j (clr k d m co w) = (cl j w * cl k co - cl k w * cl j co).fdiv d := by
              show (clr k d m co w).getD j 0 = _
              unfold clr
              rw [List.getD_eq_getElem?_getD, List.getElem?_map, List.getElem?_range hj]; rfl
            have e3 : cl j w * cl k co - cl k w * cl j co = d * det (r :: u :: S) (cl j :: cs (k + 1)) := by
              rw [q.2 j hj, q.2 k hk, qu.2 k hk, qu.2 j hj, st.dd]
              exact sy.symm
            rw [e2, e3]
            exact Int.mul_fdiv_cancel_left _ st.nz
        exact key _ _ pt
      · have e := st.sg
        rw [List.reverse_cons, List.append_assoc] at e
        exact e
      · rcases List.mem_cons.mp mr with e | mr
        · rw [e]; exact st.br u List.mem_cons_self
        · exact st.bs r mr
theorem det_step {W : List (List Int)} {k : Nat} {s d D : Int} {S Rs : List (List Int)} (f : Fit Mx m) (hm : m ≤ 100000) (st : St Mx m D k W s d S Rs) (hk : k < m) :
    (∃ W5 s5 d5 S5 R5, M.determinant_lli_l1 (k : Int) (W, s, d) = some (.nx (W5, s5, d5)) ∧ St Mx m D (k + 1) W5 s5 d5 S5 R5) ∨ (M.determinant_lli_l1 (k : Int) (W, s, d) = some (.rt 0) ∧ D = 0) := by
  have hWl : ∀ i w, W[i]? = some w → k ≤ i → w.length = m := fun i w h hi => by
    obtain ⟨i', rfl⟩ : ∃ i', i = k + i' := ⟨i - k, by omega⟩
    obtain ⟨r, hr, q⟩ := Pr.getV st.pr (i := i') (v := w) (by rw [List.getElem?_drop]; exact h)
    exact q.1
  have hc := corner_ok (W := W) (k := k) (fun i w h hi => by rw [hWl i w h hi]; exact hk) (by rw [st.wl]; omega) (by rw [st.wl]; omega)
  rw [st.wl] at hc
  cases hf : (zs (List.range' k (m - k))).find? (fun p => decide (((W[p.toNat]?).getD []).getD k 0 ≠ 0)) with
  | none =>
    rw [hf] at hc
    have hc' : M.corner_row_llii W (k : Int) = some (-1) := hc
    rw [M.determinant_lli_l1, ob hc']
    refine .inr ⟨rfl, ?_⟩
    have hz : ∀ r ∈ Rs, det (r :: S) (cl k :: cs k) = 0 := fun r mr => by
      obtain ⟨i, hi, e⟩ := List.getElem_of_mem mr
      obtain ⟨w, hw, q⟩ := Pr.get st.pr (i := i) (x := r) (by rw [← e]; exact List.getElem?_eq_getElem hi)
      rw [← q.2 k hk]
      rw [List.getElem?_drop] at hw
      obtain ⟨hlt, _⟩ := List.getElem?_eq_some_iff.mp hw
      have h1 := List.find?_eq_none.mp hf ((k + i : Nat) : Int) (by
        unfold zs
        exact List.mem_map.mpr ⟨k + i, by rw [List.mem_range'_1]; rw [st.wl] at hlt; omega, rfl⟩)
      rw [Int.toNat_natCast, hw] at h1
      have h2 : ¬ cl k w ≠ 0 := fun e => h1 (decide_eq_true e)
      exact Decidable.not_not.mp h2
    obtain ⟨L, eL⟩ := cs_split m k hk
    have hd : det S (cs k) ≠ 0 := by rw [← st.dd]; exact st.nz
    have z := det_none (Rs := Rs.reverse) (L := L) hd (c := cl k) fun r mr => hz r (List.mem_reverse.mp mr)
    rw [← st.sg, eL, z]; exact Int.zero_mul s
  | some p =>
    rw [hf] at hc
    have hc' : M.corner_row_llii W (k : Int) = some p := hc
    rw [M.determinant_lli_l1, ob hc']
    obtain ⟨i, mi, rfl, hp⟩ := zs_find hf
    rw [List.mem_range'_1] at mi
    have hik : k ≤ i := mi.1
    have him : i < m := by omega
    have hp' := of_decide_eq_true hp
    rw [Int.toNat_natCast] at hp'
    obtain ⟨wi, hwi⟩ : ∃ w, W[i]? = some w := ⟨W[i]'(by rw [st.wl]; exact him), List.getElem?_eq_getElem (by rw [st.wl]; exact him)⟩
    obtain ⟨wk, hwk⟩ : ∃ w, W[k]? = some w := ⟨W[k]'(by rw [st.wl]; exact hk), List.getElem?_eq_getElem (by rw [st.wl]; exact hk)⟩
    rw [hwi] at hp'
    have hp2 : cl k wi ≠ 0 := hp'
    refine .inl ?_
    show ∃ W5 s5 d5 S5 R5, (if decide ((i : Int) < 0) = true then _ else _) = _ ∧ _
    rw [if_neg (by rw [decide_eq_true_eq]; omega)]
    by_cases e : i = k
    · subst e
      rw [if_neg (by rw [decide_eq_true rfl]; exact Bool.false_ne_true), Option.bind_some]
      rw [hwk] at hwi
      cases hwi
      obtain ⟨W5, d5, S5, R5, q1, q2⟩ := step2 f hm st hwk hk hp2
      exact ⟨W5, s, d5, S5, R5, q1, q2⟩
    · rw [if_pos (by rw [decide_eq_false (by omega)]; rfl)]
      have h2 : set2O W (k : Int) wi (i : Int) wk = some ((W.set k wi).set i wk) := set2O_nat (by rw [st.wl]; exact hk) (by rw [st.wl]; exact him)
      rw [ob (atI_get hwi), ob (atI_get hwk), ob h2, lt_eq, Option.bind_some]
      obtain ⟨i', rfl⟩ : ∃ i', i = k + i' := ⟨i - k, by omega⟩
      obtain ⟨r0, hr0, q0⟩ := Pr.getV st.pr (i := 0) (v := wk) (by rw [List.getElem?_drop]; exact hwk)
      obtain ⟨ri, hri, qi⟩ := Pr.getV st.pr (i := i') (v := wi) (by rw [List.getElem?_drop]; exact hwi)
      have st' : St Mx m D k ((W.set k wi).set (k + i') wk) (-s) d S ((Rs.set 0 ri).set i' r0) := by
        refine ⟨by rw [List.length_set, List.length_set, st.wl], st.sl, st.km, st.dd, st.nz, ?_, ?_, ?_, st.bs, fun r mr => ?_⟩
        · rw [List.drop_set, if_neg (by omega), List.drop_set, if_neg (by omega), Nat.sub_self, Nat.add_sub_cancel_left]
          exact Pr.set q0 i' (Pr.set qi 0 st.pr)
        · rw [det_set hr0 hri (by omega), ← st.sg]; grind
        · rcases st.s1 with h | h <;> rw [h]
          · exact .inr rfl
          · exact .inl rfl
        · rcases List.mem_or_eq_of_mem_set mr with mr | mr
          · rcases List.mem_or_eq_of_mem_set mr with mr | mr
            · exact st.br r mr
            · rw [mr]; exact st.br ri (List.mem_of_getElem? hri)
          · rw [mr]; exact st.br r0 (List.mem_of_getElem? hr0)
      have hwk' : ((W.set k wi).set (k + i') wk)[k]? = some wi := by
        rw [List.getElem?_set_ne (by omega), List.getElem?_set_self (by rw [st.wl]; exact hk)]
      obtain ⟨W5, d5, S5, R5, q1, q2⟩ := step2 f hm st' hwk' hk hp2
      exact ⟨W5, -s, d5, S5, R5, q1, q2⟩
/-- the program's determinant -/
theorem determinant_ok {rows : List (List Int)} (f : Fit Mx rows.length) (hm : rows.length ≤ 100000) (hl : ∀ r ∈ rows, r.length = rows.length) (hb : ∀ r ∈ rows, Bnd Mx r) : M.determinant_lli rows = some (det rows.reverse (cs rows.length)) := by
  unfold M.determinant_lli
  have hid : (rows.map fun row => row) = rows := List.map_id' rows
  rw [ob (lnO_eq hm), lt_eq, lt_eq, lt_eq, hid, ob (rngO_nat _ (by omega))]
  have st0 : St Mx rows.length (det rows.reverse (cs rows.length)) 0 rows 1 1 [] rows := by
    refine ⟨rfl, rfl, Nat.zero_le _, rfl, by decide, ?_, by rw [List.append_nil]; exact Int.mul_one _, .inl rfl, fun r mr => by simp at mr, hb⟩
    rw [List.drop_zero]
    have key : ∀ rs : List (List Int), (∀ r ∈ rs, r.length = rows.length) → Paired (Qr rows.length [] 0) rs rs := by
      intro rs
      induction rs with
      | nil => exact fun _ => .nil
      | cons r rs ih =>
        intro h
        refine .cons ⟨h r List.mem_cons_self, fun j _ => ?_⟩ (ih fun r mr => h r (List.mem_cons_of_mem _ mr))
        show cl j r = cl j r * 1 - 0
        omega
    exact key rows hl
  rcases forC_inv (step := M.determinant_lli_l1) (fun k b => k ≤ rows.length ∧ ∃ S Rs, St Mx rows.length (det rows.reverse (cs rows.length)) k b.1 b.2.1 b.2.2 S Rs) (fun r => r = 0 ∧ det rows.reverse (cs rows.length) = 0) (xs := zs (List.range rows.length)) (k := 0) (b := (rows, 1, 1)) ⟨Nat.zero_le _, [], rows, st0⟩ (fun i x b hx hb => by
      obtain ⟨_, S, Rs, st⟩ := hb
      rw [Nat.zero_add] at st ⊢
      unfold zs at hx
      rw [List.getElem?_map] at hx
      obtain ⟨i2, e1, e2⟩ := Option.map_eq_some_iff.mp hx
      obtain ⟨h1, h2⟩ := List.getElem?_eq_some_iff.mp e1
      rw [List.getElem_range] at h2
      rw [List.length_range] at h1
      subst h2; subst e2
      obtain ⟨W, s, d⟩ := b
      rcases det_step f hm st h1 with ⟨W5, s5, d5, S5, R5, q1, q2⟩ | ⟨q1, q2⟩
      · exact .inl ⟨_, q1, by omega, S5, R5, q2⟩
      · exact .inr ⟨_, q1, rfl, q2⟩) with ⟨⟨W, s, d⟩, e1, _, S, Rs, st⟩ | ⟨r, e1, e2, e3⟩
  · rw [ob e1]
    have e2 : 0 + (zs (List.range rows.length)).length = rows.length := by rw [zs_len, List.length_range, Nat.zero_add]
    rw [e2] at st
    have st : St Mx rows.length (det rows.reverse (cs rows.length)) rows.length W s d S Rs := st
    have eR : Rs = [] := by
      have h1 := Pr.length st.pr
      have e3 : (W.drop rows.length) = [] := List.drop_eq_nil_of_le (by rw [st.wl]; exact Nat.le_refl _)
      rw [e3] at h1
      exact List.length_eq_zero_iff.mp h1.symm
    have sg := st.sg
    rw [eR] at sg
    have sg' : d * s = det rows.reverse (cs rows.length) := by rw [← sg, st.dd]; rfl
    have ld : d.natAbs.log2 < 4000 := by
      rw [st.dd]
      refine f.det st.bs (fun c mc => ?_) (by rw [st.sl]; omega) (by rw [cs_len]; exact Nat.le_refl _)
      obtain ⟨j, _, e⟩ := cs_mem mc
      exact ⟨j, e⟩
    have ls : s.natAbs.log2 = 0 := by rcases st.s1 with h | h <;> rw [h] <;> decide
    show (Option.bind (mulO s d) fun t24 => some t24) = _
    rw [ob (mulO_eq (by omega)), ← sg']
    rw [Int.mul_comm]
  · rw [ob e1, e3, e2]; rfl
end
end MB
set_option Elab.async false
set_option linter.all false
set_option maxRecDepth 100000
set_option maxHeartbeats 4000000
/-! Mb2: the program's sums over forests. -/
namespace MB
open PySem L2 LW MT LK
/-! ### a table's rows -/
def rw_ (g : List (List Int)) (u : Nat) : List Int := (g[u]?).getD []
def ga (g : List (List Int)) : Gr := fun u v => cl v (rw_ g u)
structure Gd (Mx : Int) (n : Nat) (g : List (List Int)) : Prop where
  len : g.length = n
  row : ∀ u, u < n → (rw_ g u).length = n
  nn : ∀ u v, 0 ≤ ga g u v
  le : ∀ u v, ga g u v ≤ Mx
  di : ∀ u, ga g u u = 0
theorem rw_get {g : List (List Int)} {u : Nat} (h : u < g.length) : g[u]? = some (rw_ g u) := by
  unfold rw_
  rw [List.getElem?_eq_getElem h]; rfl
section
variable {Mx : Int} {n : Nat} {g : List (List Int)}
theorem Gd.at_ (G : Gd Mx n g) {u : Nat} (h : u < n) : atI g (u : Int) = some (rw_ g u) := atI_get (rw_get (by rw [G.len]; exact h))
theorem Gd.at2 (G : Gd Mx n g) {u v : Nat} (h : u < n) (hv : v < n) : atI (rw_ g u) (v : Int) = some (ga g u v) := atI_get (cl_get (by rw [G.row u h]; exact hv))
theorem sum_row : ∀ (l : List Int), l.sum = sm (List.range l.length) (fun j => cl j l)
  | [] => rfl
  | x :: l => by
    rw [List.sum_cons, sum_row l, List.length_cons, List.range_succ_eq_map, sm_cons]
    show x + _ = x + sm ((List.range l.length).map Nat.succ) (fun j => cl j (x :: l))
    unfold sm
    rw [List.map_map]; rfl
theorem Gd.sum (G : Gd Mx n g) {u : Nat} (h : u < n) : (rw_ g u).sum = sm (List.range n) (ga g u) := by
  rw [sum_row, G.row u h]; rfl
end
/-! ### roots and the others -/
def Xo (n : Nat) (R : List Nat) : List Nat := (List.range n).filter fun x => decide (x ∉ R)
def Xr (n : Nat) (R : List Nat) : List Nat := (Xo n R).reverse
structure Rt (n : Nat) (R : List Nat) : Prop where
  nd : R.Nodup
  lt : ∀ r ∈ R, r < n
theorem Xr_mem {n : Nat} {R : List Nat} {x : Nat} : x ∈ Xr n R ↔ x < n ∧ x ∉ R := by
  unfold Xr Xo
  rw [List.mem_reverse, List.mem_filter, List.mem_range, decide_eq_true_eq]
theorem Xr_nd (n : Nat) (R : List Nat) : (Xr n R).Nodup := (List.reverse_perm _).nodup_iff.mpr (List.nodup_range.filter _)
theorem Rt.perm {n : Nat} {R : List Nat} (h : Rt n R) : (Xr n R ++ R).Perm (List.range n) := by
  have hn : (Xr n R ++ R).Nodup := List.nodup_append.mpr ⟨Xr_nd n R, h.nd, fun a ma b mb e => (Xr_mem.mp ma).2 (by rw [e]; exact mb)⟩
  refine (List.perm_ext_iff_of_nodup hn List.nodup_range).mpr fun a => ?_
  rw [List.mem_append, Xr_mem, List.mem_range]
  by_cases e : a ∈ R
  · exact ⟨fun _ => h.lt a e, fun _ => .inr e⟩
  · exact ⟨fun q => q.elim (fun q => q.1) (fun q => absurd q e), fun q => .inl ⟨q, e⟩⟩
theorem Rt.nodup {n : Nat} {R : List Nat} (h : Rt n R) : (Xr n R ++ R).Nodup := h.perm.nodup_iff.mpr List.nodup_range
/-- the sum over the forests with roots R -/
def PF (A : Gr) (n : Nat) (R : List Nat) (k : (Nat → Nat) → Int) : Int := FS (Xr n R) A R k
theorem FS_permR : ∀ {X : List Nat} {A : Gr} {R R' : List Nat} {k : (Nat → Nat) → Int}, R.Perm R' → FS X A R k = FS X A R' k
  | [], _, _, _, _, _ => rfl
  | x :: X, A, R, R', k, p => by
    show sm (X ++ R) _ = sm (X ++ R') _
    rw [sm_perm _ (List.Perm.append_left X p)]
    exact sm_congr fun y _ => by rw [FS_permR p]
theorem PF_perm {A : Gr} {n : Nat} {R R' : List Nat} {k : (Nat → Nat) → Int} (p : R.Perm R') : PF A n R k = PF A n R' k := by
  unfold PF
  have e : Xr n R = Xr n R' := by
    unfold Xr Xo
    congr 1
    refine List.filter_congr fun x _ => ?_
    rw [decide_eq_decide, p.mem_iff]
  rw [e, FS_permR p]
theorem det_map {ρ τ : Type} (φ : ρ → τ) (g : Nat → Co τ) (X : List Nat) : ∀ us : List ρ, ∀ l : List (Co τ), det (us.map φ) l = det us (l.map fun c => fun r => c (φ r))
  | [], l => by cases l <;> rfl
  | u :: us, l => by
    have key : ∀ (l : List (Co τ)) (f : List (Co τ) → Int) (f' : List (Co ρ) → Int), (∀ l, f l = f' (l.map fun c => fun r => c (φ r))) → E (φ u) f l = E u f' (l.map fun c => fun r => c (φ r)) := by
      intro l
      induction l with
      | nil => intro f f' _; rfl
      | cons c l ih =>
        intro f f' h
        show c (φ u) * f l - E (φ u) (fun l' => f (c :: l')) l = c (φ u) * f' (l.map _) - E u (fun l' => f' ((fun r => c (φ r)) :: l')) (l.map _)
        rw [h l, ih (fun l' => f (c :: l')) (fun l' => f' ((fun r => c (φ r)) :: l')) fun l => h (c :: l)]
    exact key l (det (us.map φ)) (det us) fun l => det_map φ g X us l
theorem cs_map : ∀ m, cs m = (List.range m).reverse.map cl
  | 0 => rfl
  | m + 1 => by rw [cs, cs_map m, List.range_succ, List.reverse_append]; rfl
/-- a matrix by labels: rows and columns in the order of Xs -/
theorem det_lab (Xs : List Nat) (φ : Nat → List Int) (h : Nat → Co Nat) (hφ : ∀ u ∈ Xs, ∀ j w, Xs[j]? = some w → cl j (φ u) = h w u) : det (Xs.map φ).reverse (cs Xs.length) = det Xs.reverse (Xs.reverse.map h) := by
  rw [← List.map_reverse, det_map φ (fun _ _ => 0) [], cs_map, List.map_map]
  have e : Xs.reverse = (List.range Xs.length).reverse.map (fun j => (Xs[j]?).getD 0) := by
    rw [List.map_reverse]
    congr 1
    refine List.ext_getElem (by simp) fun i h1 h2 => ?_
    simp [h1]
  have e2 : Xs.reverse.map h = (List.range Xs.length).reverse.map (fun j => h ((Xs[j]?).getD 0)) := by
    conv => lhs; rw [e]
    rw [List.map_map]; rfl
  rw [e2]
  refine det_ext Xs.reverse _ _ _ fun u mu j mj => ?_
  rw [List.mem_reverse, List.mem_range] at mj
  show cl j (φ u) = h ((Xs[j]?).getD 0) u
  rw [hφ u (List.mem_reverse.mp mu) j Xs[j] (List.getElem?_eq_getElem mj), List.getElem?_eq_getElem mj]; rfl
/-- one row of what is left -/
def lrow (g : List (List Int)) (Xs : List Nat) (u : Nat) : List Int := Xs.map fun y => if u = y then (rw_ g u).sum else - ga g u y
section
variable {Mx : Int} {n : Nat} {g : List (List Int)} {R : List Nat}
theorem cl_map {Xs : List Nat} {f : Nat → Int} {j w : Nat} (h : Xs[j]? = some w) : cl j (Xs.map f) = f w := by
  unfold cl
  rw [List.getD_eq_getElem?_getD, List.getElem?_map, h]; rfl
theorem Gd.dg (G : Gd Mx n g) (hR : Rt n R) {u : Nat} (hu : u < n) : (rw_ g u).sum = dg (ga g) (Xr n R ++ R) u := by
  rw [G.sum hu]
  unfold MT.dg
  rw [sm_perm _ hR.perm]
  refine sm_congr fun v _ => ?_
  by_cases e : v = u
  · rw [if_pos e, e, G.di]
  · rw [if_neg e]
theorem lrow_det (G : Gd Mx n g) (hR : Rt n R) : det ((Xo n R).map (lrow g (Xo n R))).reverse (cs (Xo n R).length) = PF (ga g) n R (fun _ => 1) := by
  have e := det_lab (Xo n R) (lrow g (Xo n R)) (lc (ga g) (Xr n R ++ R)) fun u mu j w hw => by
    unfold lrow
    rw [cl_map hw]
    unfold lc
    by_cases e : u = w
    · rw [if_pos e, if_pos e]
      exact G.dg hR (Xr_mem.mp (List.mem_reverse.mpr mu)).1
    · rw [if_neg e, if_neg e]
  rw [e]
  exact D_FS hR.nodup
/-- .. with the column of x replaced by the rates to c -/
def crow (g : List (List Int)) (Xs : List Nat) (p : Nat) (c : Nat) (u : Nat) : List Int := (lrow g Xs u).set p (ga g u c)
theorem crow_det (G : Gd Mx n g) (hR : Rt n R) {p x c : Nat} (hx : (Xo n R)[p]? = some x) (hc : c ∈ R) : det ((Xo n R).map (crow g (Xo n R) p c)).reverse (cs (Xo n R).length) = PF (ga g) n R (fun σ => if σ x = c then 1 else 0) := by
  have nd : (Xo n R).Nodup := List.nodup_range.filter _
  obtain ⟨hp, hpx⟩ := List.getElem?_eq_some_iff.mp hx
  have e := det_lab (Xo n R) (crow g (Xo n R) p c) (up (lc (ga g) (Xr n R ++ R)) x (fun u => ga g u c)) fun u mu j w hw => by
    obtain ⟨hj, hjw⟩ := List.getElem?_eq_some_iff.mp hw
    by_cases e : j = p
    · subst e
      have ew : w = x := by rw [hw] at hx; exact Option.some.inj hx
      subst ew
      rw [up_same]
      unfold crow cl
      rw [List.getD_eq_getElem?_getD, List.getElem?_set_self (by unfold lrow; rw [List.length_map]; exact hp)]; rfl
    · have ew : w ≠ x := fun ew => e (L2.nd_ix nd (x := x) (by rw [hw, ew]) hx)
      rw [up_ne ew]
      have e1 : cl j (crow g (Xo n R) p c u) = cl j (lrow g (Xo n R) u) := by
        unfold crow cl
        rw [List.getD_eq_getElem?_getD, List.getElem?_set_ne (fun q => e q.symm), ← List.getD_eq_getElem?_getD]
      rw [e1]
      unfold lrow
      rw [cl_map hw]
      unfold lc
      by_cases e : u = w
      · rw [if_pos e, if_pos e]
        exact G.dg hR (Xr_mem.mp (List.mem_reverse.mpr mu)).1
      · rw [if_neg e, if_neg e]
  rw [e]
  exact T_FS hR.nodup (List.mem_reverse.mpr (List.mem_of_getElem? hx)) hc
end
end MB
set_option Elab.async false
set_option linter.all false
set_option maxRecDepth 100000
set_option maxHeartbeats 4000000
/-! Mb3: the program's defs about tables. -/
namespace MB
open PySem L2 LW MT LK
abbrev BB : Int := 2 ^ 110
theorem fit8 {m : Nat} (h1 : 1 ≤ m) (h8 : m ≤ 8) : Fit BB m := by
  refine ⟨by decide, h1, ?_⟩
  have e : m = 1 ∨ m = 2 ∨ m = 3 ∨ m = 4 ∨ m = 5 ∨ m = 6 ∨ m = 7 ∨ m = 8 := by omega
  rcases e with rfl | rfl | rfl | rfl | rfl | rfl | rfl | rfl <;> decide +kernel
theorem det_any {rows : List (List Int)} (h8 : rows.length ≤ 8) (hl : ∀ r ∈ rows, r.length = rows.length) (hb : ∀ r ∈ rows, Bnd BB r) : M.determinant_lli rows = some (det rows.reverse (cs rows.length)) := by
  by_cases e : rows.length = 0
  · have e2 : rows = [] := List.length_eq_zero_iff.mp e
    subst e2
    rfl
  · exact determinant_ok (fit8 (by omega) h8) (by omega) hl hb
theorem mapO_zs {β : Type} {f : Int → Option β} {h : Nat → β} {Xs : List Nat} (hh : ∀ u ∈ Xs, f (u : Int) = some (h u)) : mapO f (zs Xs) = some (Xs.map h) := by
  rw [mapO_eq (g := fun x => h x.toNat) fun x mx => ?_]
  · unfold zs
    rw [List.map_map]
    exact congrArg some (List.map_congr_left fun u _ => by simp)
  · unfold zs at mx
    rw [List.mem_map] at mx
    obtain ⟨u, mu, rfl⟩ := mx
    rw [hh u mu, Int.toNat_natCast]
theorem forO_unit {α : Type} {step : α → Unit → Option Unit} : ∀ {xs : List α}, (∀ x ∈ xs, step x () = some ()) → forO step xs () = some ()
  | [], _ => rfl
  | x :: xs, h => by
    show Option.bind (step x ()) _ = _
    rw [h x List.mem_cons_self, Option.bind_some]
    exact forO_unit fun y m => h y (List.mem_cons_of_mem _ m)
theorem enum_mem {α : Type} {xs : List α} {p : Int × α} (h : p ∈ enumL 0 xs) : ∃ i : Nat, xs[i]? = some p.2 ∧ p.1 = (i : Int) := by
  obtain ⟨i, hi, e⟩ := List.getElem_of_mem h
  have e1 : (enumL 0 xs)[i]? = some p := by rw [← e]; exact List.getElem?_eq_getElem hi
  have e2 := enumL_get' xs 0 i
  rw [show ((0 : Nat) : Int) = 0 from rfl, e1] at e2
  obtain ⟨x, hx, e3⟩ := Option.map_eq_some_iff.mp e2.symm
  rw [← e3]
  exact ⟨i, hx, by rw [Nat.zero_add]⟩
theorem zs_get {l : List Nat} {i : Nat} {x : Int} (h : (zs l)[i]? = some x) : ∃ u : Nat, l[i]? = some u ∧ x = (u : Int) := by
  unfold zs at h
  rw [List.getElem?_map] at h
  obtain ⟨u, h1, h2⟩ := Option.map_eq_some_iff.mp h
  exact ⟨u, h1, h2.symm⟩
theorem zs_get' {l : List Nat} {i u : Nat} (h : l[i]? = some u) : (zs l)[i]? = some (u : Int) := by
  unfold zs
  rw [List.getElem?_map, h]; rfl
theorem zs_mem {l : List Nat} {u : Nat} : (u : Int) ∈ zs l ↔ u ∈ l := by
  unfold zs
  rw [List.mem_map]
  exact ⟨fun ⟨v, m, e⟩ => by
    have : v = u := by omega
    rw [← this]; exact m, fun m => ⟨u, m, rfl⟩⟩
section
variable {Mx : Int} {n : Nat} {g : List (List Int)}
theorem copy_ok {g : List (List Int)} (h : g.length ≤ 100000) : M.copy_lli g = some g := by
  unfold M.copy_lli
  rw [ob (lnO_eq h)]
  exact congrArg some (List.map_id' g)
theorem table_rows_ok (G : Gd Mx n g) (h2 : 2 ≤ n) (h8 : n ≤ 8) : M.table_rows_lli g = some g := by
  unfold M.table_rows_lli
  have hl := G.len
  rw [if_neg (by rw [hl]; simp; omega), lt_eq, ob (forO_unit fun p mp => ?_), ob (lnO_eq (by omega))]
  · exact congrArg some (List.map_id' g)
  · obtain ⟨i, hi, e⟩ := enum_mem mp
    obtain ⟨x, row⟩ := p
    have hlt := (List.getElem?_eq_some_iff.mp hi).1
    have er : row = rw_ g i := by rw [rw_get hlt] at hi; exact (Option.some.inj hi).symm
    have ex : x = (i : Int) := e
    subst er; subst ex
    rw [hl] at hlt
    rw [M.table_rows_lli_l1, if_neg (by rw [G.row i hlt, hl]; simp), ob (forO_unit fun q mq => ?_)]
    obtain ⟨j, hj, e⟩ := enum_mem mq
    obtain ⟨y, rate⟩ := q
    have hjl := (List.getElem?_eq_some_iff.mp hj).1
    have ey : y = (j : Int) := e
    have ev : rate = ga g i j := by
      have := cl_get (r := rw_ g i) hjl
      rw [hj] at this
      exact Option.some.inj this
    subst ey; subst ev
    have n1 := G.nn i j
    rw [M.table_rows_lli_l2]
    show (Option.bind (some (true && !false)) _) = _
    rw [Option.bind_some, if_neg]
    have d1 : decide (ga g i j < 0) = false := decide_eq_false (by omega)
    rw [d1]
    by_cases e : i = j
    · subst e
      rw [G.di]; simp
    · have d2 : decide ((i : Int) = (j : Int)) = false := decide_eq_false (by omega)
      rw [d2]; simp
theorem catO_some {α β : Type} {f : α → Option (List β)} : ∀ {xs : List α}, (∀ x ∈ xs, ∃ y, f x = some y) → ∃ ys, catO f xs = some ys
  | [], _ => ⟨[], rfl⟩
  | x :: xs, h => by
    obtain ⟨y, e⟩ := h x List.mem_cons_self
    obtain ⟨ys, e2⟩ := catO_some fun z m => h z (List.mem_cons_of_mem _ m)
    exact ⟨y ++ ys, by show Option.bind (f x) _ = _; rw [e, Option.bind_some, e2]; rfl⟩
theorem filtO_some {α β : Type} {f : α → Option (Option β)} : ∀ {xs : List α}, (∀ x ∈ xs, ∃ y, f x = some y) → ∃ ys, filtO f xs = some ys
  | [], _ => ⟨[], rfl⟩
  | x :: xs, h => by
    obtain ⟨y, e⟩ := h x List.mem_cons_self
    obtain ⟨ys, e2⟩ := filtO_some fun z m => h z (List.mem_cons_of_mem _ m)
    exact ⟨y.toList ++ ys, by show Option.bind (f x) _ = _; rw [e, Option.bind_some, e2]; rfl⟩
theorem arrows_ok (G : Gd Mx n g) (h8 : n ≤ 8) : ∃ a, M.arrows_of_tti g = some a := by
  unfold M.arrows_of_tti
  rw [lt_eq, G.len, ob (rngO_nat n (by omega)), ob (lnO_eq (by rw [zs_len, List.length_range]; omega))]
  have h : ∀ x_ ∈ zs (List.range n), ∃ y, (Option.bind (rngO 0 (n : Int)) fun r4 => Option.bind (lnO 1000 r4) fun z5 => Option.bind (filtO (fun y_ => (Option.bind (atI g x_) fun t7 => Option.bind (atI t7 y_) fun t8 => if (decide ((0 : Int) < t8)) = true then some (some ([x_, y_])) else some none)) r4) fun t9 => some (t9)) = some y := fun x mx => by
    unfold zs at mx
    rw [List.mem_map] at mx
    obtain ⟨u, mu, rfl⟩ := mx
    rw [List.mem_range] at mu
    rw [ob (rngO_nat n (by omega)), ob (lnO_eq (by rw [zs_len, List.length_range]; omega))]
    obtain ⟨ys, e⟩ := filtO_some (f := fun y_ => (Option.bind (atI g (u : Int)) fun t7 => Option.bind (atI t7 y_) fun t8 => if (decide ((0 : Int) < t8)) = true then some (some ([(u : Int), y_])) else some none)) (xs := zs (List.range n)) fun y my => by
      unfold zs at my
      rw [List.mem_map] at my
      obtain ⟨v, mv, rfl⟩ := my
      rw [List.mem_range] at mv
      rw [ob (G.at_ mu), ob (G.at2 mu mv)]
      by_cases e : decide ((0 : Int) < ga g u v) = true
      · rw [if_pos e]; exact ⟨_, rfl⟩
      · rw [if_neg e]; exact ⟨_, rfl⟩
    rw [ob e]; exact ⟨_, rfl⟩
  obtain ⟨ys, e⟩ := catO_some h
  rw [ob e]; exact ⟨_, rfl⟩
theorem mkTab_ok (G : Gd Mx n g) (h2 : 2 ≤ n) (h8 : n ≤ 8) : ∃ a, mkTab M.table_rows_lli M.arrows_of_tti g = some ⟨g, (n : Int), a⟩ := by
  obtain ⟨a, e⟩ := arrows_ok G h8
  refine ⟨a, ?_⟩
  unfold mkTab
  rw [ob (table_rows_ok G h2 h8), ob e, G.len]
theorem is_state_ok {u : Nat} (h : u < n) : M.is_state (n : Int) (u : Int) = some true := by
  unfold M.is_state M.is_int
  rw [Option.bind_some, decide_eq_true (show (0 : Int) ≤ (u : Int) by omega), decide_eq_true (show (u : Int) < (n : Int) by omega)]; rfl
theorem check_ok {sts : List Nat} {ul : List (Nat × Nat)} (h : ∀ u ∈ sts, u < n) (hu : ∀ p ∈ ul, ∃ a b, sts[p.1]? = some a ∧ sts[p.2]? = some b ∧ a ≠ b) :
    M.check_states_ititti (n : Int) (zs sts) (ul.map fun p => [(p.1 : Int), (p.2 : Int)]) = some () := by
  unfold M.check_states_ititti
  rw [ob (forO_unit fun p mp => ?_), ob (forO_unit fun it mi => ?_)]
  · rw [List.mem_map] at mi
    obtain ⟨q, mq, rfl⟩ := mi
    obtain ⟨a, b, h1, h2, h3⟩ := hu q mq
    rw [M.check_states_ititti_l2]
    show (Option.bind (some ((q.1 : Int), (q.2 : Int))) _) = _
    rw [Option.bind_some]
    show (Option.bind (atI (zs sts) (q.1 : Int)) _) = _
    rw [ob (atI_get (zs_get' h1)), ob (atI_get (zs_get' h2)), if_neg (by rw [decide_eq_true_eq]; omega)]
  · obtain ⟨i, hi, e⟩ := enum_mem mp
    obtain ⟨place, state⟩ := p
    obtain ⟨u, hu1, rfl⟩ := zs_get hi
    rw [M.check_states_ititti_l1, ob (is_state_ok (h u (List.mem_of_getElem? hu1)))]; rfl
theorem states_of_ok {os : List Nat} (hn : os.Nodup) (h : ∀ u ∈ os, u < n) (hl : os.length ≤ 100000) : ∃ os', os'.Perm os ∧ M.states_of_iti (n : Int) (zs os) = some (zs os') := by
  unfold M.states_of_iti
  rw [if_neg (by simp), lt_eq]
  obtain ⟨b, e1, e2⟩ := forO_inv (step := M.states_of_iti_l1 (n : Int)) (fun i acc => acc = zs (os.take i)) (xs := enumL 0 (zs os)) (k := 0) (b := []) rfl (fun i p acc hp ha => by
    simp only [Nat.zero_add] at ha ⊢
    have e2 := enumL_get' (zs os) 0 i
    rw [show ((0 : Nat) : Int) = 0 from rfl, hp] at e2
    obtain ⟨x, hx, e3⟩ := Option.map_eq_some_iff.mp e2.symm
    obtain ⟨u, hu, rfl⟩ := zs_get hx
    subst e3
    obtain ⟨hi, _⟩ := List.getElem?_eq_some_iff.mp hu
    have nu : (u : Int) ∉ acc := by
      rw [ha, zs_mem]
      intro m
      obtain ⟨j, hj, e⟩ := List.getElem_of_mem m
      rw [List.length_take] at hj
      have e4 : os[j]? = some u := by
        rw [List.getElem_take] at e
        rw [← e]; exact List.getElem?_eq_getElem (by omega)
      have := L2.nd_ix hn e4 hu
      omega
    rw [M.states_of_iti_l1, ob (is_state_ok (h u (List.mem_of_getElem? hu))), if_neg (by simp [nu]), ob (appO_eq (by rw [ha, zs_len, List.length_take]; omega))]
    refine ⟨_, rfl, ?_⟩
    rw [ha, List.take_succ, hu]
    unfold zs
    rw [List.map_append]; rfl)
  rw [ob e1]
  have eL : (enumL 0 (zs os)).length = os.length := by rw [enumL_len, zs_len]
  rw [eL, Nat.zero_add, List.take_length] at e2
  rw [e2]
  have p := sortI_perm (zs os)
  refine ⟨(sortI (zs os)).map Int.toNat, ?_, ?_⟩
  · have p2 := p.map Int.toNat
    have e3 : (zs os).map Int.toNat = os := by
      unfold zs
      rw [List.map_map]
      have : (Int.toNat ∘ fun (i : Nat) => (i : Int)) = id := by funext i; simp
      rw [this, List.map_id]
    rw [e3] at p2
    exact p2
  · congr 1
    unfold zs
    rw [List.map_map]
    have : ∀ x ∈ sortI (os.map fun (i : Nat) => (i : Int)), ((fun (i : Nat) => (i : Int)) ∘ Int.toNat) x = x := fun x mx => by
      have mx' : x ∈ zs os := p.mem_iff.mp mx
      unfold zs at mx'
      rw [List.mem_map] at mx'
      obtain ⟨i, _, rfl⟩ := mx'
      simp
    exact ((List.map_congr_left this).trans (List.map_id' _)).symm
theorem outside_ok {T : Tab} {R : List Nat} (hT : T.size = (n : Int)) (hn : n ≤ 100000) : M.states_outside_Tti T (zs R) = some (zs (Xo n R)) := by
  unfold M.states_outside_Tti
  rw [hT, ob (rngO_nat n (by omega)), ob (lnO_eq (by rw [zs_len, List.length_range]; exact hn))]
  congr 1
  unfold Xo zs
  rw [List.filter_map, List.map_map]
  have e : (List.range n).filter ((fun x_ => !decide (x_ ∈ List.map (fun (i : Nat) => (i : Int)) R)) ∘ fun (i : Nat) => (i : Int)) = (List.range n).filter fun x => decide (x ∉ R) := List.filter_congr fun x _ => by
    show (!decide ((x : Int) ∈ zs R)) = decide (x ∉ R)
    by_cases e : x ∈ R
    · rw [decide_eq_true (zs_mem.mpr e), decide_eq_false (by simpa using e)]; rfl
    · rw [decide_eq_false (fun m => e (zs_mem.mp m)), decide_eq_true e]; rfl
  rw [e]; rfl
theorem left_ok {T : Tab} (G : Gd Mx n g) (hT : T.rows = g) (hn : n ≤ 100000) {Xs : List Nat} (hX : ∀ u ∈ Xs, u < n) (hl : Xs.length ≤ 100000) : M.left_rows_Tli T (zs Xs) = some (Xs.map (lrow g Xs)) := by
  unfold M.left_rows_Tli
  rw [lt_eq, hT, ob (lnO_eq (by rw [zs_len]; exact hl)), ob (mapO_zs (h := lrow g Xs) fun u mu => ?_)]
  rw [ob (lnO_eq (by rw [zs_len]; exact hl)), ob (mapO_zs (h := fun y => if u = y then (rw_ g u).sum else - ga g u y) fun y my => ?_)]
  · rfl
  · by_cases e : u = y
    · rw [if_pos e, if_pos (decide_eq_true (by omega)), ob (G.at_ (hX u mu))]; rfl
    · rw [if_neg e, if_neg (by rw [decide_eq_true_eq]; omega), ob (G.at_ (hX u mu)), ob (G.at2 (hX u mu) (hX y my))]; rfl
end
end MB
set_option Elab.async false
set_option linter.all false
set_option maxRecDepth 100000
set_option maxHeartbeats 4000000
/-! Mb4: forest_row and what rests on it. -/
namespace MB
open PySem L2 LW MT LK
section
variable {Mx : Int} {n : Nat} {g : List (List Int)}
structure Sm (Mx : Int) (n : Nat) : Prop where
  n2 : 2 ≤ n
  n8 : n ≤ 8
  mx : 0 ≤ Mx ∧ Mx ≤ 2 ^ 100
theorem sum_bd (l : List Int) (Mx : Int) (h : ∀ x ∈ l, 0 ≤ x ∧ x ≤ Mx) : 0 ≤ l.sum ∧ l.sum ≤ (l.length : Int) * Mx := by
  induction l with
  | nil => simp
  | cons x l ih =>
    have h1 := h x List.mem_cons_self
    have h2 := ih fun y m => h y (List.mem_cons_of_mem _ m)
    rw [List.sum_cons, List.length_cons]
    have e : ((l.length + 1 : Nat) : Int) * Mx = (l.length : Int) * Mx + Mx := by push_cast; grind
    rw [e]; omega
theorem Gd.rowsum (G : Gd Mx n g) (z : Sm Mx n) {u : Nat} (hu : u < n) : 0 ≤ (rw_ g u).sum ∧ (rw_ g u).sum ≤ 8 * 2 ^ 100 := by
  have e := sum_bd (rw_ g u) Mx fun x mx => by
    obtain ⟨j, hj, e⟩ := List.getElem_of_mem mx
    have e2 := cl_get hj
    rw [List.getElem?_eq_getElem hj] at e2
    have e3 := Option.some.inj e2
    rw [e] at e3
    rw [e3]
    exact ⟨G.nn u j, G.le u j⟩
  have h1 := G.row u hu
  have h2 : ((rw_ g u).length : Int) * Mx ≤ 8 * 2 ^ 100 := by
    have k1 : ((rw_ g u).length : Int) ≤ 8 := by have := z.n8; omega
    exact Int.mul_le_mul k1 z.mx.2 z.mx.1 (by omega)
  omega
theorem lrow_bnd (G : Gd Mx n g) (z : Sm Mx n) {Xs : List Nat} {u : Nat} (hu : u < n) : Bnd BB (lrow g Xs u) := fun j => by
  by_cases h : j < Xs.length
  · have e : cl j (lrow g Xs u) = if u = Xs[j] then (rw_ g u).sum else - ga g u Xs[j] := cl_map (List.getElem?_eq_getElem h)
    rw [e]
    have h1 := G.rowsum z hu
    have h2 := G.nn u Xs[j]
    have h3 := G.le u Xs[j]
    have h4 := z.mx.2
    by_cases e : u = Xs[j]
    · rw [if_pos e]; show -(2 ^ 110) ≤ _ ∧ _ ≤ 2 ^ 110; omega
    · rw [if_neg e]; show -(2 ^ 110) ≤ _ ∧ _ ≤ 2 ^ 110; omega
  · have e : cl j (lrow g Xs u) = 0 := by
      unfold cl lrow
      rw [List.getD_eq_getElem?_getD, List.getElem?_eq_none (by rw [List.length_map]; omega)]; rfl
    rw [e]; decide
theorem crow_bnd (G : Gd Mx n g) (z : Sm Mx n) {Xs : List Nat} {u p c : Nat} (hu : u < n) : Bnd BB (crow g Xs p c u) := fun j => by
  have hb := lrow_bnd (Xs := Xs) G z hu j
  have h2 := G.nn u c
  have h3 := G.le u c
  have h4 := z.mx.2
  by_cases e : j = p
  · subst e
    by_cases h : j < (lrow g Xs u).length
    · have e : cl j (crow g Xs j c u) = ga g u c := by
        unfold crow cl
        rw [List.getD_eq_getElem?_getD, List.getElem?_set_self h]; rfl
      rw [e]; show -(2 ^ 110) ≤ _ ∧ _ ≤ 2 ^ 110; omega
    · have e : cl j (crow g Xs j c u) = 0 := by
        unfold crow cl
        rw [List.getD_eq_getElem?_getD, List.getElem?_eq_none (by rw [List.length_set]; omega)]; rfl
      rw [e]; decide
  · have e1 : cl j (crow g Xs p c u) = cl j (lrow g Xs u) := by
      unfold crow cl
      rw [List.getD_eq_getElem?_getD, List.getElem?_set_ne (fun q => e q.symm), ← List.getD_eq_getElem?_getD]
    rw [e1]; exact hb
theorem Xo_mem {R : List Nat} {x : Nat} : x ∈ Xo n R ↔ x < n ∧ x ∉ R := by
  unfold Xo
  rw [List.mem_filter, List.mem_range, decide_eq_true_eq]
theorem Xo_len (R : List Nat) : (Xo n R).length ≤ n := by
  unfold Xo
  exact Nat.le_trans (List.length_filter_le _ _) (by rw [List.length_range]; exact Nat.le_refl _)
theorem Xo_nd (R : List Nat) : (Xo n R).Nodup := List.nodup_range.filter _
theorem det_left (G : Gd Mx n g) (z : Sm Mx n) {R : List Nat} (hR : Rt n R) : M.determinant_lli ((Xo n R).map (lrow g (Xo n R))) = some (PF (ga g) n R (fun _ => 1)) := by
  have hl := Xo_len (n := n) R
  have h8 := z.n8
  rw [det_any (by rw [List.length_map]; omega) (fun r mr => ?_) (fun r mr => ?_)]
  · rw [List.length_map, lrow_det G hR]
  · rw [List.mem_map] at mr
    obtain ⟨u, _, rfl⟩ := mr
    unfold lrow
    rw [List.length_map, List.length_map]
  · rw [List.mem_map] at mr
    obtain ⟨u, mu, rfl⟩ := mr
    exact lrow_bnd G z (Xo_mem.mp mu).1
theorem det_crow (G : Gd Mx n g) (z : Sm Mx n) {R : List Nat} (hR : Rt n R) {p x c : Nat} (hx : (Xo n R)[p]? = some x) (hc : c ∈ R) : M.determinant_lli ((Xo n R).map (crow g (Xo n R) p c)) = some (PF (ga g) n R (fun σ => if σ x = c then 1 else 0)) := by
  have hl := Xo_len (n := n) R
  have h8 := z.n8
  rw [det_any (by rw [List.length_map]; omega) (fun r mr => ?_) (fun r mr => ?_)]
  · rw [List.length_map, crow_det G hR hx hc]
  · rw [List.mem_map] at mr
    obtain ⟨u, _, rfl⟩ := mr
    unfold crow lrow
    rw [List.length_set, List.length_map, List.length_map]
  · rw [List.mem_map] at mr
    obtain ⟨u, mu, rfl⟩ := mr
    exact crow_bnd G z (Xo_mem.mp mu).1
/-- the sum over the forests in which x leads to c -/
def PX (A : Gr) (n : Nat) (R : List Nat) (c x : Nat) : Int := PF A n R (fun σ => if σ x = c then 1 else 0)
theorem PX_root {A : Gr} {R : List Nat} (hR : Rt n R) {c x : Nat} (hx : x ∈ R) : PX A n R c x = if x = c then PF A n R (fun _ => 1) else 0 := by
  unfold PX PF
  by_cases e : x = c
  · rw [if_pos e]
    exact FS_congr hR.nodup fun σ hσ => by rw [hσ.1 x hx, if_pos e]
  · rw [if_neg e, FS_congr (k' := fun _ => 0) hR.nodup fun σ hσ => by rw [hσ.1 x hx, if_neg e], FS_zero]
theorem crossed_ok {T : Tab} (G : Gd Mx n g) (hT : T.rows = g) {Xs : List Nat} (hX : ∀ u ∈ Xs, u < n) {c p : Nat} (hc : c < n) (hp : p < Xs.length) :
    forO (M.forest_row_Titi_l2 T (c : Int) (p : Int)) (enumL 0 (zs Xs)) (Xs.map (lrow g Xs)) = some (Xs.map (crow g Xs p c)) := by
  obtain ⟨b, e1, e2⟩ := forO_inv (step := M.forest_row_Titi_l2 T (c : Int) (p : Int)) (fun i cr => cr = (Xs.take i).map (crow g Xs p c) ++ (Xs.drop i).map (lrow g Xs)) (xs := enumL 0 (zs Xs)) (k := 0) (b := Xs.map (lrow g Xs)) (by simp) (fun i q cr hq hcr => by
    simp only [Nat.zero_add] at hcr ⊢
    have e2 := enumL_get' (zs Xs) 0 i
    rw [show ((0 : Nat) : Int) = 0 from rfl, hq] at e2
    obtain ⟨x, hx, e3⟩ := Option.map_eq_some_iff.mp e2.symm
    obtain ⟨u, hu, rfl⟩ := zs_get hx
    subst e3
    obtain ⟨hi, hui⟩ := List.getElem?_eq_some_iff.mp hu
    have hun : u < n := hX u (List.mem_of_getElem? hu)
    rw [M.forest_row_Titi_l2, hT, ob (G.at_ hun), ob (G.at2 hun hc), Nat.zero_add]
    have hd : Xs.drop i = u :: Xs.drop (i + 1) := by rw [← hui]; exact List.drop_eq_getElem_cons hi
    have hg : cr[i]? = some (lrow g Xs u) := by
      rw [hcr, List.getElem?_append_right (by rw [List.length_map, List.length_take]; omega), hd, List.length_map, List.length_take, Nat.min_eq_left (by omega), Nat.sub_self]; rfl
    rw [ob (gsetO_nat hg (by unfold lrow; rw [List.length_map]; exact hp))]
    refine ⟨_, rfl, ?_⟩
    rw [hcr, List.set_append_right _ _ (by rw [List.length_map, List.length_take]; omega), hd, List.length_map, List.length_take, Nat.min_eq_left (by omega), Nat.sub_self, List.take_succ, hu]
    simp [crow])
  rw [e1, e2]
  have eL : 0 + (enumL 0 (zs Xs)).length = Xs.length := by rw [enumL_len, zs_len, Nat.zero_add]
  rw [eL, List.take_length, List.drop_length]; simp
theorem forest_row_ok {T : Tab} (G : Gd Mx n g) (z : Sm Mx n) (hT : T.rows = g) (hS : T.size = (n : Int)) {c : Nat} {os : List Nat} (hR : Rt n (c :: os)) : M.forest_row_Titi T (c : Int) (zs os) = some ((List.range n).map fun x => PX (ga g) n (c :: os) c x) := by
  have hn8 := z.n8
  have hcn : c < n := hR.lt c List.mem_cons_self
  have nos := (List.nodup_cons.mp hR.nd)
  obtain ⟨os', hp, hso⟩ := states_of_ok (n := n) (os := os) nos.2 (fun u m => hR.lt u (List.mem_cons_of_mem _ m)) (by
    have := nd_len nos.2 (m := List.range n) fun u m => List.mem_range.mpr (hR.lt u (List.mem_cons_of_mem _ m))
    rw [List.length_range] at this
    omega)
  have hpp : (c :: os').Perm (c :: os) := List.Perm.cons c hp
  have hR' : Rt n (c :: os') := ⟨hpp.nodup_iff.mpr hR.nd, fun r m => hR.lt r (hpp.mem_iff.mp m)⟩
  have hlen : os'.length ≤ 8 := by
    have := nd_len hR'.nd (m := List.range n) fun u m => List.mem_range.mpr (hR'.lt u m)
    rw [List.length_range, List.length_cons] at this
    omega
  have hXX : ∀ u ∈ Xo n (c :: os'), u < n := fun u m => (Xo_mem.mp m).1
  have hXl := Xo_len (n := n) (c :: os')
  unfold M.forest_row_Titi
  have hck := check_ok (n := n) (sts := [c]) (ul := []) (fun u m => by rw [List.mem_singleton] at m; rw [m]; exact hcn) (fun p m => by simp at m)
  have hck' : M.check_states_ititti (n : Int) [(c : Int)] [] = some () := hck
  have hcat : catTO [(c : Int)] (zs os') = some (zs (c :: os')) := by
    unfold catTO
    rw [if_neg (by simp), if_pos (by rw [zs_len]; simp; omega)]; rfl
  have hrep : repO (0 : Int) (n : Int) = some (List.replicate n 0) := by
    unfold repO
    rw [if_pos (by omega), Int.toNat_natCast]
  rw [hS, ob hck', ob hso, ob hcat, ob (outside_ok hS (by omega)), ob (left_ok G hT (by omega) hXX (by omega)), ob hrep, ob (det_left G z hR'), ob (setO_nat (by rw [List.length_replicate]; exact hcn))]
  obtain ⟨b, e1, e2⟩ := forO_inv (step := M.forest_row_Titi_l1 T (c : Int) (zs (Xo n (c :: os'))) ((Xo n (c :: os')).map (lrow g (Xo n (c :: os'))))) (fun i f => f.length = n ∧ ∀ x, x < n → f[x]? = some (if x = c then PF (ga g) n (c :: os') (fun _ => 1) else if x ∈ (Xo n (c :: os')).take i then PX (ga g) n (c :: os') c x else 0)) (xs := enumL 0 (zs (Xo n (c :: os')))) (k := 0) (b := (List.replicate n 0).set c (PF (ga g) n (c :: os') fun _ => 1)) ⟨by rw [List.length_set, List.length_replicate], fun x hx => by
      by_cases e : x = c
      · subst e; rw [if_pos rfl, List.getElem?_set_self (by rw [List.length_replicate]; exact hx)]
      · rw [if_neg e, List.getElem?_set_ne (fun q => e q.symm), List.take_zero, if_neg (by simp), List.getElem?_replicate, if_pos hx]⟩ (fun i q f hq hf => by
    simp only [Nat.zero_add] at hf ⊢
    have e2 := enumL_get' (zs (Xo n (c :: os'))) 0 i
    rw [show ((0 : Nat) : Int) = 0 from rfl, hq] at e2
    obtain ⟨x, hx, e3⟩ := Option.map_eq_some_iff.mp e2.symm
    obtain ⟨u, hu, rfl⟩ := zs_get hx
    subst e3
    obtain ⟨hi, hui⟩ := List.getElem?_eq_some_iff.mp hu
    have hun := hXX u (List.mem_of_getElem? hu)
    have hid : ((Xo n (c :: os')).map (lrow g (Xo n (c :: os')))).map (fun row => row) = (Xo n (c :: os')).map (lrow g (Xo n (c :: os'))) := List.map_id' _
    rw [M.forest_row_Titi_l1, ob (lnO_eq (by rw [List.length_map]; omega)), lt_eq, hid, Nat.zero_add, ob (crossed_ok G hT hXX hcn hi), ob (det_crow G z hR' hu List.mem_cons_self), ob (setO_nat (by rw [hf.1]; exact hun))]
    refine ⟨_, rfl, by rw [List.length_set]; exact hf.1, fun y hy => ?_⟩
    have huc : u ≠ c := fun e => (Xo_mem.mp (List.mem_of_getElem? hu)).2 (by rw [e]; exact List.mem_cons_self)
    by_cases e : y = u
    · rw [e, List.getElem?_set_self (by rw [hf.1]; exact hun), if_neg huc, if_pos]
      · rfl
      · rw [List.take_succ, hu]; simp
    · rw [List.getElem?_set_ne (fun q => e q.symm), hf.2 y hy]
      by_cases e2 : y = c
      · rw [if_pos e2, if_pos e2]
      · rw [if_neg e2, if_neg e2]
        have e3 : y ∈ (Xo n (c :: os')).take (i + 1) ↔ y ∈ (Xo n (c :: os')).take i := by
          rw [List.take_succ, hu]; simp [e]
        by_cases e4 : y ∈ (Xo n (c :: os')).take i
        · rw [if_pos e4, if_pos (e3.mpr e4)]
        · rw [if_neg e4, if_neg fun m => e4 (e3.mp m)])
  rw [ob e1]
  congr 1
  have eL : 0 + (enumL 0 (zs (Xo n (c :: os')))).length = (Xo n (c :: os')).length := by rw [enumL_len, zs_len, Nat.zero_add]
  rw [eL, List.take_length] at e2
  refine List.ext_getElem? fun x => ?_
  by_cases hx : x < n
  · rw [e2.2 x hx, List.getElem?_map, List.getElem?_range hx]
    show _ = some (PX (ga g) n (c :: os) c x)
    have eP : PX (ga g) n (c :: os) c x = PX (ga g) n (c :: os') c x := PF_perm hpp.symm
    rw [eP]
    by_cases e : x = c
    · rw [if_pos e, PX_root hR' (by rw [e]; exact List.mem_cons_self), if_pos e]
    · rw [if_neg e]
      by_cases e3 : x ∈ Xo n (c :: os')
      · rw [if_pos e3]
      · rw [if_neg e3, PX_root hR' (Decidable.not_not.mp fun q => e3 (Xo_mem.mpr ⟨hx, q⟩)), if_neg e]
  · rw [List.getElem?_eq_none (by rw [e2.1]; omega), List.getElem?_eq_none (by rw [List.length_map, List.length_range]; omega)]
theorem coming_ok {T : Tab} (G : Gd Mx n g) (z : Sm Mx n) (hT : T.rows = g) (hS : T.size = (n : Int)) {c e : Nat} (hc : c < n) (he : e < n) (hce : c ≠ e) : M.coming_row_Tii T (c : Int) (e : Int) = some ((List.range n).map fun x => PX (ga g) n [c, e] c x) := by
  have hR : Rt n [c, e] := ⟨by simp [hce], fun r m => by
    rcases List.mem_cons.mp m with q | m
    · rw [q]; exact hc
    · rw [List.mem_singleton] at m; rw [m]; exact he⟩
  have hck : M.check_states_ititti (n : Int) [(c : Int), (e : Int)] [[(0 : Int), (1 : Int)]] = some () := check_ok (n := n) (sts := [c, e]) (ul := [(0, 1)]) hR.lt (fun p m => by
    rw [List.mem_singleton] at m; subst m; exact ⟨c, e, rfl, rfl, hce⟩)
  have hf : M.forest_row_Titi T (c : Int) [(e : Int)] = some ((List.range n).map fun x => PX (ga g) n [c, e] c x) := forest_row_ok G z hT hS hR
  unfold M.coming_row_Tii
  rw [hS, ob hck, ob hf]
theorem row_at {f : Nat → Int} {x : Nat} (hx : x < n) : atI ((List.range n).map f) (x : Int) = some (f x) := atI_get (by rw [List.getElem?_map, List.getElem?_range hx]; rfl)
theorem push_ok {T : Tab} (G : Gd Mx n g) (z : Sm Mx n) (hT : T.rows = g) (hS : T.size = (n : Int)) {a b c e : Nat} (ha : a < n) (hb : b < n) (hab : a ≠ b) (hc : c < n) (he : e < n) (hce : c ≠ e) :
    M.push_Tiiii T (a : Int) (b : Int) (c : Int) (e : Int) = some (PX (ga g) n [c, e] c b - PX (ga g) n [c, e] c a) := by
  have hck : M.check_states_ititti (n : Int) [(a : Int), (b : Int), (c : Int), (e : Int)] [[(0 : Int), (1 : Int)], [(2 : Int), (3 : Int)]] = some () := check_ok (n := n) (sts := [a, b, c, e]) (ul := [(0, 1), (2, 3)]) (fun u m => by
    simp at m
    rcases m with rfl | rfl | rfl | rfl <;> assumption) (fun p m => by
    simp at m
    rcases m with rfl | rfl
    · exact ⟨a, b, rfl, rfl, hab⟩
    · exact ⟨c, e, rfl, rfl, hce⟩)
  unfold M.push_Tiiii
  rw [hS, ob hck, ob (coming_ok G z hT hS hc he hce), ob (row_at hb), ob (row_at ha)]
theorem push_rows_ok {T : Tab} (G : Gd Mx n g) (z : Sm Mx n) (hT : T.rows = g) (hS : T.size = (n : Int)) {c e : Nat} (hc : c < n) (he : e < n) (hce : c ≠ e) :
    M.push_rows_Tii T (c : Int) (e : Int) = some ((List.range n).map fun a => (List.range n).map fun b => PX (ga g) n [c, e] c b - PX (ga g) n [c, e] c a) := by
  have h8 := z.n8
  have hck : M.check_states_ititti (n : Int) [(c : Int), (e : Int)] [[(0 : Int), (1 : Int)]] = some () := check_ok (n := n) (sts := [c, e]) (ul := [(0, 1)]) (fun u m => by
    simp at m
    rcases m with rfl | rfl <;> assumption) (fun p m => by
    rw [List.mem_singleton] at m; subst m; exact ⟨c, e, rfl, rfl, hce⟩)
  unfold M.push_rows_Tii
  have hl : ((List.range n).map fun x => PX (ga g) n [c, e] c x).length ≤ 100000 := by rw [List.length_map, List.length_range]; omega
  rw [hS, ob hck, ob (coming_ok G z hT hS hc he hce), ob (lnO_eq hl), ob (mapO_eq (g := fun t => ((List.range n).map fun x => PX (ga g) n [c, e] c x).map fun h => h - t) fun t _ => by rw [ob (lnO_eq hl)])]
  congr 1
  rw [List.map_map]
  refine List.map_congr_left fun a _ => ?_
  show (List.map (fun h => h - PX (ga g) n [c, e] c a) (List.map _ _)) = _
  rw [List.map_map]; rfl
end
end MB
set_option Elab.async false
set_option linter.all false
set_option maxRecDepth 100000
set_option maxHeartbeats 4000000
/-! Mb5: the law's own forests. -/
namespace MB
open PySem L2 LW MT LK
theorem grow_snoc (V : Nat → List Nat) (x : Nat) : ∀ (xs : List Nat) (L : List (List Nat)), grow V (xs ++ [x]) L = (grow V xs L).flatMap fun l => (V x).map fun y => l ++ [y]
  | [], L => rfl
  | z :: xs, L => grow_snoc V x xs _
section
variable {Mx : Int} {n : Nat} {g : List (List Int)} {R : List Nat}
/-- a line of heads as it should be -/
structure Ln (A : Gr) (n : Nat) (R : List Nat) (l : List Nat) : Prop where
  len : l.length = n
  hd : ∀ x, x < n → MT.hd l x ∈ hds A n R x
theorem hds_lt {A : Gr} {x y : Nat} (hR : Rt n R) (h : y ∈ hds A n R x) : y < n := by
  unfold hds at h
  by_cases e : x ∈ R
  · rw [if_pos e, List.mem_singleton] at h; rw [h]; exact hR.lt x e
  · rw [if_neg e] at h; exact List.mem_range.mp (List.mem_filter.mp h).1
theorem Ln.of {A : Gr} {l : List Nat} (h : l ∈ grow (hds A n R) (List.range n) [[]]) : Ln A n R l := by
  obtain ⟨l0, m0, ys, rfl, h1, h2⟩ := grow_mem _ _ _ _ h
  rw [List.mem_singleton] at m0
  subst m0
  rw [List.nil_append]
  rw [List.length_range] at h1
  refine ⟨h1, fun x hx => ?_⟩
  have e1 : ys[x]? = some (ys[x]'(by omega)) := List.getElem?_eq_getElem (by omega)
  have e2 : MT.hd ys x = ys[x]'(by omega) := by
    unfold MT.hd
    rw [e1]; rfl
  rw [e2]
  exact h2 x x _ (List.getElem?_range hx) e1
theorem Ln.get {A : Gr} {l : List Nat} (h : Ln A n R l) {x : Nat} (hx : x < n) : atI (zs l) (x : Int) = some ((MT.hd l x : Nat) : Int) := by
  refine atI_get (zs_get' ?_)
  unfold MT.hd
  rw [List.getElem?_eq_getElem (by rw [h.len]; exact hx)]; rfl
theorem Ln.lt {A : Gr} {l : List Nat} (hR : Rt n R) (h : Ln A n R l) {x : Nat} (hx : x < n) : MT.hd l x < n := hds_lt hR (h.hd x hx)
theorem Ln.it_lt {A : Gr} {l : List Nat} (hR : Rt n R) (h : Ln A n R l) : ∀ (k : Nat) {x : Nat}, x < n → it (MT.hd l) k x < n
  | 0, x, hx => hx
  | k + 1, x, hx => h.it_lt hR k (h.lt hR hx)
/-- what the law's lead tells -/
def ledI (n : Nat) (l : List Nat) (x : Nat) : Int := if MT.hd l (ld n l x) = ld n l x then ((ld n l x : Nat) : Int) else -1
theorem lead_ok {A : Gr} {l : List Nat} (hR : Rt n R) (h : Ln A n R l) (hn : n ≤ 1000000) {x : Nat} (hx : x < n) : M.lead_lii (zs l) (x : Int) = some (ledI n l x) ∧ M.lead_tii (zs l) (x : Int) = some (ledI n l x) := by
  have hlen : ((zs l).length : Int) = (n : Int) := by rw [zs_len, h.len]
  have fin : ∀ (step : Int → Int → Option Int), (∀ t a, step t a = Option.bind (atI (zs l) a) fun b => some b) → forO step (zs (List.range n)) (x : Int) = some ((ld n l x : Nat) : Int) := fun step hs => by
    obtain ⟨b, e1, e2⟩ := forO_inv (step := step) (fun i a => a = ((it (MT.hd l) i x : Nat) : Int)) (xs := zs (List.range n)) (k := 0) (b := (x : Int)) rfl (fun i t a _ ha => by
      simp only [Nat.zero_add] at ha ⊢
      rw [hs, ha, ob (h.get (h.it_lt hR i hx))]
      exact ⟨_, rfl, by rw [it_succ]⟩)
    rw [e1, e2, zs_len, List.length_range, Nat.zero_add]; rfl
  have last : Option.bind (atI (zs l) ((ld n l x : Nat) : Int)) (fun t6 => if (decide (t6 = ((ld n l x : Nat) : Int))) = true then (some ((ld n l x : Nat) : Int)) else (some (-(1 : Int)))) = some (ledI n l x) := by
    have hl : ld n l x < n := h.it_lt hR n hx
    rw [ob (h.get hl)]
    unfold ledI
    by_cases e : MT.hd l (ld n l x) = ld n l x
    · rw [if_pos e, if_pos (decide_eq_true (by rw [e]))]
    · rw [if_neg e, if_neg (by rw [decide_eq_true_eq]; omega)]
  constructor
  · unfold M.lead_lii
    rw [lt_eq, hlen, ob (rngO_nat n hn), ob (fin (M.lead_lii_l1 (zs l)) fun t a => rfl)]
    exact last
  · unfold M.lead_tii
    rw [lt_eq, hlen, ob (rngO_nat n hn), ob (fin (M.lead_tii_l1 (zs l)) fun t a => rfl)]
    exact last
theorem Ln.fix {A : Gr} {l : List Nat} (h : Ln A n R l) (hR : Rt n R) {r : Nat} (m : r ∈ R) : MT.hd l r = r := by
  have q := h.hd r (hR.lt r m)
  unfold hds at q
  rw [if_pos m, List.mem_singleton] at q
  exact q
theorem led_in {A : Gr} {l : List Nat} (h : Ln A n R l) (hR : Rt n R) {x : Nat} : decide (ledI n l x ∈ zs R) = decide (ld n l x ∈ R) := by
  rw [decide_eq_decide]
  unfold ledI
  by_cases m : ld n l x ∈ R
  · rw [if_pos (h.fix hR m), zs_mem]
  · by_cases e : MT.hd l (ld n l x) = ld n l x
    · rw [if_pos e, zs_mem]
    · rw [if_neg e]
      refine ⟨fun q => ?_, fun q => absurd q m⟩
      unfold zs at q
      rw [List.mem_map] at q
      obtain ⟨i, _, e⟩ := q
      omega
theorem led_is {A : Gr} {l : List Nat} (h : Ln A n R l) (hR : Rt n R) {x : Nat} (m : ld n l x ∈ R) : ledI n l x = ((ld n l x : Nat) : Int) := if_pos (h.fix hR m)
theorem weight_ok {l : List Nat} (G : Gd Mx n g) (z : Sm Mx n) (hR : Rt n R) (h : Ln (ga g) n R l) : M.weight_lliti g (zs l) = some (wl (w1 (ga g) R) 0 l) ∧ 0 ≤ wl (w1 (ga g) R) 0 l ∧ wl (w1 (ga g) R) 0 l ≤ (2 ^ 100) ^ n := by
  have h8 := z.n8
  have hlen : ((zs l).length : Int) = (n : Int) := by rw [zs_len, h.len]
  have hP : ∀ i : Nat, (1 : Int) ≤ (2 ^ 100) ^ i := fun i => by
    have := pow_le (b := (2 : Int) ^ 100) (by decide) (Nat.zero_le i)
    simpa using this
  unfold M.weight_lliti
  rw [lt_eq, hlen, ob (rngO_nat n (by omega))]
  obtain ⟨b, e1, e2⟩ := forO_inv (step := M.weight_lliti_l1 g (zs l)) (fun i w => w = wl (w1 (ga g) R) 0 (l.take i) ∧ 0 ≤ w ∧ w ≤ (2 ^ 100) ^ i) (xs := zs (List.range n)) (k := 0) (b := 1) ⟨rfl, by decide, by decide⟩ (fun i x w hx hw => by
    simp only [Nat.zero_add] at hw ⊢
    obtain ⟨x', hx', rfl⟩ := zs_get hx
    obtain ⟨hi, e⟩ := List.getElem?_eq_some_iff.mp hx'
    rw [List.getElem_range] at e
    rw [List.length_range] at hi
    subst e
    have hli : l[i]? = some (MT.hd l i) := by
      unfold MT.hd
      rw [List.getElem?_eq_getElem (by rw [h.len]; exact hi)]; rfl
    have hw1 : wl (w1 (ga g) R) 0 (l.take (i + 1)) = w * w1 (ga g) R i (MT.hd l i) := by
      rw [List.take_succ, hli]
      show wl _ 0 (l.take i ++ [MT.hd l i]) = _
      rw [wl_snoc, List.length_take, h.len, Nat.min_eq_left (by omega), Nat.zero_add, ← hw.1]
    rw [M.weight_lliti_l1, ob (h.get hi)]
    have hpow := Int.pow_succ (2 ^ 100) i
    have hh := h.hd i hi
    unfold hds at hh
    have hP1 := hP i
    by_cases e : i ∈ R
    · rw [if_pos e, List.mem_singleton] at hh
      rw [if_neg (by rw [hh]; simp)]
      refine ⟨w, rfl, ?_, hw.2.1, ?_⟩
      · rw [hw1]
        unfold w1
        rw [if_pos e]; omega
      · rw [hpow]; omega
    · rw [if_neg e] at hh
      have hp : 0 < ga g i (MT.hd l i) := of_decide_eq_true (List.mem_filter.mp hh).2
      have hne : MT.hd l i ≠ i := fun q => by rw [q, G.di] at hp; omega
      have hlt := h.lt hR hi
      have hle := G.le i (MT.hd l i)
      have hmx := z.mx.2
      rw [if_pos (by rw [decide_eq_false (by omega)]; rfl), ob (G.at_ hi), ob (h.get hi), ob (G.at2 hi hlt)]
      have hb1 : w.natAbs.log2 < 1000 := by
        refine log2_lt (by decide) ?_
        have k : ((2 : Int) ^ 100) ^ i ≤ (2 ^ 100) ^ 8 := pow_le (by decide) (by omega)
        have k2 : ((2 : Int) ^ 100) ^ 8 < ((2 ^ 1000 : Nat) : Int) := by decide +kernel
        omega
      have hb2 : (ga g i (MT.hd l i)).natAbs.log2 < 1000 := by
        refine log2_lt (by decide) ?_
        have k2 : (2 : Int) ^ 100 < ((2 ^ 1000 : Nat) : Int) := by decide +kernel
        omega
      rw [ob (mulO_eq (by omega))]
      refine ⟨_, rfl, ?_, Int.mul_nonneg hw.2.1 (by omega), ?_⟩
      · rw [hw1]
        unfold w1
        rw [if_neg e]
      · rw [hpow]
        exact Int.mul_le_mul hw.2.2 (by omega) (by omega) (by omega))
  rw [zs_len, List.length_range, Nat.zero_add, ← h.len, List.take_length] at e2
  rw [ob e1, e2.1]
  rw [e2.1] at e2
  rw [h.len] at e2
  exact ⟨rfl, e2.2.1, e2.2.2⟩
/-! ### the list of forests -/
theorem l3_ok (line : List Nat) (hl : line.length ≤ 100) : ∀ (hs : List Nat) (acc : List (List Int)), acc.length + hs.length ≤ 1000000 → forO (M.forests_llili_l3 (zs line)) (zs hs) acc = some (acc ++ (hs.map fun y => line ++ [y]).map zs)
  | [], acc, _ => by simp [forO, zs]
  | y :: hs, acc, h => by
    rw [List.length_cons] at h
    have e : zs line ++ [(y : Int)] = zs (line ++ [y]) := by unfold zs; rw [List.map_append]; rfl
    show Option.bind (M.forests_llili_l3 (zs line) (y : Int) acc) _ = _
    rw [M.forests_llili_l3, ob (lenO_eq (by rw [List.length_append, zs_len]; simp; omega)), ob (appO_eq (by omega)), Option.bind_some, e]
    show forO _ (zs hs) _ = _
    rw [l3_ok line hl hs _ (by rw [List.length_append, List.length_singleton]; omega)]
    simp
theorem l2_ok (hs : List Nat) : ∀ (rows : List (List Nat)) (acc : List (List Int)), (∀ l ∈ rows, l.length ≤ 100) → acc.length + rows.length * hs.length ≤ 1000000 → forO (M.forests_llili_l2 (zs hs)) (rows.map zs) acc = some (acc ++ (rows.flatMap fun l => hs.map fun y => l ++ [y]).map zs)
  | [], acc, _, _ => by simp [forO]
  | l :: rows, acc, hl, h => by
    rw [List.length_cons, Nat.succ_mul] at h
    show Option.bind (M.forests_llili_l2 (zs hs) (zs l) acc) _ = _
    rw [M.forests_llili_l2, ob (l3_ok l (hl l List.mem_cons_self) hs acc (by omega)), Option.bind_some, l2_ok hs rows _ (fun l' m => hl l' (List.mem_cons_of_mem _ m)) (by simp; omega)]
    simp
theorem grow_len {V : Nat → List Nat} {m : Nat} : ∀ (xs : List Nat) (L : List (List Nat)), (∀ x ∈ xs, (V x).length ≤ m) → (grow V xs L).length ≤ L.length * m ^ xs.length
  | [], L, _ => by simp [grow]
  | x :: xs, L, h => by
    refine Nat.le_trans (grow_len xs _ fun y my => h y (List.mem_cons_of_mem _ my)) ?_
    have e : (L.flatMap fun l => (V x).map fun y => l ++ [y]).length = L.length * (V x).length := by
      induction L with
      | nil => simp
      | cons l L ih => rw [List.flatMap_cons, List.length_append, List.length_map, ih, List.length_cons, Nat.succ_mul]; omega
    rw [e, List.length_cons, Nat.pow_succ]
    have h1 := h x List.mem_cons_self
    calc L.length * (V x).length * m ^ xs.length ≤ L.length * m * m ^ xs.length := Nat.mul_le_mul_right _ (Nat.mul_le_mul_left _ h1)
      _ = L.length * (m ^ xs.length * m) := by rw [Nat.mul_assoc, Nat.mul_comm m]
theorem hds_len {A : Gr} (hn : 1 ≤ n) (x : Nat) : (hds A n R x).length ≤ n := by
  unfold hds
  by_cases e : x ∈ R
  · rw [if_pos e]; exact hn
  · rw [if_neg e]
    exact Nat.le_trans (List.length_filter_le _ _) (by rw [List.length_range]; exact Nat.le_refl _)
theorem forests_ok (G : Gd Mx n g) (hR : Rt n R) (h1 : 1 ≤ n) (hN : n ^ n < 1000000) (h8 : n ≤ 8) : M.forests_llili g (zs R) = some ((fors (ga g) n R).map zs) := by
  unfold M.forests_llili
  have gl : ((g.length : Nat) : Int) = (n : Int) := by rw [G.len]
  have npow : ∀ i, i ≤ n → n ^ i ≤ n ^ n := fun i hi => Nat.pow_le_pow_right h1 hi
  rw [lt_eq, gl, ob (rngO_nat n (by omega))]
  obtain ⟨b, e1, e2⟩ := forO_inv (step := M.forests_llili_l1 g (zs R)) (fun i rows => rows = (grow (hds (ga g) n R) (List.range i) [[]]).map zs) (xs := zs (List.range n)) (k := 0) (b := [([] : List Int)]) rfl (fun i x rows hx hrows => by
    simp only [Nat.zero_add] at hrows ⊢
    obtain ⟨x', hx', rfl⟩ := zs_get hx
    obtain ⟨hi, e⟩ := List.getElem?_eq_some_iff.mp hx'
    rw [List.getElem_range] at e
    rw [List.length_range] at hi
    subst e
    rw [M.forests_llili_l1, gl, ob (rngO_nat n (by omega)), ob (lnO_eq (by rw [zs_len, List.length_range]; omega))]
    have hf : filtO (fun y_ => (Option.bind (atI g (i : Int)) fun t6 => Option.bind (atI t6 y_) fun t7 => if (decide ((0 : Int) < t7)) = true then some (some (y_)) else some none)) (zs (List.range n)) = some (zs ((List.range n).filter fun y => decide (0 < ga g i y))) := by
      rw [filtO_eq (c := fun y => decide (0 < ga g i y.toNat)) (g := fun y => y) fun y my => ?_]
      · congr 1
        unfold zs
        rw [List.filter_map, List.map_map]
        have : ((fun y : Int => decide (0 < ga g i y.toNat)) ∘ fun (j : Nat) => (j : Int)) = fun y => decide (0 < ga g i y) := by funext j; simp
        rw [this]; rfl
      · unfold zs at my
        rw [List.mem_map] at my
        obtain ⟨v, mv, rfl⟩ := my
        rw [List.mem_range] at mv
        rw [ob (G.at_ hi), ob (G.at2 hi mv), Int.toNat_natCast]
        by_cases e : 0 < ga g i v
        · rw [if_pos (decide_eq_true e), if_pos (decide_eq_true e)]
        · rw [if_neg (by rw [decide_eq_true_eq]; exact e), if_neg (by rw [decide_eq_true_eq]; exact e)]
    rw [ob hf]
    have hj : (if (decide ((i : Int) ∈ zs R)) = true then (lt ([(i : Int)]) fun heads_3 => some (heads_3)) else (some (zs ((List.range n).filter fun y => decide (0 < ga g i y))))) = some (zs (hds (ga g) n R i)) := by
      unfold hds
      by_cases e : i ∈ R
      · rw [if_pos (decide_eq_true (zs_mem.mpr e)), if_pos e]; rfl
      · rw [if_neg (by rw [decide_eq_true_eq, zs_mem]; exact e), if_neg e]
    have hlen : (grow (hds (ga g) n R) (List.range i) [[]]).length ≤ n ^ i := by
      have := grow_len (V := hds (ga g) n R) (m := n) (List.range i) [[]] fun x _ => hds_len h1 x
      rw [List.length_singleton, Nat.one_mul, List.length_range] at this
      exact this
    have hmul : (grow (hds (ga g) n R) (List.range i) [[]]).length * (hds (ga g) n R i).length ≤ n ^ (i + 1) := by
      rw [Nat.pow_succ]; exact Nat.mul_le_mul hlen (hds_len h1 i)
    have hpn := npow (i + 1) (by omega)
    rw [ob hj, lt_eq, hrows, ob (l2_ok (hds (ga g) n R i) _ [] (fun l ml => ?_) (by rw [List.length_nil, Nat.zero_add]; omega)), lt_eq]
    · refine ⟨_, rfl, ?_⟩
      rw [List.nil_append, List.range_succ, grow_snoc]
    · obtain ⟨l0, m0, ys, rfl, h3, _⟩ := grow_mem _ _ _ _ ml
      rw [List.mem_singleton] at m0
      subst m0
      rw [List.length_range] at h3
      rw [List.nil_append, h3]; omega)
  rw [ob e1, lt_eq]
  rw [zs_len, List.length_range, Nat.zero_add] at e2
  have key : ∀ (L : List (List Nat)) (acc : List (List Int)), (∀ l ∈ L, Ln (ga g) n R l) → acc.length + L.length ≤ 1000000 → forO (M.forests_llili_l4 g (zs R)) (L.map zs) acc = some (acc ++ (L.filter (okL n R)).map zs) := by
    intro L
    induction L with
    | nil => intro acc _ _; simp [forO]
    | cons l L ih =>
      intro acc hl h
      rw [List.length_cons] at h
      have hln := hl l List.mem_cons_self
      show Option.bind (M.forests_llili_l4 g (zs R) (zs l) acc) _ = _
      rw [M.forests_llili_l4, gl, ob (rngO_nat n (by omega)), ob (lnO_eq (by rw [zs_len, List.length_range]; omega)), ob (mapO_zs (h := fun x => decide (ld n l x ∈ R)) fun x mx => by
        rw [ob (lead_ok hR hln (by omega) (List.mem_range.mp mx)).1, led_in hln hR])]
      have ea : (((List.range n).map fun x => decide (ld n l x ∈ R)).all id) = okL n R l := by
        unfold okL
        rw [List.all_map]; rfl
      rw [ea, List.filter_cons]
      by_cases e : okL n R l = true
      · rw [if_pos e, if_pos e, ob (appO_eq (by omega)), Option.bind_some, ih _ (fun l' m => hl l' (List.mem_cons_of_mem _ m)) (by rw [List.length_append, List.length_singleton]; omega)]
        simp
      · rw [if_neg e, if_neg e, Option.bind_some, ih _ (fun l' m => hl l' (List.mem_cons_of_mem _ m)) (by omega)]
  have hlen : (grow (hds (ga g) n R) (List.range n) [[]]).length ≤ n ^ n := by
    have := grow_len (V := hds (ga g) n R) (m := n) (List.range n) [[]] fun x _ => hds_len h1 x
    rw [List.length_singleton, Nat.one_mul, List.length_range] at this
    exact this
  rw [e2, ob (key _ [] (fun l m => Ln.of m) (by rw [List.length_nil]; omega)), List.nil_append]; rfl
theorem forO_sum {step : List Int → Int → Option Int} {t : List Nat → Int} : ∀ {L : List (List Nat)} {b : Int}, (∀ l ∈ L, ∀ b, step (zs l) b = some (b + t l)) → forO step (L.map zs) b = some (b + sl L t)
  | [], b, _ => by simp [forO, sl]
  | l :: L, b, h => by
    show Option.bind (step (zs l) b) _ = _
    rw [h l List.mem_cons_self, Option.bind_some, forO_sum fun l' m => h l' (List.mem_cons_of_mem _ m), sl_cons, Int.add_assoc]
theorem fors_ln {A : Gr} {l : List Nat} (h : l ∈ fors A n R) : Ln A n R l ∧ ∀ x, x < n → ld n l x ∈ R := by
  unfold fors at h
  obtain ⟨h1, h2⟩ := List.mem_filter.mp h
  exact ⟨Ln.of h1, fun x hx => of_decide_eq_true (List.all_eq_true.mp h2 x (List.mem_range.mpr hx))⟩
theorem sum_all_ok (G : Gd Mx n g) (z : Sm Mx n) (hR : Rt n R) (hN : n ^ n < 1000000) : M.sum_llililti g (zs R) [] = some (PF (ga g) n R fun _ => 1) := by
  have h2 := z.n2
  unfold M.sum_llililti
  rw [lt_eq, ob (forests_ok G hR (by omega) hN z.n8), ob (forO_sum (t := wl (w1 (ga g) R) 0) fun l ml b => ?_)]
  · have e := law_sum (k := fun _ => 1) hR.perm G.nn (fun _ _ _ => rfl)
    rw [Int.zero_add]
    have e2 : sl (fors (ga g) n R) (wl (w1 (ga g) R) 0) = sl (fors (ga g) n R) (fun l => wl (w1 (ga g) R) 0 l * 1) := sl_congr fun l _ => by rw [Int.mul_one]
    rw [e2]
    exact congrArg some e
  · rw [M.sum_llililti_l1, ob (lnO_eq (by simp))]
    show (Option.bind (some []) _) = _
    rw [Option.bind_some, if_pos (show ([] : List Bool).all id = true from rfl), ob (weight_ok G z hR (fors_ln ml).1).1, lt_eq]
theorem sum_end_ok (G : Gd Mx n g) (z : Sm Mx n) (hR : Rt n R) (hN : n ^ n < 1000000) {x c : Nat} (hx : x < n) : M.sum_llililti g (zs R) [[(x : Int), (c : Int)]] = some (PX (ga g) n R c x) := by
  have h2 := z.n2
  have h8 := z.n8
  unfold M.sum_llililti
  rw [lt_eq, ob (forests_ok G hR (by omega) hN z.n8), ob (forO_sum (t := fun l => wl (w1 (ga g) R) 0 l * (if ld n l x = c then 1 else 0)) fun l ml b => ?_)]
  · have e := law_sum (k := fun σ => if σ x = c then 1 else 0) hR.perm G.nn (fun σ σ' h => by show (if σ x = c then (1 : Int) else 0) = if σ' x = c then 1 else 0; rw [h x (List.mem_range.mpr hx)])
    rw [Int.zero_add]
    exact congrArg some e
  · have hl := fors_ln ml
    have e1 := (lead_ok hR hl.1 (by omega) hx).2
    rw [led_is hl.1 hR (hl.2 x hx)] at e1
    rw [M.sum_llililti_l1, ob (lnO_eq (by simp))]
    have em : mapO (fun pair_here => (Option.bind (atI pair_here (0 : Int)) fun t5 => Option.bind (M.lead_tii (zs l) t5) fun t6 => Option.bind (atI pair_here (1 : Int)) fun t7 => some ((decide (t6 = t7))))) [[(x : Int), (c : Int)]] = some [decide (((ld n l x : Nat) : Int) = (c : Int))] := by
      show Option.bind (Option.bind (atI [(x : Int), (c : Int)] 0) _) _ = _
      rw [ob (atI_0 _ _), ob e1, ob (atI_1 _ _ _)]; rfl
    rw [ob em]
    have ea : ([decide (((ld n l x : Nat) : Int) = (c : Int))].all id) = decide (ld n l x = c) := by
      simp only [List.all_cons, List.all_nil, Bool.and_true, id]
      rw [decide_eq_decide]; omega
    rw [ea]
    by_cases e : ld n l x = c
    · rw [if_pos (decide_eq_true e), if_pos e, ob (weight_ok G z hR hl.1).1, lt_eq, Int.mul_one]
    · rw [if_neg (by rw [decide_eq_true_eq]; exact e), if_neg e, Int.mul_zero, Int.add_zero]
theorem lw_push_ok (G : Gd Mx n g) (z : Sm Mx n) (hN : n ^ n < 1000000) {a b c e : Nat} (ha : a < n) (hb : b < n) (hR : Rt n [c, e]) : M.lw_push_lliiiii g (a : Int) (b : Int) (c : Int) (e : Int) = some (PX (ga g) n [c, e] c b - PX (ga g) n [c, e] c a) := by
  have h2 := z.n2
  have h8 := z.n8
  unfold M.lw_push_lliiiii
  have hf : M.forests_llili g [(c : Int), (e : Int)] = some ((fors (ga g) n [c, e]).map zs) := forests_ok G hR (by omega) hN z.n8
  rw [lt_eq, ob hf, ob (forO_sum (t := fun l => wl (w1 (ga g) [c, e]) 0 l * ((if ld n l b = c then 1 else 0) - (if ld n l a = c then 1 else 0))) fun l ml w => ?_)]
  · have e1 := law_sum (k := fun σ => if σ b = c then 1 else 0) hR.perm G.nn (fun σ σ' h => by show (if σ b = c then (1 : Int) else 0) = if σ' b = c then 1 else 0; rw [h b (List.mem_range.mpr hb)])
    have e2 := law_sum (k := fun σ => if σ a = c then 1 else 0) hR.perm G.nn (fun σ σ' h => by show (if σ a = c then (1 : Int) else 0) = if σ' a = c then 1 else 0; rw [h a (List.mem_range.mpr ha)])
    have e3 : sl (fors (ga g) n [c, e]) (fun l => wl (w1 (ga g) [c, e]) 0 l * ((if ld n l b = c then 1 else 0) - (if ld n l a = c then 1 else 0))) = PX (ga g) n [c, e] c b - PX (ga g) n [c, e] c a := by
      unfold PX PF
      rw [← e1, ← e2]
      generalize fors (ga g) n [c, e] = L
      induction L with
      | nil => rfl
      | cons l L ih => rw [sl_cons, sl_cons, sl_cons, ih]; grind
    rw [e3, Int.zero_add]
  · have hl := fors_ln ml
    have q1 := (lead_ok hR hl.1 (by omega) hb).2
    have q2 := (lead_ok hR hl.1 (by omega) ha).2
    rw [led_is hl.1 hR (hl.2 b hb)] at q1
    rw [led_is hl.1 hR (hl.2 a ha)] at q2
    have hw := weight_ok G z hR hl.1
    rw [M.lw_push_lliiiii_l1, ob q1, ob q2, lt_eq, ob hw.1]
    have s1 : b2i (decide (((ld n l b : Nat) : Int) = (c : Int))) = if ld n l b = c then 1 else 0 := by
      unfold b2i
      by_cases e : ld n l b = c
      · rw [if_pos e, if_pos (decide_eq_true (by omega))]
      · rw [if_neg e, if_neg (by rw [decide_eq_true_eq]; omega)]
    have s2 : b2i (decide (((ld n l a : Nat) : Int) = (c : Int))) = if ld n l a = c then 1 else 0 := by
      unfold b2i
      by_cases e : ld n l a = c
      · rw [if_pos e, if_pos (decide_eq_true (by omega))]
      · rw [if_neg e, if_neg (by rw [decide_eq_true_eq]; omega)]
    rw [s1, s2]
    have hb1 : (wl (w1 (ga g) [c, e]) 0 l).natAbs.log2 < 1000 := by
      refine log2_lt (by decide) ?_
      have k : ((2 : Int) ^ 100) ^ n ≤ (2 ^ 100) ^ 8 := pow_le (by decide) (by omega)
      have k2 : ((2 : Int) ^ 100) ^ 8 < ((2 ^ 1000 : Nat) : Int) := by decide +kernel
      have := hw.2
      omega
    have hb2 : (((if ld n l b = c then 1 else 0) : Int) - (if ld n l a = c then 1 else 0)).natAbs.log2 < 1000 := by
      by_cases e1 : ld n l b = c <;> by_cases e2 : ld n l a = c <;> simp only [e1, e2, if_true, if_false] <;> decide
    rw [ob (mulO_eq (by omega)), lt_eq, Int.mul_comm]
end
end MB
set_option Elab.async false
set_option linter.all false
set_option maxRecDepth 100000
set_option maxHeartbeats 4000000
/-! Mb6: what the law asks behind a change. -/
namespace MB
open PySem L2 LW MT LK
section
variable {Mx : Int} {n : Nat} {g g' : List (List Int)} {R : List Nat}
theorem PF_q {A : Gr} {q : Nat} {k : (Nat → Nat) → Int} (hR : Rt n R) (hq : q < n) (nq : q ∉ R) (hk : Loc (Xr n R ++ R) k) : PF A n R k = FS (q :: Xr n (q :: R)) A R k := by
  unfold PF
  refine FS_permX ?_ hR.nodup hk
  have n2 : (q :: Xr n (q :: R)).Nodup := List.nodup_cons.mpr ⟨fun m => (Xr_mem.mp m).2 List.mem_cons_self, Xr_nd n _⟩
  refine (List.perm_ext_iff_of_nodup (Xr_nd n R) n2).mpr fun a => ?_
  rw [List.mem_cons, Xr_mem, Xr_mem, List.mem_cons]
  by_cases e : a = q
  · subst e
    exact ⟨fun _ => .inl rfl, fun _ => ⟨hq, nq⟩⟩
  · exact ⟨fun h => .inr ⟨h.1, fun m => m.elim e h.2⟩, fun h => h.elim (fun q => absurd q e) fun h => ⟨h.1, fun m => h.2 (.inr m)⟩⟩
theorem mem_all (hR : Rt n R) {x : Nat} : x ∈ Xr n R ++ R ↔ x < n := by rw [hR.perm.mem_iff, List.mem_range]
theorem locx (hR : Rt n R) {c x : Nat} (hx : x < n) : Loc (Xr n R ++ R) (fun σ => if σ x = c then 1 else 0) := fun σ σ' h => by
  show (if σ x = c then (1 : Int) else 0) = if σ' x = c then 1 else 0
  rw [h x ((mem_all hR).mpr hx)]
theorem Rt.cons (hR : Rt n R) {q : Nat} (hq : q < n) (nq : q ∉ R) : Rt n (q :: R) := ⟨List.nodup_cons.mpr ⟨nq, hR.nd⟩, fun r m => by
  rcases List.mem_cons.mp m with e | m
  · rw [e]; exact hq
  · exact hR.lt r m⟩
/-- one rate out of q changed by d -/
structure Chg (A A' : Gr) (q h : Nat) (d : Int) : Prop where
  at_ : A' q h = A q h + d
  o : ∀ u v, ¬ (u = q ∧ v = h) → A' u v = A u v
theorem change {A A' : Gr} {q h c : Nat} {d : Int} (hA : ∀ x y, 0 ≤ A x y) (hR : Rt n R) (hq : q < n) (nq : q ∉ R) (hh : h < n) (hhq : h ≠ q) (hc : c ∈ R) (C : Chg A A' q h d) :
    (∀ x, x < n → PF A n R (fun _ => 1) * PX A' n R c x - PF A' n R (fun _ => 1) * PX A n R c x = d * (PX A n (q :: R) q x * (PX A n R c h - PX A n R c q))) ∧ PX A' n R c h - PX A' n R c q = PX A n R c h - PX A n R c q := by
  have hR3 := hR.cons hq nq
  have hn3 := hR3.nodup
  have hn : (q :: (Xr n (q :: R) ++ R)).Nodup := List.perm_middle.nodup_iff.mp hn3
  have mem : ∀ x, x < n → x ∈ q :: (Xr n (q :: R) ++ R) := fun x hx => List.perm_middle.mem_iff.mp ((mem_all hR3).mpr hx)
  have mh : h ∈ Xr n (q :: R) ++ R := by
    rcases List.mem_cons.mp (mem h hh) with e | m
    · exact absurd e hhq
    · exact m
  have eF : ∀ B : Gr, PF B n R (fun _ => 1) = FS (q :: Xr n (q :: R)) B R (fun _ => 1) := fun B => PF_q hR hq nq fun _ _ _ => rfl
  have eP : ∀ (B : Gr) (x : Nat), x < n → PX B n R c x = FS (q :: Xr n (q :: R)) B R (fun σ => if σ x = c then 1 else 0) := fun B x hx => PF_q hR hq nq (locx hR hx)
  have cF := FS_change (X := Xr n (q :: R)) (R := R) (k := fun _ => 1) hn mh C.at_ C.o
  have cP : ∀ x, x < n → PX A' n R c x = PX A n R c x + d * FS (Xr n (q :: R)) (mg A q h) R (fun σ => if (if x = q then σ h else σ x) = c then 1 else 0) := fun x hx => by
    rw [eP A' x hx, eP A x hx, FS_change (X := Xr n (q :: R)) (R := R) hn mh C.at_ C.o]
  refine ⟨fun x hx => ?_, ?_⟩
  · have k := key hA hn mh hc (mem x hx)
    rw [← eF A, ← eP A x hx, ← eP A h hh, ← eP A q hq] at k
    rw [cP x hx, eF A', cF, ← eF A]
    have e3 : PX A n (q :: R) q x = FS (Xr n (q :: R)) A (q :: R) (fun σ => if σ x = q then 1 else 0) := rfl
    rw [e3, ← k]; grind
  · rw [cP h hh, cP q hq]
    have e0 : (fun σ : Nat → Nat => if (if h = q then σ h else σ h) = c then (1 : Int) else 0) = fun σ => if σ h = c then 1 else 0 := by funext σ; simp
    have e1 : (fun σ : Nat → Nat => if (if q = q then σ h else σ q) = c then (1 : Int) else 0) = fun σ => if σ h = c then 1 else 0 := by funext σ; simp
    rw [e0, e1]; grind
/-! ### sizes -/
theorem PF_bd (G : Gd Mx n g) (z : Sm Mx n) (hR : Rt n R) : 0 ≤ PF (ga g) n R (fun _ => 1) ∧ PF (ga g) n R (fun _ => 1) < 2 ^ 4000 := by
  refine ⟨FS_nn G.nn fun _ => by decide, ?_⟩
  rw [← lrow_det G hR]
  have hl := Xo_len (n := n) R
  have h8 := z.n8
  by_cases e : (Xo n R).length = 0
  · have e2 : Xo n R = [] := List.length_eq_zero_iff.mp e
    rw [e2]
    show (1 : Int) < 2 ^ 4000
    decide +kernel
  · have f := fit8 (m := (Xo n R).length) (by omega) (by omega)
    have hd := det_bd BB (Xo n R).length f.M1 f.m1 ((Xo n R).map (lrow g (Xo n R))).reverse (cs (Xo n R).length) (fun u mu c mc => by
      obtain ⟨j, _, rfl⟩ := cs_mem mc
      rw [List.mem_reverse, List.mem_map] at mu
      obtain ⟨v, mv, rfl⟩ := mu
      exact lrow_bnd G z (Xo_mem.mp mv).1 j) (by rw [cs_len]; exact Nat.le_refl _)
    have mM : (1 : Int) ≤ ((Xo n R).length : Int) * BB := by
      have := Int.mul_le_mul (show (1 : Int) ≤ ((Xo n R).length : Int) from by omega) f.M1 (by omega) (by omega)
      omega
    have e2 := pow_le mM (i := (Xo n R).length) (j := (Xo n R).length + 1) (by omega)
    have e3 := f.b
    rw [List.length_reverse, List.length_map] at hd
    exact Int.lt_of_le_of_lt (Int.le_trans hd.2 e2) e3
theorem PX_bd (G : Gd Mx n g) (z : Sm Mx n) (hR : Rt n R) (c x : Nat) : 0 ≤ PX (ga g) n R c x ∧ PX (ga g) n R c x < 2 ^ 4000 := by
  have h := PF_bd G z hR
  have h1 : 0 ≤ PX (ga g) n R c x := FS_nn G.nn fun σ => by by_cases e : σ x = c <;> simp [e]
  have h2 : PX (ga g) n R c x ≤ PF (ga g) n R (fun _ => 1) := FS_le G.nn fun σ => by by_cases e : σ x = c <;> simp [e]
  omega
theorem log_of {i : Int} {b : Nat} (hb : 0 < b) (h : -(((2 ^ b : Nat)) : Int) < i ∧ i < ((2 ^ b : Nat) : Int)) : i.natAbs.log2 < b := log2_lt hb (by omega)
theorem mul_log {i j : Int} {a b : Nat} (ha : 0 < a) (hb : 0 < b) (hi : i.natAbs < 2 ^ a) (hj : j.natAbs < 2 ^ b) (h : a + b < 900000) : mulO i j = some (i * j) ∧ (i * j).natAbs < 2 ^ (a + b) := by
  have h1 := log2_lt ha hi
  have h2 := log2_lt hb hj
  exact ⟨mulO_eq (by omega), L2.wide_lt hi hj⟩
theorem nat_lt {i : Int} (h : -(2 ^ 4001) < i ∧ i < 2 ^ 4001) : i.natAbs < 2 ^ 4001 := by
  have e : ((2 : Int) ^ 4001) = ((2 ^ 4001 : Nat) : Int) := by norm_cast
  rw [e] at h
  omega
theorem two4000 : (2 : Int) ^ 4001 = 2 ^ 4000 * 2 := Int.pow_succ 2 4000
theorem pos4000 : (0 : Int) < 2 ^ 4000 := Int.pow_pos (by decide)
/-! ### one push -/
/-! ### rows of the right kind -/
theorem ints_ok {l : List Int} (hl : l.length = n) (h8 : n ≤ 8) : M.ints_tii l (n : Int) = some true := by
  unfold M.ints_tii
  have hm : mapO (fun one => (Option.bind (M.int one) fun t3 => some (t3))) l = some (l.map fun _ => true) := mapO_eq fun x _ => rfl
  rw [if_neg (by rw [hl]; simp), ob (lnO_eq (by omega)), ob hm]
  congr 1
  rw [List.all_map]
  exact List.all_eq_true.mpr fun _ _ => rfl
theorem kind_ok {f : Nat → Nat → Int} (h8 : n ≤ 8) : M.rows_kind_ttii ((List.range n).map fun a => (List.range n).map fun b => f a b) (n : Int) = some true := by
  unfold M.rows_kind_ttii
  rw [if_neg (by rw [List.length_map, List.length_range]; simp), ob (lnO_eq (by rw [List.length_map, List.length_range]; omega)), ob (mapO_eq (g := fun _ => true) fun l ml => ?_)]
  · congr 1
    rw [List.all_map]
    exact List.all_eq_true.mpr fun _ _ => rfl
  · rw [List.mem_map] at ml
    obtain ⟨a, _, rfl⟩ := ml
    rw [ob (ints_ok (by rw [List.length_map, List.length_range]) h8)]
theorem forC_nx {α ρ : Type} {step : α → Unit → Option (Ctl Unit ρ)} : ∀ {xs : List α}, (∀ x ∈ xs, step x () = some (.nx ())) → forC step xs () = some (.nx ())
  | [], _ => rfl
  | x :: xs, h => by
    show Option.bind (step x ()) _ = _
    rw [h x List.mem_cons_self, Option.bind_some]
    exact forC_nx fun y m => h y (List.mem_cons_of_mem _ m)
abbrev drow (n : Nat) (P : Nat → Int) : List (List Int) := (List.range n).map fun a => (List.range n).map fun b => P b - P a
theorem drow_at {P : Nat → Int} {x : Nat} (hx : x < n) : atI (drow n P) (x : Int) = some ((List.range n).map fun b => P b - P x) := atI_get (by rw [List.getElem?_map, List.getElem?_range hx]; rfl)
end
end MB
set_option Elab.async false
set_option linter.all false
set_option maxRecDepth 100000
set_option maxHeartbeats 4000000
set_option exponentiation.threshold 5000
/-! Mb7: all pushes behind a change. -/
namespace MB
open PySem L2 LW MT LK
section
variable {Mx : Int} {n : Nat} {g g' : List (List Int)} {R : List Nat}
theorem bnd_sub {x y : Int} (h1 : 0 ≤ x ∧ x < 2 ^ 4000) (h2 : 0 ≤ y ∧ y < 2 ^ 4000) : (x - y).natAbs < 2 ^ 4001 := nat_lt (by
  have h3 := two4000
  have h4 := pos4000
  generalize (2 : Int) ^ 4001 = u at *
  generalize (2 : Int) ^ 4000 = v at *
  omega)
theorem bnd_one {x : Int} (h1 : 0 ≤ x ∧ x < 2 ^ 4000) : x.natAbs < 2 ^ 4001 := nat_lt (by
  have h3 := two4000
  have h4 := pos4000
  generalize (2 : Int) ^ 4001 = u at *
  generalize (2 : Int) ^ 4000 = v at *
  omega)
theorem passed_ok (G : Gd Mx n g) (z : Sm Mx n) (hN : n ^ n < 1000000) {q c e : Nat} (hR3l : Rt n [c, e, q]) : mapO (fun x_ => (Option.bind (M.sum_llililti g [(c : Int), (e : Int), (q : Int)] [[x_, (q : Int)]]) fun t35 => some (t35))) (zs (List.range n)) = some ((List.range n).map (PX (ga g) n (q :: [c, e]) q)) := mapO_zs fun u mu => by
  have s3 : M.sum_llililti g [(c : Int), (e : Int), (q : Int)] [[(u : Int), (q : Int)]] = some (PX (ga g) n [c, e, q] q u) := sum_end_ok G z hR3l hN (List.mem_range.mp mu)
  rw [ob s3]
  exact congrArg some (PF_perm (List.perm_append_comm (l₁ := [c, e]) (l₂ := [q])))
theorem row3_ok {T : Tab} (G : Gd Mx n g) (z : Sm Mx n) (hT : T.rows = g) (hS : T.size = (n : Int)) {q c e : Nat} (hR3e : Rt n [q, e, c]) : M.forest_row_Titi T (q : Int) [(e : Int), (c : Int)] = some ((List.range n).map (PX (ga g) n (q :: [c, e]) q)) := by
  have h := forest_row_ok G z hT hS hR3e
  rw [show [(e : Int), (c : Int)] = zs [e, c] from rfl, h]
  congr 1
  exact List.map_congr_left fun x _ => PF_perm (List.Perm.cons q (List.Perm.swap _ _ _))
end
end MB
set_option Elab.async false
set_option linter.all false
set_option maxRecDepth 100000
set_option maxHeartbeats 4000000
set_option exponentiation.threshold 5000
/-! Mb8: behind_right. -/
namespace MB
open PySem L2 LW MT LK
theorem oif_nd {α β : Type} [DecidableEq β] {x y : β} {A B : Option α} (h : x = y) : (if (!(decide (x = y))) = true then A else B) = B := by rw [decide_eq_true h]; rfl
section
variable {Mx : Int} {n : Nat} {g g' : List (List Int)} {R : List Nat}
end
end MB
set_option Elab.async false
set_option linter.all false
set_option maxRecDepth 100000
set_option maxHeartbeats 4000000
/-! Mb9: the drawn grids. -/
namespace MB
open PySem L2 LW MT LK
/-- it comes out, and with P -/
def W {β : Type} (m : Option β) (P : β → Prop) : Prop := ∃ b, m = some b ∧ P b
theorem W.some {β : Type} {b : β} {P : β → Prop} (h : P b) : W (Option.some b) P := ⟨b, rfl, h⟩
theorem W.bind {α β : Type} {m : Option α} {f : α → Option β} {P : α → Prop} {Q : β → Prop} (h : W m P) (k : ∀ a, P a → W (f a) Q) : W (Option.bind m f) Q := by
  obtain ⟨a, e, p⟩ := h
  rw [e]
  exact k a p
theorem W.eq {α β : Type} {m : Option α} {x : α} {f : α → Option β} {Q : β → Prop} (h : m = Option.some x) (k : W (f x) Q) : W (Option.bind m f) Q := by
  rw [h]
  exact k
theorem W.ite {β : Type} {c : Bool} {A B : Option β} {Q : β → Prop} (h1 : c = true → W A Q) (h2 : c = false → W B Q) : W (if c = true then A else B) Q := by
  cases c
  · exact h2 rfl
  · exact h1 rfl
theorem W.mono {β : Type} {m : Option β} {P Q : β → Prop} (h : W m P) (k : ∀ b, P b → Q b) : W m Q := by
  obtain ⟨b, e, p⟩ := h
  exact ⟨b, e, k b p⟩
theorem W.forO {α β : Type} {step : α → β → Option β} (I : β → Prop) : ∀ {xs : List α} {b : β}, I b → (∀ x ∈ xs, ∀ b, I b → W (step x b) I) → W (LW.forO step xs b) I
  | [], b, h, _ => ⟨b, rfl, h⟩
  | x :: xs, b, h, hs => by
    show W (Option.bind (step x b) _) _
    exact W.bind (hs x List.mem_cons_self b h) fun b1 h1 => W.forO I h1 fun y m => hs y (List.mem_cons_of_mem _ m)
theorem W.rng {β : Type} {n : Nat} {f : List Int → Option β} {Q : β → Prop} (h : n ≤ 1000000) (k : W (f (zs (List.range n))) Q) : W (Option.bind (rngO 0 (n : Int)) f) Q := W.eq (rngO_nat n h) k
theorem zs_rng {n : Nat} {x : Int} (h : x ∈ zs (List.range n)) : 0 ≤ x ∧ x < (n : Int) := by
  unfold zs at h
  rw [List.mem_map] at h
  obtain ⟨u, mu, rfl⟩ := h
  rw [List.mem_range] at mu
  omega
/-! ### draws -/
theorem take_W {ds : List Int} {m : Int} (hm : 1 ≤ m) : W (M.take ds m) fun r => 0 ≤ r.1 ∧ r.1 < m := by
  unfold M.take
  refine W.ite (fun h => W.some ⟨by show (0 : Int) ≤ 0; decide, by show (0 : Int) < m; omega⟩) fun h => ?_
  rw [Bool.or_eq_false_iff, decide_eq_false_iff_not, decide_eq_false_iff_not] at h
  have hp : ∃ p, popO ds = Option.some p := by
    unfold popO
    cases e : ds.getLast? with
    | none => rw [List.getLast?_eq_none_iff] at e; rw [e] at h; exact absurd rfl h.2
    | some x => exact ⟨_, rfl⟩
  obtain ⟨p, hp⟩ := hp
  refine W.eq hp ?_
  refine W.eq (modO_eq (by omega)) ?_
  exact W.some ⟨Int.emod_nonneg _ (by omega), Int.emod_lt_of_pos _ (by omega)⟩
abbrev MX : Int := 10000000
theorem rate_W {ds : List Int} {s : Int} : W (M.rate ds s) fun r => 0 ≤ r.1 ∧ r.1 ≤ MX := by
  unfold M.rate
  refine W.ite (fun _ => W.some (by show (0 : Int) ≤ 1 ∧ (1 : Int) ≤ MX; decide)) fun _ => ?_
  refine W.bind (take_W (by decide)) fun p hp => ?_
  refine W.ite (fun _ => W.some (by show (0 : Int) ≤ 1000000 + 3 ∧ (1000000 : Int) + 3 ≤ MX; decide)) fun _ => W.some ?_
  show (0 : Int) ≤ 1 + p.1 ∧ 1 + p.1 ≤ 10000000
  omega
/-! ### grids -/
section
variable {n : Nat} {g : List (List Int)}
theorem empty_W (h : n ≤ 8) : W (M.empty (n : Int)) (Gd MX n) := by
  unfold M.empty
  refine W.rng (by omega) (W.eq (lnO_eq (by rw [zs_len, List.length_range]; omega)) ?_)
  have hm : mapO (fun x_ => (Option.bind (rngO 0 (n : Int)) fun r3 => Option.bind (lnO 100000 r3) fun z5 => Option.some ((r3.map fun y_ => (0 : Int))))) (zs (List.range n)) = Option.some ((List.range n).map fun _ => List.replicate n 0) := mapO_zs fun u mu => by
    rw [ob (rngO_nat n (by omega)), ob (lnO_eq (by rw [zs_len, List.length_range]; omega))]
    congr 1
    unfold zs
    rw [List.map_map]
    refine List.eq_replicate_iff.mpr ⟨by rw [List.length_map, List.length_range], fun b mb => ?_⟩
    rw [List.mem_map] at mb
    obtain ⟨_, _, e⟩ := mb
    exact e.symm
  refine W.eq hm (W.some ?_)
  have hr : ∀ u, u < n → rw_ ((List.range n).map fun _ => List.replicate n (0 : Int)) u = List.replicate n 0 := fun u hu => by
    unfold rw_
    rw [List.getElem?_map, List.getElem?_range hu]; rfl
  have h0 : ∀ u v, ga ((List.range n).map fun _ => List.replicate n (0 : Int)) u v = 0 := fun u v => by
    unfold ga cl
    rw [List.getD_eq_getElem?_getD]
    by_cases hu : u < n
    · rw [hr u hu, List.getElem?_replicate]
      by_cases hv : v < n
      · rw [if_pos hv]; rfl
      · rw [if_neg hv]; rfl
    · unfold rw_
      have e : ((List.range n).map fun _ => List.replicate n (0 : Int))[u]? = none := List.getElem?_eq_none (by rw [List.length_map, List.length_range]; omega)
      rw [e]; rfl
  refine ⟨by rw [List.length_map, List.length_range], fun u hu => by rw [hr u hu, List.length_replicate], fun u v => by rw [h0]; decide, fun u v => by rw [h0]; decide, fun u => h0 u u⟩
theorem ga_set {i j : Nat} {d : Int} (hi : i < g.length) (hj : j < (rw_ g i).length) (u v : Nat) : ga (g.set i ((rw_ g i).set j d)) u v = if u = i ∧ v = j then d else ga g u v := by
  unfold ga
  by_cases e : u = i
  · subst e
    have e1 : rw_ (g.set u ((rw_ g u).set j d)) u = (rw_ g u).set j d := by
      show ((g.set u ((rw_ g u).set j d))[u]?).getD [] = _
      rw [List.getElem?_set_self hi]; rfl
    rw [e1]
    unfold cl
    rw [List.getD_eq_getElem?_getD, List.getD_eq_getElem?_getD]
    by_cases e2 : v = j
    · subst e2
      rw [List.getElem?_set_self hj, if_pos ⟨rfl, rfl⟩]; rfl
    · rw [List.getElem?_set_ne (fun h => e2 h.symm), if_neg (fun h => e2 h.2)]
  · have e1 : rw_ (g.set i ((rw_ g i).set j d)) u = rw_ g u := by
      show ((g.set i ((rw_ g i).set j d))[u]?).getD [] = _
      rw [List.getElem?_set_ne (fun h => e h.symm)]; rfl
    rw [e1, if_neg (fun h => e h.1)]
/-- one rate set -/
theorem gset_W' (G : Gd MX n g) {i j d : Int} (hi : 0 ≤ i ∧ i < (n : Int)) (hj : 0 ≤ j ∧ j < (n : Int)) (hd : 0 ≤ d ∧ d ≤ MX) (h0 : i = j → d = 0) : W (gsetO g i j d) fun g' => Gd MX n g' ∧ ∀ u v, ga g' u v = if (u : Int) = i ∧ (v : Int) = j then d else ga g u v := by
  obtain ⟨i, rfl⟩ := Int.eq_ofNat_of_zero_le hi.1
  obtain ⟨j, rfl⟩ := Int.eq_ofNat_of_zero_le hj.1
  have hi' : i < g.length := by rw [G.len]; omega
  have hj' : j < (rw_ g i).length := by rw [G.row i (by omega)]; omega
  refine ⟨_, gsetO_nat (rw_get hi') hj', ?_, fun u v => ?_⟩
  · have hg := ga_set (d := d) hi' hj'
    refine ⟨by rw [List.length_set]; exact G.len, fun u hu => ?_, fun u v => ?_, fun u v => ?_, fun u => ?_⟩
    · by_cases e : u = i
      · subst e
        have e1 : rw_ (g.set u ((rw_ g u).set j d)) u = (rw_ g u).set j d := by
          show ((g.set u ((rw_ g u).set j d))[u]?).getD [] = _
          rw [List.getElem?_set_self hi']; rfl
        rw [e1, List.length_set]
        exact G.row u hu
      · have e1 : rw_ (g.set i ((rw_ g i).set j d)) u = rw_ g u := by
          show ((g.set i ((rw_ g i).set j d))[u]?).getD [] = _
          rw [List.getElem?_set_ne (fun h => e h.symm)]; rfl
        rw [e1]
        exact G.row u hu
    · rw [hg]
      split
      · exact hd.1
      · exact G.nn u v
    · rw [hg]
      split
      · exact hd.2
      · exact G.le u v
    · rw [hg]
      split
      · rename_i h
        exact h0 (by omega)
      · exact G.di u
  · rw [ga_set hi' hj']
    by_cases e : u = i ∧ v = j
    · rw [if_pos e, if_pos (by omega)]
    · rw [if_neg e, if_neg (by omega)]
theorem gset_W (G : Gd MX n g) {i j d : Int} (hi : 0 ≤ i ∧ i < (n : Int)) (hj : 0 ≤ j ∧ j < (n : Int)) (hd : 0 ≤ d ∧ d ≤ MX) (h0 : i = j → d = 0) : W (gsetO g i j d) (Gd MX n) := (gset_W' G hi hj hd h0).mono fun _ h => h.1
/-- a rate drawn and set -/
theorem rset_W {ρ : Type} {f : List Int → List (List Int) → Option ρ} {Q : ρ → Prop} (G : Gd MX n g) {ds : List Int} {s i j : Int} (hi : 0 ≤ i ∧ i < (n : Int)) (hj : 0 ≤ j ∧ j < (n : Int)) (h0 : i ≠ j) (k : ∀ ds' g', Gd MX n g' → W (f ds' g') Q) : W (Option.bind (M.rate ds s) fun p => Option.bind (gsetO g i j p.1) fun g' => f p.2 g') Q := by
  refine W.bind rate_W fun p hp => ?_
  refine W.bind (gset_W G hi hj hp (fun e => absurd e h0)) fun g' h => k p.2 g' h
theorem ring_W {ds : List Int} {s t : Int} (h2 : 2 ≤ n) (h : n ≤ 8) : W (M.ring_grid ds (n : Int) s t) fun r => Gd MX n r.1 := by
  unfold M.ring_grid
  refine W.bind (empty_W h) fun g G => ?_
  refine W.rng (by omega) ?_
  refine W.bind (P := fun (r : List (List Int) × List Int) => Gd MX n r.1) (W.forO (fun (r : List (List Int) × List Int) => Gd MX n r.1) G fun x mx r hr => ?_) fun r hr => W.some hr
  have hx := zs_rng mx
  obtain ⟨g1, d1⟩ := r
  unfold M.ring_grid_l1
  refine W.rng (by omega) ?_
  refine W.bind (P := fun (r : List (List Int) × List Int) => Gd MX n r.1) (W.forO (fun (r : List (List Int) × List Int) => Gd MX n r.1) hr fun y my r hr => ?_) fun r hr => W.some hr
  have hy := zs_rng my
  obtain ⟨g2, d2⟩ := r
  unfold M.ring_grid_l2
  refine W.eq (modO_eq (by omega)) ?_
  refine W.ite (fun e => ?_) fun e => ?_
  · rw [decide_eq_true_eq] at e
    refine rset_W (f := fun d g => Option.some (g, d)) hr hx hy (fun e2 => ?_) fun _ _ G => W.some G
    rw [← e2] at e
    by_cases e3 : x + 1 < (n : Int)
    · rw [Int.emod_eq_of_lt (by omega) e3] at e; omega
    · have e4 : x + 1 = (n : Int) := by omega
      rw [e4, Int.emod_self] at e; omega
  · refine W.bind (P := fun (r : Bool × List Int) => r.1 = true → y ≠ x) (W.ite (fun e2 => ?_) fun e2 => W.some fun h => Bool.noConfusion h) fun r hr2 => ?_
    · rw [Bool.not_eq_true', decide_eq_false_iff_not] at e2
      exact W.bind (take_W (by decide)) fun p hp => W.some fun _ => e2
    · refine W.ite (fun e2 => ?_) fun _ => W.some hr
      exact rset_W (f := fun d g => Option.some (g, d)) hr hx hy (fun e3 => hr2 e2 e3.symm) fun _ _ G => W.some G
end
end MB
set_option Elab.async false
set_option linter.all false
set_option maxRecDepth 100000
set_option maxHeartbeats 4000000
/-! Mb10: the drawn grids, all makers. -/
namespace MB
open PySem L2 LW MT LK
theorem W.lt {α β : Type} {e : α} {f : α → Option β} {Q : β → Prop} (h : W (f e) Q) : W (LW.lt e f) Q := h
section
variable {n : Nat} {g : List (List Int)}
theorem hung_W {ds : List Int} {s : Int} (h2 : 2 ≤ n) (h : n ≤ 8) : W (M.hung_grid ds (n : Int) s) fun r => Gd MX n r.1 := by
  unfold M.hung_grid
  refine W.bind (empty_W h) fun g G => ?_
  show W (Option.bind (rngO 0 (n : Int)) _) _
  refine W.rng (by omega) ?_
  refine W.bind (P := fun (r : List (List Int) × Int × List Int) => Gd MX n r.1) ((W.forO (fun (r : List (List Int) × Int × List Int) => Gd MX n r.1 ∧ 1 ≤ r.2.1) ⟨G, by show (1 : Int) ≤ 1; decide⟩ fun x mx r hr => ?_).mono fun _ h => h.1) fun r hr => W.some hr
  obtain ⟨g1, at1, d1⟩ := r
  obtain ⟨G1, ha⟩ := hr
  replace ha : (1 : Int) ≤ at1 := ha
  unfold M.hung_grid_l1
  refine W.ite (fun e => ?_) fun e => W.some ⟨G1, ha⟩
  rw [decide_eq_true_eq] at e
  refine W.bind (take_W ha) fun p hp => ?_
  refine rset_W G1 ⟨hp.1, by omega⟩ ⟨by omega, e⟩ (by omega) (f := fun ds11 grid_here_3 => Option.bind (if (decide ((at1 + (1 : Int)) < (n : Int))) = true then (Option.bind (M.take ds11 (3 : Int)) fun (t13, ds14) => some ((decide (t13 = (2 : Int))), ds14)) else some (false, ds11)) fun (c15, ds16) => Option.bind (if c15 = true then ((Option.bind (M.rate ds16 s) fun (t18, ds19) => Option.bind (gsetO grid_here_3 at1 (at1 + (1 : Int)) t18) fun grid_here_5 => lt ((at1 + (1 : Int))) fun at__4 => some (grid_here_5, at__4, ds19))) else (some (grid_here_3, at1, ds16))) fun (grid_here_4, at__3, ds_3) => (Option.bind (M.rate ds_3 s) fun (t22, ds23) => Option.bind (gsetO grid_here_4 at__3 p.1 t22) fun grid_here_6 => lt ((at__3 + (1 : Int))) fun at__5 => some (grid_here_6, at__5, ds23))) fun d2 g2 G2 => ?_
  refine W.bind (P := fun (r : Bool × List Int) => r.1 = true → at1 + 1 < (n : Int)) (W.ite (fun e2 => ?_) fun _ => W.some fun h => Bool.noConfusion h) fun r hr => ?_
  · rw [decide_eq_true_eq] at e2
    exact W.bind (take_W (by decide)) fun p hp => W.some fun _ => e2
  refine W.bind (P := fun (r : List (List Int) × Int × List Int) => Gd MX n r.1 ∧ at1 ≤ r.2.1 ∧ r.2.1 < (n : Int)) (W.ite (fun e2 => ?_) fun _ => W.some ⟨G2, by show at1 ≤ at1; omega, e⟩) fun r hr => ?_
  · have e3 := hr e2
    exact rset_W (f := fun d g => Option.some (g, at1 + 1, d)) G2 ⟨by omega, e⟩ ⟨by omega, e3⟩ (by omega) fun _ _ G => W.some ⟨G, by show at1 ≤ at1 + 1; omega, e3⟩
  obtain ⟨g3, at3, d3⟩ := r
  obtain ⟨G3, h3, h4⟩ := hr
  replace h3 : at1 ≤ at3 := h3
  replace h4 : at3 < (n : Int) := h4
  exact rset_W (f := fun d g => Option.some (g, at3 + 1, d)) G3 ⟨by omega, h4⟩ ⟨hp.1, by omega⟩ (by omega) fun _ _ G => W.some ⟨G, by show (1 : Int) ≤ at3 + 1; omega⟩
theorem lots_W {ds : List Int} {s : Int} (h2 : 2 ≤ n) (h : n ≤ 8) : W (M.lots_grid ds (n : Int) s) fun r => Gd MX n r.1 := by
  unfold M.lots_grid
  refine W.bind (empty_W h) fun g G => ?_
  show W (Option.bind (rngO 0 (n : Int)) _) _
  refine W.rng (by omega) ?_
  generalize hk : (n : Int) / 2 = k
  have k1 : 1 ≤ k := by omega
  have k2 : k < (n : Int) := by omega
  refine W.bind (P := fun (r : List (List Int) × List Int) => Gd MX n r.1) (W.forO (fun (r : List (List Int) × List Int) => Gd MX n r.1) G fun x mx r hr => ?_) fun r hr => ?_
  · have hx := zs_rng mx
    obtain ⟨g1, d1⟩ := r
    unfold M.lots_grid_l1
    refine W.rng (by omega) ?_
    refine W.bind (P := fun (r : List (List Int) × List Int) => Gd MX n r.1) (W.forO (fun (r : List (List Int) × List Int) => Gd MX n r.1) hr fun y my r hr => ?_) fun r hr => W.some hr
    have hy := zs_rng my
    obtain ⟨g2, d2⟩ := r
    unfold M.lots_grid_l2
    show W (Option.bind (if (decide (k ≤ x)) = true then some (k, (n : Int) - k) else some ((0 : Int), k)) _) _
    refine W.bind (P := fun (r : Int × Int) => 1 ≤ r.2) (W.ite (fun _ => W.some (by show (1 : Int) ≤ (n : Int) - k; omega)) fun _ => W.some k1) fun r hr2 => ?_
    obtain ⟨st, many⟩ := r
    replace hr2 : (1 : Int) ≤ many := hr2
    show W (Option.bind (modO ((x - st) + (1 : Int)) many) _) _
    refine W.eq (modO_eq (by omega)) ?_
    refine W.bind (P := fun (r : Bool × List Int) => r.1 = true → y ≠ x) (W.ite (fun e2 => ?_) fun e2 => W.some fun h => Bool.noConfusion h) fun r hr2 => ?_
    · rw [Bool.and_eq_true, Bool.not_eq_true', decide_eq_false_iff_not] at e2
      refine W.bind (P := fun _ => True) (W.ite (fun _ => W.some trivial) fun _ => W.bind (take_W (by decide)) fun p hp => W.some trivial) fun r _ => W.some fun _ => e2.1
    · refine W.ite (fun e2 => ?_) fun _ => W.some hr
      exact rset_W (f := fun d g => Option.some (g, d)) hr hx hy (fun e3 => hr2 e2 e3.symm) fun _ _ G => W.some G
  · refine W.rng (n := 2) (by omega) ?_
    refine W.bind (P := fun (r : List (List Int) × List Int) => Gd MX n r.1) (W.forO (fun (r : List (List Int) × List Int) => Gd MX n r.1) hr fun x mx r hr => ?_) fun r hr => W.some hr
    obtain ⟨g2, d2⟩ := r
    unfold M.lots_grid_l3
    refine W.bind (take_W k1) fun p hp => ?_
    refine W.bind (take_W (by omega)) fun p2 hp2 => ?_
    refine W.ite (fun _ => ?_) fun _ => ?_
    · exact rset_W (f := fun d g => Option.some (g, d)) hr ⟨hp.1, by omega⟩ ⟨by omega, by omega⟩ (by omega) fun _ _ G => W.some G
    · exact rset_W (f := fun d g => Option.some (g, d)) hr ⟨by omega, by omega⟩ ⟨hp.1, by omega⟩ (by omega) fun _ _ G => W.some G
abbrev prs : List (List Int) := [[(0 : Int), (2 : Int)], [(0 : Int), (3 : Int)], [(1 : Int), (2 : Int)], [(1 : Int), (3 : Int)], [(0 : Int), (1 : Int)], [(2 : Int), (0 : Int)], [(3 : Int), (0 : Int)], [(3 : Int), (1 : Int)], [(2 : Int), (3 : Int)], [(1 : Int), (0 : Int)]]
theorem prs_at {x : Int} (h : x ∈ zs (List.range 10)) : ∃ i j : Int, atI prs x = some [i, j] ∧ 0 ≤ i ∧ i < 4 ∧ 0 ≤ j ∧ j < 4 ∧ i ≠ j := by
  have e : zs (List.range 10) = [0, 1, 2, 3, 4, 5, 6, 7, 8, 9] := rfl
  rw [e] at h
  simp only [List.mem_cons, List.not_mem_nil, or_false] at h
  rcases h with rfl | rfl | rfl | rfl | rfl | rfl | rfl | rfl | rfl | rfl
  all_goals exact ⟨_, _, rfl, by decide⟩
theorem cross_W {ds : List Int} {s : Int} (h2 : 4 ≤ n) (h : n ≤ 8) : W (M.cross_grid ds (n : Int) s) fun r => Gd MX n r.1 := by
  unfold M.cross_grid
  refine W.bind (empty_W h) fun g G => ?_
  refine W.lt ?_
  refine W.rng (n := 10) (by omega) ?_
  refine W.bind (P := fun (r : List (List Int) × List Int) => Gd MX n r.1) (W.forO (fun (r : List (List Int) × List Int) => Gd MX n r.1) G fun x mx r hr => ?_) fun r hr => ?_
  · obtain ⟨i, j, e, i1, i2, j1, j2, ij⟩ := prs_at mx
    obtain ⟨g1, d1⟩ := r
    unfold M.cross_grid_l1
    refine W.bind (P := fun (r : Bool × List Int) => True) (W.ite (fun e2 => W.some trivial) fun e2 => W.bind (take_W (by decide)) fun p hp => W.some trivial) fun r _ => ?_
    refine W.ite (fun e2 => ?_) fun _ => W.some hr
    refine W.bind rate_W fun p hp => ?_
    refine W.eq e (W.eq (atI_0 i [j]) (W.eq e (W.eq (atI_1 i j []) ?_)))
    exact W.bind (gset_W hr ⟨i1, by omega⟩ ⟨j1, by omega⟩ hp (fun e => absurd e ij)) fun g' G' => W.some G'
  · obtain ⟨g1, d1⟩ := r
    refine W.bind (P := fun (r : List (List Int) × List Int) => Gd MX n r.1) (W.ite (fun e => ?_) fun _ => W.some hr) fun r hr => W.some hr
    rw [decide_eq_true_eq] at e
    refine W.bind rate_W fun p hp => ?_
    refine W.bind (gset_W hr ⟨by omega, by omega⟩ ⟨by omega, by omega⟩ hp (fun e => absurd e (by decide))) fun g2 G2 => ?_
    refine W.bind rate_W fun p hp => ?_
    refine W.bind (gset_W G2 ⟨by omega, by omega⟩ ⟨by omega, by omega⟩ hp (fun e => absurd e (by decide))) fun g3 G3 => ?_
    refine W.bind (take_W (by decide)) fun p hp => ?_
    refine W.ite (fun _ => ?_) fun _ => W.some G3
    exact W.bind (gset_W G3 ⟨by omega, by omega⟩ ⟨by omega, by omega⟩ (by decide) (fun e => absurd e (by decide))) fun g4 G4 => W.some G4
theorem mod_inj {x y s m : Int} (hx : 0 ≤ x ∧ x < m) (hy : 0 ≤ y ∧ y < m) (e : (x + s) % m = (y + s) % m) : x = y := by
  have h1 := Int.emod_emod_of_dvd (x + s) (Int.dvd_refl m)
  have h2 : (x + s - (y + s)) % m = 0 := Int.emod_eq_emod_iff_emod_sub_eq_zero.mp e
  have h3 : x + s - (y + s) = x - y := by omega
  rw [h3] at h2
  obtain ⟨k, hk⟩ := Int.dvd_of_emod_eq_zero h2
  have hm : 0 < m := by omega
  rcases Int.lt_trichotomy k 0 with h | h | h
  · have : m * k ≤ m * (-1) := Int.mul_le_mul_of_nonneg_left (by omega) (by omega)
    omega
  · rw [h] at hk; omega
  · have : m * 1 ≤ m * k := Int.mul_le_mul_of_nonneg_left (by omega) (by omega)
    omega
theorem moved_W (G : Gd MX n g) {s : Int} (h2 : 2 ≤ n) (h : n ≤ 8) : W (M.moved_llii g s) (Gd MX n) := by
  unfold M.moved_llii
  show W (Option.bind (M.empty (g.length : Int)) _) _
  rw [G.len]
  refine W.bind (empty_W h) fun g0 G0 => ?_
  refine W.rng (by omega) ?_
  refine W.bind (W.forO (Gd MX n) G0 fun x mx r hr => ?_) fun r hr => W.some hr
  have hx := zs_rng mx
  unfold M.moved_llii_l1
  refine W.rng (by omega) ?_
  refine W.bind (W.forO (Gd MX n) hr fun y my r hr => ?_) fun r hr => W.some hr
  have hy := zs_rng my
  unfold M.moved_llii_l2
  obtain ⟨x, rfl⟩ := Int.eq_ofNat_of_zero_le hx.1
  obtain ⟨y, rfl⟩ := Int.eq_ofNat_of_zero_le hy.1
  refine W.eq (G.at_ (by omega)) (W.eq (G.at2 (by omega) (by omega)) (W.eq (modO_eq (by omega)) (W.eq (modO_eq (by omega)) ?_)))
  refine W.bind (gset_W hr ⟨Int.emod_nonneg _ (by omega), Int.emod_lt_of_pos _ (by omega)⟩ ⟨Int.emod_nonneg _ (by omega), Int.emod_lt_of_pos _ (by omega)⟩ ⟨G.nn _ _, G.le _ _⟩ fun e => ?_) fun g' G' => W.some G'
  have := mod_inj hx hy e
  have e2 : x = y := by omega
  rw [e2]
  exact G.di y
theorem loose_W {ds : List Int} (h2 : 2 ≤ n) (h : n ≤ 8) : W (M.loose ds (n : Int)) fun r => Gd MX n r.1 := by
  unfold M.loose
  refine W.bind (empty_W h) fun g G => ?_
  refine W.rng (by omega) ?_
  refine W.bind (P := fun (r : List (List Int) × List Int) => Gd MX n r.1) (W.forO (fun (r : List (List Int) × List Int) => Gd MX n r.1) G fun x mx r hr => ?_) fun r hr => W.some hr
  have hx := zs_rng mx
  obtain ⟨g1, d1⟩ := r
  unfold M.loose_l1
  refine W.rng (by omega) ?_
  refine W.bind (P := fun (r : List (List Int) × List Int) => Gd MX n r.1) (W.forO (fun (r : List (List Int) × List Int) => Gd MX n r.1) hr fun y my r hr => ?_) fun r hr => W.some hr
  have hy := zs_rng my
  obtain ⟨g2, d2⟩ := r
  unfold M.loose_l2
  refine W.ite (fun e => ?_) fun e => W.some hr
  rw [Bool.not_eq_true', decide_eq_false_iff_not] at e
  refine W.bind (take_W (by decide)) fun p hp => ?_
  exact W.bind (gset_W hr hx hy ⟨by omega, by show max (0 : Int) (p.1 - 3) ≤ 10000000; omega⟩ (fun e3 => absurd e3.symm e)) fun g' G' => W.some G'
theorem pair_W {ds : List Int} (h2 : 2 ≤ n) : W (M.pair ds (n : Int)) fun r => ∃ x y : Nat, r.1 = [(x : Int), (y : Int)] ∧ x < n ∧ y < n ∧ x ≠ y := by
  unfold M.pair
  refine W.bind (take_W (by omega)) fun p hp => ?_
  refine W.bind (take_W (by omega)) fun p2 hp2 => ?_
  refine W.eq (modO_eq (by omega)) (W.some ?_)
  obtain ⟨x, hx⟩ := Int.eq_ofNat_of_zero_le hp.1
  have h1 : 0 ≤ (p.1 + 1 + p2.1) % (n : Int) := Int.emod_nonneg _ (by omega)
  have h3 : (p.1 + 1 + p2.1) % (n : Int) < (n : Int) := Int.emod_lt_of_pos _ (by omega)
  obtain ⟨y, hy⟩ := Int.eq_ofNat_of_zero_le h1
  refine ⟨x, y, by rw [hx] at hy ⊢; rw [hy], by omega, by omega, fun e => ?_⟩
  have e2 : ((p2.1 + 1) + p.1) % (n : Int) = (0 + p.1) % (n : Int) := by
    rw [show (p2.1 + 1) + p.1 = p.1 + 1 + p2.1 by omega, hy, Int.zero_add, Int.emod_eq_of_lt hp.1 (by omega), hx, e]
  have := Int.emod_emod_of_dvd (p2.1 + 1 + p.1) (Int.dvd_refl (n : Int))
  by_cases e3 : p2.1 + 1 < (n : Int)
  · have := mod_inj ⟨by omega, e3⟩ ⟨by omega, by omega⟩ e2
    omega
  · omega
theorem sizes_at {x : Int} (h : 0 ≤ x ∧ x < 8) : ∃ m : Nat, atI [(3 : Int), (4 : Int), (3 : Int), (4 : Int), (5 : Int), (4 : Int), (3 : Int), (2 : Int)] x = some (m : Int) ∧ 2 ≤ m ∧ m ≤ 5 := by
  have e : x = 0 ∨ x = 1 ∨ x = 2 ∨ x = 3 ∨ x = 4 ∨ x = 5 ∨ x = 6 ∨ x = 7 := by omega
  rcases e with rfl | rfl | rfl | rfl | rfl | rfl | rfl | rfl
  · exact ⟨3, rfl, by decide⟩
  · exact ⟨4, rfl, by decide⟩
  · exact ⟨3, rfl, by decide⟩
  · exact ⟨4, rfl, by decide⟩
  · exact ⟨5, rfl, by decide⟩
  · exact ⟨4, rfl, by decide⟩
  · exact ⟨3, rfl, by decide⟩
  · exact ⟨2, rfl, by decide⟩
theorem thick_at {x : Int} (h : 0 ≤ x ∧ x < 5) : ∃ t : Int, atI [(1 : Int), (2 : Int), (1 : Int), (4 : Int), (0 : Int)] x = some t := by
  have e : x = 0 ∨ x = 1 ∨ x = 2 ∨ x = 3 ∨ x = 4 := by omega
  rcases e with rfl | rfl | rfl | rfl | rfl
  all_goals exact ⟨_, rfl⟩
/-- some grid of the right size -/
def Gs (g : List (List Int)) : Prop := ∃ n : Nat, 2 ≤ n ∧ n ≤ 5 ∧ Gd MX n g
theorem grid_W {ds : List Int} : W (M.grid ds) fun r => Gs r.1 := by
  unfold M.grid
  show W (Option.bind (M.take ds 8) _) _
  refine W.bind (take_W (by decide)) fun p hp => ?_
  obtain ⟨m, em, m2, m5⟩ := sizes_at hp
  refine W.eq em ?_
  refine W.bind (take_W (by decide)) fun p2 hp2 => ?_
  refine W.bind (take_W (by decide)) fun p3 hp3 => ?_
  obtain ⟨mk, d3⟩ := p3
  replace hp3 : 0 ≤ mk ∧ mk < 8 := hp3
  refine W.bind (P := fun (r : List (List Int) × List Int) => Gs r.1) (W.ite (fun _ => ?_) fun e1 => W.ite (fun _ => ?_) fun e2 => W.ite (fun _ => ?_) fun e3 => ?_) fun r hr => ?_
  · exact W.bind (hung_W m2 (by omega)) fun r hr => W.some ⟨m, m2, m5, hr⟩
  · exact W.bind (lots_W m2 (by omega)) fun r hr => W.some ⟨m, m2, m5, hr⟩
  · refine W.bind (take_W (by decide)) fun p4 hp4 => ?_
    obtain ⟨j, d4⟩ := p4
    replace hp4 : 0 ≤ j ∧ j < 2 := hp4
    obtain ⟨j, rfl⟩ := Int.eq_ofNat_of_zero_le hp4.1
    show W (Option.bind (M.cross_grid d4 (4 + (j : Int)) _) _) _
    rw [show (4 : Int) + (j : Int) = ((4 + j : Nat) : Int) by omega]
    exact W.bind (cross_W (by omega) (by omega)) fun r hr => W.some ⟨4 + j, by omega, by omega, hr⟩
  · rw [decide_eq_false_iff_not] at e1 e2 e3
    obtain ⟨t, et⟩ := thick_at (x := mk) (by omega)
    exact W.eq et (W.bind (ring_W m2 (by omega)) fun r hr => W.some ⟨m, m2, m5, hr⟩)
  · obtain ⟨g, d⟩ := r
    obtain ⟨n, n2, n5, G⟩ := hr
    replace G : Gd MX n g := G
    show W (Option.bind (M.take d (g.length : Int)) _) _
    refine W.bind (take_W (by rw [G.len]; omega)) fun p5 hp5 => ?_
    exact W.bind (moved_W G n2 (by omega)) fun g' G' => W.some ⟨n, n2, n5, G'⟩
/-! ### the draws -/
theorem draws_W {script : List Int} (h : script.length ≤ 63) : W (M.draws_fi script) fun _ => True := by
  unfold M.draws_fi
  show W (Option.bind (rngO 0 (min (script.length : Int) 63)) _) _
  rw [show min (script.length : Int) 63 = (script.length : Int) by omega]
  refine W.rng (by omega) ?_
  have hl : ∃ r, LW.forO (M.draws_fi_l1 script) (zs (List.range script.length)) ([], 911) = some r ∧ (r.1.length ≤ 44 * (0 + (zs (List.range script.length)).length) ∧ 0 ≤ r.2 ∧ r.2 < 2147483629) := by
    refine forO_inv (fun k (r : List Int × Int) => r.1.length ≤ 44 * k ∧ 0 ≤ r.2 ∧ r.2 < 2147483629) ⟨by show (0 : Nat) ≤ _; omega, by show (0 : Int) ≤ 911; decide, by show (911 : Int) < 2147483629; decide⟩ fun i x b hx hb => ?_
    obtain ⟨l, s⟩ := b
    obtain ⟨hb1, hb2, hb3⟩ := hb
    replace hb1 : l.length ≤ 44 * (0 + i) := hb1
    replace hb2 : 0 ≤ s := hb2
    replace hb3 : s < 2147483629 := hb3
    obtain ⟨u, hu, rfl⟩ := zs_get hx
    have hu2 := List.getElem?_eq_some_iff.mp hu
    obtain ⟨hi, hu3⟩ := hu2
    rw [List.length_range] at hi
    rw [List.getElem_range] at hu3
    subst hu3
    have goal : W (M.draws_fi_l1 script (i : Int) (l, s)) fun r => r.1.length ≤ 44 * (0 + i + 1) ∧ 0 ≤ r.2 ∧ r.2 < 2147483629 := by
      unfold M.draws_fi_l1
      refine W.eq (atI_nat script i hi) ?_
      refine W.bind (P := fun _ => True) (W.ite (fun _ => W.some trivial) fun _ => W.some trivial) fun cell _ => ?_
      refine W.ite (fun _ => ?_) fun _ => ?_
      · refine W.rng (n := 44) (by omega) ?_
        have h2 : ∃ r, LW.forO M.draws_fi_l2 (zs (List.range 44)) (l, cell) = some r ∧ r.1.length ≤ l.length + (0 + (zs (List.range 44)).length) := by
          refine forO_inv (fun k (r : List Int × Int) => r.1.length ≤ l.length + k) (by show l.length ≤ _; omega) fun i2 x b hx hb => ?_
          obtain ⟨l2, c2⟩ := b
          replace hb : l2.length ≤ l.length + (0 + i2) := hb
          have hx2 := (List.getElem?_eq_some_iff.mp hx).1
          rw [zs_len, List.length_range] at hx2
          unfold M.draws_fi_l2
          refine W.ite (fun _ => W.eq (appO_eq (by omega)) (W.some ?_)) fun _ => W.some ?_
          · show (l2 ++ [_]).length ≤ _
            rw [List.length_append, List.length_singleton]
            omega
          · show l2.length ≤ _
            omega
        obtain ⟨r, er, hr⟩ := h2
        rw [zs_len, List.length_range] at hr
        exact W.eq er (W.some ⟨by show r.1.length ≤ _; omega, hb2, hb3⟩)
      · refine W.lt ?_
        refine W.rng (n := 5) (by omega) ?_
        generalize hs : (s * 31 + cell * 7919 + (i : Int)) % 2147483629 = s1
        have hs1 : 0 ≤ s1 := by rw [← hs]; exact Int.emod_nonneg _ (by decide)
        have hs2 : s1 < 2147483629 := by rw [← hs]; exact Int.emod_lt_of_pos _ (by decide)
        have h2 : ∃ r, LW.forO (M.draws_fi_l3 (i : Int)) (zs (List.range 5)) (l, s1) = some r ∧ (r.1.length ≤ l.length + (0 + (zs (List.range 5)).length) ∧ 0 ≤ r.2 ∧ r.2 < 2147483629) := by
          refine forO_inv (fun k (r : List Int × Int) => r.1.length ≤ l.length + k ∧ 0 ≤ r.2 ∧ r.2 < 2147483629) ⟨by show l.length ≤ _; omega, hs1, hs2⟩ fun i2 x b hx hb => ?_
          obtain ⟨l2, c2⟩ := b
          obtain ⟨hc1, hc2, hc3⟩ := hb
          replace hc1 : l2.length ≤ l.length + (0 + i2) := hc1
          replace hc2 : 0 ≤ c2 := hc2
          replace hc3 : c2 < 2147483629 := hc3
          have hx2 := (List.getElem?_eq_some_iff.mp hx).1
          rw [zs_len, List.length_range] at hx2
          unfold M.draws_fi_l3
          have hlog : c2.natAbs.log2 < 31 := log2_lt (by decide) (by omega)
          refine W.eq (mulO_eq (by omega)) ?_
          refine W.eq (appO_eq (by omega)) (W.some ⟨?_, Int.emod_nonneg _ (by decide), ?_⟩)
          · show (l2 ++ [_]).length ≤ _
            rw [List.length_append, List.length_singleton]
            omega
          · have : ∀ z : Int, z % 2147483587 < 2147483629 := fun z => by
              have := Int.emod_lt_of_pos z (show (0 : Int) < 2147483587 by decide)
              omega
            exact this _
        obtain ⟨r, er, hr1, hr2, hr3⟩ := h2
        rw [zs_len, List.length_range] at hr1
        exact W.eq er (W.some ⟨by show r.1.length ≤ _; omega, hr2, hr3⟩)
    exact goal
  obtain ⟨r, er, _⟩ := hl
  exact W.eq er (W.some trivial)
end
end MB
set_option Elab.async false
set_option linter.all false
set_option maxRecDepth 100000
set_option maxHeartbeats 4000000
/-! Mc1: rows and columns permuted alike; a column with one entry. -/
namespace MT
/-- one sign for rows and columns -/
theorem perm_sign {X Y : List Nat} (p : X.Perm Y) : ∃ s : Int, s * s = 1 ∧ (∀ (us vs : List Nat) (l : List (Co Nat)), det (us ++ X ++ vs) l = s * det (us ++ Y ++ vs) l) ∧
    ∀ (g : Nat → Co Nat) (us : List Nat) (l1 l2 : List (Co Nat)), det us (l1 ++ X.map g ++ l2) = s * det us (l1 ++ Y.map g ++ l2) := by
  induction p with
  | nil => exact ⟨1, rfl, fun _ _ _ => by rw [Int.one_mul], fun _ _ _ _ => by rw [Int.one_mul]⟩
  | @cons x X Y p ih =>
    obtain ⟨s, h0, h1, h2⟩ := ih
    refine ⟨s, h0, fun us vs l => ?_, fun g us l1 l2 => ?_⟩
    · have e := h1 (us ++ [x]) vs l
      simp only [List.append_assoc, List.cons_append, List.nil_append] at e ⊢
      exact e
    · have e := h2 g us (l1 ++ [g x]) l2
      simp only [List.append_assoc, List.cons_append, List.nil_append, List.map_cons] at e ⊢
      exact e
  | @swap x y X =>
    refine ⟨-1, rfl, fun us vs l => ?_, fun g us l1 l2 => ?_⟩
    · have e := det_swap y x us (X ++ vs) l
      simp only [List.append_assoc, List.cons_append, List.nil_append] at e ⊢
      omega
    · have e := det_alt us l1 (g y) (g x) (X.map g ++ l2)
      simp only [List.append_assoc, List.cons_append, List.nil_append, List.map_cons] at e ⊢
      omega
  | @trans X Y Z p q ih1 ih2 =>
    obtain ⟨s, h0, h1, h2⟩ := ih1
    obtain ⟨t, k0, k1, k2⟩ := ih2
    refine ⟨s * t, by rw [show s * t * (s * t) = (s * s) * (t * t) by grind, h0, k0]; rfl, fun us vs l => ?_, fun g us l1 l2 => ?_⟩
    · rw [h1, k1, Int.mul_assoc]
    · rw [h2, k2, Int.mul_assoc]
theorem det_perm2 {X Y : List Nat} (p : X.Perm Y) (g : Nat → Co Nat) : det X (X.map g) = det Y (Y.map g) := by
  obtain ⟨s, h0, h1, h2⟩ := perm_sign p
  have e1 := h1 [] [] (X.map g)
  have e2 := h2 g Y [] []
  simp only [List.append_nil, List.nil_append] at e1 e2
  rw [e1, e2, ← Int.mul_assoc, h0, Int.one_mul]
section
variable {A : Gr} {X X' R : List Nat} {x v : Nat}
theorem dg_perm {V W : List Nat} (p : V.Perm W) (u : Nat) : dg A V u = dg A W u := sm_perm _ p
theorem lc_perm {V W : List Nat} (p : V.Perm W) (w : Nat) : lc A V w = lc A W w := by
  funext u
  unfold lc
  rw [dg_perm p]
/-- a unit column at x in the place of v: the forests with the further root x in which v leads to x -/
theorem det_unit (hn : (X ++ R).Nodup) (p : X.Perm (x :: X')) (hv : v ∈ X) : det X (X.map (up (lc A (X ++ R)) v (fun u => if u = x then 1 else 0))) = FS X' A (x :: R) (fun σ => if σ v = x then 1 else 0) := by
  have hX : X.Nodup := (List.nodup_append.mp hn).1
  have hX' : (x :: X').Nodup := p.nodup_iff.mp hX
  have nx := (List.nodup_cons.mp hX').1
  have pV : (X ++ R).Perm (X' ++ x :: R) := (List.Perm.append_right R p).trans List.perm_middle.symm
  have hn2 : (X' ++ x :: R).Nodup := pV.nodup_iff.mp hn
  have eL : lc A (X ++ R) = lc A (X' ++ x :: R) := funext fun w => lc_perm pV w
  rw [eL, det_perm2 p]
  by_cases e : v = x
  · subst e
    rw [det_first v X' _ v X' (List.nodup_cons.mp hX').2, up_same, if_pos rfl, Int.one_mul]
    rw [sm_zero (l := X') fun w mw => ?_, Int.sub_zero, map_up_not nx]
    · rw [FS_congr (k' := fun _ => 1) hn2 fun σ hσ => by rw [hσ.1 v List.mem_cons_self, if_pos rfl]]
      exact D_FS hn2
    · obtain ⟨l1, l2, el⟩ := List.append_of_mem mw
      subst el
      rw [List.map_append, List.map_cons, up_same, det_col0 fun s ms => if_neg fun e => nx (by rw [← e]; exact ms), Int.mul_zero]
  · have hvX' : v ∈ X' := by
      rcases List.mem_cons.mp (p.mem_iff.mp hv) with q | q
      · exact absurd q e
      · exact q
    have p2 : X'.Perm (v :: X'.erase v) := List.perm_cons_erase hvX'
    generalize X'.erase v = Y at p2
    have hY' : (v :: Y).Nodup := p2.nodup_iff.mp (List.nodup_cons.mp hX').2
    have nvY := (List.nodup_cons.mp hY').1
    have nxY : x ∉ Y := fun m => nx (p2.mem_iff.mpr (List.mem_cons_of_mem _ m))
    have hxY : (x :: Y).Nodup := List.nodup_cons.mpr ⟨nxY, (List.nodup_cons.mp hY').2⟩
    have pV2 : (X' ++ x :: R).Perm (v :: Y ++ x :: R) := List.Perm.append_right _ p2
    have hn3 : (v :: Y ++ x :: R).Nodup := pV2.nodup_iff.mp hn2
    have eL2 : lc A (X' ++ x :: R) = lc A (v :: Y ++ x :: R) := funext fun w => lc_perm pV2 w
    rw [eL2, det_perm2 (List.Perm.cons x p2)]
    rw [FS_permX (k := fun σ => if σ v = x then 1 else 0) p2 hn2 fun σ σ' h => by
      show (if σ v = x then (1 : Int) else 0) = if σ' v = x then 1 else 0
      rw [h v (List.mem_append_left _ hvX')]]
    rw [← T_FS hn3 List.mem_cons_self List.mem_cons_self]
    show det (x :: v :: Y) ((x :: v :: Y).map (up (lc A (v :: Y ++ x :: R)) v (fun u => if u = x then 1 else 0))) = det (v :: Y) ((v :: Y).map (up (lc A (v :: Y ++ x :: R)) v (fun u => A u x)))
    have hL : ∀ u, u ≠ x → lc A (v :: Y ++ x :: R) x u = - A u x := fun u h => if_neg h
    generalize lc A (v :: Y ++ x :: R) = L at hL
    have exv : x ≠ v := fun q => e q.symm
    have e1 : (x :: v :: Y).map (up L v (fun u => if u = x then 1 else 0)) = L x :: (fun u => if u = x then 1 else 0) :: Y.map L := by
      rw [List.map_cons, List.map_cons, up_same, up_ne exv, map_up_not nvY]
    have e2 : (v :: x :: Y).map (up L v (fun u => if u = x then 1 else 0)) = (fun u => if u = x then 1 else 0) :: L x :: Y.map L := by
      rw [List.map_cons, List.map_cons, up_same, up_ne exv, map_up_not nvY]
    have e3 : (v :: Y).map (up L v (fun u => A u x)) = (fun u => A u x) :: Y.map L := by
      rw [List.map_cons, up_same, map_up_not nvY]
    have e4 : ∀ c : Co Nat, (x :: Y).map (up L x c) = c :: Y.map L := fun c => by
      rw [List.map_cons, up_same, map_up_not nxY]
    have h1 := det_alt (x :: v :: Y) [] (L x) (fun u => if u = x then 1 else 0) (Y.map L)
    simp only [List.nil_append] at h1
    rw [e1, h1, ← e2, det_first x (v :: Y) _ v (x :: Y) hxY, up_same, if_pos rfl, Int.one_mul]
    have nxv : x ∉ v :: Y := fun m => by
      rcases List.mem_cons.mp m with q | q
      · exact exv q
      · exact nxY q
    rw [sm_zero (l := x :: Y) fun w mw => ?_, Int.sub_zero]
    · have h2 : det (v :: Y) ((x :: Y).map (up L v (fun u => if u = x then 1 else 0))) = det (v :: Y) ((x :: Y).map (up L x (fun r => -1 * A r x + 0 * A r x))) := det_ext _ _ _ _ fun u mu w mw => by
        have ux : u ≠ x := fun q => nxv (by rw [← q]; exact mu)
        have wv : w ≠ v := fun q => by
          rcases List.mem_cons.mp mw with r | r
          · exact exv (by rw [← r]; exact q)
          · exact nvY (by rw [← q]; exact r)
        rw [up_ne wv]
        by_cases ew : w = x
        · subst ew
          rw [up_same, hL u ux]
          omega
        · rw [up_ne ew]
      rw [h2, det_up (v :: Y) L (fun r => A r x) (fun r => A r x) (-1) 0 hxY List.mem_cons_self, e4, e3]
      omega
    · obtain ⟨l1, l2, el⟩ := List.append_of_mem mw
      have el2 : (x :: Y).map (up (up L v (fun u => if u = x then 1 else 0)) w (fun u => if u = x then 1 else 0)) = l1.map (up (up L v (fun u => if u = x then 1 else 0)) w (fun u => if u = x then 1 else 0)) ++ (fun u => if u = x then (1 : Int) else 0) :: l2.map (up (up L v (fun u => if u = x then 1 else 0)) w (fun u => if u = x then 1 else 0)) := by
        rw [el, List.map_append, List.map_cons, up_same]
      rw [el2, det_col0 fun s ms => if_neg fun q => nxv (by rw [← q]; exact ms), Int.mul_zero]
end
end MT
set_option Elab.async false
set_option linter.all false
set_option maxRecDepth 100000
set_option maxHeartbeats 4000000
/-! Mc2: what a row of numbers gains by a step, at every state; flows; longs. -/
namespace MB
open PySem L2 LW MT LK
abbrev Tr (A : Gr) (n x : Nat) : Int := PF A n [x] fun _ => 1
abbrev Ls (A : Gr) (n : Nat) (f : Nat → Int) (x : Nat) : Int := sm (List.range n) (fun y => A x y * (f y - f x))
section
variable {A : Gr} {n : Nat} {R : List Nat}
theorem Ls_lin (f g : Nat → Int) (a b : Int) (x : Nat) : Ls A n (fun y => a * f y + b * g y) x = a * Ls A n f x + b * Ls A n g x := by
  unfold Ls
  rw [← sm_mulL, ← sm_mulL, ← sm_add]
  exact sm_congr fun y _ => by grind
theorem Ls_congr {f g : Nat → Int} {x : Nat} (hx : x < n) (h : ∀ y, y < n → f y = g y) : Ls A n f x = Ls A n g x := sm_congr fun y m => by rw [h y (List.mem_range.mp m), h x hx]
theorem Ls_zero {x : Nat} : Ls A n (fun _ => 0) x = 0 := sm_zero fun y _ => by
  show A x y * ((0 : Int) - 0) = 0
  rw [Int.sub_zero, Int.mul_zero]
theorem Ls_sm (h : Nat → Nat → Int) (x : Nat) : ∀ Z : List Nat, Ls A n (fun y => sm Z (fun z => h z y)) x = sm Z (fun z => Ls A n (h z) x)
  | [] => Ls_zero
  | z :: Z => by
    have e := Ls_lin (A := A) (n := n) (h z) (fun y => sm Z (fun z => h z y)) 1 1 x
    rw [sm_cons, ← Ls_sm h x Z]
    have e2 : (fun y => 1 * h z y + 1 * sm Z (fun z => h z y)) = fun y => sm (z :: Z) (fun z => h z y) := funext fun y => by rw [sm_cons]; omega
    rw [e2] at e
    rw [e]; omega
theorem Ls_harm (hR : Rt n R) {c u : Nat} (hc : c ∈ R) (hu : u < n) (nu : u ∉ R) : Ls A n (PX A n R c) u = 0 := by
  have h := harm (A := A) hR.nodup hc (Xr_mem.mpr ⟨hu, nu⟩)
  rw [sm_perm _ hR.perm] at h
  have e : Ls A n (PX A n R c) u = - sm (List.range n) (fun y => A u y * (PX A n R c u - PX A n R c y)) := by
    unfold Ls
    rw [← sm_neg]
    exact sm_congr fun y _ => by grind
  rw [e]
  exact (congrArg Neg.neg h).trans Int.neg_zero
theorem Xr_perm {x : Nat} (hx : x < n) (nx : x ∉ R) : (Xr n R).Perm (x :: Xr n (x :: R)) := by
  have n2 : (x :: Xr n (x :: R)).Nodup := List.nodup_cons.mpr ⟨fun m => (Xr_mem.mp m).2 List.mem_cons_self, Xr_nd n _⟩
  refine (List.perm_ext_iff_of_nodup (Xr_nd n R) n2).mpr fun a => ?_
  rw [List.mem_cons, Xr_mem, Xr_mem, List.mem_cons]
  by_cases e : a = x
  · subst e
    exact ⟨fun _ => .inl rfl, fun _ => ⟨hx, nx⟩⟩
  · exact ⟨fun h => .inr ⟨h.1, fun m => m.elim e h.2⟩, fun h => h.elim (fun q => absurd q e) fun h => ⟨h.1, fun m => h.2 (.inr m)⟩⟩
/-- the first step out of a root -/
theorem root_step (hR : Rt n R) {c e : Nat} (he : e < n) (ne : e ∉ R) (hc : c ∈ R) : sm (List.range n) (fun y => A e y * PX A n (e :: R) c y) = PX A n R c e := by
  have hR3 := hR.cons he ne
  have hn3 := hR3.nodup
  have hn : (e :: (Xr n (e :: R) ++ R)).Nodup := List.perm_middle.nodup_iff.mp hn3
  have hce : c ≠ e := fun q => ne (by rw [← q]; exact hc)
  have eP : PX A n R c e = sm (Xr n (e :: R) ++ R) (fun y => A e y * FS (Xr n (e :: R)) (mg A e y) R (fun σ => if σ y = c then 1 else 0)) := by
    have h : PX A n R c e = FS (e :: Xr n (e :: R)) A R (fun σ => if σ e = c then 1 else 0) := PF_q hR he ne (locx hR he)
    rw [h]
    show sm (Xr n (e :: R) ++ R) (fun y => A e y * FS (Xr n (e :: R)) (mg A e y) R (fun σ => if (if e = e then σ y else σ e) = c then 1 else 0)) = _
    refine sm_congr fun y _ => ?_
    simp only [if_true]
  rw [eP, ← sm_perm _ hR3.perm, sm_perm _ (List.perm_middle (l₁ := Xr n (e :: R)) (l₂ := R) (a := e)), sm_cons, PX_root hR3 List.mem_cons_self, if_neg (fun q => hce q.symm), Int.mul_zero, Int.zero_add]
  refine sm_congr fun y my => ?_
  rw [FS_cut hn my (k := fun σ => if σ y = c then 1 else 0) (fun σ σ' h => by
    show (if σ y = c then (1 : Int) else 0) = if σ' y = c then 1 else 0
    rw [h y my])]
  congr 1
  refine FS_congr hn3 fun σ _ => ?_
  show (if σ y = c then (1 : Int) else 0) = if σ y = e then 0 else if (if σ y = e then σ y else σ y) = c then 1 else 0
  by_cases q : σ y = e
  · rw [if_pos q, if_neg (fun r => hce (by rw [← r, q]))]
  · rw [if_neg q, if_neg q]
theorem rt1 {c : Nat} (hc : c < n) : Rt n [c] := ⟨by simp, fun r m => by rw [List.mem_singleton] at m; rw [m]; exact hc⟩
theorem rt2 {c e : Nat} (hc : c < n) (he : e < n) (h : c ≠ e) : Rt n [c, e] := ⟨by simp [h], fun r m => by
  simp at m
  rcases m with rfl | rfl <;> assumption⟩
theorem two_sum {c e x : Nat} (hc : c < n) (he : e < n) (h : c ≠ e) (hx : x < n) : PX A n [c, e] c x + PX A n [c, e] e x = PF A n [c, e] fun _ => 1 := by
  have hR := rt2 hc he h
  have e1 := FS_lin (X := Xr n [c, e]) (A := A) (R := [c, e]) (fun σ => if σ x = c then 1 else 0) (fun σ => if σ x = e then 1 else 0) 1 1
  have e2 : FS (Xr n [c, e]) A [c, e] (fun σ => 1 * (if σ x = c then 1 else 0) + 1 * (if σ x = e then 1 else 0)) = PF A n [c, e] fun _ => 1 := FS_congr hR.nodup fun σ hσ => by
    have m : σ x ∈ [c, e] := by
      rcases List.mem_append.mp ((mem_all hR).mpr hx) with m | m
      · exact hσ.2 x m
      · rw [hσ.1 x m]; exact m
    simp at m
    rcases m with m | m
    · rw [m, if_pos rfl, if_neg h]; omega
    · rw [m, if_pos rfl, if_neg (fun q => h q.symm)]; omega
  rw [e2] at e1
  show FS (Xr n [c, e]) A [c, e] (fun σ => if σ x = c then 1 else 0) + FS (Xr n [c, e]) A [c, e] (fun σ => if σ x = e then 1 else 0) = _
  omega
theorem one_root {c x : Nat} (hc : c < n) (hx : x < n) : PX A n [c] c x = Tr A n c := FS_congr (rt1 hc).nodup fun σ hσ => by
  have m : σ x ∈ [c] := by
    rcases List.mem_append.mp ((mem_all (rt1 hc)).mpr hx) with m | m
    · exact hσ.2 x m
    · rw [hσ.1 x m]; exact m
  rw [List.mem_singleton] at m
  rw [m, if_pos rfl]
theorem PX_swap {c e z x : Nat} : PX A n [c, e] z x = PX A n [e, c] z x := PF_perm (List.Perm.swap _ _ _)
theorem step_tree {c e : Nat} (hc : c < n) (he : e < n) (h : c ≠ e) : sm (List.range n) (fun y => A e y * PX A n [c, e] c y) = Tr A n c := by
  have h1 := root_step (A := A) (rt1 hc) (c := c) he (fun m => h (List.mem_singleton.mp m).symm) (List.mem_singleton.mpr rfl)
  rw [one_root hc he] at h1
  rw [← h1]
  exact sm_congr fun y _ => by rw [PX_swap]
theorem Ls_e {c e : Nat} (hc : c < n) (he : e < n) (h : c ≠ e) : Ls A n (PX A n [c, e] c) e = Tr A n c := by
  rw [← step_tree hc he h]
  unfold Ls
  rw [PX_root (rt2 hc he h) (x := e) (by simp), if_neg (fun q => h q.symm)]
  exact sm_congr fun y _ => by rw [Int.sub_zero]
theorem Ls_c {c e : Nat} (hc : c < n) (he : e < n) (h : c ≠ e) : Ls A n (PX A n [c, e] c) c = - Tr A n e := by
  rw [← step_tree he hc (fun q => h q.symm), ← sm_neg]
  refine sm_congr fun y m => ?_
  have e1 := two_sum (A := A) hc he h (List.mem_range.mp m)
  have e2 : PX A n [c, e] c c = PF A n [c, e] fun _ => 1 := by rw [PX_root (rt2 hc he h) (x := c) (by simp), if_pos rfl]
  have e3 : PX A n [e, c] e y = PX A n [c, e] e y := PX_swap
  rw [e3, e2, ← e1]
  grind
/-- what the row of two roots gains -/
theorem Ls_two {c e u : Nat} (hc : c < n) (he : e < n) (h : c ≠ e) (hu : u < n) : Ls A n (PX A n [c, e] c) u = (if u = e then Tr A n c else 0) - if u = c then Tr A n e else 0 := by
  by_cases e1 : u = c
  · subst e1
    rw [Ls_c hc he h, if_neg h, if_pos rfl, Int.zero_sub]
  · by_cases e2 : u = e
    · subst e2
      rw [Ls_e hc he h, if_pos rfl, if_neg e1, Int.sub_zero]
    · rw [if_neg e1, if_neg e2, Ls_harm (rt2 hc he h) (by simp) hu (by simp [e1, e2])]; rfl
theorem det_comb2 (us : List Nat) (g h : Nat → Co Nat) (f : Nat → Int) {X : List Nat} {v : Nat} (hX : X.Nodup) (hv : v ∈ X) : ∀ Y : List Nat, det us (X.map (up g v (fun u => sm Y (fun w => h w u * f w)))) = sm Y (fun w => f w * det us (X.map (up g v (h w))))
  | [] => by
    have e := det_up us g (fun _ => 0) (fun _ => 0) 0 0 hX hv
    have z : (fun r : Nat => (0 : Int) * (fun _ => (0 : Int)) r + 0 * (fun _ => (0 : Int)) r) = fun u => sm [] (fun w => h w u * f w) := by funext r; simp [sm]
    rw [z] at e; rw [e, sm_nil]; grind
  | y :: Y => by
    have e := det_up us g (h y) (fun u => sm Y (fun w => h w u * f w)) (f y) 1 hX hv
    have z : (fun r : Nat => f y * h y r + 1 * sm Y (fun w => h w r * f w)) = fun u => sm (y :: Y) (fun w => h w u * f w) := by funext r; rw [sm_cons]; grind
    rw [z] at e; rw [e, det_comb2 us g h f hX hv Y, sm_cons]; grind
/-- a column of one's own in the place of v -/
theorem det_own (hR : Rt n R) {v : Nat} (hv : v ∈ Xr n R) (b : Nat → Int) : det (Xr n R) ((Xr n R).map (up (lc A (Xr n R ++ R)) v b)) = sm (Xr n R) (fun x => b x * PX A n (x :: R) x v) := by
  have hX := Xr_nd n R
  have e1 : det (Xr n R) ((Xr n R).map (up (lc A (Xr n R ++ R)) v b)) = det (Xr n R) ((Xr n R).map (up (lc A (Xr n R ++ R)) v (fun u => sm (Xr n R) (fun w => (fun w u => if u = w then (1 : Int) else 0) w u * b w)))) := det_ext _ _ _ _ fun u mu w mw => by
    by_cases e : w = v
    · subst e
      rw [up_same, up_same]
      have e2 : sm (Xr n R) (fun w => (if u = w then (1 : Int) else 0) * b w) = sm (Xr n R) (fun w => if w = u then b u else 0) := sm_congr fun w _ => by
        by_cases q : w = u
        · rw [if_pos q, if_pos q.symm, q, Int.one_mul]
        · rw [if_neg q, if_neg (fun r => q r.symm), Int.zero_mul]
      show b u = sm (Xr n R) (fun w => (if u = w then (1 : Int) else 0) * b w)
      rw [e2, sm_one hX mu]
    · rw [up_ne e, up_ne e]
  rw [e1, det_comb2 (Xr n R) _ _ b hX hv]
  refine sm_congr fun x mx => ?_
  have hx := Xr_mem.mp mx
  rw [det_unit hR.nodup (Xr_perm hx.1 hx.2) hv]
  rfl
theorem last_step {c y : Nat} (hc : c < n) (hy : y < n) (h : y ≠ c) : sm (Xr n [c]) (fun x => A x c * PX A n [x, c] x y) = Tr A n c := by
  have m : y ∈ Xr n [c] := Xr_mem.mpr ⟨hy, fun m => h (List.mem_singleton.mp m)⟩
  rw [← det_own (rt1 hc) m (fun u => A u c), ← one_root hc hy]
  exact T_FS (rt1 hc).nodup m (List.mem_singleton.mpr rfl)
theorem range_one {c : Nat} (hc : c < n) (t : Nat → Int) : sm (List.range n) t = t c + sm (Xr n [c]) t := by
  rw [← sm_perm t (rt1 hc).perm, sm_app]
  have : sm [c] t = t c := by rw [sm_cons, sm_nil]; omega
  rw [this]; omega
/-- as much flows in as flows out -/
theorem flow {c : Nat} (hc : c < n) : sm (List.range n) (fun x => Tr A n x * A x c) = sm (List.range n) (fun y => Tr A n c * A c y) := by
  rw [range_one hc, range_one hc (fun y => Tr A n c * A c y)]
  congr 1
  have h1 : sm (Xr n [c]) (fun x => Tr A n x * A x c) = sm (Xr n [c]) (fun x => sm (List.range n) (fun y => A x c * (A c y * PX A n [x, c] x y))) := sm_congr fun x mx => by
    have hx := Xr_mem.mp mx
    rw [sm_mulL, step_tree hx.1 hc (fun q => hx.2 (List.mem_singleton.mpr q))]
    exact Int.mul_comm _ _
  rw [h1, sm_comm, range_one hc]
  have h2 : sm (Xr n [c]) (fun x => A x c * (A c c * PX A n [x, c] x c)) = 0 := sm_zero fun x mx => by
    have hx := Xr_mem.mp mx
    have xc : x ≠ c := fun q => hx.2 (List.mem_singleton.mpr q)
    rw [PX_root (rt2 hx.1 hc xc) (x := c) (by simp), if_neg (fun q => xc q.symm)]
    simp
  rw [h2, Int.zero_add]
  refine sm_congr fun y my => ?_
  have hy := Xr_mem.mp my
  have h3 := last_step (A := A) hc hy.1 (fun q => hy.2 (List.mem_singleton.mpr q))
  rw [← h3, ← sm_mul]
  exact sm_congr fun x _ => by grind
theorem station (f : Nat → Int) : sm (List.range n) (fun x => Tr A n x * Ls A n f x) = 0 := by
  have h1 : sm (List.range n) (fun x => Tr A n x * Ls A n f x) = sm (List.range n) (fun x => sm (List.range n) (fun y => Tr A n x * A x y * f y)) - sm (List.range n) (fun x => sm (List.range n) (fun y => Tr A n x * A x y * f x)) := by
    have e : ∀ a b c : Int, a = b + -c → a = b - c := fun a b c h => by omega
    apply e
    rw [← sm_neg, ← sm_add]
    refine sm_congr fun x _ => ?_
    rw [← sm_mulL, ← sm_neg, ← sm_add]
    exact sm_congr fun y _ => by grind
  have h2 : sm (List.range n) (fun x => sm (List.range n) (fun y => Tr A n x * A x y * f y)) = sm (List.range n) (fun x => sm (List.range n) (fun y => Tr A n x * A x y * f x)) := by
    rw [sm_comm]
    refine sm_congr fun c mc => ?_
    rw [sm_mul, sm_mul, flow (List.mem_range.mp mc)]
  rw [h1, h2]; omega
/-- the long from v to c -/
def Lg (A : Gr) (n : Nat) (R : List Nat) (v : Nat) : Int := if v ∈ R then 0 else sm (Xr n R) (fun z => PX A n (z :: R) z v)
theorem Lg_sm {c : Nat} (hc : c < n) (v : Nat) : Lg A n [c] v = sm (Xr n [c]) (fun z => PX A n [z, c] z v) := by
  unfold Lg
  by_cases e : v ∈ [c]
  · rw [if_pos e]
    have e2 := List.mem_singleton.mp e
    subst e2
    exact (sm_zero fun z mz => by
      have hz := Xr_mem.mp mz
      have zv : z ≠ v := fun q => hz.2 (List.mem_singleton.mpr q)
      rw [PX_root (rt2 hz.1 hc zv) (x := v) (by simp), if_neg (fun q => zv q.symm)]).symm
  · rw [if_neg e]
theorem Ls_long {c u : Nat} (hc : c < n) (hu : u < n) : Ls A n (Lg A n [c]) u = (if u = c then sm (List.range n) (Tr A n) else 0) - Tr A n c := by
  have e1 : Ls A n (Lg A n [c]) u = Ls A n (fun v => sm (Xr n [c]) (fun z => PX A n [z, c] z v)) u := Ls_congr hu fun v _ => Lg_sm hc v
  rw [e1, Ls_sm (fun z v => PX A n [z, c] z v)]
  by_cases e : u = c
  · subst e
    rw [if_pos rfl, range_one hc]
    have e2 : sm (Xr n [u]) (fun z => Ls A n (fun v => PX A n [z, u] z v) u) = sm (Xr n [u]) (Tr A n) := sm_congr fun z mz => by
      have hz := Xr_mem.mp mz
      exact Ls_e hz.1 hc fun q => hz.2 (List.mem_singleton.mpr q)
    rw [e2]; omega
  · rw [if_neg e]
    have mu : u ∈ Xr n [c] := Xr_mem.mpr ⟨hu, fun m => e (List.mem_singleton.mp m)⟩
    have e2 : sm (Xr n [c]) (fun z => Ls A n (fun v => PX A n [z, c] z v) u) = sm (Xr n [c]) (fun z => if z = u then - Tr A n c else 0) := sm_congr fun z mz => by
      have hz := Xr_mem.mp mz
      have zc : z ≠ c := fun q => hz.2 (List.mem_singleton.mpr q)
      by_cases q : z = u
      · subst q
        rw [if_pos rfl]
        exact Ls_c hz.1 hc zc
      · rw [if_neg q]
        exact Ls_harm (rt2 hz.1 hc zc) (by simp) hu (fun m => by
          rcases List.mem_cons.mp m with r | r
          · exact q r.symm
          · exact e (List.mem_singleton.mp r))
    rw [e2, sm_one (Xr_nd n _) mu]; omega
/-- a row that gains nothing is one number, if there is a tree -/
theorem const_of {f : Nat → Int} {r : Nat} (hr : r < n) (ht : Tr A n r ≠ 0) (h : ∀ u, u < n → Ls A n f u = 0) {u v : Nat} (hu : u < n) (hv : v < n) : f u = f v := by
  have hR := rt1 hr
  have hD : D A (Xr n [r]) [r] ≠ 0 := by rw [D_FS hR.nodup]; exact ht
  have key : ∀ w, w < n → f w - f r = 0 := fun w hw => by
    by_cases e : w = r
    · rw [e]; omega
    · refine uniq (A := A) (X := Xr n [r]) (R := [r]) (f := fun w => f w - f r) hR.nodup hD (fun q m => ?_) (fun x mx => ?_) (Xr_mem.mpr ⟨hw, fun m => e (List.mem_singleton.mp m)⟩)
      · rw [List.mem_singleton] at m
        subst m
        show f q - f q = 0
        omega
      · rw [sm_perm _ hR.perm]
        have hx := Xr_mem.mp mx
        have h2 := h x hx.1
        have e2 : sm (List.range n) (fun y => A x y * (f x - f r - (f y - f r))) = - Ls A n f x := by
          unfold Ls
          rw [← sm_neg]
          exact sm_congr fun y _ => by grind
        rw [e2, h2]; rfl
  have k1 := key u hu
  have k2 := key v hv
  omega
end
end MB
set_option Elab.async false
set_option linter.all false
set_option maxRecDepth 100000
set_option maxHeartbeats 4000000
/-! Mc3: what the pushes of two tables weigh; pushes by shares, by three, by forests. -/
namespace MB
open PySem L2 LW MT LK
section
variable {A A' : Gr} {n : Nat}
/-- either every tree sum is 0, or a row that gains nothing is one number -/
theorem trees_or (f : Nat → Int) (h : ∀ u, u < n → Ls A n f u = 0) : (∀ r, r < n → Tr A n r = 0) ∨ ∀ u v, u < n → v < n → f u = f v := by
  by_cases e : ∃ r, r < n ∧ Tr A n r ≠ 0
  · obtain ⟨r, hr, ht⟩ := e
    exact .inr fun u v hu hv => const_of hr ht h hu hv
  · exact .inl fun r hr => Decidable.not_not.mp fun ht => e ⟨r, hr, ht⟩
theorem weigh (B : Gr) (t f : Nat → Int) : sm (List.range n) (fun a => sm (List.range n) (fun b => t a * (A' a b - A a b) * (f b - f a))) = sm (List.range n) (fun a => t a * Ls A' n f a) - sm (List.range n) (fun a => t a * Ls A n f a) := by
  have e : ∀ a b c : Int, a = b + -c → a = b - c := fun a b c h => by omega
  apply e
  rw [← sm_neg, ← sm_add]
  refine sm_congr fun a _ => ?_
  unfold Ls
  rw [← sm_mulL, ← sm_mulL, ← sm_neg, ← sm_add]
  exact sm_congr fun b _ => by grind
theorem sm_pick {c : Nat} (hc : c < n) (t : Nat → Int) (k : Int) : sm (List.range n) (fun a => t a * (if a = c then k else 0)) = t c * k := by
  have e : sm (List.range n) (fun a => t a * (if a = c then k else 0)) = sm (List.range n) (fun a => if a = c then t c * k else 0) := sm_congr fun a _ => by
    by_cases q : a = c
    · rw [if_pos q, if_pos q, q]
    · rw [if_neg q, if_neg q, Int.mul_zero]
  rw [e, sm_one List.nodup_range (List.mem_range.mpr hc)]
theorem flow_two {c e : Nat} (t : Nat → Int) (hc : c < n) (he : e < n) (h : c ≠ e) : sm (List.range n) (fun a => t a * Ls A n (PX A n [c, e] c) a) = t e * Tr A n c - t c * Tr A n e := by
  have e1 : sm (List.range n) (fun a => t a * Ls A n (PX A n [c, e] c) a) = sm (List.range n) (fun a => t a * (if a = e then Tr A n c else 0) + -(t a * (if a = c then Tr A n e else 0))) := sm_congr fun a m => by
    rw [Ls_two hc he h (List.mem_range.mp m), Int.mul_sub, Int.sub_eq_add_neg]
  rw [e1, sm_add, sm_neg, sm_pick he, sm_pick hc, Int.sub_eq_add_neg]
theorem weigh_old {c e : Nat} (hc : c < n) (he : e < n) (h : c ≠ e) : sm (List.range n) (fun a => sm (List.range n) (fun b => Tr A' n a * (A' a b - A a b) * (PX A n [c, e] c b - PX A n [c, e] c a))) = Tr A' n c * Tr A n e - Tr A' n e * Tr A n c := by
  rw [weigh A, station, flow_two (Tr A' n) hc he h]
  omega
theorem weigh_new {c e : Nat} (hc : c < n) (he : e < n) (h : c ≠ e) : sm (List.range n) (fun a => sm (List.range n) (fun b => Tr A n a * (A' a b - A a b) * (PX A' n [c, e] c b - PX A' n [c, e] c a))) = Tr A' n c * Tr A n e - Tr A' n e * Tr A n c := by
  rw [weigh A, station, flow_two (Tr A n) hc he h, Int.mul_comm (Tr A n e), Int.mul_comm (Tr A n c)]
  omega
theorem Ls_lin3 (f g h : Nat → Int) (a b c : Int) (x : Nat) : Ls A n (fun y => a * f y + b * g y + c * h y) x = a * Ls A n f x + b * Ls A n g x + c * Ls A n h x := by
  have e1 := Ls_lin (A := A) (n := n) (fun y => a * f y + b * g y) h 1 c x
  have e2 := Ls_lin (A := A) (n := n) f g a b x
  have e3 : (fun y => 1 * (a * f y + b * g y) + c * h y) = fun y => a * f y + b * g y + c * h y := funext fun y => by rw [Int.one_mul]
  rw [e3, e2, Int.one_mul] at e1
  exact e1
theorem by_shares {a b c e : Nat} (ha : a < n) (hb : b < n) (hc : c < n) (he : e < n) (h : c ≠ e) : sm (List.range n) (Tr A n) * (PX A n [c, e] c b - PX A n [c, e] c a) = Tr A n e * (Lg A n [c] a - Lg A n [c] b) - Tr A n c * (Lg A n [e] a - Lg A n [e] b) := by
  have hf : ∀ u, u < n → Ls A n (fun y => sm (List.range n) (Tr A n) * PX A n [c, e] c y + Tr A n e * Lg A n [c] y + (- Tr A n c) * Lg A n [e] y) u = 0 := fun u hu => by
    rw [Ls_lin3, Ls_two hc he h hu, Ls_long hc hu, Ls_long he hu]
    by_cases q : u = c
    · rw [if_pos q, if_pos q, if_neg (fun r => h (by rw [← q, r])), if_neg (fun r => h (by rw [← q, r]))]
      grind
    · by_cases r : u = e
      · rw [if_neg q, if_neg q, if_pos r, if_pos r]
        grind
      · rw [if_neg q, if_neg q, if_neg r, if_neg r]
        grind
  rcases trees_or _ hf with z | k
  · rw [sm_zero (l := List.range n) fun r m => z r (List.mem_range.mp m), z c hc, z e he]
    omega
  · have k2 := k b a hb ha
    grind
theorem three {a b c e g : Nat} (ha : a < n) (hb : b < n) (hc : c < n) (he : e < n) (hg : g < n) (hce : c ≠ e) (heg : e ≠ g) (hgc : g ≠ c) :
    Tr A n g * (PX A n [c, e] c b - PX A n [c, e] c a) + Tr A n c * (PX A n [e, g] e b - PX A n [e, g] e a) + Tr A n e * (PX A n [g, c] g b - PX A n [g, c] g a) = 0 := by
  have hf : ∀ u, u < n → Ls A n (fun y => Tr A n g * PX A n [c, e] c y + Tr A n c * PX A n [e, g] e y + Tr A n e * PX A n [g, c] g y) u = 0 := fun u hu => by
    rw [Ls_lin3, Ls_two hc he hce hu, Ls_two he hg heg hu, Ls_two hg hc hgc hu]
    by_cases q1 : u = c
    · subst q1
      rw [if_pos rfl, if_neg hce, if_neg (fun r => hgc r.symm), if_pos rfl]
      grind
    · by_cases q2 : u = e
      · subst q2
        rw [if_pos rfl, if_neg q1, if_pos rfl, if_neg heg]
        grind
      · by_cases q3 : u = g
        · subst q3
          rw [if_neg q1, if_neg q2, if_pos rfl, if_pos rfl]
          grind
        · rw [if_neg q1, if_neg q2, if_neg q3]
          grind
  rcases trees_or _ hf with z | k
  · rw [z c hc, z e he, z g hg]
    omega
  · have k2 := k b a hb ha
    grind
theorem by_forests {a b c e : Nat} (ha : a < n) (hb : b < n) (hc : c < n) (he : e < n) (hce : c ≠ e) (hac : a ≠ c) (hae : a ≠ e) :
    Tr A n a * (PX A n [c, e] c b - PX A n [c, e] c a) = Tr A n e * PX A n [a, c] c b - Tr A n c * PX A n [a, e] e b := by
  have s1 : ∀ y, PX A n [a, c] c y = PX A n [c, a] c y := fun y => PX_swap
  have s2 : ∀ y, PX A n [a, e] e y = PX A n [e, a] e y := fun y => PX_swap
  have hca : c ≠ a := fun r => hac r.symm
  have hea : e ≠ a := fun r => hae r.symm
  have hf : ∀ u, u < n → Ls A n (fun y => Tr A n a * PX A n [c, e] c y + (- Tr A n e) * PX A n [c, a] c y + Tr A n c * PX A n [e, a] e y) u = 0 := fun u hu => by
    rw [Ls_lin3, Ls_two hc he hce hu, Ls_two hc ha hca hu, Ls_two he ha hea hu]
    by_cases q1 : u = c
    · subst q1
      rw [if_pos rfl, if_neg hce, if_neg hca, if_pos rfl]
      grind
    · by_cases q2 : u = e
      · subst q2
        rw [if_pos rfl, if_neg q1, if_pos rfl, if_neg hea]
        grind
      · by_cases q3 : u = a
        · subst q3
          rw [if_neg q1, if_neg q2, if_pos rfl, if_pos rfl]
          grind
        · rw [if_neg q1, if_neg q2, if_neg q3]
          grind
  rw [s1, s2]
  rcases trees_or _ hf with z | k
  · rw [z c hc, z e he, z a ha]
    omega
  · have k2 := k b a hb ha
    have z1 : PX A n [c, a] c a = 0 := by rw [PX_root (rt2 hc ha hca) (x := a) (by simp), if_neg hac]
    have z2 : PX A n [e, a] e a = 0 := by rw [PX_root (rt2 he ha hea) (x := a) (by simp), if_neg hae]
    simp only [z1, z2] at k2
    grind
end
end MB
set_option Elab.async false
set_option linter.all false
set_option maxRecDepth 100000
set_option maxHeartbeats 4000000
/-! Mc4: tree sums, longs, pushes on shares, told by the program. -/
namespace MB
open PySem L2 LW MT LK
/-! ### sizes of numbers -/
def lb (b : Nat) (i : Int) : Prop := i.natAbs < 2 ^ b
theorem lb_nn {i : Int} {b : Nat} (h0 : 0 ≤ i) (h : i < 2 ^ b) : lb b i := by
  unfold lb
  have e : ((2 : Int) ^ b) = ((2 ^ b : Nat) : Int) := by norm_cast
  rw [e] at h
  omega
theorem lb_mono {i : Int} {b c : Nat} (h : lb b i) (hc : b ≤ c) : lb c i := Nat.lt_of_lt_of_le h (Nat.pow_le_pow_right (by decide) hc)
theorem lb_sub {i j : Int} {b : Nat} (hi : lb b i) (hj : lb b j) : lb (b + 1) (i - j) := by
  unfold lb at *
  rw [Nat.pow_succ]
  omega
theorem lb_add {i j : Int} {b : Nat} (hi : lb b i) (hj : lb b j) : lb (b + 1) (i + j) := by
  unfold lb at *
  rw [Nat.pow_succ]
  omega
theorem lb_mul {i j : Int} {a b : Nat} (hi : lb a i) (hj : lb b j) (ha : 0 < a) (hb : 0 < b) (h : a + b < 900000) : mulO i j = some (i * j) ∧ lb (a + b) (i * j) := mul_log ha hb hi hj h
theorem sm_bd {l : List Nat} {t : Nat → Int} {B : Int} (h : ∀ x ∈ l, 0 ≤ t x ∧ t x ≤ B) : 0 ≤ sm l t ∧ sm l t ≤ (l.length : Int) * B := by
  induction l with
  | nil => simp [sm]
  | cons x l ih =>
    have h1 := h x List.mem_cons_self
    have h2 := ih fun y m => h y (List.mem_cons_of_mem _ m)
    rw [sm_cons, List.length_cons]
    have e : ((l.length + 1 : Nat) : Int) * B = (l.length : Int) * B + B := by push_cast; grind
    rw [e]; omega
theorem lb_sm {l : List Nat} {t : Nat → Int} {b : Nat} (h8 : l.length ≤ 8) (h : ∀ x ∈ l, 0 ≤ t x ∧ t x < 2 ^ b) : lb (b + 4) (sm l t) := by
  have h1 := sm_bd (l := l) (t := t) (B := 2 ^ b) fun x m => ⟨(h x m).1, Int.le_of_lt (h x m).2⟩
  have hp : (0 : Int) < 2 ^ b := Int.pow_pos (by decide)
  have h2 : (l.length : Int) * 2 ^ b ≤ 8 * 2 ^ b := Int.mul_le_mul_of_nonneg_right (by omega) (by omega)
  refine lb_nn h1.1 ?_
  have e : (2 : Int) ^ (b + 4) = 2 ^ b * 16 := Int.pow_add 2 b 4
  rw [e]; omega
section
variable {Mx : Int} {n : Nat} {g g' : List (List Int)} {R : List Nat}
theorem Tr_lb (G : Gd Mx n g) (z : Sm Mx n) {x : Nat} (hx : x < n) : lb 4000 (Tr (ga g) n x) := lb_nn (PF_bd G z (rt1 hx)).1 (PF_bd G z (rt1 hx)).2
theorem PX_lb (G : Gd Mx n g) (z : Sm Mx n) (hR : Rt n R) (c x : Nat) : lb 4000 (PX (ga g) n R c x) := lb_nn (PX_bd G z hR c x).1 (PX_bd G z hR c x).2
theorem Xr_len (R : List Nat) : (Xr n R).length ≤ n := by
  unfold Xr
  rw [List.length_reverse]
  exact Xo_len R
theorem Lg_lb (G : Gd Mx n g) (z : Sm Mx n) (hR : Rt n R) (v : Nat) : lb 4004 (Lg (ga g) n R v) := by
  unfold Lg
  by_cases e : v ∈ R
  · rw [if_pos e]
    exact lb_nn (Int.le_refl 0) (Int.pow_pos (by decide))
  · rw [if_neg e]
    refine lb_sm (Nat.le_trans (Xr_len R) z.n8) fun x m => ?_
    have hx := Xr_mem.mp m
    exact PX_bd G z (hR.cons hx.1 hx.2) x v
theorem ga_lb (G : Gd Mx n g) (z : Sm Mx n) (u v : Nat) : lb 101 (ga g u v) := by
  have h1 := G.nn u v
  have h2 := G.le u v
  have h3 := z.mx.2
  refine lb_nn h1 ?_
  have : (2 : Int) ^ 100 < 2 ^ 101 := by decide
  omega
/-! ### sums over roots -/
theorem forest_sum_ok {T : Tab} (G : Gd Mx n g) (z : Sm Mx n) (hT : T.rows = g) (hS : T.size = (n : Int)) (hR : Rt n R) (hne : R ≠ []) : M.forest_sum_Tti T (zs R) = some (PF (ga g) n R fun _ => 1) := by
  have h8 := z.n8
  have hl8 : R.length ≤ n := by
    have := nd_len hR.nd (m := List.range n) fun u m => List.mem_range.mpr (hR.lt u m)
    rw [List.length_range] at this
    exact this
  obtain ⟨os', hp, hso⟩ := states_of_ok (n := n) (os := R) hR.nd hR.lt (by omega)
  have hR' : Rt n os' := ⟨hp.nodup_iff.mpr hR.nd, fun r m => hR.lt r (hp.mem_iff.mp m)⟩
  have hl := hp.length_eq
  have hl0 : os'.length ≠ 0 := by
    rw [hl]
    exact fun q => hne (List.length_eq_zero_iff.mp q)
  have hXl := Xo_len (n := n) os'
  unfold M.forest_sum_Tti M.some_states_of_iti
  rw [hS, hso, Option.bind_some, if_neg (by rw [zs_len]; simp only [decide_eq_true_eq]; omega), Option.bind_some, ob (outside_ok hS (by omega)), ob (left_ok G hT (by omega) (fun u m => (Xo_mem.mp m).1) (by omega)), ob (det_left G z hR'), PF_perm hp]
theorem tree_sum_ok {T : Tab} (G : Gd Mx n g) (z : Sm Mx n) (hT : T.rows = g) (hS : T.size = (n : Int)) {x : Nat} (hx : x < n) : M.tree_sum_Ti T (x : Int) = some (Tr (ga g) n x) := by
  have hck : M.check_states_ititti (n : Int) [(x : Int)] [] = some () := check_ok (n := n) (sts := [x]) (ul := []) (fun u m => by rw [List.mem_singleton] at m; rw [m]; exact hx) (fun p m => by simp at m)
  have hf : M.forest_sum_Tti T [(x : Int)] = some (Tr (ga g) n x) := forest_sum_ok G z hT hS (rt1 hx) (by simp)
  unfold M.tree_sum_Ti
  rw [hS, ob hck, ob hf]
theorem ratio_gap_ok {T T' : Tab} {Mx' : Int} (G : Gd Mx n g) (z : Sm Mx n) (G' : Gd Mx' n g') (z' : Sm Mx' n) (hT : T.rows = g) (hS : T.size = (n : Int)) (hT' : T'.rows = g') (hS' : T'.size = (n : Int)) {c e : Nat} (hc : c < n) (he : e < n) (hce : c ≠ e) :
    M.ratio_gap_TTii T T' (c : Int) (e : Int) = some (Tr (ga g') n c * Tr (ga g) n e - Tr (ga g') n e * Tr (ga g) n c) := by
  have hck : M.check_states_ititti (n : Int) [(c : Int), (e : Int)] [[(0 : Int), (1 : Int)]] = some () := check_ok (n := n) (sts := [c, e]) (ul := [(0, 1)]) (rt2 hc he hce).lt (fun p m => by
    rw [List.mem_singleton] at m; subst m; exact ⟨c, e, rfl, rfl, hce⟩)
  have h2 : M.two_sized_TT T T' = some (n : Int) := by
    unfold M.two_sized_TT
    rw [hS, hS', decide_eq_true rfl]; rfl
  unfold M.ratio_gap_TTii
  rw [ob h2, ob hck, ob (tree_sum_ok G' z' hT' hS' hc), ob (tree_sum_ok G z hT hS he), ob (lb_mul (Tr_lb G' z' hc) (Tr_lb G z he) (by decide) (by decide) (by decide)).1, ob (tree_sum_ok G' z' hT' hS' he), ob (tree_sum_ok G z hT hS hc), ob (lb_mul (Tr_lb G' z' he) (Tr_lb G z hc) (by decide) (by decide) (by decide)).1]
/-! ### longs -/
def urow (g : List (List Int)) (Xs : List Nat) (p : Nat) (u : Nat) : List Int := (lrow g Xs u).set p 1
theorem urow_det (G : Gd Mx n g) (hR : Rt n R) {p x : Nat} (hx : (Xo n R)[p]? = some x) : det ((Xo n R).map (urow g (Xo n R) p)).reverse (cs (Xo n R).length) = Lg (ga g) n R x := by
  have nd : (Xo n R).Nodup := List.nodup_range.filter _
  obtain ⟨hp, hpx⟩ := List.getElem?_eq_some_iff.mp hx
  have mx : x ∈ Xr n R := List.mem_reverse.mpr (List.mem_of_getElem? hx)
  have e := det_lab (Xo n R) (urow g (Xo n R) p) (up (lc (ga g) (Xr n R ++ R)) x (fun _ => 1)) fun u mu j w hw => by
    obtain ⟨hj, hjw⟩ := List.getElem?_eq_some_iff.mp hw
    by_cases e : j = p
    · subst e
      have ew : w = x := by rw [hw] at hx; exact Option.some.inj hx
      subst ew
      rw [up_same]
      unfold urow cl
      rw [List.getD_eq_getElem?_getD, List.getElem?_set_self (by unfold lrow; rw [List.length_map]; exact hp)]; rfl
    · have ew : w ≠ x := fun ew => e (L2.nd_ix nd (x := x) (by rw [hw, ew]) hx)
      rw [up_ne ew]
      have e1 : cl j (urow g (Xo n R) p u) = cl j (lrow g (Xo n R) u) := by
        unfold urow cl
        rw [List.getD_eq_getElem?_getD, List.getElem?_set_ne (fun q => e q.symm), ← List.getD_eq_getElem?_getD]
      rw [e1]
      unfold lrow
      rw [cl_map hw]
      unfold lc
      by_cases e : u = w
      · rw [if_pos e, if_pos e]
        exact G.dg hR (Xr_mem.mp (List.mem_reverse.mpr mu)).1
      · rw [if_neg e, if_neg e]
  rw [e]
  have e2 := det_own (A := ga g) hR mx (fun _ => 1)
  unfold Lg
  rw [if_neg (Xr_mem.mp mx).2]
  refine e2.trans (sm_congr fun z _ => Int.one_mul _)
theorem urow_bnd (G : Gd Mx n g) (z : Sm Mx n) {Xs : List Nat} {u p : Nat} (hu : u < n) : Bnd BB (urow g Xs p u) := fun j => by
  have hb := lrow_bnd (Xs := Xs) G z hu j
  by_cases e : j = p
  · subst e
    by_cases h : j < (lrow g Xs u).length
    · have e : cl j (urow g Xs j u) = 1 := by
        unfold urow cl
        rw [List.getD_eq_getElem?_getD, List.getElem?_set_self h]; rfl
      rw [e]; decide
    · have e : cl j (urow g Xs j u) = 0 := by
        unfold urow cl
        rw [List.getD_eq_getElem?_getD, List.getElem?_eq_none (by rw [List.length_set]; omega)]; rfl
      rw [e]; decide
  · have e1 : cl j (urow g Xs p u) = cl j (lrow g Xs u) := by
      unfold urow cl
      rw [List.getD_eq_getElem?_getD, List.getElem?_set_ne (fun q => e q.symm), ← List.getD_eq_getElem?_getD]
    rw [e1]; exact hb
theorem det_urow (G : Gd Mx n g) (z : Sm Mx n) (hR : Rt n R) {p x : Nat} (hx : (Xo n R)[p]? = some x) : M.determinant_lli ((Xo n R).map (urow g (Xo n R) p)) = some (Lg (ga g) n R x) := by
  have hl := Xo_len (n := n) R
  have h8 := z.n8
  rw [det_any (by rw [List.length_map]; omega) (fun r mr => ?_) (fun r mr => ?_)]
  · rw [List.length_map, urow_det G hR hx]
  · rw [List.mem_map] at mr
    obtain ⟨u, _, rfl⟩ := mr
    unfold urow lrow
    rw [List.length_set, List.length_map, List.length_map]
  · rw [List.mem_map] at mr
    obtain ⟨u, mu, rfl⟩ := mr
    exact urow_bnd G z (Xo_mem.mp mu).1
theorem idx_zs : ∀ {Xs : List Nat} {i u : Nat}, Xs.Nodup → Xs[i]? = some u → idxO (zs Xs) (u : Int) = some (i : Int)
  | [], _, _, _, h => by simp at h
  | y :: Xs, 0, u, hn, h => by
    have e : y = u := by simpa using h
    show (if (y : Int) = (u : Int) then _ else _) = _
    rw [if_pos (by rw [e])]; rfl
  | y :: Xs, i + 1, u, hn, h => by
    have h2 : Xs[i]? = some u := by simpa using h
    have hn2 := List.nodup_cons.mp hn
    have e : y ≠ u := fun q => hn2.1 (by rw [q]; exact List.mem_of_getElem? h2)
    show (if (y : Int) = (u : Int) then _ else (idxO (zs Xs) (u : Int)).map fun k => k + 1) = _
    rw [if_neg (by omega), idx_zs hn2.2 h2]; rfl
theorem long_past_ok {T : Tab} (G : Gd Mx n g) (z : Sm Mx n) (hT : T.rows = g) (hS : T.size = (n : Int)) (hR : Rt n R) {x : Nat} (hx : x < n) : M.long_past_Ttii T (zs R) (x : Int) = some (Lg (ga g) n R x) := by
  have h8 := z.n8
  have hXl := Xo_len (n := n) R
  have nd : (Xo n R).Nodup := List.nodup_range.filter _
  unfold M.long_past_Ttii
  by_cases e : x ∈ R
  · rw [if_pos (decide_eq_true (zs_mem.mpr e))]
    unfold Lg
    rw [if_pos e]
  · rw [if_neg (fun q => e (zs_mem.mp (of_decide_eq_true q))), hS, ob (rngO_nat n (by omega)), ob (lnO_eq (by rw [zs_len, List.length_range]; omega)), lt_eq, lt_eq]
    have er : ((zs (List.range n)).filter fun y_ => (!(decide (y_ ∈ zs R)))).map (fun y_ => y_) = zs (Xo n R) := by
      rw [List.map_id']
      unfold Xo zs
      rw [List.filter_map]
      have e : (List.range n).filter ((fun x_ => !decide (x_ ∈ List.map (fun (i : Nat) => (i : Int)) R)) ∘ fun (i : Nat) => (i : Int)) = (List.range n).filter fun x => decide (x ∉ R) := List.filter_congr fun x _ => by
        show (!decide ((x : Int) ∈ zs R)) = decide (x ∉ R)
        by_cases e : x ∈ R
        · rw [decide_eq_true (zs_mem.mpr e), decide_eq_false (by simpa using e)]; rfl
        · rw [decide_eq_false (fun m => e (zs_mem.mp m)), decide_eq_true e]; rfl
      rw [e]
    rw [er]
    have mx : x ∈ Xo n R := Xo_mem.mpr ⟨hx, e⟩
    obtain ⟨p, hp⟩ := List.getElem?_of_mem mx
    obtain ⟨b, e1, e2⟩ := forO_inv (step := M.long_past_Ttii_l1 T (x : Int) (zs (Xo n R))) (fun i rs => rs = ((Xo n R).take i).map (urow g (Xo n R) p)) (xs := zs (Xo n R)) (k := 0) (b := []) (by simp) (fun i y rs hy hrs => by
      simp only [Nat.zero_add] at hrs ⊢
      obtain ⟨u, hu, rfl⟩ := zs_get hy
      have hi := (List.getElem?_eq_some_iff.mp hu).1
      have hun : u < n := (Xo_mem.mp (List.mem_of_getElem? hu)).1
      have hm : mapO (fun z_ => (Option.bind (atI T.rows (u : Int)) fun t9 => Option.bind (atI t9 z_) fun t10 => some ((-t10)))) (zs (Xo n R)) = some ((Xo n R).map fun w => - ga g u w) := mapO_zs fun w mw => by
        rw [hT, ob (G.at_ hun), ob (G.at2 hun (Xo_mem.mp mw).1)]
      have hset : (List.map (fun w => - ga g u w) (Xo n R)).set i (rw_ g u).sum = lrow g (Xo n R) u := by
        refine List.ext_getElem? fun j => ?_
        unfold lrow
        by_cases q : j = i
        · subst q
          rw [List.getElem?_set_self (by rw [List.length_map]; exact hi), List.getElem?_map, hu]
          show _ = some (if u = u then _ else _)
          rw [if_pos rfl]
        · rw [List.getElem?_set_ne (fun r => q r.symm), List.getElem?_map, List.getElem?_map]
          cases hj : (Xo n R)[j]? with
          | none => rfl
          | some w =>
            have uw : u ≠ w := fun r => q (L2.nd_ix nd (x := w) hj (by rw [← r]; exact hu))
            show some (- ga g u w) = some (if u = w then _ else _)
            rw [if_neg uw]
      have hrl : rs.length ≤ 8 := by rw [hrs, List.length_map, List.length_take]; omega
      rw [M.long_past_Ttii_l1, ob (lnO_eq (by rw [zs_len]; omega)), ob hm, hT, ob (G.at_ hun), ob (idx_zs nd hu), ob (setO_nat (by rw [List.length_map]; exact hi)), hset, ob (idx_zs nd hp), ob (setO_nat (by unfold lrow; rw [List.length_map]; exact (List.getElem?_eq_some_iff.mp hp).1)), ob (appO_eq (by omega))]
      refine ⟨_, rfl, ?_⟩
      rw [hrs, List.take_succ, hu]
      simp [urow])
    rw [ob e1, e2]
    have eL : 0 + (zs (Xo n R)).length = (Xo n R).length := by rw [zs_len, Nat.zero_add]
    rw [eL, List.take_length, ob (det_urow G z hR hp)]
theorem share_push_ok {T : Tab} (G : Gd Mx n g) (z : Sm Mx n) (hT : T.rows = g) (hS : T.size = (n : Int)) {a b c : Nat} (ha : a < n) (hb : b < n) (hab : a ≠ b) (hc : c < n) : M.share_push_Tiii T (a : Int) (b : Int) (c : Int) = some (Lg (ga g) n [c] a - Lg (ga g) n [c] b) := by
  have hck : M.check_states_ititti (n : Int) [(a : Int), (b : Int), (c : Int)] [[(0 : Int), (1 : Int)]] = some () := check_ok (n := n) (sts := [a, b, c]) (ul := [(0, 1)]) (fun u m => by
    simp at m
    rcases m with rfl | rfl | rfl <;> assumption) (fun p m => by
    rw [List.mem_singleton] at m; subst m; exact ⟨a, b, rfl, rfl, hab⟩)
  have h1 : M.long_past_Ttii T [(c : Int)] (a : Int) = some (Lg (ga g) n [c] a) := long_past_ok G z hT hS (rt1 hc) ha
  have h2 : M.long_past_Ttii T [(c : Int)] (b : Int) = some (Lg (ga g) n [c] b) := long_past_ok G z hT hS (rt1 hc) hb
  unfold M.share_push_Tiii
  rw [hS, ob hck, ob h1, ob h2]
theorem share_pushes_ok {T : Tab} (G : Gd Mx n g) (z : Sm Mx n) (hT : T.rows = g) (hS : T.size = (n : Int)) {a b : Nat} (ha : a < n) (hb : b < n) (hab : a ≠ b) : M.share_pushes_Tii T (a : Int) (b : Int) = some ((List.range n).map fun c => Lg (ga g) n [c] a - Lg (ga g) n [c] b) := by
  have h8 := z.n8
  have hck : M.check_states_ititti (n : Int) [(a : Int), (b : Int)] [[(0 : Int), (1 : Int)]] = some () := check_ok (n := n) (sts := [a, b]) (ul := [(0, 1)]) (fun u m => by
    simp at m
    rcases m with rfl | rfl <;> assumption) (fun p m => by
    rw [List.mem_singleton] at m; subst m; exact ⟨a, b, rfl, rfl, hab⟩)
  unfold M.share_pushes_Tii
  rw [hS, ob hck, ob (rngO_nat n (by omega)), ob (lnO_eq (by rw [zs_len, List.length_range]; omega)), ob (mapO_zs (h := fun c => Lg (ga g) n [c] a - Lg (ga g) n [c] b) fun c mc => by rw [ob (share_push_ok G z hT hS ha hb hab (List.mem_range.mp mc))])]
/-! ### the law's tree sums -/
theorem tree_row_ok (G : Gd Mx n g) (z : Sm Mx n) (hN : n ^ n < 1000000) : M.tree_row_lli g = some ((List.range n).map (Tr (ga g) n)) := by
  have h8 := z.n8
  have gl : ((g.length : Nat) : Int) = (n : Int) := by rw [G.len]
  unfold M.tree_row_lli
  rw [gl, ob (rngO_nat n (by omega)), ob (lnO_eq (by rw [zs_len, List.length_range]; omega)), ob (mapO_zs (h := Tr (ga g) n) fun x mx => ?_)]
  have h : M.sum_llililti g (zs [x]) [] = some (Tr (ga g) n x) := sum_all_ok G z (rt1 (List.mem_range.mp mx)) hN
  have h2 : M.sum_llililti g [(x : Int)] [] = some (Tr (ga g) n x) := h
  rw [ob h2]
end
end MB
set_option Elab.async false
set_option linter.all false
set_option maxRecDepth 100000
set_option maxHeartbeats 4000000
/-! Mc5: law k18 says true. -/
namespace MB
open PySem L2 LW MT LK
theorem W.out {β : Type} {m : Option β} {x : β} (h : W m fun b => b = x) : m = Option.some x := by
  obtain ⟨b, e, rfl⟩ := h
  exact e
theorem W.f {β : Type} {A B : Option β} {Q : β → Prop} (h : W B Q) : W (if false = true then A else B) Q := h
theorem W.nf {β : Type} {A B : Option β} {Q : β → Prop} (h : W B Q) : W (if (!true) = true then A else B) Q := h
theorem W.nx {β ρ τ : Type} {b : β} {k : ρ → Option τ} {f : β → Option τ} {Q : τ → Prop} (h : W (f b) Q) : W (ctl (.nx b) k f) Q := h
theorem W.nd {α β : Type} [DecidableEq α] {x y : α} {A B : Option β} {Q : β → Prop} (e : x = y) (h : W B Q) : W (if (!(decide (x = y))) = true then A else B) Q := by
  rw [decide_eq_true e]
  exact h
theorem forO_acc {step : Int → Int → Option Int} {t : Nat → Int} : ∀ {L : List Nat} {b : Int}, (∀ u ∈ L, ∀ b, step (u : Int) b = some (b + t u)) → forO step (zs L) b = some (b + sm L t)
  | [], b, _ => by
    show some b = _
    rw [sm_nil, Int.add_zero]
  | u :: L, b, h => by
    show Option.bind (step (u : Int) b) (fun b => forO step (zs L) b) = _
    rw [ob (h u List.mem_cons_self b), forO_acc fun v m => h v (List.mem_cons_of_mem _ m), sm_cons, Int.add_assoc]
section
variable {Mx Mx' : Int} {n : Nat} {g g' : List (List Int)} {R : List Nat}
theorem weighed_ok {t P : Nat → Int} (G : Gd Mx n g) (z : Sm Mx n) (G' : Gd Mx' n g') (z' : Sm Mx' n) (ht : ∀ x, x < n → lb 4000 (t x)) (hP : ∀ x, x < n → lb 4000 (P x)) :
    M.weighed_llillilitti g g' ((List.range n).map t) (drow n P) = some (sm (List.range n) fun a => sm (List.range n) fun b => t a * (ga g' a b - ga g a b) * (P b - P a)) := by
  have h8 := z.n8
  have gl : ((g.length : Nat) : Int) = (n : Int) := by rw [G.len]
  unfold M.weighed_llillilitti
  rw [lt_eq, gl, ob (rngO_nat n (by omega)), ob (forO_acc (t := fun a => sm (List.range n) fun b => t a * (ga g' a b - ga g a b) * (P b - P a)) fun a ma b0 => ?_), Int.zero_add]
  have ha := List.mem_range.mp ma
  rw [M.weighed_llillilitti_l1, gl, ob (rngO_nat n (by omega)), ob (forO_acc (t := fun b => t a * (ga g' a b - ga g a b) * (P b - P a)) fun b mb b1 => ?_)]
  have hb := List.mem_range.mp mb
  have m1 := lb_mul (ht a ha) (lb_sub (ga_lb G' z' a b) (ga_lb G z a b)) (by decide) (by decide) (by decide)
  have m2 := lb_mul m1.2 (lb_sub (hP b hb) (hP a ha)) (by decide) (by decide) (by decide)
  rw [M.weighed_llillilitti_l2, ob (row_at ha), ob (G'.at_ ha), ob (G'.at2 ha hb), ob (G.at_ ha), ob (G.at2 ha hb), ob m1.1, ob (drow_at ha), ob (row_at hb), ob m2.1, lt_eq]
theorem gaps_W {T T' : Tab} (G : Gd Mx n g) (z : Sm Mx n) (G' : Gd Mx' n g') (z' : Sm Mx' n) (hT : T.rows = g) (hS : T.size = (n : Int)) (hT' : T'.rows = g') (hS' : T'.size = (n : Int)) {c e : Nat} (hc : c < n) (he : e < n) (hce : c ≠ e) :
    W (M.gaps_right_TTllillitilili T T' g g' [(c : Int), (e : Int)] ((List.range n).map (Tr (ga g) n)) ((List.range n).map (Tr (ga g') n))) fun b => b = true := by
  have h8 := z.n8
  have hR := rt2 hc he hce
  have w1 := weighed_ok G z G' z' (t := Tr (ga g') n) (P := PX (ga g) n [c, e] c) (fun x hx => Tr_lb G' z' hx) (fun x _ => PX_lb G z hR c x)
  have w2 := weighed_ok G z G' z' (t := Tr (ga g) n) (P := PX (ga g') n [c, e] c) (fun x hx => Tr_lb G z hx) (fun x _ => PX_lb G' z' hR c x)
  rw [weigh_old hc he hce] at w1
  rw [weigh_new hc he hce] at w2
  have r1 := ratio_gap_ok G z G' z' hT hS hT' hS' hc he hce
  have r2 := ratio_gap_ok G' z' G z hT' hS' hT hS hc he hce
  have e2 : Tr (ga g) n c * Tr (ga g') n e - Tr (ga g) n e * Tr (ga g') n c = -(Tr (ga g') n c * Tr (ga g) n e - Tr (ga g') n e * Tr (ga g) n c) := by grind
  rw [e2] at r2
  unfold M.gaps_right_TTllillitilili
  rw [G.len]
  refine W.eq (atI_0 _ _) (W.eq (atI_1 _ _ _) (W.lt ?_))
  refine W.eq (push_rows_ok G z hT hS hc he hce) (W.eq (push_rows_ok G' z' hT' hS' hc he hce) (W.eq (kind_ok h8) ?_))
  refine W.eq (x := false) (by rw [kind_ok h8]; rfl) (W.f ?_)
  refine W.eq (row_at hc) (W.eq (row_at he) (W.eq (lb_mul (Tr_lb G' z' hc) (Tr_lb G z he) (by decide) (by decide) (by decide)).1 ?_))
  refine W.eq (row_at he) (W.eq (row_at hc) (W.eq (lb_mul (Tr_lb G' z' he) (Tr_lb G z hc) (by decide) (by decide) (by decide)).1 (W.lt ?_)))
  refine W.eq w1 ?_
  refine W.eq (x := false) (by rw [w2, decide_eq_true rfl]; exact congrArg some (by rw [decide_eq_true rfl]; rfl)) (W.f ?_)
  refine W.eq r1 ?_
  refine W.eq (x := true) (by rw [r2, decide_eq_true rfl]; exact congrArg some (decide_eq_true rfl)) (W.some rfl)
theorem by_shares_W {T : Tab} (G : Gd Mx n g) (z : Sm Mx n) (hT : T.rows = g) (hS : T.size = (n : Int)) {a b c e : Nat} (ha : a < n) (hb : b < n) (hab : a ≠ b) (hc : c < n) (he : e < n) (hce : c ≠ e) :
    W (M.by_shares_Tiittiliti T (a : Int) (b : Int) (drow n (PX (ga g) n [c, e] c)) ((List.range n).map (Tr (ga g) n)) [(c : Int), (e : Int)]) fun b => b = true := by
  have h8 := z.n8
  have hR := rt2 hc he hce
  have hi : M.ints_tii ((List.range n).map fun c => Lg (ga g) n [c] a - Lg (ga g) n [c] b) (n : Int) = some true := ints_ok (by rw [List.length_map, List.length_range]) h8
  unfold M.by_shares_Tiittiliti
  rw [List.length_map, List.length_range]
  refine W.eq (share_pushes_ok G z hT hS ha hb hab) (W.eq hi (W.nf ?_))
  refine W.eq (atI_1 _ _ _) (W.eq (row_at he) (W.eq (atI_0 _ _) (W.eq (row_at hc) ?_)))
  refine W.eq (lb_mul (Tr_lb G z he) (lb_sub (Lg_lb G z (rt1 hc) a) (Lg_lb G z (rt1 hc) b)) (by decide) (by decide) (by decide)).1 ?_
  refine W.eq (atI_0 _ _) (W.eq (row_at hc) (W.eq (atI_1 _ _ _) (W.eq (row_at he) ?_)))
  refine W.eq (lb_mul (Tr_lb G z hc) (lb_sub (Lg_lb G z (rt1 he) a) (Lg_lb G z (rt1 he) b)) (by decide) (by decide) (by decide)).1 (W.lt ?_)
  refine W.eq (drow_at ha) (W.eq (row_at hb) ?_)
  have hs : lb 4004 (sm (List.range n) (Tr (ga g) n)) := lb_sm (by rw [List.length_range]; exact h8) fun x m => PF_bd G z (rt1 (List.mem_range.mp m))
  refine W.eq (lb_mul hs (lb_sub (PX_lb G z hR c b) (PX_lb G z hR c a)) (by decide) (by decide) (by decide)).1 (W.some ?_)
  exact decide_eq_true (by_shares ha hb hc he hce)
theorem by_forests_W (G : Gd Mx n g) (z : Sm Mx n) (hN : n ^ n < 1000000) {a b c e : Nat} (ha : a < n) (hb : b < n) (hc : c < n) (he : e < n) (hce : c ≠ e) :
    W (M.by_forests_lliiittiliti g (a : Int) (b : Int) (drow n (PX (ga g) n [c, e] c)) ((List.range n).map (Tr (ga g) n)) [(c : Int), (e : Int)]) fun b => b = true := by
  unfold M.by_forests_lliiittiliti
  refine W.eq (atI_0 _ _) (W.eq (atI_1 _ _ _) (W.ite (fun _ => W.some rfl) fun h => ?_))
  rw [Bool.or_eq_false_iff, decide_eq_false_iff_not, decide_eq_false_iff_not] at h
  have hac : a ≠ c := fun q => h.1 (by rw [q])
  have hae : a ≠ e := fun q => h.2 (by rw [q])
  have s1 : M.sum_llililti g [(a : Int), (c : Int)] [[(b : Int), (c : Int)]] = some (PX (ga g) n [a, c] c b) := sum_end_ok G z (R := [a, c]) (rt2 ha hc hac) hN hb
  have s2 : M.sum_llililti g [(a : Int), (e : Int)] [[(b : Int), (e : Int)]] = some (PX (ga g) n [a, e] e b) := sum_end_ok G z (R := [a, e]) (rt2 ha he hae) hN hb
  refine W.eq (row_at he) (W.eq s1 (W.eq (lb_mul (Tr_lb G z he) (PX_lb G z (rt2 ha hc hac) c b) (by decide) (by decide) (by decide)).1 ?_))
  refine W.eq (row_at hc) (W.eq s2 (W.eq (lb_mul (Tr_lb G z hc) (PX_lb G z (rt2 ha he hae) e b) (by decide) (by decide) (by decide)).1 (W.lt ?_)))
  refine W.eq (row_at ha) (W.eq (drow_at ha) (W.eq (row_at hb) ?_))
  refine W.eq (lb_mul (Tr_lb G z ha) (lb_sub (PX_lb G z (rt2 hc he hce) c b) (PX_lb G z (rt2 hc he hce) c a)) (by decide) (by decide) (by decide)).1 (W.some ?_)
  exact decide_eq_true (by_forests ha hb hc he hce hac hae)
theorem three_W {T : Tab} (G : Gd Mx n g) (z : Sm Mx n) (hT : T.rows = g) (hS : T.size = (n : Int)) {a b c e k : Nat} (ha : a < n) (hb : b < n) (hab : a ≠ b) (hc : c < n) (he : e < n) (hk : k < n) (hce : c ≠ e) (hek : e ≠ k) (hkc : k ≠ c) :
    W (M.three_right_Tiiliiii T (a : Int) (b : Int) ((List.range n).map (Tr (ga g) n)) (c : Int) (e : Int) (k : Int)) fun b => b = true := by
  unfold M.three_right_Tiiliiii
  refine W.eq (row_at hk) (W.eq (push_ok G z hT hS ha hb hab hc he hce) ?_)
  refine W.eq (lb_mul (Tr_lb G z hk) (lb_sub (PX_lb G z (rt2 hc he hce) c b) (PX_lb G z (rt2 hc he hce) c a)) (by decide) (by decide) (by decide)).1 ?_
  refine W.eq (row_at hc) (W.eq (push_ok G z hT hS ha hb hab he hk hek) ?_)
  refine W.eq (lb_mul (Tr_lb G z hc) (lb_sub (PX_lb G z (rt2 he hk hek) e b) (PX_lb G z (rt2 he hk hek) e a)) (by decide) (by decide) (by decide)).1 (W.lt ?_)
  refine W.eq (row_at he) (W.eq (push_ok G z hT hS ha hb hab hk hc hkc) ?_)
  refine W.eq (lb_mul (Tr_lb G z he) (lb_sub (PX_lb G z (rt2 hk hc hkc) k b) (PX_lb G z (rt2 hk hc hkc) k a)) (by decide) (by decide) (by decide)).1 (W.some ?_)
  exact decide_eq_true (three ha hb hc he hk hce hek hkc)
/-! ### the grids -/
theorem Gd.weak (G : Gd Mx n g) (h : Mx ≤ Mx') : Gd Mx' n g := ⟨G.len, G.row, G.nn, fun u v => Int.le_trans (G.le u v) h, G.di⟩
theorem same_shape_W {ds : List Int} (G : Gd MX n g) (h2 : 2 ≤ n) (h : n ≤ 8) : W (M.same_shape_lli ds g) fun r => Gd MX n r.1 := by
  unfold M.same_shape_lli
  rw [G.len]
  refine W.bind (empty_W h) fun g0 G0 => ?_
  refine W.rng (by omega) ?_
  refine W.bind (P := fun (r : List (List Int) × List Int) => Gd MX n r.1) (W.forO (fun (r : List (List Int) × List Int) => Gd MX n r.1) G0 fun x mx r hr => ?_) fun r hr => W.some hr
  have hx := zs_rng mx
  obtain ⟨g1, d1⟩ := r
  unfold M.same_shape_lli_l1
  rw [G.len]
  refine W.rng (by omega) ?_
  refine W.bind (P := fun (r : List (List Int) × List Int) => Gd MX n r.1) (W.forO (fun (r : List (List Int) × List Int) => Gd MX n r.1) hr fun y my r hr => ?_) fun r hr => W.some hr
  have hy := zs_rng my
  obtain ⟨g2, d2⟩ := r
  unfold M.same_shape_lli_l2
  obtain ⟨x, rfl⟩ := Int.eq_ofNat_of_zero_le hx.1
  obtain ⟨y, rfl⟩ := Int.eq_ofNat_of_zero_le hy.1
  refine W.eq (G.at_ (by omega)) (W.eq (G.at2 (by omega) (by omega)) (W.ite (fun e => ?_) fun e => W.some hr))
  rw [decide_eq_true_eq] at e
  have xy : x ≠ y := fun q => by rw [q, G.di] at e; omega
  refine W.bind (take_W (by decide)) fun p hp => ?_
  exact W.bind (gset_W hr hx hy ⟨by omega, by show (1 : Int) + p.1 ≤ 10000000; omega⟩ (fun e3 => absurd (by omega) xy)) fun g' G' => W.some G'
abbrev MX2 : Int := 1000000000000
theorem scale_W (G : Gd MX n g) (h : n ≤ 8) : W (mapO (fun line => (Option.bind (lnO 100000 line) fun z26 => some ((line.map fun rate_here => (rate_here * (100000 : Int)))))) g) (Gd MX2 n) := by
  have hrl : ∀ line ∈ g, line.length ≤ 100000 := fun line ml => by
    obtain ⟨i, hi, e⟩ := List.getElem_of_mem ml
    have h1 : rw_ g i = line := by
      unfold rw_
      rw [List.getElem?_eq_getElem hi, e]; rfl
    have h2 := G.row i (by rw [← G.len]; exact hi)
    rw [h1] at h2
    omega
  refine ⟨g.map fun line => line.map fun r => r * 100000, mapO_eq fun line ml => by rw [ob (lnO_eq (hrl line ml))], ?_⟩
  have hr : ∀ u, rw_ (g.map fun line => line.map fun r => r * 100000) u = (rw_ g u).map fun r => r * 100000 := fun u => by
    unfold rw_
    rw [List.getElem?_map]
    cases g[u]? <;> rfl
  have hg : ∀ u v, ga (g.map fun line => line.map fun r => r * 100000) u v = ga g u v * 100000 := fun u v => by
    unfold ga
    rw [hr]
    unfold cl
    rw [List.getD_eq_getElem?_getD, List.getD_eq_getElem?_getD, List.getElem?_map]
    cases (rw_ g u)[v]? <;> rfl
  refine ⟨by rw [List.length_map]; exact G.len, fun u hu => by rw [hr, List.length_map]; exact G.row u hu, fun u v => ?_, fun u v => ?_, fun u => ?_⟩
  · rw [hg]
    have := G.nn u v
    omega
  · rw [hg]
    have h1 : ga g u v ≤ 10000000 := G.le u v
    show ga g u v * 100000 ≤ 1000000000000
    omega
  · rw [hg, G.di]; rfl
end
theorem pow_small {n : Nat} (h2 : 2 ≤ n) (h5 : n ≤ 5) : n ^ n < 1000000 := by
  have e : n = 2 ∨ n = 3 ∨ n = 4 ∨ n = 5 := by omega
  rcases e with rfl | rfl | rfl | rfl <;> decide
theorem law_W {script : List Int} (h : script.length ≤ 63) : W (M.law_fi script) fun b => b = true := by
  unfold M.law_fi
  refine W.bind (draws_W h) fun d0 _ => ?_
  refine W.bind grid_W fun r hr => ?_
  obtain ⟨g0, d1⟩ := r
  replace hr : Gs g0 := hr
  refine W.bind (take_W (by decide)) fun r h0 => ?_
  obtain ⟨t6, d7⟩ := r
  refine W.bind (P := fun (r : List (List Int) × List Int) => Gs r.1) (W.ite (fun _ => ?_) fun _ => W.some hr) fun r hr2 => ?_
  · obtain ⟨m, m2, m5, G⟩ := hr
    show W (Option.bind (M.loose d7 (g0.length : Int)) _) _
    rw [G.len]
    exact W.bind (loose_W m2 (by omega)) fun r hr => W.some ⟨m, m2, m5, hr⟩
  obtain ⟨g2, d⟩ := r
  obtain ⟨n, n2, n5, G2⟩ := hr2
  replace G2 : Gd MX n g2 := G2
  clear hr h0
  refine W.bind (same_shape_W G2 n2 (by omega)) fun r hr => ?_
  obtain ⟨o1, d13⟩ := r
  replace hr : Gd MX n o1 := hr
  refine W.bind (take_W (by decide)) fun r h0 => ?_
  obtain ⟨t15, d16⟩ := r
  refine W.bind (P := fun (r : List (List Int) × List Int) => Gd MX n r.1) (W.ite (fun _ => ?_) fun _ => W.some hr) fun r hr2 => ?_
  · show W (Option.bind (M.loose d16 (g2.length : Int)) _) _
    rw [G2.len]
    exact W.bind (loose_W n2 (by omega)) fun r hr => W.some hr
  obtain ⟨g', d2⟩ := r
  replace hr2 : Gd MX n g' := hr2
  clear hr h0
  refine W.bind (take_W (by decide)) fun r h0 => ?_
  obtain ⟨t21, d22⟩ := r
  refine W.bind (P := fun (r : List (List Int) × List Int) => Gd MX2 n r.1) (W.ite (fun _ => ?_) fun _ => W.some (G2.weak (by decide))) fun r hr => ?_
  · refine W.eq (lnO_eq (by rw [G2.len]; omega)) (W.bind (scale_W G2 (by omega)) fun r hr => W.some hr)
  obtain ⟨g, d3⟩ := r
  have G : Gd MX2 n g := hr
  have G' : Gd MX n g' := hr2
  clear hr h0
  have z : Sm MX2 n := ⟨n2, by omega, by decide⟩
  have z' : Sm MX n := ⟨n2, by omega, by decide⟩
  have hN := pow_small n2 n5
  refine W.lt ?_
  rw [G.len]
  obtain ⟨t, ht⟩ := mkTab_ok G z.n2 z.n8
  obtain ⟨t', ht'⟩ := mkTab_ok G' z'.n2 z'.n8
  refine W.eq (copy_ok (by rw [G.len]; omega)) (W.eq ht (W.eq (copy_ok (by rw [G'.len]; omega)) (W.eq ht' ?_)))
  refine W.bind (pair_W n2) fun r hr => ?_
  obtain ⟨en, d38⟩ := r
  obtain ⟨c, e, q, hc, he, hce⟩ := hr
  replace q : en = [(c : Int), (e : Int)] := q
  subst q
  have q0 : atI [(c : Int), (e : Int)] (0 : Int) = some (c : Int) := atI_0 _ _
  have q1 : atI [(c : Int), (e : Int)] (1 : Int) = some (e : Int) := atI_1 _ _ _
  refine W.bind (take_W (by omega)) fun r hr => ?_
  obtain ⟨a, d41⟩ := r
  replace hr : 0 ≤ a ∧ a < (n : Int) := hr
  obtain ⟨a, rfl⟩ := Int.eq_ofNat_of_zero_le hr.1
  have ha : a < n := by omega
  refine W.eq (tree_row_ok G z hN) (W.eq (tree_row_ok G' z' hN) ?_)
  refine W.eq (gaps_W G z G' z' (T := ⟨g, (n : Int), t⟩) (T' := ⟨g', (n : Int), t'⟩) rfl rfl rfl rfl hc he hce).out (W.nf ?_)
  refine W.eq q0 (W.eq q1 (W.eq (push_rows_ok G z (T := ⟨g, (n : Int), t⟩) rfl rfl hc he hce) ?_))
  refine W.eq (modO_eq (by omega)) ?_
  have b1 : 0 ≤ ((a : Int) + 1) % (n : Int) := Int.emod_nonneg _ (by omega)
  have b2 : ((a : Int) + 1) % (n : Int) < (n : Int) := Int.emod_lt_of_pos _ (by omega)
  generalize ((a : Int) + 1) % (n : Int) = near at b1 b2 ⊢
  obtain ⟨near, rfl⟩ := Int.eq_ofNat_of_zero_le b1
  have hn : near < n := by omega
  have lw := lw_push_ok G z hN ha hn (rt2 hc he hce)
  refine W.eq (drow_at ha) (W.eq (row_at hn) (W.eq q0 (W.eq q1 (W.eq lw (W.nd rfl ?_)))))
  refine W.rng (by omega) ?_
  refine W.eq (x := .nx ()) (forC_nx fun b mb => ?turn) ?rest
  case rest => exact W.some rfl
  unfold zs at mb
  rw [List.mem_map] at mb
  obtain ⟨b, mb, rfl⟩ := mb
  have hb := List.mem_range.mp mb
  refine W.out ?_
  unfold M.law_fi_l1
  have hif : ∀ {X : Option Bool}, (b ≠ a → W X fun r => r = true) → W (if (!(decide ((b : Int) = (a : Int)))) = true then Option.bind X fun t => some (!t) else some false) fun r => r = false := fun h => W.ite (fun q => by
    rw [Bool.not_eq_true', decide_eq_false_iff_not] at q
    exact W.bind (h fun r => q (by rw [r])) fun r hr => W.some (by rw [hr]; rfl)) fun _ => W.some rfl
  refine W.bind (hif fun ba => by_shares_W G z (T := ⟨g, (n : Int), t⟩) rfl rfl ha hb (fun q => ba q.symm) hc he hce) fun r hr => ?_
  subst hr
  refine W.f ?_
  refine W.bind (hif fun ba => by_forests_W G z hN ha hb hc he hce) fun r hr => ?_
  subst hr
  refine W.f ?_
  refine W.rng (by omega) ?_
  refine W.eq (x := .nx ()) (forC_nx fun k mk => ?turn2) ?rest2
  case rest2 => exact W.some rfl
  unfold zs at mk
  rw [List.mem_map] at mk
  obtain ⟨k, mk, rfl⟩ := mk
  have hk := List.mem_range.mp mk
  refine W.out ?_
  unfold M.law_fi_l2
  refine W.bind (P := fun r => r = true → b ≠ a ∧ k ≠ c ∧ k ≠ e) (W.ite (fun q => ?_) fun _ => W.some fun r => Bool.noConfusion r) fun r hr => ?_
  · rw [Bool.not_eq_true', decide_eq_false_iff_not] at q
    refine W.eq q0 ?_
    refine W.bind (P := fun r => r = true → k ≠ c ∧ k ≠ e) (W.ite (fun q2 => ?_) fun _ => W.some fun r => Bool.noConfusion r) fun r hr => W.some fun s => ⟨fun s => q (by rw [s]), hr s⟩
    rw [Bool.not_eq_true', decide_eq_false_iff_not] at q2
    refine W.eq q1 (W.some fun s => ?_)
    rw [Bool.not_eq_true', decide_eq_false_iff_not] at s
    exact ⟨fun r => q2 (by rw [r]), fun r => s (by rw [r])⟩
  · refine W.ite (fun s => ?_) fun _ => W.some rfl
    obtain ⟨h1, h2, h3⟩ := hr s
    refine W.eq q0 (W.eq q1 ?_)
    exact W.eq (three_W G z (T := ⟨g, (n : Int), t⟩) rfl rfl ha hb (fun q => h1 q.symm) hc he hk hce (fun q => h3 q.symm) h2).out (W.nf (W.some rfl))
theorem law_fi_ok {script : List Int} (h : script.length ≤ 63) : M.law_fi script = some true := (law_W h).out
end MB
set_option Elab.async false
set_option linter.all false
set_option maxRecDepth 100000
set_option maxHeartbeats 0
/-! the end of law_k18_either_pushes_tell_one -/
namespace LE
open PySem PySem.Spec PyProof.Rows L2 LW LK
theorem pr_ints {H : Hp} : ∀ ns : List Int, Paired (qI.r H) (ns.map V.int) ns
  | [] => .nil
  | n :: ns => .cons rfl (pr_ints ns)
theorem facts {P : Program} {w : World} {K : PySem.W.Frag} {h : Heap} {mg : Str → Option Value} {f : Addr} (X : K.In h) (G : h.Ns mainGlobals mg) (hfa : mg ("law" : Str) = some (.ref f)) (c : He.SaysD LH.fa LH.fn K) (e : LH.emB LH.em K = true) :
    ∃ (fd : FuncData) (sp : Sp), (∀ (s : Shared) (v : Value), BindsTo s fd ⟨[v], []⟩ [("_law_script", v)]) ∧
      (∀ (H : Hp) (a : Addr) (ns : List Int), ns.length ≤ 63 → Only H → SqL K H a (ns.map V.int) → sp [.ref a] H (fun v _ => v = .bl true) fun _ _ _ => False) ∧ ∀ base : Heap, K.In base → base.Ns mainGlobals mg → FnOk P w K mg base CX0 9 f fd ["_law_script"] sp := by
  have T := LH.top_of X G c e
  obtain ⟨f', fd, hm, hb, F⟩ := (LK.ok_law_fi (P := P) (w' := w) T).ex
  have ef := hfa.symm.trans hm
  cases ef
  refine ⟨fd, _, fun s v => .of_eq (hb [v] rfl), fun H a ns hl _ hS => ?_, fun base _ _ => F base⟩
  refine ⟨H, (ns, ()), true, .refl H, ⟨.ref a, [], rfl, ⟨a, ns.map V.int, rfl, hS, pr_ints ns⟩, rfl⟩, MB.law_fi_ok hl, fun v B' H' _ _ r => r⟩
end LE
open PySem PySem.W PySem.Calls PyProof.Rows in
set_option maxRecDepth 100000 in
set_option maxHeartbeats 0 in
theorem PySem.Challenge.cw_lastingshares_k18_either_pushes_tell_one_holds : PySem.Challenge.rw_lastingshares_k18_either_pushes_tell_one.Holds := by
  w_on; o_law
  refine HandSHeadRun.head_any (r := OpenLaw.row PySem.Challenge.rw_lastingshares_k18_either_pushes_tell_one) (q := view (OpenLaw.row PySem.Challenge.rw_lastingshares_k18_either_pushes_tell_one).prog [76]) (H := LH.hk) (ob := LH.ob) (M := 6000) (loose := LH.names) (d := HandSHeadRun.topDef (OpenLaw.row PySem.Challenge.rw_lastingshares_k18_either_pushes_tell_one).prog 76) (kwd := []) LH.ob_eq
    (by kernel_rfl) (fun s => by kernel_rfl) LH.run (by kernel_rfl) (by kernel_rfl) (by kernel_rfl) (by rfl) (by first | assumption | decide +kernel) (by decide +kernel) ⟨rfl, rfl, rfl, rfl, rfl, by decide +kernel⟩ ?hw ?hc
  case hw => w_witness2
  case hc =>
    refine L2.walk_ofE (l := PySem.Challenge.rw_lastingshares_k18_either_pushes_tell_one) (n := 63) (k := 9) (x := "_law_script") (CX := L2.CX0) rfl (by decide) (by kernel_rfl) ⟨rfl, by decide, by decide⟩ ?F (fun _ _ _ _ z => z)
    intro w mg fa h Y G hmg0
    obtain ⟨K, KX, c, e⟩ := Y
    have hmg : mg ("law" : PySem.Str) = some (.ref fa) := by
      have e : (HandSHeadRun.topDef (OpenLaw.row PySem.Challenge.rw_lastingshares_k18_either_pushes_tell_one).prog 76).name = ("law" : PySem.Str) := by kernel_rfl
      rw [← e]
      exact hmg0
    obtain ⟨fd, sp, hb, hs, hF⟩ := LE.facts (P := (PySem.Challenge.rw_lastingshares_k18_either_pushes_tell_one).prog) (w := w) KX G hmg c e
    exact ⟨K, fd, sp, KX, hb, hs, hF⟩
